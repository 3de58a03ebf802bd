import PyProof.Rows.All
import Wide.All
import OpenK.AllK
import Wide.FinOn
import KE.KStateDown
import HandS.ForMost
import HandS.ForExc
import HandS.Defaults
import HandS.Lambda
import HandS.EndTab
import HandS.Flow
import HandS.Wide
import HandS.Zip
import HandS.Conv
import HandS.TupAny
import HandS.IsInst
import HandS.WideBits
import HandS.Deep
import HandS.Walk
import KE.KTupSum
import HandS.ExcIs
import HandS.ExcOwn
import HandS.ExcInit
import HandS.ExcField
import HandS.HeadHook1
import KE.KExcSuper
import HandS.ExcSuper
import HandS.HeadWalk
import HandS.TryOnly
import HandS.Dict
import HandS.Small
import HandS.HeadHook4
import HandS.HeadEnd
import HandS.Head0
import HandS.Head1
import HandS.Head2
import PySem.Challenge.RW_sumalarms_k51_balanced_streams
set_option Elab.async false
set_option linter.all false
set_option maxRecDepth 100000
set_option maxHeartbeats 4000000
/-! A data layer: values as data, lists and dicts of a def's own as owned data; each def's body read as a predicate transformer over data. -/
namespace DL
open PySem PySem.Spec PyProof.Rows L2

/-! ### data -/
inductive D where
  | non | bl (b : Bool) | int (i : Int) | str (x : Str)
  | tup (ds : List D) | lst (ds : List D)
  | raw (v : V)
  | ins (c : Nat) (ns : List Str) (ds : List D)
  | exc (c : Nat) (ns : List Str) (ds : List D)
  | dic (ks : List Key) (ds : List D)
  | scr (ns : List Int)
  | tok

/-- an exception object, caught: its class, its own dict -/
def ExcO (a C : Addr) (d : Option Addr) : HO := .ext fun h => ∃ (oe : Obj) (vs : Array Value), h.get? a = some oe ∧ Zc (.ref C) d oe ∧ oe.data = .fields vs

/-- what moves behind all defs: the tape of the draws, tables of code objects -/
def Fix : HO → Prop
  | .lst _ => False
  | .dK _ => False
  | .dT _ => False
  | .set _ _ => False
  | .ins _ _ _ => False
  | _ => True
def NT (o : HO) : Prop := ∀ ps, o ≠ .tbl ps
structure Tk where
  ad : List Addr
  ok : Hp → Hp → Prop
  v : Option V
  fr : ∀ F H, ok F H → ∀ a ∈ ad, F a = none ∧ H a ≠ none
  st : ∀ F H F' H', ok F H → Same F F' → (∀ a o, H a = some o → (a ∈ ad ∨ Fix o) → H' a = some o) → (∀ a ∈ ad, F' a = none) → (∀ a o, F' a = some o → F a = none → NT o) → ok F' H'

/-- the classes' addresses, the tokens that are let -/
structure Gv where
  CA : Nat → Addr
  T : Tk → Prop

mutual
def Rep (K : PySem.W.Frag) (g : Gv) (F : Hp) : D → V → Prop
  | .non, v => v = .non
  | .bl b, v => v = .bl b
  | .int i, v => v = .int i
  | .str x, v => v = .str x
  | .tup ds, v => ∃ a vs, v = .ref a ∧ SqT K F a vs ∧ Reps K g F ds vs
  | .lst ds, v => ∃ a vs, v = .ref a ∧ F a = some (.lst vs) ∧ Reps K g F ds vs
  | .raw w, v => v = w
  | .scr ns, v => ∃ a, v = .ref a ∧ SqL K F a (ns.map V.int)
  | .tok, _ => False
  | .ins c ns ds, v => ∃ a dx vs, v = .ref a ∧ F a = some (.ins (g.CA c) dx (ns.zip vs)) ∧ vs.length = ns.length ∧ Reps K g F ds vs
  | .exc c ns ds, v => ∃ a dd vs, v = .ref a ∧ F a = some (ExcO a (g.CA c) dd) ∧ vs.length = ns.length ∧ ((dd = none ∧ ns = []) ∨ ∃ d, dd = some d ∧ F d = some (.xd (ns.zip vs))) ∧ Reps K g F ds vs
  | .dic ks ds, v => ∃ a vs, v = .ref a ∧ F a = some (.dK (ks.zip vs)) ∧ vs.length = ks.length ∧ Reps K g F ds vs
def Reps (K : PySem.W.Frag) (g : Gv) (F : Hp) : List D → List V → Prop
  | [], vs => vs = []
  | d :: ds, vs => ∃ v r, vs = v :: r ∧ Rep K g F d v ∧ Reps K g F ds r
end

section
variable {K : PySem.W.Frag} {g : Gv} {F F' H H' : Hp}
theorem sqT_same {a : Addr} {vs : List V} (e : Same F F') (h : SqT K F a vs) : SqT K F' a vs := by
  rcases h with (h | ⟨o, h⟩) | h
  · exact .inl (.inl (e _ _ h))
  · exact .inl (.inr ⟨o, e _ _ h⟩)
  · exact .inr h
mutual
theorem Rep.mono (e : Same F F') : ∀ {d : D} {v : V}, Rep K g F d v → Rep K g F' d v
  | .non, _, h => by unfold Rep at h ⊢; exact h
  | .bl _, _, h => by unfold Rep at h ⊢; exact h
  | .int _, _, h => by unfold Rep at h ⊢; exact h
  | .str _, _, h => by unfold Rep at h ⊢; exact h
  | .raw _, _, h => by unfold Rep at h ⊢; exact h
  | .tok, _, h => by unfold Rep at h ⊢; exact h
  | .tup ds, _, h => by
    unfold Rep at h ⊢
    obtain ⟨a, vs, h1, h2, h3⟩ := h
    exact ⟨a, vs, h1, sqT_same e h2, Reps.mono e h3⟩
  | .lst ds, _, h => by
    unfold Rep at h ⊢
    obtain ⟨a, vs, h1, h2, h3⟩ := h
    exact ⟨a, vs, h1, e _ _ h2, Reps.mono e h3⟩
  | .scr ns, _, h => by
    unfold Rep at h ⊢
    obtain ⟨a, h1, h2⟩ := h
    exact ⟨a, h1, e.seq h2⟩
  | .ins c ns ds, _, h => by
    unfold Rep at h ⊢
    obtain ⟨a, dx, vs, h1, h2, h3, h4⟩ := h
    exact ⟨a, dx, vs, h1, e _ _ h2, h3, Reps.mono e h4⟩
  | .exc c ns ds, _, h => by
    unfold Rep at h ⊢
    obtain ⟨a, dd, vs, h1, h2, h3, h4, h5⟩ := h
    refine ⟨a, dd, vs, h1, e _ _ h2, h3, ?_, Reps.mono e h5⟩
    rcases h4 with h4 | ⟨d, e1, e2⟩
    · exact .inl h4
    · exact .inr ⟨d, e1, e _ _ e2⟩
  | .dic ks ds, _, h => by
    unfold Rep at h ⊢
    obtain ⟨a, vs, h1, h2, h3, h4⟩ := h
    exact ⟨a, vs, h1, e _ _ h2, h3, Reps.mono e h4⟩
theorem Reps.mono (e : Same F F') : ∀ {ds : List D} {vs : List V}, Reps K g F ds vs → Reps K g F' ds vs
  | [], _, h => by unfold Reps at h ⊢; exact h
  | d :: ds, _, h => by
    unfold Reps at h ⊢
    obtain ⟨v, r, h1, h2, h3⟩ := h
    exact ⟨v, r, h1, Rep.mono e h2, Reps.mono e h3⟩
end
theorem Reps.nil : Reps K g F [] [] := by unfold Reps; rfl
theorem Reps.cons {d : D} {v : V} {ds : List D} {vs : List V} (h : Rep K g F d v) (t : Reps K g F ds vs) : Reps K g F (d :: ds) (v :: vs) := by
  unfold Reps
  exact ⟨v, vs, rfl, h, t⟩
theorem Reps.inv_cons {d : D} {ds : List D} {vs : List V} (h : Reps K g F (d :: ds) vs) : ∃ v r, vs = v :: r ∧ Rep K g F d v ∧ Reps K g F ds r := by
  unfold Reps at h
  exact h
theorem Reps.inv_nil {vs : List V} (h : Reps K g F [] vs) : vs = [] := by
  unfold Reps at h
  exact h
theorem Reps.length : ∀ {ds : List D} {vs : List V}, Reps K g F ds vs → vs.length = ds.length
  | [], _, h => by rw [h.inv_nil]; rfl
  | d :: ds, _, h => by
    obtain ⟨v, r, rfl, _, t⟩ := h.inv_cons
    rw [List.length_cons, List.length_cons, Reps.length t]
theorem Reps.get : ∀ {ds : List D} {vs : List V} {i : Nat} {d : D}, Reps K g F ds vs → ds[i]? = some d → ∃ v, vs[i]? = some v ∧ Rep K g F d v
  | [], _, i, d, _, e => by simp at e
  | x :: ds, _, 0, d, h, e => by
    obtain ⟨v, r, rfl, q, _⟩ := h.inv_cons
    simp at e
    subst e
    exact ⟨v, rfl, q⟩
  | x :: ds, _, i + 1, d, h, e => by
    obtain ⟨v, r, rfl, _, t⟩ := h.inv_cons
    obtain ⟨w, e1, e2⟩ := Reps.get (i := i) t (by simpa using e)
    exact ⟨w, by simpa using e1, e2⟩
theorem Reps.getV : ∀ {ds : List D} {vs : List V} {i : Nat} {v : V}, Reps K g F ds vs → vs[i]? = some v → ∃ d, ds[i]? = some d ∧ Rep K g F d v
  | [], _, i, v, h, e => by rw [h.inv_nil] at e; simp at e
  | x :: ds, _, 0, v, h, e => by
    obtain ⟨w, r, rfl, q, _⟩ := h.inv_cons
    simp at e
    subst e
    exact ⟨x, rfl, q⟩
  | x :: ds, _, i + 1, v, h, e => by
    obtain ⟨w, r, rfl, _, t⟩ := h.inv_cons
    obtain ⟨d, e1, e2⟩ := Reps.getV (i := i) t (by simpa using e)
    exact ⟨d, by simpa using e1, e2⟩
theorem Reps.append : ∀ {ds es : List D} {vs ws : List V}, Reps K g F ds vs → Reps K g F es ws → Reps K g F (ds ++ es) (vs ++ ws)
  | [], _, _, _, h, k => by rw [h.inv_nil]; exact k
  | d :: ds, _, _, _, h, k => by
    obtain ⟨v, r, rfl, q, t⟩ := h.inv_cons
    exact .cons q (Reps.append t k)
theorem Reps.drop : ∀ {ds : List D} {vs : List V} (n : Nat), Reps K g F ds vs → Reps K g F (ds.drop n) (vs.drop n)
  | _, _, 0, h => h
  | [], _, n + 1, h => by rw [h.inv_nil]; exact .nil
  | d :: ds, _, n + 1, h => by
    obtain ⟨v, r, rfl, _, t⟩ := h.inv_cons
    exact Reps.drop n t
theorem Reps.take : ∀ {ds : List D} {vs : List V} (n : Nat), Reps K g F ds vs → Reps K g F (ds.take n) (vs.take n)
  | _, _, 0, _ => .nil
  | [], _, n + 1, h => by rw [h.inv_nil]; exact .nil
  | d :: ds, _, n + 1, h => by
    obtain ⟨v, r, rfl, q, t⟩ := h.inv_cons
    exact .cons q (Reps.take n t)
theorem Reps.set {d : D} {v : V} (q : Rep K g F d v) : ∀ {ds : List D} {vs : List V} (i : Nat), Reps K g F ds vs → Reps K g F (ds.set i d) (vs.set i v)
  | [], _, i, h => by rw [h.inv_nil]; exact .nil
  | x :: ds, _, 0, h => by
    obtain ⟨w, r, rfl, _, t⟩ := h.inv_cons
    exact .cons q t
  | x :: ds, _, i + 1, h => by
    obtain ⟨w, r, rfl, z, t⟩ := h.inv_cons
    exact .cons z (Reps.set q i t)
theorem Reps.ints : ∀ {ns : List Int} {vs : List V}, Reps K g F (ns.map D.int) vs → vs = ns.map V.int
  | [], _, h => h.inv_nil
  | n :: ns, _, h => by
    obtain ⟨v, r, rfl, q, t⟩ := h.inv_cons
    unfold Rep at q
    rw [q, Reps.ints t]
    rfl
theorem Reps.of_ints : ∀ (ns : List Int), Reps K g F (ns.map D.int) (ns.map V.int)
  | [] => .nil
  | n :: ns => .cons (by unfold Rep; rfl) (Reps.of_ints ns)
end

/-! ### steps of the two heaps: F what stands still, H all -/
/-- nothing stands there, but a code object's table perhaps -/
def Nf (H : Hp) (p : Addr) : Prop := ∀ o, H p = some o → ¬ NT o
theorem Nf.of {H : Hp} {p : Addr} (h : H p = none) : Nf H p := fun o e => by
  rw [h] at e
  cases e
structure Step (tk : Tk) (F H F' H' : Hp) : Prop where
  fr : Same F F'
  nw : ∀ a o, F' a = some o → F a = none → Nf H a
  kp : ∀ a o, H a = some o → a ∉ tk.ad → NT o → H' a = some o
  ad : ∀ a o, H a = some o → NT o → ∃ o', H' a = some o' ∧ NT o'
theorem Step.refl (tk : Tk) (F H : Hp) : Step tk F H F H := ⟨Same.refl _, fun _ _ e n => by (rw [n] at e; cases e), fun _ _ e _ _ => e, fun _ o e n => ⟨o, e, n⟩⟩
theorem Step.trans {tk : Tk} {F H F1 H1 F2 H2 : Hp} (a : Step tk F H F1 H1) (b : Step tk F1 H1 F2 H2) : Step tk F H F2 H2 := by
  refine ⟨a.fr.trans b.fr, fun x o e n => ?_, fun x o e n t => b.kp x o (a.kp x o e n t) n t, fun x o e n => let ⟨o', e', n'⟩ := a.ad x o e n; b.ad x o' e' n'⟩
  cases q : F1 x with
  | some u => exact a.nw x u q n
  | none =>
    have z := b.nw x o e q
    intro u r n
    obtain ⟨o', e', n'⟩ := a.ad x u r n
    exact z o' e' n'
/-- a new object that stands still -/
theorem Step.new {tk : Tk} {F H : Hp} {p : Addr} {o : HO} (hp : H p = none) (sub : Same F H) : Step tk F H (upd F p o) (upd H p o) := by
  have hF : F p = none := sub.free hp
  refine ⟨fun a u e => ?_, fun a u e n => ?_, fun a u e _ _ => ?_, fun a u e n => ⟨u, by rw [upd_ne (ne_of_none e hp)]; exact e, n⟩⟩
  · rw [upd_ne (ne_of_none e hF)]
    exact e
  · by_cases h : a = p
    · rw [h]
      exact .of hp
    · rw [upd_ne h] at e
      rw [e] at n
      cases n
  · rw [upd_ne (ne_of_none e hp)]
    exact e
/-- a new object of one's own -/
theorem Step.own {tk : Tk} {F H : Hp} {p : Addr} {o : HO} (hp : H p = none) : Step tk F H F (upd H p o) := by
  refine ⟨Same.refl _, fun a u e n => by (rw [n] at e; cases e), fun a u e _ _ => ?_, fun a u e n => ⟨u, by rw [upd_ne (ne_of_none e hp)]; exact e, n⟩⟩
  · rw [upd_ne (ne_of_none e hp)]
    exact e
/-- what was one's own stands still from now on -/
theorem Step.freeze {tk : Tk} {F H : Hp} {p : Addr} {o : HO} (hF : F p = none) : Same F (upd F p o) := fun a u e => by
  rw [upd_ne (ne_of_none e hF)]
  exact e
theorem same_upd {F H : Hp} {p : Addr} {o : HO} (sub : Same F H) (hp : H p = some o) : Same (upd F p o) H := fun a u e => by
  by_cases h : a = p
  · subst h
    rw [upd_same] at e
    cases e
    exact hp
  · rw [upd_ne h] at e
    exact sub a u e

/-! ### values of a def: what stands still, one's own new list or dict, a look at one's own, the token -/
inductive S where
  | fr (d : D) | nw (d : D) | bw (d : D) | tk
def S.view : S → D
  | .fr d => d
  | .nw d => d
  | .bw d => d
  | .tk => .tok
/-- at p a list or dict of one's own -/
def Own (K : PySem.W.Frag) (g : Gv) (F H : Hp) (p : Addr) : D → Prop
  | .lst ds => ∃ vs, H p = some (.lst vs) ∧ Reps K g F ds vs
  | .dic ks ds => ∃ vs, H p = some (.dK (ks.zip vs)) ∧ vs.length = ks.length ∧ Reps K g F ds vs
  | _ => False
theorem Own.at_ {K : PySem.W.Frag} {g : Gv} {F H : Hp} {p : Addr} {d : D} (h : Own K g F H p d) : ¬ Nf H p := fun z => by
  cases d with
  | lst ds =>
    obtain ⟨vs, e, _⟩ := h
    exact z _ e fun ps q => nomatch q
  | dic ks ds =>
    obtain ⟨vs, e, _⟩ := h
    exact z _ e fun ps q => nomatch q
  | _ => exact h.elim
theorem Own.there {K : PySem.W.Frag} {g : Gv} {F H : Hp} {p : Addr} {d : D} (h : Own K g F H p d) : H p ≠ none := fun z => h.at_ (.of z)
theorem Own.mono {K : PySem.W.Frag} {g : Gv} {F H F' H' : Hp} {p : Addr} {d : D} (e : Same F F') (hp : ∀ o, H p = some o → NT o → H' p = some o) (h : Own K g F H p d) : Own K g F' H' p d := by
  cases d with
  | lst ds =>
    obtain ⟨vs, q, r⟩ := h
    exact ⟨vs, hp _ q (fun ps z => nomatch z), r.mono e⟩
  | dic ks ds =>
    obtain ⟨vs, q, l, r⟩ := h
    exact ⟨vs, hp _ q (fun ps z => nomatch z), l, r.mono e⟩
  | _ => exact h.elim
/-- it may stand still from now on -/
theorem Own.rep {K : PySem.W.Frag} {g : Gv} {F H : Hp} {p : Addr} {d : D} (hF : F p = none) (h : Own K g F H p d) : ∃ o, H p = some o ∧ NT o ∧ Rep K g (upd F p o) d (.ref p) := by
  cases d with
  | lst ds =>
    obtain ⟨vs, q, r⟩ := h
    refine ⟨_, q, (fun ps z => nomatch z), ?_⟩
    unfold Rep
    exact ⟨p, vs, rfl, upd_same, r.mono (Step.freeze (tk := ⟨[], fun _ _ => True, none, fun _ _ _ _ h => (nomatch h), fun _ _ _ _ _ _ _ _ _ => trivial⟩) (H := H) hF)⟩
  | dic ks ds =>
    obtain ⟨vs, q, l, r⟩ := h
    refine ⟨_, q, (fun ps z => nomatch z), ?_⟩
    unfold Rep
    exact ⟨p, vs, rfl, upd_same, l, r.mono (Step.freeze (tk := ⟨[], fun _ _ => True, none, fun _ _ _ _ h => (nomatch h), fun _ _ _ _ _ _ _ _ _ => trivial⟩) (H := H) hF)⟩
  | _ => exact h.elim
def RepS (K : PySem.W.Frag) (g : Gv) (tk : Tk) (F H : Hp) : S → V → Prop
  | .fr d, v => Rep K g F d v
  | .nw d, v => ∃ p, v = .ref p ∧ F p = none ∧ p ∉ tk.ad ∧ Own K g F H p d
  | .bw d, v => ∃ p, v = .ref p ∧ F p = none ∧ p ∉ tk.ad ∧ Own K g F H p d
  | .tk, v => tk.v = some v
theorem RepS.step {K : PySem.W.Frag} {g : Gv} {tk : Tk} {F H F' H' : Hp} {s : S} {v : V} (e : Step tk F H F' H') (h : RepS K g tk F H s v) : RepS K g tk F' H' s v := by
  have own : ∀ {p : Addr} {d : D}, F p = none → p ∉ tk.ad → Own K g F H p d → F' p = none ∧ Own K g F' H' p d := fun {p d} hF hn ho => by
    refine ⟨?_, ho.mono e.fr fun o q t => e.kp p o q hn t⟩
    cases q : F' p with
    | none => rfl
    | some o => exact absurd (e.nw p o q hF) ho.at_
  cases s with
  | fr d => exact Rep.mono e.fr h
  | nw d =>
    obtain ⟨p, q, hF, hn, ho⟩ := h
    exact ⟨p, q, (own hF hn ho).1, hn, (own hF hn ho).2⟩
  | bw d =>
    obtain ⟨p, q, hF, hn, ho⟩ := h
    exact ⟨p, q, (own hF hn ho).1, hn, (own hF hn ho).2⟩
  | tk => exact h

/-! ### the def's state -/
abbrev AE := List (Option S)
structure Ab (K : PySem.W.Frag) (g : Gv) (tk : Tk) (Fe He F H : Hp) (α : AE) (σ : L2.St) : Prop where
  sub : Same F H
  ok : tk.ok F H
  st : Step tk Fe He F H
  len : α.length = σ.length
  val : ∀ (i : Nat) (s : S), α[i]? = some (some s) → ∃ v, σ[i]? = some (some v) ∧ RepS K g tk F H s v ∧ (∀ d p, s = .nw d → v = .ref p → Nf He p)
  nob : ∀ (i : Nat) (d : D), α[i]? ≠ some (some (.bw d))
  apart : ∀ (i j : Nat) (d e : D) (v : V), i ≠ j → α[i]? = some (some (.nw d)) → α[j]? = some (some (.nw e)) → σ[i]? = some (some v) → σ[j]? = some (some v) → False
theorem Ab.step {K : PySem.W.Frag} {g : Gv} {tk : Tk} {Fe He F H F' H' : Hp} {α : AE} {σ : L2.St} (A : Ab K g tk Fe He F H α σ) (e : Step tk F H F' H') (sub : Same F' H') (ok : tk.ok F' H') : Ab K g tk Fe He F' H' α σ where
  sub := sub
  ok := ok
  st := A.st.trans e
  len := A.len
  val := fun i s h => by
    obtain ⟨v, e1, e2, e3⟩ := A.val i s h
    exact ⟨v, e1, e2.step e, e3⟩
  nob := A.nob
  apart := A.apart

/-- a value's end: what follows is asked of the new heaps -/
def VO (K : PySem.W.Frag) (g : Gv) (tk : Tk) (F H : Hp) (Q : S → Prop) : VK := fun v H' =>
  ∃ F' r, Step tk F H F' H' ∧ Same F' H' ∧ tk.ok F' H' ∧ RepS K g tk F' H' r v ∧ (∀ d p, r = .nw d → v = .ref p → Nf H p) ∧ Q r
abbrev XD := Nat × List Str × List D
/-- an exception's end -/
def XO (K : PySem.W.Frag) (g : Gv) (tk : Tk) (F H : Hp) (E : XD → Prop) : XK := fun cls dd H' =>
  ∃ F' c ns ds vs, Step tk F H F' H' ∧ Same F' H' ∧ tk.ok F' H' ∧ cls = .ref (g.CA c) ∧ vs.length = ns.length ∧ ((dd = none ∧ ns = []) ∨ ∃ d, dd = some d ∧ F' d = some (.xd (ns.zip vs))) ∧ Reps K g F' ds vs ∧ E (c, ns, ds)
theorem VO.at {K : PySem.W.Frag} {g : Gv} {tk : Tk} {F H F1 H1 : Hp} {Q : S → Prop} {v : V} {H' : Hp} (e : Step tk F H F1 H1) (h : VO K g tk F1 H1 Q v H') : VO K g tk F H Q v H' := by
  obtain ⟨F', r, s, su, ok, rep, fr, q⟩ := h
  refine ⟨F', r, e.trans s, su, ok, rep, fun d p e1 e2 => ?_, q⟩
  have z := fr d p e1 e2
  intro o w n
  obtain ⟨o', w', n'⟩ := e.ad p o w n
  exact z o' w' n'
theorem XO.at {K : PySem.W.Frag} {g : Gv} {tk : Tk} {F H F1 H1 : Hp} {E : XD → Prop} {cls : Value} {dd : Option Addr} {H' : Hp} (e : Step tk F H F1 H1) (h : XO K g tk F1 H1 E cls dd H') : XO K g tk F H E cls dd H' := by
  obtain ⟨F', c, ns, ds, vs, s, r⟩ := h
  exact ⟨F', c, ns, ds, vs, e.trans s, r⟩

/-! ### readings over data -/
abbrev DE := AE → (S → Prop) → (XD → Prop) → Prop
abbrev DT := AE → (Bool → Prop) → (XD → Prop) → Prop
abbrev DA := AE → (List S → Prop) → (XD → Prop) → Prop
structure DEnds where
  nx : AE → Prop
  rt : S → Prop
  bk : AE → Prop := fun _ => False
  ct : AE → Prop := fun _ => False
abbrev DS := DEnds → AE → (XD → Prop) → Prop

def RepSs (K : PySem.W.Frag) (g : Gv) (tk : Tk) (F H : Hp) : List S → List V → Prop
  | [], vs => vs = []
  | s :: ss, vs => ∃ v r, vs = v :: r ∧ RepS K g tk F H s v ∧ RepSs K g tk F H ss r
theorem RepSs.step {K : PySem.W.Frag} {g : Gv} {tk : Tk} {F H F' H' : Hp} (e : Step tk F H F' H') : ∀ {ss : List S} {vs : List V}, RepSs K g tk F H ss vs → RepSs K g tk F' H' ss vs
  | [], _, h => h
  | _ :: _, _, ⟨v, r, e1, h1, h2⟩ => ⟨v, r, e1, h1.step e, RepSs.step e h2⟩

/-- readings over data as readings over the heap -/
def LE (K : PySem.W.Frag) (g : Gv) (tk : Tk) (Fe He : Hp) (E : XD → Prop) (t : DE) : TE := fun σ H Q' =>
  ∃ F α Q, Ab K g tk Fe He F H α σ ∧ t α Q E ∧ ∀ v H', VO K g tk F H Q v H' → Q' v H'
def LT (K : PySem.W.Frag) (g : Gv) (tk : Tk) (Fe He : Hp) (E : XD → Prop) (t : DT) : TT := fun σ H Q' =>
  ∃ F α Q, Ab K g tk Fe He F H α σ ∧ t α Q E ∧ ∀ b H' F', Step tk F H F' H' → Same F' H' → tk.ok F' H' → Q b → Q' b H'
/-- arguments: new lists stand still from now on -/
def LA (K : PySem.W.Frag) (g : Gv) (tk : Tk) (Fe He : Hp) (E : XD → Prop) (t : DA) : TA := fun σ H Q' =>
  ∃ F α Q, Ab K g tk Fe He F H α σ ∧ t α Q E ∧ ∀ vs H' F' ss, Step tk F H F' H' → Same F' H' → tk.ok F' H' → RepSs K g tk F' H' ss vs → Q ss → Q' vs H'
def toH (K : PySem.W.Frag) (g : Gv) (tk : Tk) (Fe He : Hp) (D : DEnds) : Ends where
  nx := fun σ H => ∃ F α, Ab K g tk Fe He F H α σ ∧ D.nx α
  rt := VO K g tk Fe He D.rt
  bk := fun σ H => ∃ F α, Ab K g tk Fe He F H α σ ∧ D.bk α
  ct := fun σ H => ∃ F α, Ab K g tk Fe He F H α σ ∧ D.ct α
/-- what is wanted of an exception of the body -/
def WD (K : PySem.W.Frag) (g : Gv) (tk : Tk) (Fe He : Hp) (E : XD → Prop) : WX := fun cls d _ H' => XO K g tk Fe He E cls d H'

structure QE (g : Gv) (X : Cx) (e : Expr) (t : DE) : Prop where
  pe : ∀ (tk : Tk) (Fe He : Hp) (E : XD → Prop), g.T tk → Takes X (WD X.K g tk Fe He E) → PE X e (LE X.K g tk Fe He E t)
structure QT (g : Gv) (X : Cx) (e : Expr) (t : DT) : Prop where
  pt : ∀ (tk : Tk) (Fe He : Hp) (E : XD → Prop), g.T tk → Takes X (WD X.K g tk Fe He E) → PT X e (LT X.K g tk Fe He E t)
structure QA (g : Gv) (X : Cx) (es : List Expr) (t : DA) : Prop where
  pa : ∀ (tk : Tk) (Fe He : Hp) (E : XD → Prop), g.T tk → Takes X (WD X.K g tk Fe He E) → PA X es (LA X.K g tk Fe He E t)
/-- ends that are at least as told -/
structure EndsLe (D : Ends) (D' : Ends) : Prop where
  nx : ∀ σ H, D.nx σ H → D'.nx σ H
  rt : ∀ v H, D.rt v H → D'.rt v H
  bk : ∀ σ H, D.bk σ H → D'.bk σ H
  ct : ∀ σ H, D.ct σ H → D'.ct σ H
theorem EndsLe.refl (D : Ends) : EndsLe D D := ⟨fun _ _ h => h, fun _ _ h => h, fun _ _ h => h, fun _ _ h => h⟩
def LS (K : PySem.W.Frag) (g : Gv) (tk : Tk) (Fe He : Hp) (E : XD → Prop) (t : DS) : TS := fun D' σ H =>
  ∃ F α D, Ab K g tk Fe He F H α σ ∧ t D α E ∧ EndsLe (toH K g tk Fe He D) D'
structure QS (g : Gv) (X : Cx) (st : Stmt) (t : DS) : Prop where
  ps : ∀ (tk : Tk) (Fe He : Hp) (E : XD → Prop), g.T tk → Takes X (WD X.K g tk Fe He E) → PS X st (LS X.K g tk Fe He E t)
structure QSs (g : Gv) (X : Cx) (st : List Stmt) (t : DS) : Prop where
  ps : ∀ (tk : Tk) (Fe He : Hp) (E : XD → Prop), g.T tk → Takes X (WD X.K g tk Fe He E) → PSs X st (LS X.K g tk Fe He E t)

theorem _root_.L2.PE.dimp {X : Cx} {e : Expr} {t t' : TE} (h : PE X e t) (k : ∀ σ H Q, t' σ H Q → t σ H Q) : PE X e t' := ⟨fun pins s σ H Q I q => h.run pins s σ H Q I (k σ H Q q)⟩
theorem _root_.L2.PT.dimp {X : Cx} {e : Expr} {t t' : TT} (h : PT X e t) (k : ∀ σ H Q, t' σ H Q → t σ H Q) : PT X e t' := ⟨fun pins s σ H Q I q => h.run pins s σ H Q I (k σ H Q q)⟩
theorem _root_.L2.PA.dimp {X : Cx} {es : List Expr} {t t' : TA} (h : PA X es t) (k : ∀ σ H Q, t' σ H Q → t σ H Q) : PA X es t' := ⟨fun pos pins s σ H Q I q => h.run pos pins s σ H Q I (k σ H Q q)⟩
theorem _root_.L2.PS.dimp {X : Cx} {st : Stmt} {t t' : TS} (h : PS X st t) (k : ∀ D σ H, t' D σ H → t D σ H) : PS X st t' := ⟨fun pins s σ H D I q => h.run pins s σ H D I (k D σ H q)⟩
theorem _root_.L2.PSs.dimp {X : Cx} {st : List Stmt} {t t' : TS} (h : PSs X st t) (k : ∀ D σ H, t' D σ H → t D σ H) : PSs X st t' := ⟨fun pins s σ H D I q => h.run pins s σ H D I (k D σ H q)⟩
end DL

set_option Elab.async false
set_option linter.all false
set_option maxRecDepth 100000
set_option maxHeartbeats 4000000
namespace DL
open PySem PySem.Spec L2

/-! ### ends of values -/
section
variable {K : PySem.W.Frag} {g : Gv} {tk : Tk} {F H : Hp} {Q : S → Prop} {p : Addr} {ds : List D} {vs : List V}
theorem Tk.new (ok : tk.ok F H) (hp : H p = none) (o : HO) (sub : Same F H) (nt : NT o) : tk.ok (upd F p o) (upd H p o) := by
  have hF : F p = none := sub.free hp
  refine tk.st _ _ _ _ ok (fun a u e => ?_) (fun a u e _ => ?_) (fun a ha => ?_) fun a u e n => ?_
  · rw [upd_ne (ne_of_none e hF)]
    exact e
  · rw [upd_ne (ne_of_none e hp)]
    exact e
  · obtain ⟨h1, h2⟩ := tk.fr _ _ ok a ha
    have ne : a ≠ p := fun z => h2 (by rw [z]; exact hp)
    rw [upd_ne ne]
    exact h1
  · by_cases h : a = p
    · subst h
      rw [upd_same] at e
      cases e
      exact nt
    · rw [upd_ne h, n] at e
      cases e
theorem Tk.own (ok : tk.ok F H) (hp : H p = none) (o : HO) : tk.ok F (upd H p o) := by
  refine tk.st _ _ _ _ ok (Same.refl _) (fun a u e _ => ?_) (fun a ha => (tk.fr _ _ ok a ha).1) fun a u e n => by (rw [n] at e; cases e)
  rw [upd_ne (ne_of_none e hp)]
  exact e
theorem Tk.out (ok : tk.ok F H) (hp : H p = none) : p ∉ tk.ad := fun h => (tk.fr _ _ ok p h).2 hp
def S.plain : S → Bool
  | .nw _ => false
  | _ => true
theorem VO.here {r : S} {v : V} (sub : Same F H) (ok : tk.ok F H) (rep : RepS K g tk F H r v) (hr : r.plain = true) (q : Q r) : VO K g tk F H Q v H :=
  ⟨F, r, Step.refl _ _ _, sub, ok, rep, fun d p e => by (subst e; cases hr), q⟩
theorem VO.fr {d : D} {v : V} (sub : Same F H) (ok : tk.ok F H) (rep : Rep K g F d v) (q : Q (.fr d)) : VO K g tk F H Q v H := VO.here (r := .fr d) sub ok rep rfl q
theorem VO.int {i : Int} (sub : Same F H) (ok : tk.ok F H) (q : Q (.fr (.int i))) : VO K g tk F H Q (.int i) H := VO.fr sub ok (by unfold Rep; rfl) q
theorem VO.bl {b : Bool} (sub : Same F H) (ok : tk.ok F H) (q : Q (.fr (.bl b))) : VO K g tk F H Q (.bl b) H := VO.fr sub ok (by unfold Rep; rfl) q
theorem VO.str {x : Str} (sub : Same F H) (ok : tk.ok F H) (q : Q (.fr (.str x))) : VO K g tk F H Q (.str x) H := VO.fr sub ok (by unfold Rep; rfl) q
theorem VO.non (sub : Same F H) (ok : tk.ok F H) (q : Q (.fr .non)) : VO K g tk F H Q .non H := VO.fr sub ok (by unfold Rep; rfl) q
theorem VO.tup (sub : Same F H) (ok : tk.ok F H) (hp : H p = none) (r : Reps K g F ds vs) (q : Q (.fr (.tup ds))) : VO K g tk F H Q (.ref p) (upd H p (.tup vs)) := by
  have hF : F p = none := sub.free hp
  have st : Step tk F H (upd F p (.tup vs)) (upd H p (.tup vs)) := Step.new hp sub
  refine ⟨_, .fr (.tup ds), st, same_upd (fun a u e => ?_) upd_same, tk.new ok hp _ sub (fun ps z => nomatch z), ?_, fun d p e => (nomatch e), q⟩
  · rw [upd_ne (ne_of_none e hF)]
    exact sub a u e
  · show Rep K g _ (.tup ds) _
    unfold Rep
    exact ⟨p, vs, rfl, SqT.of upd_same, r.mono st.fr⟩
theorem VO.lst (sub : Same F H) (ok : tk.ok F H) (hp : H p = none) (r : Reps K g F ds vs) (q : Q (.nw (.lst ds))) : VO K g tk F H Q (.ref p) (upd H p (.lst vs)) := by
  have hF : F p = none := sub.free hp
  refine ⟨F, .nw (.lst ds), Step.own hp, fun a u e => ?_, tk.own ok hp _, ⟨p, rfl, hF, tk.out ok hp, vs, upd_same, r⟩, fun d q e e2 => ?_, q⟩
  · rw [upd_ne (ne_of_none e hF)]
    exact sub a u e
  · cases e2
    exact .of hp
/-! what a value is, by its data -/
theorem Rep.int_ {i : Int} {v : V} (h : Rep K g F (.int i) v) : v = .int i := by unfold Rep at h; exact h
theorem Rep.bl_ {i : Bool} {v : V} (h : Rep K g F (.bl i) v) : v = .bl i := by unfold Rep at h; exact h
theorem Rep.str_ {i : Str} {v : V} (h : Rep K g F (.str i) v) : v = .str i := by unfold Rep at h; exact h
theorem Rep.non_ {v : V} (h : Rep K g F .non v) : v = .non := by unfold Rep at h; exact h
theorem Rep.raw_ {w v : V} (h : Rep K g F (.raw w) v) : v = w := by unfold Rep at h; exact h
theorem Rep.tup_ {v : V} (h : Rep K g F (.tup ds) v) : ∃ a vs, v = .ref a ∧ SqT K F a vs ∧ Reps K g F ds vs := by unfold Rep at h; exact h
theorem Rep.lst_ {v : V} (h : Rep K g F (.lst ds) v) : ∃ a vs, v = .ref a ∧ F a = some (.lst vs) ∧ Reps K g F ds vs := by unfold Rep at h; exact h
theorem Rep.int (i : Int) : Rep K g F (.int i) (.int i) := by unfold Rep; rfl
theorem Rep.bl (i : Bool) : Rep K g F (.bl i) (.bl i) := by unfold Rep; rfl
theorem Rep.str (i : Str) : Rep K g F (.str i) (.str i) := by unfold Rep; rfl
theorem Rep.non : Rep K g F .non .non := by unfold Rep; rfl
theorem RepS.lst {s : S} {v : V} (sub : Same F H) (h : RepS K g tk F H s v) (e : s.view = .lst ds) : ∃ a vs, v = .ref a ∧ H a = some (.lst vs) ∧ Reps K g F ds vs := by
  cases s with
  | fr d =>
    have e' : d = .lst ds := e
    subst e'
    obtain ⟨a, vs, h1, h2, h3⟩ := Rep.lst_ h
    exact ⟨a, vs, h1, sub _ _ h2, h3⟩
  | nw d =>
    have e' : d = .lst ds := e
    subst e'
    obtain ⟨p, h1, _, _, vs, h2, h3⟩ := h
    exact ⟨p, vs, h1, h2, h3⟩
  | bw d =>
    have e' : d = .lst ds := e
    subst e'
    obtain ⟨p, h1, _, _, vs, h2, h3⟩ := h
    exact ⟨p, vs, h1, h2, h3⟩
  | tk => cases e
/-- a value that is no list or dict of one's own -/
theorem RepS.fr_ {s : S} {v : V} {d : D} (h : RepS K g tk F H s v) (e : s.view = d) (hd : (∀ ds, d ≠ .lst ds) ∧ (∀ ks ds, d ≠ .dic ks ds) ∧ d ≠ .tok) : Rep K g F d v := by
  cases s with
  | fr z =>
    have e' : z = d := e
    subst e'
    exact h
  | nw z =>
    have e' : z = d := e
    subst e'
    obtain ⟨p, _, _, _, o⟩ := h
    cases z with
    | lst ds => exact absurd rfl (hd.1 ds)
    | dic ks ds => exact absurd rfl (hd.2.1 ks ds)
    | _ => exact o.elim
  | bw z =>
    have e' : z = d := e
    subst e'
    obtain ⟨p, _, _, _, o⟩ := h
    cases z with
    | lst ds => exact absurd rfl (hd.1 ds)
    | dic ks ds => exact absurd rfl (hd.2.1 ks ds)
    | _ => exact o.elim
  | tk =>
    have e' : D.tok = d := e
    exact absurd e'.symm hd.2.2
theorem RepS.int {s : S} {v : V} {i : Int} (h : RepS K g tk F H s v) (e : s.view = .int i) : v = .int i := Rep.int_ (K := K) (g := g) (F := F) (RepS.fr_ h e ⟨fun _ z => (nomatch z), fun _ _ z => (nomatch z), fun z => (nomatch z)⟩)
theorem RepS.bl {s : S} {v : V} {i : Bool} (h : RepS K g tk F H s v) (e : s.view = .bl i) : v = .bl i := Rep.bl_ (K := K) (g := g) (F := F) (RepS.fr_ h e ⟨fun _ z => (nomatch z), fun _ _ z => (nomatch z), fun z => (nomatch z)⟩)
theorem RepS.str {s : S} {v : V} {i : Str} (h : RepS K g tk F H s v) (e : s.view = .str i) : v = .str i := Rep.str_ (K := K) (g := g) (F := F) (RepS.fr_ h e ⟨fun _ z => (nomatch z), fun _ _ z => (nomatch z), fun z => (nomatch z)⟩)
theorem RepS.tup {s : S} {v : V} (sub : Same F H) (h : RepS K g tk F H s v) (e : s.view = .tup ds) : ∃ a vs, v = .ref a ∧ SqT K H a vs ∧ Reps K g F ds vs := by
  obtain ⟨a, vs, h1, h2, h3⟩ := Rep.tup_ (RepS.fr_ h e ⟨fun _ z => (nomatch z), fun _ _ z => (nomatch z), fun z => (nomatch z)⟩)
  exact ⟨a, vs, h1, sqT_same sub h2, h3⟩
end

/-! ### names, constants -/
section
variable {g : Gv} {X : Cx} {pos : Pos}
def S.look : S → S
  | .nw d => .bw d
  | s => s
theorem RepS.look_ {K : PySem.W.Frag} {tk : Tk} {F H : Hp} {s : S} {v : V} (h : RepS K g tk F H s v) : RepS K g tk F H s.look v := by
  cases s with
  | nw d => exact h
  | fr d => exact h
  | bw d => exact h
  | tk => exact h
theorem S.look_plain (s : S) : s.look.plain = true := by cases s <;> rfl
def dVar (i : Nat) : DE := fun α Q _ => ∃ s, α[i]? = some (some s) ∧ Q s.look
def dC (d : D) : DE := fun _ Q _ => Q (.fr d)
theorem qe_var {i : Nat} {x : Str} (hN : X.N[i]? = some x) (hv : Vis X.env.scope x) (hd : (x == ("__debug__" : Str)) = false := by decide) (hcd : (x == ("__classdict__" : Str)) = false := by decide) : QE g X (.Name x pos) (dVar i) :=
  ⟨fun tk Fe He E hT hx => (pe_var hN hv hd hcd).dimp fun σ H Q' h => by
    obtain ⟨F, α, Q, A, ⟨s, e, q⟩, k⟩ := h
    obtain ⟨v, e1, e2, _⟩ := A.val i s e
    exact ⟨v, e1, k v H (VO.here A.sub A.ok e2.look_ s.look_plain q)⟩⟩
theorem qe_of_c {e : Expr} {d : D} {v : V} (h : PE X e (tC v)) (r : ∀ F, Rep X.K g F d v) : QE g X e (dC d) :=
  ⟨fun tk Fe He E hT hx => h.dimp fun σ H Q' h => by
    obtain ⟨F, α, Q, A, q, k⟩ := h
    exact k v H (VO.fr A.sub A.ok (r F) q)⟩
theorem qe_int {i j} : QE g X (.Constant (.int i) j pos) (dC (.int i)) := qe_of_c pe_int fun _ => Rep.int i
theorem qe_bl {b j} : QE g X (.Constant (.bool b) j pos) (dC (.bl b)) := qe_of_c pe_bl fun _ => Rep.bl b
theorem qe_non {j} : QE g X (.Constant .none j pos) (dC .non) := qe_of_c pe_non fun _ => Rep.non
theorem qe_str {x j} : QE g X (.Constant (.str x) j pos) (dC (.str x)) := qe_of_c pe_str fun _ => Rep.str x
theorem qe_glob {x : Str} {d : D} {v : V} {u : Value} (hg : Gl X x) (hm : X.mg x = some u) (r : RelV v u) (rep : ∀ F, Rep X.K g F d v) (hd : (x == ("__debug__" : Str)) = false := by decide) : QE g X (.Name x pos) (dC d) := qe_of_c (pe_glob hg hm r hd) rep
/-- a built-in class as a value -/
theorem qe_ty {x : Str} {T : String} (hg : Gl X x) (hm : X.mg x = none) (hv : bootBuiltins x = some (.type T)) (hn : x ≠ "__name__" := by decide) (hd : (x == ("__debug__" : Str)) = false := by decide) : QE g X (.Name x pos) (dC (.raw (.ty T))) :=
  qe_of_c (pe_bltn (v := .ty T) hg hm hv rfl hn hd) fun _ => by unfold Rep; rfl
/-- a class or def of one's own as a value -/
theorem qe_ref {x : Str} {a : Addr} (hg : Gl X x) (hm : X.mg x = some (.ref a)) (hd : (x == ("__debug__" : Str)) = false := by decide) : QE g X (.Name x pos) (dC (.raw (.ref a))) :=
  qe_of_c (pe_glob (v := .ref a) hg hm rfl hd) fun _ => by unfold Rep; rfl
end

/-! ### operators by values -/
abbrev F2 := D → D → (S → Prop) → Prop
abbrev F1 := D → (S → Prop) → Prop
def OpS (g : Gv) (K : PySem.W.Frag) (r : R2) (f : F2) : Prop :=
  ∀ (tk : Tk) (F H : Hp) (s1 s2 : S) (v w : V) (Q : S → Prop) (Q' : VK), g.T tk → Same F H → tk.ok F H → RepS K g tk F H s1 v → RepS K g tk F H s2 w → f s1.view s2.view Q → (∀ z H', VO K g tk F H Q z H' → Q' z H') → r v w H Q'
def UnS (g : Gv) (K : PySem.W.Frag) (r : V → Hp → VK → Prop) (f : F1) : Prop :=
  ∀ (tk : Tk) (F H : Hp) (s : S) (v : V) (Q : S → Prop) (Q' : VK), g.T tk → Same F H → tk.ok F H → RepS K g tk F H s v → f s.view Q → (∀ z H', VO K g tk F H Q z H' → Q' z H') → r v H Q'
def dBin (f : F2) (ta tb : DE) : DE := fun α Q E => ta α (fun x => tb α (fun y => f x.view y.view Q) E) E
def dUn (f : F1) (ta : DE) : DE := fun α Q E => ta α (fun x => f x.view Q) E
section
variable {g : Gv} {X : Cx} {a b c : Expr} {ta tb tc : DE} {pos : Pos} {r r' : R2} {f f' : F2}
theorem bin_red {tk : Tk} {Fe He : Hp} {E : XD → Prop} {σ : L2.St} {H : Hp} {Q' : VK} (hT : g.T tk) (hf : OpS g X.K r f) (h : LE X.K g tk Fe He E (dBin f ta tb) σ H Q') : tOp r (LE X.K g tk Fe He E ta) (LE X.K g tk Fe He E tb) σ H Q' := by
  obtain ⟨F, α, Q, A, t, k⟩ := h
  refine ⟨F, α, _, A, t, fun v H1 h1 => ?_⟩
  obtain ⟨F1, r1, st1, sub1, ok1, rep1, _, t2⟩ := h1
  refine ⟨F1, α, _, A.step st1 sub1 ok1, t2, fun w H2 h2 => ?_⟩
  obtain ⟨F2, r2, st2, sub2, ok2, rep2, _, q⟩ := h2
  exact hf tk F2 H2 r1 r2 v w Q Q' hT sub2 ok2 (rep1.step st2) rep2 q fun z H' hz => k z H' (hz.at (st1.trans st2))
theorem qe_bin {op : Operator} (ho : OpR X (binaryOp op) r) (hf : OpS g X.K r f) (ha : QE g X a ta) (hb : QE g X b tb) : QE g X (.BinOp a op b pos) (dBin f ta tb) :=
  ⟨fun tk Fe He E hT hx => (pe_op ho (ha.pe tk Fe He E hT hx) (hb.pe tk Fe He E hT hx)).dimp fun σ H Q' h => bin_red hT hf h⟩
theorem qe_un {op : UnaryOp} {ru : V → Hp → VK → Prop} {fu : F1} (ho : UnR X (unaryOp op) ru) (hf : UnS g X.K ru fu) (ha : QE g X a ta) : QE g X (.UnaryOp op a pos) (dUn fu ta) :=
  ⟨fun tk Fe He E hT hx => (pe_un ho (ha.pe tk Fe He E hT hx)).dimp fun σ H Q' h => by
    obtain ⟨F, α, Q, A, t, k⟩ := h
    refine ⟨F, α, _, A, t, fun v H1 h1 => ?_⟩
    obtain ⟨F1, r1, st1, sub1, ok1, rep1, _, q⟩ := h1
    exact hf tk F1 H1 r1 v Q Q' hT sub1 ok1 rep1 q fun z H' hz => k z H' (hz.at st1)⟩
theorem qe_cmp {op : CmpOp} (ho : OpR X (compareOp op) r) (hf : OpS g X.K r f) (ha : QE g X a ta) (hb : QE g X b tb) (hm : behindInMarks op b = false) : QE g X (.Compare a [op] [b] pos) (dBin f ta tb) :=
  ⟨fun tk Fe He E hT hx => (pe_cmpR ho (ha.pe tk Fe He E hT hx) (hb.pe tk Fe He E hT hx) hm).dimp fun σ H Q' h => bin_red hT hf h⟩
/-- tests -/
def isB (Q : Bool → Prop) : S → Prop := fun s => ∃ k, s = .fr (.bl k) ∧ Q k
def dTest (t : DE) : DT := fun α Q E => t α (isB Q) E
theorem test_red {K : PySem.W.Frag} {tk : Tk} {Fe He : Hp} {E : XD → Prop} {σ : L2.St} {H : Hp} {t : DE} {Q' : Bool → Hp → Prop} (h : LT K g tk Fe He E (dTest t) σ H Q') : LE K g tk Fe He E t σ H (fun x H' => ∃ k, x = .bl k ∧ Q' k H') := by
  obtain ⟨F, α, Q, A, t, k⟩ := h
  refine ⟨F, α, _, A, t, fun v H1 h1 => ?_⟩
  obtain ⟨F1, r1, st1, sub1, ok1, rep1, _, b, e, q⟩ := h1
  subst e
  have ev : v = .bl b := Rep.bl_ (K := K) (g := g) (F := F1) rep1
  exact ⟨b, ev, k b H1 F1 st1 sub1 ok1 q⟩
theorem qt_cmp {op : CmpOp} (ho : OpR X (compareOp op) r) (hf : OpS g X.K r f) (ha : QE g X a ta) (hb : QE g X b tb) (hm : behindInMarks op b = false) : QT g X (.Compare a [op] [b] pos) (dTest (dBin f ta tb)) :=
  ⟨fun tk Fe He E hT hx => (pt_cmpR ho (ha.pe tk Fe He E hT hx) (hb.pe tk Fe He E hT hx) hm).dimp fun σ H Q' h => bin_red hT hf (test_red h)⟩
/-- a op b op' c -/
def dChain (f f' : F2) (ta tb tc : DE) : DE := fun α Q E => ta α (fun x => tb α (fun y => f x.view y.view (isB fun k => if k = true then tc α (fun z => f' y.view z.view Q) E else Q (.fr (.bl false)))) E) E
theorem chain_red {tk : Tk} {Fe He : Hp} {E : XD → Prop} {σ : L2.St} {H : Hp} {Q' : VK} (hT : g.T tk) (hf : OpS g X.K r f) (hf' : OpS g X.K r' f') (h : LE X.K g tk Fe He E (dChain f f' ta tb tc) σ H Q') :
    tChain r r' (LE X.K g tk Fe He E ta) (LE X.K g tk Fe He E tb) (LE X.K g tk Fe He E tc) σ H Q' := by
  obtain ⟨F, α, Q, A, t, k⟩ := h
  refine ⟨F, α, _, A, t, fun v H1 h1 => ?_⟩
  obtain ⟨F1, r1, st1, sub1, ok1, rep1, _, t2⟩ := h1
  refine ⟨F1, α, _, A.step st1 sub1 ok1, t2, fun w H2 h2 => ?_⟩
  obtain ⟨F2, r2, st2, sub2, ok2, rep2, _, q⟩ := h2
  refine hf tk F2 H2 r1 r2 v w _ _ hT sub2 ok2 (rep1.step st2) rep2 q fun z H3 hz => ?_
  obtain ⟨F3, r3, st3, sub3, ok3, rep3, _, b, e, q3⟩ := hz
  subst e
  refine ⟨b, Rep.bl_ (K := X.K) (g := g) (F := F3) rep3, ?_⟩
  have st := (st1.trans st2).trans st3
  cases b with
  | false => exact k _ H3 ((VO.bl sub3 ok3 q3).at st)
  | true =>
    refine ⟨F3, α, _, A.step st sub3 ok3, q3, fun u H4 h4 => ?_⟩
    obtain ⟨F4, r4, st4, sub4, ok4, rep4, _, q4⟩ := h4
    exact hf' tk F4 H4 r2 r4 w u Q Q' hT sub4 ok4 ((rep2.step st3).step st4) rep4 q4 fun z H' hz => k z H' (hz.at (st.trans st4))
theorem qe_chain {op op' : CmpOp} (ho : OpR X (compareOp op) r) (ho' : OpR X (compareOp op') r') (hf : OpS g X.K r f) (hf' : OpS g X.K r' f') (ha : QE g X a ta) (hb : QE g X b tb) (hc : QE g X c tc) (hm : lastMarks [op, op'] [b, c] = false := by with_unfolding_all rfl) :
    QE g X (.Compare a [op, op'] [b, c] pos) (dChain f f' ta tb tc) :=
  ⟨fun tk Fe He E hT hx => (pe_chain ho ho' (ha.pe tk Fe He E hT hx) (hb.pe tk Fe He E hT hx) (hc.pe tk Fe He E hT hx) hm).dimp fun σ H Q' h => chain_red hT hf hf' h⟩
theorem qt_chain {op op' : CmpOp} (ho : OpR X (compareOp op) r) (ho' : OpR X (compareOp op') r') (hf : OpS g X.K r f) (hf' : OpS g X.K r' f') (ha : QE g X a ta) (hb : QE g X b tb) (hc : QE g X c tc) (hm : lastMarks [op, op'] [b, c] = false := by with_unfolding_all rfl) :
    QT g X (.Compare a [op, op'] [b, c] pos) (dTest (dChain f f' ta tb tc)) :=
  ⟨fun tk Fe He E hT hx => (pt_chain ho ho' (ha.pe tk Fe He E hT hx) (hb.pe tk Fe He E hT hx) (hc.pe tk Fe He E hT hx) hm).dimp fun σ H Q' h => chain_red hT hf hf' (test_red h)⟩
end

/-! ### truth -/
def D.truth : D → Option Bool
  | .non => some false
  | .bl b => some b
  | .int i => some (i != 0)
  | .tup ds => some (!ds.isEmpty)
  | .lst ds => some (!ds.isEmpty)
  | _ => none
theorem isEmpty_reps {K : PySem.W.Frag} {g : Gv} {F : Hp} {ds : List D} {vs : List V} (h : Reps K g F ds vs) : (!vs.isEmpty) = !ds.isEmpty := by
  cases ds with
  | nil => rw [h.inv_nil] <;> rfl
  | cons d ds =>
    obtain ⟨v, r, rfl, _, _⟩ := h.inv_cons
    rfl
theorem tru_of {K : PySem.W.Frag} {g : Gv} {tk : Tk} {F H : Hp} {s : S} {v : V} {k : Bool} (sub : Same F H) (h : RepS K g tk F H s v) (e : s.view.truth = some k) : TruV K v H k := by
  cases q : s.view with
  | non =>
    rw [q] at e
    cases e
    have ev := Rep.non_ (K := K) (g := g) (F := F) (RepS.fr_ h q ⟨fun _ z => (nomatch z), fun _ _ z => (nomatch z), fun z => (nomatch z)⟩)
    rw [ev]
    rfl
  | bl b =>
    rw [q] at e
    cases e
    rw [RepS.bl h q]
    rfl
  | int i =>
    rw [q] at e
    cases e
    rw [RepS.int h q]
    rfl
  | tup ds =>
    rw [q] at e
    obtain ⟨a, vs, rfl, h2, h3⟩ := RepS.tup sub h q
    cases e
    exact .inr (.inl ⟨vs, h2, (isEmpty_reps h3).symm⟩)
  | lst ds =>
    rw [q] at e
    obtain ⟨a, vs, rfl, h2, h3⟩ := RepS.lst sub h q
    cases e
    exact .inl ⟨vs, SqL.of h2, (isEmpty_reps h3).symm⟩
  | _ => rw [q] at e; cases e
section
variable {g : Gv} {X : Cx} {a b : Expr} {ta tb : DE} {tA tB : DT} {rest : List Expr} {pos : Pos}
def dTruth (t : DE) : DT := fun α Q E => t α (fun s => ∃ k, s.view.truth = some k ∧ Q k) E
theorem qt_truth (ha : QE g X a ta) (he : ∀ whole, isTrue a X.env whole = (do let v ← whole; standAt a.pos; holding [v] (truthy v))) : QT g X a (dTruth ta) :=
  ⟨fun tk Fe He E hT hx => (pt_truth (ha.pe tk Fe He E hT hx) he).dimp fun σ H Q' h => by
    obtain ⟨F, α, Q, A, t, k⟩ := h
    refine ⟨F, α, _, A, t, fun v H1 h1 => ?_⟩
    obtain ⟨F1, r1, st1, sub1, ok1, rep1, _, b, e, q⟩ := h1
    exact ⟨b, tru_of sub1 rep1 e, k b H1 F1 st1 sub1 ok1 q⟩⟩
def dAndT (t u : DT) : DT := fun α Q E => t α (fun c => if c = true then u α Q E else Q false) E
def dOrT (t u : DT) : DT := fun α Q E => t α (fun c => if c = true then Q true else u α Q E) E
def dNotT (t : DT) : DT := fun α Q E => t α (fun c => Q (!c)) E
structure QW (g : Gv) (X : Cx) (e : Expr) (t : DT) : Prop where
  pw : ∀ (tk : Tk) (Fe He : Hp) (E : XD → Prop), g.T tk → Takes X (WD X.K g tk Fe He E) → PW X e (LT X.K g tk Fe He E t)
theorem QW.qt {e : Expr} {t : DT} (h : QW g X e t) : QT g X e t := ⟨fun tk Fe He E hT hx => (h.pw tk Fe He E hT hx).pt⟩
theorem _root_.L2.PW.dimp {e : Expr} {t t' : TT} (h : PW X e t) (k : ∀ σ H Q, t' σ H Q → t σ H Q) : PW X e t' := ⟨fun wh pins s σ H Q I q => h.run wh pins s σ H Q I (k σ H Q q)⟩
theorem qw_and1 (ha : QT g X a tA) : QW g X (.BoolOp .And [a] pos) tA := ⟨fun tk Fe He E hT hx => pw_and1 (ha.pt tk Fe He E hT hx)⟩
theorem qw_or1 (ha : QT g X a tA) : QW g X (.BoolOp .Or [a] pos) tA := ⟨fun tk Fe He E hT hx => pw_or1 (ha.pt tk Fe He E hT hx)⟩
theorem lt_at {K : PySem.W.Frag} {tk : Tk} {Fe He F H : Hp} {E : XD → Prop} {α : AE} {σ : L2.St} {t : DT} {Q : Bool → Prop} {Q' : Bool → Hp → Prop} {F1 H1 : Hp} (A : Ab K g tk Fe He F H α σ) (st1 : Step tk F H F1 H1) (sub1 : Same F1 H1) (ok1 : tk.ok F1 H1)
    (q : t α Q E) (k : ∀ b H' F', Step tk F H F' H' → Same F' H' → tk.ok F' H' → Q b → Q' b H') : LT K g tk Fe He E t σ H1 Q' :=
  ⟨F1, α, Q, A.step st1 sub1 ok1, q, fun b H2 F2 st2 sub2 ok2 qb => k b H2 F2 (st1.trans st2) sub2 ok2 qb⟩
theorem le_at {K : PySem.W.Frag} {tk : Tk} {Fe He F H : Hp} {E : XD → Prop} {α : AE} {σ : L2.St} {t : DE} {Q : S → Prop} {Q' : VK} {F1 H1 : Hp} (A : Ab K g tk Fe He F H α σ) (st1 : Step tk F H F1 H1) (sub1 : Same F1 H1) (ok1 : tk.ok F1 H1)
    (q : t α Q E) (k : ∀ v H', VO K g tk F H Q v H' → Q' v H') : LE K g tk Fe He E t σ H1 Q' :=
  ⟨F1, α, Q, A.step st1 sub1 ok1, q, fun v H2 h2 => k v H2 (h2.at st1)⟩
theorem qw_and (ha : QT g X a tA) (hb : QW g X (.BoolOp .And (b :: rest) pos) tB) : QW g X (.BoolOp .And (a :: b :: rest) pos) (dAndT tA tB) :=
  ⟨fun tk Fe He E hT hx => (pw_and (ha.pt tk Fe He E hT hx) (hb.pw tk Fe He E hT hx)).dimp fun σ H Q' h => by
    obtain ⟨F, α, Q, A, t, k⟩ := h
    refine ⟨F, α, _, A, t, fun c H1 F1 st1 sub1 ok1 q => ?_⟩
    cases c with
    | true => exact lt_at A st1 sub1 ok1 q k
    | false => exact k false H1 F1 st1 sub1 ok1 q⟩
theorem qw_or (ha : QT g X a tA) (hb : QW g X (.BoolOp .Or (b :: rest) pos) tB) : QW g X (.BoolOp .Or (a :: b :: rest) pos) (dOrT tA tB) :=
  ⟨fun tk Fe He E hT hx => (pw_or (ha.pt tk Fe He E hT hx) (hb.pw tk Fe He E hT hx)).dimp fun σ H Q' h => by
    obtain ⟨F, α, Q, A, t, k⟩ := h
    refine ⟨F, α, _, A, t, fun c H1 F1 st1 sub1 ok1 q => ?_⟩
    cases c with
    | true => exact k true H1 F1 st1 sub1 ok1 q
    | false => exact lt_at A st1 sub1 ok1 q k⟩
theorem qt_not (ha : QT g X a tA) : QT g X (.UnaryOp .Not a pos) (dNotT tA) :=
  ⟨fun tk Fe He E hT hx => (pt_not (ha.pt tk Fe He E hT hx)).dimp fun σ H Q' h => by
    obtain ⟨F, α, Q, A, t, k⟩ := h
    exact ⟨F, α, _, A, t, fun c H1 F1 st1 sub1 ok1 q => k _ H1 F1 st1 sub1 ok1 q⟩⟩
/-! as values -/
def dAndV (ta tb : DE) : DE := fun α Q E => ta α (fun x => x.plain = true ∧ ∃ k, x.view.truth = some k ∧ if k = true then tb α Q E else Q x) E
def dOrV (ta tb : DE) : DE := fun α Q E => ta α (fun x => x.plain = true ∧ ∃ k, x.view.truth = some k ∧ if k = true then Q x else tb α Q E) E
def dNotV (ta : DE) : DE := fun α Q E => ta α (fun x => ∃ k, x.view.truth = some k ∧ Q (.fr (.bl (!k)))) E
theorem qe_one {op} (h : QE g X a ta) : QE g X (.BoolOp op [a] pos) ta := ⟨fun tk Fe He E hT hx => pe_one (h.pe tk Fe He E hT hx)⟩
theorem qe_and (ha : QE g X a ta) (hb : QE g X (.BoolOp .And (b :: rest) pos) tb) : QE g X (.BoolOp .And (a :: b :: rest) pos) (dAndV ta tb) :=
  ⟨fun tk Fe He E hT hx => (pe_andT (ha.pe tk Fe He E hT hx) (hb.pe tk Fe He E hT hx)).dimp fun σ H Q' h => by
    obtain ⟨F, α, Q, A, t, k⟩ := h
    refine ⟨F, α, _, A, t, fun v H1 h1 => ?_⟩
    obtain ⟨F1, r1, st1, sub1, ok1, rep1, _, hp, b, e, q⟩ := h1
    refine ⟨b, tru_of sub1 rep1 e, ?_⟩
    cases b with
    | true => exact le_at A st1 sub1 ok1 q k
    | false => exact k v H1 ((VO.here sub1 ok1 rep1 hp q).at st1)⟩
theorem qe_or (ha : QE g X a ta) (hb : QE g X (.BoolOp .Or (b :: rest) pos) tb) : QE g X (.BoolOp .Or (a :: b :: rest) pos) (dOrV ta tb) :=
  ⟨fun tk Fe He E hT hx => (pe_orT (ha.pe tk Fe He E hT hx) (hb.pe tk Fe He E hT hx)).dimp fun σ H Q' h => by
    obtain ⟨F, α, Q, A, t, k⟩ := h
    refine ⟨F, α, _, A, t, fun v H1 h1 => ?_⟩
    obtain ⟨F1, r1, st1, sub1, ok1, rep1, _, hp, b, e, q⟩ := h1
    refine ⟨b, tru_of sub1 rep1 e, ?_⟩
    cases b with
    | true => exact k v H1 ((VO.here sub1 ok1 rep1 hp q).at st1)
    | false => exact le_at A st1 sub1 ok1 q k⟩
theorem qe_not (ha : QE g X a ta) : QE g X (.UnaryOp .Not a pos) (dNotV ta) :=
  ⟨fun tk Fe He E hT hx => (pe_notT (ha.pe tk Fe He E hT hx)).dimp fun σ H Q' h => by
    obtain ⟨F, α, Q, A, t, k⟩ := h
    refine ⟨F, α, _, A, t, fun v H1 h1 => ?_⟩
    obtain ⟨F1, r1, st1, sub1, ok1, rep1, _, b, e, q⟩ := h1
    exact ⟨b, tru_of sub1 rep1 e, k _ H1 ((VO.bl sub1 ok1 q).at st1)⟩⟩
def dIfE (tc : DT) (ta tb : DE) : DE := fun α Q E => tc α (fun c => if c = true then ta α Q E else tb α Q E) E
theorem qe_ifExp {c : Expr} {tc : DT} (hc : QT g X c tc) (ha : QE g X a ta) (hb : QE g X b tb) : QE g X (.IfExp c a b pos) (dIfE tc ta tb) :=
  ⟨fun tk Fe He E hT hx => (pe_ifExp (hc.pt tk Fe He E hT hx) (ha.pe tk Fe He E hT hx) (hb.pe tk Fe He E hT hx)).dimp fun σ H Q' h => by
    obtain ⟨F, α, Q, A, t, k⟩ := h
    refine ⟨F, α, _, A, t, fun c H1 F1 st1 sub1 ok1 q => ?_⟩
    cases c with
    | true => exact le_at A st1 sub1 ok1 q k
    | false => exact le_at A st1 sub1 ok1 q k⟩
end
end DL

set_option Elab.async false
set_option linter.all false
set_option maxRecDepth 100000
set_option maxHeartbeats 4000000
namespace DL
open PySem PySem.Spec L2

/-! ### the operators over data -/
def MulOk (i j : Int) : Prop := CMul i j ∨ CMulX i j
def DivOk (_ j : Int) : Prop := 0 < j ∧ j.natAbs.log2 < 9000
def fAdd : F2
  | .int i, .int j, Q => Q (.fr (.int (i + j)))
  | .str x, .str y, Q => x.length + y.length ≤ sizeLine ∧ Q (.fr (.str (x ++ y)))
  | .tup xs, .tup ys, Q => xs.length + ys.length ≤ sizeLine ∧ Q (.fr (.tup (xs ++ ys)))
  | .lst xs, .lst ys, Q => xs.length + ys.length ≤ sizeLine ∧ Q (.nw (.lst (xs ++ ys)))
  | _, _, _ => False
def fSub : F2
  | .int i, .int j, Q => Q (.fr (.int (i - j)))
  | _, _, _ => False
def fMul : F2
  | .int i, .int j, Q => MulOk i j ∧ Q (.fr (.int (i * j)))
  | .lst xs, .int j, Q => -(2 ^ 63) ≤ j ∧ j < 2 ^ 63 ∧ xs.length * j.toNat ≤ sizeLine ∧ Q (.nw (.lst (List.replicate j.toNat xs).flatten))
  | _, _, _ => False
def fDiv : F2
  | .int i, .int j, Q => DivOk i j ∧ Q (.fr (.int (i / j)))
  | _, _, _ => False
def fMod : F2
  | .int i, .int j, Q => 0 < j ∧ Q (.fr (.int (i % j)))
  | _, _, _ => False
def fPow : F2
  | .int i, .int j, Q => CPow i j ∧ Q (.fr (.int (i ^ j.toNat)))
  | _, _, _ => False
def fNeg : F1
  | .int i, Q => Q (.fr (.int (-i)))
  | _, _ => False
def fLt : F2
  | .int i, .int j, Q => Q (.fr (.bl (decide (i < j))))
  | _, _, _ => False
def fLe : F2
  | .int i, .int j, Q => Q (.fr (.bl (decide (i ≤ j))))
  | _, _, _ => False
def fGt : F2
  | .int i, .int j, Q => Q (.fr (.bl (decide (j < i))))
  | _, _, _ => False
def fGe : F2
  | .int i, .int j, Q => Q (.fr (.bl (decide (j ≤ i))))
  | _, _, _ => False
mutual
def D.py : D → PyData
  | .non => .none
  | .bl b => .bool b
  | .int i => .int i
  | .str x => .str x
  | .tup ds => .tuple (D.pys ds)
  | .lst ds => .list (D.pys ds)
  | _ => .none
def D.pys : List D → List PyData
  | [] => []
  | d :: ds => d.py :: D.pys ds
end
mutual
def D.isData : D → Bool
  | .non => true
  | .bl _ => true
  | .int _ => true
  | .str _ => true
  | .tup ds => D.areData ds
  | .lst ds => D.areData ds
  | _ => false
def D.areData : List D → Bool
  | [] => true
  | d :: ds => d.isData && D.areData ds
end
/-- data whose == is asked -/
def D.ok (d : D) : Prop := d.isData = true ∧ SeqAt.shaped d.py = true
def fEq : F2 := fun x y Q => x.ok ∧ y.ok ∧ Q (.fr (.bl (PyData.eqv x.py y.py)))
def fNe : F2 := fun x y Q => x.ok ∧ y.ok ∧ Q (.fr (.bl (!PyData.eqv x.py y.py)))
/-- is None -/
def D.isNon : D → Bool
  | .non => true
  | _ => false
def D.isRaw : D → Bool
  | .raw _ => true
  | .tok => true
  | _ => false
def fIsN : F2 := fun x y Q => x.isRaw = false ∧ y = .non ∧ Q (.fr (.bl x.isNon))
def fNotN : F2 := fun x y Q => x.isRaw = false ∧ y = .non ∧ Q (.fr (.bl (!x.isNon)))
def D.flat : D → Bool
  | .non => true
  | .bl _ => true
  | .int _ => true
  | .str _ => true
  | _ => false
/-- in a tuple of flat things, in a list of data -/
def fIn (neg : Bool) : F2
  | x, .tup ds, Q => x.flat = true ∧ ds.all D.flat = true ∧ Q (.fr (.bl (if neg then !(ds.any fun y => PyData.eqv y.py x.py) else ds.any fun y => PyData.eqv y.py x.py)))
  | x, .lst ds, Q => x.ok ∧ (D.lst ds).ok ∧ Q (.fr (.bl (if neg then !(ds.any fun y => PyData.eqv y.py x.py) else ds.any fun y => PyData.eqv y.py x.py)))
  | _, _, _ => False

section
variable {g : Gv} {K : PySem.W.Frag} {tk : Tk} {F H : Hp}
theorem RepS.any {s : S} {v : V} (h : RepS K g tk F H s v) (hm : (∀ ds, s.view ≠ .lst ds) ∧ (∀ ks ds, s.view ≠ .dic ks ds) ∧ s.view ≠ .tok) : Rep K g F s.view v := RepS.fr_ h rfl hm
mutual
theorem Rep.dp (sub : Same F H) : ∀ {d : D} {v : V}, Rep K g F d v → d.isData = true → Dp K H v d.py
  | .non, v, h, _ => by rw [Rep.non_ h]; exact .non
  | .bl b, v, h, _ => by rw [Rep.bl_ h]; exact .bl b
  | .int b, v, h, _ => by rw [Rep.int_ h]; exact .int b
  | .str b, v, h, _ => by rw [Rep.str_ h]; exact .str b
  | .tup ds, v, h, e => by
    obtain ⟨a, vs, rfl, h2, h3⟩ := Rep.tup_ h
    unfold D.py
    unfold D.isData at e
    exact .tup (sqT_same sub h2) (Reps.dp sub h3 e)
  | .lst ds, v, h, e => by
    obtain ⟨a, vs, rfl, h2, h3⟩ := Rep.lst_ h
    unfold D.py
    unfold D.isData at e
    exact .lst (SqL.of (sub _ _ h2)) (Reps.dp sub h3 e)
  | .raw _, _, _, e => by unfold D.isData at e; cases e
  | .ins _ _ _, _, _, e => by unfold D.isData at e; cases e
  | .exc _ _ _, _, _, e => by unfold D.isData at e; cases e
  | .dic _ _, _, _, e => by unfold D.isData at e; cases e
  | .scr _, _, _, e => by unfold D.isData at e; cases e
  | .tok, _, _, e => by unfold D.isData at e; cases e
theorem Reps.dp (sub : Same F H) : ∀ {ds : List D} {vs : List V}, Reps K g F ds vs → D.areData ds = true → DpAll K H vs (D.pys ds)
  | [], vs, h, _ => by
    rw [h.inv_nil]
    unfold D.pys
    exact .nil
  | d :: ds, vs, h, e => by
    obtain ⟨v, r, rfl, q, t⟩ := h.inv_cons
    unfold D.areData at e
    obtain ⟨e1, e2⟩ := Bool.and_eq_true_iff.mp e
    unfold D.pys
    exact .cons (Rep.dp sub q e1) (Reps.dp sub t e2)
end
theorem RepS.dp {s : S} {v : V} (sub : Same F H) (h : RepS K g tk F H s v) (e : s.view.isData = true) : Dp K H v s.view.py := by
  cases q : s.view with
  | lst ds =>
    obtain ⟨a, vs, rfl, h2, h3⟩ := RepS.lst sub h q
    rw [q] at e
    unfold D.isData at e
    unfold D.py
    exact .lst (SqL.of h2) (Reps.dp sub h3 e)
  | dic ks ds =>
    rw [q] at e
    unfold D.isData at e
    cases e
  | tok =>
    rw [q] at e
    unfold D.isData at e
    cases e
  | _ =>
    rw [← q]
    refine Rep.dp sub (RepS.any h ⟨fun ds z => ?_, fun ks ds z => ?_, fun z => ?_⟩) e
    · rw [q] at z; cases z
    · rw [q] at z; cases z
    · rw [q] at z; cases z
end

section
variable {g : Gv} {X : Cx}
theorem rs_int {K : PySem.W.Frag} {r : R2} {f : F2} {C : Int → Int → Prop} {h : Int → Int → D} {hv : Int → Int → V}
    (hr : ∀ i j H Q, C i j → Q (hv i j) H → r (.int i) (.int j) H Q) (hd : ∀ F i j, Rep K g F (h i j) (hv i j)) (hf : ∀ x y Q, f x y Q → ∃ i j, x = .int i ∧ y = .int j ∧ C i j ∧ Q (.fr (h i j))) : OpS g K r f := by
  intro tk F H s1 s2 v w Q Q' hT sub ok r1 r2 q k
  obtain ⟨i, j, e1, e2, c, q⟩ := hf _ _ _ q
  rw [RepS.int r1 e1, RepS.int r2 e2]
  exact hr i j H Q' c (k _ H (VO.fr sub ok (hd F i j) q))
def rAdd (K : PySem.W.Frag) : R2 := fun x y H Q => (∃ i j, x = .int i ∧ y = .int j ∧ Q (.int (i + j)) H) ∨ (∃ i j, x = .str i ∧ y = .str j ∧ i.length + j.length ≤ sizeLine ∧ Q (.str (i ++ j)) H) ∨ rCatA K x y H Q ∨ rCat x y H Q
theorem or_add : OpR X (binaryOp .Add) (rAdd X.K) := OpR.or op_add (OpR.or op_add_str (OpR.or op_catA op_cat))
theorem os_add {K : PySem.W.Frag} : OpS g K (rAdd K) fAdd := by
  intro tk F H s1 s2 v w Q Q' hT sub ok r1 r2 q k
  cases e1 : s1.view with
  | int i =>
    cases e2 : s2.view with
    | int j =>
      rw [e1, e2] at q
      rw [RepS.int r1 e1, RepS.int r2 e2]
      exact .inl ⟨i, j, rfl, rfl, k _ H (VO.int sub ok q)⟩
    | _ => rw [e1, e2] at q; exact q.elim
  | str i =>
    cases e2 : s2.view with
    | str j =>
      rw [e1, e2] at q
      rw [RepS.str r1 e1, RepS.str r2 e2]
      exact .inr (.inl ⟨i, j, rfl, rfl, q.1, k _ H (VO.str sub ok q.2)⟩)
    | _ => rw [e1, e2] at q; exact q.elim
  | tup xs =>
    cases e2 : s2.view with
    | tup ys =>
      rw [e1, e2] at q
      obtain ⟨a, vs, rfl, h2, h3⟩ := RepS.tup sub r1 e1
      obtain ⟨b, ws, rfl, h4, h5⟩ := RepS.tup sub r2 e2
      have l1 := h3.length
      have l2 := h5.length
      obtain ⟨q1, q2⟩ : xs.length + ys.length ≤ sizeLine ∧ Q (.fr (.tup (xs ++ ys))) := q
      refine .inr (.inr (.inl ⟨a, b, vs, ws, rfl, rfl, h2, h4, by omega, fun z => ?_, fun z1 z2 => ?_, fun _ _ p hp => ?_⟩))
      · subst z
        have zx : xs = [] := by
          cases xs with
          | nil => rfl
          | cons _ _ => simp at l1
        subst zx
        exact k _ H (VO.here (r := .fr (.tup ys)) sub ok (by
          have z := RepS.fr_ r2 e2 ⟨fun _ z => (nomatch z), fun _ _ z => (nomatch z), fun z => (nomatch z)⟩
          exact z) rfl q2)
      · subst z2
        have zy : ys = [] := by
          cases ys with
          | nil => rfl
          | cons _ _ => simp at l2
        subst zy
        rw [List.append_nil] at q2
        exact k _ H (VO.here (r := .fr (.tup xs)) sub ok (by
          have z := RepS.fr_ r1 e1 ⟨fun _ z => (nomatch z), fun _ _ z => (nomatch z), fun z => (nomatch z)⟩
          exact z) rfl q2)
      · have f3 := RepS.fr_ r1 e1 ⟨fun _ z => (nomatch z), fun _ _ z => (nomatch z), fun z => (nomatch z)⟩
        obtain ⟨a', vs', ea, _, _⟩ := Rep.tup_ f3
        exact k _ _ (VO.tup sub ok hp (h3.append h5) q2)
    | _ => rw [e1, e2] at q; exact q.elim
  | lst xs =>
    cases e2 : s2.view with
    | lst ys =>
      rw [e1, e2] at q
      obtain ⟨a, vs, rfl, h2, h3⟩ := RepS.lst sub r1 e1
      obtain ⟨b, ws, rfl, h4, h5⟩ := RepS.lst sub r2 e2
      have l1 := h3.length
      have l2 := h5.length
      obtain ⟨q1, q2⟩ : xs.length + ys.length ≤ sizeLine ∧ Q (.nw (.lst (xs ++ ys))) := q
      exact .inr (.inr (.inr ⟨a, b, vs, ws, rfl, rfl, h2, h4, by omega, fun p hp => k _ _ (VO.lst sub ok hp (h3.append h5) q2)⟩))
    | _ => rw [e1, e2] at q; exact q.elim
  | _ => rw [e1] at q; cases e2 : s2.view <;> rw [e2] at q <;> exact q.elim
theorem reps_rep {K : PySem.W.Frag} {F : Hp} {ds : List D} {vs : List V} (h : Reps K g F ds vs) : ∀ n : Nat, Reps K g F (List.replicate n ds).flatten (List.replicate n vs).flatten
  | 0 => .nil
  | n + 1 => by
    rw [List.replicate_succ, List.replicate_succ, List.flatten_cons, List.flatten_cons]
    exact h.append (reps_rep h n)
theorem os_sub {K : PySem.W.Frag} : OpS g K (rI0 fun i j => .int (i - j)) fSub := rs_int (C := fun _ _ => True) (h := fun i j => .int (i - j)) (hv := fun i j => .int (i - j)) (fun i j H Q _ q => ⟨i, j, rfl, rfl, q⟩) (fun _ _ _ => Rep.int _) fun x y Q q => by
  cases x <;> cases y <;> first | exact ⟨_, _, rfl, rfl, trivial, q⟩ | exact q.elim
def rMulA : R2 := fun x y H Q => rI CMul (fun i j => .int (i * j)) x y H Q ∨ rI CMulX (fun i j => .int (i * j)) x y H Q ∨ rRep x y H Q
theorem or_mul : OpR X (binaryOp .Mult) rMulA := OpR.or op_mul (OpR.or op_mulX op_rep)
theorem os_mul {K : PySem.W.Frag} : OpS g K rMulA fMul := by
  intro tk F H s1 s2 v w Q Q' hT sub ok r1 r2 q k
  cases e1 : s1.view with
  | int i =>
    cases e2 : s2.view with
    | int j =>
      rw [e1, e2] at q
      obtain ⟨q1, q2⟩ : MulOk i j ∧ Q (.fr (.int (i * j))) := q
      rw [RepS.int r1 e1, RepS.int r2 e2]
      rcases q1 with c | c
      · exact .inl ⟨i, j, rfl, rfl, c, k _ H (VO.int sub ok q2)⟩
      · exact .inr (.inl ⟨i, j, rfl, rfl, c, k _ H (VO.int sub ok q2)⟩)
    | _ => rw [e1, e2] at q; exact q.elim
  | lst xs =>
    cases e2 : s2.view with
    | int j =>
      rw [e1, e2] at q
      obtain ⟨q1, q2, q3, q4⟩ : -(2 ^ 63) ≤ j ∧ j < 2 ^ 63 ∧ xs.length * j.toNat ≤ sizeLine ∧ Q (.nw (.lst (List.replicate j.toNat xs).flatten)) := q
      obtain ⟨a, vs, rfl, h2, h3⟩ := RepS.lst sub r1 e1
      rw [RepS.int r2 e2]
      have l1 := h3.length
      exact .inr (.inr ⟨a, j, vs, rfl, rfl, h2, q1, q2, by rw [l1]; exact q3, fun p hp => k _ _ (VO.lst sub ok hp (reps_rep h3 _) q4)⟩)
    | _ => rw [e1, e2] at q; exact q.elim
  | _ => rw [e1] at q; cases e2 : s2.view <;> rw [e2] at q <;> exact q.elim
theorem os_div {K : PySem.W.Frag} : OpS g K (rI CDivW fun i j => .int (i / j)) fDiv := rs_int (C := DivOk) (h := fun i j => .int (i / j)) (hv := fun i j => .int (i / j)) (fun i j H Q c q => ⟨i, j, rfl, rfl, c, q⟩) (fun _ _ _ => Rep.int _) fun x y Q q => by
  cases x <;> cases y <;> first | exact ⟨_, _, rfl, rfl, q.1, q.2⟩ | exact q.elim
theorem os_mod {K : PySem.W.Frag} : OpS g K (rI (fun _ j => 0 < j) fun i j => .int (i % j)) fMod := rs_int (C := fun _ j => 0 < j) (h := fun i j => .int (i % j)) (hv := fun i j => .int (i % j)) (fun i j H Q c q => ⟨i, j, rfl, rfl, c, q⟩) (fun _ _ _ => Rep.int _) fun x y Q q => by
  cases x <;> cases y <;> first | exact ⟨_, _, rfl, rfl, q.1, q.2⟩ | exact q.elim
theorem os_pow {K : PySem.W.Frag} : OpS g K (rI CPow fun i j => .int (i ^ j.toNat)) fPow := rs_int (C := CPow) (h := fun i j => .int (i ^ j.toNat)) (hv := fun i j => .int (i ^ j.toNat)) (fun i j H Q c q => ⟨i, j, rfl, rfl, c, q⟩) (fun _ _ _ => Rep.int _) fun x y Q q => by
  cases x <;> cases y <;> first | exact ⟨_, _, rfl, rfl, q.1, q.2⟩ | exact q.elim
theorem us_neg {K : PySem.W.Frag} : UnS g K (rU fun i => .int (-i)) fNeg := by
  intro tk F H s v Q Q' hT sub ok r1 q k
  cases e : s.view with
  | int i =>
    rw [e] at q
    rw [RepS.int r1 e]
    exact ⟨i, rfl, k _ H (VO.int sub ok q)⟩
  | _ => rw [e] at q; exact q.elim
theorem os_lt {K : PySem.W.Frag} : OpS g K (rI0 fun i j => .bl (decide (i < j))) fLt := rs_int (C := fun _ _ => True) (h := fun i j => .bl (decide (i < j))) (hv := fun i j => .bl (decide (i < j))) (fun i j H Q _ q => ⟨i, j, rfl, rfl, q⟩) (fun _ _ _ => Rep.bl _) fun x y Q q => by
  cases x <;> cases y <;> first | exact ⟨_, _, rfl, rfl, trivial, q⟩ | exact q.elim
theorem os_le {K : PySem.W.Frag} : OpS g K (rI0 fun i j => .bl (decide (i ≤ j))) fLe := rs_int (C := fun _ _ => True) (h := fun i j => .bl (decide (i ≤ j))) (hv := fun i j => .bl (decide (i ≤ j))) (fun i j H Q _ q => ⟨i, j, rfl, rfl, q⟩) (fun _ _ _ => Rep.bl _) fun x y Q q => by
  cases x <;> cases y <;> first | exact ⟨_, _, rfl, rfl, trivial, q⟩ | exact q.elim
theorem os_gt {K : PySem.W.Frag} : OpS g K (rI0 fun i j => .bl (decide (j < i))) fGt := rs_int (C := fun _ _ => True) (h := fun i j => .bl (decide (j < i))) (hv := fun i j => .bl (decide (j < i))) (fun i j H Q _ q => ⟨i, j, rfl, rfl, q⟩) (fun _ _ _ => Rep.bl _) fun x y Q q => by
  cases x <;> cases y <;> first | exact ⟨_, _, rfl, rfl, trivial, q⟩ | exact q.elim
theorem os_ge {K : PySem.W.Frag} : OpS g K (rI0 fun i j => .bl (decide (j ≤ i))) fGe := rs_int (C := fun _ _ => True) (h := fun i j => .bl (decide (j ≤ i))) (hv := fun i j => .bl (decide (j ≤ i))) (fun i j H Q _ q => ⟨i, j, rfl, rfl, q⟩) (fun _ _ _ => Rep.bl _) fun x y Q q => by
  cases x <;> cases y <;> first | exact ⟨_, _, rfl, rfl, trivial, q⟩ | exact q.elim
/-! == over data, is None, in -/
theorem os_eq {K : PySem.W.Frag} : OpS g K (rEqD K) fEq := by
  intro tk F H s1 s2 v w Q Q' hT sub ok r1 r2 q k
  obtain ⟨a, b, q⟩ := q
  exact ⟨_, _, RepS.dp sub r1 a.1, RepS.dp sub r2 b.1, a.2, b.2, k _ H (VO.bl sub ok q)⟩
theorem os_ne {K : PySem.W.Frag} : OpS g K (rNeD K) fNe := by
  intro tk F H s1 s2 v w Q Q' hT sub ok r1 r2 q k
  obtain ⟨a, b, q⟩ := q
  exact ⟨_, _, RepS.dp sub r1 a.1, RepS.dp sub r2 b.1, a.2, b.2, k _ H (VO.bl sub ok q)⟩
theorem rep_non {K : PySem.W.Frag} {F : Hp} {d : D} {v : V} (h : Rep K g F d v) (hr : ∀ w, d ≠ .raw w) : decide (v = .non) = d.isNon := by
  cases d with
  | non => rw [Rep.non_ h]; rfl
  | bl b => rw [Rep.bl_ h]; rfl
  | int b => rw [Rep.int_ h]; rfl
  | str b => rw [Rep.str_ h]; rfl
  | tup ds => obtain ⟨a, vs, rfl, _⟩ := Rep.tup_ h; rfl
  | lst ds => obtain ⟨a, vs, rfl, _⟩ := Rep.lst_ h; rfl
  | raw w => exact absurd rfl (hr w)
  | ins c ns ds => unfold Rep at h; obtain ⟨a, dx, vs, rfl, _⟩ := h; rfl
  | exc c ns ds => unfold Rep at h; obtain ⟨a, dx, vs, rfl, _⟩ := h; rfl
  | dic ks ds => unfold Rep at h; obtain ⟨a, vs, rfl, _⟩ := h; rfl
  | scr ns => unfold Rep at h; obtain ⟨a, rfl, _⟩ := h; rfl
  | tok => unfold Rep at h; exact h.elim
theorem repS_non {K : PySem.W.Frag} {tk : Tk} {F H : Hp} {s : S} {v : V} (h : RepS K g tk F H s v) (hr : s.view.isRaw = false) : decide (v = .non) = s.view.isNon := by
  cases s with
  | fr d => exact rep_non h fun w z => by (have z' : d = .raw w := z; subst z'; cases hr)
  | nw d =>
    obtain ⟨p, rfl, _, _, o⟩ := h
    cases d with
    | lst ds => rfl
    | dic ks ds => rfl
    | _ => exact o.elim
  | bw d =>
    obtain ⟨p, rfl, _, _, o⟩ := h
    cases d with
    | lst ds => rfl
    | dic ks ds => rfl
    | _ => exact o.elim
  | tk => cases hr
theorem os_isN {K : PySem.W.Frag} : OpS g K (fun x y H Q => y = .non ∧ Q (.bl (decide (x = .non))) H) fIsN := by
  intro tk F H s1 s2 v w Q Q' hT sub ok r1 r2 q k
  obtain ⟨hr, a, q⟩ := q
  have e2 : w = .non := Rep.non_ (K := K) (g := g) (F := F) (RepS.fr_ r2 a ⟨fun _ z => (nomatch z), fun _ _ z => (nomatch z), fun z => (nomatch z)⟩)
  refine ⟨e2, ?_⟩
  rw [repS_non r1 hr]
  exact k _ H (VO.bl sub ok q)
theorem os_notN {K : PySem.W.Frag} : OpS g K (fun x y H Q => y = .non ∧ Q (.bl (!decide (x = .non))) H) fNotN := by
  intro tk F H s1 s2 v w Q Q' hT sub ok r1 r2 q k
  obtain ⟨hr, a, q⟩ := q
  have e2 : w = .non := Rep.non_ (K := K) (g := g) (F := F) (RepS.fr_ r2 a ⟨fun _ z => (nomatch z), fun _ _ z => (nomatch z), fun z => (nomatch z)⟩)
  refine ⟨e2, ?_⟩
  rw [repS_non r1 hr]
  exact k _ H (VO.bl sub ok q)
theorem flat_of {K : PySem.W.Frag} {F : Hp} {d : D} {v : V} (h : Rep K g F d v) (e : d.flat = true) : flatV v = true := by
  cases d with
  | non => rw [Rep.non_ h]; rfl
  | bl b => rw [Rep.bl_ h]; rfl
  | int b => rw [Rep.int_ h]; rfl
  | str b => rw [Rep.str_ h]; rfl
  | _ => cases e
theorem flats_of {K : PySem.W.Frag} {F : Hp} : ∀ {ds : List D} {vs : List V}, Reps K g F ds vs → ds.all D.flat = true → vs.all flatV = true
  | [], vs, h, _ => by rw [h.inv_nil]; rfl
  | d :: ds, vs, h, e => by
    obtain ⟨v, r, rfl, q, t⟩ := h.inv_cons
    obtain ⟨e1, e2⟩ := Bool.and_eq_true_iff.mp (show (d.flat && ds.all D.flat) = true from e)
    show (flatV v && r.all flatV) = true
    rw [flat_of q e1, flats_of t e2]
    rfl
end
end DL

set_option Elab.async false
set_option linter.all false
set_option maxRecDepth 100000
set_option maxHeartbeats 4000000
namespace DL
open PySem PySem.Spec L2

/-! ### in -/
section
variable {g : Gv} {X : Cx} {K : PySem.W.Frag} {tk : Tk} {F H : Hp}
theorem eqV_py {d e : D} {v w : V} (h : Rep K g F d v) (k : Rep K g F e w) (hd : d.flat = true) (he : e.flat = true) : eqV v w = PyData.eqv d.py e.py := by
  cases d with
  | non =>
    rw [Rep.non_ h]
    cases e with
    | non => rw [Rep.non_ k]; rfl
    | bl b => rw [Rep.bl_ k]; rfl
    | int b => rw [Rep.int_ k]; rfl
    | str b => rw [Rep.str_ k]; rfl
    | _ => cases he
  | bl b =>
    rw [Rep.bl_ h]
    cases e with
    | non => rw [Rep.non_ k]; rfl
    | bl b => rw [Rep.bl_ k]; simp [eqV, D.py, PyData.eqv]
    | int b => rw [Rep.int_ k]; simp [eqV, D.py, PyData.eqv]
    | str b => rw [Rep.str_ k]; rfl
    | _ => cases he
  | int b =>
    rw [Rep.int_ h]
    cases e with
    | non => rw [Rep.non_ k]; rfl
    | bl b => rw [Rep.bl_ k]; simp [eqV, D.py, PyData.eqv]
    | int b => rw [Rep.int_ k]; simp [eqV, D.py, PyData.eqv]
    | str b => rw [Rep.str_ k]; rfl
    | _ => cases he
  | str b =>
    rw [Rep.str_ h]
    cases e with
    | non => rw [Rep.non_ k]; rfl
    | bl b => rw [Rep.bl_ k]; rfl
    | int b => rw [Rep.int_ k]; rfl
    | str b => rw [Rep.str_ k]; simp [eqV, D.py, PyData.eqv]
    | _ => cases he
  | _ => cases hd
theorem inV_py {e : D} {w : V} (k : Rep K g F e w) (he : e.flat = true) : ∀ {ds : List D} {vs : List V}, Reps K g F ds vs → ds.all D.flat = true → inV w vs = ds.any fun y => PyData.eqv y.py e.py
  | [], vs, h, _ => by rw [h.inv_nil]; rfl
  | d :: ds, vs, h, hf => by
    obtain ⟨v, r, rfl, q, t⟩ := h.inv_cons
    obtain ⟨e1, e2⟩ := Bool.and_eq_true_iff.mp (show (d.flat && ds.all D.flat) = true from hf)
    have ih := inV_py k he t e2
    unfold inV at ih ⊢
    rw [List.any_cons, List.any_cons, ih, eqV_py q k e1 he]
theorem pys_any (e : PyData) : ∀ ds : List D, ((D.pys ds).any fun z => PyData.eqv z e) = ds.any fun y => PyData.eqv y.py e
  | [] => rfl
  | d :: ds => by
    unfold D.pys
    rw [List.any_cons, List.any_cons, pys_any e ds]
def rInA (K : PySem.W.Frag) (neg : Bool) : R2 := fun x y H Q => rIn K neg x y H Q ∨ (if neg then rNotInD K else rInD K) x y H Q
theorem or_in (hu : X.A.units + 65 < cLine) : OpR X (compareOp .In) (rInA X.K false) := OpR.or op_in_seq (op_inD hu)
theorem or_notIn (hu : X.A.units + 65 < cLine) : OpR X (compareOp .NotIn) (rInA X.K true) := OpR.or op_notIn_seq (op_notInD hu)
theorem os_in (neg : Bool) : OpS g K (rInA K neg) (fIn neg) := by
  intro tk F H s1 s2 v w Q Q' hT sub ok r1 r2 q k
  cases e2 : s2.view with
  | tup ds =>
    rw [e2] at q
    unfold fIn at q
    obtain ⟨q1, q2, q3⟩ := q
    obtain ⟨a, vs, rfl, h2, h3⟩ := RepS.tup sub r2 e2
    have rx : Rep K g F s1.view v := RepS.any r1 ⟨fun ds z => by (rw [z] at q1; cases q1), fun ks ds z => by (rw [z] at q1; cases q1), fun z => by (rw [z] at q1; cases q1)⟩
    have e := inV_py rx q1 h3 q2
    refine .inl ⟨a, vs, rfl, .inr h2, flat_of rx q1, flats_of h3 q2, k _ H (VO.bl sub ok ?_)⟩
    rw [e]
    exact q3
  | lst ds =>
    rw [e2] at q
    unfold fIn at q
    obtain ⟨q1, q2, q3⟩ := q
    have d1 := RepS.dp sub r1 q1.1
    have d2 : Dp K H w (.list (D.pys ds)) := by
      have z := RepS.dp sub r2 (by rw [e2]; exact q2.1)
      rw [e2] at z
      unfold D.py at z
      exact z
    have s2' : SeqAt.shaped (.list (D.pys ds)) = true := by
      have z := q2.2
      unfold D.py at z
      exact z
    refine .inr ?_
    cases neg with
    | true =>
      refine ⟨_, _, d1, d2, q1.2, s2', k _ H (VO.bl sub ok ?_)⟩
      rw [pys_any]
      exact q3
    | false =>
      refine ⟨_, _, d1, d2, q1.2, s2', k _ H (VO.bl sub ok ?_)⟩
      rw [pys_any]
      exact q3
  | _ => rw [e2] at q; unfold fIn at q; exact q.elim
end

/-! ### new things stand still where they are handed on -/
def S.fz : S → S
  | .nw d => .fr d
  | s => s
theorem VO.fz {K : PySem.W.Frag} {g : Gv} {tk : Tk} {F H : Hp} {Q : S → Prop} {v : V} {H' : Hp} (h : VO K g tk F H Q v H') :
    ∃ F' r, Step tk F H F' H' ∧ Same F' H' ∧ tk.ok F' H' ∧ RepS K g tk F' H' r.fz v ∧ Q r := by
  obtain ⟨F', r, st, sub, ok, rep, fr, q⟩ := h
  cases r with
  | nw d =>
    obtain ⟨p, rfl, hF, hn, ho⟩ := rep
    have hp := fr d p rfl rfl
    obtain ⟨o, e, nt, rp⟩ := ho.rep hF
    refine ⟨upd F' p o, .nw d, ⟨st.fr.trans (Step.freeze (tk := tk) (H := H) hF), fun a u e1 e2 => ?_, st.kp, st.ad⟩, same_upd sub e, ?_, rp, q⟩
    · by_cases z : a = p
      · rw [z]
        exact hp
      · rw [upd_ne z] at e1
        exact st.nw a u e1 e2
    · refine tk.st _ _ _ _ ok (Step.freeze (tk := tk) (H := H) hF) (fun a u e1 _ => e1) (fun a ha => ?_) fun a u e1 n => ?_
      · have z : a ≠ p := fun z => hn (by rw [← z]; exact ha)
        rw [upd_ne z]
        exact (tk.fr _ _ ok a ha).1
      · by_cases h : a = p
        · subst h
          rw [upd_same] at e1
          cases e1
          exact nt
        · rw [upd_ne h, n] at e1
          cases e1
  | fr d => exact ⟨F', .fr d, st, sub, ok, rep, q⟩
  | bw d => exact ⟨F', .bw d, st, sub, ok, rep, q⟩
  | tk => exact ⟨F', .tk, st, sub, ok, rep, q⟩

/-! ### arguments -/
def dNil : DA := fun _ Q _ => Q []
def dCons (t : DE) (u : DA) : DA := fun α Q E => t α (fun x => u α (fun xs => Q (x.fz :: xs)) E) E
section
variable {g : Gv} {X : Cx} {e : Expr} {es : List Expr} {t : DE} {u : DA} {pos : Pos}
theorem qa_nil : QA g X [] dNil := ⟨fun tk Fe He E hT hx => pa_nil.dimp fun σ H Q' h => by
  obtain ⟨F, α, Q, A, q, k⟩ := h
  exact k [] H F [] (Step.refl _ _ _) A.sub A.ok rfl q⟩
theorem qa_cons (ha : QE g X e t) (hr : QA g X es u) (hs : starEach (e :: es) X.env = (false, eval e X.env) :: starEach es X.env := by rfl) : QA g X (e :: es) (dCons t u) :=
  ⟨fun tk Fe He E hT hx => (pa_cons (ha.pe tk Fe He E hT hx) (hr.pa tk Fe He E hT hx) hs).dimp fun σ H Q' h => by
    obtain ⟨F, α, Q, A, q, k⟩ := h
    refine ⟨F, α, _, A, q, fun v H1 h1 => ?_⟩
    obtain ⟨F1, r, st1, sub1, ok1, rep1, q1⟩ := h1.fz
    refine ⟨F1, α, _, A.step st1 sub1 ok1, q1, fun vs H2 F2 ss st2 sub2 ok2 reps q2 => ?_⟩
    exact k (v :: vs) H2 F2 (r.fz :: ss) (st1.trans st2) sub2 ok2 ⟨v, vs, rfl, rep1.step st2, reps⟩ q2⟩
theorem RepSs.frs {K : PySem.W.Frag} {tk : Tk} {F H : Hp} : ∀ {ds : List D} {vs : List V}, RepSs K g tk F H (ds.map S.fr) vs → Reps K g F ds vs
  | [], vs, h => by (have e : vs = [] := h); rw [e]; exact .nil
  | d :: ds, vs, h => by
    obtain ⟨v, r, rfl, q, t⟩ := h
    exact .cons q (RepSs.frs t)
/-- (a, b, ..), [a, b, ..] -/
def dTupE (u : DA) : DE := fun α Q E => u α (fun ss => ∃ ds, ss = ds.map S.fr ∧ ds.length ≤ sizeLine ∧ Q (.fr (.tup ds))) E
def dLstE (u : DA) : DE := fun α Q E => u α (fun ss => ∃ ds, ss = ds.map S.fr ∧ ds.length ≤ sizeLine ∧ Q (.nw (.lst ds))) E
theorem qe_tup {x1} (h : QA g X es u) : QE g X (.Tuple es x1 pos) (dTupE u) :=
  ⟨fun tk Fe He E hT hx => (pe_tup (h.pa tk Fe He E hT hx)).dimp fun σ H Q' h => by
    obtain ⟨F, α, Q, A, q, k⟩ := h
    refine ⟨F, α, _, A, q, fun vs H1 F1 ss st1 sub1 ok1 reps q1 => ?_⟩
    obtain ⟨ds, rfl, hl, q1⟩ := q1
    have r := reps.frs
    exact ⟨by rw [r.length]; exact hl, fun p hp => k _ _ ((VO.tup sub1 ok1 hp r q1).at st1)⟩⟩
theorem qe_lst (h : QA g X es u) : QE g X (.List es pos) (dLstE u) :=
  ⟨fun tk Fe He E hT hx => (pe_lst (h.pa tk Fe He E hT hx)).dimp fun σ H Q' h => by
    obtain ⟨F, α, Q, A, q, k⟩ := h
    refine ⟨F, α, _, A, q, fun vs H1 F1 ss st1 sub1 ok1 reps q1 => ?_⟩
    obtain ⟨ds, rfl, hl, q1⟩ := q1
    have r := reps.frs
    exact ⟨by rw [r.length]; exact hl, fun p hp => k _ _ ((VO.lst sub1 ok1 hp r q1).at st1)⟩⟩
end

/-! ### subscripts, slices -/
def fIx : F2
  | .tup ds, .int i, Q => ∃ d, atI ds i = some d ∧ Q (.fr d)
  | .lst ds, .int i, Q => ∃ d, atI ds i = some d ∧ Q (.fr d)
  | _, _, _ => False
section
variable {g : Gv} {X : Cx} {K : PySem.W.Frag} {tk : Tk} {F H : Hp}
theorem atI_reps {ds : List D} {vs : List V} {i : Int} {d : D} (h : Reps K g F ds vs) (e : atI ds i = some d) : ∃ v, atI vs i = some v ∧ Rep K g F d v := by
  unfold atI at e ⊢
  rw [h.length]
  cases q : ixN ds.length i with
  | none => rw [q] at e; cases e
  | some j =>
    rw [q] at e
    exact h.get (show ds[j]? = some d from e)
def rIx2 (K : PySem.W.Frag) : R2 := fun x y H Q => rIxL K x y H Q ∨ rIxT K x y H Q
theorem os_ix : OpS g K (rIx2 K) fIx := by
  intro tk F H s1 s2 v w Q Q' hT sub ok r1 r2 q k
  cases e1 : s1.view with
  | tup ds =>
    cases e2 : s2.view with
    | int i =>
      rw [e1, e2] at q
      obtain ⟨d, e, q⟩ := q
      obtain ⟨a, vs, rfl, h2, h3⟩ := RepS.tup sub r1 e1
      obtain ⟨u, e3, rp⟩ := atI_reps h3 e
      rw [RepS.int r2 e2]
      exact .inr ⟨a, vs, i, u, rfl, rfl, h2, e3, k _ H (VO.fr sub ok rp q)⟩
    | _ => rw [e1, e2] at q; exact q.elim
  | lst ds =>
    cases e2 : s2.view with
    | int i =>
      rw [e1, e2] at q
      obtain ⟨d, e, q⟩ := q
      obtain ⟨a, vs, rfl, h2, h3⟩ := RepS.lst sub r1 e1
      obtain ⟨u, e3, rp⟩ := atI_reps h3 e
      rw [RepS.int r2 e2]
      exact .inl ⟨a, vs, i, u, rfl, rfl, SqL.of h2, e3, k _ H (VO.fr sub ok rp q)⟩
    | _ => rw [e1, e2] at q; exact q.elim
  | _ => rw [e1] at q; cases e2 : s2.view <;> rw [e2] at q <;> exact q.elim
theorem qe_ix {a b : Expr} {ta tb : DE} {pos : Pos} (ha : QE g X a ta) (hb : QE g X b tb) (hs : PlainIx b) : QE g X (.Subscript a b pos) (dBin fIx ta tb) :=
  ⟨fun tk Fe He E hT hx => (pe_ix (ix_list.or ix_tup) (ha.pe tk Fe He E hT hx) (hb.pe tk Fe He E hT hx) hs).dimp fun σ H Q' h => bin_red hT os_ix h⟩
/-- parts of slices -/
abbrev DO := AE → (Option Int → Prop) → (XD → Prop) → Prop
def LO (K : PySem.W.Frag) (g : Gv) (tk : Tk) (Fe He : Hp) (E : XD → Prop) (t : DO) : TO := fun σ H Q' =>
  ∃ F α Q, Ab K g tk Fe He F H α σ ∧ t α Q E ∧ ∀ o H' F', Step tk F H F' H' → Same F' H' → tk.ok F' H' → Q o → Q' o H'
structure QO (g : Gv) (X : Cx) (e : Option Expr) (t : DO) : Prop where
  po : ∀ (tk : Tk) (Fe He : Hp) (E : XD → Prop), g.T tk → Takes X (WD X.K g tk Fe He E) → PO X e (LO X.K g tk Fe He E t)
theorem _root_.L2.PO.dimp {X : Cx} {e : Option Expr} {t t' : TO} (h : PO X e t) (k : ∀ σ H Q, t' σ H Q → t σ H Q) : PO X e t' := ⟨fun pins s σ H Q I q => h.run pins s σ H Q I (k σ H Q q)⟩
def dNoPart : DO := fun _ Q _ => Q none
def dPart (t : DE) : DO := fun α Q E => t α (fun x => ∃ i, x.view = .int i ∧ Q (some i)) E
theorem qo_none : QO g X none dNoPart := ⟨fun tk Fe He E hT hx => po_none.dimp fun σ H Q' h => by
  obtain ⟨F, α, Q, A, q, k⟩ := h
  exact k none H F (Step.refl _ _ _) A.sub A.ok q⟩
theorem qo_some {e : Expr} {t : DE} (he : QE g X e t) : QO g X (some e) (dPart t) := ⟨fun tk Fe He E hT hx => (po_some (he.pe tk Fe He E hT hx)).dimp fun σ H Q' h => by
  obtain ⟨F, α, Q, A, q, k⟩ := h
  refine ⟨F, α, _, A, q, fun v H1 h1 => ?_⟩
  obtain ⟨F1, r, st1, sub1, ok1, rep1, _, i, e, q1⟩ := h1
  exact ⟨i, RepS.int rep1 e, k _ H1 F1 st1 sub1 ok1 q1⟩⟩
def cutD (ds : List D) (lo hi : Option Int) : List D := (ds.drop (HT.sIx ds.length 0 lo)).take (HT.sIx ds.length ds.length hi - HT.sIx ds.length 0 lo)
theorem cut_reps {ds : List D} {vs : List V} (lo hi : Option Int) (h : Reps K g F ds vs) : Reps K g F (cutD ds lo hi) (cutV vs lo hi) := by
  unfold cutD cutV
  rw [h.length]
  exact (h.drop _).take _
def fSl : D → Option Int → Option Int → (S → Prop) → Prop
  | .tup ds, lo, hi, Q => Q (.fr (.tup (cutD ds lo hi)))
  | .lst ds, lo, hi, Q => Q (.nw (.lst (cutD ds lo hi)))
  | _, _, _, _ => False
def dSl (t : DE) (l h : DO) : DE := fun α Q E => t α (fun x => l α (fun lo => h α (fun hi => fSl x.view lo hi Q) E) E) E
theorem qe_slice {e : Expr} {lo hi : Option Expr} {t : DE} {l h : DO} {p2 pos : Pos} (he : QE g X e t) (hl : QO g X lo l) (hh : QO g X hi h) : QE g X (.Subscript e (.Slice lo hi none p2) pos) (dSl t l h) :=
  ⟨fun tk Fe He E hT hx => (pe_slice (sl_list.or sl_tupA) (he.pe tk Fe He E hT hx) (hl.po tk Fe He E hT hx) (hh.po tk Fe He E hT hx)).dimp fun σ H Q' h => by
    obtain ⟨F, α, Q, A, q, k⟩ := h
    refine ⟨F, α, _, A, q, fun v H1 h1 => ?_⟩
    obtain ⟨F1, r, st1, sub1, ok1, rep1, _, q1⟩ := h1
    refine ⟨F1, α, _, A.step st1 sub1 ok1, q1, fun lo H2 F2 st2 sub2 ok2 q2 => ?_⟩
    refine ⟨F2, α, _, A.step (st1.trans st2) sub2 ok2, q2, fun hi H3 F3 st3 sub3 ok3 q3 => ?_⟩
    have st := (st1.trans st2).trans st3
    have rp := (rep1.step st2).step st3
    cases e1 : r.view with
    | tup ds =>
      rw [e1] at q3
      obtain ⟨a, vs, rfl, h2, h3⟩ := RepS.tup sub3 rp e1
      have l1 := h3.length
      refine .inr ⟨a, vs, rfl, h2, fun z => ?_, fun _ p hp => k _ _ ((VO.tup sub3 ok3 hp (cut_reps lo hi h3) q3).at st)⟩
      have e : cutD ds lo hi = ds := by
        unfold cutD
        rw [← l1, z.1, z.2, Nat.sub_zero, List.drop_zero, l1, List.take_length]
      have q3' : Q (.fr (.tup (cutD ds lo hi))) := q3
      rw [e] at q3'
      exact k _ _ ((VO.here (r := .fr (.tup ds)) sub3 ok3 (RepS.fr_ rp e1 ⟨fun _ z => (nomatch z), fun _ _ z => (nomatch z), fun z => (nomatch z)⟩) rfl q3').at st)
    | lst ds =>
      rw [e1] at q3
      obtain ⟨a, vs, rfl, h2, h3⟩ := RepS.lst sub3 rp e1
      exact .inl ⟨a, vs, rfl, SqL.of h2, fun p hp => k _ _ ((VO.lst sub3 ok3 hp (cut_reps lo hi h3) q3).at st)⟩
    | _ => rw [e1] at q3; exact q3.elim⟩
end

/-! ### built-ins called -/
abbrev FC := List S → (S → Prop) → Prop
def CallS (g : Gv) (K : PySem.W.Frag) (r : List V → Hp → VK → Prop) (f : FC) : Prop :=
  ∀ (tk : Tk) (F H : Hp) (ss : List S) (vs : List V) (Q : S → Prop) (Q' : VK), g.T tk → Same F H → tk.ok F H → RepSs K g tk F H ss vs → f ss Q → (∀ z H', VO K g tk F H Q z H' → Q' z H') → r vs H Q'
def dCB (f : FC) (u : DA) : DE := fun α Q E => u α (fun ss => f ss Q) E
section
variable {g : Gv} {X : Cx} {K : PySem.W.Frag} {e : Expr} {es : List Expr} {x : Str} {p pos : Pos} {u : DA} {id T : String} {r : List V → Hp → VK → Prop} {f : FC}
theorem cb_red {tk : Tk} {Fe He : Hp} {E : XD → Prop} {σ : L2.St} {H : Hp} {Q' : VK} (hT : g.T tk) (hf : CallS g K r f) (h : LE K g tk Fe He E (dCB f u) σ H Q') : tCB r (LA K g tk Fe He E u) σ H Q' := by
  obtain ⟨F, α, Q, A, q, k⟩ := h
  refine ⟨F, α, _, A, q, fun vs H1 F1 ss st1 sub1 ok1 reps q1 => ?_⟩
  exact hf tk F1 H1 ss vs Q Q' hT sub1 ok1 reps q1 fun z H' hz => k z H' (hz.at st1)
theorem qe_callB (hc : CallR X (.builtin id) r) (hf : CallS g X.K r f) (hg : Gl X x) (hm : X.mg x = none) (hv : bootBuiltins x = some (.builtin id)) (ha : QA g X (e :: es) u) (hn : x ≠ "__name__" := by decide) (hdb : (x == ("__debug__" : Str)) = false := by decide)
    (h1 : starEach (e :: es) X.env = (false, eval e X.env) :: starEach es X.env := by rfl) (h2 : (backTo pos (starEach es X.env)).any (·.1) = false := by rfl) : QE g X (.Call (.Name x p) (e :: es) [] pos) (dCB f u) :=
  ⟨fun tk Fe He E hT hx => (pe_callB hc hg hm hv (ha.pa tk Fe He E hT hx) hn hdb h1 h2).dimp fun σ H Q' h => cb_red hT hf h⟩
theorem qe_callTy (hc : CallR X (.type T) r) (hf : CallS g X.K r f) (hg : Gl X x) (hm : X.mg x = none) (hv : bootBuiltins x = some (.type T)) (ha : QA g X (e :: es) u) (hn : x ≠ "__name__" := by decide) (hdb : (x == ("__debug__" : Str)) = false := by decide)
    (h1 : starEach (e :: es) X.env = (false, eval e X.env) :: starEach es X.env := by rfl) (h2 : (backTo pos (starEach es X.env)).any (·.1) = false := by rfl) : QE g X (.Call (.Name x p) (e :: es) [] pos) (dCB f u) :=
  ⟨fun tk Fe He E hT hx => (pe_callTy hc hg hm hv (ha.pa tk Fe He E hT hx) hn hdb h1 h2).dimp fun σ H Q' h => cb_red hT hf h⟩
/-! one argument, two -/
def one (f : F1) : FC
  | [s], Q => f s.view Q
  | _, _ => False
def two (f : F2) : FC
  | [s, t], Q => f s.view t.view Q
  | _, _ => False
theorem cs_one {K : PySem.W.Frag} {r : List V → Hp → VK → Prop} {f : F1} (h : UnS g K (fun v H Q => r [v] H Q) f) : CallS g K r (one f) := by
  intro tk F H ss vs Q Q' hT sub ok reps q k
  match ss, reps, q with
  | [s], ⟨v, r', e, rs, hn⟩, q =>
    have hn' : r' = [] := hn
    subst hn'
    subst e
    exact h tk F H s v Q Q' hT sub ok rs q k
  | [], _, q => exact q.elim
  | _ :: _ :: _, _, q => exact q.elim
theorem cs_two {K : PySem.W.Frag} {r : List V → Hp → VK → Prop} {f : F2} (h : OpS g K (fun v w H Q => r [v, w] H Q) f) : CallS g K r (two f) := by
  intro tk F H ss vs Q Q' hT sub ok reps q k
  match ss, reps, q with
  | [s, t], ⟨v, r', e, rs, w, r2, e2, rt, hn⟩, q =>
    have hn' : r2 = [] := hn
    subst hn'
    subst e2
    subst e
    exact h tk F H s t v w Q Q' hT sub ok rs rt q k
  | [], _, q => exact q.elim
  | [_], _, q => exact q.elim
  | _ :: _ :: _ :: _, _, q => exact q.elim
def fLen : F1
  | .tup ds, Q => Q (.fr (.int ds.length))
  | .lst ds, Q => Q (.fr (.int ds.length))
  | .scr ns, Q => Q (.fr (.int ns.length))
  | .str x, Q => x.length ≤ sizeLine ∧ Q (.fr (.int x.length))
  | _, _ => False
theorem cs_len : CallS g K (fun xs H Q => ∃ x n, xs = [x] ∧ LenV K x H n ∧ Q (.int n) H) (one fLen) := cs_one (by
  intro tk F H s v Q Q' hT sub ok r1 q k
  cases e1 : s.view with
  | tup ds =>
    rw [e1] at q
    obtain ⟨a, vs, rfl, h2, h3⟩ := RepS.tup sub r1 e1
    exact ⟨_, ds.length, rfl, .inr ⟨vs, h2, h3.length.symm⟩, k _ H (VO.int sub ok q)⟩
  | lst ds =>
    rw [e1] at q
    obtain ⟨a, vs, rfl, h2, h3⟩ := RepS.lst sub r1 e1
    exact ⟨_, ds.length, rfl, .inl ⟨vs, SqL.of h2, h3.length.symm⟩, k _ H (VO.int sub ok q)⟩
  | str x =>
    rw [e1] at q
    rw [RepS.str r1 e1]
    exact ⟨_, x.length, rfl, ⟨q.1, rfl⟩, k _ H (VO.int sub ok q.2)⟩
  | scr ns =>
    rw [e1] at q
    have rp := RepS.fr_ r1 e1 ⟨fun _ z => (nomatch z), fun _ _ z => (nomatch z), fun z => (nomatch z)⟩
    unfold Rep at rp
    obtain ⟨a, rfl, h2⟩ := rp
    exact ⟨_, ns.length, rfl, .inl ⟨_, sub.seq h2, by rw [List.length_map]⟩, k _ H (VO.int sub ok q)⟩
  | _ => rw [e1] at q; exact q.elim)
def fAbs : F1
  | .int i, Q => Q (.fr (.int (if i < 0 then -i else i)))
  | _, _ => False
theorem us_int {K : PySem.W.Frag} {r : V → Hp → VK → Prop} {f : F1} {h : Int → Int} (hr : ∀ i H Q, Q (.int (h i)) H → r (.int i) H Q) (hf : ∀ x Q, f x Q → ∃ i, x = .int i ∧ Q (.fr (.int (h i)))) : UnS g K r f := by
  intro tk F H s v Q Q' hT sub ok r1 q k
  obtain ⟨i, e, q⟩ := hf _ _ q
  rw [RepS.int r1 e]
  exact hr i H Q' (k _ H (VO.int sub ok q))
theorem cs_abs : CallS g K (fun xs H Q => ∃ i, xs = [.int i] ∧ Q (.int (if i < 0 then -i else i)) H) (one fAbs) := cs_one (us_int (h := fun i => if i < 0 then -i else i) (fun i H Q q => ⟨i, rfl, q⟩) fun x Q q => by
  cases x <;> first | exact ⟨_, rfl, q⟩ | exact q.elim)
def fMin2 : F2
  | .int i, .int j, Q => Q (.fr (.int (if j < i then j else i)))
  | _, _, _ => False
def fMax2 : F2
  | .int i, .int j, Q => Q (.fr (.int (if j > i then j else i)))
  | _, _, _ => False
theorem cs_min2 : CallS g K (fun xs H Q => ∃ i j, xs = [.int i, .int j] ∧ Q (.int (if j < i then j else i)) H) (two fMin2) := cs_two (rs_int (C := fun _ _ => True) (h := fun i j => .int (if j < i then j else i)) (hv := fun i j => .int (if j < i then j else i)) (fun i j H Q _ q => ⟨i, j, rfl, q⟩) (fun _ _ _ => Rep.int _) fun x y Q q => by
  cases x <;> cases y <;> first | exact ⟨_, _, rfl, rfl, trivial, q⟩ | exact q.elim)
theorem cs_max2 : CallS g K (fun xs H Q => ∃ i j, xs = [.int i, .int j] ∧ Q (.int (if j > i then j else i)) H) (two fMax2) := cs_two (rs_int (C := fun _ _ => True) (h := fun i j => .int (if j > i then j else i)) (hv := fun i j => .int (if j > i then j else i)) (fun i j H Q _ q => ⟨i, j, rfl, q⟩) (fun _ _ _ => Rep.int _) fun x y Q q => by
  cases x <;> cases y <;> first | exact ⟨_, _, rfl, rfl, trivial, q⟩ | exact q.elim)
def fInt : F1
  | .int i, Q => Q (.fr (.int i))
  | .bl b, Q => Q (.fr (.int (if b then 1 else 0)))
  | _, _ => False
theorem cs_int : CallS g K (fun xs H Q => (∃ i, xs = [.int i] ∧ Q (.int i) H) ∨ ∃ k, xs = [.bl k] ∧ Q (.int (if k then 1 else 0)) H) (one fInt) := cs_one (by
  intro tk F H s v Q Q' hT sub ok r1 q k
  cases e1 : s.view with
  | int i =>
    rw [e1] at q
    rw [RepS.int r1 e1]
    exact .inl ⟨i, rfl, k _ H (VO.int sub ok q)⟩
  | bl b =>
    rw [e1] at q
    rw [RepS.bl r1 e1]
    exact .inr ⟨b, rfl, k _ H (VO.int sub ok q)⟩
  | _ => rw [e1] at q; exact q.elim)
/-- the ints of a list -/
def D.toI : D → Option Int
  | .int i => some i
  | _ => none
def ints? : List D → Option (List Int)
  | [] => some []
  | d :: ds => match d.toI, ints? ds with
    | some i, some is => some (i :: is)
    | _, _ => none
theorem ints_map : ∀ is : List Int, ints? (is.map D.int) = some is
  | [] => rfl
  | i :: is => by
    show (match (D.int i).toI, ints? (is.map D.int) with
    | some i, some is => some (i :: is)
    | _, _ => none) = _
    rw [ints_map is]
    rfl
theorem ints_of : ∀ {ds : List D} {is : List Int}, ints? ds = some is → ds = is.map D.int
  | [], is, h => by
    have e : some [] = some is := h
    cases e
    rfl
  | d :: ds, is, h => by
    have h' : (match d.toI, ints? ds with
    | some i, some is => some (i :: is)
    | _, _ => none) = some is := h
    cases d with
    | int i =>
      cases q : ints? ds with
      | none => rw [q] at h'; cases h'
      | some js =>
        rw [q] at h'
        have e : some (i :: js) = some is := h'
        cases e
        rw [ints_of q]
        rfl
    | _ => cases h'
def fSum : F1
  | .lst ds, Q => ∃ is, ints? ds = some is ∧ Q (.fr (.int is.sum))
  | .tup ds, Q => ∃ is, ints? ds = some is ∧ Q (.fr (.int is.sum))
  | _, _ => False
def rSumA (K : PySem.W.Frag) : List V → Hp → VK → Prop := fun xs H Q => rSum K xs H Q ∨ ∃ (a : Addr) (ns : List Int), xs = [.ref a] ∧ SqT K H a (ns.map V.int) ∧ Q (.int ns.sum) H
open PyProof.Rows in
theorem call_sumT (hc : X.calm = true) : CallR X (.builtin "sum") (fun xs H Q => ∃ (a : Addr) (ns : List Int), xs = [.ref a] ∧ SqT X.K H a (ns.map V.int) ∧ Q (.int ns.sum) H) := by
  intro pins s σ H vs us Q I rv h
  obtain ⟨a, ns, rfl, hs, q⟩ := h
  obtain ⟨its, ri, hl, _⟩ := I.tuple hs
  rw [Vals.ref1 rv]
  have hi : IntsAre its ns := Vals.ints ri
  obtain ⟨xs, hx⟩ := hi.allInts.items
  have hn : numsOf its.toArray.toList = ns := by rw [show its.toArray.toList = its from rfl, hi.numsOf]
  rw [hx] at hl hn
  rw [nums_intItems] at hn
  refine PySem.W.ktm_sumG (I.ok.hd hc) hl fun h' tk t' hk => ?_
  refine ⟨.int ns.sum, H, I.kept hk, ?_, q⟩
  rw [preSum_eq, List.take_of_length_le (by simp), hn]
  exact ⟨_, rfl⟩
theorem call_sumA (hc : X.calm = true) : CallR X (.builtin "sum") (rSumA X.K) := CallR.or (cr_sum hc) (call_sumT hc)
theorem cs_sum : CallS g K (rSumA K) (one fSum) := cs_one (by
  intro tk F H s v Q Q' hT sub ok r1 q k
  cases e1 : s.view with
  | tup ds =>
    rw [e1] at q
    obtain ⟨is, e, q⟩ := q
    obtain ⟨a, vs, rfl, h2, h3⟩ := RepS.tup sub r1 e1
    rw [ints_of e] at h3
    rw [Reps.ints h3] at h2
    exact .inr ⟨a, is, rfl, h2, k _ H (VO.int sub ok q)⟩
  | lst ds =>
    rw [e1] at q
    obtain ⟨is, e, q⟩ := q
    obtain ⟨a, vs, rfl, h2, h3⟩ := RepS.lst sub r1 e1
    rw [ints_of e] at h3
    rw [Reps.ints h3] at h2
    exact .inl ⟨a, is, rfl, SqL.of h2, k _ H (VO.int sub ok q)⟩
  | _ => rw [e1] at q; exact q.elim)
def fTuple : F1
  | .lst ds, Q => Q (.fr (.tup ds))
  | .tup ds, Q => Q (.fr (.tup ds))
  | _, _ => False
theorem cs_tuple : CallS g K (fun xs H Q => ∃ p ys, xs = [.ref p] ∧ ((SqL K H p ys ∧ ∀ l, H l = none → Q (.ref l) (upd H l (.tup ys))) ∨ (SqT K H p ys ∧ Q (.ref p) H))) (one fTuple) := cs_one (by
  intro tk F H s v Q Q' hT sub ok r1 q k
  cases e1 : s.view with
  | tup ds =>
    rw [e1] at q
    obtain ⟨a, vs, rfl, h2, h3⟩ := RepS.tup sub r1 e1
    exact ⟨a, vs, rfl, .inr ⟨h2, k _ H (VO.here (r := .fr (.tup ds)) sub ok (RepS.fr_ r1 e1 ⟨fun _ z => (nomatch z), fun _ _ z => (nomatch z), fun z => (nomatch z)⟩) rfl q)⟩⟩
  | lst ds =>
    rw [e1] at q
    obtain ⟨a, vs, rfl, h2, h3⟩ := RepS.lst sub r1 e1
    exact ⟨a, vs, rfl, .inl ⟨SqL.of h2, fun l hl => k _ _ (VO.tup sub ok hl h3 q)⟩⟩
  | _ => rw [e1] at q; exact q.elim)
def fList : F1
  | .lst ds, Q => Q (.nw (.lst ds))
  | .tup ds, Q => Q (.nw (.lst ds))
  | _, _ => False
theorem cs_list : CallS g K (fun xs H Q => ∃ p ys, xs = [.ref p] ∧ (SqL K H p ys ∨ SqT K H p ys) ∧ ∀ l, H l = none → Q (.ref l) (upd H l (.lst ys))) (one fList) := cs_one (by
  intro tk F H s v Q Q' hT sub ok r1 q k
  cases e1 : s.view with
  | tup ds =>
    rw [e1] at q
    obtain ⟨a, vs, rfl, h2, h3⟩ := RepS.tup sub r1 e1
    exact ⟨a, vs, rfl, .inr h2, fun l hl => k _ _ (VO.lst sub ok hl h3 q)⟩
  | lst ds =>
    rw [e1] at q
    obtain ⟨a, vs, rfl, h2, h3⟩ := RepS.lst sub r1 e1
    exact ⟨a, vs, rfl, .inl (SqL.of h2), fun l hl => k _ _ (VO.lst sub ok hl h3 q)⟩
  | _ => rw [e1] at q; exact q.elim)
def bools? : List D → Option (List Bool)
  | [] => some []
  | .bl b :: ds => (bools? ds).map (b :: ·)
  | _ => none
end
end DL

set_option Elab.async false
set_option linter.all false
set_option maxRecDepth 100000
set_option maxHeartbeats 4000000
namespace DL
open PySem PySem.Spec L2

section
variable {g : Gv} {X : Cx} {st : Stmt} {rest : List Stmt} {t u : DS} {e : Expr} {te : DE} {pos : Pos}
def dNext : DS := fun D α _ => D.nx α
def dSeq (t u : DS) : DS := fun D α E => t { D with nx := fun α' => u D α' E } α E
theorem qss_nil : QSs g X [] dNext := ⟨fun tk Fe He E hT hx => pss_nil.dimp fun D' σ H h => by
  obtain ⟨F, α, D, A, q, k⟩ := h
  exact k.nx σ H ⟨F, α, A, q⟩⟩
theorem qss_cons (h1 : QS g X st t) (h2 : QSs g X rest u) : QSs g X (st :: rest) (dSeq t u) := ⟨fun tk Fe He E hT hx => (pss_cons (h1.ps tk Fe He E hT hx) (h2.ps tk Fe He E hT hx)).dimp fun D' σ H h => by
  obtain ⟨F, α, D, A, q, k⟩ := h
  exact ⟨F, α, _, A, q, ⟨fun σ1 H1 ⟨F1, α1, A1, q1⟩ => ⟨F1, α1, D, A1, q1, k⟩, k.rt, k.bk, k.ct⟩⟩⟩
theorem qss_one (h1 : QS g X st t) : QSs g X [st] t := ⟨fun tk Fe He E hT hx => pss_one (h1.ps tk Fe He E hT hx)⟩
def dBreak : DS := fun D α _ => D.bk α
def dCont : DS := fun D α _ => D.ct α
theorem qs_pass : QS g X (.Pass pos) dNext := ⟨fun tk Fe He E hT hx => ps_pass.dimp fun D' σ H h => by
  obtain ⟨F, α, D, A, q, k⟩ := h
  exact k.nx σ H ⟨F, α, A, q⟩⟩
theorem qs_break : QS g X (.Break pos) dBreak := ⟨fun tk Fe He E hT hx => ps_break.dimp fun D' σ H h => by
  obtain ⟨F, α, D, A, q, k⟩ := h
  exact k.bk σ H ⟨F, α, A, q⟩⟩
theorem qs_continue : QS g X (.Continue pos) dCont := ⟨fun tk Fe He E hT hx => ps_continue.dimp fun D' σ H h => by
  obtain ⟨F, α, D, A, q, k⟩ := h
  exact k.ct σ H ⟨F, α, A, q⟩⟩
def dDrop (te : DE) : DS := fun D α E => te α (fun _ => D.nx α) E
theorem qs_expr (he : QE g X e te) (hs : swapsWith e none pos.line X.env = pure false := by rfl) : QS g X (.Expr e pos) (dDrop te) := ⟨fun tk Fe He E hT hx => (ps_expr (he.pe tk Fe He E hT hx) hs).dimp fun D' σ H h => by
  obtain ⟨F, α, D, A, q, k⟩ := h
  refine ⟨F, α, _, A, q, fun v H1 h1 => ?_⟩
  obtain ⟨F1, r, st1, sub1, ok1, rep1, _, q1⟩ := h1
  exact k.nx σ H1 ⟨F1, α, A.step st1 sub1 ok1, q1⟩⟩
/-- the value of a return: no look at one's own list (for a name: qs_retV) -/
def dRet (te : DE) : DS := fun D α E => te α (fun r => (∀ d, r ≠ .bw d) ∧ D.rt r) E
theorem qs_ret (he : QE g X e te) : QS g X (.Return (some e) pos) (dRet te) := ⟨fun tk Fe He E hT hx => (ps_ret (he.pe tk Fe He E hT hx)).dimp fun D' σ H h => by
  obtain ⟨F, α, D, A, q, k⟩ := h
  refine ⟨F, α, _, A, q, fun v H1 h1 => k.rt v H1 ?_⟩
  have h2 : VO X.K g tk F H D.rt v H1 := by
    obtain ⟨F1, r, a, b, c, d, f, _, z⟩ := h1
    exact ⟨F1, r, a, b, c, d, f, z⟩
  exact h2.at A.st⟩
def dRetN : DS := fun D _ _ => D.rt (.fr .non)
theorem qs_retN : QS g X (.Return none pos) dRetN := ⟨fun tk Fe He E hT hx => ps_retN.dimp fun D' σ H h => by
  obtain ⟨F, α, D, A, q, k⟩ := h
  have z : VO X.K g tk F H D.rt .non H := VO.non A.sub A.ok q
  exact k.rt _ H (z.at A.st)⟩
/-- return x, x a name of the def -/
def dRetV (i : Nat) : DS := fun D α _ => ∃ s, α[i]? = some (some s) ∧ D.rt s
theorem qs_retV {i : Nat} {x : Str} {p : Pos} (hN : X.N[i]? = some x) (hv : Vis X.env.scope x) (hd : (x == ("__debug__" : Str)) = false := by decide) (hcd : (x == ("__classdict__" : Str)) = false := by decide) : QS g X (.Return (some (.Name x p)) pos) (dRetV i) :=
  ⟨fun tk Fe He E hT hx => (ps_ret (pe_var hN hv hd hcd)).dimp fun D' σ H h => by
    obtain ⟨F, α, D, A, ⟨s, e, q⟩, k⟩ := h
    obtain ⟨v, e1, e2, e3⟩ := A.val i s e
    exact ⟨v, e1, k.rt v H ⟨F, s, A.st, A.sub, A.ok, e2, e3, q⟩⟩⟩
def dIf (c : DT) (t u : DS) : DS := fun D α E => c α (fun b => if b = true then t D α E else u D α E) E
theorem qs_if {c : Expr} {a b : List Stmt} {tc : DT} (hc : QT g X c tc) (ha : QSs g X a t) (hb : QSs g X b u) : QS g X (.If c a b pos) (dIf tc t u) := ⟨fun tk Fe He E hT hx => (ps_if (hc.pt tk Fe He E hT hx) (ha.ps tk Fe He E hT hx) (hb.ps tk Fe He E hT hx)).dimp fun D' σ H h => by
  obtain ⟨F, α, D, A, q, k⟩ := h
  refine ⟨F, α, _, A, q, fun c H1 F1 st1 sub1 ok1 q1 => ?_⟩
  cases c with
  | true => exact ⟨F1, α, D, A.step st1 sub1 ok1, q1, k⟩
  | false => exact ⟨F1, α, D, A.step st1 sub1 ok1, q1, k⟩⟩
end

/-! ### stores to names -/
theorem Ab.set' {K : PySem.W.Frag} {g : Gv} {tk : Tk} {Fe He F H F' H' : Hp} {α : AE} {σ : L2.St} {r : S} {v : V} (A : Ab K g tk Fe He F H α σ) (i : Nat) (st : Step tk F H F' H') (sub : Same F' H') (ok : tk.ok F' H') (rep : RepS K g tk F' H' r v)
    (fr : ∀ d p, r = .nw d → v = .ref p → Nf H p) (nb : ∀ d, r ≠ .bw d) : Ab K g tk Fe He F' H' (α.set i (some r)) (σ.set i (some v)) := by
  have A' := A.step st sub ok
  have newP : ∀ d p, r = .nw d → v = .ref p → Nf He p := fun d p e1 e2 => by
    have hp := fr d p e1 e2
    intro o w n
    obtain ⟨o', w', n'⟩ := A.st.ad p o w n
    exact hp o' w' n'
  refine ⟨sub, ok, A'.st, by rw [List.length_set, List.length_set]; exact A.len, fun j s h => ?_, fun j d h => ?_, fun j l d e w hjl hj hl hj' hl' => ?_⟩
  · by_cases z : i = j
    · subst z
      by_cases hi : i < α.length
      · rw [List.getElem?_set_self hi] at h
        cases h
        exact ⟨v, by rw [List.getElem?_set_self (by rw [← A.len]; exact hi)], rep, newP⟩
      · rw [List.getElem?_eq_none (by simpa using hi)] at h
        cases h
    · rw [List.getElem?_set_ne z] at h
      obtain ⟨w, e1, e2, e3⟩ := A'.val j s h
      exact ⟨w, by rw [List.getElem?_set_ne z]; exact e1, e2, e3⟩
  · by_cases z : i = j
    · subst z
      by_cases hi : i < α.length
      · rw [List.getElem?_set_self hi] at h
        exact nb d (Option.some.inj (Option.some.inj h))
      · rw [List.getElem?_eq_none (by simpa using hi)] at h
        cases h
    · rw [List.getElem?_set_ne z] at h
      exact A.nob j d h
  · have old : ∀ (a : Nat) (x : D), α[a]? = some (some (.nw x)) → ∀ y, σ[a]? = some (some y) → r = .nw d ∨ r = .nw e → y = v → False := fun a x ha y hy hr hyv => by
      obtain ⟨y', e1, e2, _⟩ := A.val a _ ha
      rw [hy] at e1
      cases e1
      obtain ⟨p, rfl, _, _, ho⟩ := e2
      rcases hr with hr | hr
      · exact ho.at_ (fr _ p hr hyv.symm)
      · exact ho.at_ (fr _ p hr hyv.symm)
    have hlen := A.len
    by_cases zj : i = j
    · have zl : ¬ i = l := fun z => hjl (zj.symm.trans z)
      subst zj
      have hi : i < α.length := by
        cases Nat.lt_or_ge i α.length with
        | inl h => exact h
        | inr h =>
          rw [List.getElem?_eq_none (by rw [List.length_set]; exact h)] at hj
          cases hj
      rw [List.getElem?_set_self hi] at hj
      rw [List.getElem?_set_self (by rw [← hlen]; exact hi)] at hj'
      rw [List.getElem?_set_ne zl] at hl hl'
      have hr : r = .nw d := Option.some.inj (Option.some.inj hj)
      have hw : v = w := Option.some.inj (Option.some.inj hj')
      exact old l e hl w hl' (.inl hr) hw.symm
    · rw [List.getElem?_set_ne zj] at hj hj'
      by_cases zl : i = l
      · subst zl
        have hi : i < α.length := by
          cases Nat.lt_or_ge i α.length with
          | inl h => exact h
          | inr h =>
            rw [List.getElem?_eq_none (by rw [List.length_set]; exact h)] at hl
            cases hl
        rw [List.getElem?_set_self hi] at hl
        rw [List.getElem?_set_self (by rw [← hlen]; exact hi)] at hl'
        have hr : r = .nw e := Option.some.inj (Option.some.inj hl)
        have hw : v = w := Option.some.inj (Option.some.inj hl')
        exact old j d hj w hj' (.inr hr) hw.symm
      · rw [List.getElem?_set_ne zl] at hl hl'
        exact A.apart j l d e w hjl hj hl hj' hl'
theorem Ab.set {K : PySem.W.Frag} {g : Gv} {tk : Tk} {Fe He F H : Hp} {α : AE} {σ : L2.St} {Q : S → Prop} {v : V} {H' : Hp} (A : Ab K g tk Fe He F H α σ) (i : Nat) (hv : VO K g tk F H Q v H') :
    ∃ F' r, Q r ∧ ((∀ d, r ≠ .bw d) → Ab K g tk Fe He F' H' (α.set i (some r)) (σ.set i (some v))) := by
  obtain ⟨F', r, st, sub, ok, rep, fr, q⟩ := hv
  exact ⟨F', r, q, fun nb => A.set' i st sub ok rep fr nb⟩
section
variable {g : Gv} {X : Cx} {e : Expr} {te : DE} {pos : Pos}
def dAsg (i : Nat) (te : DE) : DS := fun D α E => te α (fun r => (∀ d, r ≠ .bw d) ∧ D.nx (α.set i (some r))) E
theorem qs_asg {i : Nat} {x : Str} {pos' : Pos} (hN : X.N.Nodup) (hi : X.N[i]? = some x) (hl : Loc X.env.scope x) (he : QE g X e te) (hs : swapsWith e (some (.Name x pos')) pos.line X.env = pure false := by rfl) (hf : X.fn x = true ∨ X.env.scope.names.lookup x = some .local := by first | exact .inl rfl | exact .inr rfl | assumption) :
    QS g X (.Assign [.Name x pos'] e pos) (dAsg i te) := ⟨fun tk Fe He E hT hx => (ps_set hN hi hl (he.pe tk Fe He E hT hx) hs hf).dimp fun D' σ H h => by
  obtain ⟨F, α, D, A, q, k⟩ := h
  refine ⟨F, α, _, A, q, fun v H1 h1 => k.nx _ H1 ?_⟩
  obtain ⟨F1, r, q1, A1⟩ := A.set i h1
  exact ⟨F1, _, A1 q1.1, q1.2⟩⟩
/-- targets, of what stands still -/
abbrev DG := D → AE → (AE → Prop) → Prop
def LG (K : PySem.W.Frag) (g : Gv) (tk : Tk) (Fe He : Hp) (t : DG) : TG := fun v σ H Q' =>
  ∃ F α d Q, Ab K g tk Fe He F H α σ ∧ Rep K g F d v ∧ t d α Q ∧ ∀ σ' α', Ab K g tk Fe He F H α' σ' → Q α' → Q' σ' H
def LGs (K : PySem.W.Frag) (g : Gv) (tk : Tk) (Fe He : Hp) (t : List D → AE → (AE → Prop) → Prop) : TGs := fun vs σ H Q' =>
  ∃ F α ds Q, Ab K g tk Fe He F H α σ ∧ Reps K g F ds vs ∧ t ds α Q ∧ ∀ σ' α', Ab K g tk Fe He F H α' σ' → Q α' → Q' σ' H
structure QG (g : Gv) (X : Cx) (tg : Expr) (t : DG) : Prop where
  pg : ∀ (tk : Tk) (Fe He : Hp), g.T tk → PG X tg (LG X.K g tk Fe He t)
structure QGs (g : Gv) (X : Cx) (ts : List Expr) (t : List D → AE → (AE → Prop) → Prop) : Prop where
  pg : ∀ (tk : Tk) (Fe He : Hp), g.T tk → PGs X ts (LGs X.K g tk Fe He t)
theorem _root_.L2.PG.dimp {X : Cx} {e : Expr} {t t' : TG} (h : PG X e t) (k : ∀ v σ H Q, t' v σ H Q → t v σ H Q) : PG X e t' := ⟨fun pins s σ H v u Q I r q => h.run pins s σ H v u Q I r (k v σ H Q q)⟩
theorem _root_.L2.PGs.dimp {X : Cx} {e : List Expr} {t t' : TGs} (h : PGs X e t) (k : ∀ v σ H Q, t' v σ H Q → t v σ H Q) : PGs X e t' := ⟨fun pins s σ H v u Q I r q => h.run pins s σ H v u Q I r (k v σ H Q q)⟩
def gNm (i : Nat) : DG := fun d α Q => Q (α.set i (some (.fr d)))
theorem qg_name {i : Nat} {x : Str} (hN : X.N.Nodup) (hi : X.N[i]? = some x) (hl : Loc X.env.scope x) (hf : X.fn x = true ∨ X.env.scope.names.lookup x = some .local := by first | exact .inl rfl | exact .inr rfl | assumption) : QG g X (.Name x pos) (gNm i) :=
  ⟨fun tk Fe He hT => (pg_name hN hi hl hf).dimp fun v σ H Q' h => by
    obtain ⟨F, α, d, Q, A, r, q, k⟩ := h
    exact k _ _ (A.set' i (Step.refl _ _ _) A.sub A.ok (r := .fr d) r (fun d p z => nomatch z) fun d z => nomatch z) q⟩
def gsNil : List D → AE → (AE → Prop) → Prop := fun ds α Q => ds = [] ∧ Q α
def gsCons (t : DG) (u : List D → AE → (AE → Prop) → Prop) : List D → AE → (AE → Prop) → Prop := fun ds α Q => ∃ d r, ds = d :: r ∧ t d α (fun α' => u r α' Q)
theorem qgs_nil : QGs g X [] gsNil := ⟨fun tk Fe He hT => pgs_nil.dimp fun vs σ H Q' h => by
  obtain ⟨F, α, ds, Q, A, r, q, k⟩ := h
  obtain ⟨rfl, q⟩ := q
  exact ⟨r.inv_nil, k σ α A q⟩⟩
theorem qgs_cons {es : List Expr} {t : DG} {u : List D → AE → (AE → Prop) → Prop} (h1 : QG g X e t) (h2 : QGs g X es u) (hs : (assignEach (e :: es) X.env).map (·.2) = assign e X.env :: (assignEach es X.env).map (·.2) := by rfl) : QGs g X (e :: es) (gsCons t u) :=
  ⟨fun tk Fe He hT => (pgs_cons (h1.pg tk Fe He hT) (h2.pg tk Fe He hT) hs).dimp fun vs σ H Q' h => by
    obtain ⟨F, α, ds, Q, A, r, ⟨d, ds', rfl, q⟩, k⟩ := h
    obtain ⟨v, vs', rfl, rd, rs⟩ := r.inv_cons
    exact ⟨v, vs', rfl, F, α, d, _, A, rd, q, fun σ' α' A' q' => ⟨F, α', ds', Q, A', rs, q', k⟩⟩⟩
def gTp (n : Nat) (t : List D → AE → (AE → Prop) → Prop) : DG := fun d α Q => ∃ ds, d = .tup ds ∧ ds.length = n ∧ t ds α Q
theorem qg_tup {es : List Expr} {k : Nat} {t : List D → AE → (AE → Prop) → Prop} {n : Nat} (hc : X.calm = true) (h : QGs g X es t) (hn : (assignEach es X.env).length = n := by rfl) (hst : (assignEach es X.env).findIdx? (·.1) = none := by rfl) : QG g X (.Tuple es k pos) (gTp n t) :=
  ⟨fun tk Fe He hT => (pg_tup hc (h.pg tk Fe He hT) hn hst).dimp fun v σ H Q' h => by
    obtain ⟨F, α, d, Q, A, r, ⟨ds, rfl, hl, q⟩, k⟩ := h
    obtain ⟨a, vs, rfl, h2, h3⟩ := Rep.tup_ r
    exact ⟨a, vs, rfl, sqT_same A.sub h2, h3.length.trans hl, F, α, ds, Q, A, h3, q, k⟩⟩
/-- a, b = e -/
def dAsgG (te : DE) (tg : DG) : DS := fun D α E => te α (fun r => ∃ d, r.fz = .fr d ∧ tg d α D.nx) E
theorem qs_asgG {tg : Expr} {t : DG} (he : QE g X e te) (hg : QG g X tg t) (hs : swapsWithSole [tg] e pos.line X.env = pure false := by rfl) (hw : swappedStores [tg] e X.env = pure none := by rfl) (h1 : (assignEach [tg] X.env).map (·.2) = [assign tg X.env] := by rfl) :
    QS g X (.Assign [tg] e pos) (dAsgG te t) := ⟨fun tk Fe He E hT hx => (ps_asg (he.pe tk Fe He E hT hx) (hg.pg tk Fe He hT) hs hw h1).dimp fun D' σ H h => by
  obtain ⟨F, α, D, A, q, k⟩ := h
  refine ⟨F, α, _, A, q, fun v H1 h1 => ?_⟩
  obtain ⟨F1, r, st1, sub1, ok1, rep1, d, e1, q1⟩ := h1.fz
  rw [e1] at rep1
  exact ⟨F1, α, d, D.nx, A.step st1 sub1 ok1, rep1, q1, fun σ' α' A' q' => k.nx σ' H1 ⟨F1, α', A', q'⟩⟩⟩
/-- a, b = x, y: two names -/
def dPar (i j : Nat) (ta tb : DE) : DS := fun D α E => ta α (fun x => tb α (fun y => (∀ d, x ≠ .bw d) ∧ (∀ d, y ≠ .bw d) ∧ D.nx ((α.set i (some x)).set j (some y))) E) E
theorem qs_par {i j : Nat} {x y : Str} {a b : Expr} {ta tb : DE} {px py pt : Pos} {kt k2 pt2} (hc : X.calm = true) (hN : X.N.Nodup) (hi : X.N[i]? = some x) (hj : X.N[j]? = some y) (hij : i ≠ j)
    (hx1 : X.env.scope.names.lookup x = some .local) (hy1 : X.env.scope.names.lookup y = some .local) (ha : QE g X a ta) (hb : QE g X b tb)
    (hw : swappedStores [.Tuple [.Name x px, .Name y py] kt pt] (.Tuple [a, b] k2 pt2) X.env = pure (some [x, y]))
    (hs : swapsWithSole [.Tuple [.Name x px, .Name y py] kt pt] (.Tuple [a, b] k2 pt2) pos.line X.env = pure false := by rfl)
    (h1 : starEach [a, b] X.env = (false, eval a X.env) :: starEach [b] X.env := by rfl) (h2 : starEach [b] X.env = (false, eval b X.env) :: starEach [] X.env := by rfl) :
    QS g X (.Assign [.Tuple [.Name x px, .Name y py] kt pt] (.Tuple [a, b] k2 pt2) pos) (dPar i j ta tb) := ⟨fun tk Fe He E hT hx => (ps_par hc hN hi hj hij hx1 hy1 (pa_cons (ha.pe tk Fe He E hT hx) (pa_cons (hb.pe tk Fe He E hT hx) pa_nil h2) h1) hw hs).dimp fun D' σ H h => by
  obtain ⟨F, α, D, A, q, k⟩ := h
  refine ⟨F, α, _, A, q, fun v H1 h1 => ?_⟩
  obtain ⟨F1, r1, st1, sub1, ok1, rep1, fr1, q1⟩ := h1
  refine ⟨F1, α, _, A.step st1 sub1 ok1, q1, fun w H2 h2 => ?_⟩
  obtain ⟨F2, r2, st2, sub2, ok2, rep2, fr2, n1, n2, q2⟩ := h2
  refine ⟨v, w, rfl, k.nx _ H2 ⟨F2, _, ?_, q2⟩⟩
  have A1 := A.set' i st1 sub1 ok1 rep1 fr1 n1
  exact A1.set' j st2 sub2 ok2 rep2 fr2 n2⟩
end
end DL

set_option Elab.async false
set_option linter.all false
set_option maxRecDepth 100000
set_option maxHeartbeats 4000000
namespace DL
open PySem PySem.Spec L2

/-! ### one's own lists change -/
theorem Ab.own {K : PySem.W.Frag} {g : Gv} {tk : Tk} {Fe He F H : Hp} {α : AE} {σ : L2.St} {i : Nat} {d : D} (A : Ab K g tk Fe He F H α σ) (h : α[i]? = some (some (.nw d))) :
    ∃ p, σ[i]? = some (some (.ref p)) ∧ F p = none ∧ p ∉ tk.ad ∧ Own K g F H p d ∧ Nf He p := by
  obtain ⟨v, e1, ⟨p, rfl, a, b, c⟩, e3⟩ := A.val i _ h
  exact ⟨p, e1, a, b, c, e3 d p rfl rfl⟩
theorem Ab.lst {K : PySem.W.Frag} {g : Gv} {tk : Tk} {Fe He F H : Hp} {α : AE} {σ : L2.St} {i : Nat} {ds : List D} (A : Ab K g tk Fe He F H α σ) (h : α[i]? = some (some (.nw (.lst ds)))) :
    ∃ p vs, σ[i]? = some (some (.ref p)) ∧ H p = some (.lst vs) ∧ Reps K g F ds vs ∧
      ∀ es ws, Reps K g F es ws → Ab K g tk Fe He F (upd H p (.lst ws)) (α.set i (some (.nw (.lst es)))) σ := by
  obtain ⟨p, e1, hF, hn, ⟨vs, e2, r⟩, hHe⟩ := A.own h
  refine ⟨p, vs, e1, e2, r, fun es ws r' => ?_⟩
  have hi : i < α.length := by
    cases Nat.lt_or_ge i α.length with
    | inl z => exact z
    | inr z =>
      rw [List.getElem?_eq_none z] at h
      cases h
  have sub' : Same F (upd H p (.lst ws)) := fun a o e => by
    rw [upd_ne (ne_of_none e hF)]
    exact A.sub a o e
  have other : ∀ {q : Addr} {x : D}, q ≠ p → Own K g F H q x → Own K g F (upd H p (.lst ws)) q x := fun {q x} hq ho => ho.mono (Same.refl _) fun o e _ => by
    rw [upd_ne hq]
    exact e
  refine ⟨sub', ?_, ⟨A.st.fr, A.st.nw, fun a o e hna ht => ?_, fun a o ha hn' => ?_⟩, by rw [List.length_set]; exact A.len, fun j s hj => ?_, fun j x hj => ?_, fun j l x y w hjl hj hl hj' hl' => ?_⟩
  · refine tk.st _ _ _ _ A.ok (Same.refl _) (fun a o e hor => ?_) (fun a ha => (tk.fr _ _ A.ok a ha).1) fun a u e n => by (rw [n] at e; cases e)
    have ne : a ≠ p := fun z => by
      rcases hor with hor | hor
      · exact hn (by rw [← z]; exact hor)
      · rw [z, e2] at e
        cases e
        exact hor
    rw [upd_ne ne]
    exact e
  · have ne : a ≠ p := fun z => hHe o (by rw [← z]; exact e) ht
    rw [upd_ne ne]
    exact A.st.kp a o e hna ht
  · by_cases z : a = p
    · rw [z, upd_same]
      exact ⟨_, rfl, fun ps q => nomatch q⟩
    · rw [upd_ne z]
      exact A.st.ad a o ha hn'
  · by_cases z : i = j
    · subst z
      rw [List.getElem?_set_self hi] at hj
      cases hj
      exact ⟨.ref p, e1, ⟨p, rfl, hF, hn, ws, upd_same, r'⟩, fun _ q _ e => by cases e; exact hHe⟩
    · rw [List.getElem?_set_ne z] at hj
      obtain ⟨v, f1, f2, f3⟩ := A.val j s hj
      refine ⟨v, f1, ?_, f3⟩
      cases s with
      | fr x => exact f2
      | tk => exact f2
      | bw x => exact absurd hj (A.nob j x)
      | nw x =>
        obtain ⟨q, rfl, a, b, c⟩ := f2
        have ne : q ≠ p := fun e => by
          subst e
          exact A.apart i j _ _ _ z h hj e1 f1
        exact ⟨q, rfl, a, b, other ne c⟩
  · by_cases z : i = j
    · subst z
      rw [List.getElem?_set_self hi] at hj
      cases hj
    · rw [List.getElem?_set_ne z] at hj
      exact A.nob j x hj
  · have back : ∀ (a : Nat) (x : D), (α.set i (some (.nw (.lst es))))[a]? = some (some (.nw x)) → ∃ x', α[a]? = some (some (.nw x')) := fun a x ha => by
      by_cases z : i = a
      · subst z
        exact ⟨_, h⟩
      · rw [List.getElem?_set_ne z] at ha
        exact ⟨x, ha⟩
    obtain ⟨x', hx'⟩ := back j x hj
    obtain ⟨y', hy'⟩ := back l y hl
    exact A.apart j l x' y' w hjl hx' hy' hj' hl'
/-- from now on it stands still -/
theorem Ab.freeze {K : PySem.W.Frag} {g : Gv} {tk : Tk} {Fe He F H : Hp} {α : AE} {σ : L2.St} {i : Nat} {d : D} (A : Ab K g tk Fe He F H α σ) (h : α[i]? = some (some (.nw d))) :
    ∃ F', Ab K g tk Fe He F' H (α.set i (some (.fr d))) σ := by
  obtain ⟨p, e1, hF, hn, ho, hHe⟩ := A.own h
  obtain ⟨o, e, nt, rp⟩ := ho.rep hF
  have hi : i < α.length := by
    cases Nat.lt_or_ge i α.length with
    | inl z => exact z
    | inr z =>
      rw [List.getElem?_eq_none z] at h
      cases h
  have fz : Same F (upd F p o) := Step.freeze (tk := tk) (H := H) hF
  refine ⟨upd F p o, same_upd A.sub e, ?_, ⟨A.st.fr.trans fz, fun a u q1 q2 => ?_, A.st.kp, A.st.ad⟩, by rw [List.length_set]; exact A.len, fun j s hj => ?_, fun j x hj => ?_, fun j l x y w hjl hj hl hj' hl' => ?_⟩
  · refine tk.st _ _ _ _ A.ok fz (fun a u q _ => q) (fun a ha => ?_) fun a u q n => ?_
    · have ne : a ≠ p := fun z => hn (by rw [← z]; exact ha)
      rw [upd_ne ne]
      exact (tk.fr _ _ A.ok a ha).1
    · by_cases h : a = p
      · subst h
        rw [upd_same] at q
        cases q
        exact nt
      · rw [upd_ne h, n] at q
        cases q
  · by_cases z : a = p
    · rw [z]
      exact hHe
    · rw [upd_ne z] at q1
      exact A.st.nw a u q1 q2
  · by_cases z : i = j
    · subst z
      rw [List.getElem?_set_self hi] at hj
      cases hj
      exact ⟨.ref p, e1, rp, fun _ _ z => nomatch z⟩
    · rw [List.getElem?_set_ne z] at hj
      obtain ⟨v, f1, f2, f3⟩ := A.val j s hj
      refine ⟨v, f1, ?_, f3⟩
      cases s with
      | fr x => exact Rep.mono fz f2
      | tk => exact f2
      | bw x => exact absurd hj (A.nob j x)
      | nw x =>
        obtain ⟨q, rfl, a, b, c⟩ := f2
        have ne : q ≠ p := fun e => by
          subst e
          exact A.apart i j _ _ _ z h hj e1 f1
        exact ⟨q, rfl, by rw [upd_ne ne]; exact a, b, c.mono fz fun _ e _ => e⟩
  · by_cases z : i = j
    · subst z
      rw [List.getElem?_set_self hi] at hj
      cases hj
    · rw [List.getElem?_set_ne z] at hj
      exact A.nob j x hj
  · have back : ∀ (a : Nat) (x : D), (α.set i (some (.fr d)))[a]? = some (some (.nw x)) → α[a]? = some (some (.nw x)) := fun a x ha => by
      by_cases z : i = a
      · subst z
        rw [List.getElem?_set_self hi] at ha
        cases ha
      · rw [List.getElem?_set_ne z] at ha
        exact ha
    exact A.apart j l x y w hjl (back j x hj) (back l y hl) hj' hl'

section
variable {g : Gv} {X : Cx} {e : Expr} {es : List Expr} {te tb : DE} {ta : DA} {pos apos npos : Pos} {t u : DS}
/-- a def's own list stands still from here on -/
def dFrz (i : Nat) (u : DS) : DS := fun D α E => ∃ d, α[i]? = some (some (.nw d)) ∧ u D (α.set i (some (.fr d))) E
theorem qss_frz {sts : List Stmt} {i : Nat} (h : QSs g X sts u) : QSs g X sts (dFrz i u) := ⟨fun tk Fe He E hT hx => (h.ps tk Fe He E hT hx).dimp fun D' σ H h => by
  obtain ⟨F, α, D, A, ⟨d, e, q⟩, k⟩ := h
  obtain ⟨F', A'⟩ := A.freeze e
  exact ⟨F', _, D, A', q, k⟩⟩
/-- x.append(e), x.extend(e) -/
def dApp (i : Nat) (u : DA) : DS := fun D α E => ∃ ds, α[i]? = some (some (.nw (.lst ds))) ∧ u α (fun ss => ∃ d, ss = [.fr d] ∧ ds.length < sizeLine ∧ D.nx (α.set i (some (.nw (.lst (ds ++ [d])))))) E
theorem own_kept {K : PySem.W.Frag} {tk : Tk} {Fe He F H F1 H1 : Hp} {α : AE} {σ : L2.St} {i : Nat} {ds : List D} (A : Ab K g tk Fe He F H α σ) (st1 : Step tk F H F1 H1) (sub1 : Same F1 H1) (ok1 : tk.ok F1 H1) (h : α[i]? = some (some (.nw (.lst ds)))) :
    ∃ p vs, σ[i]? = some (some (.ref p)) ∧ H p = some (.lst vs) ∧ H1 p = some (.lst vs) ∧ Reps K g F1 ds vs ∧
      ∀ es ws, Reps K g F1 es ws → Ab K g tk Fe He F1 (upd H1 p (.lst ws)) (α.set i (some (.nw (.lst es)))) σ := by
  obtain ⟨p, vs, e1, e2, r, k⟩ := A.lst h
  obtain ⟨q, ws, f1, f2, r', k'⟩ := (A.step st1 sub1 ok1).lst h
  rw [e1] at f1
  cases f1
  obtain ⟨q, g1, g2, g3, g4, _⟩ := A.own h
  rw [e1] at g1
  cases g1
  have z := st1.kp p _ e2 g3 (fun ps z => nomatch z)
  rw [f2] at z
  cases z
  exact ⟨p, vs, e1, e2, f2, r', k'⟩
theorem qs_app {i : Nat} {call : Expr} (hpe : ∀ t : TA, PA X [e] t → PE X call (tBM X.K "list" rAppend (tVar i) t)) (he : QA g X [e] ta) (hs : swapsWith call none pos.line X.env = pure false := by rfl) :
    QS g X (.Expr call pos) (dApp i ta) := ⟨fun tk Fe He E hT hx => (ps_expr (hpe _ (he.pa tk Fe He E hT hx)) hs).dimp fun D' σ H h => by
  obtain ⟨F, α, D, A, ⟨ds, e, q⟩, k⟩ := h
  obtain ⟨p, vs, e1, e2, _⟩ := A.lst e
  refine ⟨.ref p, e1, .inl ⟨rfl, vs, SqL.of e2⟩, F, α, _, A, q, fun us H1 F1 ss st1 sub1 ok1 reps q1 => ?_⟩
  obtain ⟨d, rfl, hl, q1⟩ := q1
  obtain ⟨p', ws, f1, f2, f3, r3, k3⟩ := own_kept A st1 sub1 ok1 e
  rw [e1] at f1
  cases f1
  obtain ⟨v, r', rfl, rd, hn⟩ := reps
  have hn' : r' = [] := hn
  subst hn'
  refine ⟨p, ws, v, rfl, rfl, f3, by rw [r3.length]; exact hl, k.nx σ _ ⟨F1, _, k3 _ _ (r3.append (.cons rd .nil)), q1⟩⟩⟩
def dExt (i : Nat) (u : DA) : DS := fun D α E => ∃ ds, α[i]? = some (some (.nw (.lst ds))) ∧ u α (fun ss => ∃ s es, ss = [s] ∧ s.view = .lst es ∧ ds.length + es.length ≤ sizeLine ∧ D.nx (α.set i (some (.nw (.lst (ds ++ es)))))) E
theorem qs_ext {i : Nat} {call : Expr} (hpe : ∀ t : TA, PA X [e] t → PE X call (tBM X.K "list" rExtend (tVar i) t)) (he : QA g X [e] ta) (hs : swapsWith call none pos.line X.env = pure false := by rfl) :
    QS g X (.Expr call pos) (dExt i ta) := ⟨fun tk Fe He E hT hx => (ps_expr (hpe _ (he.pa tk Fe He E hT hx)) hs).dimp fun D' σ H h => by
  obtain ⟨F, α, D, A, ⟨ds, e, q⟩, k⟩ := h
  obtain ⟨p, vs, e1, e2, _⟩ := A.lst e
  refine ⟨.ref p, e1, .inl ⟨rfl, vs, SqL.of e2⟩, F, α, _, A, q, fun us H1 F1 ss st1 sub1 ok1 reps q1 => ?_⟩
  obtain ⟨s, es, rfl, ev, hl, q1⟩ := q1
  obtain ⟨p', ws, f1, f2, f3, r3, k3⟩ := own_kept A st1 sub1 ok1 e
  rw [e1] at f1
  cases f1
  obtain ⟨v, r', rfl, rd, hn⟩ := reps
  have hn' : r' = [] := hn
  subst hn'
  obtain ⟨a, zs, rfl, g2, g3⟩ := RepS.lst sub1 rd ev
  refine ⟨p, a, ws, zs, rfl, rfl, f3, g2, by rw [r3.length, g3.length]; exact hl, k.nx σ _ ⟨F1, _, k3 _ _ (r3.append g3), q1⟩⟩⟩
theorem Reps.dropLast_ {K : PySem.W.Frag} {F : Hp} {ds : List D} {d : D} {vs : List V} (h : Reps K g F (ds ++ [d]) vs) : ∃ ws v, vs = ws ++ [v] ∧ Reps K g F ds ws ∧ Rep K g F d v := by
  induction ds generalizing vs with
  | nil =>
    obtain ⟨v, r, rfl, q, t⟩ := h.inv_cons
    rw [t.inv_nil]
    exact ⟨[], v, rfl, .nil, q⟩
  | cons x ds ih =>
    obtain ⟨v, r, rfl, q, t⟩ := Reps.inv_cons (show Reps K g F (x :: (ds ++ [d])) vs from h)
    obtain ⟨ws, w, rfl, a, b⟩ := ih t
    exact ⟨v :: ws, w, rfl, .cons q a, b⟩
/-- target = x.pop() -/
def dPopG (i : Nat) (tg : DG) : DS := fun D α _ => ∃ ds d, α[i]? = some (some (.nw (.lst (ds ++ [d])))) ∧ tg d (α.set i (some (.nw (.lst ds)))) D.nx
theorem qs_popG {i : Nat} {call tg : Expr} {t : DG} (hpe : PE X call (tBM0 X.K "list" rPop (tVar i))) (hg : QG g X tg t) (hs : swapsWithSole [tg] call pos.line X.env = pure false := by rfl) (hw : swappedStores [tg] call X.env = pure none := by rfl)
    (h1 : (assignEach [tg] X.env).map (·.2) = [assign tg X.env] := by rfl) : QS g X (.Assign [tg] call pos) (dPopG i t) := ⟨fun tk Fe He E hT hx => (ps_asg hpe (hg.pg tk Fe He hT) hs hw h1).dimp fun D' σ H h => by
  obtain ⟨F, α, D, A, ⟨ds, d, e, q⟩, k⟩ := h
  obtain ⟨p, vs, e1, e2, r, k2⟩ := A.lst e
  obtain ⟨ws, v, rfl, r1, r2⟩ := r.dropLast_
  refine ⟨.ref p, e1, .inl ⟨rfl, _, SqL.of e2⟩, p, _, v, rfl, rfl, e2, by simp, ?_⟩
  rw [List.dropLast_concat]
  exact ⟨F, _, d, D.nx, k2 _ _ r1, r2, q, fun σ' α' A' q' => k.nx σ' _ ⟨F, α', A', q'⟩⟩⟩
/-- x[j] = e, x a list of one's own -/
def dSetIx (i : Nat) (te tj : DE) : DS := fun D α E => te α (fun r => tj α (fun s => ∃ d ds j n, r.fz = .fr d ∧ s.view = .int j ∧ α[i]? = some (some (.nw (.lst ds))) ∧ ixN ds.length j = some n ∧ D.nx (α.set i (some (.nw (.lst (ds.set n d)))))) E) E
/-- x += e of ints -/
def dAug (i : Nat) (f : Int → Int → Int) (te : DE) : DS := fun D α E => ∃ a, α[i]? = some (some (.fr (.int a))) ∧ te α (fun r => ∃ b, r.view = .int b ∧ D.nx (α.set i (some (.fr (.int (f a b)))))) E
theorem qs_aug {i : Nat} {x : Str} {op : Operator} {f : Int → Int → Int} {pos' : Pos} (hN : X.N.Nodup) (hi : X.N[i]? = some x) (hl : Loc X.env.scope x) (he : QE g X e te) (ho : PIp X op (ipI f)) (hf : X.fn x = true ∨ X.env.scope.names.lookup x = some .local := by first | exact .inl rfl | exact .inr rfl | assumption) :
    QS g X (.AugAssign (.Name x pos') op e pos) (dAug i f te) := ⟨fun tk Fe He E hT hx => (ps_aug hN hi hl (he.pe tk Fe He E hT hx) ho hf).dimp fun D' σ H h => by
  obtain ⟨F, α, D, A, ⟨a, ea, q⟩, k⟩ := h
  obtain ⟨v, e1, e2, _⟩ := A.val i _ ea
  have ev : v = .int a := Rep.int_ (K := X.K) (g := g) (F := F) e2
  subst ev
  refine ⟨.int a, e1, F, α, _, A, q, fun w H1 h1 => ?_⟩
  obtain ⟨F1, r, st1, sub1, ok1, rep1, _, b, eb, q1⟩ := h1
  have A2 := A.set' (K := X.K) (g := g) i st1 sub1 ok1 (r := .fr (.int (f a b))) (v := .int (f a b)) (Rep.int (K := X.K) (g := g) (F := F1) _) (fun _ _ z => (nomatch z)) (fun _ z => (nomatch z))
  exact ⟨a, b, rfl, RepS.int rep1 eb, k.nx _ H1 ⟨F1, _, A2, q1⟩⟩⟩
/-- while c: body -/
def dWhile (c : DT) (t : DS) : DS := fun D α E => ∃ W : Nat → AE → Prop, (∃ m, W m α) ∧ ∀ m α, W m α → c α (fun b => if b = true then t { D with nx := fun α' => ∃ m', m' < m ∧ W m' α', ct := fun α' => ∃ m', m' < m ∧ W m' α', bk := D.nx } α E else D.nx α) E
theorem qs_while {c : Expr} {body : List Stmt} {tc : DT} (hp : PassesOwn (model X.prog X.w) X.A X.env X.xe) (hc : QT g X c tc) (hb : QSs g X body t) : QS g X (.While c body [] pos) (dWhile tc t) := ⟨fun tk Fe He E hT hx => (ps_while hp (hc.pt tk Fe He E hT hx) (hb.ps tk Fe He E hT hx)).dimp fun D' σ H h => by
  obtain ⟨F, α, D, A, ⟨W, ⟨m0, w0⟩, turn⟩, k⟩ := h
  refine ⟨fun m σ H => ∃ F α, Ab X.K g tk Fe He F H α σ ∧ W m α, ⟨m0, F, α, A, w0⟩, fun m σ H ⟨F, α, A, w⟩ => ?_⟩
  refine ⟨F, α, _, A, turn m α w, fun b H1 F1 st1 sub1 ok1 q1 => ?_⟩
  have A1 := A.step st1 sub1 ok1
  cases b with
  | true =>
    refine ⟨fun σ' H' => ∃ F α, Ab X.K g tk Fe He F H' α σ' ∧ ∃ m', m' < m ∧ W m' α, fun σ' H' ⟨F, α, A, m', hm, w⟩ => ⟨m', hm, F, α, A, w⟩, F1, α, _, A1, q1, ⟨?_, k.rt, ?_, ?_⟩⟩
    · rintro σ' H' ⟨F', α', A', q'⟩
      exact ⟨F', α', A', q'⟩
    · rintro σ' H' ⟨F', α', A', q'⟩
      exact k.nx σ' H' ⟨F', α', A', q'⟩
    · rintro σ' H' ⟨F', α', A', q'⟩
      exact ⟨F', α', A', q'⟩
  | false => exact k.nx σ H1 ⟨F1, α, A1, q1⟩⟩
end

/-! ### what is walked -/
abbrev DI := AE → (List D → Prop) → (XD → Prop) → Prop
structure WalksD (K : PySem.W.Frag) (g : Gv) (tk : Tk) (J : It) (ds : List D) (F0 : Hp) : Prop where
  go : ∀ F H i, Same F0 F → Same F H → i < ds.length → J.go i H
  stop : ∀ F H, Same F0 F → Same F H → J.stop ds.length H
  yld : ∀ F H i x H', Same F0 F → Same F H → tk.ok F H → i < ds.length → J.yld i H x H' → ∃ F' d, Step tk F H F' H' ∧ Same F' H' ∧ tk.ok F' H' ∧ ds[i]? = some d ∧ Rep K g F' d x
def LI (K : PySem.W.Frag) (g : Gv) (tk : Tk) (Fe He : Hp) (E : XD → Prop) (t : DI) : TI := fun σ H R =>
  ∃ F α Q, Ab K g tk Fe He F H α σ ∧ t α Q E ∧ ∀ J F' H' ds, Step tk F H F' H' → Same F' H' → tk.ok F' H' → Q ds → WalksD K g tk J ds F' → R J H'
structure QI (g : Gv) (X : Cx) (tg iter : Expr) (t : DI) : Prop where
  pi : ∀ (tk : Tk) (Fe He : Hp) (E : XD → Prop), g.T tk → Takes X (WD X.K g tk Fe He E) → PI X tg iter (LI X.K g tk Fe He E t)
theorem _root_.L2.PI.dimp {X : Cx} {tg e : Expr} {t t' : TI} (h : PI X tg e t) (k : ∀ σ H R, t' σ H R → t σ H R) : PI X tg e t' := ⟨fun pins s σ H R I q => h.run pins s σ H R I (k σ H R q)⟩
theorem Step.rebase {tk : Tk} {Fe He F3 H3 F' H' : Hp} (a : Step tk Fe He F3 H3) (b : Step tk F3 He F' H') : Step tk Fe He F' H' := by
  refine ⟨a.fr.trans b.fr, fun x o e n => ?_, b.kp, b.ad⟩
  cases q : F3 x with
  | some u => exact a.nw x u q n
  | none => exact b.nw x o e q
theorem Step.based {tk : Tk} {Fe He F3 H3 : Hp} (a : Step tk Fe He F3 H3) : Step tk F3 He F3 H3 := ⟨Same.refl _, fun _ _ e n => by (rw [n] at e; cases e), a.kp, a.ad⟩
theorem Ab.based {K : PySem.W.Frag} {g : Gv} {tk : Tk} {Fe He F H : Hp} {α : AE} {σ : L2.St} (A : Ab K g tk Fe He F H α σ) : Ab K g tk F He F H α σ := ⟨A.sub, A.ok, A.st.based, A.len, A.val, A.nob, A.apart⟩
theorem Ab.rebase {K : PySem.W.Frag} {g : Gv} {tk : Tk} {Fe He F3 H3 F H : Hp} {α : AE} {σ : L2.St} (a : Step tk Fe He F3 H3) (A : Ab K g tk F3 He F H α σ) : Ab K g tk Fe He F H α σ := ⟨A.sub, A.ok, a.rebase A.st, A.len, A.val, A.nob, A.apart⟩
theorem VO.rebase {K : PySem.W.Frag} {g : Gv} {tk : Tk} {Fe He F3 H3 : Hp} {Q : S → Prop} {v : V} {H' : Hp} (a : Step tk Fe He F3 H3) (h : VO K g tk F3 He Q v H') : VO K g tk Fe He Q v H' := by
  obtain ⟨F', r, st, z⟩ := h
  exact ⟨F', r, a.rebase st, z⟩
theorem Takes.based {g : Gv} {X : Cx} {tk : Tk} {Fe He F3 H3 : Hp} {E : XD → Prop} (a : Step tk Fe He F3 H3) (h : Takes X (WD X.K g tk Fe He E)) : Takes X (WD X.K g tk F3 He E) := h.imp fun c d σ H w => by
  obtain ⟨F', c, ns, ds, vs, st, z⟩ := w
  exact ⟨F', c, ns, ds, vs, a.rebase st, z⟩
def LSx (g : Gv) (X : Cx) (tk : Tk) (He : Hp) (E : XD → Prop) (t : DS) : TS := fun D' σ H => ∃ Fb, Takes X (WD X.K g tk Fb He E) ∧ LS X.K g tk Fb He E t D' σ H
theorem QSs.psx {g : Gv} {X : Cx} {st : List Stmt} {t : DS} (h : QSs g X st t) (tk : Tk) (He : Hp) (E : XD → Prop) (hT : g.T tk) : PSs X st (LSx g X tk He E t) := ⟨fun pins s σ H D I q => by
  obtain ⟨Fb, hx, q⟩ := q
  exact (h.ps tk Fb He E hT hx).run pins s σ H D I q⟩
def LGx (g : Gv) (X : Cx) (tk : Tk) (He : Hp) (t : DG) : TG := fun v σ H Q' => ∃ Fb, LG X.K g tk Fb He t v σ H Q'
theorem QG.pgx {g : Gv} {X : Cx} {tg : Expr} {t : DG} (h : QG g X tg t) (tk : Tk) (He : Hp) (hT : g.T tk) : PG X tg (LGx g X tk He t) := ⟨fun pins s σ H v u Q I r q => by
  obtain ⟨Fb, q⟩ := q
  exact (h.pg tk Fb He hT).run pins s σ H v u Q I r q⟩
/-- a for over data: the turns one by one -/
def forD (tg : DG) (t : DS) (De : DEnds) (E : XD → Prop) : List D → AE → Prop
  | [], α => De.nx α
  | d :: ds, α => tg d α (fun α' => t { De with nx := forD tg t De E ds, ct := forD tg t De E ds, bk := De.nx } α' E)
def dFor (it : DI) (tg : DG) (t : DS) : DS := fun De α E => it α (fun ds => forD tg t De E ds α) E
section
variable {g : Gv} {X : Cx} {pos : Pos} {t : DS}
theorem qs_for {iter tg : Expr} {body : List Stmt} {it : DI} {tgd : DG} (hp : PassesOwn (model X.prog X.w) X.A X.env X.xe) (hc : X.calm = true) (hi : QI g X tg iter it) (hg : QG g X tg tgd) (hb : QSs g X body t) (hs : ∀ x, foldedSetIterable iter X.env x = pure x := by intro _; rfl) :
    QS g X (.For tg iter body [] pos) (dFor it tgd t) := ⟨fun tk Fe He E hT hx => (ps_for hp hc (hi.pi tk Fe He E hT hx) (hg.pgx tk He hT) (hb.psx tk He E hT) hs).dimp fun D' σ H h => by
  obtain ⟨F, α, De, A, q, k⟩ := h
  refine ⟨F, α, _, A, q, fun J F1 H1 ds st1 sub1 ok1 q1 w => ?_⟩
  have A1 := A.step st1 sub1 ok1
  have hx1 : Takes X (WD X.K g tk F1 He E) := Takes.based A1.st hx
  refine ⟨fun i m σ H => m = ds.length - i ∧ i ≤ ds.length ∧ ∃ F α, Ab X.K g tk F1 He F H α σ ∧ forD tgd t De E (ds.drop i) α, ⟨ds.length, by simp, Nat.zero_le _, F1, α, A1.based, q1⟩, ?_⟩
  rintro i m σ H ⟨rfl, hi, F2, α2, A2, q2⟩
  have s2 : Same F1 F2 := A2.st.fr
  by_cases hlt : i < ds.length
  · refine .inr ⟨w.go F2 H i s2 A2.sub hlt, fun σ' H' => ∃ F α, Ab X.K g tk F1 He F H' α σ' ∧ forD tgd t De E (ds.drop (i + 1)) α, fun σ' H' z => ⟨ds.length - (i + 1), by omega, rfl, hlt, z⟩, fun x H3 y => ?_⟩
    obtain ⟨F3, d, st3, sub3, ok3, ed, rp⟩ := w.yld F2 H i x H3 s2 A2.sub A2.ok hlt y
    have e : ds.drop i = d :: ds.drop (i + 1) := by
      rw [List.drop_eq_getElem_cons hlt]
      rw [List.getElem?_eq_getElem hlt] at ed
      cases ed
      rfl
    rw [e] at q2
    have A3 := A2.step st3 sub3 ok3
    refine ⟨F1, F3, α2, d, _, A3, rp, q2, fun σ4 α4 A4 q4 => ⟨F1, hx1, F3, α4, _, A4, q4, ⟨?_, ?_, ?_, ?_⟩⟩⟩
    · rintro σ' H' ⟨F', α', A', q'⟩
      exact ⟨F', α', A', q'⟩
    · intro v H' h'
      exact k.rt v H' (h'.rebase A1.st)
    · rintro σ' H' ⟨F', α', A', q'⟩
      exact k.nx σ' H' ⟨F', α', A'.rebase A1.st, q'⟩
    · rintro σ' H' ⟨F', α', A', q'⟩
      exact ⟨F', α', A', q'⟩
  · have e : i = ds.length := by omega
    subst e
    rw [List.drop_length] at q2
    exact .inl ⟨w.stop F2 H s2 A2.sub, k.nx σ H ⟨F2, α2, A2.rebase A1.st, q2⟩⟩⟩
/-! a list, a tuple; ranges; zip -/
theorem walksD_of {K : PySem.W.Frag} {tk : Tk} {J : It} {ds : List D} {F0 : Hp} {G : Hp → Prop} {Y : Nat → Hp → V → Hp → Prop} (w : Walk J ds.length G Y) (hG : ∀ F H, Same F0 F → Same F H → G H)
    (hY : ∀ F H i x H', Same F0 F → Same F H → tk.ok F H → i < ds.length → Y i H x H' → ∃ F' d, Step tk F H F' H' ∧ Same F' H' ∧ tk.ok F' H' ∧ ds[i]? = some d ∧ Rep K g F' d x) : WalksD K g tk J ds F0 :=
  ⟨fun F H i s sub hi => w.goes i H hi (hG F H s sub), fun F H s sub => w.stops H (hG F H s sub), fun F H i x H' s sub ok hi y => hY F H i x H' s sub ok hi (w.yields i H x H' hi (hG F H s sub) y)⟩
theorem walks_list {K : PySem.W.Frag} {tk : Tk} {a : Addr} {ds : List D} {vs : List V} {F0 : Hp} (h : F0 a = some (.lst vs)) (r : Reps K g F0 ds vs) : WalksD K g tk (Itl K a) ds F0 := by
  have w : Walk (Itl K a) ds.length (fun H => SqL K H a vs) (YAt vs) := by
    rw [← r.length]
    exact walk_list
  refine walksD_of w (fun F H s sub => SqL.of (sub _ _ (s _ _ h))) fun F H i x H' s sub ok hi y => ?_
  obtain ⟨rfl, e⟩ := y
  obtain ⟨d, e1, rp⟩ := r.getV e
  exact ⟨F, d, Step.refl _ _ _, sub, ok, e1, rp.mono s⟩
theorem walks_scr {K : PySem.W.Frag} {tk : Tk} {a : Addr} {ns : List Int} {F0 : Hp} (h : SqL K F0 a (ns.map V.int)) : WalksD K g tk (Itl K a) (ns.map D.int) F0 := by
  have w : Walk (Itl K a) (ns.map D.int).length (fun H => SqL K H a (ns.map V.int)) (YAt (ns.map V.int)) := by
    have e : (ns.map D.int).length = (ns.map V.int).length := by rw [List.length_map, List.length_map]
    rw [e]
    exact walk_list
  refine walksD_of w (fun F H s sub => sub.seq (s.seq h)) fun F H i x H' s sub ok hi y => ?_
  obtain ⟨rfl, e⟩ := y
  rw [List.getElem?_map] at e
  cases q : ns[i]? with
  | none => rw [q] at e; cases e
  | some n =>
    rw [q] at e
    cases e
    exact ⟨F, .int n, Step.refl _ _ _, sub, ok, by rw [List.getElem?_map, q]; rfl, Rep.int n⟩
theorem walks_tup {K : PySem.W.Frag} {tk : Tk} {a : Addr} {ds : List D} {vs : List V} {F0 : Hp} (h : SqT K F0 a vs) (r : Reps K g F0 ds vs) : WalksD K g tk (Itt K a) ds F0 := by
  have w : Walk (Itt K a) ds.length (fun H => SqT K H a vs) (YAt vs) := by
    rw [← r.length]
    exact walk_tup
  refine walksD_of w (fun F H s sub => sqT_same sub (sqT_same s h)) fun F H i x H' s sub ok hi y => ?_
  obtain ⟨rfl, e⟩ := y
  obtain ⟨d, e1, rp⟩ := r.getV e
  exact ⟨F, d, Step.refl _ _ _, sub, ok, e1, rp.mono s⟩
def rangeD (lo : Int) (n : Nat) : List D := (List.range n).map fun i => .int (lo + (i : Nat))
theorem walks_range {K : PySem.W.Frag} {tk : Tk} {lo : Int} {n : Nat} {F0 : Hp} : WalksD K g tk (Itr lo n) (rangeD lo n) F0 := by
  have el : (rangeD lo n).length = n := by unfold rangeD; rw [List.length_map, List.length_range]
  have w : Walk (Itr lo n) (rangeD lo n).length (fun _ => True) (YFn fun i => .int (lo + i)) := by
    rw [el]
    exact walk_range
  refine walksD_of w (fun _ _ _ _ => trivial) fun F H i x H' s sub ok hi y => ?_
  obtain ⟨rfl, e⟩ := y
  subst e
  rw [el] at hi
  refine ⟨F, .int (lo + i), Step.refl _ _ _, sub, ok, ?_, Rep.int _⟩
  unfold rangeD
  rw [List.getElem?_map, List.getElem?_range hi]
  rfl
/-- over a list: what it holds -/
def dIterL (te : DE) : DI := fun α Q E => te α (fun s => (∃ ds, s.fz = .fr (.lst ds) ∧ Q ds) ∨ ∃ ns, s.fz = .fr (.scr ns) ∧ Q (ns.map D.int)) E
def dIterT (te : DE) : DI := fun α Q E => te α (fun s => ∃ ds, s.fz = .fr (.tup ds) ∧ Q ds) E
theorem qi_list {e tg : Expr} {te : DE} (he : QE g X e te) : QI g X tg e (dIterL te) := ⟨fun tk Fe He E hT hx => (pi_list (he.pe tk Fe He E hT hx)).dimp fun σ H R h => by
  obtain ⟨F, α, Q, A, q, k⟩ := h
  refine ⟨F, α, _, A, q, fun v H1 h1 => ?_⟩
  obtain ⟨F1, r, st1, sub1, ok1, rep1, q1⟩ := h1.fz
  rcases q1 with ⟨ds, e1, q1⟩ | ⟨ns, e1, q1⟩
  · rw [e1] at rep1
    obtain ⟨a, vs, rfl, h2, h3⟩ := Rep.lst_ rep1
    exact ⟨a, rfl, ⟨vs, SqL.of (sub1 _ _ h2)⟩, k _ F1 H1 ds st1 sub1 ok1 q1 (walks_list h2 h3)⟩
  · rw [e1] at rep1
    have rp : Rep X.K g F1 (.scr ns) v := rep1
    unfold Rep at rp
    obtain ⟨a, rfl, h2⟩ := rp
    exact ⟨a, rfl, ⟨_, sub1.seq h2⟩, k _ F1 H1 _ st1 sub1 ok1 q1 (walks_scr h2)⟩⟩
theorem qi_tup {e tg : Expr} {te : DE} (he : QE g X e te) : QI g X tg e (dIterT te) := ⟨fun tk Fe He E hT hx => (pi_tup (he.pe tk Fe He E hT hx)).dimp fun σ H R h => by
  obtain ⟨F, α, Q, A, q, k⟩ := h
  refine ⟨F, α, _, A, q, fun v H1 h1 => ?_⟩
  obtain ⟨F1, r, st1, sub1, ok1, rep1, ds, e1, q1⟩ := h1.fz
  rw [e1] at rep1
  obtain ⟨a, vs, rfl, h2, h3⟩ := Rep.tup_ rep1
  exact ⟨a, rfl, ⟨vs, sqT_same sub1 h2⟩, k _ F1 H1 ds st1 sub1 ok1 q1 (walks_tup h2 h3)⟩⟩
theorem RepSs.one {K : PySem.W.Frag} {tk : Tk} {F H : Hp} {s : S} {vs : List V} (h : RepSs K g tk F H [s] vs) : ∃ v, vs = [v] ∧ RepS K g tk F H s v := by
  obtain ⟨v, r, rfl, q, hn⟩ := h
  have hn' : r = [] := hn
  subst hn'
  exact ⟨v, rfl, q⟩
theorem RepSs.two {K : PySem.W.Frag} {tk : Tk} {F H : Hp} {s t : S} {vs : List V} (h : RepSs K g tk F H [s, t] vs) : ∃ v w, vs = [v, w] ∧ RepS K g tk F H s v ∧ RepS K g tk F H t w := by
  obtain ⟨v, r, rfl, q, t⟩ := h
  obtain ⟨w, rfl, q2⟩ := RepSs.one t
  exact ⟨v, w, rfl, q, q2⟩
def dRng1 (u : DA) : DI := fun α Q E => u α (fun ss => ∃ j, ss = [.fr (.int j)] ∧ -(2 ^ 62) ≤ j ∧ j < 2 ^ 62 ∧ Q (rangeD 0 j.toNat)) E
def dRng2 (u : DA) : DI := fun α Q E => u α (fun ss => ∃ i j, ss = [.fr (.int i), .fr (.int j)] ∧ (-(2 ^ 62) ≤ i ∧ i < 2 ^ 62 ∧ -(2 ^ 62) ≤ j ∧ j < 2 ^ 62) ∧ Q (rangeD i (j - i).toNat)) E
theorem qi_rng1 {a tg : Expr} {u : DA} {p : Pos} (hg : Gl X "range") (hm : X.mg "range" = none) (ha : QA g X [a] u) (hs : starEach [a] X.env = [(false, eval a X.env)] := by rfl) : QI g X tg (.Call (.Name "range" p) [a] [] pos) (dRng1 u) := ⟨fun tk Fe He E hT hx => (pi_range1 hg hm (ha.pa tk Fe He E hT hx) hs).dimp fun σ H R h => by
  obtain ⟨F, α, Q, A, q, k⟩ := h
  refine ⟨F, α, _, A, q, fun vs H1 F1 ss st1 sub1 ok1 reps q1 => ?_⟩
  obtain ⟨j, rfl, b1, b2, q1⟩ := q1
  obtain ⟨v, rfl, r⟩ := RepSs.one reps
  have ev : v = .int j := Rep.int_ (K := X.K) (g := g) (F := F1) r
  exact ⟨j, by rw [ev], b1, b2, k _ F1 H1 _ st1 sub1 ok1 q1 walks_range⟩⟩
theorem qi_rng2 {a b tg : Expr} {u : DA} {p : Pos} (hg : Gl X "range") (hm : X.mg "range" = none) (ha : QA g X [a, b] u) (hs : starEach [a, b] X.env = [(false, eval a X.env), (false, eval b X.env)] := by rfl) (hs2 : starEach [b] X.env = [(false, eval b X.env)] := by rfl) :
    QI g X tg (.Call (.Name "range" p) [a, b] [] pos) (dRng2 u) := ⟨fun tk Fe He E hT hx => (pi_range2 hg hm (ha.pa tk Fe He E hT hx) hs hs2).dimp fun σ H R h => by
  obtain ⟨F, α, Q, A, q, k⟩ := h
  refine ⟨F, α, _, A, q, fun vs H1 F1 ss st1 sub1 ok1 reps q1 => ?_⟩
  obtain ⟨i, j, rfl, b, q1⟩ := q1
  obtain ⟨v, w, rfl, r1, r2⟩ := RepSs.two reps
  have ev : v = .int i := Rep.int_ (K := X.K) (g := g) (F := F1) r1
  have ew : w = .int j := Rep.int_ (K := X.K) (g := g) (F := F1) r2
  exact ⟨i, j, by rw [ev, ew], b, k _ F1 H1 _ st1 sub1 ok1 q1 walks_range⟩⟩
/-- new pairs -/
theorem pair_step {K : PySem.W.Frag} {tk : Tk} {F H H' : Hp} {x : V} {d e : D} {v w : V} (sub : Same F H) (ok : tk.ok F H) (rd : Rep K g F d v) (re : Rep K g F e w) (y : ∃ T, x = .ref T ∧ H T = none ∧ H' = upd H T (.tup [v, w])) :
    ∃ F', Step tk F H F' H' ∧ Same F' H' ∧ tk.ok F' H' ∧ Rep K g F' (.tup [d, e]) x := by
  obtain ⟨T, rfl, hT, rfl⟩ := y
  obtain ⟨F', r, st, sub', ok', rp, _, e'⟩ := VO.tup (K := K) (g := g) (Q := fun s => s = .fr (.tup [d, e])) sub ok hT (.cons rd (.cons re .nil)) rfl
  subst e'
  exact ⟨F', st, sub', ok', rp⟩
def pairsD (xs ys : List D) : List D := List.zipWith (fun x y => .tup [x, y]) xs ys
theorem pairs_get {xs ys : List D} {i : Nat} {x y : D} (h1 : xs[i]? = some x) (h2 : ys[i]? = some y) : (pairsD xs ys)[i]? = some (.tup [x, y]) := by
  unfold pairsD
  rw [List.getElem?_zipWith, h1, h2]
theorem walks_zip {K : PySem.W.Frag} {tk : Tk} {a b : Addr} {xs ys : List D} {vs ws : List V} {F0 : Hp} (h1 : F0 a = some (.lst vs)) (r1 : Reps K g F0 xs vs) (h2 : F0 b = some (.lst ws)) (r2 : Reps K g F0 ys ws) : WalksD K g tk (Itz K a b) (pairsD xs ys) F0 := by
  have el : (pairsD xs ys).length = min vs.length ws.length := by unfold pairsD; rw [List.length_zipWith, r1.length, r2.length]
  refine walksD_of (walk_zip el) (fun F H s sub => ⟨SqL.of (sub _ _ (s _ _ h1)), SqL.of (sub _ _ (s _ _ h2))⟩) fun F H i x H' s sub ok hi y => ?_
  obtain ⟨T, v, w, e0, e1, e2, e3, e4⟩ := y
  obtain ⟨d, f1, rd⟩ := r1.getV e3
  obtain ⟨e, f2, re⟩ := r2.getV e4
  obtain ⟨F', st, sub', ok', rp⟩ := pair_step sub ok (rd.mono s) (re.mono s) ⟨T, e0, e1, e2⟩
  exact ⟨F', _, st, sub', ok', pairs_get f1 f2, rp⟩
def dZip (u : DA) : DI := fun α Q E => u α (fun ss => ∃ xs ys, ss = [.fr (.lst xs), .fr (.lst ys)] ∧ Q (pairsD xs ys)) E
theorem qi_zip {e e2 : Expr} {u : DA} {p tpos : Pos} {elts : List Expr} {kk : Nat} (hg : Gl X "zip") (hm : X.mg "zip" = none) (ha : QA g X [e, e2] u)
    (hs : starEach [e, e2] X.env = (false, eval e X.env) :: starEach [e2] X.env := by rfl) (hpl : (backTo pos (starEach [e2] X.env)).any (·.1) = false := by rfl) : QI g X (.Tuple elts kk tpos) (.Call (.Name "zip" p) [e, e2] [] pos) (dZip u) := ⟨fun tk Fe He E hT hx => (pi_zip hg hm (ha.pa tk Fe He E hT hx) hs hpl).dimp fun σ H R h => by
  obtain ⟨F, α, Q, A, q, k⟩ := h
  refine ⟨F, α, _, A, q, fun vs H1 F1 ss st1 sub1 ok1 reps q1 => ?_⟩
  obtain ⟨xs, ys, rfl, q1⟩ := q1
  obtain ⟨v, w, rfl, r1, r2⟩ := RepSs.two reps
  obtain ⟨a, vs, rfl, h2, h3⟩ := Rep.lst_ (K := X.K) (g := g) (F := F1) r1
  obtain ⟨b, ws, rfl, h4, h5⟩ := Rep.lst_ (K := X.K) (g := g) (F := F1) r2
  exact ⟨a, b, vs, ws, rfl, SqL.of (sub1 _ _ h2), SqL.of (sub1 _ _ h4), k _ F1 H1 _ st1 sub1 ok1 q1 (walks_zip h2 h3 h4 h5)⟩⟩
end
end DL

set_option Elab.async false
set_option linter.all false
set_option maxRecDepth 100000
set_option maxHeartbeats 4000000
namespace DL
open PySem PySem.Spec L2

/-! ### targets of a block: only its own slots change -/
def LGv (K : PySem.W.Frag) (g : Gv) (tk : Tk) (Fe He : Hp) (vs : List Nat) (t : DG) : TG := fun v σ H Q' =>
  ∃ F α d Q, Ab K g tk Fe He F H α σ ∧ Rep K g F d v ∧ t d α Q ∧ ∀ σ' α', Ab K g tk Fe He F H α' σ' → wipe σ' vs = wipe σ vs → Q α' → Q' σ' H
def LGsv (K : PySem.W.Frag) (g : Gv) (tk : Tk) (Fe He : Hp) (vs : List Nat) (t : List D → AE → (AE → Prop) → Prop) : TGs := fun us σ H Q' =>
  ∃ F α ds Q, Ab K g tk Fe He F H α σ ∧ Reps K g F ds us ∧ t ds α Q ∧ ∀ σ' α', Ab K g tk Fe He F H α' σ' → wipe σ' vs = wipe σ vs → Q α' → Q' σ' H
structure QGv (g : Gv) (X : Cx) (tg : Expr) (vs : List Nat) (t : DG) : Prop where
  pg : ∀ (tk : Tk) (Fe He : Hp), g.T tk → PG X tg (LGv X.K g tk Fe He vs t)
structure QGsv (g : Gv) (X : Cx) (ts : List Expr) (vs : List Nat) (t : List D → AE → (AE → Prop) → Prop) : Prop where
  pg : ∀ (tk : Tk) (Fe He : Hp), g.T tk → PGs X ts (LGsv X.K g tk Fe He vs t)
theorem wipe_get {σ : L2.St} : ∀ (vs : List Nat) (j : Nat), (wipe σ vs)[j]? = if j ∈ vs ∧ j < σ.length then some none else σ[j]?
  | [], j => by
    unfold wipe
    simp
  | v :: vs, j => by
    unfold wipe
    by_cases h : v = j
    · subst h
      by_cases hl : v < σ.length
      · rw [List.getElem?_set_self (by rw [wipe_length]; exact hl), if_pos ⟨by simp, hl⟩]
      · rw [List.getElem?_eq_none (by rw [List.length_set, wipe_length]; omega), if_neg (fun z => hl z.2), List.getElem?_eq_none (by omega)]
    · rw [List.getElem?_set_ne h, wipe_get vs j]
      have e : (j ∈ v :: vs) ↔ (j ∈ vs) := by
        rw [List.mem_cons]
        exact ⟨fun z => z.elim (fun q => absurd q.symm h) id, .inr⟩
      simp only [e]
theorem wipe_wipe {σ : L2.St} {vs : List Nat} : wipe (wipe σ vs) vs = wipe σ vs := by
  apply List.ext_getElem?
  intro j
  rw [wipe_get, wipe_length, wipe_get]
  by_cases hj : j ∈ vs ∧ j < σ.length
  · rw [if_pos hj, if_pos hj]
  · rw [if_neg hj]
theorem wipe_set {σ : L2.St} {vs : List Nat} {i : Nat} {x : Option V} (h : i ∈ vs) : wipe (σ.set i x) vs = wipe σ vs := by
  apply List.ext_getElem?
  intro j
  rw [wipe_get, wipe_get, List.length_set]
  by_cases hj : j ∈ vs ∧ j < σ.length
  · rw [if_pos hj, if_pos hj]
  · rw [if_neg hj, if_neg hj]
    by_cases e : i = j
    · subst e
      have hl : ¬ i < σ.length := fun z => hj ⟨h, z⟩
      rw [List.getElem?_eq_none (by rw [List.length_set]; omega), List.getElem?_eq_none (by omega)]
    · rw [List.getElem?_set_ne e]
section
variable {g : Gv} {X : Cx} {e : Expr} {pos : Pos} {vs : List Nat}
theorem qgv_name {i : Nat} {x : Str} (hN : X.N.Nodup) (hi : X.N[i]? = some x) (hl : Loc X.env.scope x) (hm : i ∈ vs) (hf : X.fn x = true ∨ X.env.scope.names.lookup x = some .local := by first | exact .inl rfl | exact .inr rfl | assumption) : QGv g X (.Name x pos) vs (gNm i) :=
  ⟨fun tk Fe He hT => (pg_name hN hi hl hf).dimp fun v σ H Q' h => by
    obtain ⟨F, α, d, Q, A, r, q, k⟩ := h
    exact k _ _ (A.set' i (Step.refl _ _ _) A.sub A.ok (r := .fr d) r (fun d p z => nomatch z) fun d z => nomatch z) (wipe_set hm) q⟩
theorem qgsv_nil : QGsv g X [] vs gsNil := ⟨fun tk Fe He hT => pgs_nil.dimp fun us σ H Q' h => by
    obtain ⟨F, α, ds, Q, A, r, q, k⟩ := h
    obtain ⟨rfl, q⟩ := q
    exact ⟨r.inv_nil, k σ α A rfl q⟩⟩
theorem qgsv_cons {es : List Expr} {t : DG} {u : List D → AE → (AE → Prop) → Prop} (h1 : QGv g X e vs t) (h2 : QGsv g X es vs u) (hs : (assignEach (e :: es) X.env).map (·.2) = assign e X.env :: (assignEach es X.env).map (·.2) := by rfl) : QGsv g X (e :: es) vs (gsCons t u) :=
  ⟨fun tk Fe He hT => (pgs_cons (h1.pg tk Fe He hT) (h2.pg tk Fe He hT) hs).dimp fun us σ H Q' h => by
    obtain ⟨F, α, ds, Q, A, r, ⟨d, ds', rfl, q⟩, k⟩ := h
    obtain ⟨v, vs', rfl, rd, rs⟩ := r.inv_cons
    exact ⟨v, vs', rfl, F, α, d, _, A, rd, q, fun σ' α' A' w q' => ⟨F, α', ds', Q, A', rs, q', fun σ2 α2 A2 w2 q2 => k σ2 α2 A2 (w2.trans w) q2⟩⟩⟩
theorem qgv_tup {es : List Expr} {k : Nat} {t : List D → AE → (AE → Prop) → Prop} {n : Nat} (hc : X.calm = true) (h : QGsv g X es vs t) (hn : (assignEach es X.env).length = n := by rfl) (hst : (assignEach es X.env).findIdx? (·.1) = none := by rfl) : QGv g X (.Tuple es k pos) vs (gTp n t) :=
  ⟨fun tk Fe He hT => (pg_tup hc (h.pg tk Fe He hT) hn hst).dimp fun v σ H Q' h => by
    obtain ⟨F, α, d, Q, A, r, ⟨ds, rfl, hl, q⟩, k⟩ := h
    obtain ⟨a, vs, rfl, h2, h3⟩ := Rep.tup_ r
    exact ⟨a, vs, rfl, sqT_same A.sub h2, h3.length.trans hl, F, α, ds, Q, A, h3, q, k⟩⟩
end

/-! ### tests of a block -/
def LTs (K : PySem.W.Frag) (g : Gv) (tk : Tk) (Fe He : Hp) (t : DT) : TT := LT K g tk Fe He (fun _ => False) t
structure QTs (g : Gv) (X : Cx) (es : List Expr) (t : DT) : Prop where
  pt : ∀ (tk : Tk) (Fe He : Hp), g.T tk → Takes X (WD X.K g tk Fe He fun _ => False) → PTs X es (LTs X.K g tk Fe He t)
theorem _root_.L2.PTs.dimp {X : Cx} {e : List Expr} {t t' : TT} (h : PTs X e t) (k : ∀ σ H Q, t' σ H Q → t σ H Q) : PTs X e t' := ⟨fun pins s σ H Q I q => h.run pins s σ H Q I (k σ H Q q)⟩
def dYes : DT := fun _ Q _ => Q true
section
variable {g : Gv} {X : Cx} {e : Expr} {pos : Pos}
theorem qts_nil : QTs g X [] dYes := ⟨fun tk Fe He hT hx => pts_nil.dimp fun σ H Q' h => by
  obtain ⟨F, α, Q, A, q, k⟩ := h
  exact k true H F (Step.refl _ _ _) A.sub A.ok q⟩
theorem qts_one {t : DT} (h : QT g X e t) : QTs g X [e] t := ⟨fun tk Fe He hT hx => pts_one (h.pt tk Fe He _ hT hx)⟩
end

/-! ### slots without a value -/
def wipeA (α : AE) : List Nat → AE
  | [] => α
  | v :: vs => (wipeA α vs).set v none
theorem Ab.unset {K : PySem.W.Frag} {g : Gv} {tk : Tk} {Fe He F H : Hp} {α : AE} {σ : L2.St} (A : Ab K g tk Fe He F H α σ) (i : Nat) : Ab K g tk Fe He F H (α.set i none) (σ.set i none) := by
  have old : ∀ {j : Nat} {s : S}, (α.set i none)[j]? = some (some s) → i ≠ j ∧ α[j]? = some (some s) := fun {j s} h => by
    by_cases z : i = j
    · subst z
      by_cases hi : i < α.length
      · rw [List.getElem?_set_self hi] at h
        cases h
      · rw [List.getElem?_eq_none (by simpa using hi)] at h
        cases h
    · rw [List.getElem?_set_ne z] at h
      exact ⟨z, h⟩
  refine ⟨A.sub, A.ok, A.st, by rw [List.length_set, List.length_set]; exact A.len, fun j s h => ?_, fun j d h => ?_, fun j l d e w hjl hj hl hj' hl' => ?_⟩
  · obtain ⟨z, h⟩ := old h
    obtain ⟨v, e1, e2⟩ := A.val j s h
    exact ⟨v, by rw [List.getElem?_set_ne z]; exact e1, e2⟩
  · exact A.nob j d (old h).2
  · obtain ⟨z1, h1⟩ := old hj
    obtain ⟨z2, h2⟩ := old hl
    rw [List.getElem?_set_ne z1] at hj'
    rw [List.getElem?_set_ne z2] at hl'
    exact A.apart j l d e w hjl h1 h2 hj' hl'
theorem Ab.wipe_ {K : PySem.W.Frag} {g : Gv} {tk : Tk} {Fe He F H : Hp} {α : AE} {σ : L2.St} (A : Ab K g tk Fe He F H α σ) : ∀ vs : List Nat, Ab K g tk Fe He F H (wipeA α vs) (wipe σ vs)
  | [] => A
  | v :: vs => (A.wipe_ vs).unset v
/-- the new list as one more slot -/
theorem Ab.more {K : PySem.W.Frag} {g : Gv} {tk : Tk} {Fe He F H : Hp} {α : AE} {σ : L2.St} {Dn : Addr} (A : Ab K g tk Fe He F H α σ) (hD : H Dn = none) : Ab K g tk Fe He F (upd H Dn (.lst [])) (α ++ [some (.nw (.lst []))]) (σ ++ [some (.ref Dn)]) := by
  have st : Step tk F H F (upd H Dn (.lst [])) := Step.own hD
  have hF : F Dn = none := A.sub.free hD
  have nD : Dn ∉ tk.ad := fun z => (tk.fr _ _ A.ok Dn z).2 hD
  have hHe : Nf He Dn := fun o w n => by
    obtain ⟨o', w', n'⟩ := A.st.ad Dn o w n
    rw [hD] at w'
    cases w'
  have sub' : Same F (upd H Dn (.lst [])) := fun a o e => by
    rw [upd_ne (ne_of_none e hF)]
    exact A.sub a o e
  have ok' : tk.ok F (upd H Dn (.lst [])) := tk.st _ _ _ _ A.ok (Same.refl _) (fun a o e _ => by rw [upd_ne (ne_of_none e hD)]; exact e) (fun a ha => (tk.fr _ _ A.ok a ha).1) fun a u e n => by (rw [n] at e; cases e)
  have A' := A.step st sub' ok'
  have hl := A.len
  refine ⟨sub', ok', A'.st, by simp [hl], fun j s h => ?_, fun j d h => ?_, fun j l d e w hjl hj hl1 hj' hl' => ?_⟩
  · by_cases z : j < α.length
    · rw [List.getElem?_append_left z] at h
      rw [List.getElem?_append_left (by omega)]
      exact A'.val j s h
    · rw [List.getElem?_append_right (by omega)] at h
      have e : j = α.length := by
        cases q : j - α.length with
        | zero => omega
        | succ n => rw [q] at h; cases h
      subst e
      rw [Nat.sub_self] at h
      have e2 : s = .nw (.lst []) := (Option.some.inj (Option.some.inj h)).symm
      subst e2
      refine ⟨.ref Dn, by rw [hl, List.getElem?_append_right (Nat.le_refl _), Nat.sub_self]; rfl, ⟨Dn, rfl, hF, nD, [], upd_same, .nil⟩, fun _ p _ e => ?_⟩
      cases e
      exact hHe
  · by_cases z : j < α.length
    · rw [List.getElem?_append_left z] at h
      exact A.nob j d h
    · rw [List.getElem?_append_right (by omega)] at h
      cases q : j - α.length with
      | zero => rw [q] at h; cases h
      | succ n => rw [q] at h; cases h
  · have last : ∀ {a : Nat} {s : S}, (α ++ [some (.nw (.lst []))])[a]? = some (some s) → ¬ a < α.length → a = α.length := fun {a s} h z => by
      rw [List.getElem?_append_right (by omega)] at h
      cases q : a - α.length with
      | zero => omega
      | succ n => rw [q] at h; cases h
    have oldNe : ∀ {a : Nat} {x : D} {y : V}, a < α.length → (α ++ [some (.nw (.lst []))])[a]? = some (some (.nw x)) → (σ ++ [some (V.ref Dn)])[a]? = some (some y) → y ≠ .ref Dn := fun {a x y} z h hy e => by
      rw [List.getElem?_append_left z] at h
      rw [List.getElem?_append_left (by omega)] at hy
      obtain ⟨v, e1, ⟨p, rfl, _, _, ho⟩, _⟩ := A.val a _ h
      rw [hy] at e1
      have e3 := Option.some.inj (Option.some.inj e1)
      rw [e] at e3
      cases e3
      exact ho.there hD
    by_cases zj : j < α.length
    · by_cases zl : l < α.length
      · rw [List.getElem?_append_left zj] at hj
        rw [List.getElem?_append_left zl] at hl1
        rw [List.getElem?_append_left (by omega)] at hj' hl'
        exact A.apart j l d e w hjl hj hl1 hj' hl'
      · have el := last hl1 zl
        rw [el, hl, List.getElem?_append_right (Nat.le_refl _), Nat.sub_self] at hl'
        have ew : V.ref Dn = w := Option.some.inj (Option.some.inj hl')
        exact oldNe zj hj hj' ew.symm
    · have ej := last hj zj
      by_cases zl : l < α.length
      · rw [ej, hl, List.getElem?_append_right (Nat.le_refl _), Nat.sub_self] at hj'
        have ew : V.ref Dn = w := Option.some.inj (Option.some.inj hj')
        exact oldNe zl hl1 hl' ew.symm
      · exact hjl (ej.trans (last hl1 zl).symm)
theorem Ab.less {K : PySem.W.Frag} {g : Gv} {tk : Tk} {Fe He F H : Hp} {α : AE} {σ : L2.St} {s : Option S} {v : Option V} (hl : α.length = σ.length) (A : Ab K g tk Fe He F H (α ++ [s]) (σ ++ [v])) : Ab K g tk Fe He F H α σ := by
  refine ⟨A.sub, A.ok, A.st, hl, fun j s h => ?_, fun j d h => ?_, fun j l d e w hjl hj hl1 hj' hl' => ?_⟩
  · have z : j < α.length := by
      cases Nat.lt_or_ge j α.length with
      | inl z => exact z
      | inr z => rw [List.getElem?_eq_none z] at h; cases h
    obtain ⟨v, e1, e2⟩ := A.val j s (by rw [List.getElem?_append_left z]; exact h)
    rw [List.getElem?_append_left (by omega)] at e1
    exact ⟨v, e1, e2⟩
  · have z : j < α.length := by
      cases Nat.lt_or_ge j α.length with
      | inl z => exact z
      | inr z => rw [List.getElem?_eq_none z] at h; cases h
    exact A.nob j d (by rw [List.getElem?_append_left z]; exact h)
  · have lt : ∀ {a : Nat} {x : Option S}, α[a]? = some x → a < α.length := fun {a x} h => by
      cases Nat.lt_or_ge a α.length with
      | inl z => exact z
      | inr z => rw [List.getElem?_eq_none z] at h; cases h
    have zj := lt hj
    have zl := lt hl1
    refine A.apart j l d e w hjl ?_ ?_ ?_ ?_
    · rw [List.getElem?_append_left zj]; exact hj
    · rw [List.getElem?_append_left zl]; exact hl1
    · rw [List.getElem?_append_left (by omega)]; exact hj'
    · rw [List.getElem?_append_left (by omega)]; exact hl'

/-! ### comprehensions -/
/-- [e for tg in items if t]: α the slots with the block's own wiped -/
def lcD (tg : DG) (tt : DT) (te : DE) (Q : List D → Prop) (α : AE) : List D → List D → Prop
  | [], acc => Q acc
  | d :: ds, acc => tg d α (fun α' => tt α' (fun b => if b = true then te α' (fun r => ∃ x, r.fz = .fr x ∧ acc.length < sizeLine ∧ lcD tg tt te Q α ds (acc ++ [x])) (fun _ => False) else lcD tg tt te Q α ds acc) (fun _ => False))
def dLc (it : DI) (tg : DG) (tt : DT) (te : DE) (vs : List Nat) : DE := fun α Q E => it α (fun ds => lcD tg tt te (fun acc => Q (.nw (.lst acc))) (wipeA α vs) ds []) E
theorem takes_never {X : Cx} {g : Gv} {tk : Tk} {Fe He : Hp} : Takes X (WD X.K g tk Fe He fun _ => False) := fun u s' ⟨a, B, sI, pins, σ, H, cls, d, _, _, _, _, _, _, _, _, w⟩ => by
  obtain ⟨_, _, _, _, _, _, _, _, _, _, _, _, z⟩ := w
  exact z.elim
theorem lc_lift {K : PySem.W.Frag} {g : Gv} {tk : Tk} {Fe He F H : Hp} {α : AE} {σ : L2.St} {ds : List D} {J : It} {tg : DG} {tt : DT} {te : DE} {vs : List Nat} {Q : S → Prop} {Q' : VK}
    (A : Ab K g tk Fe He F H α σ) (w : WalksD K g tk J ds F) (q : lcD tg tt te (fun acc => Q (.nw (.lst acc))) (wipeA α vs) ds [])
    (k : ∀ v H', VO K g tk F H Q v H' → Q' v H') :
    ∀ Dn, H Dn = none → ∃ W : Nat → Nat → Hp → Prop, (∃ m, W 0 m (upd H Dn (.lst []))) ∧ ∀ i m H, W i m H →
      (J.stop i H ∧ Q' (.ref Dn) H) ∨ (J.go i H ∧ ∃ Nx : Hp → Prop, (∀ H', Nx H' → ∃ m', m' < m ∧ W (i + 1) m' H') ∧ ∀ x H', J.yld i H x H' → LGv K g tk F He vs tg x (wipe σ vs) H' fun σ2 H2 => wipe σ2 vs = wipe σ vs ∧ LTs K g tk F He tt σ2 H2 fun b H3 =>
        if b = true then LE K g tk F He (fun _ => False) te σ2 H3 fun y H4 => ∃ acc, H4 Dn = some (.lst acc) ∧ acc.length < sizeLine ∧ Nx (upd H4 Dn (.lst (acc ++ [y]))) else Nx H3) := by
  intro Dn hD
  have A0 : Ab K g tk F He F H (wipeA α vs) (wipe σ vs) := (A.wipe_ vs).based
  have A1 := A0.more hD
  -- all that is kept of the turns' ends
  refine ⟨fun i m H' => m = ds.length - i ∧ i ≤ ds.length ∧ ∃ F' acc, Ab K g tk F He F' H' (wipeA α vs ++ [some (.nw (.lst acc))]) (wipe σ vs ++ [some (.ref Dn)]) ∧ lcD tg tt te (fun acc => Q (.nw (.lst acc))) (wipeA α vs) (ds.drop i) acc ∧ Step tk F H F' H',
    ⟨ds.length, by simp, Nat.zero_le _, F, [], A1, q, Step.own hD⟩, ?_⟩
  rintro i m H2 ⟨rfl, hi, F2, acc, A2, q2, S2⟩
  have s2 : Same F F2 := A2.st.fr
  have hlen := A0.len
  have ix : (wipeA α vs ++ [some (S.nw (.lst acc))])[(wipeA α vs).length]? = some (some (.nw (.lst acc))) := by rw [List.getElem?_append_right (Nat.le_refl _), Nat.sub_self]; rfl
  have ixv : (wipe σ vs ++ [some (V.ref Dn)])[(wipeA α vs).length]? = some (some (.ref Dn)) := by rw [hlen, List.getElem?_append_right (Nat.le_refl _), Nat.sub_self]; rfl
  by_cases hlt : i < ds.length
  · refine .inr ⟨w.go F2 H2 i s2 A2.sub hlt, fun H' => ∃ F' acc, Ab K g tk F He F' H' (wipeA α vs ++ [some (.nw (.lst acc))]) (wipe σ vs ++ [some (.ref Dn)]) ∧ lcD tg tt te (fun acc => Q (.nw (.lst acc))) (wipeA α vs) (ds.drop (i + 1)) acc ∧ Step tk F H F' H', fun H' z => ⟨ds.length - (i + 1), by omega, rfl, hlt, z⟩, fun x H3 y => ?_⟩
    obtain ⟨F3, d, st3, sub3, ok3, ed, rp⟩ := w.yld F2 H2 i x H3 s2 A2.sub A2.ok hlt y
    have e : ds.drop i = d :: ds.drop (i + 1) := by
      rw [List.drop_eq_getElem_cons hlt]
      rw [List.getElem?_eq_getElem hlt] at ed
      cases ed
      rfl
    rw [e] at q2
    have A3 := A2.step st3 sub3 ok3
    refine ⟨F3, wipeA α vs, d, _, A3.less hlen, rp, q2, fun σ4 α4 A4 hw q4 => ⟨hw.trans wipe_wipe, F3, α4, _, A4, q4, fun b H5 F5 st5 sub5 ok5 q5 => ?_⟩⟩
    have A5 := A3.step st5 sub5 ok5
    have S5 := (S2.trans st3).trans st5
    cases b with
    | false => exact ⟨F5, acc, A5, q5, S5⟩
    | true =>
      refine ⟨F5, α4, _, A4.step st5 sub5 ok5, q5, fun v H6 h6 => ?_⟩
      obtain ⟨F6, r, st6, sub6, ok6, rep6, x6, e6, hl6, q6⟩ := h6.fz
      rw [e6] at rep6
      obtain ⟨p, vs6, g1, g2, g3, g4, g5⟩ := own_kept A5 st6 sub6 ok6 ix
      rw [ixv] at g1
      cases g1
      refine ⟨vs6, g3, by rw [g4.length]; exact hl6, F6, acc ++ [x6], ?_, q6, ?_⟩
      · have z := g5 (acc ++ [x6]) (vs6 ++ [v]) (g4.append (.cons rep6 .nil))
        rw [List.set_append_right _ _ (Nat.le_refl _), Nat.sub_self] at z
        exact z
      · have S6 := S5.trans st6
        refine ⟨S6.fr, S6.nw, fun a o e n t => ?_, fun a o e n => ?_⟩
        · rw [upd_ne (ne_of_none e hD)]
          exact S6.kp a o e n t
        · by_cases z : a = Dn
          · rw [z, upd_same]
            exact ⟨_, rfl, fun ps q => nomatch q⟩
          · rw [upd_ne z]
            exact S6.ad a o e n
  · have e : i = ds.length := by omega
    subst e
    rw [List.drop_length] at q2
    refine .inl ⟨w.stop F2 H2 s2 A2.sub, k _ _ ⟨F2, .nw (.lst acc), S2, A2.sub, A2.ok, ?_, fun d p e1 e2 => ?_, q2⟩⟩
    · obtain ⟨p, e1, b, c, dd, _⟩ := A2.own ix
      rw [ixv] at e1
      cases e1
      exact ⟨Dn, rfl, b, c, dd⟩
    · cases e2
      exact .of hD
theorem lc_red {K : PySem.W.Frag} {g : Gv} {tk : Tk} {Fe He : Hp} {E : XD → Prop} {it : DI} {dg : DG} {tt : DT} {te : DE} {vs : List Nat} {σ : L2.St} {H : Hp} {Q' : VK} (h : LE K g tk Fe He E (dLc it dg tt te vs) σ H Q') :
    tLc (LI K g tk Fe He E it) (fun v σ H Q' => ∃ F, LGv K g tk F He vs dg v σ H Q') (fun σ H Q' => ∃ F, LTs K g tk F He tt σ H Q') (fun σ H Q' => ∃ F, LE K g tk F He (fun _ => False) te σ H Q') vs σ H Q' := by
  obtain ⟨F, α, Q, A, q, k⟩ := h
  refine ⟨F, α, _, A, q, fun J F1 H1 ds st1 sub1 ok1 q1 w => ?_⟩
  have A1 := A.step st1 sub1 ok1
  intro Dn hD
  obtain ⟨W, w0, wt⟩ := lc_lift (Q := Q) (Q' := Q') A1 w q1 (fun v H' h => k v H' (h.at st1)) Dn hD
  refine ⟨W, w0, fun i m H2 hw => ?_⟩
  rcases wt i m H2 hw with z | ⟨go, Nx, n1, n2⟩
  · exact .inl z
  · refine .inr ⟨go, Nx, n1, fun x H3 y => ⟨F1, ?_⟩⟩
    obtain ⟨Fa, αa, da, Qa, Aa, ra, ta, ka⟩ := n2 x H3 y
    refine ⟨Fa, αa, da, Qa, Aa, ra, ta, fun σ' α' A' w' q' => ?_⟩
    obtain ⟨k1, Fb, αb, Qb, Ab', tb, kb⟩ := ka σ' α' A' w' q'
    refine ⟨k1, F1, Fb, αb, Qb, Ab', tb, fun b H5 F5 st5 sub5 ok5 q5 => ?_⟩
    have kb' := kb b H5 F5 st5 sub5 ok5 q5
    cases b with
    | false => exact kb'
    | true => exact ⟨F1, kb'⟩
section
variable {g : Gv} {X : Cx} {elt tg iter : Expr} {ifs : List Expr} {scope : Scope} {own : List (Str × Nat)} {pos : Pos} {it : DI} {dg : DG} {tt : DT} {te : DE}
theorem qe_lc (hc : X.calm = true) (hN : X.N.Nodup) (hi : QI g X tg iter it) (ok : BlkOk X.N X.env.scope scope own)
    (hg : ∀ (s : Shared) (H : Hp) (C : Addr) (cl : List (Str × Addr)) (fp : List Addr), QGv g (X.blk s H scope (compEnvC scope cl C X.env) fp) tg (own.map (·.2)) dg) (ht : ∀ (s : Shared) (H : Hp) (C : Addr) (cl : List (Str × Addr)) (fp : List Addr), QTs g (X.blk s H scope (compEnvC scope cl C X.env) fp) ifs tt)
    (he : ∀ (s : Shared) (H : Hp) (C : Addr) (cl : List (Str × Addr)) (fp : List Addr), QE g (X.blk s H scope (compEnvC scope cl C X.env) fp) elt te) (hs : ∀ x, foldedSetIterable iter X.env x = pure x := by intro _; rfl) :
    QE g X (.ListComp elt [⟨tg, iter, ifs, 0⟩] scope pos) (dLc it dg tt te (own.map (·.2))) := ⟨fun tk Fe He E hT hx =>
  (pe_lc (g := fun v σ H Q' => ∃ F, LGv X.K g tk F He (own.map (·.2)) dg v σ H Q') (tt := fun σ H Q' => ∃ F, LTs X.K g tk F He tt σ H Q') (te := fun σ H Q' => ∃ F, LE X.K g tk F He (fun _ => False) te σ H Q') hc hN (hi.pi tk Fe He E hT hx) ok (fun s H C cl fp => ⟨fun pins s σ H v u Q I r ⟨F, q⟩ => ((hg _ _ _ _ _).pg tk F He hT).run pins s σ H v u Q I r q⟩) (fun s H C cl fp => ⟨fun pins s σ H Q I ⟨F, q⟩ => ((ht _ _ _ _ _).pt tk F He hT takes_never).run pins s σ H Q I q⟩)
      (fun s H C cl fp => ⟨fun pins s σ H Q I ⟨F, q⟩ => ((he _ _ _ _ _).pe tk F He _ hT takes_never).run pins s σ H Q I q⟩) hs).dimp fun σ H Q' h => lc_red h⟩
/-- name = [..] on one line -/
theorem qs_setLc {i : Nat} {y : Str} {py spos : Pos} (hc : X.calm = true) (hN : X.N.Nodup) (hy : X.N[i]? = some y) (hyl : X.env.scope.names.lookup y = some .local)
    (hsw : swapsWith (.ListComp elt [⟨tg, iter, ifs, 0⟩] scope pos) (some (.Name y py)) spos.line X.env = pure true) (hi : QI g X tg iter it) (ok : BlkOk X.N X.env.scope scope own)
    (hg : ∀ (s : Shared) (H : Hp) (C : Addr) (cl : List (Str × Addr)) (fp : List Addr), QGv g (X.blk s H scope (compEnvC scope cl C X.env) fp) tg (own.map (·.2)) dg) (ht : ∀ (s : Shared) (H : Hp) (C : Addr) (cl : List (Str × Addr)) (fp : List Addr), QTs g (X.blk s H scope (compEnvC scope cl C X.env) fp) ifs tt)
    (he : ∀ (s : Shared) (H : Hp) (C : Addr) (cl : List (Str × Addr)) (fp : List Addr), QE g (X.blk s H scope (compEnvC scope cl C X.env) fp) elt te) (hs : ∀ x, foldedSetIterable iter X.env x = pure x := by intro _; rfl) :
    QS g X (.Assign [.Name y py] (.ListComp elt [⟨tg, iter, ifs, 0⟩] scope pos) spos) (dAsg i (dLc it dg tt te (own.map (·.2)))) := ⟨fun tk Fe He E hT hx =>
  (ps_setLc (g := fun v σ H Q' => ∃ F, LGv X.K g tk F He (own.map (·.2)) dg v σ H Q') (tt := fun σ H Q' => ∃ F, LTs X.K g tk F He tt σ H Q') (te := fun σ H Q' => ∃ F, LE X.K g tk F He (fun _ => False) te σ H Q') hc hN hy hyl hsw (hi.pi tk Fe He E hT hx) ok (fun s H C cl fp => ⟨fun pins s σ H v u Q I r ⟨F, q⟩ => ((hg _ _ _ _ _).pg tk F He hT).run pins s σ H v u Q I r q⟩) (fun s H C cl fp => ⟨fun pins s σ H Q I ⟨F, q⟩ => ((ht _ _ _ _ _).pt tk F He hT takes_never).run pins s σ H Q I q⟩)
      (fun s H C cl fp => ⟨fun pins s σ H Q I ⟨F, q⟩ => ((he _ _ _ _ _).pe tk F He _ hT takes_never).run pins s σ H Q I q⟩) hs).dimp fun D' σ H h => by
    obtain ⟨F, α, D, A, q, k⟩ := h
    have z : LE X.K g tk Fe He E (dLc it dg tt te (own.map (·.2))) σ H (fun x H1 => gName i x σ H1 D'.nx) := by
      refine ⟨F, α, _, A, q, fun v H1 h1 => k.nx _ H1 ?_⟩
      obtain ⟨F1, r, q1, A1⟩ := A.set i h1
      exact ⟨F1, _, A1 q1.1, q1.2⟩
    exact lc_red z⟩
end
end DL

set_option Elab.async false
set_option linter.all false
set_option maxRecDepth 100000
set_option maxHeartbeats 4000000
namespace DL
open PySem PySem.Spec L2

/-! ### what a def promises, over data -/
abbrev DF := List S → (S → Prop) → (XD → Prop) → Prop
def S.arg : S → Bool
  | .fr _ => true
  | .tk => true
  | _ => false
def spD (K : PySem.W.Frag) (g : Gv) (n : Nat) (Φ : DF) : Sp := fun vs H Q' E' =>
  ∃ tk F ss Q E, g.T tk ∧ Same F H ∧ tk.ok F H ∧ RepSs K g tk F H ss vs ∧ ss.length = n ∧ ss.all S.arg = true ∧ Φ ss Q E ∧ (∀ v H', VO K g tk F H Q v H' → Q' v H') ∧ ∀ c d H', XO K g tk F H E c d H' → E' c d H'
theorem RepSs.length {K : PySem.W.Frag} {g : Gv} {tk : Tk} {F H : Hp} : ∀ {ss : List S} {vs : List V}, RepSs K g tk F H ss vs → vs.length = ss.length
  | [], vs, h => by (have e : vs = [] := h); rw [e]; rfl
  | _ :: _, _, ⟨v, r, e, _, h⟩ => by rw [e, List.length_cons, List.length_cons, RepSs.length h]
theorem RepSs.get {K : PySem.W.Frag} {g : Gv} {tk : Tk} {F H : Hp} : ∀ {ss : List S} {vs : List V} {i : Nat} {s : S}, RepSs K g tk F H ss vs → ss[i]? = some s → ∃ v, vs[i]? = some v ∧ RepS K g tk F H s v
  | [], _, i, s, _, e => by simp at e
  | x :: ss, _, 0, s, ⟨v, r, rfl, q, _⟩, e => by
    simp at e
    subst e
    exact ⟨v, rfl, q⟩
  | x :: ss, _, i + 1, s, ⟨v, r, rfl, _, t⟩, e => by
    obtain ⟨w, e1, e2⟩ := RepSs.get (i := i) t (by simpa using e)
    exact ⟨w, by simpa using e1, e2⟩
/-- a def's slots at its entry -/
def startA (N : List Str) (ss : List S) : AE := ss.map some ++ List.replicate (N.length - ss.length) none
theorem startA_get {N : List Str} {ss : List S} {i : Nat} {s : S} (h : (startA N ss)[i]? = some (some s)) : ss[i]? = some s := by
  unfold startA at h
  by_cases z : i < ss.length
  · rw [List.getElem?_append_left (by rw [List.length_map]; exact z), List.getElem?_map] at h
    cases q : ss[i]? with
    | none => rw [q] at h; cases h
    | some x =>
      rw [q] at h
      exact congrArg some (Option.some.inj (Option.some.inj h))
  · rw [List.getElem?_append_right (by rw [List.length_map]; omega), List.getElem?_replicate] at h
    split at h <;> cases h
theorem ab_start {K : PySem.W.Frag} {g : Gv} {tk : Tk} {F H : Hp} {ss : List S} {vs : List V} {N : List Str} (sub : Same F H) (ok : tk.ok F H) (r : RepSs K g tk F H ss vs) (ha : ss.all S.arg = true) : Ab K g tk F H F H (startA N ss) (L2.start N vs) := by
  have hl := r.length
  have argOf : ∀ {i : Nat} {s : S}, ss[i]? = some s → s.arg = true := fun {i s} e => List.all_eq_true.mp ha s (List.mem_of_getElem? e)
  refine ⟨sub, ok, Step.refl _ _ _, ?_, fun i s h => ?_, fun i d h => ?_, fun i j d e v _ h _ _ _ => ?_⟩
  · unfold startA L2.start
    rw [List.length_append, List.length_append, List.length_map, List.length_map, List.length_replicate, List.length_replicate, hl]
  · have e := startA_get h
    obtain ⟨v, e1, e2⟩ := r.get e
    refine ⟨v, ?_, e2, fun d p z _ => ?_⟩
    · unfold L2.start
      have hi : i < vs.length := by
        cases Nat.lt_or_ge i vs.length with
        | inl z => exact z
        | inr z => rw [List.getElem?_eq_none z] at e1; cases e1
      rw [List.getElem?_append_left (by rw [List.length_map]; exact hi), List.getElem?_map, e1]
      rfl
    · have z2 := argOf e
      rw [z] at z2
      cases z2
  · have z := argOf (startA_get h)
    cases z
  · have z := argOf (startA_get h)
    cases z
/-- a def of the text, by its body's reading -/
def phi (N : List Str) (t : DS) : DF := fun ss Q E => t { nx := fun _ => Q (.fr .non), rt := Q } (startA N ss) E
theorem fn_ok {P : Program} {w : World} {K : PySem.W.Frag} {mg : Str → Option Value} {base : Heap} {g : Gv} {x qual : Str} {params : Arguments} {body : List Stmt} {scope : Scope} {dvs : List V} {kws : List (Str × V)} {f : Addr} {fd : FuncData} {N ps : List Str} {k : Nat} {t : DS}
    (F : FunD K x qual params body scope dvs kws f fd) (S : FnScope N ps scope)
    (hb : ∀ (cdv : Value) (A : Around) (outer : List Env) (s : Shared) (H : Hp) (E : XK), Room k (A.deeper (PyProof.Rows.envOfC qual scope s.heap.objs.size f cdv)) → QSs g (cxOf (CX P w) P w K mg base N qual scope f cdv A outer s H E) body t) :
    FnOk P w K mg base (CX P w) (k + 1) f fd ps (spD K g ps.length (phi N t)) := by
  refine F.ok S (fun vs H Q E h => ?_) (fun cdv A outer s H vs Q' E' hr h => ?_)
  · obtain ⟨tk, Fz, ss, Q, E2, _, _, _, r, hl, _⟩ := h
    rw [r.length, hl]
  · obtain ⟨tk, Fz, ss, Q, E, hT, sub, ok, r, hl, ha, q, kQ, kE⟩ := h
    have hx : Takes (cxOf (CX P w) P w K mg base N qual scope f cdv A outer s H E') (WD K g tk Fz H E) := (takes_of rfl rfl rfl rfl).imp fun c d σ H' z => kE c d H' z
    refine ⟨_, (hb cdv A outer s H E' hr).ps tk Fz H E hT hx, Fz, startA N ss, _, ab_start sub ok r ha, q, ⟨?_, fun v H' z => kQ v H' z, ?_, ?_⟩⟩
    · rintro σ H1 ⟨F1, α1, A1, q1⟩
      have z : VO K g tk F1 H1 Q .non H1 := VO.non A1.sub A1.ok q1
      exact kQ _ _ (z.at A1.st)
    · rintro σ H1 ⟨_, _, _, z⟩
      exact z
    · rintro σ H1 ⟨_, _, _, z⟩
      exact z
/-- x names a def that promises Φ -/
structure Fn (P : Program) (w : World) (K : PySem.W.Frag) (mg : Str → Option Value) (base : Heap) (g : Gv) (k : Nat) (x : Str) (ps : List Str) (Φ : DF) : Prop where
  ex : ∃ (f : Addr) (fd : FuncData), FnOk P w K mg base (CX P w) k f fd ps (spD K g ps.length Φ) ∧ mg x = some (.ref f) ∧ PySem.W.keepIn K (.ref f) = true ∧ Binds K fd ps []
theorem Fn.imp {P : Program} {w : World} {K : PySem.W.Frag} {mg : Str → Option Value} {base : Heap} {g : Gv} {k : Nat} {x : Str} {ps : List Str} {Φ Ψ : DF} (F : Fn P w K mg base g k x ps Φ) (h : ∀ ss Q E, Ψ ss Q E → Φ ss Q E) : Fn P w K mg base g k x ps Ψ := by
  obtain ⟨f, fd, F1, r⟩ := F.ex
  refine ⟨f, fd, F1.imp fun vs H Q' E' z => ?_, r⟩
  obtain ⟨tk, Fz, ss, Q, E, a, b, c, d, e, i, q, l, m⟩ := z
  exact ⟨tk, Fz, ss, Q, E, a, b, c, d, e, i, h _ _ _ q, l, m⟩
section
variable {g : Gv} {X : Cx} {k : Nat} {x : Str} {ps : List Str} {Φ : DF} {e : Expr} {es : List Expr} {u v : DA} {p pos : Pos}
def dCall (n : Nat) (Φ : DF) (u : DA) : DE := fun α Q E => u α (fun ss => ss.length = n ∧ ss.all S.arg = true ∧ Φ ss Q E) E
theorem spD_call {K : PySem.W.Frag} {tk : Tk} {Fe He F F1 H1 H : Hp} {α : AE} {σ : L2.St} {n : Nat} {ss : List S} {vs : List V} {Q : S → Prop} {Q' : VK} {E : XD → Prop} (hT : g.T tk) (A : Ab K g tk Fe He F H α σ) (st : Step tk F H F1 H1) (sub : Same F1 H1) (ok : tk.ok F1 H1)
    (r : RepSs K g tk F1 H1 ss vs) (hn : ss.length = n) (ha : ss.all S.arg = true) (q : Φ ss Q E) (k : ∀ v H', VO K g tk F H Q v H' → Q' v H') : spD K g n Φ vs H1 Q' (XO K g tk Fe He E) :=
  ⟨tk, F1, ss, Q, E, hT, sub, ok, r, hn, ha, q, fun v H' z => k v H' (z.at st), fun c d H' z => z.at (A.st.trans st)⟩
theorem qe_call (F : Fn X.prog X.w X.K X.mg X.base g k x ps Φ) (hr : Room k X.A) (hg : Gl X x) (ha : QA g X (e :: es) u) (hdb : (x == ("__debug__" : Str)) = false := by decide) (he : starEach (e :: es) X.env = (false, eval e X.env) :: starEach es X.env := by rfl) (hpl : (backTo pos (starEach es X.env)).any (·.1) = false := by rfl) :
    QE g X (.Call (.Name x p) (e :: es) [] pos) (dCall ps.length Φ u) := ⟨fun tk Fe He E hT hx => by
  obtain ⟨f, fd, F1, hm, hk, hb⟩ := F.ex
  refine (pe_call F1 hr hg hm hk hb .nil (passes_call (E := XO X.K g tk Fe He E) hx fun _ _ _ _ z => z) (ha.pa tk Fe He E hT hx) hdb he hpl).dimp fun σ H Q' h => ?_
  obtain ⟨F, α, Q, A, q, kk⟩ := h
  refine ⟨F, α, _, A, q, fun vs H1 F1 ss st1 sub1 ok1 reps q1 => ?_⟩
  show spD X.K g ps.length Φ (vs ++ []) H1 Q' _
  rw [List.append_nil]
  exact spD_call hT A st1 sub1 ok1 reps q1.1 q1.2.1 q1.2.2 kk⟩
theorem qe_call0 (F : Fn X.prog X.w X.K X.mg X.base g k x [] Φ) (hr : Room k X.A) (hg : Gl X x) (hdb : (x == ("__debug__" : Str)) = false := by decide) :
    QE g X (.Call (.Name x p) [] [] pos) (fun _ Q E => Φ [] Q E) := ⟨fun tk Fe He E hT hx => by
  obtain ⟨f, fd, F1, hm, hk, hb⟩ := F.ex
  refine (pe_call0 F1 hr hg hm hk hb .nil (passes_call (E := XO X.K g tk Fe He E) hx fun _ _ _ _ z => z) hdb).dimp fun σ H Q' h => ?_
  obtain ⟨F, α, Q, A, q, kk⟩ := h
  exact spD_call (n := 0) (ss := []) hT A (Step.refl _ _ _) A.sub A.ok rfl rfl rfl q kk⟩
end
end DL

set_option Elab.async false
set_option linter.all false
set_option maxRecDepth 100000
set_option maxHeartbeats 4000000
namespace DL
open PySem PySem.Spec L2

/-! ### a caught exception, asked for its class (with or without a dict) -/
section
variable {prog : Program} {w : World} {A : Around} {E : Value → Shared → Prop} {s : Shared} {K : PySem.W.Frag} {x C : Addr} {ox : Obj} {od : Option Obj}
theorem find_data {name : Str} {a g : Value} (hc : (PySem.W.clsIn K C).isSome = true) (ha : PySem.W.findIn K (.ref C) name = some (some a)) (hg : PySem.W.specialIn K a "__get__" = some (some g)) (ht : PySem.W.takesIn K a = some true) : PySem.W.findObj K C od name = some (.bind g a) := by
  obtain ⟨cd, e⟩ := Option.isSome_iff_exists.mp hc
  unfold PySem.W.findObj
  rw [e, Option.bind_some, ha, Option.bind_some]
  simp [hg, ht]
theorem exc_class {Q : Option Value → Shared → Prop} (T : ExcC K C) (X : K.In s.heap) (I : PySem.W.InstAt s.heap x ox C od) (h : Q (some (.ref C)) { s with toks := s.toks + 1 }) : wpAny (model prog w) A (getAttr? (.ref x) "__class__") Q E s := by
  have hf : PySem.W.findObj K C od "__class__" = some (.bind (.builtin "getset_descriptor.__get__") (.builtin "object.__class__")) := find_data (by obtain ⟨cd, hc, _⟩ := PySem.W.any_some T.hd; rw [hc]; rfl) T.ha T.hn T.ht
  obtain ⟨hp, g, d, t, os⟩ := s
  have L0 := I.type (M := model prog w)
  have L1 := PySem.W.looks_findIn (M := model prog w) X T.hg
  have L2 := PySem.W.looks_findIn (M := model prog w) X T.hk
  have L3 := PySem.W.looks_find (M := model prog w) X I hf
  have sub : PySem.W.Looks (model prog w) hp (isInstance (.ref x) (.type "BaseException")) true := L0.andThen (PySem.W.looks_subIn X T.hs)
  have n1 : (Value.builtin "BaseException.__getattribute__" == Value.builtin "object.__getattribute__") = false := by decide +kernel
  have n2 : (onTheHeap (Value.ref C) && Value.builtin "BaseException.__getattribute__" == Value.builtin "object.__getattribute__") = false := by rw [n1]; rfl
  unfold getAttr? getAttrBy? getAttrBy
  refine wpAny_bind (wpAny_mkText (wpAny_bind (wpAny_attempt (wpAny_holding (wpAny_bind (L0.at (wpAny_bind (L1.at ?_))))))))
  show wpAny _ _ (if (onTheHeap (Value.ref C) && Value.builtin "BaseException.__getattribute__" == Value.builtin "object.__getattribute__") = true then _ else _) _ _ _
  rw [n2, if_neg Bool.false_ne_true]
  unfold getAttrByItsOwn hookBefore
  refine wpAny_bind ?_
  rw [if_pos (show onTheHeap (Value.ref C) = true from rfl)]
  refine L2.at ?_
  refine wpAny_bind (wpAny_attempt (wpAny_holding ?_))
  unfold callGetattribute
  rw [show (false && onTheHeap (Value.builtin "BaseException.__getattribute__")) = false from rfl, if_neg Bool.false_ne_true]
  unfold boundAndCalled
  rw [PySem.F.excAttr_ValueError.ga.bind (.ref x)]
  refine wpAny_bind (wpAny_pure ?_)
  show wpAny _ _ (call (.builtin "BaseException.__getattribute__") [.ref x, .str "__class__" t]) _ _ _
  refine wpAny_call (codeAny_call_builtin PySem.F.excAttr_ValueError.ga.plain PySem.F.entry_bexc_ga ?_)
  refine @PySem.W.check_slot (model prog w) _ _ ⟨hp, g, d, t + 1, os⟩ "BaseException.__getattribute__" "BaseException" "__getattribute__" (.ref x) [.str "__class__" t] [] _ (by decide +kernel) (by decide +kernel) sub (PySem.F.args_bexc_ga (.ref x) (.str "__class__" t)) ?_
  unfold Builtin.«object.__getattribute__»
  refine wpAny_bind (wpAny_of_eq (a := ((Value.ref x : Value), [Value.str "__class__" t])) (by first | rfl | (simp only [slotArgs]; rfl)) ?_)
  refine wpAny_bind (wpAny_pure (wpAny_bind (L0.at (wpAny_bind (L3.at ?_)))))
  show wpAny _ _ (holding [Value.builtin "object.__class__"] (call (.builtin "getset_descriptor.__get__") [.builtin "object.__class__", .ref x, .ref C]) >>= ret) _ _ _
  refine wpAny_bind (wpAny_holding (wpAny_call (PySem.W.class_get (s := ⟨hp, g, d, t + 1, os⟩) (ox := ox) (od := od) X I T.hm ?_)))
  refine wpAny_pure ?_
  show wpAny _ _ (handedOut (.ref C)) _ _ _
  rw [PySem.W.handedOut_of (v := .ref C) rfl]
  first
    | exact wpAny_pure (wpAny_pure h)
    | exact wpAny_pure h
    | exact wpAny_pure (wpAny_bind (wpAny_pure (wpAny_pure h)))
theorem kit_exc (T : ExcC K C) : PySem.W.KitX K (.ref x) (.ref C) (fun h => ∃ ox od, PySem.W.InstAt h x ox C od) where
  ty := fun _ _ _ ⟨_, _, I⟩ => I.type
  it := fun _ _ X _ => by
    obtain ⟨cdD, hcD, _⟩ := PySem.W.any_some T.hd
    unfold PySem.W.clsIn at hcD
    split at hcD
    · rename_i c' d' cd' sl' ho
      intro A' Q' E' s' k q
      unfold isType loadHead
      exact wpAny_bind (wpAny_loadPart (k _ _ (X _ _ ho)) (wpAny_pure q))
    · cases hcD
  ne := fun h tp dd its n sl X htp => by
    obtain ⟨cdD, hcD, _⟩ := PySem.W.any_some T.hd
    refine Bool.eq_false_iff.mpr fun q => ?_
    have e : C = tp := Value.ref.inj (beq_iff_eq.mp q)
    subst e
    unfold PySem.W.clsIn at hcD
    split at hcD
    · rename_i c' d' cd' sl' ho
      have z := (X _ _ ho).symm.trans htp
      cases z
    · cases hcD
  ca := fun X ⟨_, _, I⟩ k => exc_class T X I k
/-- what is tracked of a caught exception, at the heap -/
theorem exc_inst {P : Program} {H : Hp} {h : Heap} {dd : Option Addr} (hok : HOk P w H h) (ha : H x = some (ExcO x C dd)) (hd : dd = none ∨ ∃ d fs, dd = some d ∧ H d = some (.xd fs)) : ∃ ox od, PySem.W.InstAt h x ox C od := by
  have z : ObjOk P w H h x (.ext fun h => ∃ (oe : Obj) (vs : Array Value), h.get? x = some oe ∧ Zc (.ref C) dd oe ∧ oe.data = .fields vs) := hok x _ ha
  obtain ⟨⟨oe, vs, e1, e2, e3⟩, _, _⟩ := z
  obtain ⟨oc, odd, dt, sl⟩ := oe
  obtain ⟨h1, h2⟩ := e2
  dsimp only at h1 h2 e3
  subst h1 h2 e3
  rcases hd with rfl | ⟨d, fs, rfl, e⟩
  · exact ⟨_, none, e1, rfl, rfl, trivial⟩
  · have y : ObjOk P w H h d (.xd fs) := hok d _ e
    obtain ⟨mA, ⟨o, es, ep, e4, _⟩, _⟩ := y
    exact ⟨_, some o, e1, rfl, rfl, e4⟩
end
def rIsX (K : PySem.W.Frag) : List V → Hp → VK → Prop := fun xs H Q => ∃ (a C : Addr) (dd : Option Addr) (c : V) (u : Value) (b : Bool), xs = [.ref a, c] ∧ H a = some (ExcO a C dd) ∧ (dd = none ∨ ∃ d fs, dd = some d ∧ H d = some (.xd fs)) ∧ ExcC K C ∧ ClsV c u ∧ PySem.W.kitOne K (.ref C) u = some b ∧ Q (.bl b) H
theorem call_isX {X : Cx} : CallR X (.builtin "isinstance") (rIsX X.K) := by
  intro pins s σ H xs us Q I r h
  obtain ⟨a, C, dd, c, u, b, rfl, ha, hd, T, k, e, q⟩ := h
  obtain ⟨u1, u2, rfl, r1, r2⟩ := vals2 r
  have e2 := k.eq r2
  subst e2
  cases (show u1 = Value.ref a from r1)
  exact PySem.W.kia_one (kit_exc T) I.kIn (exc_inst I.hok ha hd) e (fun z => nomatch z) fun tk => ⟨.bl b, H, I.tok tk, rfl, q⟩

/-! ### isinstance over data: classes by number -/
def tyN : List String := ["int", "bool", "str", "tuple", "list", "dict", "NoneType"]
/-- what the head tells of the own classes: n of them; sub: which lies under which; ex: exceptions -/
structure Kinds (K : PySem.W.Frag) (g : Gv) (n : Nat) (sub : Nat → Nat → Bool) (ex : Nat → Bool) : Prop where
  cc : ∀ a b, a < n → b < n → PySem.W.kitOne K (.ref (g.CA a)) (.ref (g.CA b)) = some (sub a b)
  ct : ∀ a, a < n → ∀ T ∈ tyN, PySem.W.kitOne K (.ref (g.CA a)) (.type T) = some false
  tc : ∀ T ∈ tyN, ∀ b, b < n → PySem.W.kitOne K (.type T) (.ref (g.CA b)) = some false
  exc : ∀ a, a < n → ex a = true → ExcC K (g.CA a)
  ins : ∀ a, a < n → ex a = false → Cls K (g.CA a) ∧ PySem.W.findIn K (.ref (g.CA a)) "__class__" = some (some (.builtin "object.__class__")) ∧ PySem.W.specialIn K (.builtin "object.__class__") "__get__" = some (some (.builtin "getset_descriptor.__get__")) ∧
    PySem.W.takesIn K (.builtin "object.__class__") = some true ∧ PySem.W.mroIn K (g.CA a) (.type "object") = some true
/-- the type of a datum: a built-in one, an own class -/
def D.ty : D → Option (String ⊕ Nat)
  | .non => some (.inl "NoneType")
  | .bl _ => some (.inl "bool")
  | .int _ => some (.inl "int")
  | .str _ => some (.inl "str")
  | .tup _ => some (.inl "tuple")
  | .lst _ => some (.inl "list")
  | .scr _ => some (.inl "list")
  | .dic _ _ => some (.inl "dict")
  | .ins c _ _ => some (.inr c)
  | .exc c _ _ => some (.inr c)
  | _ => none
theorem seqT_ty {K : PySem.W.Frag} {H : Hp} {a : Addr} {vs : List V} (h : SqT K H a vs) : TyX K H (.ref a) (.type "tuple") := by
  rcases h with (h | ⟨o, h⟩) | h
  · exact .base (.tup h)
  · exact .fTuple h
  · obtain ⟨o, its, n, h1, h2, _⟩ := h
    exact .kTuple h1 h2
theorem seqL_ty {K : PySem.W.Frag} {H : Hp} {a : Addr} {vs : List V} (h : SqL K H a vs) : TyX K H (.ref a) (.type "list") := by
  rcases h with (h | ⟨o, h⟩) | h
  · exact .base (.lst h)
  · exact .base (.frz h)
  · obtain ⟨o, its, n, h1, h2, _⟩ := h
    exact .kList h1 h2
/-- isinstance(x, T), T built-in; isinstance(x, C), C the c-th own class -/
def isT (T : String) (d : D) : Option Bool := match d.ty with
  | some (.inl t) => kitB t T
  | some (.inr _) => some false
  | none => none
def isC (sub : Nat → Nat → Bool) (c : Nat) (d : D) : Option Bool := match d.ty with
  | some (.inl _) => some false
  | some (.inr a) => some (sub a c)
  | none => none
/-- the classes' numbers that occur in a datum's top -/
def D.low (n : Nat) : D → Prop
  | .ins c _ _ => c < n
  | .exc c _ _ => c < n
  | _ => True
def dIs (n : Nat) (ex : Nat → Bool) (f : D → Option Bool) (te : DE) : DE := fun α Q E => te α (fun x => ∃ b, x.fz.view.low n ∧ (∀ c ns ds, x.fz.view = .exc c ns ds → ex c = true) ∧ (∀ c ns ds, x.fz.view = .ins c ns ds → ex c = false) ∧ f x.fz.view = some b ∧ Q (.fr (.bl b))) E
/-- the type of a value at the heap, or a tracked exception -/
theorem ty_of {K : PySem.W.Frag} {g : Gv} {tk : Tk} {F H : Hp} {s : S} {v : V} {n : Nat} {sub : Nat → Nat → Bool} {ex : Nat → Bool} (Kd : Kinds K g n sub ex) (su : Same F H) (r : RepS K g tk F H s v) (hl : s.view.low n) (he : ∀ c ns ds, s.view = .exc c ns ds → ex c = true) (hi : ∀ c ns ds, s.view = .ins c ns ds → ex c = false) :
    (∀ t, s.view.ty = some (.inl t) → TyX K H v (.type t) ∧ t ∈ tyN) ∧ (∀ c, s.view.ty = some (.inr c) → c < n ∧ (TyX K H v (.ref (g.CA c)) ∨ (ExcC K (g.CA c) ∧ ∃ a dd, v = .ref a ∧ H a = some (ExcO a (g.CA c) dd) ∧ (dd = none ∨ ∃ d fs, dd = some d ∧ H d = some (.xd fs))))) := by
  cases e : s.view with
  | non =>
    refine ⟨fun t z => ?_, fun c z => (nomatch z)⟩
    cases z
    have q := RepS.fr_ r e ⟨fun _ z => (nomatch z), fun _ _ z => (nomatch z), fun z => (nomatch z)⟩
    rw [Rep.non_ q]
    exact ⟨.base .non, by decide⟩
  | bl b =>
    refine ⟨fun t z => ?_, fun c z => (nomatch z)⟩
    cases z
    rw [RepS.bl r e]
    exact ⟨.base (.bl b), by decide⟩
  | int b =>
    refine ⟨fun t z => ?_, fun c z => (nomatch z)⟩
    cases z
    rw [RepS.int r e]
    exact ⟨.base (.int b), by decide⟩
  | str b =>
    refine ⟨fun t z => ?_, fun c z => (nomatch z)⟩
    cases z
    rw [RepS.str r e]
    exact ⟨.base (.str b), by decide⟩
  | tup ds =>
    refine ⟨fun t z => ?_, fun c z => (nomatch z)⟩
    cases z
    obtain ⟨a, vs, rfl, h2, _⟩ := RepS.tup su r e
    exact ⟨seqT_ty h2, by decide⟩
  | lst ds =>
    refine ⟨fun t z => ?_, fun c z => (nomatch z)⟩
    cases z
    obtain ⟨a, vs, rfl, h2, _⟩ := RepS.lst su r e
    exact ⟨.base (.lst h2), by decide⟩
  | scr ns =>
    refine ⟨fun t z => ?_, fun c z => (nomatch z)⟩
    cases z
    have q := RepS.fr_ r e ⟨fun _ z => (nomatch z), fun _ _ z => (nomatch z), fun z => (nomatch z)⟩
    unfold Rep at q
    obtain ⟨a, rfl, h2⟩ := q
    exact ⟨seqL_ty (su.seq h2), by decide⟩
  | dic ks ds =>
    refine ⟨fun t z => ?_, fun c z => (nomatch z)⟩
    cases z
    have q : ∃ a vs, v = .ref a ∧ H a = some (.dK (ks.zip vs)) := by
      cases s with
      | fr d =>
        have e' : d = .dic ks ds := e
        subst e'
        have q := r
        unfold RepS Rep at q
        obtain ⟨a, vs, rfl, h2, _⟩ := q
        exact ⟨a, vs, rfl, su _ _ h2⟩
      | nw d =>
        have e' : d = .dic ks ds := e
        subst e'
        obtain ⟨p, rfl, _, _, vs, h2, _⟩ := r
        exact ⟨p, vs, rfl, h2⟩
      | bw d =>
        have e' : d = .dic ks ds := e
        subst e'
        obtain ⟨p, rfl, _, _, vs, h2, _⟩ := r
        exact ⟨p, vs, rfl, h2⟩
      | tk => cases e
    obtain ⟨a, vs, rfl, h2⟩ := q
    exact ⟨.base (.dK h2), by decide⟩
  | raw w => exact ⟨fun t z => (nomatch z), fun c z => (nomatch z)⟩
  | tok => exact ⟨fun t z => (nomatch z), fun c z => (nomatch z)⟩
  | ins c ns ds =>
    refine ⟨fun t z => (nomatch z), fun c' z => ?_⟩
    cases z
    rw [e] at hl
    have q := RepS.fr_ r e ⟨fun _ z => (nomatch z), fun _ _ z => (nomatch z), fun z => (nomatch z)⟩
    unfold Rep at q
    obtain ⟨a, dx, vs, rfl, h2, _⟩ := q
    obtain ⟨c1, c2, c3, c4, c5⟩ := Kd.ins c hl (hi _ _ _ e)
    exact ⟨hl, .inl (.base (.ins (su _ _ h2) c1 c2 c3 c4 c5))⟩
  | exc c ns ds =>
    refine ⟨fun t z => (nomatch z), fun c' z => ?_⟩
    cases z
    rw [e] at hl
    have q := RepS.fr_ r e ⟨fun _ z => (nomatch z), fun _ _ z => (nomatch z), fun z => (nomatch z)⟩
    unfold Rep at q
    obtain ⟨a, dd, vs, rfl, h2, _, h4, _⟩ := q
    refine ⟨hl, .inr ⟨Kd.exc c hl (he _ _ _ e), a, dd, rfl, su _ _ h2, ?_⟩⟩
    rcases h4 with ⟨h4, _⟩ | ⟨d, e1, e2⟩
    · exact .inl h4
    · exact .inr ⟨d, _, e1, su _ _ e2⟩
section
variable {g : Gv} {X : Cx} {n : Nat} {sub : Nat → Nat → Bool} {ex : Nat → Bool} {e : Expr} {te : DE} {p p2 pos : Pos} {x : Str}
def rIsA (K : PySem.W.Frag) : List V → Hp → VK → Prop := fun xs H Q => rIsi K xs H Q ∨ rIsX K xs H Q
theorem call_isA : CallR X (.builtin "isinstance") (rIsA X.K) := CallR.or call_isi call_isX
theorem qe_isT {T : String} (Kd : Kinds X.K g n sub ex) (hg : Gl X "isinstance") (hm : X.mg "isinstance" = none) (hgx : Gl X x) (hmx : X.mg x = none) (hv : bootBuiltins x = some (.type T)) (hT : T ∈ tyN) (he : QE g X e te) (hnx : x ≠ "__name__" := by decide) (hdx : (x == ("__debug__" : Str)) = false := by decide)
    (h1 : starEach [e, .Name x p2] X.env = (false, eval e X.env) :: starEach [.Name x p2] X.env := by rfl) (h2 : (backTo pos (starEach [.Name x p2] X.env)).any (·.1) = false := by rfl) (h3 : starEach [.Name x p2] X.env = (false, eval (.Name x p2) X.env) :: starEach [] X.env := by rfl) :
    QE g X (.Call (.Name "isinstance" p) [e, .Name x p2] [] pos) (dIs n ex (isT T) te) := by
  have f : CallS g X.K (rIsA X.K) (fun ss Q => match ss with
    | [s, .fr (.raw w)] => w = .ty T ∧ ∃ b, s.view.low n ∧ (∀ c ns ds, s.view = .exc c ns ds → ex c = true) ∧ (∀ c ns ds, s.view = .ins c ns ds → ex c = false) ∧ isT T s.view = some b ∧ Q (.fr (.bl b))
    | _ => False) := by
    intro tk F H ss vs Q Q' hTk su ok r h k
    match ss, h with
    | [s, .fr (.raw w)], h =>
      obtain ⟨rfl, b, hl, he, hi, hb, q⟩ := h
      obtain ⟨v, u, rfl, r1, r2⟩ := RepSs.two r
      have eu : u = .ty T := Rep.raw_ (K := X.K) (g := g) (F := F) r2
      subst eu
      obtain ⟨t1, t2⟩ := ty_of Kd su r1 hl he hi
      unfold isT at hb
      cases z : s.view.ty with
      | none => rw [z] at hb; cases hb
      | some y =>
        rw [z] at hb
        cases y with
        | inl t => exact .inl ⟨v, .ty T, .type t, .type T, b, rfl, .ty T, (t1 t z).1, kit_ty hb, k _ H (VO.bl su ok q)⟩
        | inr c =>
          cases hb
          obtain ⟨hc, t3⟩ := t2 c z
          have kk := Kd.ct c hc T hT
          rcases t3 with t3 | ⟨T3, a, dd, rfl, h1, h2⟩
          · exact .inl ⟨v, .ty T, _, .type T, false, rfl, .ty T, t3, kk, k _ H (VO.bl su ok q)⟩
          · exact .inr ⟨a, g.CA c, dd, .ty T, .type T, false, rfl, h1, h2, T3, .ty T, kk, k _ H (VO.bl su ok q)⟩
  have z := qe_callB (p := p) call_isA f hg hm (by rfl) (qa_cons he (qa_cons (qe_ty (T := T) hgx hmx hv hnx hdx) qa_nil h3) h1) (by decide) (by decide) h1 h2
  exact ⟨fun tk Fe He E hT hx => (z.pe tk Fe He E hT hx).dimp fun σ H Q' h => by
    obtain ⟨F, α, Q, A, q, k⟩ := h
    refine ⟨F, α, Q, A, ?_, k⟩
    have e1 : (fun x : S => (V.ty T = V.ty T ∧ ∃ b, x.fz.view.low n ∧ (∀ c ns ds, x.fz.view = .exc c ns ds → ex c = true) ∧ (∀ c ns ds, x.fz.view = .ins c ns ds → ex c = false) ∧ isT T x.fz.view = some b ∧ Q (.fr (.bl b)))) = fun x : S => ∃ b, x.fz.view.low n ∧ (∀ c ns ds, x.fz.view = .exc c ns ds → ex c = true) ∧ (∀ c ns ds, x.fz.view = .ins c ns ds → ex c = false) ∧ isT T x.fz.view = some b ∧ Q (.fr (.bl b)) := by
      funext x
      exact propext ⟨fun h => h.2, fun h => ⟨rfl, h⟩⟩
    show te α (fun x : S => (V.ty T = V.ty T ∧ ∃ b, x.fz.view.low n ∧ (∀ c ns ds, x.fz.view = .exc c ns ds → ex c = true) ∧ (∀ c ns ds, x.fz.view = .ins c ns ds → ex c = false) ∧ isT T x.fz.view = some b ∧ Q (.fr (.bl b)))) E
    rw [e1]
    exact q⟩
theorem qe_isC {c : Nat} (Kd : Kinds X.K g n sub ex) (hc : c < n) (hg : Gl X "isinstance") (hm : X.mg "isinstance" = none) (hgx : Gl X x) (hmx : X.mg x = some (.ref (g.CA c))) (he : QE g X e te) (hdx : (x == ("__debug__" : Str)) = false := by decide)
    (h1 : starEach [e, .Name x p2] X.env = (false, eval e X.env) :: starEach [.Name x p2] X.env := by rfl) (h2 : (backTo pos (starEach [.Name x p2] X.env)).any (·.1) = false := by rfl) (h3 : starEach [.Name x p2] X.env = (false, eval (.Name x p2) X.env) :: starEach [] X.env := by rfl) :
    QE g X (.Call (.Name "isinstance" p) [e, .Name x p2] [] pos) (dIs n ex (isC sub c) te) := by
  have f : CallS g X.K (rIsA X.K) (fun ss Q => match ss with
    | [s, .fr (.raw w)] => w = .ref (g.CA c) ∧ ∃ b, s.view.low n ∧ (∀ c ns ds, s.view = .exc c ns ds → ex c = true) ∧ (∀ c ns ds, s.view = .ins c ns ds → ex c = false) ∧ isC sub c s.view = some b ∧ Q (.fr (.bl b))
    | _ => False) := by
    intro tk F H ss vs Q Q' hTk su ok r h k
    match ss, h with
    | [s, .fr (.raw w)], h =>
      obtain ⟨rfl, b, hl, he, hi, hb, q⟩ := h
      obtain ⟨v, u, rfl, r1, r2⟩ := RepSs.two r
      have eu : u = .ref (g.CA c) := Rep.raw_ (K := X.K) (g := g) (F := F) r2
      subst eu
      obtain ⟨t1, t2⟩ := ty_of Kd su r1 hl he hi
      unfold isC at hb
      cases z : s.view.ty with
      | none => rw [z] at hb; cases hb
      | some y =>
        rw [z] at hb
        cases y with
        | inl t =>
          cases hb
          exact .inl ⟨v, _, .type t, _, false, rfl, .own _, (t1 t z).1, Kd.tc t (t1 t z).2 c hc, k _ H (VO.bl su ok q)⟩
        | inr a =>
          cases hb
          obtain ⟨ha, t3⟩ := t2 a z
          have kk := Kd.cc a c ha hc
          rcases t3 with t3 | ⟨T3, a', dd, rfl, h1, h2⟩
          · exact .inl ⟨v, _, _, _, _, rfl, .own _, t3, kk, k _ H (VO.bl su ok q)⟩
          · exact .inr ⟨a', g.CA a, dd, _, _, _, rfl, h1, h2, T3, .own _, kk, k _ H (VO.bl su ok q)⟩
  have z := qe_callB (p := p) call_isA f hg hm (by rfl) (qa_cons he (qa_cons (qe_ref hgx hmx hdx) qa_nil h3) h1) (by decide) (by decide) h1 h2
  exact ⟨fun tk Fe He E hT hx => (z.pe tk Fe He E hT hx).dimp fun σ H Q' h => by
    obtain ⟨F, α, Q, A, q, k⟩ := h
    refine ⟨F, α, Q, A, ?_, k⟩
    have e1 : (fun x : S => (V.ref (g.CA c) = V.ref (g.CA c) ∧ ∃ b, x.fz.view.low n ∧ (∀ c ns ds, x.fz.view = .exc c ns ds → ex c = true) ∧ (∀ c ns ds, x.fz.view = .ins c ns ds → ex c = false) ∧ isC sub c x.fz.view = some b ∧ Q (.fr (.bl b)))) = fun x : S => ∃ b, x.fz.view.low n ∧ (∀ c ns ds, x.fz.view = .exc c ns ds → ex c = true) ∧ (∀ c ns ds, x.fz.view = .ins c ns ds → ex c = false) ∧ isC sub c x.fz.view = some b ∧ Q (.fr (.bl b)) := by
      funext x
      exact propext ⟨fun h => h.2, fun h => ⟨rfl, h⟩⟩
    show te α (fun x : S => (V.ref (g.CA c) = V.ref (g.CA c) ∧ ∃ b, x.fz.view.low n ∧ (∀ c ns ds, x.fz.view = .exc c ns ds → ex c = true) ∧ (∀ c ns ds, x.fz.view = .ins c ns ds → ex c = false) ∧ isC sub c x.fz.view = some b ∧ Q (.fr (.bl b)))) E
    rw [e1]
    exact q⟩
end
end DL

set_option Elab.async false
set_option linter.all false
set_option maxRecDepth 100000
set_option maxHeartbeats 4000000
namespace DL
open PySem PySem.Spec L2

abbrev veB : List Value := _root_.He.veBase
/-! ### raise -/
def dRaise (c : Nat) : DS := fun _ _ E => E (c, [], [])
/-- what the head tells of a class that is raised by a text alone -/
structure ExcR (K : PySem.W.Frag) (C : Addr) : Prop where
  make : PySem.W.excIn K C veB "ValueError.__new__" = true
  kp : PySem.W.keepIn K (.ref C) = true
  sb : PySem.W.subIn K (.ref C) (.type "BaseException") = some true
  ty : PySem.W.typeIn K (.ref C) = some (.type "type")
section
variable {g : Gv} {X : Cx} {c : Nat} {x m : Str} {j : Nat} {p p2 pos pos' : Pos} {e : Expr} {es : List Expr}
theorem qs_raise (hc : X.calm = true) (T : ExcR X.K (g.CA c)) (hm : X.mg x = some (.ref (g.CA c))) (hg : Gl X x) (hdb : (x == ("__debug__" : Str)) = false := by decide) :
    QS g X (.Raise (some (.Call (.Name x p) [.Constant (.str m) j p2] [] pos)) none pos') (dRaise c) := ⟨fun tk Fe He E hT hx =>
  (ps_raise hc hx (pmk_own (C := g.CA c) (bmB := veB) F.excBase_ValueError T.make hm T.kp (raises_own T.sb T.ty) hg hdb)).dimp fun D' σ H h => by
    obtain ⟨F, α, D, A, q, k⟩ := h
    exact ⟨F, c, [], [], [], A.st, A.sub, A.ok, rfl, rfl, .inl ⟨rfl, rfl⟩, .nil, q⟩⟩
end

/-! ### classes whose __init__ is one's own: super().__init__(text), one field set -/
structure IniFd (P : Program) (K : PySem.W.Frag) (D0 : Addr) (f : Str) (body : List Stmt) (fd : FuncData) : Prop where
  body : fd.body = .stmts body
  kind : fd.scope.kind = .function
  co : fd.scope.isCoroutine = false
  gen : fd.scope.isGenerator = false
  ncell : ∀ y ∈ fd.scope.names, y.2 ≠ .cell
  nfree : ∀ y ∈ fd.scope.names, y.2 = .free → y.1 = ("__class__" : Str)
  self : fd.scope.names.lookup ("self" : Str) = some .local
  fld : fd.scope.names.lookup f = some .local
  sup : fd.scope.names.lookup ("super" : Str) = some .globalImplicit
  cls : fd.scope.names.lookup ("__class__" : Str) = some .free
  glob : fd.globals = mainGlobals
  blt : fd.builtins = builtinsNs
  clo : ∃ (cc : Addr) (o : Obj), fd.closure = [(("__class__" : Str), cc)] ∧ K.lookup cc = some o ∧ o.data = .cell (some (.ref D0))
  code : PySem.W.codeIn K fd.code fd.qualname = true
  file : ∃ (cv : Addr) (oc : Obj) (vs : Array Value) (fl : Str) (tf : Tok), fd.code = .ref cv ∧ K.lookup cv = some oc ∧ oc.data = .fields vs ∧ vs[2]? = some (.str fl tf) ∧ ((P.main.file : Str) == fl) = true
  head : ∃ ar, (fd.params.posonlyargs ++ fd.params.args).head? = some ar ∧ ar.arg = ("self" : Str)
  top : (P.main.scope.names.lookup ("super" : Str)).isSome = false
structure IniC (K : PySem.W.Frag) (D0 : Addr) (f : Str) (C : Addr) : Prop where
  T : OexC K C
  lk : ∃ (o : Obj) (cd : ClassData), K.lookup D0 = some o ∧ o.data = .cls cd
  sub : PySem.W.subIn K (.ref C) (.ref D0) = some true
  sup : PySem.W.ks_superIn K C D0 "__init__" = some (some (.builtin "ValueError.__init__"))
  ve : PySem.W.subIn K (.ref C) (.type "ValueError") = some true
  opq : PySem.W.nsIn K cStatics "thirdparty.any" = some none
  no : PySem.W.findIn K (.ref C) f = some none
def spIni (K : PySem.W.Frag) (D0 : Addr) (f : Str) : Sp := fun vs H Q _ => ∃ a C y, vs = [.ref a, y] ∧ IniC K D0 f C ∧ H a = some (exo a C none) ∧
  ∀ dx, H dx = none → dx ≠ a → Q .non (upd (upd H dx (exd dx [(f, y)])) a (exo a C (some dx)))
/-- the context of such an __init__ -/
def iniCx (CX : CXT) (P : Program) (w : World) (K : PySem.W.Frag) (mg : Str → Option Value) (base : Heap) (f : Str) (fd : FuncData) (f0 : Addr) (A : Around) (outer : List Env) (s : Shared) (H : Hp) (E : XK) : Cx where
  prog := P
  w := w
  K := K
  mg := mg
  base := base
  A := A.deeper (callEnv fd s.heap.objs.size f0)
  N := ["self", f]
  s_0 := s
  H_0 := H
  env := callEnv fd s.heap.objs.size f0
  outer := outer
  stack := callEnv fd s.heap.objs.size f0 :: outer
  ex := []
  calm := true
  fn := fun _ => false
  pn := []
  xe := fun e s' => wpAny (model P w) (A.deeper (callEnv fd s.heap.objs.size f0)) (leaving (callEnv fd s.heap.objs.size f0) e) (fun _ s'' => CX outer H s E e s'') (fun e' s'' => CX outer H s E e' s'') s'
section
variable {P : Program} {w : World} {K : PySem.W.Frag} {mg : Str → Option Value} {base : Heap} {D0 f0 : Addr} {f : Str} {body : List Stmt} {fd : FuncData} {CX : CXT} {A : Around} {outer : List Env} {s : Shared} {H : Hp} {E : XK}
theorem ini_start {h₀ : Heap} {us : List Value} {vs : List V} {n : Nat} (T : IniFd P K D0 f body fd) (nsf : ("self" : Str) ≠ f) (hd : A.handled = none) (e0 : Env0 P w K mg base A outer s H) (hl : vs.length = 2) (r : Vals vs us)
    (hns : h₀.Ns s.heap.objs.size (fun x => ((["self", f] : List Str).zip us).reverse.lookup x)) (kp : ∀ b o, s.heap.get? b = some o → h₀.get? b = some o) :
    Inv (iniCx CX P w K mg base f fd f0 A outer s H E) [] (vs.map some) H { s with heap := h₀, toks := n } := by
  have noA : ∀ b : Addr, b ∉ (iniCx CX P w K mg base f fd f0 A outer s H E).ex := fun b z => absurd (show b ∈ ([] : List Addr) from z) (by simp)
  obtain ⟨cc, oc, e1, e2, e3⟩ := T.clo
  have KX : K.In s.heap := e0.mod.kin.keeps fun b o e => (e0.bs b o e).1
  have cN : H cc = none := (e0.bs cc oc (e0.mod.kin _ _ e2)).2
  have cl : ∀ {y c}, (iniCx CX P w K mg base f fd f0 A outer s H E).env.cells.lookup y = some c → y = "__class__" ∧ c = cc := fun {y c} h => by
    have h' : fd.closure.lookup y = some c := h
    rw [e1] at h'
    have h2 : (match y == ("__class__" : Str) with | true => some cc | false => ([] : List (Str × Addr)).lookup y) = some c := h'
    cases z : (y == ("__class__" : Str)) with
    | true =>
      rw [z] at h2
      exact ⟨beq_iff_eq.mp z, (Option.some.inj h2).symm⟩
    | false =>
      rw [z] at h2
      cases h2
  have hcell : h₀.IsCell cc (some (.ref D0)) := ⟨oc, kp _ _ (KX _ _ e2), e3⟩
  obtain ⟨x, y, rfl⟩ : ∃ x y, vs = [x, y] := by
    match vs, hl with
    | [x, y], _ => exact ⟨x, y, rfl⟩
  obtain ⟨u1, u2, rfl, r1, r2⟩ := vals2 r
  refine ⟨⟨e0.mod, T.kind, T.glob, T.blt, Nat.le_refl _, fun a b c h1 h2 => ?_, fun y hy => ?_, fun y c z _ => ?_, fun _ => hd, Around.frames_deeper e0.frames, .inr ⟨rfl, rfl⟩, fun b z => absurd z (noA b), e0.bs, e0.bsz, fun b _ _ => noA b, fun b z => absurd z (noA b), e0.funs, e0.frf⟩,
    rfl, e0.bare, Un.kept kp, ⟨_, hns, fun i z v h1 h2 h3 => ?_⟩, fun y c h => ?_, e0.hok.fresh (Nat.le_refl _), fun y c h => ?_, fun p hp => absurd (show p ∈ ([] : List (Addr × Obj)) from hp) (by simp), e0.hok.kept kp, rfl⟩
  · exact (cl h1).1.trans (cl h2).1.symm
  · have hy : fd.scope.names.lookup y = some .cell ∨ fd.scope.names.lookup y = some .free := hy
    rcases hy with hy | hy
    · exact absurd rfl (T.ncell _ (PySem.mem_of_lookup hy))
    · have e := T.nfree _ (PySem.mem_of_lookup hy) rfl
      refine ⟨cc, ?_⟩
      show fd.closure.lookup y = some cc
      rw [e1, show y = ("__class__" : Str) from e]
      rfl
  · cases z
  · match i, h1, h2 with
    | 0, h1, h2 =>
      cases h1
      cases h2
      refine ⟨u1, r1, .inl ⟨T.self, ?_⟩⟩
      show ([(f, u2), (("self" : Str), u1)] : List (Str × Value)).lookup ("self" : Str) = some u1
      simp [List.lookup, show (("self" : Str) == f) = false from by simpa using nsf]
    | 1, h1, h2 =>
      cases h1
      cases h2
      refine ⟨u2, r2, .inl ⟨T.fld, ?_⟩⟩
      show ([(f, u2), (("self" : Str), u1)] : List (Str × Value)).lookup f = some u2
      simp [List.lookup]
  · obtain ⟨_, rfl⟩ := cl h
    exact ⟨_, hcell⟩
  · obtain ⟨_, rfl⟩ := cl h
    exact cN
theorem ld_sup {M : Model} {A : Around} {E : Value → Shared → Prop} {env : Env} {s : Shared} {x : Str} {mg mb : Str → Option Value} {v : Value} {Q : Value → Shared → Prop} (hk : env.scope.kind = .function) (hx : env.kindOf x = some .globalImplicit) (hg : s.heap.Ns env.globals mg) (hn : mg x = none)
    (hb : s.heap.Ns env.builtins mb) (hv : mb x = some v) (h : Q v s) : wpAny M A (loadName env x) Q E s := by
  unfold loadName
  simp only [Env.blockKind, hk, hx, ScopeKind.isAnnotationScope, Bool.false_and, Bool.false_eq_true, if_false]
  exact Calls.loadGlobal_builtin hg hn hb hv h
/-- the bound __init__ of the base, called -/
theorem call_mw {A : Around} {E : Value → Shared → Prop} {h : Heap} {g : Array GenState} {d : Drawn} {t : Nat} {os : OsState} {nm q : Str} {C N : Addr} {bs bm : List Value} {hdct : Bool} {sn : List Str} {sub : List Value} {ab : Bool} {col : Option Bool} {dd : Option Addr} {k0 k1 k2 k3 k5 : Option Value}
    {u e t0 : Addr} {rest : List Value} {Q : Value → Shared → Prop} (prog : Program) (w : World)
    (hC : h.get? C = some (excClassObj nm q C N bs bm hdct sn sub ab col dd k0 k1 k2 k3 k5 "ValueError.__new__")) (he : h.get? e = some ({ cls := .ref C, dict := none, data := .fields #[.ref t0, .none, .none, .none, .bool false, .none] } : Obj)) (hu : h.get? u = some (PySem.W.kxs_mw "ValueError.__init__" e)) (hrest : rest.length ≤ sizeLine)
    (hq : ∀ h' t1, (∀ b o, b ≠ e → h.get? b = some o → h'.get? b = some o) → h'.get? e = some ({ cls := .ref C, dict := none, data := .fields #[.ref t1, .none, .none, .none, .bool false, .none] } : Obj) → Q .none ⟨h', g, d, t, os⟩) :
    wpAny (model prog w) A (call (.ref u) rest) Q E ⟨h, g, d, t, os⟩ := by
  refine wpAny_call (codeAny_of_tree ?_)
  show wpAny _ A.in1 (callAny (.ref u) ⟨rest, []⟩) _ _ _
  simp only [callAny]
  refine wpAny_bind (wpAny_load hu ?_)
  simp only [PySem.W.kxs_mw, show (Value.type "method-wrapper" == Value.type "method" || Value.type "method-wrapper" == Value.type "builtin_function_or_method" || Value.type "method-wrapper" == Value.type "method-wrapper") = true by decide, if_true]
  refine PySem.W.KFB.if_so (by decide) ?_
  refine wpAny_bind (PySem.ESX.check_bound F.excBase_ValueError hC he rfl ?_)
  refine wpAny_bind (wpAny_pure (wpAny_pure ?_))
  refine ⟨plainId_quiet F.excBase_ValueError.init.plain _, codeAny_builtin F.excBase_ValueError.initEntry ?_⟩
  refine PySem.W.exc_init_tree (cls := .ref C) (t0 := t0) (dv := none) (c2 := .none) (c3 := .none) (b4 := .bool false) he hrest fun h' k e' _ => hq h' _ k e'
theorem ini_ok {oc : Value} {od : Option Addr} {osl : Array (Option Value)} {m : Str} {j : Nat} {p0 p1 ap p2 p3 p4 p5 p6 p7 p8 : Pos} (T : IniFd P K D0 f [.Expr (.Call (.Attribute (.Call (.Name "super" p0) [] [] p1) "__init__" ap) [.Constant (.str m) j p2] [] p3) p4, .Assign [.Attribute (.Name "self" p5) f p6] (.Name f p7) p8] fd)
    (lk : K.lookup f0 = some ⟨oc, od, .func fd, osl⟩) (nsf : ("self" : Str) ≠ f) (hS : mg "super" = none) (hfd : (f == ("__debug__" : Str)) = false) (hfc : (f == ("__classdict__" : Str)) = false)
    (hev : ∀ env, eval (.Call (.Attribute (.Call (.Name "super" p0) [] [] p1) "__init__" ap) [.Constant (.str m) j p2] [] p3) env = (do
      let ov ← attributeBase (.Call (.Name "super" p0) [] [] p1) "__init__" env (eval (.Call (.Name "super" p0) [] [] p1) env)
      standAt ap.atName
      let (f, first) ← holding [ov] (getMethod ov "__init__" (plainOf (.Call (.Name "super" p0) [] [] p1) env))
      callWith p3 f first (backTo p3 (starEach [.Constant (.str m) j p2] env)) [])) : FnOk P w K mg base CX 1 f0 fd ["self", f] (spIni K D0 f) := by
  refine ⟨fun vs H Q E h => ?_, fun A outer s H args us vs Q E hr e0 hb r hsp => ?_⟩
  · obtain ⟨a, C, y, rfl, _⟩ := h
    rfl
  obtain ⟨a, C, y, rfl, IC, ea, q⟩ := hsp
  have KX : K.In s.heap := e0.mod.kin.keeps fun b o e => (e0.bs b o e).1
  have lim : s.heap.NoLimit := e0.mod.nolimit.keeps fun b o e => (e0.bs b o e).1
  obtain ⟨u1, u2, rfl, r1, r2⟩ := vals2 r
  obtain rfl : u1 = Value.ref a := r1
  refine ks_codeAny_call_defAt hr.depth (KX _ _ lk) rfl lim (PySem.W.codeRec_of KX T.code) T.body hb (fun y hy => T.ncell y hy) (fun y hy => ?_) (fun h₀ hns kp => ?_) T.co T.gen T.kind
  · have hm : y ∈ [(("self" : Str), Value.ref a), (f, u2)] := hy
    rcases List.mem_cons.mp hm with e | hm
    · rw [e]
      exact T.self
    · rcases List.mem_cons.mp hm with e | hm
      · rw [e]
        exact T.fld
      · cases hm
  have I0 : Inv (iniCx CX P w K mg base f fd f0 A outer s H E) [] ([V.ref a, y].map some) H { s with heap := h₀, toks := s.toks + ((["self", f] : List Str).zip [Value.ref a, u2]).length } := ini_start T nsf hr.hd e0 rfl r hns kp
  generalize hX : iniCx CX P w K mg base f fd f0 A outer s H E = X0 at I0
  have hK : X0.K = K := by rw [← hX]; rfl
  have hP : X0.prog = P := by rw [← hX]; rfl
  have hW : X0.w = w := by rw [← hX]; rfl
  have hE : X0.env = callEnv fd s.heap.objs.size f0 := by rw [← hX]; rfl
  have K0 : K.In h₀ := KX.keeps kp
  obtain ⟨nm, qn, N, bs, bm, sn, sub, ab, col, dd, k0, k1, k2, k3, k5, hC, hbm⟩ := IC.T.cls
  obtain ⟨oD, cdD, hD, hDd⟩ := IC.lk
  obtain ⟨cc, occ, c1, c2, c3⟩ := T.clo
  obtain ⟨cv, ocv, vsv, fl, tf, v1, v2, v3, v4, v5⟩ := T.file
  obtain ⟨ar, a1, a2⟩ := T.head
  obtain ⟨mb, hmb, hbb⟩ := e0.mod.blt
  have bk : ∀ b o, base.get? b = some o → h₀.get? b = some o := fun b o e => kp b o (e0.bs b o e).1
  obtain ⟨t1, ho⟩ := exo_at I0.hok ea
  have ho : h₀.get? a = some ({ cls := .ref C, dict := none, data := .fields #[.ref t1, .none, .none, .none, .bool false, .none] } : Obj) := ho
  refine ks_wpAt_execs_cons (ks_wpAt_Expr_any (hi := by unfold interactive; rw [show (callEnv fd s.heap.objs.size f0).scope.kind = .function from T.kind]; rfl) (ks_wpAt_MethodCall (pl := plainOf (.Call (.Name "super" p0) [] [] p1) (callEnv fd s.heap.objs.size f0)) (ks_wpAt_super_base T.sup T.cls (by decide) rfl (kp _ _ (KX _ _ lk)) rfl a1 v1 (K0 _ _ v2) v3 v4 v5 T.top ?_) (hev _)))
  refine ld_sup T.kind T.sup (by rw [show (callEnv fd s.heap.objs.size f0).globals = mainGlobals from T.glob]; exact e0.mod.glob.keeps bk) hS (by rw [show (callEnv fd s.heap.objs.size f0).builtins = builtinsNs from T.blt]; exact hmb.keeps bk) ((hbb "super" (by decide)).trans (by rfl)) ⟨rfl, ?_⟩
  refine wpAny_loadName_free T.kind T.cls (c := cc) (show fd.closure.lookup ("__class__" : Str) = some cc by rw [c1]; rfl) ⟨_, K0 _ _ c2, c3⟩ ?_
  refine wpAny_loadName_local (v := .ref a) T.kind (by rw [a2]; exact T.self) hns (by
    rw [a2]
    show ([(f, u2), (("self" : Str), Value.ref a)] : List (Str × Value)).lookup ("self" : Str) = some (.ref a)
    simp [List.lookup, show (("self" : Str) == f) = false from by simpa using nsf]) ?_
  refine ks_wpAny_isType_cls (K0 _ _ hD) hDd ⟨rfl, ?_⟩
  refine ks_wpAny_call_super (K0 _ _ hD) hDd ho rfl (fun c z => nomatch z) (PySem.W.looks_subIn K0 IC.sub) fun h1 hso kp1 => ?_
  have K1 : K.In h1 := K0.keeps kp1
  have hcl : PySem.W.clsIn K C = some { name := nm, bases := bs, mro := .ref C :: bm, ns := N, qualname := qn, hasDict := true, slotNames := sn, subclasses := sub, abstract := ab, collection := col, hasDel := false } := by unfold PySem.W.clsIn; rw [hC] <;> rfl
  have hsup := IC.sup
  unfold PySem.W.ks_superIn at hsup
  rw [hcl, Option.bind_some] at hsup
  have J1 : PySem.W.InstAt h1 a { cls := .ref C, dict := none, data := .fields #[.ref t1, .none, .none, .none, .bool false, .none] } C none := ⟨kp1 _ _ ho, rfl, rfl, trivial⟩
  refine PySem.W.kxs_getMethod PySem.W.kxs_ValueError hso (PySem.W.looks_opaque K1 IC.opq) (l₀ := .ref C :: bm) (fun A Q E s k q => wpAny_bind ((PySem.W.looks_clsIn K1 hcl) A _ E s k (wpAny_pure q))) rfl K1 hsup (J1.type.andThen (PySem.W.looks_subIn K1 IC.ve)) (PySem.W.ks_ne K1 J1 hcl) (by decide) ?_
  have kp2 : ∀ b o, h₀.get? b = some o → (h1.push (PySem.W.kxs_mw "ValueError.__init__" a)).get? b = some o := fun b o e => Heap.get?_push_of_some _ (kp1 b o e)
  have K2 := K0.keeps kp2
  show wpAny _ _ (callWith p3 (.ref h1.objs.size) [] (backTo p3 (starEach [.Constant (.str m) j p2] (callEnv fd s.heap.objs.size f0))) []) _ _ _
  refine PySem.W.kxs_callWith (i := "ValueError.__init__") (x := a) rfl (Calls.evalArgs_plain (Calls.spliced_cons (Calls.Constant_str (k := j) (pos := p2) (Calls.spliced_nil ⟨Heap.get?_push_size _ rfl, ?_⟩))))
  refine call_mw P w (K2 _ _ hC) (kp2 _ _ ho) (Heap.get?_push_size _ rfl) (by show 1 ≤ sizeLine; rw [sizeLine_eq]; omega) fun h2 t2 k2 e2 => ?_
  have I2 : ∀ n, Inv X0 [] ([V.ref a, y].map some) H ⟨h2, s.gens, s.drawn, n, s.os⟩ := fun n => by
    have z := (I0.kept (t' := n) kp2).write (t' := n) (x := a) (e := a) (o := exo a C none) (h' := h2) (by rw [ea]; exact True.intro) (.inl rfl) k2 ⟨_, e2⟩ (exo_ok e2)
    have eu : upd H a (exo a C none) = H := by
      funext b
      by_cases hb : b = a
      · rw [hb, upd_same, ea]
      · rw [upd_ne hb]
    rw [eu] at z
    exact z
  show wpAt _ _ _ (execs [.Assign [.Attribute (.Name "self" p5) f p6] (.Name f p7) p8] (callEnv fd s.heap.objs.size f0)) _ _ _
  refine wpAt_of_wpAny ?_
  subst hX
  have pst : PSs (iniCx CX P w K mg base f fd f0 A outer s H E) [.Assign [.Attribute (.Name "self" p5) f p6] (.Name f p7) p8] (tOst K f (tVar 0) (tVar 1)) :=
    pss_one (ps_ost (pe_var (i := 0) rfl (.inl T.self)) (pe_var (i := 1) rfl (.inl T.fld) hfd hfc))
  refine wpAny_mono (pst.run [] _ _ H { nx := fun _ H' => Q .non H', rt := Q } (I2 _) ⟨y, rfl, .ref a, rfl, a, C, rfl, IC.T, IC.no, .inl ⟨ea, q⟩⟩) (fun fl s' hs => ?_) fun e s' hs => hs
  have fin : ∀ {σ' : L2.St} {H' : Hp} {v : V} {u : Value}, Inv (iniCx CX P w K mg base f fd f0 A outer s H E) [] σ' H' s' → L2.RelV v u → Q v H' → CE outer P w H s Q u s' :=
    fun {σ' H' v u} J rv q => ⟨v, H', J.os, J.bare, J.base, J.hok, rv, q⟩
  cases fl with
  | ret u =>
    obtain ⟨v, σ', H', J, rv, q⟩ := hs
    exact fin J rv q
  | next =>
    obtain ⟨σ', H', J, q⟩ := hs
    exact fin (v := V.non) (u := Value.none) J rfl q
  | brk =>
    obtain ⟨_, _, _, q⟩ := hs
    exact False.elim q
  | cont =>
    obtain ⟨_, _, _, q⟩ := hs
    exact False.elim q
end
end DL

set_option Elab.async false
set_option linter.all false
set_option maxRecDepth 100000
set_option maxHeartbeats 4000000
namespace DL
open PySem PySem.Spec L2

/-- a new thing that stands still -/
theorem Tk.newS {tk : Tk} {F H : Hp} {p : Addr} {o : HO} (sub : Same F H) (ok : tk.ok F H) (hp : H p = none) (nt : NT o) : Same (upd F p o) (upd H p o) ∧ tk.ok (upd F p o) (upd H p o) := by
  refine ⟨fun a u e => ?_, tk.st _ _ _ _ ok (fun a u e => ?_) (fun a u e _ => ?_) (fun a ha => ?_) fun a u e n => ?_⟩
  · by_cases h : a = p
    · subst h
      rw [upd_same] at e ⊢
      exact e
    · rw [upd_ne h] at e ⊢
      exact sub a u e
  · rw [upd_ne (ne_of_none e (sub.free hp))]
    exact e
  · rw [upd_ne (ne_of_none e hp)]
    exact e
  · obtain ⟨h1, h2⟩ := tk.fr _ _ ok a ha
    have ne : a ≠ p := fun z => h2 (by rw [z]; exact hp)
    rw [upd_ne ne]
    exact h1
  · by_cases h : a = p
    · subst h
      rw [upd_same] at e
      cases e
      exact nt
    · rw [upd_ne h, n] at e
      cases e
def dRaiseI (c : Nat) (f : Str) (u : DA) : DS := fun _ α E => u α (fun ss => ∃ d, ss = [.fr d] ∧ E (c, [f], [d])) E
/-- the class C, its __init__ (one field f) -/
structure IniOk (P : Program) (w : World) (K : PySem.W.Frag) (mg : Str → Option Value) (base : Heap) (f : Str) (C : Addr) : Prop where
  ex : ∃ (D0 f0 : Addr) (fd : FuncData), FnOk P w K mg base (CX P w) 1 f0 fd ["self", f] (spIni K D0 f) ∧ Binds K fd ["self", f] [] ∧ PySem.W.findIn K (.ref C) "__init__" = some (some (.ref f0)) ∧ PySem.W.typeIn K (.ref f0) = some (.type "function") ∧ IniC K D0 f C
theorem qs_raiseI {g : Gv} {X : Cx} {c : Nat} {x f : Str} {p pos pos' : Pos} {e : Expr} {es : List Expr} {u : DA} (hc : X.calm = true) (T : IniOk X.prog X.w X.K X.mg X.base f (g.CA c)) (hr : Room 2 X.A) (hm : X.mg x = some (.ref (g.CA c))) (hg : Gl X x) (ha : QA g X (e :: es) u)
    (hdb : (x == ("__debug__" : Str)) = false := by decide) (he : starEach (e :: es) X.env = (false, eval e X.env) :: starEach es X.env := by rfl) (hpl : (backTo pos (starEach es X.env)).any (·.1) = false := by rfl) :
    QS g X (.Raise (some (.Call (.Name x p) (e :: es) [] pos)) none pos') (dRaiseI c f u) := ⟨fun tk Fe He E hT hx => by
  obtain ⟨D0, f0, fd, F1, hb, iC, tI, IC⟩ := T.ex
  refine (ps_raise hc hx (pmk_oex (C := g.CA c) IC.T iC tI F1 hr hb .nil (passes_call (E := fun _ _ _ => False) hx fun _ _ _ _ z => z.elim) hg hm (ha.pa tk Fe He E hT hx) hdb he hpl)).dimp fun D' σ H h => ?_
  obtain ⟨F, α, D, A, q, k⟩ := h
  refine ⟨F, α, _, A, q, fun vs H1 F1 ss st1 sub1 ok1 reps q1 => ?_⟩
  obtain ⟨d, rfl, q1⟩ := q1
  obtain ⟨v, rfl, r⟩ := RepSs.one reps
  refine ⟨by simp, fun a ha => ⟨a, g.CA c, v, rfl, IC, upd_same, fun dx hdx hne => ?_⟩⟩
  rw [upd_ne hne] at hdx
  have eH : upd (del (upd (upd (upd H1 a (exo a (g.CA c) none)) dx (exd dx [(f, v)])) a (exo a (g.CA c) (some dx))) a) dx (.xd [(f, v)]) = upd H1 dx (.xd [(f, v)]) := by
    funext b
    by_cases hb : b = dx
    · rw [hb, upd_same, upd_same]
    · rw [upd_ne hb, upd_ne hb]
      by_cases hb2 : b = a
      · rw [hb2, del_same, ha]
      · rw [del_ne hb2, upd_ne hb2, upd_ne hb, upd_ne hb2]
  refine ⟨rfl, dx, [(f, v)], upd_same, ?_, hdx, ?_⟩
  · rw [upd_ne hne, upd_same]
  · rw [eH]
    obtain ⟨n1, n2⟩ := Tk.newS (o := .xd [(f, v)]) sub1 ok1 hdx (fun ps z => nomatch z)
    have rd : Rep X.K g F1 d v := r
    have sn : Step tk F1 H1 (upd F1 dx (.xd [(f, v)])) (upd H1 dx (.xd [(f, v)])) := Step.new hdx sub1
    exact ⟨upd F1 dx (.xd [(f, v)]), c, [f], [d], [v], (A.st.trans st1).trans sn, n1, n2, rfl, rfl, .inr ⟨dx, rfl, upd_same⟩, .cons (rd.mono sn.fr) .nil, q1⟩⟩

/-! ### a field of a caught exception -/
def tXt (K : PySem.W.Frag) (n : Str) (te : TE) : TE := fun σ H Q => te σ H fun x H1 => ∃ (a C d : Addr) (fs : List (Str × V)) (v : V), x = .ref a ∧ H1 a = some (ExcO a C (some d)) ∧ XfC K C ∧ PySem.W.findIn K (.ref C) n = some none ∧ H1 d = some (.xd fs) ∧ fs.lookup n = some v ∧ Q v H1
theorem pe_xt {X : Cx} {e : Expr} {te : TE} {pos : Pos} {n : Str} (he : PE X e te) (hb : attributeBase e n X.env (eval e X.env) = eval e X.env := by rfl) : PE X (.Attribute e n pos) (tXt X.K n te) := by
  refine ⟨fun pins s σ H Q I h => ?_⟩
  refine attr_of hb (thn (he.run pins s σ H _ I h) fun u s1 hh => ?_)
  obtain ⟨x, H1, I1, rx, a, C, d, fs, v, ex, ea, T, hno, ed, l, q⟩ := hh
  subst ex
  obtain rfl : u = Value.ref a := rx
  have z : ObjOk X.prog X.w H1 s1.heap a (.ext fun h => ∃ (oe : Obj) (vs : Array Value), h.get? a = some oe ∧ Zc (.ref C) (some d) oe ∧ oe.data = .fields vs) := I1.hok a _ ea
  obtain ⟨⟨oe, vs, ha, hz, hd⟩, _, _⟩ := z
  have hx : ObjOk X.prog X.w H1 s1.heap d (.xd fs) := I1.hok d _ ed
  obtain ⟨mA, hns, hr⟩ := hx
  obtain ⟨od, ho, hl⟩ := lookIn_ns hns
  obtain ⟨u, hu, ru⟩ := RelO.some_of (v := v) (o := mA n) (by rw [← l]; exact hr n)
  have J : PySem.W.InstAt s1.heap a oe C (some od) := ⟨ha, hz.1, by unfold PySem.W.notCls; rw [hd] <;> rfl, by rw [hz.2]; exact ho⟩
  exact HandSPX.exc_get I1.kIn J T.ga T.gg T.exC (PySem.W.findObj_own T.hdC hno rfl (by rw [hl, hu])) (handed_of ru) ⟨v, H1, I1.tok _, ru, q⟩
theorem zip_look {K : PySem.W.Frag} {g : Gv} {F : Hp} {n : Str} {d : D} : ∀ {ns : List Str} {ds : List D} {vs : List V}, Reps K g F ds vs → (ns.zip ds).lookup n = some d → ∃ v, (ns.zip vs).lookup n = some v ∧ Rep K g F d v
  | [], ds, vs, _, e => by cases e
  | x :: ns, [], vs, _, e => by cases e
  | x :: ns, y :: ds, vs, h, e => by
    obtain ⟨v, r, rfl, q, t⟩ := h.inv_cons
    have e2 : (match n == x with | true => some y | false => (ns.zip ds).lookup n) = some d := e
    show ∃ w, (match n == x with | true => some v | false => (ns.zip r).lookup n) = some w ∧ Rep K g F d w
    cases z : (n == x) with
    | true =>
      rw [z] at e2
      cases e2
      exact ⟨v, rfl, q⟩
    | false =>
      rw [z] at e2
      exact zip_look t e2
def dXt (n : Str) (m : Nat) (ok : Nat → Bool) (te : DE) : DE := fun α Q E => te α (fun x => ∃ c ns ds d, x.view = .exc c ns ds ∧ ok c = true ∧ (ns.zip ds).lookup n = some d ∧ Q (.fr d)) E
theorem qe_xt {g : Gv} {X : Cx} {e : Expr} {te : DE} {pos : Pos} {n : Str} {m : Nat} {ok : Nat → Bool} (T : ∀ c, ok c = true → XfC X.K (g.CA c) ∧ PySem.W.findIn X.K (.ref (g.CA c)) n = some none) (he : QE g X e te) (hb : attributeBase e n X.env (eval e X.env) = eval e X.env := by rfl) :
    QE g X (.Attribute e n pos) (dXt n m ok te) := ⟨fun tk Fe He E hT hx => (pe_xt (he.pe tk Fe He E hT hx) hb).dimp fun σ H Q' h => by
  obtain ⟨F, α, Q, A, q, k⟩ := h
  refine ⟨F, α, _, A, q, fun v H1 h1 => ?_⟩
  obtain ⟨F1, r, st1, sub1, ok1, rep1, _, c, ns, ds, d, e1, e2, e3, q1⟩ := h1
  have rp : Rep X.K g F1 (.exc c ns ds) v := RepS.fr_ rep1 e1 ⟨fun _ z => (nomatch z), fun _ _ z => (nomatch z), fun z => (nomatch z)⟩
  unfold Rep at rp
  obtain ⟨a, dd, vs, rfl, h2, h3, h4, h5⟩ := rp
  obtain ⟨v', l1, l2⟩ := zip_look h5 e3
  rcases h4 with ⟨_, h4⟩ | ⟨d', f1, f2⟩
  · subst h4
    cases e3
  · subst f1
    exact ⟨a, g.CA c, d', _, v', rfl, sub1 _ _ h2, (T c e2).1, (T c e2).2, sub1 _ _ f2, l1, k _ _ ((VO.fr sub1 ok1 l2 q1).at st1)⟩⟩
end DL

set_option Elab.async false
set_option linter.all false
set_option maxRecDepth 100000
set_option maxHeartbeats 4000000
namespace DL
open PySem PySem.Spec L2

/-! ### try: body / except x as n: suite — the exception tracked in the suite and behind it -/
section
variable {X : Cx} {pins : List (Addr × Obj)} {σ : L2.St} {H : Hp} {s sI s' : Shared} {B : Heap} {a C : Addr} {d : Option Addr}
theorem landedT (I : Inv X pins σ H sI) (nb : ∀ b o, sI.heap.get? b = some o → b ∉ frs X.stack → B.get? b = some o) (st : B.StaysIn s'.heap) (up : sI.heap.UpToSlots s'.heap) (os : s'.os = sI.os) (ag : PyProof.Rows.AllBare s'.gens)
    (na : H a = none) (hB : B.get? a = none) (nfr : a ∉ frs X.stack) (ho : ∃ (oe : Obj) (vs : Array Value), s'.heap.get? a = some oe ∧ Zc (.ref C) d oe ∧ oe.data = .fields vs) : Inv X pins σ (upd H a (ExcO a C d)) s' := by
  have nI : ∀ {b : Addr} {o : Obj}, sI.heap.get? b = some o → b ≠ a := fun {b o} e z => by
    rw [z] at e
    have q := nb a o e nfr
    rw [hB] at q
    cases q
  have nf : ∀ b ∈ frs X.stack, ∀ o, sI.heap.get? b = some o → ∃ sl, s'.heap.get? b = some { o with slots := sl } := fun b hb o e => by
    obtain ⟨_, o', e', hd⟩ := I.stack.mem hb
    rw [e] at e'
    cases e'
    exact up b o e hd
  have nH : ∀ {b : Addr} {o : HO}, H b = some o → b ≠ a := fun {b o} e => ne_of_none e na
  have hokG : HOk X.prog X.w H s'.heap := (I.inGround nb).kept st
  have hok : HOk X.prog X.w (upd H a (ExcO a C d)) s'.heap := fun b o e => by
    by_cases h : b = a
    · subst h
      rw [upd_same] at e
      cases e
      obtain ⟨oe, vs, h1, h2, h3⟩ := ho
      exact ⟨⟨oe, vs, h1, h2, h3⟩, ⟨oe, h1⟩, fun q1 q2 ⟨oe, vs, z1, z2, z3⟩ k => ⟨oe, vs, k _ z1, z2, z3⟩⟩
    · rw [upd_ne h] at e
      exact (hokG b o e).stay (fun c v _ z => z) (fun c hc => by rw [upd_ne (nH hc)]; exact hc) fun c xs hc => by rw [upd_ne (nH hc)]; exact hc
  have J := I.call (ch := []) (h' := s'.heap) (g' := s'.gens) (t' := s'.toks) (d' := s'.drawn) (H' := upd H a (ExcO a C d))
    ⟨fun b o e _ hb _ => st b o (nb b o e hb), fun b o e _ hb _ => nf b hb o e, fun b o e n _ => by rw [upd_ne (nI e)]; exact n, fun b o e _ => by
      by_cases hb : b ∈ frs X.stack
      · obtain ⟨sl, q⟩ := nf b hb o e
        exact ⟨_, q⟩
      · exact ⟨o, st b o (nb b o e hb)⟩, fun b xs e => by rw [upd_ne (nH e)]; exact e, fun b o u e => by rw [upd_ne (nH e)]; exact e, fun b ps e => ⟨#[], by rw [upd_ne (nH e), e]; simp⟩⟩
    hok ag (fun _ z => nomatch z)
  obtain ⟨a1, a2, a3, a4, a5⟩ := s'
  have e5 : a5 = sI.os := os
  subst e5
  exact J
theorem suiteT (I : Inv X pins σ H s) : Inv (X.suite a (X.pn ++ pins)) [] σ H s :=
  ⟨I.ok.suite _ _, I.os, I.bare, I.base, I.loc, I.cell, I.free, I.freeC, fun p hp => I.pin p (by rw [List.append_nil] at hp; exact hp), I.hok, I.len⟩
theorem unsuiteT {pn' : List (Addr × Obj)} (I : Inv (X.suite a (X.pn ++ pins)) pn' σ H s) (ok : X.Ok) : Inv X pins σ H s :=
  ⟨ok, I.os, I.bare, I.base, I.loc, I.cell, I.free, I.freeC, fun p hp => I.pin p (List.mem_append_left _ hp), I.hok, I.len⟩
/-- what the clause wishes of an exception of the body -/
def wAsT (K : PySem.W.Frag) (c : Value) (i : Nat) (ts : TS) (Wout : WX) (D : Ends) : WX := fun cls d σ H =>
  ∃ b, PySem.W.exmOne K cls c = some b ∧ (b = true → ∃ C, cls = .ref C ∧ ∀ a, H a = none → ts { nx := fun σ' H' => D.nx (σ'.set i none) H', rt := D.rt, bk := fun σ' H' => D.bk (σ'.set i none) H', ct := fun σ' H' => D.ct (σ'.set i none) H' } (σ.set i (some (.ref a))) (upd H a (ExcO a C d))) ∧
    (b = false → Wout cls d σ H)
variable {x n : Str} {c : Value} {i : Nat} {body suite : List Stmt} {b₀ : Stmt} {np pos pos' : Pos} {tb : WX → TS} {ts : TS} {Wout : WX}
theorem ps_try_asT (hs : X.stack = X.env :: X.outer) (hf : X.env.frame = some X.env.locals) (hN : X.N.Nodup) (hi : X.N[i]? = some n) (hln : X.env.kindOf n = some .local) (hc : Names X x c) (tk : Takes X Wout)
    (hb : ∀ (W : WX) (pn : List (Addr × Obj)) (xe : Value → Shared → Prop), Takes (X.tr pn xe) W → PassesOwn (model X.prog X.w) X.A X.env xe → PSs (X.tr pn xe) body (tb W))
    (hsu : ∀ (a : Addr) (pn : List (Addr × Obj)), PSs (X.suite a pn) (b₀ :: suite) ts) :
    PS X (.Try body [.ExceptHandler (some (.Name x np)) (some n) (b₀ :: suite) pos'] [] [] pos) (fun D σ H => tb (wAsT X.K c i ts Wout D) D σ H) := by
  refine ⟨fun pins s σ H D I h => ?_⟩
  have ok := I.ok
  have hfr : X.A.frames = some (X.env :: X.outer) := by rw [ok.frames, hs]
  have hloc : Loc X.env.scope n := .inl hln
  refine wpAny_Try_except ?_
  refine wpAny_mono ((hb (wAsT X.K c i ts Wout D) (X.pn ++ pins) (fun e s₁ => wpAny (model X.prog X.w) X.A (noteFrame e X.env) (fun _ s₂ => wpAny (model X.prog X.w) X.A (setFlight e none) (fun _ s₃ =>
    wpAny (model X.prog X.w) X.A (handleBy e X.env [.ExceptHandler (some (.Name x np)) (some n) (b₀ :: suite) pos']) (SP X pins D) X.xe s₃) X.xe s₂) X.xe s₁) (fun u s' xx => ?_) PassesOwn.looking).run [] s σ H D (I.toTry _) h) (fun f s1 hsp => ?_) (fun e s1 he => he)
  · obtain ⟨a, B, sI, pins', σ', H', cls, d, rfl, J', nb, up, sky, na, os, ag, b, hb1, hyes, hno⟩ := xx
    have J : Inv X pins σ' H' sI := J'.ofTry ok
    have sky' : Sky B (X.env :: X.outer) a (Zc cls d) X.env.locals s'.heap := by rw [← hs]; exact sky
    show wpAny (model X.prog X.w) X.A (noteFrame (.ref a) X.env) _ _ _
    refine Sky.land Zc.steady hfr hf sky' fun h3 fl3 up3 => ?_
    have J3 : Inv X pins σ' H' { s' with heap := h3 } := J.landed nb fl3.1 (up.trans up3) os ag
    obtain ⟨oe3, vs3, he3, hz3, hd3⟩ := fl3.there
    have notFr : ∀ {h : Heap} {o : Obj} {vs : Array Value}, h.FunFrames B (X.env :: X.outer) → h.get? a = some o → o.data = .fields vs → a ∉ frs (X.env :: X.outer) := fun {h o vs} ff e dd hm => by
      obtain ⟨_, o', e', hnf⟩ := ff.mem hm
      rw [e] at e'
      cases e'
      exact hnf _ dd
    have nfr := notFr fl3.2.2.1 he3 hd3
    have nL : a ≠ X.env.locals := fun z => nfr (List.mem_filterMap.mpr ⟨X.env, List.mem_cons_self, by rw [hf, z]⟩)
    have nF : a ∉ X.fs := fun hm => by
      obtain ⟨e, he, q⟩ := List.mem_filterMap.mp hm
      exact nfr (List.mem_filterMap.mpr ⟨e, List.mem_cons_of_mem _ he, q⟩)
    have S3 := J3.suite he3 hd3 na nL nF
    refine wpAny_handleBy_cons (codeAny_handlers_test ?_) (by intro q; cases q)
    have LT : PySem.W.Looks (model X.prog X.w) h3 (typeOf (.ref a)) cls := fun A Q E s k q => wpAny_typeOf_ref (k _ _ he3) (by rw [hz3.1]; exact q)
    have LM := PySem.W.exm_one (M := model X.prog X.w) (J3.kIn) LT hb1
    have test : ∀ {Q : Value → Shared → Prop} {E : Value → Shared → Prop}, Q c { s' with heap := h3 } → wpAny (model X.prog X.w) (X.A.mark (some (.ref a))) (eval (.Name x np) X.env) Q E { s' with heap := h3 } := fun {Q E} q => by
      obtain ⟨hg, hdbg, hm | ⟨hm, hv, hnn⟩⟩ := hc
      · exact ld_glob (X := X.suite a ((a, oe3) :: (X.pn ++ pins))) S3 hg hm q hdbg
      · exact ld_blt (X := X.suite a ((a, oe3) :: (X.pn ++ pins))) S3 hg hm hv q hnn hdbg
    refine test (LM.here ?_)
    cases b with
    | true =>
      refine codeAny_handlers_suite_as ?_
      refine HandSPX.lands_againZ fl3 fun h4 fl4 up4 => ?_
      obtain ⟨C, rfl, hyes2⟩ := hyes rfl
      obtain ⟨oe4, vs4, he4, hz4, hd4⟩ := fl4.there
      have J4 : Inv X pins σ' (upd H' a (ExcO a C d)) { s' with heap := h4 } := landedT J nb fl4.1 ((up.trans up3).trans up4) os ag na fl4.2.1 (by rw [hs]; exact nfr) ⟨oe4, _, he4, hz4, hd4⟩
      have S4 := suiteT (a := a) J4
      refine store_ok (X := X.suite a (X.pn ++ pins)) (v := .ref a) S4 hN hi hloc rfl (fun s5 S5 => ?_) (.inr hln)
      refine wpAny_mono ((hsu a (X.pn ++ pins)).run [] s5 _ (upd H' a (ExcO a C d)) _ S5 (hyes2 a na)) (fun f s6 hsp => ?_) (fun _ _ z => False.elim z)
      have end_ : ∀ {σ6 : L2.St} {H6 : Hp} {Q : Shared → Prop}, Inv (X.suite a (X.pn ++ pins)) [] σ6 H6 s6 → (∀ s7, Inv X pins (σ6.set i none) H6 s7 → Q s7) →
          wpAny (model X.prog X.w) X.A (do bindName X.env n .none; unbindBehindTheSuite X.env n pos') (fun _ s7 => Q s7) X.xe s6 := fun {σ6 H6 Q} S6 hq => gone_ok (unsuiteT S6 ok) hN hi hln hq
      cases f with
      | next =>
        obtain ⟨σ6, H6, S6, q6⟩ := hsp
        exact end_ S6 fun s7 J7 => ⟨_, _, J7, q6⟩
      | brk =>
        obtain ⟨σ6, H6, S6, q6⟩ := hsp
        exact end_ S6 fun s7 J7 => ⟨_, _, J7, q6⟩
      | cont =>
        obtain ⟨σ6, H6, S6, q6⟩ := hsp
        exact end_ S6 fun s7 J7 => ⟨_, _, J7, q6⟩
      | ret u =>
        obtain ⟨v6, σ6, H6, S6, r6, q6⟩ := hsp
        exact end_ S6 fun s7 J7 => ⟨_, _, _, J7, r6, q6⟩
    | false =>
      show wpAny _ X.A (handleBy (.ref a) X.env []) _ _ _
      refine wpAny_handleBy_nil ?_
      obtain ⟨k1, k2, k3, oe, vs, T, oT, ts', he, hz, hd, h1, hr⟩ := id fl3
      unfold PySem.passOn
      refine wpAny_bind (wpAny_field he hd h1 ?_)
      rw [if_neg (show ¬ ((Value.ref T == Value.none) = true) from by simp)]
      have fin : wpAny (model X.prog X.w) X.A (setFlight (.ref a) X.env.frame) (fun _ s4 => wpAny (model X.prog X.w) X.A (throw (.ref a) : Sem Flow) (SP X pins D) X.xe s4) X.xe { s' with heap := h3 } := by
        rw [hf]
        refine HandSPX.setFlight_upZ fl3 fun h4 hh4 up4 => wpAny_throw (tk _ _ ?_)
        exact ⟨a, B, sI, pins, σ', H', cls, d, rfl, J, nb, (up.trans up3).trans up4, .inr (.inr (by rw [hs]; exact hh4)), na, os, ag, hno rfl⟩
      first
        | exact wpAny_bind (wpAny_pure (wpAny_bind fin))
        | exact wpAny_bind fin
  · cases f with
    | next =>
      obtain ⟨σ', H', J', q⟩ := hsp
      exact wpAny_execs_nil ⟨σ', H', J'.ofTry ok, q⟩
    | brk =>
      obtain ⟨σ', H', J', q⟩ := hsp
      exact ⟨σ', H', J'.ofTry ok, q⟩
    | cont =>
      obtain ⟨σ', H', J', q⟩ := hsp
      exact ⟨σ', H', J'.ofTry ok, q⟩
    | ret u =>
      obtain ⟨v, σ', H', J', r, q⟩ := hsp
      exact ⟨v, σ', H', J'.ofTry ok, r, q⟩
end
end DL

set_option Elab.async false
set_option linter.all false
set_option maxRecDepth 100000
set_option maxHeartbeats 4000000
namespace DL
open PySem PySem.Spec L2

/-! ### caught(lambda: ..): None, or the exception, tracked -/
def TCaught (K : PySem.W.Frag) (C0 : Addr) : (XK → Hp → VK → Prop) → Hp → VK → Prop := fun tl H Q =>
  tl (fun cls d H' => ∃ b, PySem.W.exmOne K cls (.ref C0) = some b ∧ (b = true → ∃ C, cls = .ref C ∧ ∀ a, H' a = none → Q (.ref a) (upd H' a (ExcO a C d))) ∧ (b = false → False)) H (fun _ H' => Q .non H')
theorem takes_len {X : Cx} {W : WX} (t : Takes X W) : Takes X (fun cls d σ H => σ.length = X.N.length → W cls d σ H) := fun u s' ⟨a, B, sI, pins, σ, H, cls, d, e, I, nb, up, sky, na, os, ag, w⟩ =>
  t u s' ⟨a, B, sI, pins, σ, H, cls, d, e, I, nb, up, sky, na, os, ag, w I.len⟩
theorem caught_gives {X : Cx} {x a fo er e q : Str} {sg : Scope} {g C0 : Addr} {cdg : Value} {j : Nat} {p1 p2 p3 p4 p5 p6 p7 p8 p9 p10 p11 p12 p13 p14 : Pos} (hge : sg.names.lookup e = some .globalImplicit) (hme : X.mg e = some (.ref C0)) (hde : (e == ("__debug__" : Str)) = false)
    (nd : [a, fo, er].Nodup) (h1 : sg.names.lookup fo = some .local) (h2 : sg.names.lookup er = some .local) (d1 : (fo == ("__debug__" : Str)) = false) (d2 : (fo == ("__classdict__" : Str)) = false) (d3 : (er == ("__debug__" : Str)) = false) (d4 : (er == ("__classdict__" : Str)) = false) :
    LamX.GivesTo X [a, fo, er] x sg g cdg [.Assign [.Name fo p1] (.Constant .none j p2) p3, .Try [.Expr (.Call (.Name a p4) [] [] p5) p6] [.ExceptHandler (some (.Name e p7)) (some er) [.Assign [.Name fo p8] (.Name er p9) p10] p11] [] [] p12, .Return (some (.Name fo p13)) p14] a q (TCaught X.K C0) := by
  intro f c' s H Q tl act hc h
  have hgl : Gl (cxOf C8.CX0 X.prog X.w X.K X.mg X.base [a, fo, er] x sg g cdg X.A X.stack s H C8.E0).nox e := hge
  refine ⟨_, pss_cons (ps_set (X := (cxOf C8.CX0 X.prog X.w X.K X.mg X.base [a, fo, er] x sg g cdg X.A X.stack s H C8.E0).nox) (i := 1) nd rfl (.inl h1) pe_non rfl (.inl rfl)) (pss_cons (ps_try_asT (X := (cxOf C8.CX0 X.prog X.w X.K X.mg X.base [a, fo, er] x sg g cdg X.A X.stack s H C8.E0).nox) (c := .ref C0) (i := 2)
      (tb := fun W D σ H => ∃ Ech : XK, (∀ cls d σ' H', σ'.length = 3 → Ech cls d H' → W cls d σ' H') ∧ σ[0]? = some (some (.ref f)) ∧ H c' = some (LamX.CodeO c' q) ∧ tl Ech H (fun _ H' => D.nx σ H'))
      rfl rfl nd rfl h2 ⟨hgl, hde, .inl hme⟩ LamX.takes0 (fun W pn xe tk _ => ?_) (fun a' pn => pss_one (ps_set (i := 1) nd rfl (.inl h1) (pe_var (i := 2) rfl (.inl h2) d3 d4) rfl (.inr h1)))) (pss_one (ps_ret (pe_var (i := 1) rfl (.inl h1) d1 d2)))), ?_⟩
  · refine ⟨fun pins s' σ H' D I h' => ?_⟩
    obtain ⟨Ech, hW, g1, g2, g3⟩ := h'
    have hp := act (fun cls d σ H => σ.length = 3 → W cls d σ H) pn xe Ech p4 p5 (takes_len tk) (fun cls d σ' H' z l => hW cls d σ' H' l z)
    exact (pss_one (ps_expr hp)).run pins s' σ H' D I ⟨g1, g2, g3⟩
  · refine ⟨fun cls d H' => ∃ b, PySem.W.exmOne X.K cls (.ref C0) = some b ∧ (b = true → ∃ C, cls = .ref C ∧ ∀ a, H' a = none → Q (.ref a) (upd H' a (ExcO a C d))) ∧ (b = false → False), fun cls d σ' H' hl z => ?_, rfl, hc, ?_⟩
    · obtain ⟨b, e1, e2, e3⟩ := z
      refine ⟨b, e1, fun hb => ?_, fun hb => e3 hb⟩
      obtain ⟨C, ec, k⟩ := e2 hb
      refine ⟨C, ec, fun a' na => ?_⟩
      match σ', hl with
      | [x0, x1, x2], _ => exact ⟨.ref a', rfl, .ref a', rfl, k a' na⟩
    · have z : tl _ H (fun _ H' => Q .non H') := h
      have e1 : (fun (_ : V) (H' : Hp) => Q V.non H') = fun (_ : V) (H' : Hp) => ∃ v, ((L2.start [a, fo, er] [V.ref f]).set 1 (some V.non))[1]? = some (some v) ∧ Q v H' := by
        funext v H'
        exact propext ⟨fun z => ⟨.non, rfl, z⟩, fun ⟨v, e, z⟩ => by cases e; exact z⟩
      rw [e1] at z
      exact z
/-- what the tokens say of the lambdas' tables -/
structure LamT (g : Gv) (T : List (Addr × Str)) : Prop where
  keep : ∀ tk F H, g.T tk → tk.ok F H → LamX.Tabs T H ∧ (∀ a o, F a = some o → NT o) ∧ ∀ H1, LamX.ExtN H H1 → LamX.Tabs T H1 → tk.ok F H1
def S.noOwn : Option S → Bool
  | some (.nw _) => false
  | _ => true
def dCaught (okc : Nat → Bool) (te : DE) : DE := fun α Q _ => α.all S.noOwn = true ∧ te α (fun _ => Q (.fr .non)) (fun x => okc x.1 = true ∧ Q (.fr (.exc x.1 x.2.1 x.2.2)))
theorem exc_new {K : PySem.W.Frag} {g : Gv} {tk : Tk} {F H F' H' : Hp} {Q : S → Prop} {c : Nat} {ns : List Str} {ds : List D} {vs : List V} {dd : Option Addr} {a : Addr} (st : Step tk F H F' H') (sub : Same F' H') (ok : tk.ok F' H') (hl : vs.length = ns.length)
    (hd : (dd = none ∧ ns = []) ∨ ∃ d, dd = some d ∧ F' d = some (.xd (ns.zip vs))) (r : Reps K g F' ds vs) (ha : H' a = none) (q : Q (.fr (.exc c ns ds))) : VO K g tk F H Q (.ref a) (upd H' a (ExcO a (g.CA c) dd)) := by
  obtain ⟨n1, n2⟩ := Tk.newS (o := ExcO a (g.CA c) dd) sub ok ha (fun ps z => by unfold ExcO at z; cases z)
  have s2 : Step tk F' H' (upd F' a (ExcO a (g.CA c) dd)) (upd H' a (ExcO a (g.CA c) dd)) := Step.new ha sub
  refine ⟨_, .fr (.exc c ns ds), st.trans s2, n1, n2, ?_, (fun d p z => nomatch z), q⟩
  show Rep K g _ (.exc c ns ds) _
  unfold Rep
  refine ⟨a, dd, vs, rfl, upd_same, hl, ?_, r.mono s2.fr⟩
  rcases hd with hd | ⟨d, e1, e2⟩
  · exact .inl hd
  · exact .inr ⟨d, e1, s2.fr _ _ e2⟩
theorem Ab.rooted {K : PySem.W.Frag} {g : Gv} {tk : Tk} {Fe He F H : Hp} {α : AE} {σ : L2.St} (A : Ab K g tk Fe He F H α σ) (h : α.all S.noOwn = true) : Ab K g tk F H F H α σ := by
  refine ⟨A.sub, A.ok, Step.refl _ _ _, A.len, fun i s e => ?_, A.nob, A.apart⟩
  obtain ⟨v, e1, e2, _⟩ := A.val i s e
  refine ⟨v, e1, e2, fun d p z _ => ?_⟩
  have y := List.all_eq_true.mp h _ (List.mem_of_getElem? e)
  rw [z] at y
  cases y
section
open LamX
variable {g : Gv} {X : Cx}
theorem qe_caught {T : List (Addr × Str)} {x a fo er en : Str} {gA c P C0 : Addr} {k : Nat} {okc : Nat → Bool} {pg : Arguments} {sg : Scope} {dV kV doc pm cdv ct oc : Value} {an od : Option Addr} {osl : Array (Option Value)} {j : Nat} {p1 p2 p3 p4 p5 p6 p7 p8 p9 p10 p11 p12 p13 p14 : Pos}
    {params : Arguments} {body : Expr} {scope : Scope} {te : DE} {p lpos pos : Pos} (hT : LamT g T) (ex : ∀ c, okc c = true → PySem.W.exmOne X.K (.ref (g.CA c)) (.ref C0) = some true)
    (hge : sg.names.lookup en = some .globalImplicit) (hme : X.mg en = some (.ref C0)) (nd : [a, fo, er].Nodup) (h1 : sg.names.lookup fo = some .local) (h2 : sg.names.lookup er = some .local)
    (hg : Gl X x) (hm : X.mg x = some (.ref gA)) (hk : PySem.W.keepIn X.K (.ref gA) = true)
    (lk : X.K.lookup gA = some ⟨oc, od, .func (PySem.W.fnOf x x pg [.Assign [.Name fo p1] (.Constant .none j p2) p3, .Try [.Expr (.Call (.Name a p4) [] [] p5) p6] [.ExceptHandler (some (.Name en p7)) (some er) [.Assign [.Name fo p8] (.Name er p9) p10] p11] [] [] p12, .Return (some (.Name fo p13)) p14] sg dV kV doc pm an cdv ct), osl⟩)
    (hcg : PySem.W.codeIn X.K cdv x = true) (hb : L2.Binds X.K (PySem.W.fnOf x x pg [.Assign [.Name fo p1] (.Constant .none j p2) p3, .Try [.Expr (.Call (.Name a p4) [] [] p5) p6] [.ExceptHandler (some (.Name en p7)) (some er) [.Assign [.Name fo p8] (.Name er p9) p10] p11] [] [] p12, .Return (some (.Name fo p13)) p14] sg dV kV doc pm an cdv ct) [a] [])
    (Sg : FnScope [a, fo, er] [a] sg) (hva : Vis sg a)
    (TB : TabB X.base X.mg c P) (hcode : X.env.code = .ref c) (hmT : (P, X.env.qual ++ "<lambda>") ∈ T) (hu : ∀ p ∈ T, p.1 = P → p.2 = X.env.qual ++ "<lambda>") (hr : Room (k + 2) X.A) (L : LamS X.env.scope scope) (hdef : defaultsOf params X.env = ([], []))
    (hbind : ∀ (q : Str) (cl : List (Str × Addr)) (pm cv ctv : Value), bindArgs (PySem.W.kla_fn "<lambda>" q params body scope cl pm cv ctv) ⟨[], []⟩ = pure [])
    (hbody : ∀ (A : Around) (outer : List Env) (s : Shared) (H : Hp) (E : XK) (f c' : Addr), Room k (A.deeper (lamEnv X scope s.heap.objs.size f c')) → QE g (lamCx X A outer s H E scope f c') body te)
    (hdb : (x == ("__debug__" : Str)) = false := by decide) (hd : (a == ("__debug__" : Str)) = false := by decide) (hcd : (a == ("__classdict__" : Str)) = false := by decide) (hde : (en == ("__debug__" : Str)) = false := by decide)
    (d1 : (fo == ("__debug__" : Str)) = false := by decide) (d2 : (fo == ("__classdict__" : Str)) = false := by decide) (d3 : (er == ("__debug__" : Str)) = false := by decide) (d4 : (er == ("__classdict__" : Str)) = false := by decide) :
    QE g X (.Call (.Name x p) [.Lambda params body scope lpos] [] pos) (dCaught okc te) := ⟨fun tk Fe He E hTk hx => by
  refine (pe_lamcall (t := fun E' σ H Q' => ∃ tk Fe He E, g.T tk ∧ (∀ cls d H', XO X.K g tk Fe He E cls d H' → E' cls d H') ∧ LE X.K g tk Fe He E te σ H Q') hg hm hk lk hcg hb Sg rfl hva
    (caught_gives (x := x) (g := gA) (cdg := cdv) (q := X.env.qual ++ "<lambda>") hge hme hde nd h1 h2 d1 d2 d3 d4) TB hcode hmT hu hr L hdef hbind (fun A outer s H E' f c' hr2 => ?_) hdb hd hcd).dimp fun σ H Q' h => ?_
  · refine ⟨fun pins s2 σ H2 Q' I h => ?_⟩
    obtain ⟨tk, Fe, He, E, hTk, hE, h⟩ := h
    have hx2 : Takes (lamCx X A outer s H E' scope f c') (WD X.K g tk Fe He E) := (L2.takes_of rfl rfl rfl rfl).imp fun cls d σ H' z => hE cls d H' z
    exact ((hbody A outer s H E' f c' hr2).pe tk Fe He E hTk hx2).run pins s2 σ H2 Q' I h
  · obtain ⟨F, α, Q, A, ⟨na, q⟩, k⟩ := h
    obtain ⟨l1, l2, l3⟩ := hT.keep tk F H hTk A.ok
    refine ⟨l1, fun H1 eN T1 => ?_⟩
    have st : Step tk F H F H1 := ⟨Same.refl _, fun a o e n => by (rw [n] at e; cases e), fun a o e _ n => eN a o e n, fun a o e n => ⟨o, eN a o e n, n⟩⟩
    have sub1 : Same F H1 := fun a o e => eN a o (A.sub a o e) (l2 a o e)
    have ok1 := l3 H1 eN T1
    have A1 := (A.step st sub1 ok1).rooted na
    refine ⟨tk, F, H1, fun x => okc x.1 = true ∧ Q (.fr (.exc x.1 x.2.1 x.2.2)), hTk, fun cls d H' z => ?_, F, α, _, A1, q, fun v H' z => ?_⟩
    · obtain ⟨F', c, ns, ds, vs, st', sub', ok', rfl, hl, hdd, rp, hc, q'⟩ := z
      exact ⟨true, ex c hc, fun _ => ⟨g.CA c, rfl, fun a ha => k _ _ (exc_new (st.trans st') sub' ok' hl hdd rp ha q')⟩, fun z => nomatch z⟩
    · obtain ⟨F', r, st', sub', ok', rp, _, q'⟩ := z
      exact k _ _ ((VO.non sub' ok' q').at (st.trans st'))⟩
end
end DL

set_option Elab.async false
set_option linter.all false
set_option maxRecDepth 100000
set_option maxHeartbeats 4000000
namespace DL
open PySem PySem.Spec L2

/-! ### {k: v, ..}, the keys texts -/
def dDic (ks : List Key) (u : DA) : DE := fun α Q E => u α (fun ss => ∃ ds, ss = ds.map S.fr ∧ ds.length = ks.length ∧ Q (.nw (.dic ks ds))) E
structure QP (g : Gv) (X : Cx) (pos : Pos) (keys : List (Option Expr)) (values : List Expr) (ks : List Key) (u : DA) : Prop where
  pp : ∀ (tk : Tk) (Fe He : Hp) (E : XD → Prop), g.T tk → Takes X (WD X.K g tk Fe He E) → ∃ trs, PPs X pos keys values trs ∧
    ∀ (F H : Hp) (α : AE) (σ : L2.St) (Q : List S → Prop) (Q' : List (V × V) → Hp → Prop), Ab X.K g tk Fe He F H α σ → u α Q E →
      (∀ vs H' F' ss, Step tk F H F' H' → Same F' H' → tk.ok F' H' → RepSs X.K g tk F' H' ss vs → vs.length = ks.length → Q ss → Q' ((ks.map kV).zip vs) H') → tPairs trs σ H Q'
section
variable {g : Gv} {X : Cx} {pos : Pos}
theorem qp_nil : QP g X pos [] [] [] dNil := ⟨fun tk Fe He E hT hx => ⟨[], pps_nil, fun F H α σ Q Q' A q k => k [] H F [] (Step.refl _ _ _) A.sub A.ok rfl rfl q⟩⟩
theorem qp_cons {x : Str} {j : Nat} {p : Pos} {v : Expr} {keys : List (Option Expr)} {vs : List Expr} {ks : List Key} {te : DE} {u : DA} (hv : QE g X v te) (hr : QP g X pos keys vs ks u) :
    QP g X pos (some (.Constant (.str x) j p) :: keys) (v :: vs) (.inr x :: ks) (dCons te u) := ⟨fun tk Fe He E hT hx => by
  obtain ⟨trs, h1, h2⟩ := hr.pp tk Fe He E hT hx
  refine ⟨_, pps_cons pe_str (hv.pe tk Fe He E hT hx) h1, fun F H α σ Q Q' A q k => ?_⟩
  refine ⟨F, α, _, A, q, fun w H1 w1 => ?_⟩
  obtain ⟨F1, r, st1, sub1, ok1, rep1, q1⟩ := w1.fz
  refine h2 F1 H1 α σ _ _ (A.step st1 sub1 ok1) q1 fun vs H2 F2 ss st2 sub2 ok2 reps hl q2 => ?_
  exact k (w :: vs) H2 F2 (r.fz :: ss) (st1.trans st2) sub2 ok2 ⟨w, vs, rfl, rep1.step st2, reps⟩ (by rw [List.length_cons, List.length_cons, hl]) q2⟩
theorem merge_new : ∀ (more kvs : List (Key × V)), (kvs.map (·.1) ++ more.map (·.1)).Nodup → mergeK kvs more = kvs ++ more
  | [], kvs, _ => by rw [List.append_nil]; rfl
  | p :: r, kvs, h => by
    have hn : (kvs.any fun kv => decide (kv.1 = p.1)) = false := by
      rw [List.any_eq_false]
      intro kv hkv z
      have e := of_decide_eq_true z
      rw [List.map_cons, List.nodup_append] at h
      exact h.2.2 kv.1 (List.mem_map.mpr ⟨kv, hkv, rfl⟩) p.1 List.mem_cons_self e
    have e : putK kvs p.1 p.2 = kvs ++ [p] := by
      unfold putK
      rw [hn, if_neg Bool.false_ne_true]
    show mergeK (putK kvs p.1 p.2) r = _
    rw [e, merge_new r (kvs ++ [p]) (by rw [List.map_append, List.append_assoc]; exact h), List.append_assoc]
    rfl
theorem zip_pairs : ∀ {ks : List Key} {vs : List V}, (ks.map kV).zip vs = (ks.zip vs).map fun kv => (kV kv.1, kv.2)
  | [], vs => rfl
  | k :: ks, [] => rfl
  | k :: ks, v :: vs => by
    show (kV k, v) :: (ks.map kV).zip vs = _
    rw [zip_pairs]
    rfl
theorem qe_dic {keys : List (Option Expr)} {values : List Expr} {ks : List Key} {u : DA} (h : QP g X pos keys values ks u) (nd : ks.Nodup) (h15 : ks.length ≤ 15) (hall : keys.all (·.isSome) = true := by rfl) (hl : keys.length = values.length := by rfl) (h0 : keys ≠ [] := by intro z; cases z)
    (hk : keys.length ≤ 15 := by decide) : QE g X (.Dict keys values pos) (dDic ks u) := ⟨fun tk Fe He E hT hx => by
  obtain ⟨trs, h1, h2⟩ := h.pp tk Fe He E hT hx
  refine (pe_disp h1 hall hl h0 hk).dimp fun σ H Q' h => ?_
  obtain ⟨F, α, Q, A, q, k⟩ := h
  intro p hp
  have hF : F p = none := A.sub.free hp
  have st0 : Step tk F H F (upd H p (.dK [])) := Step.own hp
  have nD : p ∉ tk.ad := Tk.out A.ok hp
  have sub0 : Same F (upd H p (.dK [])) := fun a o e => by
    rw [upd_ne (ne_of_none e hF)]
    exact A.sub a o e
  have ok0 : tk.ok F (upd H p (.dK [])) := Tk.own A.ok hp _
  refine h2 F _ α σ _ _ (A.step st0 sub0 ok0) q fun vs H1 F1 ss st1 sub1 ok1 reps hlen q1 => ?_
  obtain ⟨ds, rfl, hd, q1⟩ := q1
  have r := reps.frs
  have e1 : H1 p = some (.dK []) := st1.kp p _ upd_same nD fun ps z => nomatch z
  have n1 : F1 p = none := by
    cases z : F1 p with
    | none => rfl
    | some o => exact absurd (fun ps z => nomatch z) (st1.nw p o z hF _ upd_same)
  refine ⟨e1, ks.zip vs, zip_pairs, by rw [List.length_zip]; omega, ?_⟩
  have em : mergeK [] (ks.zip vs) = ks.zip vs := by
    rw [merge_new _ _ (by
      rw [List.map_nil, List.nil_append, show (ks.zip vs).map (fun x => x.1) = ks from List.map_fst_zip (by omega)]
      exact nd), List.nil_append]
  rw [em]
  have st2 := st0.trans st1
  refine k _ _ ⟨F1, .nw (.dic ks ds), ⟨st2.fr, st2.nw, fun a o e n t => ?_, fun a o e t => ?_⟩, fun a o e => ?_, ?_, ⟨p, rfl, n1, nD, vs, upd_same, hlen, r⟩, fun d q _ e => by cases e; exact .of hp, q1⟩
  · rw [upd_ne (ne_of_none e hp)]
    exact st2.kp a o e n t
  · rw [upd_ne (ne_of_none e hp)]
    exact st2.ad a o e t
  · rw [upd_ne (ne_of_none e n1)]
    exact sub1 a o e
  · refine tk.st _ _ _ _ ok1 (Same.refl _) (fun a o e hor => ?_) (fun a ha => (tk.fr _ _ ok1 a ha).1) fun a u e n => by (rw [n] at e; cases e)
    have ne : a ≠ p := fun z => by
      rcases hor with hor | hor
      · exact nD (by rw [← z]; exact hor)
      · rw [z, e1] at e
        cases e
        exact hor
    rw [upd_ne ne]
    exact e⟩
end
end DL

set_option Elab.async false
set_option linter.all false
set_option maxRecDepth 100000
set_option maxHeartbeats 4000000
namespace DL
open PySem PySem.Spec L2

/-! ### the tape of the draws: a dict of four, one of its lists shrinks -/
structure TN where
  kl : Str
  kr : Str
  kc : Str
  kt : Str
structure TN.Ok (n : TN) : Prop where
  lr : n.kl ≠ n.kr
  lc : n.kl ≠ n.kc
  lt : n.kl ≠ n.kt
  rc : n.kr ≠ n.kc
  rt : n.kr ≠ n.kt
  ct : n.kc ≠ n.kt
structure TapeD (n : TN) (kvs : List (Key × V)) (L Cc : Addr) : Prop where
  len : kvs.length = 4
  l : valV kvs (.inr n.kl) = some (.ref L)
  c : valV kvs (.inr n.kc) = some (.ref Cc)
  r : ∃ m : Int, 0 ≤ m ∧ valV kvs (.inr n.kr) = some (.int m)
  t : ∃ m : Int, 0 ≤ m ∧ valV kvs (.inr n.kt) = some (.int m)
/-- nonneg -/
def Nn (l : List Int) : Prop := ∀ x ∈ l, 0 ≤ x
structure TapeOk (T : List (Addr × Str)) (n : TN) (d L Cc : Addr) (F H : Hp) : Prop where
  fd : F d = none
  fL : F L = none
  ne : d ≠ L
  cells : ∃ cl : List Int, Nn cl ∧ F Cc = some (.lst (cl.map V.int))
  dict : ∃ kvs, H d = some (.dK kvs) ∧ TapeD n kvs L Cc
  large : ∃ lg : List Int, Nn lg ∧ H L = some (.lst (lg.map V.int))
  tabs : LamX.Tabs T H
  nt : ∀ a o, F a = some o → NT o
theorem tabs_fix {T : List (Addr × Str)} {H H' : Hp} (h : LamX.Tabs T H) (k : ∀ a o, H a = some o → Fix o → H' a = some o) : LamX.Tabs T H' := fun p hp => by
  obtain ⟨ps, h1, h2, h3⟩ := h p hp
  refine ⟨ps, k _ _ h1 trivial, h2, fun pos cv hc => ?_⟩
  obtain ⟨c, e1, e2⟩ := h3 pos cv hc
  exact ⟨c, e1, k _ _ e2 trivial⟩
def tkOf (T : List (Addr × Str)) (n : TN) (d L Cc : Addr) : Tk where
  ad := [d, L]
  ok := TapeOk T n d L Cc
  v := some (.ref d)
  fr := fun F H h a ha => by
    obtain ⟨kvs, e1, _⟩ := h.dict
    obtain ⟨lg, _, e2⟩ := h.large
    rcases List.mem_cons.mp ha with rfl | ha
    · exact ⟨h.fd, by rw [e1]; simp⟩
    · rcases List.mem_cons.mp ha with rfl | ha
      · exact ⟨h.fL, by rw [e2]; simp⟩
      · cases ha
  st := fun F H F' H' h sF sH nF nt => by
    obtain ⟨kvs, e1, t1⟩ := h.dict
    obtain ⟨lg, l1, e2⟩ := h.large
    obtain ⟨cl, c1, c2⟩ := h.cells
    refine ⟨nF d (by simp), nF L (by simp), h.ne, ⟨cl, c1, sF _ _ c2⟩, ⟨kvs, sH _ _ e1 (.inl (by simp)), t1⟩, ⟨lg, l1, sH _ _ e2 (.inl (by simp))⟩, tabs_fix h.tabs fun a o e f => sH a o e (.inr f), fun a o e => ?_⟩
    cases q : F a with
    | none => exact nt a o e q
    | some u =>
      have z := sF _ _ q
      rw [e] at z
      cases z
      exact h.nt a o q
/-- the tokens that are let: such tapes, this n, these tables -/
def IsTape (g : Gv) (T : List (Addr × Str)) (n : TN) : Prop := ∀ tk, g.T tk → ∃ d L Cc, tk = tkOf T n d L Cc
theorem lamT_of {g : Gv} {T : List (Addr × Str)} {n : TN} (h : IsTape g T n) : LamT g T := ⟨fun tk F H hT ok => by
  obtain ⟨d, L, Cc, rfl⟩ := h tk hT
  have ok' : TapeOk T n d L Cc F H := ok
  refine ⟨ok'.tabs, ok'.nt, fun H1 eN T1 => ?_⟩
  obtain ⟨kvs, e1, t1⟩ := ok'.dict
  obtain ⟨lg, l1, e2⟩ := ok'.large
  have r : TapeOk T n d L Cc F H1 := ⟨ok'.fd, ok'.fL, ok'.ne, ok'.cells, ⟨kvs, eN _ _ e1 fun ps z => (nomatch z), t1⟩, ⟨lg, l1, eN _ _ e2 fun ps z => (nomatch z)⟩, T1, ok'.nt⟩
  exact r⟩
/-- what the token guards changes -/
theorem Step.tape {tk : Tk} {F H : Hp} {d : Addr} {o : HO} (hd : d ∈ tk.ad) (nt : NT o) : Step tk F H F (upd H d o) := by
  refine ⟨Same.refl _, fun a u e n => by (rw [n] at e; cases e), fun a u e n _ => ?_, fun a u e n => ?_⟩
  · have ne : a ≠ d := fun z => n (by rw [z]; exact hd)
    rw [upd_ne ne]
    exact e
  · by_cases h : a = d
    · rw [h, upd_same]
      exact ⟨o, rfl, nt⟩
    · rw [upd_ne h]
      exact ⟨u, e, n⟩
theorem same_tape {F H : Hp} {d : Addr} {o : HO} (sub : Same F H) (hF : F d = none) : Same F (upd H d o) := fun a u e => by
  rw [upd_ne (ne_of_none e hF)]
  exact sub a u e
theorem tabs_upd {T : List (Addr × Str)} {H : Hp} {d : Addr} {o u : HO} (h : LamX.Tabs T H) (e : H d = some u) (nf : ¬ Fix u) : LamX.Tabs T (upd H d o) := tabs_fix h fun a v q f => by
  have ne : a ≠ d := fun z => by
    rw [z, e] at q
    cases q
    exact nf f
  rw [upd_ne ne]
  exact q
theorem valV_put {kvs : List (Key × V)} {k k' : Key} {v w : V} (h : valV kvs k = some w) : valV (putK kvs k v) k' = if k' = k then some v else valV kvs k' := by
  have key : ∀ l : List (Key × V), valV l k = some w → (l.any fun kv => decide (kv.1 = k)) = true := fun l => by
    induction l with
    | nil => intro z; cases z
    | cons p r ih =>
      intro z
      by_cases e : p.1 = k
      · simp [e]
      · rw [valV_neg e] at z
        simp [e, ih z]
  have maps : ∀ l : List (Key × V), valV (l.map (fun kv => if kv.1 = k then (kv.1, v) else kv)) k' = if k' = k then (if (l.any fun kv => decide (kv.1 = k)) = true then some v else none) else valV l k' := fun l => by
    induction l with
    | nil => by_cases e : k' = k <;> simp [e, valV]
    | cons p r ih =>
      rw [List.map_cons]
      by_cases e : p.1 = k
      · rw [if_pos e]
        by_cases e2 : k' = k
        · rw [valV_pos (by rw [e2]; exact e), if_pos e2]
          simp [e]
        · have a1 : valV ((p.1, v) :: r.map (fun kv => if kv.1 = k then (kv.1, v) else kv)) k' = valV (r.map (fun kv => if kv.1 = k then (kv.1, v) else kv)) k' := valV_neg fun z => e2 (z.symm.trans e)
          have a2 : valV (p :: r) k' = valV r k' := valV_neg fun z => e2 (z.symm.trans e)
          rw [a1, a2, ih, if_neg e2, if_neg e2]
      · rw [if_neg e]
        by_cases e2 : k' = k
        · have a1 : valV (p :: r.map (fun kv => if kv.1 = k then (kv.1, v) else kv)) k' = valV (r.map (fun kv => if kv.1 = k then (kv.1, v) else kv)) k' := valV_neg fun z => e (z.trans e2)
          rw [a1, ih, if_pos e2, if_pos e2, List.any_cons, decide_eq_false e, Bool.false_or]
        · by_cases e3 : p.1 = k'
          · rw [valV_pos e3, valV_pos e3, if_neg e2]
          · have a1 : valV (p :: r.map (fun kv => if kv.1 = k then (kv.1, v) else kv)) k' = valV (r.map (fun kv => if kv.1 = k then (kv.1, v) else kv)) k' := valV_neg e3
            have a2 : valV (p :: r) k' = valV r k' := valV_neg e3
            rw [a1, a2, ih, if_neg e2, if_neg e2]
  unfold putK
  rw [if_pos (key kvs h), maps kvs, key kvs h, if_pos rfl]
theorem len_put {kvs : List (Key × V)} {k : Key} {v w : V} (h : valV kvs k = some w) : (putK kvs k v).length = kvs.length := by
  have key : ∀ l : List (Key × V), valV l k = some w → (l.any fun kv => decide (kv.1 = k)) = true := fun l => by
    induction l with
    | nil => intro z; cases z
    | cons p r ih =>
      intro z
      by_cases e : p.1 = k
      · simp [e]
      · rw [valV_neg e] at z
        simp [e, ih z]
  unfold putK
  rw [if_pos (key kvs h), List.length_map]

section
variable {g : Gv} {X : Cx} {T : List (Addr × Str)} {n : TN} {i : Nat} {x k : Str} {j j2 : Nat} {p1 p2 p3 pos : Pos}
/-- tape['rest'], tape['turn'] -/
def dTkInt (i : Nat) : DE := fun α Q _ => α[i]? = some (some .tk) ∧ ∀ m : Int, 0 ≤ m → Q (.fr (.int m))
theorem Ab.tape {K : PySem.W.Frag} {Fe He F H : Hp} {α : AE} {σ : L2.St} {tk : Tk} (hT : IsTape g T n) (hk : g.T tk) (A : Ab K g tk Fe He F H α σ) (h : α[i]? = some (some .tk)) : ∃ d L Cc, tk = tkOf T n d L Cc ∧ σ[i]? = some (some (.ref d)) ∧ TapeOk T n d L Cc F H := by
  obtain ⟨d, L, Cc, rfl⟩ := hT tk hk
  obtain ⟨v, e1, e2, _⟩ := A.val i _ h
  have e3 : some (V.ref d) = some v := e2
  cases e3
  exact ⟨d, L, Cc, rfl, e1, A.ok⟩
theorem qe_tkInt (hT : IsTape g T n) (hu : X.A.units + 1 < cLine) (hk : k = n.kr ∨ k = n.kt) (hN : X.N[i]? = some x) (hv : Vis X.env.scope x) (hd : (x == ("__debug__" : Str)) = false := by decide) (hcd : (x == ("__classdict__" : Str)) = false := by decide) (hs : NoSl (.Constant (.str k) j p2) := by exact fun _ _ => rfl) :
    QE g X (.Subscript (.Name x p1) (.Constant (.str k) j p2) pos) (dTkInt i) := ⟨fun tk Fe He E hTk hx => (pe_dget hu (pe_var hN hv hd hcd) pe_str hs).dimp fun σ H Q' h => by
  obtain ⟨F, α, Q, A, ⟨q1, q2⟩, kk⟩ := h
  obtain ⟨d, L, Cc, rfl, e1, ok⟩ := A.tape hT hTk q1
  obtain ⟨kvs, d1, td⟩ := ok.dict
  have hm : ∃ m : Int, 0 ≤ m ∧ valV kvs (.inr k) = some (.int m) := by
    rcases hk with rfl | rfl
    · exact td.r
    · exact td.t
  obtain ⟨m, m1, m2⟩ := hm
  refine ⟨.ref d, e1, d, .int m, rfl, ?_, kk _ H (VO.int A.sub A.ok (q2 m m1))⟩
  have z := DGet.k (k := .inr k) d1
  rw [m2] at z
  exact z⟩
/-- tape['rest'] = e -/
def dTkSet (i : Nat) (te : DE) : DS := fun De α E => α[i]? = some (some .tk) ∧ te α (fun r => ∃ m : Int, 0 ≤ m ∧ r.view = .int m ∧ De.nx α) E
theorem tape_put {d L Cc : Addr} {F H : Hp} {m : Int} {kvs : List (Key × V)} (no : n.Ok) (ok : TapeOk T n d L Cc F H) (hk : k = n.kr ∨ k = n.kt) (hm : 0 ≤ m) (e : H d = some (.dK kvs)) (td : TapeD n kvs L Cc) : TapeOk T n d L Cc F (upd H d (.dK (putK kvs (.inr k) (.int m)))) := by
  have had : ∃ w, valV kvs (.inr k) = some w := by
    rcases hk with rfl | rfl
    · obtain ⟨r, _, h⟩ := td.r
      exact ⟨_, h⟩
    · obtain ⟨r, _, h⟩ := td.t
      exact ⟨_, h⟩
  obtain ⟨w, hw⟩ := had
  have ne1 : n.kl ≠ k := by rcases hk with rfl | rfl; exact no.lr; exact no.lt
  have ne2 : n.kc ≠ k := by
    rcases hk with rfl | rfl
    · exact fun z => no.rc z.symm
    · exact no.ct
  have oth : ∀ (k' : Str) (v : V), k' ≠ k → valV kvs (.inr k') = some v → valV (putK kvs (.inr k) (.int m)) (.inr k') = some v := fun k' v hne hv => by
    rw [valV_put hw, if_neg (fun z => hne (Sum.inr.inj z))]
    exact hv
  have atk : valV (putK kvs (.inr k) (.int m)) (.inr k) = some (.int m) := by rw [valV_put hw, if_pos rfl]
  have td' : TapeD n (putK kvs (.inr k) (.int m)) L Cc := by
    refine ⟨by rw [len_put hw]; exact td.len, oth _ _ ne1 td.l, oth _ _ ne2 td.c, ?_, ?_⟩
    · obtain ⟨r, r1, r2⟩ := td.r
      by_cases z : n.kr = k
      · exact ⟨m, hm, by rw [z]; exact atk⟩
      · exact ⟨r, r1, oth _ _ z r2⟩
    · obtain ⟨r, r1, r2⟩ := td.t
      by_cases z : n.kt = k
      · exact ⟨m, hm, by rw [z]; exact atk⟩
      · exact ⟨r, r1, oth _ _ z r2⟩
  obtain ⟨lg, l1, l2⟩ := ok.large
  exact ⟨ok.fd, ok.fL, ok.ne, ok.cells, ⟨_, upd_same, td'⟩, ⟨lg, l1, by rw [upd_ne ok.ne.symm]; exact l2⟩, tabs_upd ok.tabs e fun z => z, ok.nt⟩
theorem qs_tkSet {e : Expr} {te : DE} (hT : IsTape g T n) (no : n.Ok) (hu : X.A.units + 1 < cLine) (hk : k = n.kr ∨ k = n.kt) (hN : X.N[i]? = some x) (hv : Vis X.env.scope x) (he : QE g X e te) (hd : (x == ("__debug__" : Str)) = false := by decide) (hcd : (x == ("__classdict__" : Str)) = false := by decide)
    (ha : ∀ v, assign (.Subscript (.Name x p1) (.Constant (.str k) j p2) p3) X.env v = (do
      let ov ← holding [v] (eval (.Name x p1) X.env)
      let iv ← holding [v, ov] (eval (.Constant (.str k) j p2) X.env)
      standAt p3
      holding [v, ov, iv] (setItem ov iv v)
      release [v, ov, iv] []) := by intro _; rfl)
    (hs : swapsWithSole [.Subscript (.Name x p1) (.Constant (.str k) j p2) p3] e pos.line X.env = pure false := by rfl) (hw : swappedStores [.Subscript (.Name x p1) (.Constant (.str k) j p2) p3] e X.env = pure none := by rfl)
    (h1 : (assignEach [.Subscript (.Name x p1) (.Constant (.str k) j p2) p3] X.env).map (·.2) = [assign (.Subscript (.Name x p1) (.Constant (.str k) j p2) p3) X.env] := by rfl) :
    QS g X (.Assign [.Subscript (.Name x p1) (.Constant (.str k) j p2) p3] e pos) (dTkSet i te) := ⟨fun tk Fe He E hTk hx => (ps_asg (he.pe tk Fe He E hTk hx) (pg_sub (pe_var hN hv hd hcd) pe_str (set_dict hu) ha) hs hw h1).dimp fun D' σ H h => by
  obtain ⟨F, α, D, A, ⟨q0, q⟩, kk⟩ := h
  refine ⟨F, α, _, A, q, fun v H1 h1 => ?_⟩
  obtain ⟨F1, r, st1, sub1, ok1, rep1, _, m, m0, em, q1⟩ := h1
  have ev := RepS.int rep1 em
  subst ev
  have A1 := A.step st1 sub1 ok1
  obtain ⟨d, L, Cc, rfl, e1, ok⟩ := A1.tape hT hTk q0
  obtain ⟨kvs, d1, td⟩ := ok.dict
  refine ⟨.ref d, e1, d, _, rfl, DPut.k (k := .inr k) d1 (by rw [td.len, sizeLine_eq]; omega), ?_⟩
  have ok2 := tape_put (k := k) no ok hk m0 d1 td
  exact kk.nx _ _ ⟨F1, α, A1.step (Step.tape (by simp [tkOf]) fun ps z => nomatch z) (same_tape sub1 ok.fd) ok2, q1⟩⟩
/-- for x in tape['cells'] -/
def dTkCells (i : Nat) : DI := fun α Q _ => α[i]? = some (some .tk) ∧ ∀ ns : List Int, Nn ns → Q (ns.map D.int)
theorem qi_tkCells {tg : Expr} (hT : IsTape g T n) (hu : X.A.units + 1 < cLine) (hk : k = n.kc) (hN : X.N[i]? = some x) (hv : Vis X.env.scope x) (hd : (x == ("__debug__" : Str)) = false := by decide) (hcd : (x == ("__classdict__" : Str)) = false := by decide) (hs : NoSl (.Constant (.str k) j p2) := by exact fun _ _ => rfl) :
    QI g X tg (.Subscript (.Name x p1) (.Constant (.str k) j p2) pos) (dTkCells i) := ⟨fun tk Fe He E hTk hx => (pi_list (pe_dget hu (pe_var hN hv hd hcd) pe_str hs)).dimp fun σ H R h => by
  obtain ⟨F, α, Q, A, ⟨q1, q2⟩, kk⟩ := h
  obtain ⟨d, L, Cc, rfl, e1, ok⟩ := A.tape hT hTk q1
  obtain ⟨kvs, d1, td⟩ := ok.dict
  obtain ⟨cl, c1, c2⟩ := ok.cells
  refine ⟨.ref d, e1, d, .ref Cc, rfl, ?_, Cc, rfl, ⟨_, SqL.of (A.sub _ _ c2)⟩, kk _ F H _ (Step.refl _ _ _) A.sub A.ok (q2 cl c1) (walks_list c2 (Reps.of_ints cl))⟩
  have z := DGet.k (k := .inr k) d1
  rw [hk, td.c] at z
  rw [hk]
  exact z⟩
end

/-! lists of ints, compared -/
theorem canLay_ints : ∀ ns : List Int, PyData.canLayAll0 (ns.map PyData.int) = true
  | [] => by unfold PyData.canLayAll0; rfl
  | n :: ns => by
    rw [List.map_cons]
    unfold PyData.canLayAll0 PyData.canLay0
    rw [canLay_ints ns]
    rfl
theorem depth_ints : ∀ ns : List Int, PyData.depthAll (ns.map PyData.int) = 0
  | [] => by unfold PyData.depthAll; rfl
  | n :: ns => by
    rw [List.map_cons]
    unfold PyData.depthAll PyData.depth
    rw [depth_ints ns]
    rfl
theorem shaped_ints (ns : List Int) : SeqAt.shaped (.list (ns.map PyData.int)) = true := by
  unfold SeqAt.shaped PyData.canLay0 PyData.depth
  rw [canLay_ints, depth_ints]
  rfl
theorem dp_ints {K : PySem.W.Frag} {H : Hp} : ∀ ns : List Int, DpAll K H (ns.map V.int) (ns.map PyData.int)
  | [] => .nil
  | n :: ns => .cons (.int n) (dp_ints ns)
section
variable {g : Gv} {X : Cx} {T : List (Addr × Str)} {n : TN} {i : Nat} {x : Str} {j j2 j3 : Nat} {p1 p2 p3 p4 p5 p6 p7 p8 p9 pa cp pos : Pos}
/-- tape['large'].pop(0) if tape['large'] != [] else e -/
def dTkPop (i : Nat) (te : DE) : DE := fun α Q E => α[i]? = some (some .tk) ∧ (∀ m : Int, 0 ≤ m → Q (.fr (.int m))) ∧ te α Q E
theorem qe_tkPop {e : Expr} {te : DE} (hT : IsTape g T n) (hu : X.A.units + 64 < cLine) (hN : X.N[i]? = some x) (hv : Vis X.env.scope x) (he : QE g X e te) (hd : (x == ("__debug__" : Str)) = false := by decide) (hcd : (x == ("__classdict__" : Str)) = false := by decide)
    (hs : NoSl (.Constant (.str n.kl) j p2) := by exact fun _ _ => rfl) (hs2 : NoSl (.Constant (.str n.kl) j2 p5) := by exact fun _ _ => rfl)
    (hbase : attributeBase (.Subscript (.Name x p4) (.Constant (.str n.kl) j2 p5) p6) "pop" X.env (eval (.Subscript (.Name x p4) (.Constant (.str n.kl) j2 p5) p6) X.env) = eval (.Subscript (.Name x p4) (.Constant (.str n.kl) j2 p5) p6) X.env := by rfl) (hline : (pa.endLine == cp.line) = true := by rfl) :
    QE g X (.IfExp (.Compare (.Subscript (.Name x p1) (.Constant (.str n.kl) j p2) p3) [.NotEq] [.List [] p7] p8) (.Call (.Attribute (.Subscript (.Name x p4) (.Constant (.str n.kl) j2 p5) p6) "pop" pa) [.Constant (.int 0) j3 p9] [] cp) e pos) (dTkPop i te) := ⟨fun tk Fe He E hTk hx =>
  (pe_ifExp (pt_cmpR (op_neD hu) (pe_dget (by omega) (pe_var hN hv hd hcd) pe_str hs) (pe_lst pa_nil) (by rfl))
    (pe_bm PySem.F.plainAttrs_list PySem.F.slot_list_pop PySem.F.type_list_pop mt_popAt (pe_dget (by omega) (pe_var hN hv hd hcd) pe_str hs2) (pa_cons pe_int pa_nil) hbase (by rfl) hline) (he.pe tk Fe He E hTk hx)).dimp fun σ H Q' h => by
  obtain ⟨F, α, Q, A, ⟨q1, q2, q3⟩, kk⟩ := h
  obtain ⟨d, L, Cc, rfl, e1, ok⟩ := A.tape hT hTk q1
  obtain ⟨kvs, d1, td⟩ := ok.dict
  obtain ⟨lg, l1, l2⟩ := ok.large
  have dg : ∀ H1, H1 d = some (.dK kvs) → DGet H1 d (.str n.kl) (some (.ref L)) := fun H1 e => by
    have z := DGet.k (k := .inr n.kl) e
    rw [td.l] at z
    exact z
  refine ⟨.ref d, e1, d, .ref L, rfl, dg H d1, by rw [sizeLine_eq]; simp, fun p hp => ?_⟩
  have neL : L ≠ p := ne_of_none l2 hp
  have neD : d ≠ p := ne_of_none d1 hp
  have hL : upd H p (.lst []) L = some (.lst (lg.map V.int)) := by rw [upd_ne neL]; exact l2
  have hD : upd H p (.lst []) d = some (.dK kvs) := by rw [upd_ne neD]; exact d1
  have st0 : Step (tkOf T n d L Cc) F H F (upd H p (.lst [])) := Step.own hp
  have hF : F p = none := A.sub.free hp
  have sub0 : Same F (upd H p (.lst [])) := same_tape A.sub hF
  have ok0 : (tkOf T n d L Cc).ok F (upd H p (.lst [])) := Tk.own A.ok hp _
  refine ⟨.list (lg.map PyData.int), .list ([].map PyData.int), .lst (SqL.of hL) (dp_ints lg), .lst (SqL.of upd_same) .nil, shaped_ints lg, shaped_ints [], _, rfl, ?_⟩
  cases lg with
  | nil => exact ⟨F, α, Q, A.step st0 sub0 ok0, q3, fun v H' h => kk v H' (h.at st0)⟩
  | cons m lg =>
    refine ⟨.ref d, e1, d, .ref L, rfl, dg _ hD, .inl ⟨rfl, _, SqL.of hL⟩, ?_⟩
    refine ⟨L, _, 0, 0, .int m, rfl, rfl, hL, by omega, by omega, seqIndex_of (Int.le_refl _) (by simp), rfl, kk _ _ ?_⟩
    have ok' : TapeOk T n d L Cc F (upd H p (.lst [])) := ok0
    have ok1 : TapeOk T n d L Cc F (upd (upd H p (.lst [])) L (.lst (lg.map V.int))) := ⟨ok.fd, ok.fL, ok.ne, ok.cells, ⟨kvs, by rw [upd_ne ok.ne]; exact hD, td⟩, ⟨lg, fun y hy => l1 y (List.mem_cons_of_mem _ hy), upd_same⟩, tabs_upd ok'.tabs hL fun z => z, ok.nt⟩
    have st1 : Step (tkOf T n d L Cc) F (upd H p (.lst [])) F (upd (upd H p (.lst [])) L (.lst (lg.map V.int))) := Step.tape (by simp [tkOf]) fun ps z => nomatch z
    exact (VO.int (same_tape sub0 ok.fL) ok1 (q2 m (l1 m List.mem_cons_self))).at (st0.trans st1)⟩
end
end DL

set_option Elab.async false
set_option linter.all false
set_option maxRecDepth 100000
set_option maxHeartbeats 4000000
namespace DL
open PySem PySem.Spec L2

/-! ### what the printed derivations lean on -/
def visB (sc : Scope) (x : Str) : Bool := match sc.names.lookup x with
  | some .local => true
  | some .cell => true
  | some .free => true
  | _ => false
theorem vis_of {sc : Scope} {x : Str} (h : visB sc x = true) : Vis sc x := by
  unfold visB at h
  split at h
  · rename_i e
    exact .inl e
  · rename_i e
    exact .inr (.inl e)
  · rename_i e
    exact .inr (.inr e)
  · cases h
def locB (sc : Scope) (x : Str) : Bool := match sc.names.lookup x with
  | some .local => true
  | some .cell => true
  | _ => false
theorem loc_of {sc : Scope} {x : Str} (h : locB sc x = true) : Loc sc x := by
  unfold locB at h
  split at h
  · rename_i e
    exact .inl e
  · rename_i e
    exact .inr e
  · cases h
theorem u64 {k : Nat} {A : Around} (hr : Room k A) : A.units + 64 < cLine := by
  have := hr.un
  omega
theorem u65 {k : Nat} {A : Around} (hr : Room k A) : A.units + 65 < cLine := by
  have := hr.un
  omega
theorem u1 {k : Nat} {A : Around} (hr : Room k A) : A.units + 1 < cLine := by
  have := hr.un
  omega
section
variable {g : Gv} {X : Cx} {e : Expr} {te : DE} {pos : Pos}
/-- x = e, and what is new stands still from now on -/
def dFz (te : DE) : DE := fun α Q E => te α (fun r => Q r.fz) E
theorem qe_fz (h : QE g X e te) : QE g X e (dFz te) := ⟨fun tk Fe He E hT hx => (h.pe tk Fe He E hT hx).dimp fun σ H Q' h => by
  obtain ⟨F, α, Q, A, q, k⟩ := h
  refine ⟨F, α, _, A, q, fun v H1 h1 => ?_⟩
  obtain ⟨F1, r, st1, sub1, ok1, rep1, q1⟩ := h1.fz
  refine k v H1 ⟨F1, r.fz, st1, sub1, ok1, rep1, fun d p z => ?_, q1⟩
  cases r with
  | nw d => cases z
  | fr d => cases z
  | bw d => cases z
  | tk => cases z⟩
/-- a slot that holds a new thing: it stands still from here on -/
def dFzS (i : Nat) (u : DS) : DS := fun De α E => u De (match α[i]? with
  | some (some (.nw d)) => α.set i (some (.fr d))
  | _ => α) E
theorem qss_fzS {sts : List Stmt} {i : Nat} {u : DS} (h : QSs g X sts u) : QSs g X sts (dFzS i u) := ⟨fun tk Fe He E hT hx => (h.ps tk Fe He E hT hx).dimp fun D' σ H h => by
  obtain ⟨F, α, D, A, q, k⟩ := h
  unfold dFzS at q
  split at q
  · rename_i d e
    obtain ⟨F', A'⟩ := A.freeze e
    exact ⟨F', _, D, A', q, k⟩
  · exact ⟨F, α, D, A, q, k⟩⟩
/-! calls by keywords alone -/
structure KFn (P : Program) (w : World) (K : PySem.W.Frag) (mg : Str → Option Value) (base : Heap) (g : Gv) (k : Nat) (x : Str) (ps ks : List Str) (ix : List Nat) (Φ : DF) : Prop where
  ex : ∃ (f : Addr) (fd : FuncData), FnOk P w K mg base (CX P w) k f fd ps (spD K g ps.length Φ) ∧ mg x = some (.ref f) ∧ PySem.W.keepIn K (.ref f) = true ∧
    ∀ (s : Shared) (ws : List Value), K.In s.heap → ws.length = ks.length → BindsTo s fd ⟨[], ks.zip ws⟩ (ps.zip (ix.map fun i => ws.getD i .none))
def perm {α : Type} [Inhabited α] (ix : List Nat) (xs : List α) : List α := ix.map fun i => xs.getD i default
instance : Inhabited S := ⟨.tk⟩
def dCallK (n m : Nat) (ix : List Nat) (Φ : DF) (u : DA) : DE := fun α Q E => u α (fun ss => ss.length = m ∧ ix.length = n ∧ (∀ i ∈ ix, i < m) ∧ (perm ix ss).all S.arg = true ∧ Φ (perm ix ss) Q E) E
theorem reps_perm {K : PySem.W.Frag} {tk : Tk} {F H : Hp} {ss : List S} {vs : List V} (r : RepSs K g tk F H ss vs) : ∀ {ix : List Nat}, (∀ i ∈ ix, i < ss.length) → RepSs K g tk F H (perm ix ss) (ix.map fun i => vs.getD i .non)
  | [], _ => rfl
  | i :: ix, h => by
    have hi := h i List.mem_cons_self
    obtain ⟨v, e1, e2⟩ := r.get (i := i) (s := ss[i]) (List.getElem?_eq_getElem hi)
    refine ⟨vs.getD i .non, ix.map fun i => vs.getD i .non, rfl, ?_, reps_perm r fun j hj => h j (List.mem_cons_of_mem _ hj)⟩
    have a1 : vs.getD i .non = v := by rw [List.getD_eq_getElem?_getD, e1]; rfl
    have a2 : ss.getD i default = ss[i] := by rw [List.getD_eq_getElem?_getD, List.getElem?_eq_getElem hi]; rfl
    rw [a1]
    show RepS K g tk F H (ss.getD i default) v
    rw [a2]
    exact e2
theorem vals_perm {vs : List V} {us : List Value} (r : Vals vs us) : ∀ {ix : List Nat}, (∀ i ∈ ix, i < vs.length) → Vals (ix.map fun i => vs.getD i .non) (ix.map fun i => us.getD i .none)
  | [], _ => .nil
  | i :: ix, h => by
    have hi := h i List.mem_cons_self
    obtain ⟨u, e1, e2⟩ := r.get (i := i) (x := vs[i]) (List.getElem?_eq_getElem hi)
    have a1 : vs.getD i .non = vs[i] := by rw [List.getD_eq_getElem?_getD, List.getElem?_eq_getElem hi]; rfl
    have a2 : us.getD i .none = u := by rw [List.getD_eq_getElem?_getD, e1]; rfl
    refine .cons ?_ (vals_perm r fun j hj => h j (List.mem_cons_of_mem _ hj))
    show RelV (vs.getD i .non) (us.getD i .none)
    rw [a1, a2]
    exact e2
structure QK (g : Gv) (X : Cx) (kws : List Keyword) (u : DA) : Prop where
  pk : ∀ (tk : Tk) (Fe He : Hp) (E : XD → Prop), g.T tk → Takes X (WD X.K g tk Fe He E) → PK X kws (LA X.K g tk Fe He E u)
theorem _root_.L2.PK.dimp {X : Cx} {es : List Keyword} {t t' : TA} (h : PK X es t) (k : ∀ σ H Q, t' σ H Q → t σ H Q) : PK X es t' := ⟨fun pos pins s σ H Q I q => h.run pos pins s σ H Q I (k σ H Q q)⟩
theorem qk_nil : QK g X [] dNil := ⟨fun tk Fe He E hT hx => pk_nil.dimp fun σ H Q' h => by
  obtain ⟨F, α, Q, A, q, k⟩ := h
  exact k [] H F [] (Step.refl _ _ _) A.sub A.ok rfl q⟩
theorem qk_cons {nm : Option Str} {kpos : Pos} {kws : List Keyword} {u : DA} (ha : QE g X e te) (hr : QK g X kws u) : QK g X (⟨nm, e, kpos⟩ :: kws) (dCons te u) :=
  ⟨fun tk Fe He E hT hx => (pk_cons (ha.pe tk Fe He E hT hx) (hr.pk tk Fe He E hT hx)).dimp fun σ H Q' h => by
    obtain ⟨F, α, Q, A, q, k⟩ := h
    refine ⟨F, α, _, A, q, fun v H1 h1 => ?_⟩
    obtain ⟨F1, r, st1, sub1, ok1, rep1, q1⟩ := h1.fz
    refine ⟨F1, α, _, A.step st1 sub1 ok1, q1, fun vs H2 F2 ss st2 sub2 ok2 reps q2 => ?_⟩
    exact k (v :: vs) H2 F2 (r.fz :: ss) (st1.trans st2) sub2 ok2 ⟨v, vs, rfl, rep1.step st2, reps⟩ q2⟩
theorem qe_callK {k : Nat} {x : Str} {ps ks : List Str} {ix : List Nat} {Φ : DF} {kws : List Keyword} {u : DA} {p : Pos} (F : KFn X.prog X.w X.K X.mg X.base g k x ps ks ix Φ) (hr : Room k X.A) (hg : Gl X x) (hkw : QK g X kws u)
    (hall : (backToKw pos (keywordEach kws X.env)).all (·.1.isSome) = true := by rfl) (hks : (backToKw pos (keywordEach kws X.env)).filterMap (·.1) = ks := by rfl) (hdb : (x == ("__debug__" : Str)) = false := by decide)
    (hpl : ((backTo pos (starEach [] X.env)).any (·.1) || (backToKw pos (keywordEach kws X.env)).any (·.1.isNone)) = false := by rfl) : QE g X (.Call (.Name x p) [] kws pos) (dCallK ps.length ks.length ix Φ u) := ⟨fun tk Fe He E hT hx => by
  obtain ⟨f, fd, F1, hm, hk, hb⟩ := F.ex
  refine ⟨fun pins s σ H Q' I h => ?_⟩
  obtain ⟨F, α, Q, A, q, kk⟩ := h
  refine wpAny_Call_Name_kw (ld_glob I hg hm ?_ hdb)
  refine PySem.W.callWith_KW0 (h₀ := X.base) I.ok.mod.kin hk hall ?_ hpl
  refine thn ((hkw.pk tk Fe He E hT hx).run pos pins s σ H (fun vs H1 => ∃ F1 ss, Step tk F H F1 H1 ∧ Same F1 H1 ∧ tk.ok F1 H1 ∧ RepSs X.K g tk F1 H1 ss vs ∧ ss.length = ks.length ∧ ix.length = ps.length ∧ (∀ i ∈ ix, i < ks.length) ∧ (perm ix ss).all S.arg = true ∧ Φ (perm ix ss) Q E) I ⟨F, α, _, A, q, fun vs H1 F1 ss st1 sub1 ok1 reps q1 => ⟨F1, ss, st1, sub1, ok1, reps, q1⟩⟩) fun ws s2 ⟨zs, H2, I2, rz, F1', ss, st1, sub1, ok1, reps, l1, l2, l3, ha, q2⟩ => ⟨I2.kIn, ?_⟩
  rw [hks]
  have hz : zs.length = ks.length := reps.length.trans l1
  have hw : ws.length = ks.length := rz.length.symm.trans hz
  have rv := vals_perm rz (ix := ix) fun i hi => by rw [hz]; exact l3 i hi
  have rp := reps_perm (g := g) reps (ix := ix) fun i hi => by rw [l1]; exact l3 i hi
  have hsp : spD X.K g ps.length Φ (ix.map fun i => zs.getD i .non) H2 Q' (XO X.K g tk Fe He E) := spD_call hT A st1 sub1 ok1 rp (by unfold perm; rw [List.length_map]; exact l2) ha q2 kk
  refine wpAny_call (codeAny_mono (F1.run X.A X.stack s2 H2 ⟨[], ks.zip ws⟩ (ix.map fun i => ws.getD i .none) _ Q' _ hr I2.env0 (hb s2 ws I2.kIn hw) rv hsp) fun r s' hq => ?_)
  cases r with
  | error e => exact passes_call (E := XO X.K g tk Fe He E) hx (fun _ _ _ _ z => z) pins σ H2 s2 e s' I2 hq
  | ok fl =>
    cases fl with
    | ret u => exact I2.after hq
    | next => exact False.elim hq
    | brk => exact False.elim hq
    | cont => exact False.elim hq⟩
end
end DL

set_option Elab.async false
set_option linter.all false
set_option maxRecDepth 100000
set_option maxHeartbeats 4000000
namespace DL
open PySem PySem.Spec L2

/-! ### defs with lambdas; calls by keywords; the tape's beginning; the law -/
section
variable {P : Program} {w : World} {K : PySem.W.Frag} {mg : Str → Option Value} {base : Heap} {g : Gv} {x qual : Str} {params : Arguments} {body : List Stmt} {scope : Scope} {dvs : List V} {kws : List (Str × V)} {f : Addr} {fd : FuncData} {N ps : List Str} {k : Nat} {t : DS}
theorem qe_intG {X : Cx} {x : Str} {i : Int} {pos : Pos} (h : ∃ t, X.mg x = some (.int i t)) (hg : Gl X x) (hd : (x == ("__debug__" : Str)) = false := by decide) : QE g X (.Name x pos) (dC (.int i)) := by
  obtain ⟨t, hm⟩ := h
  exact qe_glob (v := .int i) hg hm ⟨t, rfl⟩ (fun _ => Rep.int i) hd
theorem fn_okC {p : Str × Option Str} (F : FunD K x qual params body scope dvs kws (_root_.He.fAd K p) fd) (S : FnScope N ps scope)
    (hb : ∀ (cdv : Value), cdv = .ref (_root_.He.codeOf K p) → ∀ (A : Around) (outer : List Env) (s : Shared) (H : Hp) (E : XK), Room k (A.deeper (PyProof.Rows.envOfC qual scope s.heap.objs.size (_root_.He.fAd K p) cdv)) → QSs g (cxOf (CX P w) P w K mg base N qual scope (_root_.He.fAd K p) cdv A outer s H E) body t) :
    FnOk P w K mg base (CX P w) (k + 1) (_root_.He.fAd K p) fd ps (spD K g ps.length (phi N t)) := by
  obtain ⟨oc, od, dV, kV, doc, pm, an, cdv, ct, osl, rfl, lk, hcd, _, _⟩ := F.ex
  obtain ⟨c, ec⟩ := _root_.He.codeIn_ref hcd
  have e : cdv = .ref (_root_.He.codeOf K p) := by rw [_root_.He.codeOf_eq lk ec, ec]
  refine fn_of lk hcd S (fun vs H Q E h => ?_) (fun A outer s H vs Q' E' hr h => ?_)
  · obtain ⟨tk, Fz, ss, Q, E2, _, _, _, r, hl, _⟩ := h
    rw [r.length, hl]
  · obtain ⟨tk, Fz, ss, Q, E, hT, sub, ok, r, hl, ha, q, kQ, kE⟩ := h
    have hx : Takes (cxOf (CX P w) P w K mg base N qual scope (_root_.He.fAd K p) cdv A outer s H E') (WD K g tk Fz H E) := (takes_of rfl rfl rfl rfl).imp fun c d σ H' z => kE c d H' z
    refine ⟨_, (hb cdv e A outer s H E' hr).ps tk Fz H E hT hx, Fz, startA N ss, _, ab_start sub ok r ha, q, ⟨?_, fun v H' z => kQ v H' z, ?_, ?_⟩⟩
    · rintro σ H1 ⟨F1, α1, A1, q1⟩
      have z : VO K g tk F1 H1 Q .non H1 := VO.non A1.sub A1.ok q1
      exact kQ _ _ (z.at A1.st)
    · rintro σ H1 ⟨_, _, _, z⟩
      exact z
    · rintro σ H1 ⟨_, _, _, z⟩
      exact z
theorem bindsKw {ks : List Str} {ix : List Nat} (F : FunD K x qual params body scope [] kws f fd)
    (h : ∀ (kV doc pm : Value) (an : Option Addr) (cdv ct : Value) (ws : List Value), ws.length = ks.length → bindArgs (PySem.W.fnOf x qual params body scope .none kV doc pm an cdv ct) ⟨[], ks.zip ws⟩ = pure (ps.zip (ix.map fun i => ws.getD i .none))) :
    ∀ (s : Shared) (ws : List Value), K.In s.heap → ws.length = ks.length → BindsTo s fd ⟨[], ks.zip ws⟩ (ps.zip (ix.map fun i => ws.getD i .none)) := fun s ws _ hl => by
  obtain ⟨oc, od, dV, kV, doc, pm, an, cdv, ct, osl, rfl, lk, hcd, hD, hK⟩ := F.ex
  rcases hD with ⟨_, rfl⟩ | ⟨e, _⟩
  · exact .of_eq (h kV doc pm an cdv ct ws hl)
  · exact absurd rfl e
end

/-! the tape's beginning -/
def tk0 (T : List (Addr × Str)) : Tk where
  ad := []
  ok := fun F H => LamX.Tabs T H ∧ ∀ a o, F a = some o → NT o
  v := none
  fr := fun _ _ _ _ h => nomatch h
  st := fun F H F' H' h sF sH _ nt => ⟨tabs_fix h.1 fun a o e f => sH a o e (.inr f), fun a o e => by
    cases q : F a with
    | none => exact nt a o e q
    | some u =>
      have z := sF _ _ q
      rw [e] at z
      cases z
      exact h.2 a o q⟩
def g0 (T : List (Addr × Str)) : Gv := ⟨fun _ => 0, fun tk => tk = tk0 T⟩
/-- the values of the display: the large ones' list one's own as yet -/
def tapeSs (n : TN) (ks : List Key) (ss : List S) : Prop := ∃ lg cl : List Int, Nn lg ∧ Nn cl ∧
  ((ks = [.inr n.kl, .inr n.kr, .inr n.kc, .inr n.kt] ∧ ss = [.bw (.lst (lg.map D.int)), .fr (.int 0), .fr (.lst (cl.map D.int)), .fr (.int 0)]) ∨
   (ks = [.inr n.kl, .inr n.kc, .inr n.kr, .inr n.kt] ∧ ss = [.bw (.lst (lg.map D.int)), .fr (.lst (cl.map D.int)), .fr (.int 0), .fr (.int 0)]))
/-- the script stands still -/
def scrF (H : Hp) (a : Addr) : Hp := fun b => if b = a then (match H a with
  | some (.lst vs) => some (.lst vs)
  | some (.frz o u) => some (.frz o u)
  | _ => none) else none
theorem scrF_sub {H : Hp} {a : Addr} : Same (scrF H a) H := fun b o e => by
  unfold scrF at e
  split at e
  · rename_i h
    rw [h]
    split at e <;> first | (rename_i z; rw [z]; exact e) | cases e
  · cases e
theorem scrF_nt {H : Hp} {a : Addr} : ∀ b o, scrF H a b = some o → NT o := fun b o e ps z => by
  subst z
  unfold scrF at e
  split at e
  · split at e <;> cases e
  · cases e
theorem scrF_seq {K : PySem.W.Frag} {H : Hp} {a : Addr} {vs : List V} (h : SqL K H a vs) : SqL K (scrF H a) a vs := by
  rcases h with (h | ⟨o, h⟩) | h
  · refine .inl (.inl ?_)
    unfold scrF
    rw [if_pos rfl, h]
  · refine .inl (.inr ⟨o, ?_⟩)
    unfold scrF
    rw [if_pos rfl, h]
  · exact .inr h
/-- a new tape -/
def TapeNew (T : List (Addr × Str)) (n : TN) (H : Hp) (a : Addr) (H' : Hp) (d : Addr) : Prop := ∃ (L Cc : Addr) (F' : Hp), TapeOk T n d L Cc F' H' ∧ Same (scrF H a) F' ∧ Same F' H'
def spBegun (T : List (Addr × Str)) (K : PySem.W.Frag) (n : TN) : Sp := fun vs H Q _ => ∃ (a : Addr) (ns : List Int), vs = [.ref a] ∧ SqL K H a (ns.map V.int) ∧ ns.length ≤ 63 ∧ LamX.Tabs T H ∧ ∀ d H', TapeNew T n H a H' d → Q (.ref d) H'
section
variable {P : Program} {w : World} {K : PySem.W.Frag} {mg : Str → Option Value} {base : Heap} {x qual : Str} {params : Arguments} {scope : Scope} {dvs : List V} {kws : List (Str × V)} {f : Addr} {fd : FuncData} {N : List Str} {k : Nat}
theorem own_ints {g : Gv} {tk : Tk} {F H : Hp} {v : V} {lg : List Int} (h : RepS K g tk F H (.bw (.lst (lg.map D.int))) v) : ∃ p, v = .ref p ∧ F p = none ∧ H p = some (.lst (lg.map V.int)) := by
  obtain ⟨p, rfl, hF, _, vs, e, r⟩ := h
  rw [Reps.ints r] at e
  exact ⟨p, rfl, hF, e⟩
theorem rep_ints {g : Gv} {tk : Tk} {F H : Hp} {v : V} {lg : List Int} (h : RepS K g tk F H (.fr (.lst (lg.map D.int))) v) : ∃ p, v = .ref p ∧ F p = some (.lst (lg.map V.int)) := by
  obtain ⟨p, vs, rfl, e, r⟩ := Rep.lst_ (K := K) (g := g) (F := F) h
  rw [Reps.ints r] at e
  exact ⟨p, rfl, e⟩
theorem rep_int0 {g : Gv} {tk : Tk} {F H : Hp} {v : V} (h : RepS K g tk F H (.fr (.int 0)) v) : v = .int 0 := Rep.int_ (K := K) (g := g) (F := F) h
theorem tape_vals {g : Gv} {tk : Tk} {F H : Hp} {n : TN} {ks : List Key} {ss : List S} {vs : List V} (no : n.Ok) (h : tapeSs n ks ss) (r : RepSs K g tk F H ss vs) : ∃ L Cc lg cl, Nn lg ∧ Nn cl ∧ TapeD n (ks.zip vs) L Cc ∧ F L = none ∧ H L = some (.lst (lg.map V.int)) ∧ F Cc = some (.lst (cl.map V.int)) := by
  obtain ⟨lg, cl, h1, h2, h⟩ := h
  have key : ∀ a b : Str, a ≠ b → ¬ ((Sum.inr a : Key) = Sum.inr b) := fun a b e z => e (Sum.inr.inj z)
  rcases h with ⟨rfl, rfl⟩ | ⟨rfl, rfl⟩
  · obtain ⟨v1, r1, e1, q1, v2, r2, e2, q2, v3, r3, e3, q3, v4, r4, e4, q4, e5⟩ := r
    have e5' : r4 = [] := e5
    subst e5' e4 e3 e2 e1
    obtain ⟨L, rfl, l1, l2⟩ := own_ints q1
    obtain ⟨C, rfl, c1⟩ := rep_ints q3
    rw [rep_int0 q2, rep_int0 q4]
    refine ⟨L, C, lg, cl, h1, h2, ⟨rfl, valV_pos rfl, ?_, ⟨0, Int.le_refl _, ?_⟩, ⟨0, Int.le_refl _, ?_⟩⟩, l1, l2, c1⟩
    · exact (valV_neg (key _ _ no.lc)).trans ((valV_neg (key _ _ no.rc)).trans (valV_pos rfl))
    · exact (valV_neg (key _ _ no.lr)).trans (valV_pos rfl)
    · exact (valV_neg (key _ _ no.lt)).trans ((valV_neg (key _ _ no.rt)).trans ((valV_neg (key _ _ no.ct)).trans (valV_pos rfl)))
  · obtain ⟨v1, r1, e1, q1, v2, r2, e2, q2, v3, r3, e3, q3, v4, r4, e4, q4, e5⟩ := r
    have e5' : r4 = [] := e5
    subst e5' e4 e3 e2 e1
    obtain ⟨L, rfl, l1, l2⟩ := own_ints q1
    obtain ⟨C, rfl, c1⟩ := rep_ints q2
    rw [rep_int0 q3, rep_int0 q4]
    refine ⟨L, C, lg, cl, h1, h2, ⟨rfl, valV_pos rfl, ?_, ⟨0, Int.le_refl _, ?_⟩, ⟨0, Int.le_refl _, ?_⟩⟩, l1, l2, c1⟩
    · exact (valV_neg (key _ _ no.lc)).trans (valV_pos rfl)
    · exact (valV_neg (key _ _ no.lr)).trans ((valV_neg (key _ _ no.rc.symm)).trans (valV_pos rfl))
    · exact (valV_neg (key _ _ no.lt)).trans ((valV_neg (key _ _ no.ct)).trans ((valV_neg (key _ _ no.rt)).trans (valV_pos rfl)))
theorem begun_ok {T : List (Addr × Str)} {n : TN} {st1 : Stmt} {keys : List (Option Expr)} {values : List Expr} {pos rp : Pos} {t1 : DS} {u : DA} {ks : List Key} (F : FunD K x qual params [st1, .Return (some (.Dict keys values pos)) rp] scope dvs kws f fd) (S : FnScope N ["script"] scope) (no : n.Ok) (hnd : ks.Nodup)
    (hb : ∀ (cdv : Value) (A : Around) (outer : List Env) (s : Shared) (H : Hp) (E : XK), Room k (A.deeper (PyProof.Rows.envOfC qual scope s.heap.objs.size f cdv)) → QS (g0 T) (cxOf (CX P w) P w K mg base N qual scope f cdv A outer s H E) st1 t1 ∧ QP (g0 T) (cxOf (CX P w) P w K mg base N qual scope f cdv A outer s H E) pos keys values ks u)
    (hp : ∀ ns : List Int, ns.length ≤ 63 → t1 { nx := fun α => u α (tapeSs n ks) (fun _ => False), rt := fun _ => False } (startA N [.fr (.scr ns)]) (fun _ => False))
    (hall : keys.all (·.isSome) = true := by rfl) (hl : keys.length = values.length := by rfl) (h0 : keys ≠ [] := by intro z; cases z) (hk : keys.length ≤ 15 := by decide) : FnOk P w K mg base (CX P w) (k + 1) f fd ["script"] (spBegun T K n) := by
  refine F.ok S (fun vs H Q E h => ?_) (fun cdv A outer s H vs Q' E' hr h => ?_)
  · obtain ⟨a, ns, rfl, _⟩ := h
    rfl
  · obtain ⟨a, ns, rfl, hS, hlen, hT, kQ⟩ := h
    obtain ⟨b1, b2⟩ := hb cdv A outer s H E' hr
    have hx : Takes (cxOf (CX P w) P w K mg base N qual scope f cdv A outer s H E') (WD K (g0 T) (tk0 T) (scrF H a) H fun _ => False) := takes_never
    obtain ⟨trs, p1, p2⟩ := b2.pp (tk0 T) (scrF H a) H (fun _ => False) rfl hx
    have ok0 : (tk0 T).ok (scrF H a) H := ⟨hT, scrF_nt⟩
    have rep0 : RepSs K (g0 T) (tk0 T) (scrF H a) H [.fr (.scr ns)] [.ref a] := ⟨.ref a, [], rfl, (by
      show Rep K (g0 T) (scrF H a) (.scr ns) (.ref a)
      unfold Rep
      exact ⟨a, rfl, scrF_seq hS⟩), rfl⟩
    refine ⟨_, pss_cons (b1.ps (tk0 T) (scrF H a) H (fun _ => False) rfl hx) (pss_one (ps_ret (pe_disp p1 hall hl h0 hk))), scrF H a, startA N [.fr (.scr ns)], _, ab_start scrF_sub ok0 rep0 rfl, hp ns hlen, ⟨?_, ?_, ?_, ?_⟩⟩
    · rintro σ H1 ⟨F1, α1, A1, q1⟩
      intro p hpn
      have hF : F1 p = none := A1.sub.free hpn
      have st0 : Step (tk0 T) F1 H1 F1 (upd H1 p (.dK [])) := Step.own hpn
      have nD : p ∉ (tk0 T).ad := Tk.out A1.ok hpn
      have sub0 : Same F1 (upd H1 p (.dK [])) := same_tape A1.sub hF
      have ok1 : (tk0 T).ok F1 (upd H1 p (.dK [])) := Tk.own A1.ok hpn _
      refine p2 F1 _ α1 σ _ _ (A1.step st0 sub0 ok1) q1 fun vs H2 F2 ss st2 sub2 ok2 reps hlen2 hs => ?_
      obtain ⟨L, Cc, lg, cl, g1, g2, td, fL, hL, fC⟩ := tape_vals no hs reps
      have e1 : H2 p = some (.dK []) := st2.kp p _ upd_same nD fun ps z => nomatch z
      have n1 : F2 p = none := by
        cases z : F2 p with
        | none => rfl
        | some o => exact absurd (fun ps z => nomatch z) (st2.nw p o z hF _ upd_same)
      have hks : ks.length ≤ 15 := by
        have := td.len
        rw [List.length_zip, hlen2] at this
        omega
      refine ⟨e1, ks.zip vs, zip_pairs, by rw [List.length_zip]; omega, ?_⟩
      have em : mergeK [] (ks.zip vs) = ks.zip vs := by
        rw [merge_new _ _ (by
          rw [List.map_nil, List.nil_append, show (ks.zip vs).map (fun x => x.1) = ks from List.map_fst_zip (by omega)]
          exact hnd), List.nil_append]
      rw [em]
      have nL : p ≠ L := fun z => by
        rw [z, hL] at e1
        cases e1
      refine kQ p _ ⟨L, Cc, F2, ⟨n1, fL, nL, ⟨cl, g2, fC⟩, ⟨_, upd_same, td⟩, ⟨lg, g1, by rw [upd_ne nL.symm]; exact hL⟩, tabs_upd ok2.1 e1 (fun z => z), ok2.2⟩, A1.st.fr.trans st2.fr, same_tape sub2 n1⟩
    · rintro v H1 ⟨_, _, _, _, _, _, _, z⟩
      exact z.elim
    · rintro σ H1 ⟨_, _, _, z⟩
      exact z.elim
    · rintro σ H1 ⟨_, _, _, z⟩
      exact z.elim
end
end DL

set_option Elab.async false
set_option linter.all false
set_option maxRecDepth 100000
set_option maxHeartbeats 4000000
namespace DL
open PySem PySem.Spec L2

/-! ### the law -/
def spLaw (T : List (Addr × Str)) (K : PySem.W.Frag) : Sp := fun vs H Q _ => ∃ (a : Addr) (ns : List Int), vs = [.ref a] ∧ SqL K H a (ns.map V.int) ∧ ns.length ≤ 63 ∧ (∀ z ∈ ns, Builtin.Int.intBits z ≤ 1048576) ∧ LamX.Tabs T H ∧ ∀ H', Q (.bl true) H'
/-- the law's classes' addresses, its tapes -/
def gOf (CA : Nat → Addr) (T : List (Addr × Str)) (n : TN) : Gv := ⟨CA, fun tk => ∃ d L Cc, tk = tkOf T n d L Cc⟩
theorem gOf_tape {CA : Nat → Addr} {T : List (Addr × Str)} {n : TN} : IsTape (gOf CA T n) T n := fun _ h => h
def LSa (g : Gv) (X : Cx) (t : DS) : TS := fun D' σ H => ∃ tk Fe He E, g.T tk ∧ Takes X (WD X.K g tk Fe He E) ∧ LS X.K g tk Fe He E t D' σ H
theorem QSs.psa {g : Gv} {X : Cx} {st : List Stmt} {t : DS} (h : QSs g X st t) : PSs X st (LSa g X t) := ⟨fun pins s σ H D I q => by
  obtain ⟨tk, Fe, He, E, hT, hx, q⟩ := q
  exact (h.ps tk Fe He E hT hx).run pins s σ H D I q⟩
section
variable {P : Program} {w : World} {K : PySem.W.Frag} {mg : Str → Option Value} {base : Heap} {x qual tp bg : Str} {params : Arguments} {scope : Scope} {dvs : List V} {kws : List (Str × V)} {f fB : Addr} {fd fdB : FuncData} {N : List Str} {k kB it : Nat}
theorem law_ok {CA : Nat → Addr} {T : List (Addr × Str)} {n : TN} {rest : List Stmt} {p1 p2 p3 p4 p5 : Pos} {t : DS} (F : FunD K x qual params (.Assign [.Name tp p1] (.Call (.Name bg p2) [.Name "script" p3] [] p4) p5 :: rest) scope dvs kws f fd) (S : FnScope N ["script"] scope)
    (hN : N[it]? = some tp) (h0 : N[0]? = some ("script" : Str)) (hi : locB scope tp = true) (hv : visB scope "script" = true) (hgb : scope.names.lookup bg = some .globalImplicit) (hdb : (bg == ("__debug__" : Str)) = false)
    (B : FnOk P w K mg base (CX P w) kB fB fdB ["script"] (spBegun T K n)) (mB : mg bg = some (.ref fB)) (kpB : PySem.W.keepIn K (.ref fB) = true) (bB : Binds K fdB ["script"] []) (hkB : kB ≤ k)
    (hs : ∀ env : Env, swapsWith (.Call (.Name bg p2) [.Name "script" p3] [] p4) (some (.Name tp p1)) p5.line env = pure false)
    (hb : ∀ (cdv : Value) (A : Around) (outer : List Env) (s : Shared) (H : Hp) (E : XK), Room k (A.deeper (PyProof.Rows.envOfC qual scope s.heap.objs.size f cdv)) → QSs (gOf CA T n) (cxOf (CX P w) P w K mg base N qual scope f cdv A outer s H E) rest t)
    (hp : ∀ ns : List Int, ns.length ≤ 63 → (∀ z ∈ ns, Builtin.Int.intBits z ≤ 1048576) → t { nx := fun _ => False, rt := fun s => s = .fr (.bl true) } ((startA N [.fr (.scr ns)]).set it (some .tk)) (fun _ => False)) :
    FnOk P w K mg base (CX P w) (k + 1) f fd ["script"] (spLaw T K) := by
  refine F.ok S (fun vs H Q E h => ?_) (fun cdv A outer s H vs Q' E' hr h => ?_)
  · obtain ⟨a, ns, rfl, _⟩ := h
    rfl
  · obtain ⟨a, ns, rfl, hS, hlen, hbits, hT, kQ⟩ := h
    have b1 := hb cdv A outer s H E' hr
    have sv : Vis scope "script" := vis_of hv
    refine ⟨_, pss_cons (ps_set (i := it) S.nd hN (loc_of hi) (pe_call B (hr.mono hkB) hgb mB kpB bB .nil (passes_call (E := fun _ _ _ => False) LamX.takes0 (fun _ _ _ _ z => z)) (pa_cons (pe_var (i := 0) h0 sv) pa_nil) hdb rfl rfl) (hs _) (.inl rfl)) b1.psa, ?_⟩
    refine ⟨.ref a, rfl, a, ns, rfl, hS, hlen, hT, fun d H' hn => ?_⟩
    obtain ⟨L, Cc, F', ok, s1, s2⟩ := hn
    have rep0 : RepSs K (gOf CA T n) (tkOf T n d L Cc) F' H' [.fr (.scr ns)] [.ref a] := ⟨.ref a, [], rfl, (by
      show Rep K (gOf CA T n) F' (.scr ns) (.ref a)
      unfold Rep
      exact ⟨a, rfl, s1.seq (scrF_seq hS)⟩), rfl⟩
    have A0 : Ab K (gOf CA T n) (tkOf T n d L Cc) F' H' F' H' (startA N [.fr (.scr ns)]) (L2.start N [.ref a]) := ab_start s2 ok rep0 rfl
    have A1 := A0.set' it (Step.refl _ _ _) s2 ok (r := .tk) (v := .ref d) rfl (fun d p z => nomatch z) fun d z => nomatch z
    refine ⟨tkOf T n d L Cc, F', H', fun _ => False, ⟨d, L, Cc, rfl⟩, takes_never, F', _, _, A1, hp ns hlen hbits, ⟨?_, ?_, ?_, ?_⟩⟩
    · rintro σ H1 ⟨_, _, _, z⟩
      exact z.elim
    · rintro v H1 ⟨F2, r, st2, sub2, ok2, rep2, _, z⟩
      subst z
      have e : v = .bl true := Rep.bl_ (K := K) (g := gOf CA T n) (F := F2) rep2
      rw [e]
      exact kQ H1
    · rintro σ H1 ⟨_, _, _, z⟩
      exact z.elim
    · rintro σ H1 ⟨_, _, _, z⟩
      exact z.elim
end
end DL

set_option Elab.async false
set_option linter.all false
set_option maxRecDepth 100000
set_option maxHeartbeats 4000000
/-! the head's facts of own classes: tests, what they tell; the Hook with own __init__s. -/
namespace DLH
open PySem PySem.Spec L2 DL
theorem ba2 {a b : Bool} (h : (a && b) = true) : a = true ∧ b = true := Bool.and_eq_true_iff.mp h
/-! ### own __init__s -/
structure IniD where
  at_ : Str × Option Str
  params : Arguments
  body : List Stmt
  scope : Scope
abbrev FnY : Type := Option (Arguments × FuncBody × Scope × Addr × Addr × Value × Value)
def fnY (K : PySem.W.Frag) (p : Str × Option Str) : FnY := match K.lookup (He.fAd K p) with
  | some ⟨_, _, .func fd, _⟩ => some (fd.params, fd.body, fd.scope, fd.globals, fd.builtins, fd.defaults, .none)
  | _ => none
def IniD.val (d : IniD) : FnY := some (d.params, .stmts d.body, d.scope, mainGlobals, builtinsNs, .none, .none)
abbrev AlY : Type := He.AlX × List FnY
/-- what the module's names reach, and the machine's statics -/
def asY (g : Addr → Option Obj) (n : Nat) : List Addr := cStatics :: He.asD g n
def kY (g : Addr → Option Obj) (n : Nat) : PySem.W.Frag := He.frT g (asY g n)
def obsY (n : Nat) (fa : List He.Fa) (fn : List He.DefD) (tf : List He.Defn) (ex : PySem.W.Frag → Bool) (ini : List IniD) (g : Addr → Option Obj) : AlY := ((He.obsT fa fn [] (kY g n), ex (kY g n) && He.tabsB g tf (kY g n)), ini.map fun d => fnY (kY g n) d.at_)
def valY (fn : List He.DefD) (ini : List IniD) (w : World) : AlY := (He.valX fn [] w, ini.map IniD.val)
theorem saysX_at {n : Nat} {fa : List He.Fa} {fn : List He.DefD} {tf : List He.Defn} {ex : PySem.W.Frag → Bool} {w : World} {h : Heap} (e : (He.obsT fa fn [] (kY h.get? n), ex (kY h.get? n) && He.tabsB h.get? tf (kY h.get? n)) = He.valX fn [] w) : He.SaysX fa fn [] tf ex w h (kY h.get? n) := by
  have e1 : He.obsT fa fn [] (kY h.get? n) = He.valT fn [] w := congrArg (fun z : He.AlX => z.1) e
  have e2 : (ex (kY h.get? n) && He.tabsB h.get? tf (kY h.get? n)) = true := congrArg (fun z : He.AlX => z.2) e
  obtain ⟨h1, h2⟩ := ba2 e2
  have key : ∀ p ∈ tf, PySem.W.codeHdIn (kY h.get? n) (He.cT (kY h.get? n) p).1 (He.cT (kY h.get? n) p).2 = true ∧ ∃ o, h.get? (He.cT (kY h.get? n) p).2 = some o ∧ He.emptyTab o = true := fun p hp => by
    obtain ⟨h3, h4⟩ := ba2 (List.all_eq_true.mp h2 p hp)
    refine ⟨h3, ?_⟩
    cases q : h.get? (He.cT (kY h.get? n) p).2 with
    | none =>
      rw [q] at h4
      cases h4
    | some o =>
      rw [q] at h4
      exact ⟨o, rfl, h4⟩
  exact ⟨e1, h1, fun p hp => (key p hp).1, fun p hp => by
    obtain ⟨_, o, q, z⟩ := key p hp
    exact He.frT_none q z, fun p hp => by
    obtain ⟨_, o, q, z⟩ := key p hp
    rw [q, He.emptyTab_eq z]⟩
structure SaysY (fa : List He.Fa) (fn : List He.DefD) (tf : List He.Defn) (ex : PySem.W.Frag → Bool) (ini : List IniD) (w : World) (h : Heap) (K : PySem.W.Frag) : Prop where
  x : He.SaysX fa fn [] tf ex w h K
  i : ini.map (fun d => fnY K d.at_) = ini.map IniD.val
def hookY (n : Nat) (fa : List He.Fa) (fn : List He.DefD) (tf : List He.Defn) (ex : PySem.W.Frag → Bool) (ini : List IniD) : PySem.W.Hook where
  α := AlY
  obs := fun s => obsY n fa fn tf ex ini s.heap.get?
  val := fun w => valY fn ini w
  says := fun w h => ∃ K : PySem.W.Frag, K.In h ∧ SaysY fa fn tf ex ini w h K
  of := fun _ _ e => ⟨_, He.frT_in, saysX_at (congrArg (fun z : AlY => z.1) e), congrArg (fun z : AlY => z.2) e⟩
  keeps := fun _ _ _ ⟨K, hK, c⟩ k => ⟨K, PySem.W.Frag.In.keeps hK k, ⟨c.x.t, c.x.more, c.x.hd, c.x.out, fun p hp => k _ _ (c.x.empty p hp)⟩, c.i⟩
theorem obsY_eq {n : Nat} {fa : List He.Fa} {fn : List He.DefD} {tf : List He.Defn} {ex : PySem.W.Frag → Bool} {ini : List IniD} {g : Addr → Option Obj} {s : Shared} (h : ∀ a, g a = s.heap.get? a) : obsY n fa fn tf ex ini g = (hookY n fa fn tf ex ini).obs s := by
  have e : g = s.heap.get? := funext h
  rw [e] <;> rfl
theorem SaysY.ini {fa : List He.Fa} {fn : List He.DefD} {tf : List He.Defn} {ex : PySem.W.Frag → Bool} {ini : List IniD} {w : World} {h : Heap} {K : PySem.W.Frag} (c : SaysY fa fn tf ex ini w h K) {d : IniD} (hd : d ∈ ini) : fnY K d.at_ = d.val := by
  obtain ⟨i, hi, e⟩ := List.mem_iff_getElem.mp hd
  have z := congrArg (fun l => l[i]?) c.i
  simp only [List.getElem?_map, List.getElem?_eq_getElem hi, Option.map_some, e] at z
  exact Option.some.inj z
/-! ### tests -/
def excCB (K : PySem.W.Frag) (C : Addr) : Bool := He.eqO (PySem.W.findIn K (.ref C) "__getattribute__") (some (some (.builtin "BaseException.__getattribute__"))) && (He.eqO (PySem.W.findIn K (.ref C) "__getattr__") (some none) && (decide (PySem.W.subIn K (.ref C) (.type "BaseException") = some true) && (PySem.W.hasDictIn K C && (He.eqO (PySem.W.findIn K (.ref C) "__class__") (some (some (.builtin "object.__class__"))) &&
  (He.eqO (PySem.W.specialIn K (.builtin "object.__class__") "__get__") (some (some (.builtin "getset_descriptor.__get__"))) && (decide (PySem.W.takesIn K (.builtin "object.__class__") = some true) && decide (PySem.W.mroIn K C (.type "object") = some true)))))))
theorem excC_of {K : PySem.W.Frag} {C : Addr} (h : excCB K C = true) : ExcC K C := by
  obtain ⟨h1, h⟩ := ba2 h
  obtain ⟨h2, h⟩ := ba2 h
  obtain ⟨h3, h⟩ := ba2 h
  obtain ⟨h4, h⟩ := ba2 h
  obtain ⟨h5, h⟩ := ba2 h
  obtain ⟨h6, h⟩ := ba2 h
  obtain ⟨h7, h8⟩ := ba2 h
  exact ⟨He.eqO_ok h1, He.eqO_ok h2, of_decide_eq_true h3, h4, He.eqO_ok h5, He.eqO_ok h6, of_decide_eq_true h7, of_decide_eq_true h8⟩
def insCB (K : PySem.W.Frag) (C : Addr) : Bool := PySem.W.plainGet K C Str.empty && (PySem.W.hasDictIn K C && (PySem.W.plainOver K C && (He.eqO (PySem.W.findIn K (.ref C) "__setattr__") (some (some (.builtin "object.__setattr__"))) && (He.eqO (PySem.W.findIn K (.ref C) "__class__") (some (some (.builtin "object.__class__"))) &&
  (He.eqO (PySem.W.specialIn K (.builtin "object.__class__") "__get__") (some (some (.builtin "getset_descriptor.__get__"))) && (decide (PySem.W.takesIn K (.builtin "object.__class__") = some true) && decide (PySem.W.mroIn K C (.type "object") = some true)))))))
theorem insC_of {K : PySem.W.Frag} {C : Addr} (h : insCB K C = true) : Cls K C ∧ PySem.W.findIn K (.ref C) "__class__" = some (some (.builtin "object.__class__")) ∧ PySem.W.specialIn K (.builtin "object.__class__") "__get__" = some (some (.builtin "getset_descriptor.__get__")) ∧
    PySem.W.takesIn K (.builtin "object.__class__") = some true ∧ PySem.W.mroIn K C (.type "object") = some true := by
  obtain ⟨h1, h⟩ := ba2 h
  obtain ⟨h2, h⟩ := ba2 h
  obtain ⟨h3, h⟩ := ba2 h
  obtain ⟨h4, h⟩ := ba2 h
  obtain ⟨h5, h⟩ := ba2 h
  obtain ⟨h6, h⟩ := ba2 h
  obtain ⟨h7, h8⟩ := ba2 h
  exact ⟨⟨h1, h2, h3, He.eqO_ok h4⟩, He.eqO_ok h5, He.eqO_ok h6, of_decide_eq_true h7, of_decide_eq_true h8⟩
def kindsB (K : PySem.W.Frag) (CA : Nat → Addr) (n : Nat) (sub : Nat → Nat → Bool) (ex : Nat → Bool) : Bool := (List.range n).all fun a =>
  ((List.range n).all fun b => decide (PySem.W.kitOne K (.ref (CA a)) (.ref (CA b)) = some (sub a b))) && ((tyN.all fun T => decide (PySem.W.kitOne K (.ref (CA a)) (.type T) = some false) && decide (PySem.W.kitOne K (.type T) (.ref (CA a)) = some false)) && (if ex a = true then excCB K (CA a) else insCB K (CA a)))
theorem kinds_of {K : PySem.W.Frag} {g : Gv} {n : Nat} {sub : Nat → Nat → Bool} {ex : Nat → Bool} (h : kindsB K g.CA n sub ex = true) : Kinds K g n sub ex := by
  have at_ : ∀ a, a < n → (((List.range n).all fun b => decide (PySem.W.kitOne K (.ref (g.CA a)) (.ref (g.CA b)) = some (sub a b))) = true ∧ (tyN.all fun T => decide (PySem.W.kitOne K (.ref (g.CA a)) (.type T) = some false) && decide (PySem.W.kitOne K (.type T) (.ref (g.CA a)) = some false)) = true ∧ (if ex a = true then excCB K (g.CA a) else insCB K (g.CA a)) = true) := fun a ha => by
    have z := List.all_eq_true.mp h a (List.mem_range.mpr ha)
    obtain ⟨z1, z⟩ := ba2 z
    obtain ⟨z2, z3⟩ := ba2 z
    exact ⟨z1, z2, z3⟩
  refine ⟨fun a b ha hb => of_decide_eq_true (List.all_eq_true.mp (at_ a ha).1 b (List.mem_range.mpr hb)), fun a ha T hT => of_decide_eq_true (ba2 (List.all_eq_true.mp (at_ a ha).2.1 T hT)).1, fun T hT b hb => of_decide_eq_true (ba2 (List.all_eq_true.mp (at_ b hb).2.1 T hT)).2, fun a ha e => ?_, fun a ha e => ?_⟩
  · have z := (at_ a ha).2.2
    rw [if_pos e] at z
    exact excC_of z
  · have z := (at_ a ha).2.2
    rw [if_neg (by rw [e]; exact Bool.false_ne_true)] at z
    exact insC_of z
def excRB (K : PySem.W.Frag) (C : Addr) : Bool := PySem.W.excIn K C veB "ValueError.__new__" && (PySem.W.keepIn K (.ref C) && (decide (PySem.W.subIn K (.ref C) (.type "BaseException") = some true) && decide (PySem.W.typeIn K (.ref C) = some (.type "type"))))
theorem excR_of {K : PySem.W.Frag} {C : Addr} (h : excRB K C = true) : ExcR K C := by
  obtain ⟨h1, h⟩ := ba2 h
  obtain ⟨h2, h⟩ := ba2 h
  obtain ⟨h3, h4⟩ := ba2 h
  exact ⟨h1, h2, of_decide_eq_true h3, of_decide_eq_true h4⟩
def oexB (K : PySem.W.Frag) (C : Addr) : Bool := (match K.lookup C with
  | some ⟨.type t, _, .cls cd, sl⟩ => decide (t = "type") && (match cd.mro, sl.toList with
    | .ref C' :: bm, [_, _, _, _, some (.builtin nw), _] => decide (C' = C) && (decide (nw = "ValueError.__new__") && (!cd.hasDel && (cd.hasDict && PySem.HandSPX.refsVE bm)))
    | _, _ => false)
  | _ => false) && (He.eqO (PySem.W.findIn K (.ref C) "__setattr__") (some (some (.builtin "object.__setattr__"))) && (decide (PySem.W.subIn K (.ref C) (.type "BaseException") = some true) && (decide (PySem.W.typeIn K (.ref C) = some (.type "type")) && PySem.W.keepIn K (.ref C))))
theorem oexC_of {K : PySem.W.Frag} {C : Addr} (h : oexB K C = true) : OexC K C := by
  unfold oexB at h
  obtain ⟨h1, h⟩ := ba2 h
  obtain ⟨h2, h⟩ := ba2 h
  obtain ⟨h3, h⟩ := ba2 h
  obtain ⟨h4, h5⟩ := ba2 h
  refine ⟨?_, He.eqO_ok h2, of_decide_eq_true h3, of_decide_eq_true h4, h5⟩
  split at h1
  · rename_i t dd cd sl ho
    obtain ⟨e1, h6⟩ := ba2 h1
    clear h1
    have e1 := of_decide_eq_true e1
    subst e1
    split at h6
    · rename_i C' bm k0 k1 k2 k3 nw k5 hm hs
      obtain ⟨a1, h7⟩ := ba2 h6
      obtain ⟨a2, h8⟩ := ba2 h7
      obtain ⟨a3, h9⟩ := ba2 h8
      obtain ⟨a4, a5⟩ := ba2 h9
      have a1 := of_decide_eq_true a1
      have a2 := of_decide_eq_true a2
      subst a1 a2
      obtain ⟨nm, bs, mro, ns, qn, hd, sn, sub, ab, col, del⟩ := cd
      dsimp only at hm a3 a4
      subst hm a4
      have a3' : del = false := by simpa using a3
      subst a3'
      have hsl : sl = #[k0, k1, k2, k3, some (.builtin "ValueError.__new__"), k5] := by
        obtain ⟨l⟩ := sl
        simp only at hs
        rw [hs]
      subst hsl
      exact ⟨nm, qn, ns, bs, bm, sn, sub, ab, col, dd, k0, k1, k2, k3, k5, ho, a5⟩
    · cases h6
  · cases h1
def iniCB (K : PySem.W.Frag) (D0 : Addr) (f : Str) (C f0 : Addr) : Bool := oexB K C && ((match K.lookup D0 with
  | some ⟨_, _, .cls _, _⟩ => true
  | _ => false) && (decide (PySem.W.subIn K (.ref C) (.ref D0) = some true) && (He.eqO (PySem.W.ks_superIn K C D0 "__init__") (some (some (.builtin "ValueError.__init__"))) && (decide (PySem.W.subIn K (.ref C) (.type "ValueError") = some true) && (He.eqO (PySem.W.nsIn K cStatics "thirdparty.any") (some none) && (He.eqO (PySem.W.findIn K (.ref C) f) (some none) &&
  (He.eqO (PySem.W.findIn K (.ref C) "__init__") (some (some (.ref f0))) && decide (PySem.W.typeIn K (.ref f0) = some (.type "function")))))))))
theorem iniC_of {K : PySem.W.Frag} {D0 C f0 : Addr} {f : Str} (h : iniCB K D0 f C f0 = true) : IniC K D0 f C ∧ PySem.W.findIn K (.ref C) "__init__" = some (some (.ref f0)) ∧ PySem.W.typeIn K (.ref f0) = some (.type "function") := by
  obtain ⟨h1, h⟩ := ba2 h
  obtain ⟨h2, h⟩ := ba2 h
  obtain ⟨h3, h⟩ := ba2 h
  obtain ⟨h4, h⟩ := ba2 h
  obtain ⟨h5, h⟩ := ba2 h
  obtain ⟨h6, h⟩ := ba2 h
  obtain ⟨h7, h⟩ := ba2 h
  obtain ⟨h8, h9⟩ := ba2 h
  refine ⟨⟨oexC_of h1, ?_, of_decide_eq_true h3, He.eqO_ok h4, of_decide_eq_true h5, He.eqO_ok h6, He.eqO_ok h7⟩, He.eqO_ok h8, of_decide_eq_true h9⟩
  split at h2
  · rename_i c d cd sl e
    exact ⟨_, cd, e, rfl⟩
  · cases h2
/-- what is asked of the function of such an __init__, beside its text -/
def iniFB (P : Program) (K : PySem.W.Frag) (D0 f0 : Addr) : Bool := match K.lookup f0 with
  | some ⟨_, _, .func fd, _⟩ => (match fd.closure with
    | [(x, cc)] => decide (x = "__class__") && (match K.lookup cc with
      | some ⟨_, _, .cell (some (.ref d)), _⟩ => decide (d = D0)
      | _ => false)
    | _ => false) && (PySem.W.codeIn K fd.code fd.qualname && (match fd.code with
    | .ref cv => (match K.lookup cv with
      | some ⟨_, _, .fields vs, _⟩ => (match (vs[2]? : Option Value) with
        | some (.str fl _) => (P.main.file : Str) == fl
        | _ => false)
      | _ => false)
    | _ => false))
  | _ => false
theorem iniF_of {P : Program} {K : PySem.W.Frag} {D0 : Addr} {f : Str} {d : IniD} (h : iniFB P K D0 (He.fAd K d.at_) = true) (e : fnY K d.at_ = d.val) (kind : d.scope.kind = .function) (co : d.scope.isCoroutine = false) (gen : d.scope.isGenerator = false) (ncell : ∀ y ∈ d.scope.names, y.2 ≠ .cell)
    (nfree : ∀ y ∈ d.scope.names, y.2 = .free → y.1 = ("__class__" : Str)) (self : d.scope.names.lookup ("self" : Str) = some .local) (fld : d.scope.names.lookup f = some .local) (sup : d.scope.names.lookup ("super" : Str) = some .globalImplicit) (cls : d.scope.names.lookup ("__class__" : Str) = some .free)
    (head : ∃ ar, (d.params.posonlyargs ++ d.params.args).head? = some ar ∧ ar.arg = ("self" : Str)) (top : (P.main.scope.names.lookup ("super" : Str)).isSome = false) :
    ∃ (oc : Value) (od : Option Addr) (osl : Array (Option Value)) (fd : FuncData), K.lookup (He.fAd K d.at_) = some ⟨oc, od, .func fd, osl⟩ ∧ fd.params = d.params ∧ fd.defaults = .none ∧ IniFd P K D0 f d.body fd := by
  unfold iniFB at h
  unfold fnY at e
  split at h
  · rename_i oc od fd osl lk
    rw [lk] at e
    have e2 : (some (fd.params, fd.body, fd.scope, fd.globals, fd.builtins, fd.defaults, Value.none) : FnY) = some (d.params, .stmts d.body, d.scope, mainGlobals, builtinsNs, .none, .none) := e
    simp only [Option.some.injEq, Prod.mk.injEq] at e2
    obtain ⟨e1, e2, e3, e4, e5, e6, _⟩ := e2
    obtain ⟨h1, h⟩ := ba2 h
    obtain ⟨h2, h3⟩ := ba2 h
    refine ⟨oc, od, osl, fd, lk, e1, e6, e2, by rw [e3]; exact kind, by rw [e3]; exact co, by rw [e3]; exact gen, by rw [e3]; exact ncell, by rw [e3]; exact nfree, by rw [e3]; exact self, by rw [e3]; exact fld, by rw [e3]; exact sup, by rw [e3]; exact cls, e4, e5, ?_, h2, ?_, by rw [e1]; exact head, top⟩
    · split at h1
      · rename_i x cc hc
        obtain ⟨a1, a2⟩ := ba2 h1
        have a1 := of_decide_eq_true a1
        subst a1
        split at a2
        · rename_i c' d' dd sl' ho
          have a2 := of_decide_eq_true a2
          subst a2
          exact ⟨cc, _, hc, ho, rfl⟩
        · cases a2
      · cases h1
    · split at h3
      · rename_i cv hcv
        split at h3
        · rename_i c' d' vs sl' ho
          split at h3
          · rename_i fl tf hv
            exact ⟨cv, _, vs, fl, tf, hcv, ho, rfl, hv, h3⟩
          · cases h3
        · cases h3
      · cases h3
  · cases h
theorem all_of {n : Nat} {ok p : Nat → Bool} (h : ((List.range n).all fun c => !ok c || p c) = true) (out : ∀ c, n ≤ c → ok c = false) (c : Nat) (hc : ok c = true) : p c = true := by
  cases Nat.lt_or_ge c n with
  | inl hl =>
    have z := List.all_eq_true.mp h c (List.mem_range.mpr hl)
    rw [hc] at z
    exact z
  | inr hg =>
    rw [out c hg] at hc
    cases hc
theorem getD_out (l : List Bool) (c : Nat) (h : l.length ≤ c) : l.getD c false = false := by
  rw [List.getD_eq_getElem?_getD, List.getElem?_eq_none h]
  rfl
theorem tabs_new {T : List (Addr × Str)} {H : Hp} (h : ∀ p ∈ T, H p.1 = some (.tbl #[])) : LamX.Tabs T H := fun p hp => LamX.TabS.nil (h p hp)
end DLH

set_option Elab.async false
set_option linter.all false
set_option maxRecDepth 100000
set_option maxHeartbeats 4000000
namespace DL
open PySem PySem.Spec L2

/-! ### equations for the plain part -/
section
variable {d e : D} {i j : Int} {b c : Bool} {Q : S → Prop} {ds es : List D} {n : Nat} {x y : Str}
theorem e1 : S.view (.fr d) = d := rfl
theorem e2 : S.view (.nw d) = d := rfl
theorem e3 : S.view (.bw d) = d := rfl
theorem e4 : S.fz (.fr d) = .fr d := rfl
theorem e5 : S.fz (.nw d) = .fr d := rfl
theorem e6 : S.fz (.bw d) = .bw d := rfl
theorem e7 : S.fz .tk = .tk := rfl
theorem e8 : S.look (.fr d) = .fr d := rfl
theorem e9 : S.look (.nw d) = .bw d := rfl
theorem e10 : S.look .tk = .tk := rfl
theorem e11 : S.plain (.fr d) = true := rfl
theorem e12 : S.plain (.bw d) = true := rfl
theorem e13 : S.arg (.fr d) = true := rfl
theorem e14 : S.arg .tk = true := rfl
theorem a1 : fAdd (.int i) (.int j) Q = Q (.fr (.int (i + j))) := rfl
theorem a2 : fSub (.int i) (.int j) Q = Q (.fr (.int (i - j))) := rfl
theorem a3 : fMul (.int i) (.int j) Q = (MulOk i j ∧ Q (.fr (.int (i * j)))) := rfl
theorem a4 : fDiv (.int i) (.int j) Q = (DivOk i j ∧ Q (.fr (.int (i / j)))) := rfl
theorem a5 : fMod (.int i) (.int j) Q = (0 < j ∧ Q (.fr (.int (i % j)))) := rfl
theorem a6 : fPow (.int i) (.int j) Q = (CPow i j ∧ Q (.fr (.int (i ^ j.toNat)))) := rfl
theorem a7 : fNeg (.int i) Q = Q (.fr (.int (-i))) := rfl
theorem a8 : fLt (.int i) (.int j) Q = Q (.fr (.bl (decide (i < j)))) := rfl
theorem a9 : fLe (.int i) (.int j) Q = Q (.fr (.bl (decide (i ≤ j)))) := rfl
theorem a10 : fGt (.int i) (.int j) Q = Q (.fr (.bl (decide (j < i)))) := rfl
theorem a11 : fGe (.int i) (.int j) Q = Q (.fr (.bl (decide (j ≤ i)))) := rfl
theorem t1 : D.truth (.bl b) = some b := rfl
theorem t2 : D.truth (.int i) = some (i != 0) := rfl
theorem t3 : D.truth .non = some false := rfl
theorem x1 : fIx (.tup ds) (.int i) Q = ∃ d, atI ds i = some d ∧ Q (.fr d) := rfl
theorem x2 : fIx (.lst ds) (.int i) Q = ∃ d, atI ds i = some d ∧ Q (.fr d) := rfl
theorem x3 {a : D} : atI (a :: ds) 0 = some a := by unfold atI ixN; simp
theorem x4 {a c : D} : atI (a :: c :: ds) 1 = some c := by
  have h : (1 : Int) < ds.length + 1 + 1 := by omega
  unfold atI ixN
  simp [h]
theorem x5 : fLen (.tup ds) Q = Q (.fr (.int ds.length)) := rfl
theorem x6 : fLen (.lst ds) Q = Q (.fr (.int ds.length)) := rfl
theorem x7 {ns : List Int} : fLen (.scr ns) Q = Q (.fr (.int ns.length)) := rfl
theorem x8 : fAbs (.int i) Q = Q (.fr (.int (if i < 0 then -i else i))) := rfl
theorem x9 : fInt (.int i) Q = Q (.fr (.int i)) := rfl
theorem x10 : fMin2 (.int i) (.int j) Q = Q (.fr (.int (if j < i then j else i))) := rfl
theorem x11 : fTuple (.lst ds) Q = Q (.fr (.tup ds)) := rfl
theorem x12 : fTuple (.tup ds) Q = Q (.fr (.tup ds)) := rfl
theorem y1 {s : S} {f : F1} : one f [s] Q = f s.view Q := rfl
theorem y2 {s t : S} {f : F2} : two f [s, t] Q = f s.view t.view Q := rfl
theorem eq_ii : fEq (.int i) (.int j) Q ↔ Q (.fr (.bl (decide (i = j)))) := by
  unfold fEq
  have h : PyData.eqv (D.int i).py (D.int j).py = decide (i = j) := by
    simp [D.py, PyData.eqv]
    rfl
  constructor
  · rintro ⟨_, _, q⟩
    rw [h] at q
    exact q
  · intro q
    refine ⟨⟨rfl, rfl⟩, ⟨rfl, rfl⟩, ?_⟩
    rw [h]
    exact q
theorem ne_ii : fNe (.int i) (.int j) Q ↔ Q (.fr (.bl (decide (i ≠ j)))) := by
  unfold fNe
  have h : (!PyData.eqv (D.int i).py (D.int j).py) = decide (i ≠ j) := by
    simp [D.py, PyData.eqv]
    rfl
  constructor
  · rintro ⟨_, _, q⟩
    rw [h] at q
    exact q
  · intro q
    refine ⟨⟨rfl, rfl⟩, ⟨rfl, rfl⟩, ?_⟩
    rw [h]
    exact q
theorem k1 : D.low n (.int i) ↔ True := Iff.rfl
theorem k2 : D.low n (.bl b) ↔ True := Iff.rfl
theorem k3 : D.low n (.tup ds) ↔ True := Iff.rfl
theorem k4 : D.low n (.lst ds) ↔ True := Iff.rfl
theorem k5 : D.low n .non ↔ True := Iff.rfl
theorem k6 : D.low n (.str x) ↔ True := Iff.rfl
theorem z0 : isT "int" (.int i) = some true := by first | rfl | (unfold isT D.ty; decide +kernel)
theorem z1 : isT "int" (.bl b) = some true := by first | rfl | (unfold isT D.ty; decide +kernel)
theorem z2 : isT "int" (.str x) = some false := by first | rfl | (unfold isT D.ty; decide +kernel)
theorem z3 : isT "int" (.tup ds) = some false := by first | rfl | (unfold isT D.ty; decide +kernel)
theorem z4 : isT "int" (.lst ds) = some false := by first | rfl | (unfold isT D.ty; decide +kernel)
theorem z5 : isT "int" .non = some false := by first | rfl | (unfold isT D.ty; decide +kernel)
theorem z6 : isT "bool" (.int i) = some false := by first | rfl | (unfold isT D.ty; decide +kernel)
theorem z7 : isT "bool" (.bl b) = some true := by first | rfl | (unfold isT D.ty; decide +kernel)
theorem z8 : isT "bool" (.str x) = some false := by first | rfl | (unfold isT D.ty; decide +kernel)
theorem z9 : isT "bool" (.tup ds) = some false := by first | rfl | (unfold isT D.ty; decide +kernel)
theorem z10 : isT "bool" (.lst ds) = some false := by first | rfl | (unfold isT D.ty; decide +kernel)
theorem z11 : isT "bool" .non = some false := by first | rfl | (unfold isT D.ty; decide +kernel)
theorem z12 : isT "str" (.int i) = some false := by first | rfl | (unfold isT D.ty; decide +kernel)
theorem z13 : isT "str" (.bl b) = some false := by first | rfl | (unfold isT D.ty; decide +kernel)
theorem z14 : isT "str" (.str x) = some true := by first | rfl | (unfold isT D.ty; decide +kernel)
theorem z15 : isT "str" (.tup ds) = some false := by first | rfl | (unfold isT D.ty; decide +kernel)
theorem z16 : isT "str" (.lst ds) = some false := by first | rfl | (unfold isT D.ty; decide +kernel)
theorem z17 : isT "str" .non = some false := by first | rfl | (unfold isT D.ty; decide +kernel)
theorem z18 : isT "tuple" (.int i) = some false := by first | rfl | (unfold isT D.ty; decide +kernel)
theorem z19 : isT "tuple" (.bl b) = some false := by first | rfl | (unfold isT D.ty; decide +kernel)
theorem z20 : isT "tuple" (.str x) = some false := by first | rfl | (unfold isT D.ty; decide +kernel)
theorem z21 : isT "tuple" (.tup ds) = some true := by first | rfl | (unfold isT D.ty; decide +kernel)
theorem z22 : isT "tuple" (.lst ds) = some false := by first | rfl | (unfold isT D.ty; decide +kernel)
theorem z23 : isT "tuple" .non = some false := by first | rfl | (unfold isT D.ty; decide +kernel)
theorem z24 : isT "list" (.int i) = some false := by first | rfl | (unfold isT D.ty; decide +kernel)
theorem z25 : isT "list" (.bl b) = some false := by first | rfl | (unfold isT D.ty; decide +kernel)
theorem z26 : isT "list" (.str x) = some false := by first | rfl | (unfold isT D.ty; decide +kernel)
theorem z27 : isT "list" (.tup ds) = some false := by first | rfl | (unfold isT D.ty; decide +kernel)
theorem z28 : isT "list" (.lst ds) = some true := by first | rfl | (unfold isT D.ty; decide +kernel)
theorem z29 : isT "list" .non = some false := by first | rfl | (unfold isT D.ty; decide +kernel)
theorem ic1 {sub : Nat → Nat → Bool} {a c : Nat} {ns : List Str} : isC sub c (.exc a ns ds) = some (sub a c) := rfl
theorem ic2 {sub : Nat → Nat → Bool} {c : Nat} : isC sub c .non = some false := rfl
end
theorem lc_of {tg : DG} {tt : DT} {te : DE} {Q : List D → Prop} {α : AE} (f : D → Option D) : ∀ (ds acc : List D),
    (∀ d ∈ ds, ∀ (P : D → Prop) (k0 : Prop), (match f d with | some m => P m | none => k0) → tg d α (fun α' => tt α' (fun b => if b = true then te α' (fun r => ∃ x, r.fz = .fr x ∧ P x) (fun _ => False) else k0) (fun _ => False))) →
    acc.length + ds.length ≤ sizeLine → Q (acc ++ ds.filterMap f) → lcD tg tt te Q α ds acc
  | [], acc, _, _, q => by
    unfold lcD
    rw [List.filterMap_nil, List.append_nil] at q
    exact q
  | d :: ds, acc, H, hl, q => by
    unfold lcD
    rw [List.length_cons] at hl
    refine H d List.mem_cons_self (fun x => acc.length < sizeLine ∧ lcD tg tt te Q α ds (acc ++ [x])) (lcD tg tt te Q α ds acc) ?_
    cases e : f d with
    | none => exact lc_of f ds acc (fun d' h' => H d' (List.mem_cons_of_mem _ h')) (by omega) (by rw [List.filterMap_cons_none e] at q; exact q)
    | some m => exact ⟨by omega, lc_of f ds (acc ++ [m]) (fun d' h' => H d' (List.mem_cons_of_mem _ h')) (by rw [List.length_append, List.length_singleton]; omega) (by rw [List.filterMap_cons_some e] at q; rw [List.append_assoc]; exact q)⟩
theorem lc_map {tg : DG} {tt : DT} {te : DE} {Q : List D → Prop} {α : AE} (f : D → D) {ds : List D} (H : ∀ d ∈ ds, ∀ (P : D → Prop) (k0 : Prop), P (f d) → tg d α (fun α' => tt α' (fun b => if b = true then te α' (fun r => ∃ x, r.fz = .fr x ∧ P x) (fun _ => False) else k0) (fun _ => False)))
    (hl : ds.length ≤ sizeLine) (q : Q (ds.map f)) : lcD tg tt te Q α ds [] := by
  refine lc_of (fun d => some (f d)) ds [] (fun d hd P k0 hp => H d hd P k0 hp) (by simpa using hl) ?_
  rw [List.nil_append, show (fun d => some (f d)) = (some ∘ f) from rfl, List.filterMap_eq_map]
  exact q
theorem rangeD_len (lo : Int) (n : Nat) : (rangeD lo n).length = n := by unfold rangeD; rw [List.length_map, List.length_range]
theorem rangeD_mem {lo : Int} {n : Nat} {d : D} (h : d ∈ rangeD lo n) : ∃ i : Nat, i < n ∧ d = .int (lo + i) := by
  unfold rangeD at h
  obtain ⟨i, hi, rfl⟩ := List.mem_map.mp h
  exact ⟨i, List.mem_range.mp hi, rfl⟩
theorem rangeD_map {lo : Int} {n : Nat} {f : D → D} : (rangeD lo n).map f = (List.range n).map fun i => f (.int (lo + (i : Nat))) := by
  unfold rangeD
  rw [List.map_map]
  rfl
theorem abs_eq (i : Int) : (if i < 0 then -i else i) = (i.natAbs : Int) := by
  split <;> omega
theorem line_big : (1000000 : Nat) ≤ sizeLine := by rw [sizeLine_eq]; omega
/-- std: what has a plain type -/
def D.std : D → Bool
  | .non => true
  | .bl _ => true
  | .int _ => true
  | .str _ => true
  | .tup _ => true
  | .lst _ => true
  | _ => false
def D.num : D → Bool
  | .int _ => true
  | _ => false
section
variable {d : D} {ds : List D} {Q : S → Prop} {α : AE} {P : List D → Prop} {l : List S} {t : DG} {u : List D → AE → (AE → Prop) → Prop} {R : AE → Prop} {n : Nat} {lo hi : Option Int}
theorem f0 : (∃ ds : List D, ([] : List S) = List.map S.fr ds ∧ P ds) ↔ P [] := by
  constructor
  · rintro ⟨ds, e, p⟩
    cases ds with
    | nil => exact p
    | cons d r => cases e
  · intro p
    exact ⟨[], rfl, p⟩
theorem fc : (∃ ds : List D, (S.fr d :: l) = List.map S.fr ds ∧ P ds) ↔ ∃ ds : List D, l = List.map S.fr ds ∧ P (d :: ds) := by
  constructor
  · rintro ⟨ds, e, p⟩
    cases ds with
    | nil => cases e
    | cons d' r =>
      rw [List.map_cons] at e
      injection e with e1 e2
      injection e1 with e1
      subst e1
      exact ⟨r, e2, p⟩
  · rintro ⟨ds, e, p⟩
    exact ⟨d :: ds, by rw [e, List.map_cons], p⟩
theorem g1 : gsNil [] α R ↔ R α := ⟨fun h => h.2, fun h => ⟨rfl, h⟩⟩
theorem g2 : gsCons t u (d :: ds) α R ↔ t d α (fun α' => u ds α' R) := ⟨fun ⟨_, _, e, h⟩ => by cases e; exact h, fun h => ⟨d, ds, rfl, h⟩⟩
theorem g3 : gTp n u (.tup ds) α R ↔ ds.length = n ∧ u ds α R := ⟨fun ⟨_, e, h⟩ => by cases e; exact h, fun h => ⟨ds, rfl, h⟩⟩
theorem s1 : fSl (.lst ds) lo hi Q = Q (.nw (.lst (cutD ds lo hi))) := rfl
theorem s2 : fSl (.tup ds) lo hi Q = Q (.fr (.tup (cutD ds lo hi))) := rfl
theorem zc {a b : List D} {P : List D → List D → Prop} : (∃ xs ys : List D, [S.fr (.lst a), S.fr (.lst b)] = [S.fr (.lst xs), S.fr (.lst ys)] ∧ P xs ys) ↔ P a b := ⟨fun ⟨_, _, e, h⟩ => by cases e; exact h, fun h => ⟨a, b, rfl, h⟩⟩
theorem lsz {n : Nat} (h : n ≤ 1000000) : n ≤ sizeLine := Nat.le_trans h line_big
end
theorem pairs_range {f : Nat → D} {n : Nat} : pairsD ((List.range (n + 1)).map f) (((List.range (n + 1)).map f).drop 1) = (List.range n).map fun i => .tup [f i, f (i + 1)] := by
  apply List.ext_getElem
  · unfold pairsD
    rw [List.length_zipWith, List.length_drop, List.length_map, List.length_map, List.length_range, List.length_range]
    omega
  · intro i h1 h2
    unfold pairsD
    simp [Nat.add_comm 1 i]
theorem take_all {ds : List D} {n m : Nat} (h : ds.length ≤ n) (h' : ds.length ≤ m) : ds.take n = ds.take m := by
  rw [List.take_of_length_le h, List.take_of_length_le h']
theorem cut_nn {ds : List D} {a b : Nat} : cutD ds (some a) (some b) = (ds.drop a).take (b - a) := by
  unfold cutD
  rw [HT.sIx_nat, HT.sIx_nat]
  by_cases h : a ≤ ds.length
  · rw [Nat.min_eq_left h]
    by_cases h2 : b ≤ ds.length
    · rw [Nat.min_eq_left h2]
    · exact take_all (by rw [List.length_drop]; omega) (by rw [List.length_drop]; omega)
  · rw [List.drop_of_length_le (l := ds) (i := min a ds.length) (by omega), List.drop_of_length_le (l := ds) (i := a) (by omega), List.take_nil, List.take_nil]
theorem cut_from {ds : List D} {a : Nat} : cutD ds (some a) none = ds.drop a := by
  unfold cutD
  rw [HT.sIx_nat, HT.sIx_none]
  by_cases h : a ≤ ds.length
  · rw [Nat.min_eq_left h]
    exact List.take_of_length_le (by rw [List.length_drop]; omega)
  · rw [List.drop_of_length_le (l := ds) (i := min a ds.length) (by omega), List.drop_of_length_le (l := ds) (i := a) (by omega), List.take_nil]
theorem cut_to {ds : List D} {b : Nat} : cutD ds none (some b) = ds.take b := by
  unfold cutD
  rw [HT.sIx_nat, HT.sIx_none, List.drop_zero, Nat.sub_zero]
  by_cases h : b ≤ ds.length
  · rw [Nat.min_eq_left h]
  · exact take_all (by omega) (by omega)
theorem map_ints {n : Nat} {f : Nat → Int} : ((List.range n).map fun i => D.int (f i)) = ((List.range n).map f).map D.int := by
  rw [List.map_map]
  rfl
/-- loops without an early end -/
theorem for_inv {tg : DG} {t : DS} {De : DEnds} {E : XD → Prop} (P : AE → Prop) : ∀ {ds : List D} {α : AE}, (∀ d ∈ ds, ∀ α, P α → ∀ nxt : AE → Prop, (∀ α', P α' → nxt α') → tg d α (fun α' => t { De with nx := nxt, ct := nxt, bk := De.nx } α' E)) → P α → (∀ α, P α → De.nx α) → forD tg t De E ds α
  | [], α, _, h0, hn => by
    unfold forD
    exact hn α h0
  | d :: ds, α, H, h0, hn => by
    unfold forD
    exact H d List.mem_cons_self α h0 _ fun α' p' => for_inv P (fun d' h' => H d' (List.mem_cons_of_mem _ h')) p' hn
theorem div_ok {i j : Int} (h : 0 < j) (h' : j < 2 ^ 8000) : DivOk i j := by
  refine ⟨h, ?_⟩
  have e : j.natAbs < 2 ^ 8000 := by omega
  have : j.natAbs.log2 < 8000 := (Nat.log2_lt (by omega)).mpr e
  omega
theorem div_ok' {i j : Int} (h : 0 < j) (h' : j ≤ 10 ^ 40) : DivOk i j := div_ok h (Int.lt_of_le_of_lt h' (by decide +kernel))
theorem pow_ok {i j : Int} (h : 0 ≤ j) (h' : j ≤ 1000) (hi : i.natAbs < 2 ^ 64) : CPow i j := ⟨h, by omega, hi⟩
theorem mul_r {a b : Int} (h : -(2 ^ 64) < b) (h' : b < 2 ^ 64) : MulOk a b := .inl (.inr ⟨h, h'⟩)
theorem mul_l {a b : Int} (h : -(2 ^ 64) < a) (h' : a < 2 ^ 64) : MulOk a b := .inl (.inl ⟨h, h'⟩)
theorem for_ints {Q : List D → Prop} {ns : List Int} : Q (ns.map D.int) = Q (ns.map D.int) := rfl
theorem p1 {d : D} {P : List D → Prop} : (∃ ds, S.fr (.lst [d]) = .fr (.lst ds) ∧ P ds) ↔ P [d] := ⟨fun ⟨ds, e, p⟩ => by cases e; exact p, fun p => ⟨_, rfl, p⟩⟩
theorem fin_t {neg : Bool} {x : D} {ds : List D} {Q : S → Prop} : fIn neg x (.tup ds) Q = (x.flat = true ∧ ds.all D.flat = true ∧ Q (.fr (.bl (if neg then !(ds.any fun y => PyData.eqv y.py x.py) else ds.any fun y => PyData.eqv y.py x.py)))) := rfl
theorem eqv_ii {i j : Int} : PyData.eqv (D.int i).py (D.int j).py = decide (i = j) := by
  simp [D.py, PyData.eqv]
  rfl
theorem intsq_map : ∀ l : List Int, ints? (l.map D.int) = some l
  | [] => rfl
  | i :: l => by
    rw [List.map_cons]
    show (match (D.int i).toI, ints? (l.map D.int) with | some i, some is => some (i :: is) | _, _ => none) = _
    rw [intsq_map l]
    rfl
theorem sum_t {l : List Int} {Q : S → Prop} (q : Q (.fr (.int l.sum))) : fSum (.tup (l.map D.int)) Q := ⟨l, intsq_map l, q⟩
theorem sum_l {l : List Int} {Q : S → Prop} (q : Q (.fr (.int l.sum))) : fSum (.lst (l.map D.int)) Q := ⟨l, intsq_map l, q⟩
theorem add_div {x y b : Int} (hb : 0 < b) : (x + y) / b = x / b + y / b ∨ ((x + y) / b = x / b + y / b + 1 ∧ 0 < y % b) := by
  have h1 := Int.mul_ediv_add_emod x b
  have h2 := Int.mul_ediv_add_emod y b
  have r1 := Int.emod_nonneg x (show b ≠ 0 by omega)
  have r2 := Int.emod_nonneg y (show b ≠ 0 by omega)
  have l1 := Int.emod_lt_of_pos x hb
  have l2 := Int.emod_lt_of_pos y hb
  have e : x + y = (x % b + y % b) + b * (x / b + y / b) := by rw [Int.mul_add]; omega
  rw [e, Int.add_mul_ediv_left _ _ (show b ≠ 0 by omega)]
  by_cases h : x % b + y % b < b
  · left
    rw [Int.ediv_eq_zero_of_lt (by omega) h]
    omega
  · right
    have e2 : x % b + y % b = (x % b + y % b - b) + b * 1 := by omega
    rw [e2, Int.add_mul_ediv_left _ _ (show b ≠ 0 by omega), Int.ediv_eq_zero_of_lt (by omega) (by omega)]
    exact ⟨by omega, by omega⟩
theorem neg_div {y b : Int} (hb : 0 < b) (h : 0 < y % b) : -(-y / b) = y / b + 1 := by
  have h2 := Int.mul_ediv_add_emod y b
  have l2 := Int.emod_lt_of_pos y hb
  have e : -y = (b - y % b) + b * (-(y / b) - 1) := by rw [Int.mul_sub, Int.mul_neg]; omega
  rw [e, Int.add_mul_ediv_left _ _ (show b ≠ 0 by omega), Int.ediv_eq_zero_of_lt (by omega) (by omega)]
  omega
end DL

set_option Elab.async false
set_option linter.all false
set_option maxRecDepth 100000
set_option maxHeartbeats 0
namespace LW
open PySem PySem.Spec L2 DL
def top (i : Nat) : Stmt := PySem.Challenge.pw_sumalarms_k51_balanced_streams.main.body.getD i (.Pass ⟨0, 0, 0, 0⟩)
abbrev s_PartError_dot_init : Stmt := inClass (top 2) 0
abbrev s_is_number : Stmt := top 6
abbrev s_is_between : Stmt := top 7
abbrev s_divisor_of : Stmt := top 10
abbrev s_is_share : Stmt := top 11
abbrev s_is_less_share : Stmt := top 12
abbrev s_need_share : Stmt := top 13
abbrev s_need_number : Stmt := top 14
abbrev s_balanced_by : Stmt := top 15
abbrev s_balanced : Stmt := top 16
abbrev s__law_begun : Stmt := top 18
abbrev s__law_blend : Stmt := top 19
abbrev s__law_draw : Stmt := top 20
abbrev s__law_pick : Stmt := top 21
abbrev s__law_caught : Stmt := top 22
abbrev s__law_common : Stmt := top 23
abbrev s__law_lowest : Stmt := top 24
abbrev s__law_share : Stmt := top 25
abbrev s__law_balanced : Stmt := top 26
abbrev s__law_even : Stmt := top 27
abbrev s__law_wrong_shares : Stmt := top 28
abbrev s__law_refuses : Stmt := top 29
abbrev s_law : Stmt := top 30
def d_is_number : He.DefD := ⟨("is_number", none), "is_number", "is_number", defArgs s_is_number, defBody s_is_number, defScope s_is_number, [], []⟩
def d_is_between : He.DefD := ⟨("is_between", none), "is_between", "is_between", defArgs s_is_between, defBody s_is_between, defScope s_is_between, [], []⟩
def d_divisor_of : He.DefD := ⟨("divisor_of", none), "divisor_of", "divisor_of", defArgs s_divisor_of, defBody s_divisor_of, defScope s_divisor_of, [], []⟩
def d_is_share : He.DefD := ⟨("is_share", none), "is_share", "is_share", defArgs s_is_share, defBody s_is_share, defScope s_is_share, [], []⟩
def d_is_less_share : He.DefD := ⟨("is_less_share", none), "is_less_share", "is_less_share", defArgs s_is_less_share, defBody s_is_less_share, defScope s_is_less_share, [], []⟩
def d_need_share : He.DefD := ⟨("need_share", none), "need_share", "need_share", defArgs s_need_share, defBody s_need_share, defScope s_need_share, [], []⟩
def d_need_number : He.DefD := ⟨("need_number", none), "need_number", "need_number", defArgs s_need_number, defBody s_need_number, defScope s_need_number, [], []⟩
def d_balanced_by : He.DefD := ⟨("balanced_by", none), "balanced_by", "balanced_by", defArgs s_balanced_by, defBody s_balanced_by, defScope s_balanced_by, [], []⟩
def d_balanced : He.DefD := ⟨("balanced", none), "balanced", "balanced", defArgs s_balanced, defBody s_balanced, defScope s_balanced, [], []⟩
def d__law_begun : He.DefD := ⟨("_law_begun", none), "_law_begun", "_law_begun", defArgs s__law_begun, defBody s__law_begun, defScope s__law_begun, [], []⟩
def d__law_blend : He.DefD := ⟨("_law_blend", none), "_law_blend", "_law_blend", defArgs s__law_blend, defBody s__law_blend, defScope s__law_blend, [], []⟩
def d__law_draw : He.DefD := ⟨("_law_draw", none), "_law_draw", "_law_draw", defArgs s__law_draw, defBody s__law_draw, defScope s__law_draw, [], []⟩
def d__law_pick : He.DefD := ⟨("_law_pick", none), "_law_pick", "_law_pick", defArgs s__law_pick, defBody s__law_pick, defScope s__law_pick, [], []⟩
def d__law_caught : He.DefD := ⟨("_law_caught", none), "_law_caught", "_law_caught", defArgs s__law_caught, defBody s__law_caught, defScope s__law_caught, [], []⟩
def d__law_common : He.DefD := ⟨("_law_common", none), "_law_common", "_law_common", defArgs s__law_common, defBody s__law_common, defScope s__law_common, [], []⟩
def d__law_lowest : He.DefD := ⟨("_law_lowest", none), "_law_lowest", "_law_lowest", defArgs s__law_lowest, defBody s__law_lowest, defScope s__law_lowest, [], []⟩
def d__law_share : He.DefD := ⟨("_law_share", none), "_law_share", "_law_share", defArgs s__law_share, defBody s__law_share, defScope s__law_share, [], []⟩
def d__law_balanced : He.DefD := ⟨("_law_balanced", none), "_law_balanced", "_law_balanced", defArgs s__law_balanced, defBody s__law_balanced, defScope s__law_balanced, [], []⟩
def d__law_even : He.DefD := ⟨("_law_even", none), "_law_even", "_law_even", defArgs s__law_even, defBody s__law_even, defScope s__law_even, [], []⟩
def d__law_wrong_shares : He.DefD := ⟨("_law_wrong_shares", none), "_law_wrong_shares", "_law_wrong_shares", defArgs s__law_wrong_shares, defBody s__law_wrong_shares, defScope s__law_wrong_shares, [], []⟩
def d__law_refuses : He.DefD := ⟨("_law_refuses", none), "_law_refuses", "_law_refuses", defArgs s__law_refuses, defBody s__law_refuses, defScope s__law_refuses, [], []⟩
def d_law : He.DefD := ⟨("law", none), "law", "law", defArgs s_law, defBody s_law, defScope s_law, [], []⟩
def fn : List He.DefD := [d_is_number, d_is_between, d_divisor_of, d_is_share, d_is_less_share, d_need_share, d_need_number, d_balanced_by, d_balanced, d__law_begun, d__law_blend, d__law_draw, d__law_pick, d__law_caught, d__law_common, d__law_lowest, d__law_share, d__law_balanced, d__law_even, d__law_wrong_shares, d__law_refuses, d_law]
def d_PartError_dot_init : DLH.IniD := ⟨("PartError", some "__init__"), defArgs s_PartError_dot_init, defBody s_PartError_dot_init, defScope s_PartError_dot_init⟩
def ini : List DLH.IniD := [d_PartError_dot_init]
def CA (K : PySem.W.Frag) (i : Nat) : Addr := He.ga K ((["AlarmError", "PartError", "BadNumber", "BadShare"] : List Str).getD i "")
def nCls : Nat := 4
def subB (a b : Nat) : Bool := (([[true, false, false, false], [true, true, false, false], [true, true, true, false], [true, false, false, true]] : List (List Bool)).getD a []).getD b false
def exB (a : Nat) : Bool := ([true, true, true, true] : List Bool).getD a false
def okc (a : Nat) : Bool := ([true, true, true, true] : List Bool).getD a false
def okf_part (a : Nat) : Bool := ([false, true, true, false] : List Bool).getD a false
def lamQ (x : Str) (sc : Scope) : Str := (PyProof.Rows.envOfC x sc 0 0 .none).qual ++ "<lambda>"
def tf : List He.Defn := [("_law_refuses", none)]
def TT (K : PySem.W.Frag) : List (Addr × Str) := [((He.cT K ("_law_refuses", none)).2, lamQ "_law_refuses" (defScope s__law_refuses))]
abbrev tn : TN := ⟨"large", "rest", "cells", "turn"⟩
theorem tnok : tn.Ok := ⟨by decide, by decide, by decide, by decide, by decide, by decide⟩
def fa : List He.Fa := [.glo "is_number", .glo "is_between", .glo "divisor_of", .glo "is_share", .glo "is_less_share", .glo "need_share", .glo "need_number", .glo "balanced_by", .glo "balanced", .glo "_law_begun", .glo "_law_blend", .glo "_law_draw", .glo "_law_pick", .glo "_law_caught", .glo "_law_common", .glo "_law_lowest", .glo "_law_share", .glo "_law_balanced", .glo "_law_even", .glo "_law_wrong_shares", .glo "_law_refuses", .glo "law", .glo "AlarmError", .glo "PartError", .glo "BadNumber", .glo "BadShare", .free "abs", .free "bool", .free "int", .free "isinstance", .free "len", .free "min", .free "range", .free "sum", .free "super", .free "tuple", .free "zip", .int "MOST_SHARE" 100]
def ex0 (K : PySem.W.Frag) : Bool := DLH.kindsB K (CA K) nCls subB exB
def ex1 (K : PySem.W.Frag) : Bool := DLH.excRB K (CA K 3)
def ex2 (K : PySem.W.Frag) : Bool := DLH.iniCB K (CA K 1) "part" (CA K 2) (He.fAd K ("PartError", some "__init__"))
def ex3 (K : PySem.W.Frag) : Bool := DLH.iniFB PySem.Challenge.pw_sumalarms_k51_balanced_streams K (CA K 1) (He.fAd K ("PartError", some "__init__"))
def ex4 (K : PySem.W.Frag) : Bool := (List.range nCls).all fun c => !okc c || decide (PySem.W.exmOne K (.ref (CA K c)) (.ref (CA K 0)) = some true)
def ex5 (K : PySem.W.Frag) : Bool := (List.range nCls).all fun c => !okf_part c || (L2.xfB K (CA K c) && He.eqO (PySem.W.findIn K (.ref (CA K c)) "part") (some none))
def ex (K : PySem.W.Frag) : Bool := ex0 K && (ex1 K && (ex2 K && (ex3 K && (ex4 K && (ex5 K)))))
def loose : List Str := ["AlarmError", "PartError", "BadNumber", "BadShare", "is_number", "is_between", "MOST_SHARE", "divisor_of", "is_share", "is_less_share", "need_share", "need_number", "balanced_by", "balanced", "_law_begun", "_law_blend", "_law_draw", "_law_pick", "_law_caught", "_law_common", "_law_lowest", "_law_share", "_law_balanced", "_law_even", "_law_wrong_shares", "_law_refuses"]
abbrev R : PySem.W.OpenRow := PySem.W.OpenLaw.row PySem.Challenge.rw_sumalarms_k51_balanced_streams
abbrev hk : PySem.W.Hook := DLH.hookY 5 fa fn tf ex ini
def ob (s : PySem.W.SharedT) : DLH.AlY := DLH.obsY 5 fa fn tf ex ini (HandSHeadRun.getT s)
theorem ob_eq (s : PySem.W.SharedT) : ob s = hk.obs s.abs := DLH.obsY_eq (HandSHeadRun.getT_eq s)
end LW

set_option Elab.async false
set_option linter.all false
set_option maxRecDepth 100000
set_option maxHeartbeats 4000000
namespace LW
open PySem PySem.Spec L2 DL
theorem bt_abs : bootBuiltins "abs" = some (.builtin "abs") := by decide +kernel
theorem bt_bool : bootBuiltins "bool" = some (.type "bool") := by decide +kernel
theorem bt_int : bootBuiltins "int" = some (.type "int") := by decide +kernel
theorem bt_isinstance : bootBuiltins "isinstance" = some (.builtin "isinstance") := by decide +kernel
theorem bt_len : bootBuiltins "len" = some (.builtin "len") := by decide +kernel
theorem bt_min : bootBuiltins "min" = some (.builtin "min") := by decide +kernel
theorem bt_range : bootBuiltins "range" = some (.type "range") := by decide +kernel
theorem bt_sum : bootBuiltins "sum" = some (.builtin "sum") := by decide +kernel
theorem bt_tuple : bootBuiltins "tuple" = some (.type "tuple") := by decide +kernel
theorem bt_zip : bootBuiltins "zip" = some (.type "zip") := by decide +kernel
structure Facts0 (K : PySem.W.Frag) (mg : Str → Option Value) : Prop where
  m_abs : mg "abs" = none
  m_bool : mg "bool" = none
  m_int : mg "int" = none
  m_isinstance : mg "isinstance" = none
  m_len : mg "len" = none
  m_min : mg "min" = none
  m_range : mg "range" = none
  m_sum : mg "sum" = none
  m_super : mg "super" = none
  m_tuple : mg "tuple" = none
  m_zip : mg "zip" = none
  c_MOST_SHARE : ∃ t, mg "MOST_SHARE" = some (.int 100 t)
  g_is_number : mg "is_number" = some (.ref (He.fAd K ("is_number", none)))
  d_is_number : ∃ fd, FunD K "is_number" "is_number" (defArgs s_is_number) (defBody s_is_number) (defScope s_is_number) [] [] (He.fAd K ("is_number", none)) fd
  g_is_between : mg "is_between" = some (.ref (He.fAd K ("is_between", none)))
  d_is_between : ∃ fd, FunD K "is_between" "is_between" (defArgs s_is_between) (defBody s_is_between) (defScope s_is_between) [] [] (He.fAd K ("is_between", none)) fd
  g_divisor_of : mg "divisor_of" = some (.ref (He.fAd K ("divisor_of", none)))
  d_divisor_of : ∃ fd, FunD K "divisor_of" "divisor_of" (defArgs s_divisor_of) (defBody s_divisor_of) (defScope s_divisor_of) [] [] (He.fAd K ("divisor_of", none)) fd
  g_is_share : mg "is_share" = some (.ref (He.fAd K ("is_share", none)))
  d_is_share : ∃ fd, FunD K "is_share" "is_share" (defArgs s_is_share) (defBody s_is_share) (defScope s_is_share) [] [] (He.fAd K ("is_share", none)) fd
  g_is_less_share : mg "is_less_share" = some (.ref (He.fAd K ("is_less_share", none)))
  d_is_less_share : ∃ fd, FunD K "is_less_share" "is_less_share" (defArgs s_is_less_share) (defBody s_is_less_share) (defScope s_is_less_share) [] [] (He.fAd K ("is_less_share", none)) fd
  g_need_share : mg "need_share" = some (.ref (He.fAd K ("need_share", none)))
  d_need_share : ∃ fd, FunD K "need_share" "need_share" (defArgs s_need_share) (defBody s_need_share) (defScope s_need_share) [] [] (He.fAd K ("need_share", none)) fd
  g_need_number : mg "need_number" = some (.ref (He.fAd K ("need_number", none)))
  d_need_number : ∃ fd, FunD K "need_number" "need_number" (defArgs s_need_number) (defBody s_need_number) (defScope s_need_number) [] [] (He.fAd K ("need_number", none)) fd
  g_balanced_by : mg "balanced_by" = some (.ref (He.fAd K ("balanced_by", none)))
  d_balanced_by : ∃ fd, FunD K "balanced_by" "balanced_by" (defArgs s_balanced_by) (defBody s_balanced_by) (defScope s_balanced_by) [] [] (He.fAd K ("balanced_by", none)) fd
  g_balanced : mg "balanced" = some (.ref (He.fAd K ("balanced", none)))
  d_balanced : ∃ fd, FunD K "balanced" "balanced" (defArgs s_balanced) (defBody s_balanced) (defScope s_balanced) [] [] (He.fAd K ("balanced", none)) fd
  g__law_begun : mg "_law_begun" = some (.ref (He.fAd K ("_law_begun", none)))
  d__law_begun : ∃ fd, FunD K "_law_begun" "_law_begun" (defArgs s__law_begun) (defBody s__law_begun) (defScope s__law_begun) [] [] (He.fAd K ("_law_begun", none)) fd
  g__law_blend : mg "_law_blend" = some (.ref (He.fAd K ("_law_blend", none)))
  d__law_blend : ∃ fd, FunD K "_law_blend" "_law_blend" (defArgs s__law_blend) (defBody s__law_blend) (defScope s__law_blend) [] [] (He.fAd K ("_law_blend", none)) fd
  g__law_draw : mg "_law_draw" = some (.ref (He.fAd K ("_law_draw", none)))
  d__law_draw : ∃ fd, FunD K "_law_draw" "_law_draw" (defArgs s__law_draw) (defBody s__law_draw) (defScope s__law_draw) [] [] (He.fAd K ("_law_draw", none)) fd
  g__law_pick : mg "_law_pick" = some (.ref (He.fAd K ("_law_pick", none)))
  d__law_pick : ∃ fd, FunD K "_law_pick" "_law_pick" (defArgs s__law_pick) (defBody s__law_pick) (defScope s__law_pick) [] [] (He.fAd K ("_law_pick", none)) fd
  g__law_caught : mg "_law_caught" = some (.ref (He.fAd K ("_law_caught", none)))
  d__law_caught : ∃ fd, FunD K "_law_caught" "_law_caught" (defArgs s__law_caught) (defBody s__law_caught) (defScope s__law_caught) [] [] (He.fAd K ("_law_caught", none)) fd
  g__law_common : mg "_law_common" = some (.ref (He.fAd K ("_law_common", none)))
  d__law_common : ∃ fd, FunD K "_law_common" "_law_common" (defArgs s__law_common) (defBody s__law_common) (defScope s__law_common) [] [] (He.fAd K ("_law_common", none)) fd
  g__law_lowest : mg "_law_lowest" = some (.ref (He.fAd K ("_law_lowest", none)))
  d__law_lowest : ∃ fd, FunD K "_law_lowest" "_law_lowest" (defArgs s__law_lowest) (defBody s__law_lowest) (defScope s__law_lowest) [] [] (He.fAd K ("_law_lowest", none)) fd
  g__law_share : mg "_law_share" = some (.ref (He.fAd K ("_law_share", none)))
  d__law_share : ∃ fd, FunD K "_law_share" "_law_share" (defArgs s__law_share) (defBody s__law_share) (defScope s__law_share) [] [] (He.fAd K ("_law_share", none)) fd
  g__law_balanced : mg "_law_balanced" = some (.ref (He.fAd K ("_law_balanced", none)))
  d__law_balanced : ∃ fd, FunD K "_law_balanced" "_law_balanced" (defArgs s__law_balanced) (defBody s__law_balanced) (defScope s__law_balanced) [] [] (He.fAd K ("_law_balanced", none)) fd
  g__law_even : mg "_law_even" = some (.ref (He.fAd K ("_law_even", none)))
  d__law_even : ∃ fd, FunD K "_law_even" "_law_even" (defArgs s__law_even) (defBody s__law_even) (defScope s__law_even) [] [] (He.fAd K ("_law_even", none)) fd
  g__law_wrong_shares : mg "_law_wrong_shares" = some (.ref (He.fAd K ("_law_wrong_shares", none)))
  d__law_wrong_shares : ∃ fd, FunD K "_law_wrong_shares" "_law_wrong_shares" (defArgs s__law_wrong_shares) (defBody s__law_wrong_shares) (defScope s__law_wrong_shares) [] [] (He.fAd K ("_law_wrong_shares", none)) fd
  g__law_refuses : mg "_law_refuses" = some (.ref (He.fAd K ("_law_refuses", none)))
  d__law_refuses : ∃ fd, FunD K "_law_refuses" "_law_refuses" (defArgs s__law_refuses) (defBody s__law_refuses) (defScope s__law_refuses) [] [] (He.fAd K ("_law_refuses", none)) fd
  g_law : mg "law" = some (.ref (He.fAd K ("law", none)))
  d_law : ∃ fd, FunD K "law" "law" (defArgs s_law) (defBody s_law) (defScope s_law) [] [] (He.fAd K ("law", none)) fd
structure Facts (P : Program) (w : World) (K : PySem.W.Frag) (mg : Str → Option Value) (base : Heap) (g : Gv) : Prop extends Facts0 K mg where
  kinds : Kinds K g nCls subB exB
  g_AlarmError : mg "AlarmError" = some (.ref (g.CA 0))
  g_PartError : mg "PartError" = some (.ref (g.CA 1))
  g_BadNumber : mg "BadNumber" = some (.ref (g.CA 2))
  g_BadShare : mg "BadShare" = some (.ref (g.CA 3))
  e_BadShare : ExcR K (g.CA 3)
  i_BadNumber : IniOk P w K mg base "part" (g.CA 2)
  xf_part : ∀ c, okf_part c = true → XfC K (g.CA c) ∧ PySem.W.findIn K (.ref (g.CA c)) "part" = some none
  okc : ∀ c, okc c = true → PySem.W.exmOne K (.ref (g.CA c)) (.ref (g.CA 0)) = some true
  tape : IsTape g (TT K) tn
  lam : LamT g (TT K)
  tab__law_refuses : LamX.TabB base mg (He.codeOf K ("_law_refuses", none)) (He.cT K ("_law_refuses", none)).2
section
variable {P : Program} {w : World} {K : PySem.W.Frag} {mg : Str → Option Value} {base : Heap} {g : Gv}
theorem sc__law_caught : FnScope ["work", "found", "error"] ["work"] (defScope s__law_caught) := ⟨rfl, rfl, rfl, by decide +kernel, rfl, by decide +kernel, by decide +kernel⟩
theorem sc__law_begun : FnScope ["script", "large", "grain"] ["script"] (defScope s__law_begun) := ⟨rfl, rfl, rfl, by decide +kernel, rfl, by decide +kernel, by decide +kernel⟩
def t1__law_begun : DS := (dAsg 1 (dLc (dIterL (dVar 0)) (gNm 2) (dTest (dBin fGe (dCB (one fAbs) (dCons (dVar 2) dNil)) (dBin fPow (dC (.int 10)) (dC (.int 18))))) (dBin fSub (dCB (one fAbs) (dCons (dVar 2) dNil)) (dBin fPow (dC (.int 10)) (dC (.int 18)))) [2]))
def u__law_begun : DA := (dCons (dVar 1) (dCons (dC (.int 0)) (dCons (dLc (dIterL (dVar 0)) (gNm 2) dYes (dCB (one fAbs) (dCons (dVar 2) dNil)) [2]) (dCons (dC (.int 0)) dNil))))
def k__law_begun : List Key := [.inr "large", .inr "rest", .inr "cells", .inr "turn"]
theorem okf__law_begun (FF : Facts0 K mg) {fd : FuncData} (F : FunD K "_law_begun" "_law_begun" (defArgs s__law_begun) (defBody s__law_begun) (defScope s__law_begun) [] [] (He.fAd K ("_law_begun", none)) fd)
    (hp : ∀ ns : List Int, ns.length ≤ 63 → t1__law_begun { nx := fun α => u__law_begun α (tapeSs tn k__law_begun) (fun _ => False), rt := fun _ => False } (startA ["script", "large", "grain"] [.fr (.scr ns)]) (fun _ => False)) : FnOk P w K mg base (L2.CX P w) 1 (He.fAd K ("_law_begun", none)) fd ["script"] (spBegun (TT K) K tn) :=
  begun_ok (k := 0) (ks := k__law_begun) F sc__law_begun tnok (by decide +kernel) (fun cdv A outer s H E hr => ⟨(qs_setLc (i := 1) (own := [("grain", 2)]) rfl sc__law_begun.nd rfl rfl rfl (qi_list (qe_var (i := 0) rfl (vis_of rfl))) (blkOk_by (by kernel_rfl)) (fun _ _ _ _ _ => (qgv_name (i := 2) sc__law_begun.nd rfl (loc_of rfl) (by decide))) (fun _ _ _ _ _ => (qts_one (qt_cmp op_ge os_ge (qe_callB call_abs cs_abs rfl FF.m_abs bt_abs (qa_cons (qe_var (i := 2) rfl (vis_of rfl)) qa_nil)) (qe_bin op_pow os_pow qe_int qe_int) (nomark _)))) (fun _ _ _ _ _ => (qe_bin op_sub os_sub (qe_callB call_abs cs_abs rfl FF.m_abs bt_abs (qa_cons (qe_var (i := 2) rfl (vis_of rfl)) qa_nil)) (qe_bin op_pow os_pow qe_int qe_int)))), (qp_cons (qe_var (i := 1) rfl (vis_of rfl)) (qp_cons qe_int (qp_cons (qe_lc (own := [("grain", 2)]) rfl sc__law_begun.nd (qi_list (qe_var (i := 0) rfl (vis_of rfl))) (blkOk_by (by kernel_rfl)) (fun _ _ _ _ _ => (qgv_name (i := 2) sc__law_begun.nd rfl (loc_of rfl) (by decide))) (fun _ _ _ _ _ => qts_nil) (fun _ _ _ _ _ => (qe_callB call_abs cs_abs rfl FF.m_abs bt_abs (qa_cons (qe_var (i := 2) rfl (vis_of rfl)) qa_nil)))) (qp_cons qe_int qp_nil))))⟩) hp
theorem sc_is_number : FnScope ["thing"] ["thing"] (defScope s_is_number) := ⟨rfl, rfl, rfl, by decide +kernel, rfl, by decide +kernel, by decide +kernel⟩
def t_is_number : DS := (dRet (dAndV (dIs nCls exB (isT "int") (dVar 0)) (dNotV (dIs nCls exB (isT "bool") (dVar 0)))))
def phi_is_number : DF := phi ["thing"] t_is_number
theorem okf_is_number (FF : Facts P w K mg base g) {fd : FuncData} (F : FunD K "is_number" "is_number" (defArgs s_is_number) (defBody s_is_number) (defScope s_is_number) [] [] (He.fAd K ("is_number", none)) fd) : FnOk P w K mg base (L2.CX P w) 1 (He.fAd K ("is_number", none)) fd ["thing"] (spD K g 1 phi_is_number) :=
  fn_ok (k := 0) (N := ["thing"]) (t := t_is_number) F sc_is_number (fun cdv A outer s H E hr => (qss_one (qs_ret (qe_and (qe_isT FF.kinds rfl FF.m_isinstance rfl FF.m_int bt_int (by decide) (qe_var (i := 0) rfl (vis_of rfl))) (qe_one (qe_not (qe_isT FF.kinds rfl FF.m_isinstance rfl FF.m_bool bt_bool (by decide) (qe_var (i := 0) rfl (vis_of rfl)))))))))
theorem ok_is_number (FF : Facts P w K mg base g) : Fn P w K mg base g 1 "is_number" ["thing"] phi_is_number := by
  obtain ⟨fd, F⟩ := FF.d_is_number
  exact ⟨_, fd, okf_is_number FF F, FF.g_is_number, F.kp, F.bindsN fun _ _ _ _ _ _ us hl => match us, hl with | [_], _ => rfl⟩
theorem sc_is_between : FnScope ["thing", "low", "high"] ["thing", "low", "high"] (defScope s_is_between) := ⟨rfl, rfl, rfl, by decide +kernel, rfl, by decide +kernel, by decide +kernel⟩
def t_is_between : DS := (dRet (dAndV (dCall 1 phi_is_number (dCons (dVar 0) dNil)) (dChain fLe fLe (dVar 1) (dVar 0) (dVar 2))))
def phi_is_between : DF := phi ["thing", "low", "high"] t_is_between
theorem okf_is_between (FF : Facts P w K mg base g) {fd : FuncData} (F : FunD K "is_between" "is_between" (defArgs s_is_between) (defBody s_is_between) (defScope s_is_between) [] [] (He.fAd K ("is_between", none)) fd) : FnOk P w K mg base (L2.CX P w) 2 (He.fAd K ("is_between", none)) fd ["thing", "low", "high"] (spD K g 3 phi_is_between) :=
  fn_ok (k := 1) (N := ["thing", "low", "high"]) (t := t_is_between) F sc_is_between (fun cdv A outer s H E hr => (qss_one (qs_ret (qe_and (qe_call (ok_is_number FF) (hr.mono (by decide)) rfl (qa_cons (qe_var (i := 0) rfl (vis_of rfl)) qa_nil)) (qe_one (qe_chain op_le op_le os_le os_le (qe_var (i := 1) rfl (vis_of rfl)) (qe_var (i := 0) rfl (vis_of rfl)) (qe_var (i := 2) rfl (vis_of rfl))))))))
theorem ok_is_between (FF : Facts P w K mg base g) : Fn P w K mg base g 2 "is_between" ["thing", "low", "high"] phi_is_between := by
  obtain ⟨fd, F⟩ := FF.d_is_between
  exact ⟨_, fd, okf_is_between FF F, FF.g_is_between, F.kp, F.bindsN fun _ _ _ _ _ _ us hl => match us, hl with | [_, _, _], _ => rfl⟩
theorem sc_divisor_of : FnScope ["one", "other"] ["one", "other"] (defScope s_divisor_of) := ⟨rfl, rfl, rfl, by decide +kernel, rfl, by decide +kernel, by decide +kernel⟩
def t_divisor_of : DS := (dSeq (dPar 0 1 (dFz (dCB (one fAbs) (dCons (dVar 0) dNil))) (dFz (dCB (one fAbs) (dCons (dVar 1) dNil)))) (dSeq (dWhile (dTest (dBin fNe (dVar 1) (dC (.int 0)))) (dPar 0 1 (dFz (dVar 1)) (dFz (dBin fMod (dVar 0) (dVar 1))))) (dRetV 0)))
def phi_divisor_of : DF := phi ["one", "other"] t_divisor_of
theorem okf_divisor_of (FF : Facts P w K mg base g) {fd : FuncData} (F : FunD K "divisor_of" "divisor_of" (defArgs s_divisor_of) (defBody s_divisor_of) (defScope s_divisor_of) [] [] (He.fAd K ("divisor_of", none)) fd) : FnOk P w K mg base (L2.CX P w) 1 (He.fAd K ("divisor_of", none)) fd ["one", "other"] (spD K g 2 phi_divisor_of) :=
  fn_ok (k := 0) (N := ["one", "other"]) (t := t_divisor_of) F sc_divisor_of (fun cdv A outer s H E hr => (qss_cons (qs_par (i := 0) (j := 1) rfl sc_divisor_of.nd rfl rfl (by decide) rfl rfl (qe_fz (qe_callB call_abs cs_abs rfl FF.m_abs bt_abs (qa_cons (qe_var (i := 0) rfl (vis_of rfl)) qa_nil))) (qe_fz (qe_callB call_abs cs_abs rfl FF.m_abs bt_abs (qa_cons (qe_var (i := 1) rfl (vis_of rfl)) qa_nil))) rfl) (qss_cons (qs_while (passes_of rfl) (qt_cmp (op_neD (u64 hr)) os_ne (qe_var (i := 1) rfl (vis_of rfl)) qe_int (nomark _)) (qss_one (qs_par (i := 0) (j := 1) rfl sc_divisor_of.nd rfl rfl (by decide) rfl rfl (qe_fz (qe_var (i := 1) rfl (vis_of rfl))) (qe_fz (qe_bin op_mod os_mod (qe_var (i := 0) rfl (vis_of rfl)) (qe_var (i := 1) rfl (vis_of rfl)))) rfl))) (qss_one (qs_retV (i := 0) rfl (vis_of rfl))))))
theorem ok_divisor_of (FF : Facts P w K mg base g) : Fn P w K mg base g 1 "divisor_of" ["one", "other"] phi_divisor_of := by
  obtain ⟨fd, F⟩ := FF.d_divisor_of
  exact ⟨_, fd, okf_divisor_of FF F, FF.g_divisor_of, F.kp, F.bindsN fun _ _ _ _ _ _ us hl => match us, hl with | [_, _], _ => rfl⟩
theorem sc_is_share : FnScope ["thing"] ["thing"] (defScope s_is_share) := ⟨rfl, rfl, rfl, by decide +kernel, rfl, by decide +kernel, by decide +kernel⟩
def t_is_share : DS := (dSeq (dIf (dOrT (dNotT (dTruth (dIs nCls exB (isT "tuple") (dVar 0)))) (dOrT (dTest (dBin fNe (dCB (one fLen) (dCons (dVar 0) dNil)) (dC (.int 2)))) (dOrT (dNotT (dTruth (dCall 1 phi_is_number (dCons (dBin fIx (dVar 0) (dC (.int 0))) dNil)))) (dNotT (dTruth (dCall 1 phi_is_number (dCons (dBin fIx (dVar 0) (dC (.int 1))) dNil))))))) (dRet (dC (.bl false))) dNext) (dRet (dAndV (dBin fGt (dBin fIx (dVar 0) (dC (.int 1))) (dC (.int 0))) (dBin fEq (dCall 2 phi_divisor_of (dCons (dBin fIx (dVar 0) (dC (.int 0))) (dCons (dBin fIx (dVar 0) (dC (.int 1))) dNil))) (dC (.int 1))))))
def phi_is_share : DF := phi ["thing"] t_is_share
theorem okf_is_share (FF : Facts P w K mg base g) {fd : FuncData} (F : FunD K "is_share" "is_share" (defArgs s_is_share) (defBody s_is_share) (defScope s_is_share) [] [] (He.fAd K ("is_share", none)) fd) : FnOk P w K mg base (L2.CX P w) 2 (He.fAd K ("is_share", none)) fd ["thing"] (spD K g 1 phi_is_share) :=
  fn_ok (k := 1) (N := ["thing"]) (t := t_is_share) F sc_is_share (fun cdv A outer s H E hr => (qss_cons (qs_if (QW.qt (qw_or (qt_not (qt_truth (qe_isT FF.kinds rfl FF.m_isinstance rfl FF.m_tuple bt_tuple (by decide) (qe_var (i := 0) rfl (vis_of rfl))) (by intro _; rfl))) (qw_or (qt_cmp (op_neD (u64 hr)) os_ne (qe_callB call_len cs_len rfl FF.m_len bt_len (qa_cons (qe_var (i := 0) rfl (vis_of rfl)) qa_nil)) qe_int (nomark _)) (qw_or (qt_not (qt_truth (qe_call (ok_is_number FF) (hr.mono (by decide)) rfl (qa_cons (qe_ix (qe_var (i := 0) rfl (vis_of rfl)) qe_int fun _ _ => rfl) qa_nil)) (by intro _; rfl))) (qw_or1 (qt_not (qt_truth (qe_call (ok_is_number FF) (hr.mono (by decide)) rfl (qa_cons (qe_ix (qe_var (i := 0) rfl (vis_of rfl)) qe_int fun _ _ => rfl) qa_nil)) (by intro _; rfl)))))))) (qss_one (qs_ret qe_bl)) qss_nil) (qss_one (qs_ret (qe_and (qe_cmp op_gt os_gt (qe_ix (qe_var (i := 0) rfl (vis_of rfl)) qe_int fun _ _ => rfl) qe_int (nomark _)) (qe_one (qe_cmp (op_eqD (u64 hr)) os_eq (qe_call (ok_divisor_of FF) (hr.mono (by decide)) rfl (qa_cons (qe_ix (qe_var (i := 0) rfl (vis_of rfl)) qe_int fun _ _ => rfl) (qa_cons (qe_ix (qe_var (i := 0) rfl (vis_of rfl)) qe_int fun _ _ => rfl) qa_nil))) qe_int (nomark _))))))))
theorem ok_is_share (FF : Facts P w K mg base g) : Fn P w K mg base g 2 "is_share" ["thing"] phi_is_share := by
  obtain ⟨fd, F⟩ := FF.d_is_share
  exact ⟨_, fd, okf_is_share FF F, FF.g_is_share, F.kp, F.bindsN fun _ _ _ _ _ _ us hl => match us, hl with | [_], _ => rfl⟩
theorem sc_is_less_share : FnScope ["one", "other"] ["one", "other"] (defScope s_is_less_share) := ⟨rfl, rfl, rfl, by decide +kernel, rfl, by decide +kernel, by decide +kernel⟩
def t_is_less_share : DS := (dRet (dBin fLt (dBin fMul (dBin fIx (dVar 0) (dC (.int 0))) (dBin fIx (dVar 1) (dC (.int 1)))) (dBin fMul (dBin fIx (dVar 1) (dC (.int 0))) (dBin fIx (dVar 0) (dC (.int 1))))))
def phi_is_less_share : DF := phi ["one", "other"] t_is_less_share
theorem okf_is_less_share (FF : Facts P w K mg base g) {fd : FuncData} (F : FunD K "is_less_share" "is_less_share" (defArgs s_is_less_share) (defBody s_is_less_share) (defScope s_is_less_share) [] [] (He.fAd K ("is_less_share", none)) fd) : FnOk P w K mg base (L2.CX P w) 1 (He.fAd K ("is_less_share", none)) fd ["one", "other"] (spD K g 2 phi_is_less_share) :=
  fn_ok (k := 0) (N := ["one", "other"]) (t := t_is_less_share) F sc_is_less_share (fun cdv A outer s H E hr => (qss_one (qs_ret (qe_cmp op_lt os_lt (qe_bin or_mul os_mul (qe_ix (qe_var (i := 0) rfl (vis_of rfl)) qe_int fun _ _ => rfl) (qe_ix (qe_var (i := 1) rfl (vis_of rfl)) qe_int fun _ _ => rfl)) (qe_bin or_mul os_mul (qe_ix (qe_var (i := 1) rfl (vis_of rfl)) qe_int fun _ _ => rfl) (qe_ix (qe_var (i := 0) rfl (vis_of rfl)) qe_int fun _ _ => rfl)) (nomark _)))))
theorem ok_is_less_share (FF : Facts P w K mg base g) : Fn P w K mg base g 1 "is_less_share" ["one", "other"] phi_is_less_share := by
  obtain ⟨fd, F⟩ := FF.d_is_less_share
  exact ⟨_, fd, okf_is_less_share FF F, FF.g_is_less_share, F.kp, F.bindsN fun _ _ _ _ _ _ us hl => match us, hl with | [_, _], _ => rfl⟩
theorem sc_need_share : FnScope ["share"] ["share"] (defScope s_need_share) := ⟨rfl, rfl, rfl, by decide +kernel, rfl, by decide +kernel, by decide +kernel⟩
def t_need_share : DS := (dIf (dOrT (dNotT (dTruth (dCall 1 phi_is_share (dCons (dVar 0) dNil)))) (dOrT (dTruth (dCall 2 phi_is_less_share (dCons (dVar 0) (dCons (dTupE (dCons (dUn fNeg (dC (.int 100))) (dCons (dC (.int 1)) dNil))) dNil)))) (dTruth (dCall 2 phi_is_less_share (dCons (dTupE (dCons (dC (.int 100)) (dCons (dC (.int 1)) dNil))) (dCons (dVar 0) dNil)))))) (dRaise 3) dNext)
def phi_need_share : DF := phi ["share"] t_need_share
theorem okf_need_share (FF : Facts P w K mg base g) {fd : FuncData} (F : FunD K "need_share" "need_share" (defArgs s_need_share) (defBody s_need_share) (defScope s_need_share) [] [] (He.fAd K ("need_share", none)) fd) : FnOk P w K mg base (L2.CX P w) 3 (He.fAd K ("need_share", none)) fd ["share"] (spD K g 1 phi_need_share) :=
  fn_ok (k := 2) (N := ["share"]) (t := t_need_share) F sc_need_share (fun cdv A outer s H E hr => (qss_one (qs_if (QW.qt (qw_or (qt_not (qt_truth (qe_call (ok_is_share FF) (hr.mono (by decide)) rfl (qa_cons (qe_var (i := 0) rfl (vis_of rfl)) qa_nil)) (by intro _; rfl))) (qw_or (qt_truth (qe_call (ok_is_less_share FF) (hr.mono (by decide)) rfl (qa_cons (qe_var (i := 0) rfl (vis_of rfl)) (qa_cons (qe_tup (qa_cons (qe_un un_neg us_neg (qe_intG FF.c_MOST_SHARE rfl)) (qa_cons qe_int qa_nil))) qa_nil))) (by intro _; rfl)) (qw_or1 (qt_truth (qe_call (ok_is_less_share FF) (hr.mono (by decide)) rfl (qa_cons (qe_tup (qa_cons (qe_intG FF.c_MOST_SHARE rfl) (qa_cons qe_int qa_nil))) (qa_cons (qe_var (i := 0) rfl (vis_of rfl)) qa_nil))) (by intro _; rfl)))))) (qss_one (qs_raise (c := 3) rfl FF.e_BadShare FF.g_BadShare rfl)) qss_nil)))
theorem ok_need_share (FF : Facts P w K mg base g) : Fn P w K mg base g 3 "need_share" ["share"] phi_need_share := by
  obtain ⟨fd, F⟩ := FF.d_need_share
  exact ⟨_, fd, okf_need_share FF F, FF.g_need_share, F.kp, F.bindsN fun _ _ _ _ _ _ us hl => match us, hl with | [_], _ => rfl⟩
theorem sc_need_number : FnScope ["part", "number", "low", "high"] ["part", "number", "low", "high"] (defScope s_need_number) := ⟨rfl, rfl, rfl, by decide +kernel, rfl, by decide +kernel, by decide +kernel⟩
def t_need_number : DS := (dIf (dNotT (dTruth (dCall 3 phi_is_between (dCons (dVar 1) (dCons (dVar 2) (dCons (dVar 3) dNil)))))) (dRaiseI 2 "part" (dCons (dVar 0) dNil)) dNext)
def phi_need_number : DF := phi ["part", "number", "low", "high"] t_need_number
theorem okf_need_number (FF : Facts P w K mg base g) {fd : FuncData} (F : FunD K "need_number" "need_number" (defArgs s_need_number) (defBody s_need_number) (defScope s_need_number) [] [] (He.fAd K ("need_number", none)) fd) : FnOk P w K mg base (L2.CX P w) 3 (He.fAd K ("need_number", none)) fd ["part", "number", "low", "high"] (spD K g 4 phi_need_number) :=
  fn_ok (k := 2) (N := ["part", "number", "low", "high"]) (t := t_need_number) F sc_need_number (fun cdv A outer s H E hr => (qss_one (qs_if (qt_not (qt_truth (qe_call (ok_is_between FF) (hr.mono (by decide)) rfl (qa_cons (qe_var (i := 1) rfl (vis_of rfl)) (qa_cons (qe_var (i := 2) rfl (vis_of rfl)) (qa_cons (qe_var (i := 3) rfl (vis_of rfl)) qa_nil)))) (by intro _; rfl))) (qss_one (qs_raiseI (c := 2) rfl FF.i_BadNumber (hr.mono (by decide)) FF.g_BadNumber rfl (qa_cons (qe_var (i := 0) rfl (vis_of rfl)) qa_nil))) qss_nil)))
theorem ok_need_number (FF : Facts P w K mg base g) : Fn P w K mg base g 3 "need_number" ["part", "number", "low", "high"] phi_need_number := by
  obtain ⟨fd, F⟩ := FF.d_need_number
  exact ⟨_, fd, okf_need_number FF F, FF.g_need_number, F.kp, F.bindsN fun _ _ _ _ _ _ us hl => match us, hl with | [_, _, _, _], _ => rfl⟩
theorem sc_balanced_by : FnScope ["share", "ticks", "top", "bottom", "ends", "tick", "here", "later"] ["share", "ticks"] (defScope s_balanced_by) := ⟨rfl, rfl, rfl, by decide +kernel, rfl, by decide +kernel, by decide +kernel⟩
def t_balanced_by : DS := (dSeq (dAsgG (dVar 0) (gTp 2 (gsCons (gNm 2) (gsCons (gNm 3) gsNil)))) (dSeq (dAsg 4 (dLc (dRng1 (dCons (dBin fAdd (dVar 1) (dC (.int 1))) dNil)) (gNm 5) dYes (dBin fDiv (dBin fMul (dVar 5) (dVar 2)) (dVar 3)) [5])) (dFzS 4 (dRet (dCB (one fTuple) (dCons (dLc (dZip (dCons (dVar 4) (dCons (dSl (dVar 4) (dPart (dC (.int 1))) dNoPart) dNil))) (gTp 2 (gsCons (gNm 6) (gsCons (gNm 7) gsNil))) dYes (dBin fSub (dVar 7) (dVar 6)) [6, 7]) dNil))))))
def phi_balanced_by : DF := phi ["share", "ticks", "top", "bottom", "ends", "tick", "here", "later"] t_balanced_by
theorem okf_balanced_by (FF : Facts P w K mg base g) {fd : FuncData} (F : FunD K "balanced_by" "balanced_by" (defArgs s_balanced_by) (defBody s_balanced_by) (defScope s_balanced_by) [] [] (He.fAd K ("balanced_by", none)) fd) : FnOk P w K mg base (L2.CX P w) 1 (He.fAd K ("balanced_by", none)) fd ["share", "ticks"] (spD K g 2 phi_balanced_by) :=
  fn_ok (k := 0) (N := ["share", "ticks", "top", "bottom", "ends", "tick", "here", "later"]) (t := t_balanced_by) F sc_balanced_by (fun cdv A outer s H E hr => (qss_cons (qs_asgG (qe_var (i := 0) rfl (vis_of rfl)) (qg_tup (n := 2) rfl (qgs_cons (qg_name (i := 2) sc_balanced_by.nd rfl (loc_of rfl)) (qgs_cons (qg_name (i := 3) sc_balanced_by.nd rfl (loc_of rfl)) qgs_nil)))) (qss_cons (qs_setLc (i := 4) (own := [("tick", 5)]) rfl sc_balanced_by.nd rfl rfl rfl (qi_rng1 rfl FF.m_range (qa_cons (qe_bin or_add os_add (qe_var (i := 1) rfl (vis_of rfl)) qe_int) qa_nil)) (blkOk_by (by kernel_rfl)) (fun _ _ _ _ _ => (qgv_name (i := 5) sc_balanced_by.nd rfl (loc_of rfl) (by decide))) (fun _ _ _ _ _ => qts_nil) (fun _ _ _ _ _ => (qe_bin op_fdivW os_div (qe_bin or_mul os_mul (qe_var (i := 5) rfl (vis_of rfl)) (qe_var (i := 2) rfl (vis_of rfl))) (qe_var (i := 3) rfl (vis_of rfl))))) (qss_fzS (qss_one (qs_ret (qe_callTy call_tuple_of cs_tuple rfl FF.m_tuple bt_tuple (qa_cons (qe_lc (own := [("here", 6), ("later", 7)]) rfl sc_balanced_by.nd (qi_zip rfl FF.m_zip (qa_cons (qe_var (i := 4) rfl (vis_of rfl)) (qa_cons (qe_slice (qe_var (i := 4) rfl (vis_of rfl)) (qo_some qe_int) qo_none) qa_nil))) (blkOk_by (by kernel_rfl)) (fun _ _ _ _ _ => (qgv_tup (n := 2) rfl (qgsv_cons (qgv_name (i := 6) sc_balanced_by.nd rfl (loc_of rfl) (by decide)) (qgsv_cons (qgv_name (i := 7) sc_balanced_by.nd rfl (loc_of rfl) (by decide)) qgsv_nil)))) (fun _ _ _ _ _ => qts_nil) (fun _ _ _ _ _ => (qe_bin op_sub os_sub (qe_var (i := 7) rfl (vis_of rfl)) (qe_var (i := 6) rfl (vis_of rfl))))) qa_nil))))))))
theorem ok_balanced_by (FF : Facts P w K mg base g) : Fn P w K mg base g 1 "balanced_by" ["share", "ticks"] phi_balanced_by := by
  obtain ⟨fd, F⟩ := FF.d_balanced_by
  exact ⟨_, fd, okf_balanced_by FF F, FF.g_balanced_by, F.kp, F.bindsN fun _ _ _ _ _ _ us hl => match us, hl with | [_, _], _ => rfl⟩
theorem sc_balanced : FnScope ["share", "ticks"] ["share", "ticks"] (defScope s_balanced) := ⟨rfl, rfl, rfl, by decide +kernel, rfl, by decide +kernel, by decide +kernel⟩
def t_balanced : DS := (dSeq (dDrop (dCall 1 phi_need_share (dCons (dVar 0) dNil))) (dSeq (dDrop (dCall 4 phi_need_number (dCons (dC (.str "ticks")) (dCons (dVar 1) (dCons (dC (.int 0)) (dCons (dC (.int 200)) dNil)))))) (dRet (dCall 2 phi_balanced_by (dCons (dVar 0) (dCons (dVar 1) dNil))))))
def phi_balanced : DF := phi ["share", "ticks"] t_balanced
theorem okf_balanced (FF : Facts P w K mg base g) {fd : FuncData} (F : FunD K "balanced" "balanced" (defArgs s_balanced) (defBody s_balanced) (defScope s_balanced) [] [] (He.fAd K ("balanced", none)) fd) : FnOk P w K mg base (L2.CX P w) 4 (He.fAd K ("balanced", none)) fd ["share", "ticks"] (spD K g 2 phi_balanced) :=
  fn_ok (k := 3) (N := ["share", "ticks"]) (t := t_balanced) F sc_balanced (fun cdv A outer s H E hr => (qss_cons (qs_expr (qe_call (ok_need_share FF) (hr.mono (by decide)) rfl (qa_cons (qe_var (i := 0) rfl (vis_of rfl)) qa_nil))) (qss_cons (qs_expr (qe_call (ok_need_number FF) (hr.mono (by decide)) rfl (qa_cons qe_str (qa_cons (qe_var (i := 1) rfl (vis_of rfl)) (qa_cons qe_int (qa_cons qe_int qa_nil)))))) (qss_one (qs_ret (qe_call (ok_balanced_by FF) (hr.mono (by decide)) rfl (qa_cons (qe_var (i := 0) rfl (vis_of rfl)) (qa_cons (qe_var (i := 1) rfl (vis_of rfl)) qa_nil))))))))
theorem ok_balanced (FF : Facts P w K mg base g) : Fn P w K mg base g 4 "balanced" ["share", "ticks"] phi_balanced := by
  obtain ⟨fd, F⟩ := FF.d_balanced
  exact ⟨_, fd, okf_balanced FF F, FF.g_balanced, F.kp, F.bindsN fun _ _ _ _ _ _ us hl => match us, hl with | [_, _], _ => rfl⟩
theorem sc__law_blend : FnScope ["tape", "turn", "found", "great", "mixed", "grain"] ["tape"] (defScope s__law_blend) := ⟨rfl, rfl, rfl, by decide +kernel, rfl, by decide +kernel, by decide +kernel⟩
def t__law_blend : DS := (dSeq (dTkSet 0 (dBin fAdd (dTkInt 0) (dC (.int 1)))) (dSeq (dPar 1 2 (dFz (dCB (one fInt) (dCons (dTkInt 0) dNil))) (dFz (dC (.int 0)))) (dSeq (dFor (dIterL (dLstE (dCons (dC (.int 2147483629)) (dCons (dC (.int 2147483587)) (dCons (dC (.int 2147483579)) dNil))))) (gNm 3) (dSeq (dAsg 4 (dFz (dBin fMod (dBin fAdd (dBin fMul (dVar 1) (dC (.int 69621))) (dBin fDiv (dVar 3) (dC (.int 7)))) (dVar 3)))) (dSeq (dFor (dTkCells 0) (gNm 5) (dAsg 4 (dFz (dBin fMod (dBin fAdd (dBin fMul (dVar 4) (dC (.int 48271))) (dCB (one fInt) (dCons (dVar 5) dNil))) (dVar 3))))) (dAsg 2 (dFz (dBin fAdd (dBin fMul (dVar 2) (dC (.int 2147483647))) (dBin fMod (dBin fPow (dVar 4) (dC (.int 5))) (dVar 3)))))))) (dRetV 2))))
def phi__law_blend : DF := phi ["tape", "turn", "found", "great", "mixed", "grain"] t__law_blend
theorem okf__law_blend (FF : Facts P w K mg base g) {fd : FuncData} (F : FunD K "_law_blend" "_law_blend" (defArgs s__law_blend) (defBody s__law_blend) (defScope s__law_blend) [] [] (He.fAd K ("_law_blend", none)) fd) : FnOk P w K mg base (L2.CX P w) 1 (He.fAd K ("_law_blend", none)) fd ["tape"] (spD K g 1 phi__law_blend) :=
  fn_ok (k := 0) (N := ["tape", "turn", "found", "great", "mixed", "grain"]) (t := t__law_blend) F sc__law_blend (fun cdv A outer s H E hr => (qss_cons (qs_tkSet (i := 0) FF.tape tnok (u1 hr) (.inr rfl) rfl (vis_of rfl) (qe_bin or_add os_add (qe_tkInt (i := 0) FF.tape (u1 hr) (.inr rfl) rfl (vis_of rfl)) qe_int)) (qss_cons (qs_par (i := 1) (j := 2) rfl sc__law_blend.nd rfl rfl (by decide) rfl rfl (qe_fz (qe_callTy call_int1 cs_int rfl FF.m_int bt_int (qa_cons (qe_tkInt (i := 0) FF.tape (u1 hr) (.inr rfl) rfl (vis_of rfl)) qa_nil))) (qe_fz qe_int) rfl) (qss_cons (qs_for (passes_of rfl) rfl (qi_list (qe_lst (qa_cons qe_int (qa_cons qe_int (qa_cons qe_int qa_nil))))) (qg_name (i := 3) sc__law_blend.nd rfl (loc_of rfl)) (qss_cons (qs_asg (i := 4) sc__law_blend.nd rfl (loc_of rfl) (qe_fz (qe_bin op_mod os_mod (qe_bin or_add os_add (qe_bin or_mul os_mul (qe_var (i := 1) rfl (vis_of rfl)) qe_int) (qe_bin op_fdivW os_div (qe_var (i := 3) rfl (vis_of rfl)) qe_int)) (qe_var (i := 3) rfl (vis_of rfl))))) (qss_cons (qs_for (passes_of rfl) rfl (qi_tkCells (i := 0) FF.tape (u1 hr) rfl rfl (vis_of rfl)) (qg_name (i := 5) sc__law_blend.nd rfl (loc_of rfl)) (qss_one (qs_asg (i := 4) sc__law_blend.nd rfl (loc_of rfl) (qe_fz (qe_bin op_mod os_mod (qe_bin or_add os_add (qe_bin or_mul os_mul (qe_var (i := 4) rfl (vis_of rfl)) qe_int) (qe_callTy call_int1 cs_int rfl FF.m_int bt_int (qa_cons (qe_var (i := 5) rfl (vis_of rfl)) qa_nil))) (qe_var (i := 3) rfl (vis_of rfl))))))) (qss_one (qs_asg (i := 2) sc__law_blend.nd rfl (loc_of rfl) (qe_fz (qe_bin or_add os_add (qe_bin or_mul os_mul (qe_var (i := 2) rfl (vis_of rfl)) qe_int) (qe_bin op_mod os_mod (qe_bin op_pow os_pow (qe_var (i := 4) rfl (vis_of rfl)) qe_int) (qe_var (i := 3) rfl (vis_of rfl)))))))))) (qss_one (qs_retV (i := 2) rfl (vis_of rfl)))))))
theorem ok__law_blend (FF : Facts P w K mg base g) : Fn P w K mg base g 1 "_law_blend" ["tape"] phi__law_blend := by
  obtain ⟨fd, F⟩ := FF.d__law_blend
  exact ⟨_, fd, okf__law_blend FF F, FF.g__law_blend, F.kp, F.bindsN fun _ _ _ _ _ _ us hl => match us, hl with | [_], _ => rfl⟩
theorem sc__law_draw : FnScope ["tape", "size", "found"] ["tape", "size"] (defScope s__law_draw) := ⟨rfl, rfl, rfl, by decide +kernel, rfl, by decide +kernel, by decide +kernel⟩
def t__law_draw : DS := (dSeq (dIf (dTest (dBin fEq (dTkInt 0) (dC (.int 0)))) (dTkSet 0 (dTkPop 0 (dCall 1 phi__law_blend (dCons (dVar 0) dNil)))) dNext) (dSeq (dAsg 2 (dFz (dBin fMod (dCB (one fInt) (dCons (dTkInt 0) dNil)) (dVar 1)))) (dSeq (dTkSet 0 (dBin fDiv (dCB (one fInt) (dCons (dTkInt 0) dNil)) (dVar 1))) (dRetV 2))))
def phi__law_draw : DF := phi ["tape", "size", "found"] t__law_draw
theorem okf__law_draw (FF : Facts P w K mg base g) {fd : FuncData} (F : FunD K "_law_draw" "_law_draw" (defArgs s__law_draw) (defBody s__law_draw) (defScope s__law_draw) [] [] (He.fAd K ("_law_draw", none)) fd) : FnOk P w K mg base (L2.CX P w) 2 (He.fAd K ("_law_draw", none)) fd ["tape", "size"] (spD K g 2 phi__law_draw) :=
  fn_ok (k := 1) (N := ["tape", "size", "found"]) (t := t__law_draw) F sc__law_draw (fun cdv A outer s H E hr => (qss_cons (qs_if (qt_cmp (op_eqD (u64 hr)) os_eq (qe_tkInt (i := 0) FF.tape (u1 hr) (.inl rfl) rfl (vis_of rfl)) qe_int (nomark _)) (qss_one (qs_tkSet (i := 0) FF.tape tnok (u1 hr) (.inl rfl) rfl (vis_of rfl) (qe_tkPop (n := tn) (i := 0) FF.tape (u64 hr) rfl (vis_of rfl) (qe_call (ok__law_blend FF) (hr.mono (by decide)) rfl (qa_cons (qe_var (i := 0) rfl (vis_of rfl)) qa_nil))))) qss_nil) (qss_cons (qs_asg (i := 2) sc__law_draw.nd rfl (loc_of rfl) (qe_fz (qe_bin op_mod os_mod (qe_callTy call_int1 cs_int rfl FF.m_int bt_int (qa_cons (qe_tkInt (i := 0) FF.tape (u1 hr) (.inl rfl) rfl (vis_of rfl)) qa_nil)) (qe_var (i := 1) rfl (vis_of rfl))))) (qss_cons (qs_tkSet (i := 0) FF.tape tnok (u1 hr) (.inl rfl) rfl (vis_of rfl) (qe_bin op_fdivW os_div (qe_callTy call_int1 cs_int rfl FF.m_int bt_int (qa_cons (qe_tkInt (i := 0) FF.tape (u1 hr) (.inl rfl) rfl (vis_of rfl)) qa_nil)) (qe_var (i := 1) rfl (vis_of rfl)))) (qss_one (qs_retV (i := 2) rfl (vis_of rfl)))))))
theorem ok__law_draw (FF : Facts P w K mg base g) : Fn P w K mg base g 2 "_law_draw" ["tape", "size"] phi__law_draw := by
  obtain ⟨fd, F⟩ := FF.d__law_draw
  exact ⟨_, fd, okf__law_draw FF F, FF.g__law_draw, F.kp, F.bindsN fun _ _ _ _ _ _ us hl => match us, hl with | [_, _], _ => rfl⟩
theorem sc__law_pick : FnScope ["tape", "several"] ["tape", "several"] (defScope s__law_pick) := ⟨rfl, rfl, rfl, by decide +kernel, rfl, by decide +kernel, by decide +kernel⟩
def t__law_pick : DS := (dRet (dBin fIx (dVar 1) (dCall 2 phi__law_draw (dCons (dVar 0) (dCons (dCB (one fLen) (dCons (dVar 1) dNil)) dNil)))))
def phi__law_pick : DF := phi ["tape", "several"] t__law_pick
theorem okf__law_pick (FF : Facts P w K mg base g) {fd : FuncData} (F : FunD K "_law_pick" "_law_pick" (defArgs s__law_pick) (defBody s__law_pick) (defScope s__law_pick) [] [] (He.fAd K ("_law_pick", none)) fd) : FnOk P w K mg base (L2.CX P w) 3 (He.fAd K ("_law_pick", none)) fd ["tape", "several"] (spD K g 2 phi__law_pick) :=
  fn_ok (k := 2) (N := ["tape", "several"]) (t := t__law_pick) F sc__law_pick (fun cdv A outer s H E hr => (qss_one (qs_ret (qe_ix (qe_var (i := 1) rfl (vis_of rfl)) (qe_call (ok__law_draw FF) (hr.mono (by decide)) rfl (qa_cons (qe_var (i := 0) rfl (vis_of rfl)) (qa_cons (qe_callB call_len cs_len rfl FF.m_len bt_len (qa_cons (qe_var (i := 1) rfl (vis_of rfl)) qa_nil)) qa_nil))) fun _ _ => rfl))))
theorem ok__law_pick (FF : Facts P w K mg base g) : Fn P w K mg base g 3 "_law_pick" ["tape", "several"] phi__law_pick := by
  obtain ⟨fd, F⟩ := FF.d__law_pick
  exact ⟨_, fd, okf__law_pick FF F, FF.g__law_pick, F.kp, F.bindsN fun _ _ _ _ _ _ us hl => match us, hl with | [_, _], _ => rfl⟩
theorem sc__law_common : FnScope ["one", "other"] ["one", "other"] (defScope s__law_common) := ⟨rfl, rfl, rfl, by decide +kernel, rfl, by decide +kernel, by decide +kernel⟩
def t__law_common : DS := (dSeq (dPar 0 1 (dFz (dCB (one fAbs) (dCons (dVar 0) dNil))) (dFz (dCB (one fAbs) (dCons (dVar 1) dNil)))) (dSeq (dWhile (dTest (dBin fNe (dVar 1) (dC (.int 0)))) (dPar 0 1 (dFz (dVar 1)) (dFz (dBin fMod (dCB (one fInt) (dCons (dVar 0) dNil)) (dVar 1))))) (dRetV 0)))
def phi__law_common : DF := phi ["one", "other"] t__law_common
theorem okf__law_common (FF : Facts P w K mg base g) {fd : FuncData} (F : FunD K "_law_common" "_law_common" (defArgs s__law_common) (defBody s__law_common) (defScope s__law_common) [] [] (He.fAd K ("_law_common", none)) fd) : FnOk P w K mg base (L2.CX P w) 1 (He.fAd K ("_law_common", none)) fd ["one", "other"] (spD K g 2 phi__law_common) :=
  fn_ok (k := 0) (N := ["one", "other"]) (t := t__law_common) F sc__law_common (fun cdv A outer s H E hr => (qss_cons (qs_par (i := 0) (j := 1) rfl sc__law_common.nd rfl rfl (by decide) rfl rfl (qe_fz (qe_callB call_abs cs_abs rfl FF.m_abs bt_abs (qa_cons (qe_var (i := 0) rfl (vis_of rfl)) qa_nil))) (qe_fz (qe_callB call_abs cs_abs rfl FF.m_abs bt_abs (qa_cons (qe_var (i := 1) rfl (vis_of rfl)) qa_nil))) rfl) (qss_cons (qs_while (passes_of rfl) (qt_cmp (op_neD (u64 hr)) os_ne (qe_var (i := 1) rfl (vis_of rfl)) qe_int (nomark _)) (qss_one (qs_par (i := 0) (j := 1) rfl sc__law_common.nd rfl rfl (by decide) rfl rfl (qe_fz (qe_var (i := 1) rfl (vis_of rfl))) (qe_fz (qe_bin op_mod os_mod (qe_callTy call_int1 cs_int rfl FF.m_int bt_int (qa_cons (qe_var (i := 0) rfl (vis_of rfl)) qa_nil)) (qe_var (i := 1) rfl (vis_of rfl)))) rfl))) (qss_one (qs_retV (i := 0) rfl (vis_of rfl))))))
theorem ok__law_common (FF : Facts P w K mg base g) : Fn P w K mg base g 1 "_law_common" ["one", "other"] phi__law_common := by
  obtain ⟨fd, F⟩ := FF.d__law_common
  exact ⟨_, fd, okf__law_common FF F, FF.g__law_common, F.kp, F.bindsN fun _ _ _ _ _ _ us hl => match us, hl with | [_, _], _ => rfl⟩
theorem sc__law_lowest : FnScope ["top", "bottom", "part"] ["top", "bottom"] (defScope s__law_lowest) := ⟨rfl, rfl, rfl, by decide +kernel, rfl, by decide +kernel, by decide +kernel⟩
def t__law_lowest : DS := (dSeq (dAsg 2 (dFz (dCall 2 phi__law_common (dCons (dVar 0) (dCons (dVar 1) dNil))))) (dRet (dTupE (dCons (dBin fDiv (dVar 0) (dVar 2)) (dCons (dBin fDiv (dVar 1) (dVar 2)) dNil)))))
def phi__law_lowest : DF := phi ["top", "bottom", "part"] t__law_lowest
theorem okf__law_lowest (FF : Facts P w K mg base g) {fd : FuncData} (F : FunD K "_law_lowest" "_law_lowest" (defArgs s__law_lowest) (defBody s__law_lowest) (defScope s__law_lowest) [] [] (He.fAd K ("_law_lowest", none)) fd) : FnOk P w K mg base (L2.CX P w) 2 (He.fAd K ("_law_lowest", none)) fd ["top", "bottom"] (spD K g 2 phi__law_lowest) :=
  fn_ok (k := 1) (N := ["top", "bottom", "part"]) (t := t__law_lowest) F sc__law_lowest (fun cdv A outer s H E hr => (qss_cons (qs_asg (i := 2) sc__law_lowest.nd rfl (loc_of rfl) (qe_fz (qe_call (ok__law_common FF) (hr.mono (by decide)) rfl (qa_cons (qe_var (i := 0) rfl (vis_of rfl)) (qa_cons (qe_var (i := 1) rfl (vis_of rfl)) qa_nil))))) (qss_one (qs_ret (qe_tup (qa_cons (qe_bin op_fdivW os_div (qe_var (i := 0) rfl (vis_of rfl)) (qe_var (i := 2) rfl (vis_of rfl))) (qa_cons (qe_bin op_fdivW os_div (qe_var (i := 1) rfl (vis_of rfl)) (qe_var (i := 2) rfl (vis_of rfl))) qa_nil)))))))
theorem ok__law_lowest (FF : Facts P w K mg base g) : Fn P w K mg base g 2 "_law_lowest" ["top", "bottom"] phi__law_lowest := by
  obtain ⟨fd, F⟩ := FF.d__law_lowest
  exact ⟨_, fd, okf__law_lowest FF F, FF.g__law_lowest, F.kp, F.bindsN fun _ _ _ _ _ _ us hl => match us, hl with | [_, _], _ => rfl⟩
theorem sc__law_share : FnScope ["tape", "bottom", "top"] ["tape"] (defScope s__law_share) := ⟨rfl, rfl, rfl, by decide +kernel, rfl, by decide +kernel, by decide +kernel⟩
def t__law_share : DS := (dSeq (dAsg 1 (dFz (dCall 2 phi__law_pick (dCons (dVar 0) (dCons (dLstE (dCons (dC (.int 1)) (dCons (dC (.int 2)) (dCons (dC (.int 3)) (dCons (dC (.int 8)) (dCons (dBin fAdd (dC (.int 1)) (dCall 2 phi__law_draw (dCons (dVar 0) (dCons (dC (.int 60)) dNil)))) (dCons (dBin fAdd (dBin fPow (dC (.int 10)) (dC (.int 30))) (dCall 2 phi__law_draw (dCons (dVar 0) (dCons (dBin fPow (dC (.int 10)) (dC (.int 6))) dNil)))) dNil))))))) dNil))))) (dSeq (dAsg 2 (dFz (dCall 2 phi__law_pick (dCons (dVar 0) (dCons (dLstE (dCons (dBin fMul (dC (.int 100)) (dVar 1)) (dCons (dBin fMul (dUn fNeg (dC (.int 100))) (dVar 1)) (dCons (dBin fSub (dCall 2 phi__law_draw (dCons (dVar 0) (dCons (dBin fAdd (dBin fMul (dC (.int 200)) (dVar 1)) (dC (.int 1))) dNil))) (dBin fMul (dC (.int 100)) (dVar 1))) (dCons (dBin fSub (dCall 2 phi__law_draw (dCons (dVar 0) (dCons (dVar 1) dNil))) (dC (.int 1))) dNil))))) dNil))))) (dRet (dCall 2 phi__law_lowest (dCons (dVar 2) (dCons (dVar 1) dNil))))))
def phi__law_share : DF := phi ["tape", "bottom", "top"] t__law_share
theorem okf__law_share (FF : Facts P w K mg base g) {fd : FuncData} (F : FunD K "_law_share" "_law_share" (defArgs s__law_share) (defBody s__law_share) (defScope s__law_share) [] [] (He.fAd K ("_law_share", none)) fd) : FnOk P w K mg base (L2.CX P w) 4 (He.fAd K ("_law_share", none)) fd ["tape"] (spD K g 1 phi__law_share) :=
  fn_ok (k := 3) (N := ["tape", "bottom", "top"]) (t := t__law_share) F sc__law_share (fun cdv A outer s H E hr => (qss_cons (qs_asg (i := 1) sc__law_share.nd rfl (loc_of rfl) (qe_fz (qe_call (ok__law_pick FF) (hr.mono (by decide)) rfl (qa_cons (qe_var (i := 0) rfl (vis_of rfl)) (qa_cons (qe_lst (qa_cons qe_int (qa_cons qe_int (qa_cons qe_int (qa_cons qe_int (qa_cons (qe_bin or_add os_add qe_int (qe_call (ok__law_draw FF) (hr.mono (by decide)) rfl (qa_cons (qe_var (i := 0) rfl (vis_of rfl)) (qa_cons qe_int qa_nil)))) (qa_cons (qe_bin or_add os_add (qe_bin op_pow os_pow qe_int qe_int) (qe_call (ok__law_draw FF) (hr.mono (by decide)) rfl (qa_cons (qe_var (i := 0) rfl (vis_of rfl)) (qa_cons (qe_bin op_pow os_pow qe_int qe_int) qa_nil)))) qa_nil))))))) qa_nil))))) (qss_cons (qs_asg (i := 2) sc__law_share.nd rfl (loc_of rfl) (qe_fz (qe_call (ok__law_pick FF) (hr.mono (by decide)) rfl (qa_cons (qe_var (i := 0) rfl (vis_of rfl)) (qa_cons (qe_lst (qa_cons (qe_bin or_mul os_mul qe_int (qe_var (i := 1) rfl (vis_of rfl))) (qa_cons (qe_bin or_mul os_mul (qe_un un_neg us_neg qe_int) (qe_var (i := 1) rfl (vis_of rfl))) (qa_cons (qe_bin op_sub os_sub (qe_call (ok__law_draw FF) (hr.mono (by decide)) rfl (qa_cons (qe_var (i := 0) rfl (vis_of rfl)) (qa_cons (qe_bin or_add os_add (qe_bin or_mul os_mul qe_int (qe_var (i := 1) rfl (vis_of rfl))) qe_int) qa_nil))) (qe_bin or_mul os_mul qe_int (qe_var (i := 1) rfl (vis_of rfl)))) (qa_cons (qe_bin op_sub os_sub (qe_call (ok__law_draw FF) (hr.mono (by decide)) rfl (qa_cons (qe_var (i := 0) rfl (vis_of rfl)) (qa_cons (qe_var (i := 1) rfl (vis_of rfl)) qa_nil))) qe_int) qa_nil))))) qa_nil))))) (qss_one (qs_ret (qe_call (ok__law_lowest FF) (hr.mono (by decide)) rfl (qa_cons (qe_var (i := 2) rfl (vis_of rfl)) (qa_cons (qe_var (i := 1) rfl (vis_of rfl)) qa_nil))))))))
theorem ok__law_share (FF : Facts P w K mg base g) : Fn P w K mg base g 4 "_law_share" ["tape"] phi__law_share := by
  obtain ⟨fd, F⟩ := FF.d__law_share
  exact ⟨_, fd, okf__law_share FF F, FF.g__law_share, F.kp, F.bindsN fun _ _ _ _ _ _ us hl => match us, hl with | [_], _ => rfl⟩
theorem sc__law_balanced : FnScope ["ratio", "ticks", "top", "bottom", "tick"] ["ratio", "ticks"] (defScope s__law_balanced) := ⟨rfl, rfl, rfl, by decide +kernel, rfl, by decide +kernel, by decide +kernel⟩
def t__law_balanced : DS := (dSeq (dAsgG (dVar 0) (gTp 2 (gsCons (gNm 2) (gsCons (gNm 3) gsNil)))) (dRet (dCB (one fTuple) (dCons (dLc (dRng2 (dCons (dC (.int 1)) (dCons (dBin fAdd (dVar 1) (dC (.int 1))) dNil))) (gNm 4) dYes (dBin fSub (dBin fDiv (dBin fMul (dVar 4) (dVar 2)) (dVar 3)) (dBin fDiv (dBin fMul (dBin fSub (dVar 4) (dC (.int 1))) (dVar 2)) (dVar 3))) [4]) dNil))))
def phi__law_balanced : DF := phi ["ratio", "ticks", "top", "bottom", "tick"] t__law_balanced
theorem okf__law_balanced (FF : Facts P w K mg base g) {fd : FuncData} (F : FunD K "_law_balanced" "_law_balanced" (defArgs s__law_balanced) (defBody s__law_balanced) (defScope s__law_balanced) [] [] (He.fAd K ("_law_balanced", none)) fd) : FnOk P w K mg base (L2.CX P w) 1 (He.fAd K ("_law_balanced", none)) fd ["ratio", "ticks"] (spD K g 2 phi__law_balanced) :=
  fn_ok (k := 0) (N := ["ratio", "ticks", "top", "bottom", "tick"]) (t := t__law_balanced) F sc__law_balanced (fun cdv A outer s H E hr => (qss_cons (qs_asgG (qe_var (i := 0) rfl (vis_of rfl)) (qg_tup (n := 2) rfl (qgs_cons (qg_name (i := 2) sc__law_balanced.nd rfl (loc_of rfl)) (qgs_cons (qg_name (i := 3) sc__law_balanced.nd rfl (loc_of rfl)) qgs_nil)))) (qss_one (qs_ret (qe_callTy call_tuple_of cs_tuple rfl FF.m_tuple bt_tuple (qa_cons (qe_lc (own := [("tick", 4)]) rfl sc__law_balanced.nd (qi_rng2 rfl FF.m_range (qa_cons qe_int (qa_cons (qe_bin or_add os_add (qe_var (i := 1) rfl (vis_of rfl)) qe_int) qa_nil))) (blkOk_by (by kernel_rfl)) (fun _ _ _ _ _ => (qgv_name (i := 4) sc__law_balanced.nd rfl (loc_of rfl) (by decide))) (fun _ _ _ _ _ => qts_nil) (fun _ _ _ _ _ => (qe_bin op_sub os_sub (qe_bin op_fdivW os_div (qe_bin or_mul os_mul (qe_var (i := 4) rfl (vis_of rfl)) (qe_var (i := 2) rfl (vis_of rfl))) (qe_var (i := 3) rfl (vis_of rfl))) (qe_bin op_fdivW os_div (qe_bin or_mul os_mul (qe_bin op_sub os_sub (qe_var (i := 4) rfl (vis_of rfl)) qe_int) (qe_var (i := 2) rfl (vis_of rfl))) (qe_var (i := 3) rfl (vis_of rfl)))))) qa_nil))))))
theorem ok__law_balanced (FF : Facts P w K mg base g) : Fn P w K mg base g 1 "_law_balanced" ["ratio", "ticks"] phi__law_balanced := by
  obtain ⟨fd, F⟩ := FF.d__law_balanced
  exact ⟨_, fd, okf__law_balanced FF F, FF.g__law_balanced, F.kp, F.bindsN fun _ _ _ _ _ _ us hl => match us, hl with | [_, _], _ => rfl⟩
theorem sc__law_even : FnScope ["ratio", "values", "top", "bottom", "many", "least", "spot"] ["ratio", "values"] (defScope s__law_even) := ⟨rfl, rfl, rfl, by decide +kernel, rfl, by decide +kernel, by decide +kernel⟩
def t__law_even : DS := (dSeq (dAsgG (dVar 0) (gTp 2 (gsCons (gNm 2) (gsCons (gNm 3) gsNil)))) (dSeq (dFor (dRng2 (dCons (dC (.int 1)) (dCons (dC (.int 9)) dNil))) (gNm 4) (dSeq (dAsg 5 (dFz (dBin fDiv (dBin fMul (dVar 4) (dVar 2)) (dVar 3)))) (dFor (dRng1 (dCons (dBin fSub (dBin fAdd (dCB (one fLen) (dCons (dVar 1) dNil)) (dC (.int 1))) (dVar 4)) dNil)) (gNm 6) (dIf (dTest (dBin (fIn true) (dCB (one fSum) (dCons (dSl (dVar 1) (dPart (dVar 6)) (dPart (dBin fAdd (dVar 6) (dVar 4)))) dNil)) (dTupE (dCons (dVar 5) (dCons (dUn fNeg (dBin fDiv (dBin fMul (dUn fNeg (dVar 4)) (dVar 2)) (dVar 3))) dNil))))) (dRet (dC (.bl false))) dNext)))) (dRet (dC (.bl true)))))
def phi__law_even : DF := phi ["ratio", "values", "top", "bottom", "many", "least", "spot"] t__law_even
theorem okf__law_even (FF : Facts P w K mg base g) {fd : FuncData} (F : FunD K "_law_even" "_law_even" (defArgs s__law_even) (defBody s__law_even) (defScope s__law_even) [] [] (He.fAd K ("_law_even", none)) fd) : FnOk P w K mg base (L2.CX P w) 1 (He.fAd K ("_law_even", none)) fd ["ratio", "values"] (spD K g 2 phi__law_even) :=
  fn_ok (k := 0) (N := ["ratio", "values", "top", "bottom", "many", "least", "spot"]) (t := t__law_even) F sc__law_even (fun cdv A outer s H E hr => (qss_cons (qs_asgG (qe_var (i := 0) rfl (vis_of rfl)) (qg_tup (n := 2) rfl (qgs_cons (qg_name (i := 2) sc__law_even.nd rfl (loc_of rfl)) (qgs_cons (qg_name (i := 3) sc__law_even.nd rfl (loc_of rfl)) qgs_nil)))) (qss_cons (qs_for (passes_of rfl) rfl (qi_rng2 rfl FF.m_range (qa_cons qe_int (qa_cons qe_int qa_nil))) (qg_name (i := 4) sc__law_even.nd rfl (loc_of rfl)) (qss_cons (qs_asg (i := 5) sc__law_even.nd rfl (loc_of rfl) (qe_fz (qe_bin op_fdivW os_div (qe_bin or_mul os_mul (qe_var (i := 4) rfl (vis_of rfl)) (qe_var (i := 2) rfl (vis_of rfl))) (qe_var (i := 3) rfl (vis_of rfl))))) (qss_one (qs_for (passes_of rfl) rfl (qi_rng1 rfl FF.m_range (qa_cons (qe_bin op_sub os_sub (qe_bin or_add os_add (qe_callB call_len cs_len rfl FF.m_len bt_len (qa_cons (qe_var (i := 1) rfl (vis_of rfl)) qa_nil)) qe_int) (qe_var (i := 4) rfl (vis_of rfl))) qa_nil)) (qg_name (i := 6) sc__law_even.nd rfl (loc_of rfl)) (qss_one (qs_if (qt_cmp (or_notIn (u65 hr)) (os_in true) (qe_callB (call_sumA rfl) cs_sum rfl FF.m_sum bt_sum (qa_cons (qe_slice (qe_var (i := 1) rfl (vis_of rfl)) (qo_some (qe_var (i := 6) rfl (vis_of rfl))) (qo_some (qe_bin or_add os_add (qe_var (i := 6) rfl (vis_of rfl)) (qe_var (i := 4) rfl (vis_of rfl))))) qa_nil)) (qe_tup (qa_cons (qe_var (i := 5) rfl (vis_of rfl)) (qa_cons (qe_un un_neg us_neg (qe_bin op_fdivW os_div (qe_bin or_mul os_mul (qe_un un_neg us_neg (qe_var (i := 4) rfl (vis_of rfl))) (qe_var (i := 2) rfl (vis_of rfl))) (qe_var (i := 3) rfl (vis_of rfl)))) qa_nil))) rfl) (qss_one (qs_ret qe_bl)) qss_nil)))))) (qss_one (qs_ret qe_bl)))))
theorem ok__law_even (FF : Facts P w K mg base g) : Fn P w K mg base g 1 "_law_even" ["ratio", "values"] phi__law_even := by
  obtain ⟨fd, F⟩ := FF.d__law_even
  exact ⟨_, fd, okf__law_even FF F, FF.g__law_even, F.kp, F.bindsN fun _ _ _ _ _ _ us hl => match us, hl with | [_, _], _ => rfl⟩
theorem sc__law_wrong_shares : FnScope ["tape", "ratio", "top", "bottom", "times"] ["tape", "ratio"] (defScope s__law_wrong_shares) := ⟨rfl, rfl, rfl, by decide +kernel, rfl, by decide +kernel, by decide +kernel⟩
def t__law_wrong_shares : DS := (dSeq (dAsgG (dVar 1) (gTp 2 (gsCons (gNm 2) (gsCons (gNm 3) gsNil)))) (dSeq (dAsg 4 (dFz (dBin fAdd (dC (.int 2)) (dCall 2 phi__law_draw (dCons (dVar 0) (dCons (dC (.int 5)) dNil)))))) (dRet (dLstE (dCons (dTupE (dCons (dBin fMul (dVar 2) (dVar 4)) (dCons (dBin fMul (dVar 3) (dVar 4)) dNil))) (dCons (dTupE (dCons (dVar 2) (dCons (dUn fNeg (dVar 3)) dNil))) (dCons (dTupE (dCons (dVar 2) (dCons (dC (.int 0)) dNil))) (dCons (dTupE (dCons (dC (.int 0)) (dCons (dC (.int 2)) dNil))) (dCons (dTupE (dCons (dBin fAdd (dBin fMul (dC (.int 100)) (dVar 3)) (dC (.int 1))) (dCons (dVar 3) dNil))) (dCons (dTupE (dCons (dBin fSub (dBin fMul (dUn fNeg (dC (.int 100))) (dVar 3)) (dC (.int 1))) (dCons (dVar 3) dNil))) (dCons (dLstE (dCons (dVar 2) (dCons (dVar 3) dNil))) (dCons (dTupE (dCons (dVar 2) dNil)) (dCons (dTupE (dCons (dVar 2) (dCons (dVar 3) (dCons (dC (.int 1)) dNil)))) (dCons (dTupE (dCons (dC (.bl true)) (dCons (dC (.int 1)) dNil))) (dCons (dTupE (dCons (dC (.int 0)) (dCons (dC (.bl true)) dNil))) (dCons (dTupE (dCons (dC (.str "0")) (dCons (dC (.int 1)) dNil))) (dCons (dC .non) (dCons (dC (.int 0)) dNil))))))))))))))))))
def phi__law_wrong_shares : DF := phi ["tape", "ratio", "top", "bottom", "times"] t__law_wrong_shares
theorem okf__law_wrong_shares (FF : Facts P w K mg base g) {fd : FuncData} (F : FunD K "_law_wrong_shares" "_law_wrong_shares" (defArgs s__law_wrong_shares) (defBody s__law_wrong_shares) (defScope s__law_wrong_shares) [] [] (He.fAd K ("_law_wrong_shares", none)) fd) : FnOk P w K mg base (L2.CX P w) 3 (He.fAd K ("_law_wrong_shares", none)) fd ["tape", "ratio"] (spD K g 2 phi__law_wrong_shares) :=
  fn_ok (k := 2) (N := ["tape", "ratio", "top", "bottom", "times"]) (t := t__law_wrong_shares) F sc__law_wrong_shares (fun cdv A outer s H E hr => (qss_cons (qs_asgG (qe_var (i := 1) rfl (vis_of rfl)) (qg_tup (n := 2) rfl (qgs_cons (qg_name (i := 2) sc__law_wrong_shares.nd rfl (loc_of rfl)) (qgs_cons (qg_name (i := 3) sc__law_wrong_shares.nd rfl (loc_of rfl)) qgs_nil)))) (qss_cons (qs_asg (i := 4) sc__law_wrong_shares.nd rfl (loc_of rfl) (qe_fz (qe_bin or_add os_add qe_int (qe_call (ok__law_draw FF) (hr.mono (by decide)) rfl (qa_cons (qe_var (i := 0) rfl (vis_of rfl)) (qa_cons qe_int qa_nil)))))) (qss_one (qs_ret (qe_lst (qa_cons (qe_tup (qa_cons (qe_bin or_mul os_mul (qe_var (i := 2) rfl (vis_of rfl)) (qe_var (i := 4) rfl (vis_of rfl))) (qa_cons (qe_bin or_mul os_mul (qe_var (i := 3) rfl (vis_of rfl)) (qe_var (i := 4) rfl (vis_of rfl))) qa_nil))) (qa_cons (qe_tup (qa_cons (qe_var (i := 2) rfl (vis_of rfl)) (qa_cons (qe_un un_neg us_neg (qe_var (i := 3) rfl (vis_of rfl))) qa_nil))) (qa_cons (qe_tup (qa_cons (qe_var (i := 2) rfl (vis_of rfl)) (qa_cons qe_int qa_nil))) (qa_cons (qe_tup (qa_cons qe_int (qa_cons qe_int qa_nil))) (qa_cons (qe_tup (qa_cons (qe_bin or_add os_add (qe_bin or_mul os_mul qe_int (qe_var (i := 3) rfl (vis_of rfl))) qe_int) (qa_cons (qe_var (i := 3) rfl (vis_of rfl)) qa_nil))) (qa_cons (qe_tup (qa_cons (qe_bin op_sub os_sub (qe_bin or_mul os_mul (qe_un un_neg us_neg qe_int) (qe_var (i := 3) rfl (vis_of rfl))) qe_int) (qa_cons (qe_var (i := 3) rfl (vis_of rfl)) qa_nil))) (qa_cons (qe_lst (qa_cons (qe_var (i := 2) rfl (vis_of rfl)) (qa_cons (qe_var (i := 3) rfl (vis_of rfl)) qa_nil))) (qa_cons (qe_tup (qa_cons (qe_var (i := 2) rfl (vis_of rfl)) qa_nil)) (qa_cons (qe_tup (qa_cons (qe_var (i := 2) rfl (vis_of rfl)) (qa_cons (qe_var (i := 3) rfl (vis_of rfl)) (qa_cons qe_int qa_nil)))) (qa_cons (qe_tup (qa_cons qe_bl (qa_cons qe_int qa_nil))) (qa_cons (qe_tup (qa_cons qe_int (qa_cons qe_bl qa_nil))) (qa_cons (qe_tup (qa_cons qe_str (qa_cons qe_int qa_nil))) (qa_cons qe_non (qa_cons qe_int qa_nil))))))))))))))))))))
theorem ok__law_wrong_shares (FF : Facts P w K mg base g) : Fn P w K mg base g 3 "_law_wrong_shares" ["tape", "ratio"] phi__law_wrong_shares := by
  obtain ⟨fd, F⟩ := FF.d__law_wrong_shares
  exact ⟨_, fd, okf__law_wrong_shares FF F, FF.g__law_wrong_shares, F.kp, F.bindsN fun _ _ _ _ _ _ us hl => match us, hl with | [_, _], _ => rfl⟩
theorem sc__law_refuses : FnScope ["tape", "ratio", "other", "ticks", "error"] ["tape", "ratio"] (defScope s__law_refuses) := ⟨rfl, rfl, rfl, by decide +kernel, rfl, by decide +kernel, by decide +kernel⟩
def t__law_refuses : DS := (dSeq (dFor (dIterL (dCall 2 phi__law_wrong_shares (dCons (dVar 0) (dCons (dVar 1) dNil)))) (gNm 2) (dIf (dNotT (dTruth (dIs nCls exB (isC subB 3) (dCaught okc (dCall 2 phi_balanced (dCons (dVar 2) (dCons (dCall 2 phi__law_pick (dCons (dVar 0) (dCons (dLstE (dCons (dC (.int 3)) (dCons (dUn fNeg (dC (.int 1))) (dCons (dC (.int 201)) (dCons (dC .non) dNil))))) dNil))) dNil))))))) (dRet (dC (.bl false))) dNext)) (dSeq (dFor (dIterL (dLstE (dCons (dUn fNeg (dC (.int 1))) (dCons (dC (.int 201)) (dCons (dBin fSub (dUn fNeg (dC (.int 1))) (dCall 2 phi__law_draw (dCons (dVar 0) (dCons (dBin fPow (dC (.int 10)) (dC (.int 9))) dNil)))) (dCons (dBin fAdd (dC (.int 201)) (dCall 2 phi__law_draw (dCons (dVar 0) (dCons (dBin fPow (dC (.int 10)) (dC (.int 9))) dNil)))) (dCons (dC .non) (dCons (dC (.bl true)) (dCons (dC (.str "1")) (dCons (dTupE (dCons (dC (.int 1)) dNil)) dNil)))))))))) (gNm 3) (dSeq (dAsg 4 (dFz (dCaught okc (dCall 2 phi_balanced (dCons (dVar 1) (dCons (dVar 3) dNil)))))) (dIf (dOrT (dNotT (dTruth (dIs nCls exB (isC subB 2) (dVar 4)))) (dTest (dBin fNe (dXt "part" 0 okf_part (dVar 4)) (dC (.str "ticks"))))) (dRet (dC (.bl false))) dNext))) (dRet (dC (.bl true)))))
def phi__law_refuses : DF := phi ["tape", "ratio", "other", "ticks", "error"] t__law_refuses
theorem ok__law_refuses (FF : Facts P w K mg base g) : Fn P w K mg base g 7 "_law_refuses" ["tape", "ratio"] phi__law_refuses := by
  obtain ⟨fd, F⟩ := FF.d__law_refuses
  obtain ⟨fdc, Fc⟩ := FF.d__law_caught
  have Fcb : Binds K fdc ["work"] [] := Fc.bindsN fun _ _ _ _ _ _ us hl => match us, hl with | [_], _ => rfl
  obtain ⟨occ, odc, dVc, kVc, docc, pmc, anc, cdc, ctc, oslc, efc, lkc, hcc, _, _⟩ := Fc.ex
  subst efc
  refine ⟨_, fd, fn_okC (k := 6) (N := ["tape", "ratio", "other", "ticks", "error"]) (t := t__law_refuses) F sc__law_refuses (fun c hcode A outer s H E hr => ?_), FF.g__law_refuses, F.kp, F.bindsN fun _ _ _ _ _ _ us hl => match us, hl with | [_, _], _ => rfl⟩
  subst hcode
  have TB := FF.tab__law_refuses
  have hmT : ((He.cT K ("_law_refuses", none)).2, lamQ "_law_refuses" (defScope s__law_refuses)) ∈ TT K := List.mem_cons_self
  have huT : ∀ p ∈ TT K, p.1 = (He.cT K ("_law_refuses", none)).2 → p.2 = lamQ "_law_refuses" (defScope s__law_refuses) := fun p hp _ => by rw [List.mem_singleton.mp hp]
  exact (qss_cons (qs_for (passes_of rfl) rfl (qi_list (qe_call (ok__law_wrong_shares FF) (hr.mono (by decide)) rfl (qa_cons (qe_var (i := 0) rfl (vis_of rfl)) (qa_cons (qe_var (i := 1) rfl (vis_of rfl)) qa_nil)))) (qg_name (i := 2) sc__law_refuses.nd rfl (loc_of rfl)) (qss_one (qs_if (qt_not (qt_truth (qe_isC (c := 3) FF.kinds (by decide) rfl FF.m_isinstance rfl FF.g_BadShare (qe_caught (k := 4) FF.lam FF.okc rfl FF.g_AlarmError (by decide) rfl rfl rfl FF.g__law_caught Fc.kp lkc hcc Fcb sc__law_caught (.inl rfl) TB rfl hmT huT (hr.mono (by decide)) (LamX.lamS_by (by kernel_rfl)) rfl (fun _ _ _ _ _ => rfl) (fun A outer s H E f c' hr2 => (qe_call (ok_balanced FF) (hr2.mono (by decide)) rfl (qa_cons (qe_var (i := 2) rfl (vis_of rfl)) (qa_cons (qe_call (ok__law_pick FF) (hr2.mono (by decide)) rfl (qa_cons (qe_var (i := 0) rfl (vis_of rfl)) (qa_cons (qe_lst (qa_cons qe_int (qa_cons (qe_un un_neg us_neg qe_int) (qa_cons qe_int (qa_cons qe_non qa_nil))))) qa_nil))) qa_nil)))))) (by intro _; rfl))) (qss_one (qs_ret qe_bl)) qss_nil))) (qss_cons (qs_for (passes_of rfl) rfl (qi_list (qe_lst (qa_cons (qe_un un_neg us_neg qe_int) (qa_cons qe_int (qa_cons (qe_bin op_sub os_sub (qe_un un_neg us_neg qe_int) (qe_call (ok__law_draw FF) (hr.mono (by decide)) rfl (qa_cons (qe_var (i := 0) rfl (vis_of rfl)) (qa_cons (qe_bin op_pow os_pow qe_int qe_int) qa_nil)))) (qa_cons (qe_bin or_add os_add qe_int (qe_call (ok__law_draw FF) (hr.mono (by decide)) rfl (qa_cons (qe_var (i := 0) rfl (vis_of rfl)) (qa_cons (qe_bin op_pow os_pow qe_int qe_int) qa_nil)))) (qa_cons qe_non (qa_cons qe_bl (qa_cons qe_str (qa_cons (qe_tup (qa_cons qe_int qa_nil)) qa_nil)))))))))) (qg_name (i := 3) sc__law_refuses.nd rfl (loc_of rfl)) (qss_cons (qs_asg (i := 4) sc__law_refuses.nd rfl (loc_of rfl) (qe_fz (qe_caught (k := 4) FF.lam FF.okc rfl FF.g_AlarmError (by decide) rfl rfl rfl FF.g__law_caught Fc.kp lkc hcc Fcb sc__law_caught (.inl rfl) TB rfl hmT huT (hr.mono (by decide)) (LamX.lamS_by (by kernel_rfl)) rfl (fun _ _ _ _ _ => rfl) (fun A outer s H E f c' hr2 => (qe_call (ok_balanced FF) (hr2.mono (by decide)) rfl (qa_cons (qe_var (i := 1) rfl (vis_of rfl)) (qa_cons (qe_var (i := 3) rfl (vis_of rfl)) qa_nil))))))) (qss_one (qs_if (QW.qt (qw_or (qt_not (qt_truth (qe_isC (c := 2) FF.kinds (by decide) rfl FF.m_isinstance rfl FF.g_BadNumber (qe_var (i := 4) rfl (vis_of rfl))) (by intro _; rfl))) (qw_or1 (qt_cmp (op_neD (u64 hr)) os_ne (qe_xt FF.xf_part (qe_var (i := 4) rfl (vis_of rfl))) qe_str (nomark _))))) (qss_one (qs_ret qe_bl)) qss_nil)))) (qss_one (qs_ret qe_bl))))
theorem kok_balanced_ticks_share (FF : Facts P w K mg base g) : KFn P w K mg base g 4 "balanced" ["share", "ticks"] ["ticks", "share"] [1, 0] phi_balanced := by
  obtain ⟨fd, F⟩ := FF.d_balanced
  exact ⟨_, fd, okf_balanced FF F, FF.g_balanced, F.kp, bindsKw F fun _ _ _ _ _ _ ws hl => match ws, hl with | [_, _], _ => rfl⟩
theorem sc_law : FnScope ["script", "tape", "lap", "ratio", "ticks", "told"] ["script"] (defScope s_law) := ⟨rfl, rfl, rfl, by decide +kernel, rfl, by decide +kernel, by decide +kernel⟩
def t_law : DS := (dSeq (dFor (dRng1 (dCons (dBin fAdd (dC (.int 4)) (dCB (two fMin2) (dCons (dCB (one fLen) (dCons (dVar 0) dNil)) (dCons (dC (.int 6)) dNil)))) dNil)) (gNm 2) (dSeq (dAsg 3 (dFz (dCall 1 phi__law_share (dCons (dVar 1) dNil)))) (dSeq (dAsg 4 (dFz (dCall 2 phi__law_pick (dCons (dVar 1) (dCons (dLstE (dCons (dC (.int 0)) (dCons (dC (.int 1)) (dCons (dC (.int 200)) (dCons (dCall 2 phi__law_draw (dCons (dVar 1) (dCons (dC (.int 201)) dNil))) dNil))))) dNil))))) (dSeq (dAsg 5 (dFz (dCall 2 phi_balanced (dCons (dVar 3) (dCons (dVar 4) dNil))))) (dSeq (dIf (dOrT (dNotT (dTruth (dIs nCls exB (isT "tuple") (dVar 5)))) (dOrT (dTest (dBin fNe (dVar 5) (dCall 2 phi__law_balanced (dCons (dVar 3) (dCons (dVar 4) dNil))))) (dTest (dBin fNe (dCallK 2 2 [1, 0] phi_balanced (dCons (dVar 4) (dCons (dVar 3) dNil))) (dVar 5))))) (dRet (dC (.bl false))) dNext) (dIf (dOrT (dNotT (dTruth (dCall 2 phi__law_even (dCons (dVar 3) (dCons (dSl (dVar 5) dNoPart (dPart (dC (.int 40)))) dNil))))) (dTest (dBin fNe (dCB (one fLen) (dCons (dVar 5) dNil)) (dVar 4)))) (dRet (dC (.bl false))) dNext)))))) (dRet (dAndV (dCall 2 phi__law_refuses (dCons (dVar 1) (dCons (dCall 1 phi__law_share (dCons (dVar 1) dNil)) dNil))) (dAndV (dBin fEq (dCall 2 phi_balanced (dCons (dTupE (dCons (dC (.int 1)) (dCons (dC (.int 3)) dNil))) (dCons (dC (.int 6)) dNil))) (dTupE (dCons (dC (.int 0)) (dCons (dC (.int 0)) (dCons (dC (.int 1)) (dCons (dC (.int 0)) (dCons (dC (.int 0)) (dCons (dC (.int 1)) dNil)))))))) (dBin fEq (dCall 2 phi_balanced (dCons (dTupE (dCons (dUn fNeg (dC (.int 1))) (dCons (dC (.int 2)) dNil))) (dCons (dC (.int 4)) dNil))) (dTupE (dCons (dUn fNeg (dC (.int 1))) (dCons (dC (.int 0)) (dCons (dUn fNeg (dC (.int 1))) (dCons (dC (.int 0)) dNil))))))))))
theorem okf_law {CAs : Nat → Addr} (FF : Facts P w K mg base (gOf CAs (TT K) tn)) {fd : FuncData} (F : FunD K "law" "law" (defArgs s_law) (defBody s_law) (defScope s_law) [] [] (He.fAd K ("law", none)) fd)
    (hb : ∀ ns : List Int, ns.length ≤ 63 → t1__law_begun { nx := fun α => u__law_begun α (tapeSs tn k__law_begun) (fun _ => False), rt := fun _ => False } (startA ["script", "large", "grain"] [.fr (.scr ns)]) (fun _ => False))
    (hp : ∀ ns : List Int, ns.length ≤ 63 → (∀ z ∈ ns, Builtin.Int.intBits z ≤ 1048576) → t_law { nx := fun _ => False, rt := fun s => s = .fr (.bl true) } ((startA ["script", "tape", "lap", "ratio", "ticks", "told"] [.fr (.scr ns)]).set 1 (some .tk)) (fun _ => False)) :
    FnOk P w K mg base (L2.CX P w) 8 (He.fAd K ("law", none)) fd ["script"] (spLaw (TT K) K) := by
  obtain ⟨fdB, FB⟩ := FF.d__law_begun
  exact law_ok (k := 7) (it := 1) F sc_law rfl rfl rfl rfl rfl rfl (okf__law_begun FF.toFacts0 FB hb) FF.g__law_begun FB.kp (FB.bindsN fun _ _ _ _ _ _ us hl => match us, hl with | [_], _ => rfl) (by decide) (fun _ => rfl) (fun cdv A outer s H E hr => (qss_cons (qs_for (passes_of rfl) rfl (qi_rng1 rfl FF.m_range (qa_cons (qe_bin or_add os_add qe_int (qe_callB (call_min2 rfl) cs_min2 rfl FF.m_min bt_min (qa_cons (qe_callB call_len cs_len rfl FF.m_len bt_len (qa_cons (qe_var (i := 0) rfl (vis_of rfl)) qa_nil)) (qa_cons qe_int qa_nil)))) qa_nil)) (qg_name (i := 2) sc_law.nd rfl (loc_of rfl)) (qss_cons (qs_asg (i := 3) sc_law.nd rfl (loc_of rfl) (qe_fz (qe_call (ok__law_share FF) (hr.mono (by decide)) rfl (qa_cons (qe_var (i := 1) rfl (vis_of rfl)) qa_nil)))) (qss_cons (qs_asg (i := 4) sc_law.nd rfl (loc_of rfl) (qe_fz (qe_call (ok__law_pick FF) (hr.mono (by decide)) rfl (qa_cons (qe_var (i := 1) rfl (vis_of rfl)) (qa_cons (qe_lst (qa_cons qe_int (qa_cons qe_int (qa_cons qe_int (qa_cons (qe_call (ok__law_draw FF) (hr.mono (by decide)) rfl (qa_cons (qe_var (i := 1) rfl (vis_of rfl)) (qa_cons qe_int qa_nil))) qa_nil))))) qa_nil))))) (qss_cons (qs_asg (i := 5) sc_law.nd rfl (loc_of rfl) (qe_fz (qe_call (ok_balanced FF) (hr.mono (by decide)) rfl (qa_cons (qe_var (i := 3) rfl (vis_of rfl)) (qa_cons (qe_var (i := 4) rfl (vis_of rfl)) qa_nil))))) (qss_cons (qs_if (QW.qt (qw_or (qt_not (qt_truth (qe_isT FF.kinds rfl FF.m_isinstance rfl FF.m_tuple bt_tuple (by decide) (qe_var (i := 5) rfl (vis_of rfl))) (by intro _; rfl))) (qw_or (qt_cmp (op_neD (u64 hr)) os_ne (qe_var (i := 5) rfl (vis_of rfl)) (qe_call (ok__law_balanced FF) (hr.mono (by decide)) rfl (qa_cons (qe_var (i := 3) rfl (vis_of rfl)) (qa_cons (qe_var (i := 4) rfl (vis_of rfl)) qa_nil))) (nomark _)) (qw_or1 (qt_cmp (op_neD (u64 hr)) os_ne (qe_callK (kok_balanced_ticks_share FF) (hr.mono (by decide)) rfl (qk_cons (qe_var (i := 4) rfl (vis_of rfl)) (qk_cons (qe_var (i := 3) rfl (vis_of rfl)) qk_nil))) (qe_var (i := 5) rfl (vis_of rfl)) (nomark _)))))) (qss_one (qs_ret qe_bl)) qss_nil) (qss_one (qs_if (QW.qt (qw_or (qt_not (qt_truth (qe_call (ok__law_even FF) (hr.mono (by decide)) rfl (qa_cons (qe_var (i := 3) rfl (vis_of rfl)) (qa_cons (qe_slice (qe_var (i := 5) rfl (vis_of rfl)) qo_none (qo_some qe_int)) qa_nil))) (by intro _; rfl))) (qw_or1 (qt_cmp (op_neD (u64 hr)) os_ne (qe_callB call_len cs_len rfl FF.m_len bt_len (qa_cons (qe_var (i := 5) rfl (vis_of rfl)) qa_nil)) (qe_var (i := 4) rfl (vis_of rfl)) (nomark _))))) (qss_one (qs_ret qe_bl)) qss_nil))))))) (qss_one (qs_ret (qe_and (qe_call (ok__law_refuses FF) (hr.mono (by decide)) rfl (qa_cons (qe_var (i := 1) rfl (vis_of rfl)) (qa_cons (qe_call (ok__law_share FF) (hr.mono (by decide)) rfl (qa_cons (qe_var (i := 1) rfl (vis_of rfl)) qa_nil)) qa_nil))) (qe_and (qe_cmp (op_eqD (u64 hr)) os_eq (qe_call (ok_balanced FF) (hr.mono (by decide)) rfl (qa_cons (qe_tup (qa_cons qe_int (qa_cons qe_int qa_nil))) (qa_cons qe_int qa_nil))) (qe_tup (qa_cons qe_int (qa_cons qe_int (qa_cons qe_int (qa_cons qe_int (qa_cons qe_int (qa_cons qe_int qa_nil))))))) (nomark _)) (qe_one (qe_cmp (op_eqD (u64 hr)) os_eq (qe_call (ok_balanced FF) (hr.mono (by decide)) rfl (qa_cons (qe_tup (qa_cons (qe_un un_neg us_neg qe_int) (qa_cons qe_int qa_nil))) (qa_cons qe_int qa_nil))) (qe_tup (qa_cons (qe_un un_neg us_neg qe_int) (qa_cons qe_int (qa_cons (qe_un un_neg us_neg qe_int) (qa_cons qe_int qa_nil))))) (nomark _))))))))) hp
end
end LW

set_option Elab.async false
set_option linter.all false
set_option maxRecDepth 100000
set_option maxHeartbeats 0
namespace LW
open PySem PySem.Spec L2 DL
theorem run (w : World) : HandSHeadRun.RunEq R (PySem.W.view R.prog [30]) hk ob 4000 loose w := by
  intro os
  kernel_rfl
end LW

set_option linter.all false
set_option maxRecDepth 100000
set_option maxHeartbeats 4000000
namespace LW
open PySem PySem.Spec L2 DL
section
variable {Q : S → Prop} {E : XD → Prop}
theorem sp_is_number {d : D} (h : d.std = true) : phi_is_number [.fr d] Q E ↔ Q (.fr (.bl d.num)) := by
  cases d <;> simp_all [phi, startA, dSeq, dNext, dAsg, dAsgG, dIf, dRet, dRetV, dRetN, dDrop, dRaise, dRaiseI, dFz, dFzS, dVar, dC, dBin, dUn, dTest, isB, dAndT, dOrT, dNotT, dAndV, dOrV, dNotV, dIfE, dTruth, dCons, dNil, dTupE, dLstE, dCB, dIs, dCall, gNm, dPart, dNoPart, DL.f0, DL.fc, DL.g1, DL.g2, DL.g3, DL.s1, DL.s2, DL.zc, dPar, dChain, DL.e1, DL.e2, DL.e3, DL.e4, DL.e5, DL.e6, DL.e7, DL.e8, DL.e9, DL.e10, DL.e11, DL.e12, DL.e13, DL.e14, DL.a1, DL.a2, DL.a3, DL.a4, DL.a5, DL.a6, DL.a7, DL.a8, DL.a9, DL.a10, DL.a11, DL.t1, DL.t2, DL.t3, DL.x1, DL.x2, DL.x3, DL.x4, DL.x5, DL.x6, DL.x7, DL.x8, DL.x9, DL.x10, DL.x11, DL.x12, DL.y1, DL.y2, DL.eq_ii, DL.ne_ii, DL.k1, DL.k2, DL.k3, DL.k4, DL.k5, DL.k6, DL.z0, DL.z1, DL.z2, DL.z3, DL.z4, DL.z5, DL.z6, DL.z7, DL.z8, DL.z9, DL.z10, DL.z11, DL.z12, DL.z13, DL.z14, DL.z15, DL.z16, DL.z17, DL.z18, DL.z19, DL.z20, DL.z21, DL.z22, DL.z23, DL.z24, DL.z25, DL.z26, DL.z27, DL.z28, DL.z29, DL.ic1, DL.ic2, phi_is_number, t_is_number, D.std, D.num]
def btw (d : D) (a b : Int) : Bool := match d with
  | .int i => decide (a ≤ i) && decide (i ≤ b)
  | _ => false
theorem sp_is_between {d : D} {a b : Int} (h : d.std = true) : phi_is_between [.fr d, .fr (.int a), .fr (.int b)] Q E ↔ Q (.fr (.bl (btw d a b))) := by
  cases d with
  | int i =>
    simp [phi, startA, dSeq, dNext, dAsg, dAsgG, dIf, dRet, dRetV, dRetN, dDrop, dRaise, dRaiseI, dFz, dFzS, dVar, dC, dBin, dUn, dTest, isB, dAndT, dOrT, dNotT, dAndV, dOrV, dNotV, dIfE, dTruth, dCons, dNil, dTupE, dLstE, dCB, dIs, dCall, gNm, dPart, dNoPart, DL.f0, DL.fc, DL.g1, DL.g2, DL.g3, DL.s1, DL.s2, DL.zc, dPar, dChain, DL.e1, DL.e2, DL.e3, DL.e4, DL.e5, DL.e6, DL.e7, DL.e8, DL.e9, DL.e10, DL.e11, DL.e12, DL.e13, DL.e14, DL.a1, DL.a2, DL.a3, DL.a4, DL.a5, DL.a6, DL.a7, DL.a8, DL.a9, DL.a10, DL.a11, DL.t1, DL.t2, DL.t3, DL.x1, DL.x2, DL.x3, DL.x4, DL.x5, DL.x6, DL.x7, DL.x8, DL.x9, DL.x10, DL.x11, DL.x12, DL.y1, DL.y2, DL.eq_ii, DL.ne_ii, DL.k1, DL.k2, DL.k3, DL.k4, DL.k5, DL.k6, DL.z0, DL.z1, DL.z2, DL.z3, DL.z4, DL.z5, DL.z6, DL.z7, DL.z8, DL.z9, DL.z10, DL.z11, DL.z12, DL.z13, DL.z14, DL.z15, DL.z16, DL.z17, DL.z18, DL.z19, DL.z20, DL.z21, DL.z22, DL.z23, DL.z24, DL.z25, DL.z26, DL.z27, DL.z28, DL.z29, DL.ic1, DL.ic2, phi_is_between, t_is_between, D.num, sp_is_number h, btw]
    by_cases h1 : a ≤ i <;> simp [h1]
  | _ => simp [phi, startA, dSeq, dNext, dAsg, dAsgG, dIf, dRet, dRetV, dRetN, dDrop, dRaise, dRaiseI, dFz, dFzS, dVar, dC, dBin, dUn, dTest, isB, dAndT, dOrT, dNotT, dAndV, dOrV, dNotV, dIfE, dTruth, dCons, dNil, dTupE, dLstE, dCB, dIs, dCall, gNm, dPart, dNoPart, DL.f0, DL.fc, DL.g1, DL.g2, DL.g3, DL.s1, DL.s2, DL.zc, dPar, dChain, DL.e1, DL.e2, DL.e3, DL.e4, DL.e5, DL.e6, DL.e7, DL.e8, DL.e9, DL.e10, DL.e11, DL.e12, DL.e13, DL.e14, DL.a1, DL.a2, DL.a3, DL.a4, DL.a5, DL.a6, DL.a7, DL.a8, DL.a9, DL.a10, DL.a11, DL.t1, DL.t2, DL.t3, DL.x1, DL.x2, DL.x3, DL.x4, DL.x5, DL.x6, DL.x7, DL.x8, DL.x9, DL.x10, DL.x11, DL.x12, DL.y1, DL.y2, DL.eq_ii, DL.ne_ii, DL.k1, DL.k2, DL.k3, DL.k4, DL.k5, DL.k6, DL.z0, DL.z1, DL.z2, DL.z3, DL.z4, DL.z5, DL.z6, DL.z7, DL.z8, DL.z9, DL.z10, DL.z11, DL.z12, DL.z13, DL.z14, DL.z15, DL.z16, DL.z17, DL.z18, DL.z19, DL.z20, DL.z21, DL.z22, DL.z23, DL.z24, DL.z25, DL.z26, DL.z27, DL.z28, DL.z29, DL.ic1, DL.ic2, phi_is_between, t_is_between, D.num, sp_is_number h, btw]
theorem gcd_turn {n m : Nat} {g : Nat} (h : Nat.gcd n m = g) : Nat.gcd m (n % m) = g := by
  rw [← h, Nat.gcd_comm n m, Nat.gcd_rec m n, Nat.gcd_comm]
theorem sp_divisor_of {a b : Int} (q : Q (.fr (.int (Int.gcd a b)))) : phi_divisor_of [.fr (.int a), .fr (.int b)] Q E := by
  simp [phi, startA, dSeq, dNext, dAsg, dAsgG, dIf, dRet, dRetV, dRetN, dDrop, dRaise, dRaiseI, dFz, dFzS, dVar, dC, dBin, dUn, dTest, isB, dAndT, dOrT, dNotT, dAndV, dOrV, dNotV, dIfE, dTruth, dCons, dNil, dTupE, dLstE, dCB, dIs, dCall, gNm, dPart, dNoPart, DL.f0, DL.fc, DL.g1, DL.g2, DL.g3, DL.s1, DL.s2, DL.zc, dPar, dChain, DL.e1, DL.e2, DL.e3, DL.e4, DL.e5, DL.e6, DL.e7, DL.e8, DL.e9, DL.e10, DL.e11, DL.e12, DL.e13, DL.e14, DL.a1, DL.a2, DL.a3, DL.a4, DL.a5, DL.a6, DL.a7, DL.a8, DL.a9, DL.a10, DL.a11, DL.t1, DL.t2, DL.t3, DL.x1, DL.x2, DL.x3, DL.x4, DL.x5, DL.x6, DL.x7, DL.x8, DL.x9, DL.x10, DL.x11, DL.x12, DL.y1, DL.y2, DL.eq_ii, DL.ne_ii, DL.k1, DL.k2, DL.k3, DL.k4, DL.k5, DL.k6, DL.z0, DL.z1, DL.z2, DL.z3, DL.z4, DL.z5, DL.z6, DL.z7, DL.z8, DL.z9, DL.z10, DL.z11, DL.z12, DL.z13, DL.z14, DL.z15, DL.z16, DL.z17, DL.z18, DL.z19, DL.z20, DL.z21, DL.z22, DL.z23, DL.z24, DL.z25, DL.z26, DL.z27, DL.z28, DL.z29, DL.ic1, DL.ic2, phi_divisor_of, t_divisor_of, abs_eq]
  refine ⟨fun m α => ∃ n k : Nat, Nat.gcd n k = Int.gcd a b ∧ α = [some (.fr (.int n)), some (.fr (.int k))] ∧ m = k, ⟨_, a.natAbs, b.natAbs, rfl, rfl, rfl⟩, ?_⟩
  rintro m α ⟨n, k, hg, rfl, rfl⟩
  simp [phi, startA, dSeq, dNext, dAsg, dAsgG, dIf, dRet, dRetV, dRetN, dDrop, dRaise, dRaiseI, dFz, dFzS, dVar, dC, dBin, dUn, dTest, isB, dAndT, dOrT, dNotT, dAndV, dOrV, dNotV, dIfE, dTruth, dCons, dNil, dTupE, dLstE, dCB, dIs, dCall, gNm, dPart, dNoPart, DL.f0, DL.fc, DL.g1, DL.g2, DL.g3, DL.s1, DL.s2, DL.zc, dPar, dChain, DL.e1, DL.e2, DL.e3, DL.e4, DL.e5, DL.e6, DL.e7, DL.e8, DL.e9, DL.e10, DL.e11, DL.e12, DL.e13, DL.e14, DL.a1, DL.a2, DL.a3, DL.a4, DL.a5, DL.a6, DL.a7, DL.a8, DL.a9, DL.a10, DL.a11, DL.t1, DL.t2, DL.t3, DL.x1, DL.x2, DL.x3, DL.x4, DL.x5, DL.x6, DL.x7, DL.x8, DL.x9, DL.x10, DL.x11, DL.x12, DL.y1, DL.y2, DL.eq_ii, DL.ne_ii, DL.k1, DL.k2, DL.k3, DL.k4, DL.k5, DL.k6, DL.z0, DL.z1, DL.z2, DL.z3, DL.z4, DL.z5, DL.z6, DL.z7, DL.z8, DL.z9, DL.z10, DL.z11, DL.z12, DL.z13, DL.z14, DL.z15, DL.z16, DL.z17, DL.z18, DL.z19, DL.z20, DL.z21, DL.z22, DL.z23, DL.z24, DL.z25, DL.z26, DL.z27, DL.z28, DL.z29, DL.ic1, DL.ic2]
  by_cases hm : m = 0
  · subst hm
    rw [Nat.gcd_zero_right] at hg
    exact .inl ⟨rfl, by rw [hg]; exact q⟩
  · exact .inr ⟨hm, by omega, n % m, Nat.mod_lt _ (by omega), m, gcd_turn hg, rfl, by simp⟩
theorem sp__law_common {a b : Int} (q : Q (.fr (.int (Int.gcd a b)))) : phi__law_common [.fr (.int a), .fr (.int b)] Q E := by
  simp [phi, startA, dSeq, dNext, dAsg, dAsgG, dIf, dRet, dRetV, dRetN, dDrop, dRaise, dRaiseI, dFz, dFzS, dVar, dC, dBin, dUn, dTest, isB, dAndT, dOrT, dNotT, dAndV, dOrV, dNotV, dIfE, dTruth, dCons, dNil, dTupE, dLstE, dCB, dIs, dCall, gNm, dPart, dNoPart, DL.f0, DL.fc, DL.g1, DL.g2, DL.g3, DL.s1, DL.s2, DL.zc, dPar, dChain, DL.e1, DL.e2, DL.e3, DL.e4, DL.e5, DL.e6, DL.e7, DL.e8, DL.e9, DL.e10, DL.e11, DL.e12, DL.e13, DL.e14, DL.a1, DL.a2, DL.a3, DL.a4, DL.a5, DL.a6, DL.a7, DL.a8, DL.a9, DL.a10, DL.a11, DL.t1, DL.t2, DL.t3, DL.x1, DL.x2, DL.x3, DL.x4, DL.x5, DL.x6, DL.x7, DL.x8, DL.x9, DL.x10, DL.x11, DL.x12, DL.y1, DL.y2, DL.eq_ii, DL.ne_ii, DL.k1, DL.k2, DL.k3, DL.k4, DL.k5, DL.k6, DL.z0, DL.z1, DL.z2, DL.z3, DL.z4, DL.z5, DL.z6, DL.z7, DL.z8, DL.z9, DL.z10, DL.z11, DL.z12, DL.z13, DL.z14, DL.z15, DL.z16, DL.z17, DL.z18, DL.z19, DL.z20, DL.z21, DL.z22, DL.z23, DL.z24, DL.z25, DL.z26, DL.z27, DL.z28, DL.z29, DL.ic1, DL.ic2, phi__law_common, t__law_common, abs_eq]
  refine ⟨fun m α => ∃ n k : Nat, Nat.gcd n k = Int.gcd a b ∧ α = [some (.fr (.int n)), some (.fr (.int k))] ∧ m = k, ⟨_, a.natAbs, b.natAbs, rfl, rfl, rfl⟩, ?_⟩
  rintro m α ⟨n, k, hg, rfl, rfl⟩
  simp [phi, startA, dSeq, dNext, dAsg, dAsgG, dIf, dRet, dRetV, dRetN, dDrop, dRaise, dRaiseI, dFz, dFzS, dVar, dC, dBin, dUn, dTest, isB, dAndT, dOrT, dNotT, dAndV, dOrV, dNotV, dIfE, dTruth, dCons, dNil, dTupE, dLstE, dCB, dIs, dCall, gNm, dPart, dNoPart, DL.f0, DL.fc, DL.g1, DL.g2, DL.g3, DL.s1, DL.s2, DL.zc, dPar, dChain, DL.e1, DL.e2, DL.e3, DL.e4, DL.e5, DL.e6, DL.e7, DL.e8, DL.e9, DL.e10, DL.e11, DL.e12, DL.e13, DL.e14, DL.a1, DL.a2, DL.a3, DL.a4, DL.a5, DL.a6, DL.a7, DL.a8, DL.a9, DL.a10, DL.a11, DL.t1, DL.t2, DL.t3, DL.x1, DL.x2, DL.x3, DL.x4, DL.x5, DL.x6, DL.x7, DL.x8, DL.x9, DL.x10, DL.x11, DL.x12, DL.y1, DL.y2, DL.eq_ii, DL.ne_ii, DL.k1, DL.k2, DL.k3, DL.k4, DL.k5, DL.k6, DL.z0, DL.z1, DL.z2, DL.z3, DL.z4, DL.z5, DL.z6, DL.z7, DL.z8, DL.z9, DL.z10, DL.z11, DL.z12, DL.z13, DL.z14, DL.z15, DL.z16, DL.z17, DL.z18, DL.z19, DL.z20, DL.z21, DL.z22, DL.z23, DL.z24, DL.z25, DL.z26, DL.z27, DL.z28, DL.z29, DL.ic1, DL.ic2]
  by_cases hm : m = 0
  · subst hm
    rw [Nat.gcd_zero_right] at hg
    exact .inl ⟨rfl, by rw [hg]; exact q⟩
  · exact .inr ⟨hm, by omega, n % m, Nat.mod_lt _ (by omega), m, gcd_turn hg, rfl, by simp⟩
def shareB : D → Bool
  | .tup [.int a, .int b] => decide (0 < b) && decide (Int.gcd a b = 1)
  | _ => false
def std2 : D → Bool
  | .tup ds => ds.all D.std
  | d => d.std
theorem sp_is_share {d : D} (h : std2 d = true) (q : Q (.fr (.bl (shareB d)))) : phi_is_share [.fr d] Q E := by
  cases d with
  | tup ds =>
    match ds, h with
    | [], _ => simpa [phi, startA, dSeq, dNext, dAsg, dAsgG, dIf, dRet, dRetV, dRetN, dDrop, dRaise, dRaiseI, dFz, dFzS, dVar, dC, dBin, dUn, dTest, isB, dAndT, dOrT, dNotT, dAndV, dOrV, dNotV, dIfE, dTruth, dCons, dNil, dTupE, dLstE, dCB, dIs, dCall, gNm, dPart, dNoPart, DL.f0, DL.fc, DL.g1, DL.g2, DL.g3, DL.s1, DL.s2, DL.zc, dPar, dChain, DL.e1, DL.e2, DL.e3, DL.e4, DL.e5, DL.e6, DL.e7, DL.e8, DL.e9, DL.e10, DL.e11, DL.e12, DL.e13, DL.e14, DL.a1, DL.a2, DL.a3, DL.a4, DL.a5, DL.a6, DL.a7, DL.a8, DL.a9, DL.a10, DL.a11, DL.t1, DL.t2, DL.t3, DL.x1, DL.x2, DL.x3, DL.x4, DL.x5, DL.x6, DL.x7, DL.x8, DL.x9, DL.x10, DL.x11, DL.x12, DL.y1, DL.y2, DL.eq_ii, DL.ne_ii, DL.k1, DL.k2, DL.k3, DL.k4, DL.k5, DL.k6, DL.z0, DL.z1, DL.z2, DL.z3, DL.z4, DL.z5, DL.z6, DL.z7, DL.z8, DL.z9, DL.z10, DL.z11, DL.z12, DL.z13, DL.z14, DL.z15, DL.z16, DL.z17, DL.z18, DL.z19, DL.z20, DL.z21, DL.z22, DL.z23, DL.z24, DL.z25, DL.z26, DL.z27, DL.z28, DL.z29, DL.ic1, DL.ic2, phi_is_share, t_is_share, shareB] using q
    | [x], _ => simpa [phi, startA, dSeq, dNext, dAsg, dAsgG, dIf, dRet, dRetV, dRetN, dDrop, dRaise, dRaiseI, dFz, dFzS, dVar, dC, dBin, dUn, dTest, isB, dAndT, dOrT, dNotT, dAndV, dOrV, dNotV, dIfE, dTruth, dCons, dNil, dTupE, dLstE, dCB, dIs, dCall, gNm, dPart, dNoPart, DL.f0, DL.fc, DL.g1, DL.g2, DL.g3, DL.s1, DL.s2, DL.zc, dPar, dChain, DL.e1, DL.e2, DL.e3, DL.e4, DL.e5, DL.e6, DL.e7, DL.e8, DL.e9, DL.e10, DL.e11, DL.e12, DL.e13, DL.e14, DL.a1, DL.a2, DL.a3, DL.a4, DL.a5, DL.a6, DL.a7, DL.a8, DL.a9, DL.a10, DL.a11, DL.t1, DL.t2, DL.t3, DL.x1, DL.x2, DL.x3, DL.x4, DL.x5, DL.x6, DL.x7, DL.x8, DL.x9, DL.x10, DL.x11, DL.x12, DL.y1, DL.y2, DL.eq_ii, DL.ne_ii, DL.k1, DL.k2, DL.k3, DL.k4, DL.k5, DL.k6, DL.z0, DL.z1, DL.z2, DL.z3, DL.z4, DL.z5, DL.z6, DL.z7, DL.z8, DL.z9, DL.z10, DL.z11, DL.z12, DL.z13, DL.z14, DL.z15, DL.z16, DL.z17, DL.z18, DL.z19, DL.z20, DL.z21, DL.z22, DL.z23, DL.z24, DL.z25, DL.z26, DL.z27, DL.z28, DL.z29, DL.ic1, DL.ic2, phi_is_share, t_is_share, shareB] using q
    | [x, y], h =>
      have h' : x.std = true ∧ y.std = true := by simpa [std2] using h
      simp [phi, startA, dSeq, dNext, dAsg, dAsgG, dIf, dRet, dRetV, dRetN, dDrop, dRaise, dRaiseI, dFz, dFzS, dVar, dC, dBin, dUn, dTest, isB, dAndT, dOrT, dNotT, dAndV, dOrV, dNotV, dIfE, dTruth, dCons, dNil, dTupE, dLstE, dCB, dIs, dCall, gNm, dPart, dNoPart, DL.f0, DL.fc, DL.g1, DL.g2, DL.g3, DL.s1, DL.s2, DL.zc, dPar, dChain, DL.e1, DL.e2, DL.e3, DL.e4, DL.e5, DL.e6, DL.e7, DL.e8, DL.e9, DL.e10, DL.e11, DL.e12, DL.e13, DL.e14, DL.a1, DL.a2, DL.a3, DL.a4, DL.a5, DL.a6, DL.a7, DL.a8, DL.a9, DL.a10, DL.a11, DL.t1, DL.t2, DL.t3, DL.x1, DL.x2, DL.x3, DL.x4, DL.x5, DL.x6, DL.x7, DL.x8, DL.x9, DL.x10, DL.x11, DL.x12, DL.y1, DL.y2, DL.eq_ii, DL.ne_ii, DL.k1, DL.k2, DL.k3, DL.k4, DL.k5, DL.k6, DL.z0, DL.z1, DL.z2, DL.z3, DL.z4, DL.z5, DL.z6, DL.z7, DL.z8, DL.z9, DL.z10, DL.z11, DL.z12, DL.z13, DL.z14, DL.z15, DL.z16, DL.z17, DL.z18, DL.z19, DL.z20, DL.z21, DL.z22, DL.z23, DL.z24, DL.z25, DL.z26, DL.z27, DL.z28, DL.z29, DL.ic1, DL.ic2, phi_is_share, t_is_share, sp_is_number h'.1, sp_is_number h'.2]
      cases x with
      | int a =>
        cases y with
        | int b =>
          refine .inr ⟨rfl, .inr ⟨rfl, ?_⟩⟩
          simp [phi, startA, dSeq, dNext, dAsg, dAsgG, dIf, dRet, dRetV, dRetN, dDrop, dRaise, dRaiseI, dFz, dFzS, dVar, dC, dBin, dUn, dTest, isB, dAndT, dOrT, dNotT, dAndV, dOrV, dNotV, dIfE, dTruth, dCons, dNil, dTupE, dLstE, dCB, dIs, dCall, gNm, dPart, dNoPart, DL.f0, DL.fc, DL.g1, DL.g2, DL.g3, DL.s1, DL.s2, DL.zc, dPar, dChain, DL.e1, DL.e2, DL.e3, DL.e4, DL.e5, DL.e6, DL.e7, DL.e8, DL.e9, DL.e10, DL.e11, DL.e12, DL.e13, DL.e14, DL.a1, DL.a2, DL.a3, DL.a4, DL.a5, DL.a6, DL.a7, DL.a8, DL.a9, DL.a10, DL.a11, DL.t1, DL.t2, DL.t3, DL.x1, DL.x2, DL.x3, DL.x4, DL.x5, DL.x6, DL.x7, DL.x8, DL.x9, DL.x10, DL.x11, DL.x12, DL.y1, DL.y2, DL.eq_ii, DL.ne_ii, DL.k1, DL.k2, DL.k3, DL.k4, DL.k5, DL.k6, DL.z0, DL.z1, DL.z2, DL.z3, DL.z4, DL.z5, DL.z6, DL.z7, DL.z8, DL.z9, DL.z10, DL.z11, DL.z12, DL.z13, DL.z14, DL.z15, DL.z16, DL.z17, DL.z18, DL.z19, DL.z20, DL.z21, DL.z22, DL.z23, DL.z24, DL.z25, DL.z26, DL.z27, DL.z28, DL.z29, DL.ic1, DL.ic2]
          by_cases hb : 0 < b
          · refine .inr ⟨hb, sp_divisor_of ?_⟩
            simp [phi, startA, dSeq, dNext, dAsg, dAsgG, dIf, dRet, dRetV, dRetN, dDrop, dRaise, dRaiseI, dFz, dFzS, dVar, dC, dBin, dUn, dTest, isB, dAndT, dOrT, dNotT, dAndV, dOrV, dNotV, dIfE, dTruth, dCons, dNil, dTupE, dLstE, dCB, dIs, dCall, gNm, dPart, dNoPart, DL.f0, DL.fc, DL.g1, DL.g2, DL.g3, DL.s1, DL.s2, DL.zc, dPar, dChain, DL.e1, DL.e2, DL.e3, DL.e4, DL.e5, DL.e6, DL.e7, DL.e8, DL.e9, DL.e10, DL.e11, DL.e12, DL.e13, DL.e14, DL.a1, DL.a2, DL.a3, DL.a4, DL.a5, DL.a6, DL.a7, DL.a8, DL.a9, DL.a10, DL.a11, DL.t1, DL.t2, DL.t3, DL.x1, DL.x2, DL.x3, DL.x4, DL.x5, DL.x6, DL.x7, DL.x8, DL.x9, DL.x10, DL.x11, DL.x12, DL.y1, DL.y2, DL.eq_ii, DL.ne_ii, DL.k1, DL.k2, DL.k3, DL.k4, DL.k5, DL.k6, DL.z0, DL.z1, DL.z2, DL.z3, DL.z4, DL.z5, DL.z6, DL.z7, DL.z8, DL.z9, DL.z10, DL.z11, DL.z12, DL.z13, DL.z14, DL.z15, DL.z16, DL.z17, DL.z18, DL.z19, DL.z20, DL.z21, DL.z22, DL.z23, DL.z24, DL.z25, DL.z26, DL.z27, DL.z28, DL.z29, DL.ic1, DL.ic2]
            simp only [shareB, decide_eq_true hb, Bool.true_and] at q
            have e : decide (((Int.gcd a b : Nat) : Int) = 1) = decide (Int.gcd a b = 1) := by
              congr 1
              apply propext
              omega
            rw [e]
            exact q
          · refine .inl ⟨by omega, ?_⟩
            simpa [shareB, hb] using q
        | _ => exact .inr ⟨rfl, .inl ⟨rfl, q⟩⟩
      | _ => exact .inl ⟨rfl, by simpa [shareB] using q⟩
    | x :: y :: z :: r, _ =>
      simp [phi, startA, dSeq, dNext, dAsg, dAsgG, dIf, dRet, dRetV, dRetN, dDrop, dRaise, dRaiseI, dFz, dFzS, dVar, dC, dBin, dUn, dTest, isB, dAndT, dOrT, dNotT, dAndV, dOrV, dNotV, dIfE, dTruth, dCons, dNil, dTupE, dLstE, dCB, dIs, dCall, gNm, dPart, dNoPart, DL.f0, DL.fc, DL.g1, DL.g2, DL.g3, DL.s1, DL.s2, DL.zc, dPar, dChain, DL.e1, DL.e2, DL.e3, DL.e4, DL.e5, DL.e6, DL.e7, DL.e8, DL.e9, DL.e10, DL.e11, DL.e12, DL.e13, DL.e14, DL.a1, DL.a2, DL.a3, DL.a4, DL.a5, DL.a6, DL.a7, DL.a8, DL.a9, DL.a10, DL.a11, DL.t1, DL.t2, DL.t3, DL.x1, DL.x2, DL.x3, DL.x4, DL.x5, DL.x6, DL.x7, DL.x8, DL.x9, DL.x10, DL.x11, DL.x12, DL.y1, DL.y2, DL.eq_ii, DL.ne_ii, DL.k1, DL.k2, DL.k3, DL.k4, DL.k5, DL.k6, DL.z0, DL.z1, DL.z2, DL.z3, DL.z4, DL.z5, DL.z6, DL.z7, DL.z8, DL.z9, DL.z10, DL.z11, DL.z12, DL.z13, DL.z14, DL.z15, DL.z16, DL.z17, DL.z18, DL.z19, DL.z20, DL.z21, DL.z22, DL.z23, DL.z24, DL.z25, DL.z26, DL.z27, DL.z28, DL.z29, DL.ic1, DL.ic2, phi_is_share, t_is_share, shareB] at q ⊢
      exact .inr ⟨by omega, q⟩
  | _ => first | (simpa [phi, startA, dSeq, dNext, dAsg, dAsgG, dIf, dRet, dRetV, dRetN, dDrop, dRaise, dRaiseI, dFz, dFzS, dVar, dC, dBin, dUn, dTest, isB, dAndT, dOrT, dNotT, dAndV, dOrV, dNotV, dIfE, dTruth, dCons, dNil, dTupE, dLstE, dCB, dIs, dCall, gNm, dPart, dNoPart, DL.f0, DL.fc, DL.g1, DL.g2, DL.g3, DL.s1, DL.s2, DL.zc, dPar, dChain, DL.e1, DL.e2, DL.e3, DL.e4, DL.e5, DL.e6, DL.e7, DL.e8, DL.e9, DL.e10, DL.e11, DL.e12, DL.e13, DL.e14, DL.a1, DL.a2, DL.a3, DL.a4, DL.a5, DL.a6, DL.a7, DL.a8, DL.a9, DL.a10, DL.a11, DL.t1, DL.t2, DL.t3, DL.x1, DL.x2, DL.x3, DL.x4, DL.x5, DL.x6, DL.x7, DL.x8, DL.x9, DL.x10, DL.x11, DL.x12, DL.y1, DL.y2, DL.eq_ii, DL.ne_ii, DL.k1, DL.k2, DL.k3, DL.k4, DL.k5, DL.k6, DL.z0, DL.z1, DL.z2, DL.z3, DL.z4, DL.z5, DL.z6, DL.z7, DL.z8, DL.z9, DL.z10, DL.z11, DL.z12, DL.z13, DL.z14, DL.z15, DL.z16, DL.z17, DL.z18, DL.z19, DL.z20, DL.z21, DL.z22, DL.z23, DL.z24, DL.z25, DL.z26, DL.z27, DL.z28, DL.z29, DL.ic1, DL.ic2, phi_is_share, t_is_share, shareB] using q) | cases h
theorem sp_is_less {a b c d : Int} (h : Q (.fr (.bl (decide (a * d < c * b))))) (h1 : MulOk a d) (h2 : MulOk c b) : phi_is_less_share [.fr (.tup [.int a, .int b]), .fr (.tup [.int c, .int d])] Q E := by
  simp [phi, startA, dSeq, dNext, dAsg, dAsgG, dIf, dRet, dRetV, dRetN, dDrop, dRaise, dRaiseI, dFz, dFzS, dVar, dC, dBin, dUn, dTest, isB, dAndT, dOrT, dNotT, dAndV, dOrV, dNotV, dIfE, dTruth, dCons, dNil, dTupE, dLstE, dCB, dIs, dCall, gNm, dPart, dNoPart, DL.f0, DL.fc, DL.g1, DL.g2, DL.g3, DL.s1, DL.s2, DL.zc, dPar, dChain, DL.e1, DL.e2, DL.e3, DL.e4, DL.e5, DL.e6, DL.e7, DL.e8, DL.e9, DL.e10, DL.e11, DL.e12, DL.e13, DL.e14, DL.a1, DL.a2, DL.a3, DL.a4, DL.a5, DL.a6, DL.a7, DL.a8, DL.a9, DL.a10, DL.a11, DL.t1, DL.t2, DL.t3, DL.x1, DL.x2, DL.x3, DL.x4, DL.x5, DL.x6, DL.x7, DL.x8, DL.x9, DL.x10, DL.x11, DL.x12, DL.y1, DL.y2, DL.eq_ii, DL.ne_ii, DL.k1, DL.k2, DL.k3, DL.k4, DL.k5, DL.k6, DL.z0, DL.z1, DL.z2, DL.z3, DL.z4, DL.z5, DL.z6, DL.z7, DL.z8, DL.z9, DL.z10, DL.z11, DL.z12, DL.z13, DL.z14, DL.z15, DL.z16, DL.z17, DL.z18, DL.z19, DL.z20, DL.z21, DL.z22, DL.z23, DL.z24, DL.z25, DL.z26, DL.z27, DL.z28, DL.z29, DL.ic1, DL.ic2, phi_is_less_share, t_is_less_share]
  exact ⟨h1, h2, h⟩
theorem sp_need_share_bad {d : D} (h : std2 d = true) (hs : shareB d = false) (q : E (3, [], [])) : phi_need_share [.fr d] Q E := by
  simp [phi, startA, dSeq, dNext, dAsg, dAsgG, dIf, dRet, dRetV, dRetN, dDrop, dRaise, dRaiseI, dFz, dFzS, dVar, dC, dBin, dUn, dTest, isB, dAndT, dOrT, dNotT, dAndV, dOrV, dNotV, dIfE, dTruth, dCons, dNil, dTupE, dLstE, dCB, dIs, dCall, gNm, dPart, dNoPart, DL.f0, DL.fc, DL.g1, DL.g2, DL.g3, DL.s1, DL.s2, DL.zc, dPar, dChain, DL.e1, DL.e2, DL.e3, DL.e4, DL.e5, DL.e6, DL.e7, DL.e8, DL.e9, DL.e10, DL.e11, DL.e12, DL.e13, DL.e14, DL.a1, DL.a2, DL.a3, DL.a4, DL.a5, DL.a6, DL.a7, DL.a8, DL.a9, DL.a10, DL.a11, DL.t1, DL.t2, DL.t3, DL.x1, DL.x2, DL.x3, DL.x4, DL.x5, DL.x6, DL.x7, DL.x8, DL.x9, DL.x10, DL.x11, DL.x12, DL.y1, DL.y2, DL.eq_ii, DL.ne_ii, DL.k1, DL.k2, DL.k3, DL.k4, DL.k5, DL.k6, DL.z0, DL.z1, DL.z2, DL.z3, DL.z4, DL.z5, DL.z6, DL.z7, DL.z8, DL.z9, DL.z10, DL.z11, DL.z12, DL.z13, DL.z14, DL.z15, DL.z16, DL.z17, DL.z18, DL.z19, DL.z20, DL.z21, DL.z22, DL.z23, DL.z24, DL.z25, DL.z26, DL.z27, DL.z28, DL.z29, DL.ic1, DL.ic2, phi_need_share, t_need_share]
  refine sp_is_share h ?_
  simp [phi, startA, dSeq, dNext, dAsg, dAsgG, dIf, dRet, dRetV, dRetN, dDrop, dRaise, dRaiseI, dFz, dFzS, dVar, dC, dBin, dUn, dTest, isB, dAndT, dOrT, dNotT, dAndV, dOrV, dNotV, dIfE, dTruth, dCons, dNil, dTupE, dLstE, dCB, dIs, dCall, gNm, dPart, dNoPart, DL.f0, DL.fc, DL.g1, DL.g2, DL.g3, DL.s1, DL.s2, DL.zc, dPar, dChain, DL.e1, DL.e2, DL.e3, DL.e4, DL.e5, DL.e6, DL.e7, DL.e8, DL.e9, DL.e10, DL.e11, DL.e12, DL.e13, DL.e14, DL.a1, DL.a2, DL.a3, DL.a4, DL.a5, DL.a6, DL.a7, DL.a8, DL.a9, DL.a10, DL.a11, DL.t1, DL.t2, DL.t3, DL.x1, DL.x2, DL.x3, DL.x4, DL.x5, DL.x6, DL.x7, DL.x8, DL.x9, DL.x10, DL.x11, DL.x12, DL.y1, DL.y2, DL.eq_ii, DL.ne_ii, DL.k1, DL.k2, DL.k3, DL.k4, DL.k5, DL.k6, DL.z0, DL.z1, DL.z2, DL.z3, DL.z4, DL.z5, DL.z6, DL.z7, DL.z8, DL.z9, DL.z10, DL.z11, DL.z12, DL.z13, DL.z14, DL.z15, DL.z16, DL.z17, DL.z18, DL.z19, DL.z20, DL.z21, DL.z22, DL.z23, DL.z24, DL.z25, DL.z26, DL.z27, DL.z28, DL.z29, DL.ic1, DL.ic2, hs]
  exact q
theorem sp_need_share {a b : Int} (hs : shareB (.tup [.int a, .int b]) = true) (q : if a < -100 * b ∨ 100 * b < a then E (3, [], []) else Q (.fr .non)) : phi_need_share [.fr (.tup [.int a, .int b])] Q E := by
  simp [phi, startA, dSeq, dNext, dAsg, dAsgG, dIf, dRet, dRetV, dRetN, dDrop, dRaise, dRaiseI, dFz, dFzS, dVar, dC, dBin, dUn, dTest, isB, dAndT, dOrT, dNotT, dAndV, dOrV, dNotV, dIfE, dTruth, dCons, dNil, dTupE, dLstE, dCB, dIs, dCall, gNm, dPart, dNoPart, DL.f0, DL.fc, DL.g1, DL.g2, DL.g3, DL.s1, DL.s2, DL.zc, dPar, dChain, DL.e1, DL.e2, DL.e3, DL.e4, DL.e5, DL.e6, DL.e7, DL.e8, DL.e9, DL.e10, DL.e11, DL.e12, DL.e13, DL.e14, DL.a1, DL.a2, DL.a3, DL.a4, DL.a5, DL.a6, DL.a7, DL.a8, DL.a9, DL.a10, DL.a11, DL.t1, DL.t2, DL.t3, DL.x1, DL.x2, DL.x3, DL.x4, DL.x5, DL.x6, DL.x7, DL.x8, DL.x9, DL.x10, DL.x11, DL.x12, DL.y1, DL.y2, DL.eq_ii, DL.ne_ii, DL.k1, DL.k2, DL.k3, DL.k4, DL.k5, DL.k6, DL.z0, DL.z1, DL.z2, DL.z3, DL.z4, DL.z5, DL.z6, DL.z7, DL.z8, DL.z9, DL.z10, DL.z11, DL.z12, DL.z13, DL.z14, DL.z15, DL.z16, DL.z17, DL.z18, DL.z19, DL.z20, DL.z21, DL.z22, DL.z23, DL.z24, DL.z25, DL.z26, DL.z27, DL.z28, DL.z29, DL.ic1, DL.ic2, phi_need_share, t_need_share]
  refine sp_is_share rfl ?_
  simp [phi, startA, dSeq, dNext, dAsg, dAsgG, dIf, dRet, dRetV, dRetN, dDrop, dRaise, dRaiseI, dFz, dFzS, dVar, dC, dBin, dUn, dTest, isB, dAndT, dOrT, dNotT, dAndV, dOrV, dNotV, dIfE, dTruth, dCons, dNil, dTupE, dLstE, dCB, dIs, dCall, gNm, dPart, dNoPart, DL.f0, DL.fc, DL.g1, DL.g2, DL.g3, DL.s1, DL.s2, DL.zc, dPar, dChain, DL.e1, DL.e2, DL.e3, DL.e4, DL.e5, DL.e6, DL.e7, DL.e8, DL.e9, DL.e10, DL.e11, DL.e12, DL.e13, DL.e14, DL.a1, DL.a2, DL.a3, DL.a4, DL.a5, DL.a6, DL.a7, DL.a8, DL.a9, DL.a10, DL.a11, DL.t1, DL.t2, DL.t3, DL.x1, DL.x2, DL.x3, DL.x4, DL.x5, DL.x6, DL.x7, DL.x8, DL.x9, DL.x10, DL.x11, DL.x12, DL.y1, DL.y2, DL.eq_ii, DL.ne_ii, DL.k1, DL.k2, DL.k3, DL.k4, DL.k5, DL.k6, DL.z0, DL.z1, DL.z2, DL.z3, DL.z4, DL.z5, DL.z6, DL.z7, DL.z8, DL.z9, DL.z10, DL.z11, DL.z12, DL.z13, DL.z14, DL.z15, DL.z16, DL.z17, DL.z18, DL.z19, DL.z20, DL.z21, DL.z22, DL.z23, DL.z24, DL.z25, DL.z26, DL.z27, DL.z28, DL.z29, DL.ic1, DL.ic2, hs]
  refine ⟨lsz (by simp), sp_is_less ?_ (mul_r (by omega) (by omega)) (mul_l (by omega) (by omega))⟩
  simp [phi, startA, dSeq, dNext, dAsg, dAsgG, dIf, dRet, dRetV, dRetN, dDrop, dRaise, dRaiseI, dFz, dFzS, dVar, dC, dBin, dUn, dTest, isB, dAndT, dOrT, dNotT, dAndV, dOrV, dNotV, dIfE, dTruth, dCons, dNil, dTupE, dLstE, dCB, dIs, dCall, gNm, dPart, dNoPart, DL.f0, DL.fc, DL.g1, DL.g2, DL.g3, DL.s1, DL.s2, DL.zc, dPar, dChain, DL.e1, DL.e2, DL.e3, DL.e4, DL.e5, DL.e6, DL.e7, DL.e8, DL.e9, DL.e10, DL.e11, DL.e12, DL.e13, DL.e14, DL.a1, DL.a2, DL.a3, DL.a4, DL.a5, DL.a6, DL.a7, DL.a8, DL.a9, DL.a10, DL.a11, DL.t1, DL.t2, DL.t3, DL.x1, DL.x2, DL.x3, DL.x4, DL.x5, DL.x6, DL.x7, DL.x8, DL.x9, DL.x10, DL.x11, DL.x12, DL.y1, DL.y2, DL.eq_ii, DL.ne_ii, DL.k1, DL.k2, DL.k3, DL.k4, DL.k5, DL.k6, DL.z0, DL.z1, DL.z2, DL.z3, DL.z4, DL.z5, DL.z6, DL.z7, DL.z8, DL.z9, DL.z10, DL.z11, DL.z12, DL.z13, DL.z14, DL.z15, DL.z16, DL.z17, DL.z18, DL.z19, DL.z20, DL.z21, DL.z22, DL.z23, DL.z24, DL.z25, DL.z26, DL.z27, DL.z28, DL.z29, DL.ic1, DL.ic2]
  by_cases h1 : a < -100 * b
  · rw [if_pos (.inl h1)] at q
    exact .inr ⟨by omega, q⟩
  · refine .inl ⟨by omega, lsz (by simp), sp_is_less ?_ (mul_l (by omega) (by omega)) (mul_r (by omega) (by omega))⟩
    simp [phi, startA, dSeq, dNext, dAsg, dAsgG, dIf, dRet, dRetV, dRetN, dDrop, dRaise, dRaiseI, dFz, dFzS, dVar, dC, dBin, dUn, dTest, isB, dAndT, dOrT, dNotT, dAndV, dOrV, dNotV, dIfE, dTruth, dCons, dNil, dTupE, dLstE, dCB, dIs, dCall, gNm, dPart, dNoPart, DL.f0, DL.fc, DL.g1, DL.g2, DL.g3, DL.s1, DL.s2, DL.zc, dPar, dChain, DL.e1, DL.e2, DL.e3, DL.e4, DL.e5, DL.e6, DL.e7, DL.e8, DL.e9, DL.e10, DL.e11, DL.e12, DL.e13, DL.e14, DL.a1, DL.a2, DL.a3, DL.a4, DL.a5, DL.a6, DL.a7, DL.a8, DL.a9, DL.a10, DL.a11, DL.t1, DL.t2, DL.t3, DL.x1, DL.x2, DL.x3, DL.x4, DL.x5, DL.x6, DL.x7, DL.x8, DL.x9, DL.x10, DL.x11, DL.x12, DL.y1, DL.y2, DL.eq_ii, DL.ne_ii, DL.k1, DL.k2, DL.k3, DL.k4, DL.k5, DL.k6, DL.z0, DL.z1, DL.z2, DL.z3, DL.z4, DL.z5, DL.z6, DL.z7, DL.z8, DL.z9, DL.z10, DL.z11, DL.z12, DL.z13, DL.z14, DL.z15, DL.z16, DL.z17, DL.z18, DL.z19, DL.z20, DL.z21, DL.z22, DL.z23, DL.z24, DL.z25, DL.z26, DL.z27, DL.z28, DL.z29, DL.ic1, DL.ic2]
    by_cases h2 : 100 * b < a
    · rw [if_pos (.inr h2)] at q
      exact .inr ⟨by omega, q⟩
    · rw [if_neg (by omega)] at q
      exact .inl ⟨by omega, q⟩
theorem sp_need_number {d : D} {a b : Int} (h : d.std = true) (q : if btw d a b = true then Q (.fr .non) else E (2, ["part"], [.str "ticks"])) : phi_need_number [.fr (.str "ticks"), .fr d, .fr (.int a), .fr (.int b)] Q E := by
  simp [phi, startA, dSeq, dNext, dAsg, dAsgG, dIf, dRet, dRetV, dRetN, dDrop, dRaise, dRaiseI, dFz, dFzS, dVar, dC, dBin, dUn, dTest, isB, dAndT, dOrT, dNotT, dAndV, dOrV, dNotV, dIfE, dTruth, dCons, dNil, dTupE, dLstE, dCB, dIs, dCall, gNm, dPart, dNoPart, DL.f0, DL.fc, DL.g1, DL.g2, DL.g3, DL.s1, DL.s2, DL.zc, dPar, dChain, DL.e1, DL.e2, DL.e3, DL.e4, DL.e5, DL.e6, DL.e7, DL.e8, DL.e9, DL.e10, DL.e11, DL.e12, DL.e13, DL.e14, DL.a1, DL.a2, DL.a3, DL.a4, DL.a5, DL.a6, DL.a7, DL.a8, DL.a9, DL.a10, DL.a11, DL.t1, DL.t2, DL.t3, DL.x1, DL.x2, DL.x3, DL.x4, DL.x5, DL.x6, DL.x7, DL.x8, DL.x9, DL.x10, DL.x11, DL.x12, DL.y1, DL.y2, DL.eq_ii, DL.ne_ii, DL.k1, DL.k2, DL.k3, DL.k4, DL.k5, DL.k6, DL.z0, DL.z1, DL.z2, DL.z3, DL.z4, DL.z5, DL.z6, DL.z7, DL.z8, DL.z9, DL.z10, DL.z11, DL.z12, DL.z13, DL.z14, DL.z15, DL.z16, DL.z17, DL.z18, DL.z19, DL.z20, DL.z21, DL.z22, DL.z23, DL.z24, DL.z25, DL.z26, DL.z27, DL.z28, DL.z29, DL.ic1, DL.ic2, phi_need_number, t_need_number, sp_is_between h]
  cases hb : btw d a b <;> simp_all
/-- floors -/
def steps (a b : Int) (n : Nat) : List Int := (List.range n).map fun (i : Nat) => ((i : Int) + 1) * a / b - (i : Int) * a / b
theorem sp_balanced_by {a b : Int} {n : Nat} (hn : n ≤ 200) (hb : DivOk 0 b) (q : Q (.fr (.tup ((steps a b n).map D.int)))) : phi_balanced_by [.fr (.tup [.int a, .int b]), .fr (.int n)] Q E := by
  simp [phi, startA, dSeq, dNext, dAsg, dAsgG, dIf, dRet, dRetV, dRetN, dDrop, dRaise, dRaiseI, dFz, dFzS, dVar, dC, dBin, dUn, dTest, isB, dAndT, dOrT, dNotT, dAndV, dOrV, dNotV, dIfE, dTruth, dCons, dNil, dTupE, dLstE, dCB, dIs, dCall, gNm, dPart, dNoPart, DL.f0, DL.fc, DL.g1, DL.g2, DL.g3, DL.s1, DL.s2, DL.zc, dPar, dChain, DL.e1, DL.e2, DL.e3, DL.e4, DL.e5, DL.e6, DL.e7, DL.e8, DL.e9, DL.e10, DL.e11, DL.e12, DL.e13, DL.e14, DL.a1, DL.a2, DL.a3, DL.a4, DL.a5, DL.a6, DL.a7, DL.a8, DL.a9, DL.a10, DL.a11, DL.t1, DL.t2, DL.t3, DL.x1, DL.x2, DL.x3, DL.x4, DL.x5, DL.x6, DL.x7, DL.x8, DL.x9, DL.x10, DL.x11, DL.x12, DL.y1, DL.y2, DL.eq_ii, DL.ne_ii, DL.k1, DL.k2, DL.k3, DL.k4, DL.k5, DL.k6, DL.z0, DL.z1, DL.z2, DL.z3, DL.z4, DL.z5, DL.z6, DL.z7, DL.z8, DL.z9, DL.z10, DL.z11, DL.z12, DL.z13, DL.z14, DL.z15, DL.z16, DL.z17, DL.z18, DL.z19, DL.z20, DL.z21, DL.z22, DL.z23, DL.z24, DL.z25, DL.z26, DL.z27, DL.z28, DL.z29, DL.ic1, DL.ic2, phi_balanced_by, t_balanced_by, dLc, dRng1, dZip, dSl, wipeA]
  refine ⟨by omega, by omega, lc_map (fun d => match d with | .int t => .int (t * a / b) | d => d) (fun d hd P k0 hp => ?_) (lsz (by rw [rangeD_len]; omega)) ?_⟩
  · obtain ⟨i, hi, rfl⟩ := rangeD_mem hd
    simp [phi, startA, dSeq, dNext, dAsg, dAsgG, dIf, dRet, dRetV, dRetN, dDrop, dRaise, dRaiseI, dFz, dFzS, dVar, dC, dBin, dUn, dTest, isB, dAndT, dOrT, dNotT, dAndV, dOrV, dNotV, dIfE, dTruth, dCons, dNil, dTupE, dLstE, dCB, dIs, dCall, gNm, dPart, dNoPart, DL.f0, DL.fc, DL.g1, DL.g2, DL.g3, DL.s1, DL.s2, DL.zc, dPar, dChain, DL.e1, DL.e2, DL.e3, DL.e4, DL.e5, DL.e6, DL.e7, DL.e8, DL.e9, DL.e10, DL.e11, DL.e12, DL.e13, DL.e14, DL.a1, DL.a2, DL.a3, DL.a4, DL.a5, DL.a6, DL.a7, DL.a8, DL.a9, DL.a10, DL.a11, DL.t1, DL.t2, DL.t3, DL.x1, DL.x2, DL.x3, DL.x4, DL.x5, DL.x6, DL.x7, DL.x8, DL.x9, DL.x10, DL.x11, DL.x12, DL.y1, DL.y2, DL.eq_ii, DL.ne_ii, DL.k1, DL.k2, DL.k3, DL.k4, DL.k5, DL.k6, DL.z0, DL.z1, DL.z2, DL.z3, DL.z4, DL.z5, DL.z6, DL.z7, DL.z8, DL.z9, DL.z10, DL.z11, DL.z12, DL.z13, DL.z14, DL.z15, DL.z16, DL.z17, DL.z18, DL.z19, DL.z20, DL.z21, DL.z22, DL.z23, DL.z24, DL.z25, DL.z26, DL.z27, DL.z28, DL.z29, DL.ic1, DL.ic2, dYes]
    simp only [Int.zero_add] at hp
    exact ⟨mul_l (by omega) (by omega), hb, hp⟩
  · rw [rangeD_map]
    simp only [Int.zero_add]
    refine ⟨_, _, ⟨rfl, rfl⟩, ?_⟩
    rw [show cutD ((List.range (n + 1)).map fun (i : Nat) => D.int ((i : Int) * a / b)) (some 1) none = _ from cut_from (a := 1), pairs_range]
    refine lc_map (fun d => match d with | .tup [.int x, .int y] => .int (y - x) | d => d) (fun d hd P k0 hp => ?_) (lsz (by rw [List.length_map, List.length_range]; omega)) ?_
    · obtain ⟨i, hi, rfl⟩ := List.mem_map.mp hd
      simp [phi, startA, dSeq, dNext, dAsg, dAsgG, dIf, dRet, dRetV, dRetN, dDrop, dRaise, dRaiseI, dFz, dFzS, dVar, dC, dBin, dUn, dTest, isB, dAndT, dOrT, dNotT, dAndV, dOrV, dNotV, dIfE, dTruth, dCons, dNil, dTupE, dLstE, dCB, dIs, dCall, gNm, dPart, dNoPart, DL.f0, DL.fc, DL.g1, DL.g2, DL.g3, DL.s1, DL.s2, DL.zc, dPar, dChain, DL.e1, DL.e2, DL.e3, DL.e4, DL.e5, DL.e6, DL.e7, DL.e8, DL.e9, DL.e10, DL.e11, DL.e12, DL.e13, DL.e14, DL.a1, DL.a2, DL.a3, DL.a4, DL.a5, DL.a6, DL.a7, DL.a8, DL.a9, DL.a10, DL.a11, DL.t1, DL.t2, DL.t3, DL.x1, DL.x2, DL.x3, DL.x4, DL.x5, DL.x6, DL.x7, DL.x8, DL.x9, DL.x10, DL.x11, DL.x12, DL.y1, DL.y2, DL.eq_ii, DL.ne_ii, DL.k1, DL.k2, DL.k3, DL.k4, DL.k5, DL.k6, DL.z0, DL.z1, DL.z2, DL.z3, DL.z4, DL.z5, DL.z6, DL.z7, DL.z8, DL.z9, DL.z10, DL.z11, DL.z12, DL.z13, DL.z14, DL.z15, DL.z16, DL.z17, DL.z18, DL.z19, DL.z20, DL.z21, DL.z22, DL.z23, DL.z24, DL.z25, DL.z26, DL.z27, DL.z28, DL.z29, DL.ic1, DL.ic2, dYes]
      simpa using hp
    · rw [List.map_map]
      unfold steps at q
      rw [← map_ints] at q
      simpa [Function.comp_def] using q
theorem sp__law_blend (q : ∀ m : Int, 0 ≤ m → Q (.fr (.int m))) : phi__law_blend [.tk] Q E := by
  simp [phi, startA, dSeq, dNext, dAsg, dAsgG, dIf, dRet, dRetV, dRetN, dDrop, dRaise, dRaiseI, dFz, dFzS, dVar, dC, dBin, dUn, dTest, isB, dAndT, dOrT, dNotT, dAndV, dOrV, dNotV, dIfE, dTruth, dCons, dNil, dTupE, dLstE, dCB, dIs, dCall, gNm, dPart, dNoPart, DL.f0, DL.fc, DL.g1, DL.g2, DL.g3, DL.s1, DL.s2, DL.zc, dPar, dChain, DL.e1, DL.e2, DL.e3, DL.e4, DL.e5, DL.e6, DL.e7, DL.e8, DL.e9, DL.e10, DL.e11, DL.e12, DL.e13, DL.e14, DL.a1, DL.a2, DL.a3, DL.a4, DL.a5, DL.a6, DL.a7, DL.a8, DL.a9, DL.a10, DL.a11, DL.t1, DL.t2, DL.t3, DL.x1, DL.x2, DL.x3, DL.x4, DL.x5, DL.x6, DL.x7, DL.x8, DL.x9, DL.x10, DL.x11, DL.x12, DL.y1, DL.y2, DL.eq_ii, DL.ne_ii, DL.k1, DL.k2, DL.k3, DL.k4, DL.k5, DL.k6, DL.z0, DL.z1, DL.z2, DL.z3, DL.z4, DL.z5, DL.z6, DL.z7, DL.z8, DL.z9, DL.z10, DL.z11, DL.z12, DL.z13, DL.z14, DL.z15, DL.z16, DL.z17, DL.z18, DL.z19, DL.z20, DL.z21, DL.z22, DL.z23, DL.z24, DL.z25, DL.z26, DL.z27, DL.z28, DL.z29, DL.ic1, DL.ic2, phi__law_blend, t__law_blend, dTkSet, dTkInt, dFor, dIterL, dTkCells]
  intro m0 hm0
  refine ⟨m0 + 1, by omega, rfl, fun t ht => ⟨lsz (by omega), ?_⟩⟩
  refine for_inv (fun α => ∃ f : Int, 0 ≤ f ∧ ∃ s3 s4 s5 : Option S, α = [some .tk, some (.fr (.int t)), some (.fr (.int f)), s3, s4, s5]) (fun d hd α hα nxt hn => ?_) ⟨0, Int.le_refl _, none, none, none, rfl⟩ (fun α hα => ?_)
  · obtain ⟨f, hf, s3, s4, s5, rfl⟩ := hα
    have hp : ∃ p : Int, 0 < p ∧ p < 2 ^ 32 ∧ d = .int p := by
      simp only [List.mem_cons, List.not_mem_nil, or_false] at hd
      rcases hd with rfl | rfl | rfl <;> exact ⟨_, by omega, by omega, rfl⟩
    obtain ⟨p, p0, p1, rfl⟩ := hp
    simp [phi, startA, dSeq, dNext, dAsg, dAsgG, dIf, dRet, dRetV, dRetN, dDrop, dRaise, dRaiseI, dFz, dFzS, dVar, dC, dBin, dUn, dTest, isB, dAndT, dOrT, dNotT, dAndV, dOrV, dNotV, dIfE, dTruth, dCons, dNil, dTupE, dLstE, dCB, dIs, dCall, gNm, dPart, dNoPart, DL.f0, DL.fc, DL.g1, DL.g2, DL.g3, DL.s1, DL.s2, DL.zc, dPar, dChain, DL.e1, DL.e2, DL.e3, DL.e4, DL.e5, DL.e6, DL.e7, DL.e8, DL.e9, DL.e10, DL.e11, DL.e12, DL.e13, DL.e14, DL.a1, DL.a2, DL.a3, DL.a4, DL.a5, DL.a6, DL.a7, DL.a8, DL.a9, DL.a10, DL.a11, DL.t1, DL.t2, DL.t3, DL.x1, DL.x2, DL.x3, DL.x4, DL.x5, DL.x6, DL.x7, DL.x8, DL.x9, DL.x10, DL.x11, DL.x12, DL.y1, DL.y2, DL.eq_ii, DL.ne_ii, DL.k1, DL.k2, DL.k3, DL.k4, DL.k5, DL.k6, DL.z0, DL.z1, DL.z2, DL.z3, DL.z4, DL.z5, DL.z6, DL.z7, DL.z8, DL.z9, DL.z10, DL.z11, DL.z12, DL.z13, DL.z14, DL.z15, DL.z16, DL.z17, DL.z18, DL.z19, DL.z20, DL.z21, DL.z22, DL.z23, DL.z24, DL.z25, DL.z26, DL.z27, DL.z28, DL.z29, DL.ic1, DL.ic2, dFor, dTkCells]
    refine ⟨mul_r (by omega) (by omega), div_ok' (by omega) (by omega), p0, fun ns hns => ?_⟩
    refine for_inv (fun α => ∃ m : Int, 0 ≤ m ∧ m < p ∧ ∃ s5 : Option S, α = [some .tk, some (.fr (.int t)), some (.fr (.int f)), some (.fr (.int p)), some (.fr (.int m)), s5]) (fun d hd α hα nxt2 hn2 => ?_) ⟨_, Int.emod_nonneg _ (by omega), Int.emod_lt_of_pos _ p0, s5, rfl⟩ (fun α hα => ?_)
    · obtain ⟨m, m0, m1, s5, rfl⟩ := hα
      obtain ⟨c, _, rfl⟩ := List.mem_map.mp hd
      simp [phi, startA, dSeq, dNext, dAsg, dAsgG, dIf, dRet, dRetV, dRetN, dDrop, dRaise, dRaiseI, dFz, dFzS, dVar, dC, dBin, dUn, dTest, isB, dAndT, dOrT, dNotT, dAndV, dOrV, dNotV, dIfE, dTruth, dCons, dNil, dTupE, dLstE, dCB, dIs, dCall, gNm, dPart, dNoPart, DL.f0, DL.fc, DL.g1, DL.g2, DL.g3, DL.s1, DL.s2, DL.zc, dPar, dChain, DL.e1, DL.e2, DL.e3, DL.e4, DL.e5, DL.e6, DL.e7, DL.e8, DL.e9, DL.e10, DL.e11, DL.e12, DL.e13, DL.e14, DL.a1, DL.a2, DL.a3, DL.a4, DL.a5, DL.a6, DL.a7, DL.a8, DL.a9, DL.a10, DL.a11, DL.t1, DL.t2, DL.t3, DL.x1, DL.x2, DL.x3, DL.x4, DL.x5, DL.x6, DL.x7, DL.x8, DL.x9, DL.x10, DL.x11, DL.x12, DL.y1, DL.y2, DL.eq_ii, DL.ne_ii, DL.k1, DL.k2, DL.k3, DL.k4, DL.k5, DL.k6, DL.z0, DL.z1, DL.z2, DL.z3, DL.z4, DL.z5, DL.z6, DL.z7, DL.z8, DL.z9, DL.z10, DL.z11, DL.z12, DL.z13, DL.z14, DL.z15, DL.z16, DL.z17, DL.z18, DL.z19, DL.z20, DL.z21, DL.z22, DL.z23, DL.z24, DL.z25, DL.z26, DL.z27, DL.z28, DL.z29, DL.ic1, DL.ic2]
      exact ⟨mul_r (by omega) (by omega), p0, hn2 _ ⟨_, Int.emod_nonneg _ (by omega), Int.emod_lt_of_pos _ p0, _, rfl⟩⟩
    · obtain ⟨m, m0, m1, s5, rfl⟩ := hα
      simp [phi, startA, dSeq, dNext, dAsg, dAsgG, dIf, dRet, dRetV, dRetN, dDrop, dRaise, dRaiseI, dFz, dFzS, dVar, dC, dBin, dUn, dTest, isB, dAndT, dOrT, dNotT, dAndV, dOrV, dNotV, dIfE, dTruth, dCons, dNil, dTupE, dLstE, dCB, dIs, dCall, gNm, dPart, dNoPart, DL.f0, DL.fc, DL.g1, DL.g2, DL.g3, DL.s1, DL.s2, DL.zc, dPar, dChain, DL.e1, DL.e2, DL.e3, DL.e4, DL.e5, DL.e6, DL.e7, DL.e8, DL.e9, DL.e10, DL.e11, DL.e12, DL.e13, DL.e14, DL.a1, DL.a2, DL.a3, DL.a4, DL.a5, DL.a6, DL.a7, DL.a8, DL.a9, DL.a10, DL.a11, DL.t1, DL.t2, DL.t3, DL.x1, DL.x2, DL.x3, DL.x4, DL.x5, DL.x6, DL.x7, DL.x8, DL.x9, DL.x10, DL.x11, DL.x12, DL.y1, DL.y2, DL.eq_ii, DL.ne_ii, DL.k1, DL.k2, DL.k3, DL.k4, DL.k5, DL.k6, DL.z0, DL.z1, DL.z2, DL.z3, DL.z4, DL.z5, DL.z6, DL.z7, DL.z8, DL.z9, DL.z10, DL.z11, DL.z12, DL.z13, DL.z14, DL.z15, DL.z16, DL.z17, DL.z18, DL.z19, DL.z20, DL.z21, DL.z22, DL.z23, DL.z24, DL.z25, DL.z26, DL.z27, DL.z28, DL.z29, DL.ic1, DL.ic2]
      refine ⟨mul_r (by omega) (by omega), pow_ok (by omega) (by omega) (by omega), p0, hn _ ⟨_, ?_, _, _, _, rfl⟩⟩
      have := Int.emod_nonneg (m ^ 5) (show p ≠ 0 by omega)
      have h2 : 0 ≤ f * 2147483647 := Int.mul_nonneg hf (by omega)
      omega
  · obtain ⟨f, hf, s3, s4, s5, rfl⟩ := hα
    exact ⟨_, rfl, q f hf⟩
theorem sp__law_draw {n : Int} (h : 0 < n) (h' : n ≤ 10 ^ 40) (q : ∀ m : Int, 0 ≤ m → m < n → Q (.fr (.int m))) : phi__law_draw [.tk, .fr (.int n)] Q E := by
  simp [phi, startA, dSeq, dNext, dAsg, dAsgG, dIf, dRet, dRetV, dRetN, dDrop, dRaise, dRaiseI, dFz, dFzS, dVar, dC, dBin, dUn, dTest, isB, dAndT, dOrT, dNotT, dAndV, dOrV, dNotV, dIfE, dTruth, dCons, dNil, dTupE, dLstE, dCB, dIs, dCall, gNm, dPart, dNoPart, DL.f0, DL.fc, DL.g1, DL.g2, DL.g3, DL.s1, DL.s2, DL.zc, dPar, dChain, DL.e1, DL.e2, DL.e3, DL.e4, DL.e5, DL.e6, DL.e7, DL.e8, DL.e9, DL.e10, DL.e11, DL.e12, DL.e13, DL.e14, DL.a1, DL.a2, DL.a3, DL.a4, DL.a5, DL.a6, DL.a7, DL.a8, DL.a9, DL.a10, DL.a11, DL.t1, DL.t2, DL.t3, DL.x1, DL.x2, DL.x3, DL.x4, DL.x5, DL.x6, DL.x7, DL.x8, DL.x9, DL.x10, DL.x11, DL.x12, DL.y1, DL.y2, DL.eq_ii, DL.ne_ii, DL.k1, DL.k2, DL.k3, DL.k4, DL.k5, DL.k6, DL.z0, DL.z1, DL.z2, DL.z3, DL.z4, DL.z5, DL.z6, DL.z7, DL.z8, DL.z9, DL.z10, DL.z11, DL.z12, DL.z13, DL.z14, DL.z15, DL.z16, DL.z17, DL.z18, DL.z19, DL.z20, DL.z21, DL.z22, DL.z23, DL.z24, DL.z25, DL.z26, DL.z27, DL.z28, DL.z29, DL.ic1, DL.ic2, phi__law_draw, t__law_draw, dTkSet, dTkInt, dTkPop]
  intro m hm
  have fin : ∀ (m : Int), 0 ≤ m → 0 < n ∧ ∀ (m_1 : Int), 0 ≤ m_1 → DivOk m_1 n ∧ ∃ m_2, 0 ≤ m_2 ∧ m_1 / n = m_2 ∧ Q (S.fr (D.int (m % n))) := fun m hm =>
    ⟨h, fun m1 h1 => ⟨div_ok' h h', _, Int.ediv_nonneg h1 (by omega), rfl, q _ (Int.emod_nonneg _ (by omega)) (Int.emod_lt_of_pos _ h)⟩⟩
  split
  · refine ⟨fun m hm => ⟨m, hm, rfl, fin⟩, sp__law_blend fun m hm => ⟨m, hm, rfl, fin⟩⟩
  · exact fin
theorem sp__law_pick {ds : List D} (h : ds ≠ []) (hl : ds.length ≤ 1000000) (q : ∀ d ∈ ds, Q (.fr d)) : phi__law_pick [.tk, .fr (.lst ds)] Q E := by
  simp [phi, startA, dSeq, dNext, dAsg, dAsgG, dIf, dRet, dRetV, dRetN, dDrop, dRaise, dRaiseI, dFz, dFzS, dVar, dC, dBin, dUn, dTest, isB, dAndT, dOrT, dNotT, dAndV, dOrV, dNotV, dIfE, dTruth, dCons, dNil, dTupE, dLstE, dCB, dIs, dCall, gNm, dPart, dNoPart, DL.f0, DL.fc, DL.g1, DL.g2, DL.g3, DL.s1, DL.s2, DL.zc, dPar, dChain, DL.e1, DL.e2, DL.e3, DL.e4, DL.e5, DL.e6, DL.e7, DL.e8, DL.e9, DL.e10, DL.e11, DL.e12, DL.e13, DL.e14, DL.a1, DL.a2, DL.a3, DL.a4, DL.a5, DL.a6, DL.a7, DL.a8, DL.a9, DL.a10, DL.a11, DL.t1, DL.t2, DL.t3, DL.x1, DL.x2, DL.x3, DL.x4, DL.x5, DL.x6, DL.x7, DL.x8, DL.x9, DL.x10, DL.x11, DL.x12, DL.y1, DL.y2, DL.eq_ii, DL.ne_ii, DL.k1, DL.k2, DL.k3, DL.k4, DL.k5, DL.k6, DL.z0, DL.z1, DL.z2, DL.z3, DL.z4, DL.z5, DL.z6, DL.z7, DL.z8, DL.z9, DL.z10, DL.z11, DL.z12, DL.z13, DL.z14, DL.z15, DL.z16, DL.z17, DL.z18, DL.z19, DL.z20, DL.z21, DL.z22, DL.z23, DL.z24, DL.z25, DL.z26, DL.z27, DL.z28, DL.z29, DL.ic1, DL.ic2, phi__law_pick, t__law_pick]
  have hp : 0 < ds.length := by
    cases ds with
    | nil => exact absurd rfl h
    | cons d r => rw [List.length_cons]; omega
  refine sp__law_draw (by omega) (by omega) fun m m0 m1 => ?_
  simp [phi, startA, dSeq, dNext, dAsg, dAsgG, dIf, dRet, dRetV, dRetN, dDrop, dRaise, dRaiseI, dFz, dFzS, dVar, dC, dBin, dUn, dTest, isB, dAndT, dOrT, dNotT, dAndV, dOrV, dNotV, dIfE, dTruth, dCons, dNil, dTupE, dLstE, dCB, dIs, dCall, gNm, dPart, dNoPart, DL.f0, DL.fc, DL.g1, DL.g2, DL.g3, DL.s1, DL.s2, DL.zc, dPar, dChain, DL.e1, DL.e2, DL.e3, DL.e4, DL.e5, DL.e6, DL.e7, DL.e8, DL.e9, DL.e10, DL.e11, DL.e12, DL.e13, DL.e14, DL.a1, DL.a2, DL.a3, DL.a4, DL.a5, DL.a6, DL.a7, DL.a8, DL.a9, DL.a10, DL.a11, DL.t1, DL.t2, DL.t3, DL.x1, DL.x2, DL.x3, DL.x4, DL.x5, DL.x6, DL.x7, DL.x8, DL.x9, DL.x10, DL.x11, DL.x12, DL.y1, DL.y2, DL.eq_ii, DL.ne_ii, DL.k1, DL.k2, DL.k3, DL.k4, DL.k5, DL.k6, DL.z0, DL.z1, DL.z2, DL.z3, DL.z4, DL.z5, DL.z6, DL.z7, DL.z8, DL.z9, DL.z10, DL.z11, DL.z12, DL.z13, DL.z14, DL.z15, DL.z16, DL.z17, DL.z18, DL.z19, DL.z20, DL.z21, DL.z22, DL.z23, DL.z24, DL.z25, DL.z26, DL.z27, DL.z28, DL.z29, DL.ic1, DL.ic2]
  have e : m.toNat < ds.length := by omega
  refine ⟨ds[m.toNat], ?_, q _ (List.getElem_mem _)⟩
  unfold atI ixN
  rw [if_pos m0, if_pos m1]
  exact List.getElem?_eq_getElem e
structure Good (a b : Int) : Prop where
  pos : 0 < b
  big : b ≤ 10 ^ 31
  gcd : Int.gcd a b = 1
  lo : -100 * b ≤ a
  hi : a ≤ 100 * b
theorem sp__law_lowest {a b : Int} (hb : 0 < b) (hbig : b ≤ 10 ^ 31) (lo : -100 * b ≤ a) (hi : a ≤ 100 * b) (q : ∀ x y, Good x y → Q (.fr (.tup [.int x, .int y]))) : phi__law_lowest [.fr (.int a), .fr (.int b)] Q E := by
  simp [phi, startA, dSeq, dNext, dAsg, dAsgG, dIf, dRet, dRetV, dRetN, dDrop, dRaise, dRaiseI, dFz, dFzS, dVar, dC, dBin, dUn, dTest, isB, dAndT, dOrT, dNotT, dAndV, dOrV, dNotV, dIfE, dTruth, dCons, dNil, dTupE, dLstE, dCB, dIs, dCall, gNm, dPart, dNoPart, DL.f0, DL.fc, DL.g1, DL.g2, DL.g3, DL.s1, DL.s2, DL.zc, dPar, dChain, DL.e1, DL.e2, DL.e3, DL.e4, DL.e5, DL.e6, DL.e7, DL.e8, DL.e9, DL.e10, DL.e11, DL.e12, DL.e13, DL.e14, DL.a1, DL.a2, DL.a3, DL.a4, DL.a5, DL.a6, DL.a7, DL.a8, DL.a9, DL.a10, DL.a11, DL.t1, DL.t2, DL.t3, DL.x1, DL.x2, DL.x3, DL.x4, DL.x5, DL.x6, DL.x7, DL.x8, DL.x9, DL.x10, DL.x11, DL.x12, DL.y1, DL.y2, DL.eq_ii, DL.ne_ii, DL.k1, DL.k2, DL.k3, DL.k4, DL.k5, DL.k6, DL.z0, DL.z1, DL.z2, DL.z3, DL.z4, DL.z5, DL.z6, DL.z7, DL.z8, DL.z9, DL.z10, DL.z11, DL.z12, DL.z13, DL.z14, DL.z15, DL.z16, DL.z17, DL.z18, DL.z19, DL.z20, DL.z21, DL.z22, DL.z23, DL.z24, DL.z25, DL.z26, DL.z27, DL.z28, DL.z29, DL.ic1, DL.ic2, phi__law_lowest, t__law_lowest]
  refine sp__law_common ?_
  simp [phi, startA, dSeq, dNext, dAsg, dAsgG, dIf, dRet, dRetV, dRetN, dDrop, dRaise, dRaiseI, dFz, dFzS, dVar, dC, dBin, dUn, dTest, isB, dAndT, dOrT, dNotT, dAndV, dOrV, dNotV, dIfE, dTruth, dCons, dNil, dTupE, dLstE, dCB, dIs, dCall, gNm, dPart, dNoPart, DL.f0, DL.fc, DL.g1, DL.g2, DL.g3, DL.s1, DL.s2, DL.zc, dPar, dChain, DL.e1, DL.e2, DL.e3, DL.e4, DL.e5, DL.e6, DL.e7, DL.e8, DL.e9, DL.e10, DL.e11, DL.e12, DL.e13, DL.e14, DL.a1, DL.a2, DL.a3, DL.a4, DL.a5, DL.a6, DL.a7, DL.a8, DL.a9, DL.a10, DL.a11, DL.t1, DL.t2, DL.t3, DL.x1, DL.x2, DL.x3, DL.x4, DL.x5, DL.x6, DL.x7, DL.x8, DL.x9, DL.x10, DL.x11, DL.x12, DL.y1, DL.y2, DL.eq_ii, DL.ne_ii, DL.k1, DL.k2, DL.k3, DL.k4, DL.k5, DL.k6, DL.z0, DL.z1, DL.z2, DL.z3, DL.z4, DL.z5, DL.z6, DL.z7, DL.z8, DL.z9, DL.z10, DL.z11, DL.z12, DL.z13, DL.z14, DL.z15, DL.z16, DL.z17, DL.z18, DL.z19, DL.z20, DL.z21, DL.z22, DL.z23, DL.z24, DL.z25, DL.z26, DL.z27, DL.z28, DL.z29, DL.ic1, DL.ic2]
  have g0 : 0 < Int.gcd a b := Int.gcd_pos_of_ne_zero_right a (by omega)
  have gb : ((Int.gcd a b : Nat) : Int) ≤ b := Int.le_of_dvd hb (Int.gcd_dvd_right a b)
  have ea : a / (Int.gcd a b : Nat) * (Int.gcd a b : Nat) = a := Int.ediv_mul_cancel (Int.gcd_dvd_left a b)
  have eb : b / (Int.gcd a b : Nat) * (Int.gcd a b : Nat) = b := Int.ediv_mul_cancel (Int.gcd_dvd_right a b)
  have g1 : Int.gcd (a / (Int.gcd a b : Nat)) (b / (Int.gcd a b : Nat)) = 1 := Int.gcd_ediv_gcd_ediv_gcd g0
  generalize Int.gcd a b = g at *
  generalize a / (g : Int) = x at *
  generalize b / (g : Int) = y at *
  have gp : (0 : Int) < g := by omega
  have y0 : 0 < y := by
    by_cases h : 0 < y
    · exact h
    · have := Int.mul_nonneg (show 0 ≤ -y by omega) (show (0 : Int) ≤ g by omega)
      rw [Int.neg_mul] at this
      omega
  refine ⟨div_ok' gp (by omega), div_ok' gp (by omega), lsz (by omega), q x y ⟨y0, ?_, g1, ?_, ?_⟩⟩
  · have := Int.mul_le_mul_of_nonneg_left (show (1 : Int) ≤ g by omega) (show 0 ≤ y by omega)
    omega
  · apply Int.le_of_mul_le_mul_right (a := g) _ gp
    rw [ea, Int.mul_assoc, eb]
    exact lo
  · apply Int.le_of_mul_le_mul_right (a := g) _ gp
    rw [ea, Int.mul_assoc, eb]
    exact hi
theorem sp__law_share (q : ∀ x y, Good x y → Q (.fr (.tup [.int x, .int y]))) : phi__law_share [.tk] Q E := by
  simp [phi, startA, dSeq, dNext, dAsg, dAsgG, dIf, dRet, dRetV, dRetN, dDrop, dRaise, dRaiseI, dFz, dFzS, dVar, dC, dBin, dUn, dTest, isB, dAndT, dOrT, dNotT, dAndV, dOrV, dNotV, dIfE, dTruth, dCons, dNil, dTupE, dLstE, dCB, dIs, dCall, gNm, dPart, dNoPart, DL.f0, DL.fc, DL.g1, DL.g2, DL.g3, DL.s1, DL.s2, DL.zc, dPar, dChain, DL.e1, DL.e2, DL.e3, DL.e4, DL.e5, DL.e6, DL.e7, DL.e8, DL.e9, DL.e10, DL.e11, DL.e12, DL.e13, DL.e14, DL.a1, DL.a2, DL.a3, DL.a4, DL.a5, DL.a6, DL.a7, DL.a8, DL.a9, DL.a10, DL.a11, DL.t1, DL.t2, DL.t3, DL.x1, DL.x2, DL.x3, DL.x4, DL.x5, DL.x6, DL.x7, DL.x8, DL.x9, DL.x10, DL.x11, DL.x12, DL.y1, DL.y2, DL.eq_ii, DL.ne_ii, DL.k1, DL.k2, DL.k3, DL.k4, DL.k5, DL.k6, DL.z0, DL.z1, DL.z2, DL.z3, DL.z4, DL.z5, DL.z6, DL.z7, DL.z8, DL.z9, DL.z10, DL.z11, DL.z12, DL.z13, DL.z14, DL.z15, DL.z16, DL.z17, DL.z18, DL.z19, DL.z20, DL.z21, DL.z22, DL.z23, DL.z24, DL.z25, DL.z26, DL.z27, DL.z28, DL.z29, DL.ic1, DL.ic2, phi__law_share, t__law_share]
  refine sp__law_draw (by omega) (by omega) fun m1 a1 b1 => ?_
  simp [phi, startA, dSeq, dNext, dAsg, dAsgG, dIf, dRet, dRetV, dRetN, dDrop, dRaise, dRaiseI, dFz, dFzS, dVar, dC, dBin, dUn, dTest, isB, dAndT, dOrT, dNotT, dAndV, dOrV, dNotV, dIfE, dTruth, dCons, dNil, dTupE, dLstE, dCB, dIs, dCall, gNm, dPart, dNoPart, DL.f0, DL.fc, DL.g1, DL.g2, DL.g3, DL.s1, DL.s2, DL.zc, dPar, dChain, DL.e1, DL.e2, DL.e3, DL.e4, DL.e5, DL.e6, DL.e7, DL.e8, DL.e9, DL.e10, DL.e11, DL.e12, DL.e13, DL.e14, DL.a1, DL.a2, DL.a3, DL.a4, DL.a5, DL.a6, DL.a7, DL.a8, DL.a9, DL.a10, DL.a11, DL.t1, DL.t2, DL.t3, DL.x1, DL.x2, DL.x3, DL.x4, DL.x5, DL.x6, DL.x7, DL.x8, DL.x9, DL.x10, DL.x11, DL.x12, DL.y1, DL.y2, DL.eq_ii, DL.ne_ii, DL.k1, DL.k2, DL.k3, DL.k4, DL.k5, DL.k6, DL.z0, DL.z1, DL.z2, DL.z3, DL.z4, DL.z5, DL.z6, DL.z7, DL.z8, DL.z9, DL.z10, DL.z11, DL.z12, DL.z13, DL.z14, DL.z15, DL.z16, DL.z17, DL.z18, DL.z19, DL.z20, DL.z21, DL.z22, DL.z23, DL.z24, DL.z25, DL.z26, DL.z27, DL.z28, DL.z29, DL.ic1, DL.ic2]
  refine ⟨pow_ok (by omega) (by omega) (by omega), pow_ok (by omega) (by omega) (by omega), sp__law_draw (by omega) (by omega) fun m2 a2 b2 => ?_⟩
  simp [phi, startA, dSeq, dNext, dAsg, dAsgG, dIf, dRet, dRetV, dRetN, dDrop, dRaise, dRaiseI, dFz, dFzS, dVar, dC, dBin, dUn, dTest, isB, dAndT, dOrT, dNotT, dAndV, dOrV, dNotV, dIfE, dTruth, dCons, dNil, dTupE, dLstE, dCB, dIs, dCall, gNm, dPart, dNoPart, DL.f0, DL.fc, DL.g1, DL.g2, DL.g3, DL.s1, DL.s2, DL.zc, dPar, dChain, DL.e1, DL.e2, DL.e3, DL.e4, DL.e5, DL.e6, DL.e7, DL.e8, DL.e9, DL.e10, DL.e11, DL.e12, DL.e13, DL.e14, DL.a1, DL.a2, DL.a3, DL.a4, DL.a5, DL.a6, DL.a7, DL.a8, DL.a9, DL.a10, DL.a11, DL.t1, DL.t2, DL.t3, DL.x1, DL.x2, DL.x3, DL.x4, DL.x5, DL.x6, DL.x7, DL.x8, DL.x9, DL.x10, DL.x11, DL.x12, DL.y1, DL.y2, DL.eq_ii, DL.ne_ii, DL.k1, DL.k2, DL.k3, DL.k4, DL.k5, DL.k6, DL.z0, DL.z1, DL.z2, DL.z3, DL.z4, DL.z5, DL.z6, DL.z7, DL.z8, DL.z9, DL.z10, DL.z11, DL.z12, DL.z13, DL.z14, DL.z15, DL.z16, DL.z17, DL.z18, DL.z19, DL.z20, DL.z21, DL.z22, DL.z23, DL.z24, DL.z25, DL.z26, DL.z27, DL.z28, DL.z29, DL.ic1, DL.ic2]
  refine ⟨lsz (by omega), sp__law_pick (by simp) (by simp) fun d hd => ?_⟩
  have hb : ∃ b : Int, 1 ≤ b ∧ b ≤ 10 ^ 30 + 10 ^ 6 ∧ d = .int b := by
    simp only [List.mem_cons, List.not_mem_nil, or_false] at hd
    rcases hd with rfl | rfl | rfl | rfl | rfl | rfl <;> exact ⟨_, by omega, by omega, rfl⟩
  obtain ⟨b, h1, h2, rfl⟩ := hb
  simp [phi, startA, dSeq, dNext, dAsg, dAsgG, dIf, dRet, dRetV, dRetN, dDrop, dRaise, dRaiseI, dFz, dFzS, dVar, dC, dBin, dUn, dTest, isB, dAndT, dOrT, dNotT, dAndV, dOrV, dNotV, dIfE, dTruth, dCons, dNil, dTupE, dLstE, dCB, dIs, dCall, gNm, dPart, dNoPart, DL.f0, DL.fc, DL.g1, DL.g2, DL.g3, DL.s1, DL.s2, DL.zc, dPar, dChain, DL.e1, DL.e2, DL.e3, DL.e4, DL.e5, DL.e6, DL.e7, DL.e8, DL.e9, DL.e10, DL.e11, DL.e12, DL.e13, DL.e14, DL.a1, DL.a2, DL.a3, DL.a4, DL.a5, DL.a6, DL.a7, DL.a8, DL.a9, DL.a10, DL.a11, DL.t1, DL.t2, DL.t3, DL.x1, DL.x2, DL.x3, DL.x4, DL.x5, DL.x6, DL.x7, DL.x8, DL.x9, DL.x10, DL.x11, DL.x12, DL.y1, DL.y2, DL.eq_ii, DL.ne_ii, DL.k1, DL.k2, DL.k3, DL.k4, DL.k5, DL.k6, DL.z0, DL.z1, DL.z2, DL.z3, DL.z4, DL.z5, DL.z6, DL.z7, DL.z8, DL.z9, DL.z10, DL.z11, DL.z12, DL.z13, DL.z14, DL.z15, DL.z16, DL.z17, DL.z18, DL.z19, DL.z20, DL.z21, DL.z22, DL.z23, DL.z24, DL.z25, DL.z26, DL.z27, DL.z28, DL.z29, DL.ic1, DL.ic2]
  refine ⟨mul_l (by omega) (by omega), mul_l (by omega) (by omega), mul_l (by omega) (by omega), sp__law_draw (by omega) (by omega) fun m3 a3 b3 => ?_⟩
  simp [phi, startA, dSeq, dNext, dAsg, dAsgG, dIf, dRet, dRetV, dRetN, dDrop, dRaise, dRaiseI, dFz, dFzS, dVar, dC, dBin, dUn, dTest, isB, dAndT, dOrT, dNotT, dAndV, dOrV, dNotV, dIfE, dTruth, dCons, dNil, dTupE, dLstE, dCB, dIs, dCall, gNm, dPart, dNoPart, DL.f0, DL.fc, DL.g1, DL.g2, DL.g3, DL.s1, DL.s2, DL.zc, dPar, dChain, DL.e1, DL.e2, DL.e3, DL.e4, DL.e5, DL.e6, DL.e7, DL.e8, DL.e9, DL.e10, DL.e11, DL.e12, DL.e13, DL.e14, DL.a1, DL.a2, DL.a3, DL.a4, DL.a5, DL.a6, DL.a7, DL.a8, DL.a9, DL.a10, DL.a11, DL.t1, DL.t2, DL.t3, DL.x1, DL.x2, DL.x3, DL.x4, DL.x5, DL.x6, DL.x7, DL.x8, DL.x9, DL.x10, DL.x11, DL.x12, DL.y1, DL.y2, DL.eq_ii, DL.ne_ii, DL.k1, DL.k2, DL.k3, DL.k4, DL.k5, DL.k6, DL.z0, DL.z1, DL.z2, DL.z3, DL.z4, DL.z5, DL.z6, DL.z7, DL.z8, DL.z9, DL.z10, DL.z11, DL.z12, DL.z13, DL.z14, DL.z15, DL.z16, DL.z17, DL.z18, DL.z19, DL.z20, DL.z21, DL.z22, DL.z23, DL.z24, DL.z25, DL.z26, DL.z27, DL.z28, DL.z29, DL.ic1, DL.ic2]
  refine ⟨mul_l (by omega) (by omega), sp__law_draw (by omega) (by omega) fun m4 a4 b4 => ?_⟩
  simp [phi, startA, dSeq, dNext, dAsg, dAsgG, dIf, dRet, dRetV, dRetN, dDrop, dRaise, dRaiseI, dFz, dFzS, dVar, dC, dBin, dUn, dTest, isB, dAndT, dOrT, dNotT, dAndV, dOrV, dNotV, dIfE, dTruth, dCons, dNil, dTupE, dLstE, dCB, dIs, dCall, gNm, dPart, dNoPart, DL.f0, DL.fc, DL.g1, DL.g2, DL.g3, DL.s1, DL.s2, DL.zc, dPar, dChain, DL.e1, DL.e2, DL.e3, DL.e4, DL.e5, DL.e6, DL.e7, DL.e8, DL.e9, DL.e10, DL.e11, DL.e12, DL.e13, DL.e14, DL.a1, DL.a2, DL.a3, DL.a4, DL.a5, DL.a6, DL.a7, DL.a8, DL.a9, DL.a10, DL.a11, DL.t1, DL.t2, DL.t3, DL.x1, DL.x2, DL.x3, DL.x4, DL.x5, DL.x6, DL.x7, DL.x8, DL.x9, DL.x10, DL.x11, DL.x12, DL.y1, DL.y2, DL.eq_ii, DL.ne_ii, DL.k1, DL.k2, DL.k3, DL.k4, DL.k5, DL.k6, DL.z0, DL.z1, DL.z2, DL.z3, DL.z4, DL.z5, DL.z6, DL.z7, DL.z8, DL.z9, DL.z10, DL.z11, DL.z12, DL.z13, DL.z14, DL.z15, DL.z16, DL.z17, DL.z18, DL.z19, DL.z20, DL.z21, DL.z22, DL.z23, DL.z24, DL.z25, DL.z26, DL.z27, DL.z28, DL.z29, DL.ic1, DL.ic2]
  refine ⟨lsz (by omega), sp__law_pick (by simp) (by simp) fun d hd => ?_⟩
  have ha : ∃ a : Int, -100 * b ≤ a ∧ a ≤ 100 * b ∧ d = .int a := by
    simp only [List.mem_cons, List.not_mem_nil, or_false] at hd
    rcases hd with rfl | rfl | rfl | rfl <;> exact ⟨_, by omega, by omega, rfl⟩
  obtain ⟨a, h3, h4, rfl⟩ := ha
  simp [phi, startA, dSeq, dNext, dAsg, dAsgG, dIf, dRet, dRetV, dRetN, dDrop, dRaise, dRaiseI, dFz, dFzS, dVar, dC, dBin, dUn, dTest, isB, dAndT, dOrT, dNotT, dAndV, dOrV, dNotV, dIfE, dTruth, dCons, dNil, dTupE, dLstE, dCB, dIs, dCall, gNm, dPart, dNoPart, DL.f0, DL.fc, DL.g1, DL.g2, DL.g3, DL.s1, DL.s2, DL.zc, dPar, dChain, DL.e1, DL.e2, DL.e3, DL.e4, DL.e5, DL.e6, DL.e7, DL.e8, DL.e9, DL.e10, DL.e11, DL.e12, DL.e13, DL.e14, DL.a1, DL.a2, DL.a3, DL.a4, DL.a5, DL.a6, DL.a7, DL.a8, DL.a9, DL.a10, DL.a11, DL.t1, DL.t2, DL.t3, DL.x1, DL.x2, DL.x3, DL.x4, DL.x5, DL.x6, DL.x7, DL.x8, DL.x9, DL.x10, DL.x11, DL.x12, DL.y1, DL.y2, DL.eq_ii, DL.ne_ii, DL.k1, DL.k2, DL.k3, DL.k4, DL.k5, DL.k6, DL.z0, DL.z1, DL.z2, DL.z3, DL.z4, DL.z5, DL.z6, DL.z7, DL.z8, DL.z9, DL.z10, DL.z11, DL.z12, DL.z13, DL.z14, DL.z15, DL.z16, DL.z17, DL.z18, DL.z19, DL.z20, DL.z21, DL.z22, DL.z23, DL.z24, DL.z25, DL.z26, DL.z27, DL.z28, DL.z29, DL.ic1, DL.ic2]
  exact sp__law_lowest (by omega) (by omega) h3 h4 fun x y h => by simpa [phi, startA, dSeq, dNext, dAsg, dAsgG, dIf, dRet, dRetV, dRetN, dDrop, dRaise, dRaiseI, dFz, dFzS, dVar, dC, dBin, dUn, dTest, isB, dAndT, dOrT, dNotT, dAndV, dOrV, dNotV, dIfE, dTruth, dCons, dNil, dTupE, dLstE, dCB, dIs, dCall, gNm, dPart, dNoPart, DL.f0, DL.fc, DL.g1, DL.g2, DL.g3, DL.s1, DL.s2, DL.zc, dPar, dChain, DL.e1, DL.e2, DL.e3, DL.e4, DL.e5, DL.e6, DL.e7, DL.e8, DL.e9, DL.e10, DL.e11, DL.e12, DL.e13, DL.e14, DL.a1, DL.a2, DL.a3, DL.a4, DL.a5, DL.a6, DL.a7, DL.a8, DL.a9, DL.a10, DL.a11, DL.t1, DL.t2, DL.t3, DL.x1, DL.x2, DL.x3, DL.x4, DL.x5, DL.x6, DL.x7, DL.x8, DL.x9, DL.x10, DL.x11, DL.x12, DL.y1, DL.y2, DL.eq_ii, DL.ne_ii, DL.k1, DL.k2, DL.k3, DL.k4, DL.k5, DL.k6, DL.z0, DL.z1, DL.z2, DL.z3, DL.z4, DL.z5, DL.z6, DL.z7, DL.z8, DL.z9, DL.z10, DL.z11, DL.z12, DL.z13, DL.z14, DL.z15, DL.z16, DL.z17, DL.z18, DL.z19, DL.z20, DL.z21, DL.z22, DL.z23, DL.z24, DL.z25, DL.z26, DL.z27, DL.z28, DL.z29, DL.ic1, DL.ic2] using q x y h
theorem sp__law_balanced {a b : Int} {n : Nat} (hn : n ≤ 200) (hb : DivOk 0 b) (q : Q (.fr (.tup ((steps a b n).map D.int)))) : phi__law_balanced [.fr (.tup [.int a, .int b]), .fr (.int n)] Q E := by
  simp [phi, startA, dSeq, dNext, dAsg, dAsgG, dIf, dRet, dRetV, dRetN, dDrop, dRaise, dRaiseI, dFz, dFzS, dVar, dC, dBin, dUn, dTest, isB, dAndT, dOrT, dNotT, dAndV, dOrV, dNotV, dIfE, dTruth, dCons, dNil, dTupE, dLstE, dCB, dIs, dCall, gNm, dPart, dNoPart, DL.f0, DL.fc, DL.g1, DL.g2, DL.g3, DL.s1, DL.s2, DL.zc, dPar, dChain, DL.e1, DL.e2, DL.e3, DL.e4, DL.e5, DL.e6, DL.e7, DL.e8, DL.e9, DL.e10, DL.e11, DL.e12, DL.e13, DL.e14, DL.a1, DL.a2, DL.a3, DL.a4, DL.a5, DL.a6, DL.a7, DL.a8, DL.a9, DL.a10, DL.a11, DL.t1, DL.t2, DL.t3, DL.x1, DL.x2, DL.x3, DL.x4, DL.x5, DL.x6, DL.x7, DL.x8, DL.x9, DL.x10, DL.x11, DL.x12, DL.y1, DL.y2, DL.eq_ii, DL.ne_ii, DL.k1, DL.k2, DL.k3, DL.k4, DL.k5, DL.k6, DL.z0, DL.z1, DL.z2, DL.z3, DL.z4, DL.z5, DL.z6, DL.z7, DL.z8, DL.z9, DL.z10, DL.z11, DL.z12, DL.z13, DL.z14, DL.z15, DL.z16, DL.z17, DL.z18, DL.z19, DL.z20, DL.z21, DL.z22, DL.z23, DL.z24, DL.z25, DL.z26, DL.z27, DL.z28, DL.z29, DL.ic1, DL.ic2, phi__law_balanced, t__law_balanced, dLc, dRng2, wipeA]
  refine ⟨_, _, ⟨rfl, rfl⟩, by omega, ?_⟩
  rw [show ((n : Int) + 1 - 1).toNat = n by omega]
  refine lc_map (fun d => match d with | .int t => .int (t * a / b - (t - 1) * a / b) | d => d) (fun d hd P k0 hp => ?_) (lsz (by rw [rangeD_len]; omega)) ?_
  · obtain ⟨i, hi, rfl⟩ := rangeD_mem hd
    simp [phi, startA, dSeq, dNext, dAsg, dAsgG, dIf, dRet, dRetV, dRetN, dDrop, dRaise, dRaiseI, dFz, dFzS, dVar, dC, dBin, dUn, dTest, isB, dAndT, dOrT, dNotT, dAndV, dOrV, dNotV, dIfE, dTruth, dCons, dNil, dTupE, dLstE, dCB, dIs, dCall, gNm, dPart, dNoPart, DL.f0, DL.fc, DL.g1, DL.g2, DL.g3, DL.s1, DL.s2, DL.zc, dPar, dChain, DL.e1, DL.e2, DL.e3, DL.e4, DL.e5, DL.e6, DL.e7, DL.e8, DL.e9, DL.e10, DL.e11, DL.e12, DL.e13, DL.e14, DL.a1, DL.a2, DL.a3, DL.a4, DL.a5, DL.a6, DL.a7, DL.a8, DL.a9, DL.a10, DL.a11, DL.t1, DL.t2, DL.t3, DL.x1, DL.x2, DL.x3, DL.x4, DL.x5, DL.x6, DL.x7, DL.x8, DL.x9, DL.x10, DL.x11, DL.x12, DL.y1, DL.y2, DL.eq_ii, DL.ne_ii, DL.k1, DL.k2, DL.k3, DL.k4, DL.k5, DL.k6, DL.z0, DL.z1, DL.z2, DL.z3, DL.z4, DL.z5, DL.z6, DL.z7, DL.z8, DL.z9, DL.z10, DL.z11, DL.z12, DL.z13, DL.z14, DL.z15, DL.z16, DL.z17, DL.z18, DL.z19, DL.z20, DL.z21, DL.z22, DL.z23, DL.z24, DL.z25, DL.z26, DL.z27, DL.z28, DL.z29, DL.ic1, DL.ic2, dYes]
    exact ⟨mul_l (by omega) (by omega), hb, mul_l (by omega) (by omega), hb, hp⟩
  · rw [rangeD_map]
    unfold steps at q
    rw [← map_ints] at q
    have e : ∀ i : Nat, (1 + (i : Int)) * a / b - (1 + (i : Int) - 1) * a / b = ((i : Int) + 1) * a / b - (i : Int) * a / b := fun i => by
      rw [Int.add_comm 1 (i : Int), Int.add_sub_cancel]
    simpa [e] using q
theorem steps_len {a b : Int} {n : Nat} : (steps a b n).length = n := by unfold steps; rw [List.length_map, List.length_range]
theorem steps_sum {a b : Int} {n s : Nat} : ∀ m : Nat, s + m ≤ n → (((steps a b n).drop s).take m).sum = ((s + m : Nat) : Int) * a / b - (s : Int) * a / b
  | 0, _ => by simp
  | m + 1, h => by
    have ih := steps_sum (a := a) (b := b) (n := n) (s := s) m (by omega)
    rw [List.take_succ, List.sum_append, ih]
    have e : ((steps a b n).drop s)[m]? = some (((s + m : Nat) : Int) * a / b + (((s + m : Nat) : Int) + 1) * a / b - 2 * (((s + m : Nat) : Int) * a / b)) := by
      rw [List.getElem?_drop]
      unfold steps
      rw [List.getElem?_map, List.getElem?_range (by omega)]
      simp only [Option.map_some]
      congr 1
      omega
    rw [e]
    simp only [Option.toList_some, List.sum_cons, List.sum_nil]
    have e2 : ((s + (m + 1) : Nat) : Int) = ((s + m : Nat) : Int) + 1 := by omega
    rw [e2]
    omega
theorem sp__law_even {a b : Int} {n : Nat} (hn : n ≤ 200) (hb : 0 < b) (hd : DivOk 0 b) (q : Q (.fr (.bl true))) : phi__law_even [.fr (.tup [.int a, .int b]), .fr (.tup ((steps a b n).map D.int))] Q E := by
  simp [phi, startA, dSeq, dNext, dAsg, dAsgG, dIf, dRet, dRetV, dRetN, dDrop, dRaise, dRaiseI, dFz, dFzS, dVar, dC, dBin, dUn, dTest, isB, dAndT, dOrT, dNotT, dAndV, dOrV, dNotV, dIfE, dTruth, dCons, dNil, dTupE, dLstE, dCB, dIs, dCall, gNm, dPart, dNoPart, DL.f0, DL.fc, DL.g1, DL.g2, DL.g3, DL.s1, DL.s2, DL.zc, dPar, dChain, DL.e1, DL.e2, DL.e3, DL.e4, DL.e5, DL.e6, DL.e7, DL.e8, DL.e9, DL.e10, DL.e11, DL.e12, DL.e13, DL.e14, DL.a1, DL.a2, DL.a3, DL.a4, DL.a5, DL.a6, DL.a7, DL.a8, DL.a9, DL.a10, DL.a11, DL.t1, DL.t2, DL.t3, DL.x1, DL.x2, DL.x3, DL.x4, DL.x5, DL.x6, DL.x7, DL.x8, DL.x9, DL.x10, DL.x11, DL.x12, DL.y1, DL.y2, DL.eq_ii, DL.ne_ii, DL.k1, DL.k2, DL.k3, DL.k4, DL.k5, DL.k6, DL.z0, DL.z1, DL.z2, DL.z3, DL.z4, DL.z5, DL.z6, DL.z7, DL.z8, DL.z9, DL.z10, DL.z11, DL.z12, DL.z13, DL.z14, DL.z15, DL.z16, DL.z17, DL.z18, DL.z19, DL.z20, DL.z21, DL.z22, DL.z23, DL.z24, DL.z25, DL.z26, DL.z27, DL.z28, DL.z29, DL.ic1, DL.ic2, phi__law_even, t__law_even, dFor, dRng1, dRng2]
  refine ⟨_, _, ⟨rfl, rfl⟩, by omega, ?_⟩
  refine for_inv (fun α => ∃ s4 s5 s6 : Option S, α = [some (S.fr (D.tup [D.int a, D.int b])), some (S.fr (D.tup (List.map D.int (steps a b n)))), some (S.fr (D.int a)), some (S.fr (D.int b)), s4, s5, s6]) (fun d hd' α hα nxt hn2 => ?_) ⟨_, _, _, rfl⟩ (fun α hα => q)
  obtain ⟨s4, s5, s6, rfl⟩ := hα
  obtain ⟨i, hi, rfl⟩ := rangeD_mem hd'
  simp [phi, startA, dSeq, dNext, dAsg, dAsgG, dIf, dRet, dRetV, dRetN, dDrop, dRaise, dRaiseI, dFz, dFzS, dVar, dC, dBin, dUn, dTest, isB, dAndT, dOrT, dNotT, dAndV, dOrV, dNotV, dIfE, dTruth, dCons, dNil, dTupE, dLstE, dCB, dIs, dCall, gNm, dPart, dNoPart, DL.f0, DL.fc, DL.g1, DL.g2, DL.g3, DL.s1, DL.s2, DL.zc, dPar, dChain, DL.e1, DL.e2, DL.e3, DL.e4, DL.e5, DL.e6, DL.e7, DL.e8, DL.e9, DL.e10, DL.e11, DL.e12, DL.e13, DL.e14, DL.a1, DL.a2, DL.a3, DL.a4, DL.a5, DL.a6, DL.a7, DL.a8, DL.a9, DL.a10, DL.a11, DL.t1, DL.t2, DL.t3, DL.x1, DL.x2, DL.x3, DL.x4, DL.x5, DL.x6, DL.x7, DL.x8, DL.x9, DL.x10, DL.x11, DL.x12, DL.y1, DL.y2, DL.eq_ii, DL.ne_ii, DL.k1, DL.k2, DL.k3, DL.k4, DL.k5, DL.k6, DL.z0, DL.z1, DL.z2, DL.z3, DL.z4, DL.z5, DL.z6, DL.z7, DL.z8, DL.z9, DL.z10, DL.z11, DL.z12, DL.z13, DL.z14, DL.z15, DL.z16, DL.z17, DL.z18, DL.z19, DL.z20, DL.z21, DL.z22, DL.z23, DL.z24, DL.z25, DL.z26, DL.z27, DL.z28, DL.z29, DL.ic1, DL.ic2, dFor, dRng1, steps_len]
  have hi' : i < 8 := by omega
  refine ⟨mul_l (by omega) (by omega), hd, by omega, by omega, ?_⟩
  refine for_inv (fun α => ∃ s6 : Option S, α = [some (S.fr (D.tup [D.int a, D.int b])), some (S.fr (D.tup (List.map D.int (steps a b n)))), some (S.fr (D.int a)), some (S.fr (D.int b)), some (S.fr (D.int (1 + (i : Int)))), some (S.fr (D.int ((1 + (i : Int)) * a / b))), s6]) (fun d hd' α hα nxt2 hn3 => ?_) ⟨_, rfl⟩ (fun α hα => ?_)
  · obtain ⟨s6, rfl⟩ := hα
    obtain ⟨j, hj, rfl⟩ := rangeD_mem hd'
    simp [phi, startA, dSeq, dNext, dAsg, dAsgG, dIf, dRet, dRetV, dRetN, dDrop, dRaise, dRaiseI, dFz, dFzS, dVar, dC, dBin, dUn, dTest, isB, dAndT, dOrT, dNotT, dAndV, dOrV, dNotV, dIfE, dTruth, dCons, dNil, dTupE, dLstE, dCB, dIs, dCall, gNm, dPart, dNoPart, DL.f0, DL.fc, DL.g1, DL.g2, DL.g3, DL.s1, DL.s2, DL.zc, dPar, dChain, DL.e1, DL.e2, DL.e3, DL.e4, DL.e5, DL.e6, DL.e7, DL.e8, DL.e9, DL.e10, DL.e11, DL.e12, DL.e13, DL.e14, DL.a1, DL.a2, DL.a3, DL.a4, DL.a5, DL.a6, DL.a7, DL.a8, DL.a9, DL.a10, DL.a11, DL.t1, DL.t2, DL.t3, DL.x1, DL.x2, DL.x3, DL.x4, DL.x5, DL.x6, DL.x7, DL.x8, DL.x9, DL.x10, DL.x11, DL.x12, DL.y1, DL.y2, DL.eq_ii, DL.ne_ii, DL.k1, DL.k2, DL.k3, DL.k4, DL.k5, DL.k6, DL.z0, DL.z1, DL.z2, DL.z3, DL.z4, DL.z5, DL.z6, DL.z7, DL.z8, DL.z9, DL.z10, DL.z11, DL.z12, DL.z13, DL.z14, DL.z15, DL.z16, DL.z17, DL.z18, DL.z19, DL.z20, DL.z21, DL.z22, DL.z23, DL.z24, DL.z25, DL.z26, DL.z27, DL.z28, DL.z29, DL.ic1, DL.ic2, dSl]
    have e1 : ((j : Int) + (1 + (i : Int))) = ((j + (1 + i) : Nat) : Int) := by omega
    have hji : j + (1 + i) ≤ n := by omega
    rw [e1, cut_nn, show j + (1 + i) - j = 1 + i by omega, ← List.map_drop, ← List.map_take]
    refine sum_t ?_
    rw [steps_sum (1 + i) hji]
    have e2 : ((j + (1 + i) : Nat) : Int) * a = (j : Int) * a + (1 + (i : Int)) * a := by
      rw [← Int.add_mul, e1]
    rw [e2, Int.neg_mul]
    refine ⟨mul_l (by omega) (by omega), ⟨hd.1, hd.2⟩, lsz (by omega), ?_⟩
    rw [DL.e1, fin_t]
    refine ⟨rfl, rfl, ?_⟩
    have key : ([D.int ((1 + (i : Int)) * a / b), D.int (-(-((1 + (i : Int)) * a) / b))].any fun y => PyData.eqv y.py (D.int (((j : Int) * a + (1 + (i : Int)) * a) / b - (j : Int) * a / b)).py) = true := by
      rcases add_div (x := (j : Int) * a) (y := (1 + (i : Int)) * a) hb with h | ⟨h, h2⟩
      · rw [h, List.any_cons, eqv_ii, decide_eq_true (by omega), Bool.true_or]
      · rw [h, List.any_cons, List.any_cons, eqv_ii, eqv_ii, neg_div hb h2, decide_eq_true (p := (1 + (i : Int)) * a / b + 1 = _) (by omega), Bool.true_or, Bool.or_true]
    rw [key]
    refine ⟨false, rfl, ?_⟩
    simp only [Bool.false_eq_true, if_false]
    exact hn3 _ ⟨_, rfl⟩
  · obtain ⟨s6, rfl⟩ := hα
    exact hn2 _ ⟨_, _, _, rfl⟩
theorem sp_balanced_bad {d e : D} (h : std2 d = true) (hs : shareB d = false) (q : E (3, [], [])) : phi_balanced [.fr d, .fr e] Q E := by
  simp [phi, startA, dSeq, dNext, dAsg, dAsgG, dIf, dRet, dRetV, dRetN, dDrop, dRaise, dRaiseI, dFz, dFzS, dVar, dC, dBin, dUn, dTest, isB, dAndT, dOrT, dNotT, dAndV, dOrV, dNotV, dIfE, dTruth, dCons, dNil, dTupE, dLstE, dCB, dIs, dCall, gNm, dPart, dNoPart, DL.f0, DL.fc, DL.g1, DL.g2, DL.g3, DL.s1, DL.s2, DL.zc, dPar, dChain, DL.e1, DL.e2, DL.e3, DL.e4, DL.e5, DL.e6, DL.e7, DL.e8, DL.e9, DL.e10, DL.e11, DL.e12, DL.e13, DL.e14, DL.a1, DL.a2, DL.a3, DL.a4, DL.a5, DL.a6, DL.a7, DL.a8, DL.a9, DL.a10, DL.a11, DL.t1, DL.t2, DL.t3, DL.x1, DL.x2, DL.x3, DL.x4, DL.x5, DL.x6, DL.x7, DL.x8, DL.x9, DL.x10, DL.x11, DL.x12, DL.y1, DL.y2, DL.eq_ii, DL.ne_ii, DL.k1, DL.k2, DL.k3, DL.k4, DL.k5, DL.k6, DL.z0, DL.z1, DL.z2, DL.z3, DL.z4, DL.z5, DL.z6, DL.z7, DL.z8, DL.z9, DL.z10, DL.z11, DL.z12, DL.z13, DL.z14, DL.z15, DL.z16, DL.z17, DL.z18, DL.z19, DL.z20, DL.z21, DL.z22, DL.z23, DL.z24, DL.z25, DL.z26, DL.z27, DL.z28, DL.z29, DL.ic1, DL.ic2, phi_balanced, t_balanced]
  exact sp_need_share_bad h hs q
theorem shareB_of {a b : Int} (h : 0 < b) (h' : Int.gcd a b = 1) : shareB (.tup [.int a, .int b]) = true := by
  simp [shareB, h, h']
theorem sp_balanced_far {a b : Int} {e : D} (hb : 0 < b) (hg : Int.gcd a b = 1) (h : a < -100 * b ∨ 100 * b < a) (q : E (3, [], [])) : phi_balanced [.fr (.tup [.int a, .int b]), .fr e] Q E := by
  simp [phi, startA, dSeq, dNext, dAsg, dAsgG, dIf, dRet, dRetV, dRetN, dDrop, dRaise, dRaiseI, dFz, dFzS, dVar, dC, dBin, dUn, dTest, isB, dAndT, dOrT, dNotT, dAndV, dOrV, dNotV, dIfE, dTruth, dCons, dNil, dTupE, dLstE, dCB, dIs, dCall, gNm, dPart, dNoPart, DL.f0, DL.fc, DL.g1, DL.g2, DL.g3, DL.s1, DL.s2, DL.zc, dPar, dChain, DL.e1, DL.e2, DL.e3, DL.e4, DL.e5, DL.e6, DL.e7, DL.e8, DL.e9, DL.e10, DL.e11, DL.e12, DL.e13, DL.e14, DL.a1, DL.a2, DL.a3, DL.a4, DL.a5, DL.a6, DL.a7, DL.a8, DL.a9, DL.a10, DL.a11, DL.t1, DL.t2, DL.t3, DL.x1, DL.x2, DL.x3, DL.x4, DL.x5, DL.x6, DL.x7, DL.x8, DL.x9, DL.x10, DL.x11, DL.x12, DL.y1, DL.y2, DL.eq_ii, DL.ne_ii, DL.k1, DL.k2, DL.k3, DL.k4, DL.k5, DL.k6, DL.z0, DL.z1, DL.z2, DL.z3, DL.z4, DL.z5, DL.z6, DL.z7, DL.z8, DL.z9, DL.z10, DL.z11, DL.z12, DL.z13, DL.z14, DL.z15, DL.z16, DL.z17, DL.z18, DL.z19, DL.z20, DL.z21, DL.z22, DL.z23, DL.z24, DL.z25, DL.z26, DL.z27, DL.z28, DL.z29, DL.ic1, DL.ic2, phi_balanced, t_balanced]
  exact sp_need_share (shareB_of hb hg) (by rw [if_pos h]; exact q)
theorem sp_balanced_ticks {a b : Int} {e : D} (g : Good a b) (he : e.std = true) (hr : btw e 0 200 = false) (q : E (2, ["part"], [.str "ticks"])) : phi_balanced [.fr (.tup [.int a, .int b]), .fr e] Q E := by
  have lo := g.lo
  have hi := g.hi
  simp [phi, startA, dSeq, dNext, dAsg, dAsgG, dIf, dRet, dRetV, dRetN, dDrop, dRaise, dRaiseI, dFz, dFzS, dVar, dC, dBin, dUn, dTest, isB, dAndT, dOrT, dNotT, dAndV, dOrV, dNotV, dIfE, dTruth, dCons, dNil, dTupE, dLstE, dCB, dIs, dCall, gNm, dPart, dNoPart, DL.f0, DL.fc, DL.g1, DL.g2, DL.g3, DL.s1, DL.s2, DL.zc, dPar, dChain, DL.e1, DL.e2, DL.e3, DL.e4, DL.e5, DL.e6, DL.e7, DL.e8, DL.e9, DL.e10, DL.e11, DL.e12, DL.e13, DL.e14, DL.a1, DL.a2, DL.a3, DL.a4, DL.a5, DL.a6, DL.a7, DL.a8, DL.a9, DL.a10, DL.a11, DL.t1, DL.t2, DL.t3, DL.x1, DL.x2, DL.x3, DL.x4, DL.x5, DL.x6, DL.x7, DL.x8, DL.x9, DL.x10, DL.x11, DL.x12, DL.y1, DL.y2, DL.eq_ii, DL.ne_ii, DL.k1, DL.k2, DL.k3, DL.k4, DL.k5, DL.k6, DL.z0, DL.z1, DL.z2, DL.z3, DL.z4, DL.z5, DL.z6, DL.z7, DL.z8, DL.z9, DL.z10, DL.z11, DL.z12, DL.z13, DL.z14, DL.z15, DL.z16, DL.z17, DL.z18, DL.z19, DL.z20, DL.z21, DL.z22, DL.z23, DL.z24, DL.z25, DL.z26, DL.z27, DL.z28, DL.z29, DL.ic1, DL.ic2, phi_balanced, t_balanced]
  refine sp_need_share (shareB_of g.pos g.gcd) ?_
  rw [if_neg (by omega)]
  exact sp_need_number he (by rw [hr]; exact q)
theorem Good.div {a b : Int} (g : Good a b) : DivOk 0 b := div_ok' g.pos (by have := g.big; omega)
theorem sp_balanced {a b : Int} {n : Nat} (g : Good a b) (hn : n ≤ 200) (q : Q (.fr (.tup ((steps a b n).map D.int)))) : phi_balanced [.fr (.tup [.int a, .int b]), .fr (.int n)] Q E := by
  have lo := g.lo
  have hi := g.hi
  simp [phi, startA, dSeq, dNext, dAsg, dAsgG, dIf, dRet, dRetV, dRetN, dDrop, dRaise, dRaiseI, dFz, dFzS, dVar, dC, dBin, dUn, dTest, isB, dAndT, dOrT, dNotT, dAndV, dOrV, dNotV, dIfE, dTruth, dCons, dNil, dTupE, dLstE, dCB, dIs, dCall, gNm, dPart, dNoPart, DL.f0, DL.fc, DL.g1, DL.g2, DL.g3, DL.s1, DL.s2, DL.zc, dPar, dChain, DL.e1, DL.e2, DL.e3, DL.e4, DL.e5, DL.e6, DL.e7, DL.e8, DL.e9, DL.e10, DL.e11, DL.e12, DL.e13, DL.e14, DL.a1, DL.a2, DL.a3, DL.a4, DL.a5, DL.a6, DL.a7, DL.a8, DL.a9, DL.a10, DL.a11, DL.t1, DL.t2, DL.t3, DL.x1, DL.x2, DL.x3, DL.x4, DL.x5, DL.x6, DL.x7, DL.x8, DL.x9, DL.x10, DL.x11, DL.x12, DL.y1, DL.y2, DL.eq_ii, DL.ne_ii, DL.k1, DL.k2, DL.k3, DL.k4, DL.k5, DL.k6, DL.z0, DL.z1, DL.z2, DL.z3, DL.z4, DL.z5, DL.z6, DL.z7, DL.z8, DL.z9, DL.z10, DL.z11, DL.z12, DL.z13, DL.z14, DL.z15, DL.z16, DL.z17, DL.z18, DL.z19, DL.z20, DL.z21, DL.z22, DL.z23, DL.z24, DL.z25, DL.z26, DL.z27, DL.z28, DL.z29, DL.ic1, DL.ic2, phi_balanced, t_balanced]
  refine sp_need_share (shareB_of g.pos g.gcd) ?_
  rw [if_neg (by omega)]
  refine sp_need_number rfl ?_
  rw [if_pos (by simp [btw]; omega)]
  exact sp_balanced_by hn g.div (by simpa [phi, startA, dSeq, dNext, dAsg, dAsgG, dIf, dRet, dRetV, dRetN, dDrop, dRaise, dRaiseI, dFz, dFzS, dVar, dC, dBin, dUn, dTest, isB, dAndT, dOrT, dNotT, dAndV, dOrV, dNotV, dIfE, dTruth, dCons, dNil, dTupE, dLstE, dCB, dIs, dCall, gNm, dPart, dNoPart, DL.f0, DL.fc, DL.g1, DL.g2, DL.g3, DL.s1, DL.s2, DL.zc, dPar, dChain, DL.e1, DL.e2, DL.e3, DL.e4, DL.e5, DL.e6, DL.e7, DL.e8, DL.e9, DL.e10, DL.e11, DL.e12, DL.e13, DL.e14, DL.a1, DL.a2, DL.a3, DL.a4, DL.a5, DL.a6, DL.a7, DL.a8, DL.a9, DL.a10, DL.a11, DL.t1, DL.t2, DL.t3, DL.x1, DL.x2, DL.x3, DL.x4, DL.x5, DL.x6, DL.x7, DL.x8, DL.x9, DL.x10, DL.x11, DL.x12, DL.y1, DL.y2, DL.eq_ii, DL.ne_ii, DL.k1, DL.k2, DL.k3, DL.k4, DL.k5, DL.k6, DL.z0, DL.z1, DL.z2, DL.z3, DL.z4, DL.z5, DL.z6, DL.z7, DL.z8, DL.z9, DL.z10, DL.z11, DL.z12, DL.z13, DL.z14, DL.z15, DL.z16, DL.z17, DL.z18, DL.z19, DL.z20, DL.z21, DL.z22, DL.z23, DL.z24, DL.z25, DL.z26, DL.z27, DL.z28, DL.z29, DL.ic1, DL.ic2] using q)
theorem sp__law_wrong_shares {a b : Int} (g : Good a b) (q : ∀ m : Int, 2 ≤ m → m ≤ 6 → Q (.nw (.lst [.tup [.int (a * m), .int (b * m)], .tup [.int a, .int (-b)], .tup [.int a, .int 0], .tup [.int 0, .int 2], .tup [.int (100 * b + 1), .int b], .tup [.int (-100 * b - 1), .int b], .lst [.int a, .int b], .tup [.int a], .tup [.int a, .int b, .int 1], .tup [.bl true, .int 1], .tup [.int 0, .bl true], .tup [.str "0", .int 1], .non, .int 0]))) : phi__law_wrong_shares [.tk, .fr (.tup [.int a, .int b])] Q E := by
  simp [phi, startA, dSeq, dNext, dAsg, dAsgG, dIf, dRet, dRetV, dRetN, dDrop, dRaise, dRaiseI, dFz, dFzS, dVar, dC, dBin, dUn, dTest, isB, dAndT, dOrT, dNotT, dAndV, dOrV, dNotV, dIfE, dTruth, dCons, dNil, dTupE, dLstE, dCB, dIs, dCall, gNm, dPart, dNoPart, DL.f0, DL.fc, DL.g1, DL.g2, DL.g3, DL.s1, DL.s2, DL.zc, dPar, dChain, DL.e1, DL.e2, DL.e3, DL.e4, DL.e5, DL.e6, DL.e7, DL.e8, DL.e9, DL.e10, DL.e11, DL.e12, DL.e13, DL.e14, DL.a1, DL.a2, DL.a3, DL.a4, DL.a5, DL.a6, DL.a7, DL.a8, DL.a9, DL.a10, DL.a11, DL.t1, DL.t2, DL.t3, DL.x1, DL.x2, DL.x3, DL.x4, DL.x5, DL.x6, DL.x7, DL.x8, DL.x9, DL.x10, DL.x11, DL.x12, DL.y1, DL.y2, DL.eq_ii, DL.ne_ii, DL.k1, DL.k2, DL.k3, DL.k4, DL.k5, DL.k6, DL.z0, DL.z1, DL.z2, DL.z3, DL.z4, DL.z5, DL.z6, DL.z7, DL.z8, DL.z9, DL.z10, DL.z11, DL.z12, DL.z13, DL.z14, DL.z15, DL.z16, DL.z17, DL.z18, DL.z19, DL.z20, DL.z21, DL.z22, DL.z23, DL.z24, DL.z25, DL.z26, DL.z27, DL.z28, DL.z29, DL.ic1, DL.ic2, phi__law_wrong_shares, t__law_wrong_shares]
  refine sp__law_draw (by omega) (by omega) fun m0 h1 h2 => ?_
  simp [phi, startA, dSeq, dNext, dAsg, dAsgG, dIf, dRet, dRetV, dRetN, dDrop, dRaise, dRaiseI, dFz, dFzS, dVar, dC, dBin, dUn, dTest, isB, dAndT, dOrT, dNotT, dAndV, dOrV, dNotV, dIfE, dTruth, dCons, dNil, dTupE, dLstE, dCB, dIs, dCall, gNm, dPart, dNoPart, DL.f0, DL.fc, DL.g1, DL.g2, DL.g3, DL.s1, DL.s2, DL.zc, dPar, dChain, DL.e1, DL.e2, DL.e3, DL.e4, DL.e5, DL.e6, DL.e7, DL.e8, DL.e9, DL.e10, DL.e11, DL.e12, DL.e13, DL.e14, DL.a1, DL.a2, DL.a3, DL.a4, DL.a5, DL.a6, DL.a7, DL.a8, DL.a9, DL.a10, DL.a11, DL.t1, DL.t2, DL.t3, DL.x1, DL.x2, DL.x3, DL.x4, DL.x5, DL.x6, DL.x7, DL.x8, DL.x9, DL.x10, DL.x11, DL.x12, DL.y1, DL.y2, DL.eq_ii, DL.ne_ii, DL.k1, DL.k2, DL.k3, DL.k4, DL.k5, DL.k6, DL.z0, DL.z1, DL.z2, DL.z3, DL.z4, DL.z5, DL.z6, DL.z7, DL.z8, DL.z9, DL.z10, DL.z11, DL.z12, DL.z13, DL.z14, DL.z15, DL.z16, DL.z17, DL.z18, DL.z19, DL.z20, DL.z21, DL.z22, DL.z23, DL.z24, DL.z25, DL.z26, DL.z27, DL.z28, DL.z29, DL.ic1, DL.ic2]
  exact ⟨mul_r (by omega) (by omega), mul_r (by omega) (by omega), lsz (by omega), mul_l (by omega) (by omega), lsz (by omega), mul_l (by omega) (by omega), lsz (by omega), lsz (by omega), lsz (by omega), lsz (by omega), lsz (by omega), by simpa using q (2 + m0) (by omega) (by omega)⟩
end
end LW

set_option linter.all false
set_option maxRecDepth 100000
set_option maxHeartbeats 4000000
namespace LW
open PySem PySem.Spec L2 DL
section
variable {Q : S → Prop} {E : XD → Prop}
theorem low_exc {n c : Nat} {ns : List Str} {ds : List D} : D.low n (.exc c ns ds) = (c < n) := rfl
def B1 : DS := (dIf (dNotT (dTruth (dIs nCls exB (isC subB 3) (dCaught okc (dCall 2 phi_balanced (dCons (dVar 2) (dCons (dCall 2 phi__law_pick (dCons (dVar 0) (dCons (dLstE (dCons (dC (.int 3)) (dCons (dUn fNeg (dC (.int 1))) (dCons (dC (.int 201)) (dCons (dC .non) dNil))))) dNil))) dNil))))))) (dRet (dC (.bl false))) dNext)
theorem turn1 {d r : D} {De : DEnds} {s3 s4 : Option S} (h : ∀ {n : D} {Q : S → Prop} {E : XD → Prop}, E (3, [], []) → phi_balanced [.fr d, .fr n] Q E)
    (hn : ([some S.tk, some (.fr r), some (.fr d), s3, s4] : AE).all S.noOwn = true) (q : De.nx [some S.tk, some (.fr r), some (.fr d), s3, s4]) : B1 De [some S.tk, some (.fr r), some (.fr d), s3, s4] E := by
  unfold B1
  simp only [dIf, dNotT, dTruth, dIs]
  refine ⟨hn, ?_⟩
  simp [phi, startA, dSeq, dNext, dAsg, dAsgG, dIf, dRet, dRetV, dRetN, dDrop, dRaise, dRaiseI, dFz, dFzS, dVar, dC, dBin, dUn, dTest, isB, dAndT, dOrT, dNotT, dAndV, dOrV, dNotV, dIfE, dTruth, dCons, dNil, dTupE, dLstE, dCB, dIs, dCall, gNm, dPart, dNoPart, DL.f0, DL.fc, DL.g1, DL.g2, DL.g3, DL.s1, DL.s2, DL.zc, dPar, dChain, DL.e1, DL.e2, DL.e3, DL.e4, DL.e5, DL.e6, DL.e7, DL.e8, DL.e9, DL.e10, DL.e11, DL.e12, DL.e13, DL.e14, DL.a1, DL.a2, DL.a3, DL.a4, DL.a5, DL.a6, DL.a7, DL.a8, DL.a9, DL.a10, DL.a11, DL.t1, DL.t2, DL.t3, DL.x1, DL.x2, DL.x3, DL.x4, DL.x5, DL.x6, DL.x7, DL.x8, DL.x9, DL.x10, DL.x11, DL.x12, DL.y1, DL.y2, DL.eq_ii, DL.ne_ii, DL.k1, DL.k2, DL.k3, DL.k4, DL.k5, DL.k6, DL.z0, DL.z1, DL.z2, DL.z3, DL.z4, DL.z5, DL.z6, DL.z7, DL.z8, DL.z9, DL.z10, DL.z11, DL.z12, DL.z13, DL.z14, DL.z15, DL.z16, DL.z17, DL.z18, DL.z19, DL.z20, DL.z21, DL.z22, DL.z23, DL.z24, DL.z25, DL.z26, DL.z27, DL.z28, DL.z29, DL.ic1, DL.ic2]
  refine ⟨lsz (by omega), sp__law_pick (by simp) (by simp) fun n _ => ?_⟩
  simp only [DL.e4, DL.e13, true_and]
  refine h ⟨rfl, (by decide : (3 : Nat) < 4), rfl, ?_⟩
  exact (if_pos rfl).mpr q
def B2 : DS := (dSeq (dAsg 4 (dFz (dCaught okc (dCall 2 phi_balanced (dCons (dVar 1) (dCons (dVar 3) dNil)))))) (dIf (dOrT (dNotT (dTruth (dIs nCls exB (isC subB 2) (dVar 4)))) (dTest (dBin fNe (dXt "part" 0 okf_part (dVar 4)) (dC (.str "ticks"))))) (dRet (dC (.bl false))) dNext))
theorem ticks_ne {Q : S → Prop} (q : Q (.fr (.bl false))) : fNe (.str (Str.ofString "ticks")) (.str (Str.ofString "ticks")) Q := by
  unfold fNe
  refine ⟨⟨rfl, by decide +kernel⟩, ⟨rfl, by decide +kernel⟩, ?_⟩
  rw [show (!PyData.eqv (D.str (Str.ofString "ticks")).py (D.str (Str.ofString "ticks")).py) = false by decide +kernel]
  exact q
theorem turn2 {d : D} {a b : Int} (g : Good a b) (hs : d.std = true) (hb : btw d 0 200 = false) {De : DEnds} {s2 s4 : Option S}
    (hn : ([some S.tk, some (.fr (.tup [.int a, .int b])), s2, some (.fr d), s4] : AE).all S.noOwn = true) (q : De.nx [some S.tk, some (.fr (.tup [.int a, .int b])), s2, some (.fr d), some (.fr (.exc 2 ["part"] [.str "ticks"]))]) : B2 De [some S.tk, some (.fr (.tup [.int a, .int b])), s2, some (.fr d), s4] E := by
  unfold B2
  simp only [dSeq, dAsg, dFz]
  refine ⟨hn, ?_⟩
  simp [phi, startA, dSeq, dNext, dAsg, dAsgG, dIf, dRet, dRetV, dRetN, dDrop, dRaise, dRaiseI, dFz, dFzS, dVar, dC, dBin, dUn, dTest, isB, dAndT, dOrT, dNotT, dAndV, dOrV, dNotV, dIfE, dTruth, dCons, dNil, dTupE, dLstE, dCB, dIs, dCall, gNm, dPart, dNoPart, DL.f0, DL.fc, DL.g1, DL.g2, DL.g3, DL.s1, DL.s2, DL.zc, dPar, dChain, DL.e1, DL.e2, DL.e3, DL.e4, DL.e5, DL.e6, DL.e7, DL.e8, DL.e9, DL.e10, DL.e11, DL.e12, DL.e13, DL.e14, DL.a1, DL.a2, DL.a3, DL.a4, DL.a5, DL.a6, DL.a7, DL.a8, DL.a9, DL.a10, DL.a11, DL.t1, DL.t2, DL.t3, DL.x1, DL.x2, DL.x3, DL.x4, DL.x5, DL.x6, DL.x7, DL.x8, DL.x9, DL.x10, DL.x11, DL.x12, DL.y1, DL.y2, DL.eq_ii, DL.ne_ii, DL.k1, DL.k2, DL.k3, DL.k4, DL.k5, DL.k6, DL.z0, DL.z1, DL.z2, DL.z3, DL.z4, DL.z5, DL.z6, DL.z7, DL.z8, DL.z9, DL.z10, DL.z11, DL.z12, DL.z13, DL.z14, DL.z15, DL.z16, DL.z17, DL.z18, DL.z19, DL.z20, DL.z21, DL.z22, DL.z23, DL.z24, DL.z25, DL.z26, DL.z27, DL.z28, DL.z29, DL.ic1, DL.ic2]
  refine sp_balanced_ticks g hs hb ⟨rfl, (by decide : (2 : Nat) < 4), rfl, .inr ⟨rfl, ?_⟩⟩
  unfold dXt
  simp [phi, startA, dSeq, dNext, dAsg, dAsgG, dIf, dRet, dRetV, dRetN, dDrop, dRaise, dRaiseI, dFz, dFzS, dVar, dC, dBin, dUn, dTest, isB, dAndT, dOrT, dNotT, dAndV, dOrV, dNotV, dIfE, dTruth, dCons, dNil, dTupE, dLstE, dCB, dIs, dCall, gNm, dPart, dNoPart, DL.f0, DL.fc, DL.g1, DL.g2, DL.g3, DL.s1, DL.s2, DL.zc, dPar, dChain, DL.e1, DL.e2, DL.e3, DL.e4, DL.e5, DL.e6, DL.e7, DL.e8, DL.e9, DL.e10, DL.e11, DL.e12, DL.e13, DL.e14, DL.a1, DL.a2, DL.a3, DL.a4, DL.a5, DL.a6, DL.a7, DL.a8, DL.a9, DL.a10, DL.a11, DL.t1, DL.t2, DL.t3, DL.x1, DL.x2, DL.x3, DL.x4, DL.x5, DL.x6, DL.x7, DL.x8, DL.x9, DL.x10, DL.x11, DL.x12, DL.y1, DL.y2, DL.eq_ii, DL.ne_ii, DL.k1, DL.k2, DL.k3, DL.k4, DL.k5, DL.k6, DL.z0, DL.z1, DL.z2, DL.z3, DL.z4, DL.z5, DL.z6, DL.z7, DL.z8, DL.z9, DL.z10, DL.z11, DL.z12, DL.z13, DL.z14, DL.z15, DL.z16, DL.z17, DL.z18, DL.z19, DL.z20, DL.z21, DL.z22, DL.z23, DL.z24, DL.z25, DL.z26, DL.z27, DL.z28, DL.z29, DL.ic1, DL.ic2]
  refine ⟨2, [Str.ofString "part"], [.str (Str.ofString "ticks")], ⟨rfl, rfl, rfl⟩, rfl, .str (Str.ofString "ticks"), by simp [List.lookup], ticks_ne ?_⟩
  simpa [phi, startA, dSeq, dNext, dAsg, dAsgG, dIf, dRet, dRetV, dRetN, dDrop, dRaise, dRaiseI, dFz, dFzS, dVar, dC, dBin, dUn, dTest, isB, dAndT, dOrT, dNotT, dAndV, dOrV, dNotV, dIfE, dTruth, dCons, dNil, dTupE, dLstE, dCB, dIs, dCall, gNm, dPart, dNoPart, DL.f0, DL.fc, DL.g1, DL.g2, DL.g3, DL.s1, DL.s2, DL.zc, dPar, dChain, DL.e1, DL.e2, DL.e3, DL.e4, DL.e5, DL.e6, DL.e7, DL.e8, DL.e9, DL.e10, DL.e11, DL.e12, DL.e13, DL.e14, DL.a1, DL.a2, DL.a3, DL.a4, DL.a5, DL.a6, DL.a7, DL.a8, DL.a9, DL.a10, DL.a11, DL.t1, DL.t2, DL.t3, DL.x1, DL.x2, DL.x3, DL.x4, DL.x5, DL.x6, DL.x7, DL.x8, DL.x9, DL.x10, DL.x11, DL.x12, DL.y1, DL.y2, DL.eq_ii, DL.ne_ii, DL.k1, DL.k2, DL.k3, DL.k4, DL.k5, DL.k6, DL.z0, DL.z1, DL.z2, DL.z3, DL.z4, DL.z5, DL.z6, DL.z7, DL.z8, DL.z9, DL.z10, DL.z11, DL.z12, DL.z13, DL.z14, DL.z15, DL.z16, DL.z17, DL.z18, DL.z19, DL.z20, DL.z21, DL.z22, DL.z23, DL.z24, DL.z25, DL.z26, DL.z27, DL.z28, DL.z29, DL.ic1, DL.ic2] using q
def nine : Int := 10 ^ 9
def dP9 : DE := (dBin fPow (dC (.int 10)) (dC (.int 9)))
theorem dP9_ {α : AE} (q : Q (.fr (.int nine))) : dP9 α Q E := ⟨pow_ok (by omega) (by omega) (by omega), q⟩
theorem nine_a : 0 < nine := by unfold nine; omega
theorem nine_b : nine ≤ 10 ^ 40 := by unfold nine; omega
def L2 : DS := (dFor (dIterL (dLstE (dCons (dUn fNeg (dC (.int 1))) (dCons (dC (.int 201)) (dCons (dBin fSub (dUn fNeg (dC (.int 1))) (dCall 2 phi__law_draw (dCons (dVar 0) (dCons dP9 dNil)))) (dCons (dBin fAdd (dC (.int 201)) (dCall 2 phi__law_draw (dCons (dVar 0) (dCons dP9 dNil)))) (dCons (dC .non) (dCons (dC (.bl true)) (dCons (dC (.str "1")) (dCons (dTupE (dCons (dC (.int 1)) dNil)) dNil)))))))))) (gNm 3) B2)
theorem cut_law : t__law_refuses = dSeq (dFor (dIterL (dCall 2 phi__law_wrong_shares (dCons (dVar 0) (dCons (dVar 1) dNil)))) (gNm 2) B1) (dSeq L2 (dRet (dC (.bl true)))) := rfl
theorem sp__law_refuses {a b : Int} (g : Good a b) (q : Q (.fr (.bl true))) : phi__law_refuses [.tk, .fr (.tup [.int a, .int b])] Q E := by
  have hp := g.pos
  unfold phi__law_refuses
  rw [cut_law]
  simp [phi, startA, dSeq, dNext, dAsg, dAsgG, dIf, dRet, dRetV, dRetN, dDrop, dRaise, dRaiseI, dFz, dFzS, dVar, dC, dBin, dUn, dTest, isB, dAndT, dOrT, dNotT, dAndV, dOrV, dNotV, dIfE, dTruth, dCons, dNil, dTupE, dLstE, dCB, dIs, dCall, gNm, dPart, dNoPart, DL.f0, DL.fc, DL.g1, DL.g2, DL.g3, DL.s1, DL.s2, DL.zc, dPar, dChain, DL.e1, DL.e2, DL.e3, DL.e4, DL.e5, DL.e6, DL.e7, DL.e8, DL.e9, DL.e10, DL.e11, DL.e12, DL.e13, DL.e14, DL.a1, DL.a2, DL.a3, DL.a4, DL.a5, DL.a6, DL.a7, DL.a8, DL.a9, DL.a10, DL.a11, DL.t1, DL.t2, DL.t3, DL.x1, DL.x2, DL.x3, DL.x4, DL.x5, DL.x6, DL.x7, DL.x8, DL.x9, DL.x10, DL.x11, DL.x12, DL.y1, DL.y2, DL.eq_ii, DL.ne_ii, DL.k1, DL.k2, DL.k3, DL.k4, DL.k5, DL.k6, DL.z0, DL.z1, DL.z2, DL.z3, DL.z4, DL.z5, DL.z6, DL.z7, DL.z8, DL.z9, DL.z10, DL.z11, DL.z12, DL.z13, DL.z14, DL.z15, DL.z16, DL.z17, DL.z18, DL.z19, DL.z20, DL.z21, DL.z22, DL.z23, DL.z24, DL.z25, DL.z26, DL.z27, DL.z28, DL.z29, DL.ic1, DL.ic2, dFor, dIterL]
  refine sp__law_wrong_shares g fun m h1 h2 => ?_
  simp only [DL.e5]
  refine .inl ⟨_, rfl, ?_⟩
  refine for_inv (fun α => ∃ s2, α = [some S.tk, some (.fr (.tup [.int a, .int b])), s2, none, none] ∧ S.noOwn s2 = true) (fun d hd α hα nxt hn => ?_) ⟨none, rfl, rfl⟩ (fun α hα => ?_)
  · obtain ⟨s2, rfl, hs2⟩ := hα
    simp [phi, startA, dSeq, dNext, dAsg, dAsgG, dIf, dRet, dRetV, dRetN, dDrop, dRaise, dRaiseI, dFz, dFzS, dVar, dC, dBin, dUn, dTest, isB, dAndT, dOrT, dNotT, dAndV, dOrV, dNotV, dIfE, dTruth, dCons, dNil, dTupE, dLstE, dCB, dIs, dCall, gNm, dPart, dNoPart, DL.f0, DL.fc, DL.g1, DL.g2, DL.g3, DL.s1, DL.s2, DL.zc, dPar, dChain, DL.e1, DL.e2, DL.e3, DL.e4, DL.e5, DL.e6, DL.e7, DL.e8, DL.e9, DL.e10, DL.e11, DL.e12, DL.e13, DL.e14, DL.a1, DL.a2, DL.a3, DL.a4, DL.a5, DL.a6, DL.a7, DL.a8, DL.a9, DL.a10, DL.a11, DL.t1, DL.t2, DL.t3, DL.x1, DL.x2, DL.x3, DL.x4, DL.x5, DL.x6, DL.x7, DL.x8, DL.x9, DL.x10, DL.x11, DL.x12, DL.y1, DL.y2, DL.eq_ii, DL.ne_ii, DL.k1, DL.k2, DL.k3, DL.k4, DL.k5, DL.k6, DL.z0, DL.z1, DL.z2, DL.z3, DL.z4, DL.z5, DL.z6, DL.z7, DL.z8, DL.z9, DL.z10, DL.z11, DL.z12, DL.z13, DL.z14, DL.z15, DL.z16, DL.z17, DL.z18, DL.z19, DL.z20, DL.z21, DL.z22, DL.z23, DL.z24, DL.z25, DL.z26, DL.z27, DL.z28, DL.z29, DL.ic1, DL.ic2]
    refine turn1 (fun {n Q E} he => ?_) rfl (hn _ ⟨_, rfl, rfl⟩)
    simp only [List.mem_cons, List.not_mem_nil, or_false] at hd
    rcases hd with rfl | rfl | rfl | rfl | rfl | rfl | rfl | rfl | rfl | rfl | rfl | rfl | rfl | rfl
    · refine sp_balanced_bad rfl ?_ he
      simp only [shareB, Int.gcd_mul_right, g.gcd]
      have : (1 * m.natAbs) ≠ 1 := by omega
      simp [this]
      intro _
      omega
    · refine sp_balanced_bad rfl ?_ he
      simp [shareB]; omega
    · exact sp_balanced_bad rfl (by simp [shareB]) he
    · exact sp_balanced_bad rfl (by decide) he
    · refine sp_balanced_far hp ?_ (.inr (by omega)) he
      rw [Int.gcd_comm, show 100 * b + 1 = 1 + b * 100 by omega, Int.gcd_add_mul_left_right]; simp
    · refine sp_balanced_far hp ?_ (.inl (by omega)) he
      rw [Int.gcd_comm, show -100 * b - 1 = -1 + b * (-100) by omega, Int.gcd_add_mul_left_right]; simp
    · exact sp_balanced_bad rfl rfl he
    · exact sp_balanced_bad rfl rfl he
    · exact sp_balanced_bad rfl rfl he
    · exact sp_balanced_bad rfl rfl he
    · exact sp_balanced_bad rfl rfl he
    · exact sp_balanced_bad rfl rfl he
    · exact sp_balanced_bad rfl rfl he
    · exact sp_balanced_bad rfl rfl he
  · obtain ⟨s2, rfl, hs2⟩ := hα
    unfold L2
    simp [phi, startA, dSeq, dNext, dAsg, dAsgG, dIf, dRet, dRetV, dRetN, dDrop, dRaise, dRaiseI, dFz, dFzS, dVar, dC, dBin, dUn, dTest, isB, dAndT, dOrT, dNotT, dAndV, dOrV, dNotV, dIfE, dTruth, dCons, dNil, dTupE, dLstE, dCB, dIs, dCall, gNm, dPart, dNoPart, DL.f0, DL.fc, DL.g1, DL.g2, DL.g3, DL.s1, DL.s2, DL.zc, dPar, dChain, DL.e1, DL.e2, DL.e3, DL.e4, DL.e5, DL.e6, DL.e7, DL.e8, DL.e9, DL.e10, DL.e11, DL.e12, DL.e13, DL.e14, DL.a1, DL.a2, DL.a3, DL.a4, DL.a5, DL.a6, DL.a7, DL.a8, DL.a9, DL.a10, DL.a11, DL.t1, DL.t2, DL.t3, DL.x1, DL.x2, DL.x3, DL.x4, DL.x5, DL.x6, DL.x7, DL.x8, DL.x9, DL.x10, DL.x11, DL.x12, DL.y1, DL.y2, DL.eq_ii, DL.ne_ii, DL.k1, DL.k2, DL.k3, DL.k4, DL.k5, DL.k6, DL.z0, DL.z1, DL.z2, DL.z3, DL.z4, DL.z5, DL.z6, DL.z7, DL.z8, DL.z9, DL.z10, DL.z11, DL.z12, DL.z13, DL.z14, DL.z15, DL.z16, DL.z17, DL.z18, DL.z19, DL.z20, DL.z21, DL.z22, DL.z23, DL.z24, DL.z25, DL.z26, DL.z27, DL.z28, DL.z29, DL.ic1, DL.ic2, dFor, dIterL]
    refine dP9_ ?_
    simp only [DL.e4, DL.e13, true_and]
    refine sp__law_draw nine_a nine_b fun m3 h3 h4 => ?_
    simp only [DL.e1, DL.a2]
    refine dP9_ ?_
    simp only [DL.e4, DL.e13, true_and]
    refine sp__law_draw nine_a nine_b fun m4 h5 h6 => ?_
    simp only [DL.e1, DL.e4, DL.a1]
    refine ⟨lsz (by omega), [.int (-1 - m3), .int (201 + m4), .non, .bl true, .str (Str.ofString "1"), .tup [.int 1]], rfl, lsz (by simp), ?_⟩
    refine for_inv (fun α => ∃ s2 s3 s4, α = [some S.tk, some (.fr (.tup [.int a, .int b])), s2, s3, s4] ∧ S.noOwn s2 = true ∧ S.noOwn s4 = true) (fun d hd α hα nxt hn => ?_) ⟨s2, none, none, rfl, hs2, rfl⟩ (fun α hα => q)
    obtain ⟨s2, s3, s4, rfl, n2, n4⟩ := hα
    simp [phi, startA, dSeq, dNext, dAsg, dAsgG, dIf, dRet, dRetV, dRetN, dDrop, dRaise, dRaiseI, dFz, dFzS, dVar, dC, dBin, dUn, dTest, isB, dAndT, dOrT, dNotT, dAndV, dOrV, dNotV, dIfE, dTruth, dCons, dNil, dTupE, dLstE, dCB, dIs, dCall, gNm, dPart, dNoPart, DL.f0, DL.fc, DL.g1, DL.g2, DL.g3, DL.s1, DL.s2, DL.zc, dPar, dChain, DL.e1, DL.e2, DL.e3, DL.e4, DL.e5, DL.e6, DL.e7, DL.e8, DL.e9, DL.e10, DL.e11, DL.e12, DL.e13, DL.e14, DL.a1, DL.a2, DL.a3, DL.a4, DL.a5, DL.a6, DL.a7, DL.a8, DL.a9, DL.a10, DL.a11, DL.t1, DL.t2, DL.t3, DL.x1, DL.x2, DL.x3, DL.x4, DL.x5, DL.x6, DL.x7, DL.x8, DL.x9, DL.x10, DL.x11, DL.x12, DL.y1, DL.y2, DL.eq_ii, DL.ne_ii, DL.k1, DL.k2, DL.k3, DL.k4, DL.k5, DL.k6, DL.z0, DL.z1, DL.z2, DL.z3, DL.z4, DL.z5, DL.z6, DL.z7, DL.z8, DL.z9, DL.z10, DL.z11, DL.z12, DL.z13, DL.z14, DL.z15, DL.z16, DL.z17, DL.z18, DL.z19, DL.z20, DL.z21, DL.z22, DL.z23, DL.z24, DL.z25, DL.z26, DL.z27, DL.z28, DL.z29, DL.ic1, DL.ic2]
    have hno : ([some S.tk, some (.fr (.tup [.int a, .int b])), s2, some (.fr d), s4] : AE).all S.noOwn = true := by simp only [List.all_cons, n2, n4, List.all_nil]; rfl
    have hnx := hn [some S.tk, some (.fr (.tup [.int a, .int b])), s2, some (.fr d), some (.fr (.exc 2 ["part"] [.str "ticks"]))] ⟨_, _, _, rfl, n2, rfl⟩
    simp only [List.mem_cons, List.not_mem_nil, or_false] at hd
    rcases hd with rfl | rfl | rfl | rfl | rfl | rfl | rfl | rfl
    · exact turn2 g rfl rfl hno hnx
    · exact turn2 g rfl rfl hno hnx
    · exact turn2 g rfl (by simp only [btw, Bool.and_eq_false_iff, decide_eq_false_iff_not]; omega) hno hnx
    · exact turn2 g rfl (by simp only [btw, Bool.and_eq_false_iff, decide_eq_false_iff_not]; omega) hno hnx
    · exact turn2 g rfl rfl hno hnx
    · exact turn2 g rfl rfl hno hnx
    · exact turn2 g rfl rfl hno hnx
    · exact turn2 g rfl rfl hno hnx
end
end LW

set_option linter.all false
set_option maxRecDepth 100000
set_option maxHeartbeats 4000000
namespace LW
open PySem PySem.Spec L2 DL

def e18 : Int := 10 ^ 18
def dP18 : DE := (dBin fPow (dC (.int 10)) (dC (.int 18)))
theorem dP18_ {α : AE} {Q : S → Prop} {E : XD → Prop} (q : Q (.fr (.int e18))) : dP18 α Q E := ⟨pow_ok (by omega) (by omega) (by omega), q⟩
theorem cut_begun : t1__law_begun = (dAsg 1 (dLc (dIterL (dVar 0)) (gNm 2) (dTest (dBin fGe (dCB (one fAbs) (dCons (dVar 2) dNil)) dP18)) (dBin fSub (dCB (one fAbs) (dCons (dVar 2) dNil)) dP18) [2])) := rfl
def fBig (z : Int) : Option Int := if e18 ≤ (z.natAbs : Int) then some ((z.natAbs : Int) - e18) else none
def fBigD : D → Option D
  | .int z => (fBig z).map D.int
  | _ => none
theorem begun_plain : ∀ ns : List Int, ns.length ≤ 63 → t1__law_begun { nx := fun α => u__law_begun α (tapeSs tn k__law_begun) (fun _ => False), rt := fun _ => False } (startA ["script", "large", "grain"] [.fr (.scr ns)]) (fun _ => False) := by
  intro ns hl
  rw [cut_begun]
  unfold u__law_begun tapeSs
  simp [phi, startA, dSeq, dNext, dAsg, dAsgG, dIf, dRet, dRetV, dRetN, dDrop, dRaise, dRaiseI, dFz, dFzS, dVar, dC, dBin, dUn, dTest, isB, dAndT, dOrT, dNotT, dAndV, dOrV, dNotV, dIfE, dTruth, dCons, dNil, dTupE, dLstE, dCB, dIs, dCall, gNm, dPart, dNoPart, DL.f0, DL.fc, DL.g1, DL.g2, DL.g3, DL.s1, DL.s2, DL.zc, dPar, dChain, DL.e1, DL.e2, DL.e3, DL.e4, DL.e5, DL.e6, DL.e7, DL.e8, DL.e9, DL.e10, DL.e11, DL.e12, DL.e13, DL.e14, DL.a1, DL.a2, DL.a3, DL.a4, DL.a5, DL.a6, DL.a7, DL.a8, DL.a9, DL.a10, DL.a11, DL.t1, DL.t2, DL.t3, DL.x1, DL.x2, DL.x3, DL.x4, DL.x5, DL.x6, DL.x7, DL.x8, DL.x9, DL.x10, DL.x11, DL.x12, DL.y1, DL.y2, DL.eq_ii, DL.ne_ii, DL.k1, DL.k2, DL.k3, DL.k4, DL.k5, DL.k6, DL.z0, DL.z1, DL.z2, DL.z3, DL.z4, DL.z5, DL.z6, DL.z7, DL.z8, DL.z9, DL.z10, DL.z11, DL.z12, DL.z13, DL.z14, DL.z15, DL.z16, DL.z17, DL.z18, DL.z19, DL.z20, DL.z21, DL.z22, DL.z23, DL.z24, DL.z25, DL.z26, DL.z27, DL.z28, DL.z29, DL.ic1, DL.ic2, dLc, dIterL, wipeA, tn, k__law_begun]
  refine lc_of fBigD _ _ (fun d hd P k0 hp => ?_) (lsz (by simp; omega)) ?_
  · obtain ⟨z, hz, rfl⟩ := List.mem_map.mp hd
    simp [phi, startA, dSeq, dNext, dAsg, dAsgG, dIf, dRet, dRetV, dRetN, dDrop, dRaise, dRaiseI, dFz, dFzS, dVar, dC, dBin, dUn, dTest, isB, dAndT, dOrT, dNotT, dAndV, dOrV, dNotV, dIfE, dTruth, dCons, dNil, dTupE, dLstE, dCB, dIs, dCall, gNm, dPart, dNoPart, DL.f0, DL.fc, DL.g1, DL.g2, DL.g3, DL.s1, DL.s2, DL.zc, dPar, dChain, DL.e1, DL.e2, DL.e3, DL.e4, DL.e5, DL.e6, DL.e7, DL.e8, DL.e9, DL.e10, DL.e11, DL.e12, DL.e13, DL.e14, DL.a1, DL.a2, DL.a3, DL.a4, DL.a5, DL.a6, DL.a7, DL.a8, DL.a9, DL.a10, DL.a11, DL.t1, DL.t2, DL.t3, DL.x1, DL.x2, DL.x3, DL.x4, DL.x5, DL.x6, DL.x7, DL.x8, DL.x9, DL.x10, DL.x11, DL.x12, DL.y1, DL.y2, DL.eq_ii, DL.ne_ii, DL.k1, DL.k2, DL.k3, DL.k4, DL.k5, DL.k6, DL.z0, DL.z1, DL.z2, DL.z3, DL.z4, DL.z5, DL.z6, DL.z7, DL.z8, DL.z9, DL.z10, DL.z11, DL.z12, DL.z13, DL.z14, DL.z15, DL.z16, DL.z17, DL.z18, DL.z19, DL.z20, DL.z21, DL.z22, DL.z23, DL.z24, DL.z25, DL.z26, DL.z27, DL.z28, DL.z29, DL.ic1, DL.ic2]
    refine dP18_ ?_
    simp only [DL.e1, DL.a11, abs_eq]
    refine ⟨_, rfl, ?_⟩
    simp only [fBigD, fBig] at hp
    by_cases h : e18 ≤ (z.natAbs : Int)
    · rw [decide_eq_true h]
      refine (if_pos rfl).mpr ?_
      rw [if_pos h] at hp
      refine dP18_ ?_
      exact ⟨_, rfl, hp⟩
    · rw [decide_eq_false h]
      refine (if_neg (by simp)).mpr ?_
      rw [if_neg h] at hp
      exact hp
  · refine lc_map (fun d => match d with | .int z => .int (z.natAbs : Int) | d => d) (fun d hd P k0 hp => ?_) (lsz (by simp; omega)) ?_
    · obtain ⟨z, hz, rfl⟩ := List.mem_map.mp hd
      simp [phi, startA, dSeq, dNext, dAsg, dAsgG, dIf, dRet, dRetV, dRetN, dDrop, dRaise, dRaiseI, dFz, dFzS, dVar, dC, dBin, dUn, dTest, isB, dAndT, dOrT, dNotT, dAndV, dOrV, dNotV, dIfE, dTruth, dCons, dNil, dTupE, dLstE, dCB, dIs, dCall, gNm, dPart, dNoPart, DL.f0, DL.fc, DL.g1, DL.g2, DL.g3, DL.s1, DL.s2, DL.zc, dPar, dChain, DL.e1, DL.e2, DL.e3, DL.e4, DL.e5, DL.e6, DL.e7, DL.e8, DL.e9, DL.e10, DL.e11, DL.e12, DL.e13, DL.e14, DL.a1, DL.a2, DL.a3, DL.a4, DL.a5, DL.a6, DL.a7, DL.a8, DL.a9, DL.a10, DL.a11, DL.t1, DL.t2, DL.t3, DL.x1, DL.x2, DL.x3, DL.x4, DL.x5, DL.x6, DL.x7, DL.x8, DL.x9, DL.x10, DL.x11, DL.x12, DL.y1, DL.y2, DL.eq_ii, DL.ne_ii, DL.k1, DL.k2, DL.k3, DL.k4, DL.k5, DL.k6, DL.z0, DL.z1, DL.z2, DL.z3, DL.z4, DL.z5, DL.z6, DL.z7, DL.z8, DL.z9, DL.z10, DL.z11, DL.z12, DL.z13, DL.z14, DL.z15, DL.z16, DL.z17, DL.z18, DL.z19, DL.z20, DL.z21, DL.z22, DL.z23, DL.z24, DL.z25, DL.z26, DL.z27, DL.z28, DL.z29, DL.ic1, DL.ic2, dYes, abs_eq]
      simpa [abs_eq] using hp
    · refine ⟨ns.filterMap fBig, fun x hx => ?_, ns.map fun z => (z.natAbs : Int), fun x hx => ?_, ?_, ?_⟩
      · obtain ⟨z, _, e⟩ := List.mem_filterMap.mp hx
        unfold fBig at e
        split at e
        · cases e
          omega
        · cases e
      · obtain ⟨z, _, rfl⟩ := List.mem_map.mp hx
        omega
      · rw [List.nil_append, List.filterMap_map, List.map_filterMap]
        rfl
      · rw [List.map_map, List.map_map]
        rfl
theorem pys_ints : ∀ l : List Int, D.pys (l.map D.int) = l.map PyData.int
  | [] => by unfold D.pys; rfl
  | n :: l => by
    rw [List.map_cons, List.map_cons]
    unfold D.pys
    rw [pys_ints l]
    unfold D.py
    rfl
theorem data_ints : ∀ l : List Int, D.areData (l.map D.int) = true
  | [] => by unfold D.areData; rfl
  | n :: l => by
    rw [List.map_cons]
    unfold D.areData
    rw [data_ints l]
    unfold D.isData
    rfl
theorem ok_ints (l : List Int) : (D.tup (l.map D.int)).ok := by
  refine ⟨by unfold D.isData; exact data_ints l, ?_⟩
  unfold D.py
  rw [pys_ints]
  unfold SeqAt.shaped PyData.canLay0 PyData.depth
  rw [canLay_ints, depth_ints]
  rfl
theorem eqv_ints (l : List Int) : PyData.eqv (D.tup (l.map D.int)).py (D.tup (l.map D.int)).py = true := by
  refine SeqAt.eqv_refl _ ?_
  unfold D.py
  rw [pys_ints]
  unfold PyData.canLay0
  exact canLay_ints l
theorem ne_ints {l : List Int} {Q : S → Prop} (q : Q (.fr (.bl false))) : fNe (.tup (l.map D.int)) (.tup (l.map D.int)) Q := by
  unfold fNe
  refine ⟨ok_ints l, ok_ints l, ?_⟩
  rw [eqv_ints]
  exact q
theorem eq_ints {l m : List Int} {Q : S → Prop} (e : l = m) (q : Q (.fr (.bl true))) : fEq (.tup (l.map D.int)) (.tup (m.map D.int)) Q := by
  subst e
  unfold fEq
  refine ⟨ok_ints l, ok_ints l, ?_⟩
  rw [eqv_ints]
  exact q
theorem steps_take {a b : Int} {n m : Nat} : (steps a b n).take m = steps a b (min m n) := by
  unfold steps
  rw [← List.map_take, List.take_range]
theorem law_plain : ∀ ns : List Int, ns.length ≤ 63 → (∀ z ∈ ns, Builtin.Int.intBits z ≤ 1048576) → t_law { nx := fun _ => False, rt := fun s => s = .fr (.bl true) } ((startA ["script", "tape", "lap", "ratio", "ticks", "told"] [.fr (.scr ns)]).set 1 (some .tk)) (fun _ => False) := by
  intro ns hl hz
  unfold t_law
  simp [phi, startA, dSeq, dNext, dAsg, dAsgG, dIf, dRet, dRetV, dRetN, dDrop, dRaise, dRaiseI, dFz, dFzS, dVar, dC, dBin, dUn, dTest, isB, dAndT, dOrT, dNotT, dAndV, dOrV, dNotV, dIfE, dTruth, dCons, dNil, dTupE, dLstE, dCB, dIs, dCall, gNm, dPart, dNoPart, DL.f0, DL.fc, DL.g1, DL.g2, DL.g3, DL.s1, DL.s2, DL.zc, dPar, dChain, DL.e1, DL.e2, DL.e3, DL.e4, DL.e5, DL.e6, DL.e7, DL.e8, DL.e9, DL.e10, DL.e11, DL.e12, DL.e13, DL.e14, DL.a1, DL.a2, DL.a3, DL.a4, DL.a5, DL.a6, DL.a7, DL.a8, DL.a9, DL.a10, DL.a11, DL.t1, DL.t2, DL.t3, DL.x1, DL.x2, DL.x3, DL.x4, DL.x5, DL.x6, DL.x7, DL.x8, DL.x9, DL.x10, DL.x11, DL.x12, DL.y1, DL.y2, DL.eq_ii, DL.ne_ii, DL.k1, DL.k2, DL.k3, DL.k4, DL.k5, DL.k6, DL.z0, DL.z1, DL.z2, DL.z3, DL.z4, DL.z5, DL.z6, DL.z7, DL.z8, DL.z9, DL.z10, DL.z11, DL.z12, DL.z13, DL.z14, DL.z15, DL.z16, DL.z17, DL.z18, DL.z19, DL.z20, DL.z21, DL.z22, DL.z23, DL.z24, DL.z25, DL.z26, DL.z27, DL.z28, DL.z29, DL.ic1, DL.ic2, dFor, dRng1, dRng2]
  refine ⟨by split <;> omega, by split <;> omega, ?_⟩
  refine for_inv (fun α => ∃ s2 s3 s4 s5 : Option S, α = [some (.fr (.scr ns)), some .tk, s2, s3, s4, s5]) (fun d hd α hα nxt hn => ?_) ⟨_, _, _, _, rfl⟩ (fun α hα => ?_)
  · obtain ⟨s2, s3, s4, s5, rfl⟩ := hα
    obtain ⟨i, hi, rfl⟩ := rangeD_mem hd
    simp [phi, startA, dSeq, dNext, dAsg, dAsgG, dIf, dRet, dRetV, dRetN, dDrop, dRaise, dRaiseI, dFz, dFzS, dVar, dC, dBin, dUn, dTest, isB, dAndT, dOrT, dNotT, dAndV, dOrV, dNotV, dIfE, dTruth, dCons, dNil, dTupE, dLstE, dCB, dIs, dCall, gNm, dPart, dNoPart, DL.f0, DL.fc, DL.g1, DL.g2, DL.g3, DL.s1, DL.s2, DL.zc, dPar, dChain, DL.e1, DL.e2, DL.e3, DL.e4, DL.e5, DL.e6, DL.e7, DL.e8, DL.e9, DL.e10, DL.e11, DL.e12, DL.e13, DL.e14, DL.a1, DL.a2, DL.a3, DL.a4, DL.a5, DL.a6, DL.a7, DL.a8, DL.a9, DL.a10, DL.a11, DL.t1, DL.t2, DL.t3, DL.x1, DL.x2, DL.x3, DL.x4, DL.x5, DL.x6, DL.x7, DL.x8, DL.x9, DL.x10, DL.x11, DL.x12, DL.y1, DL.y2, DL.eq_ii, DL.ne_ii, DL.k1, DL.k2, DL.k3, DL.k4, DL.k5, DL.k6, DL.z0, DL.z1, DL.z2, DL.z3, DL.z4, DL.z5, DL.z6, DL.z7, DL.z8, DL.z9, DL.z10, DL.z11, DL.z12, DL.z13, DL.z14, DL.z15, DL.z16, DL.z17, DL.z18, DL.z19, DL.z20, DL.z21, DL.z22, DL.z23, DL.z24, DL.z25, DL.z26, DL.z27, DL.z28, DL.z29, DL.ic1, DL.ic2]
    refine sp__law_share fun a b g => ?_
    simp [phi, startA, dSeq, dNext, dAsg, dAsgG, dIf, dRet, dRetV, dRetN, dDrop, dRaise, dRaiseI, dFz, dFzS, dVar, dC, dBin, dUn, dTest, isB, dAndT, dOrT, dNotT, dAndV, dOrV, dNotV, dIfE, dTruth, dCons, dNil, dTupE, dLstE, dCB, dIs, dCall, gNm, dPart, dNoPart, DL.f0, DL.fc, DL.g1, DL.g2, DL.g3, DL.s1, DL.s2, DL.zc, dPar, dChain, DL.e1, DL.e2, DL.e3, DL.e4, DL.e5, DL.e6, DL.e7, DL.e8, DL.e9, DL.e10, DL.e11, DL.e12, DL.e13, DL.e14, DL.a1, DL.a2, DL.a3, DL.a4, DL.a5, DL.a6, DL.a7, DL.a8, DL.a9, DL.a10, DL.a11, DL.t1, DL.t2, DL.t3, DL.x1, DL.x2, DL.x3, DL.x4, DL.x5, DL.x6, DL.x7, DL.x8, DL.x9, DL.x10, DL.x11, DL.x12, DL.y1, DL.y2, DL.eq_ii, DL.ne_ii, DL.k1, DL.k2, DL.k3, DL.k4, DL.k5, DL.k6, DL.z0, DL.z1, DL.z2, DL.z3, DL.z4, DL.z5, DL.z6, DL.z7, DL.z8, DL.z9, DL.z10, DL.z11, DL.z12, DL.z13, DL.z14, DL.z15, DL.z16, DL.z17, DL.z18, DL.z19, DL.z20, DL.z21, DL.z22, DL.z23, DL.z24, DL.z25, DL.z26, DL.z27, DL.z28, DL.z29, DL.ic1, DL.ic2]
    refine sp__law_draw (by omega) (by omega) fun n h1 h2 => ?_
    simp [phi, startA, dSeq, dNext, dAsg, dAsgG, dIf, dRet, dRetV, dRetN, dDrop, dRaise, dRaiseI, dFz, dFzS, dVar, dC, dBin, dUn, dTest, isB, dAndT, dOrT, dNotT, dAndV, dOrV, dNotV, dIfE, dTruth, dCons, dNil, dTupE, dLstE, dCB, dIs, dCall, gNm, dPart, dNoPart, DL.f0, DL.fc, DL.g1, DL.g2, DL.g3, DL.s1, DL.s2, DL.zc, dPar, dChain, DL.e1, DL.e2, DL.e3, DL.e4, DL.e5, DL.e6, DL.e7, DL.e8, DL.e9, DL.e10, DL.e11, DL.e12, DL.e13, DL.e14, DL.a1, DL.a2, DL.a3, DL.a4, DL.a5, DL.a6, DL.a7, DL.a8, DL.a9, DL.a10, DL.a11, DL.t1, DL.t2, DL.t3, DL.x1, DL.x2, DL.x3, DL.x4, DL.x5, DL.x6, DL.x7, DL.x8, DL.x9, DL.x10, DL.x11, DL.x12, DL.y1, DL.y2, DL.eq_ii, DL.ne_ii, DL.k1, DL.k2, DL.k3, DL.k4, DL.k5, DL.k6, DL.z0, DL.z1, DL.z2, DL.z3, DL.z4, DL.z5, DL.z6, DL.z7, DL.z8, DL.z9, DL.z10, DL.z11, DL.z12, DL.z13, DL.z14, DL.z15, DL.z16, DL.z17, DL.z18, DL.z19, DL.z20, DL.z21, DL.z22, DL.z23, DL.z24, DL.z25, DL.z26, DL.z27, DL.z28, DL.z29, DL.ic1, DL.ic2]
    refine ⟨lsz (by omega), sp__law_pick (by simp) (by simp) fun d hd => ?_⟩
    have hnn : ∃ n : Nat, n ≤ 200 ∧ d = .int n := by
      simp only [List.mem_cons, List.not_mem_nil, or_false] at hd
      rcases hd with rfl | rfl | rfl | rfl
      · exact ⟨0, by omega, rfl⟩
      · exact ⟨1, by omega, rfl⟩
      · exact ⟨200, by omega, rfl⟩
      · exact ⟨n.toNat, by omega, by rw [Int.toNat_of_nonneg h1]⟩
    obtain ⟨n, hn', rfl⟩ := hnn
    simp [phi, startA, dSeq, dNext, dAsg, dAsgG, dIf, dRet, dRetV, dRetN, dDrop, dRaise, dRaiseI, dFz, dFzS, dVar, dC, dBin, dUn, dTest, isB, dAndT, dOrT, dNotT, dAndV, dOrV, dNotV, dIfE, dTruth, dCons, dNil, dTupE, dLstE, dCB, dIs, dCall, gNm, dPart, dNoPart, DL.f0, DL.fc, DL.g1, DL.g2, DL.g3, DL.s1, DL.s2, DL.zc, dPar, dChain, DL.e1, DL.e2, DL.e3, DL.e4, DL.e5, DL.e6, DL.e7, DL.e8, DL.e9, DL.e10, DL.e11, DL.e12, DL.e13, DL.e14, DL.a1, DL.a2, DL.a3, DL.a4, DL.a5, DL.a6, DL.a7, DL.a8, DL.a9, DL.a10, DL.a11, DL.t1, DL.t2, DL.t3, DL.x1, DL.x2, DL.x3, DL.x4, DL.x5, DL.x6, DL.x7, DL.x8, DL.x9, DL.x10, DL.x11, DL.x12, DL.y1, DL.y2, DL.eq_ii, DL.ne_ii, DL.k1, DL.k2, DL.k3, DL.k4, DL.k5, DL.k6, DL.z0, DL.z1, DL.z2, DL.z3, DL.z4, DL.z5, DL.z6, DL.z7, DL.z8, DL.z9, DL.z10, DL.z11, DL.z12, DL.z13, DL.z14, DL.z15, DL.z16, DL.z17, DL.z18, DL.z19, DL.z20, DL.z21, DL.z22, DL.z23, DL.z24, DL.z25, DL.z26, DL.z27, DL.z28, DL.z29, DL.ic1, DL.ic2]
    refine sp_balanced g hn' ?_
    simp [phi, startA, dSeq, dNext, dAsg, dAsgG, dIf, dRet, dRetV, dRetN, dDrop, dRaise, dRaiseI, dFz, dFzS, dVar, dC, dBin, dUn, dTest, isB, dAndT, dOrT, dNotT, dAndV, dOrV, dNotV, dIfE, dTruth, dCons, dNil, dTupE, dLstE, dCB, dIs, dCall, gNm, dPart, dNoPart, DL.f0, DL.fc, DL.g1, DL.g2, DL.g3, DL.s1, DL.s2, DL.zc, dPar, dChain, DL.e1, DL.e2, DL.e3, DL.e4, DL.e5, DL.e6, DL.e7, DL.e8, DL.e9, DL.e10, DL.e11, DL.e12, DL.e13, DL.e14, DL.a1, DL.a2, DL.a3, DL.a4, DL.a5, DL.a6, DL.a7, DL.a8, DL.a9, DL.a10, DL.a11, DL.t1, DL.t2, DL.t3, DL.x1, DL.x2, DL.x3, DL.x4, DL.x5, DL.x6, DL.x7, DL.x8, DL.x9, DL.x10, DL.x11, DL.x12, DL.y1, DL.y2, DL.eq_ii, DL.ne_ii, DL.k1, DL.k2, DL.k3, DL.k4, DL.k5, DL.k6, DL.z0, DL.z1, DL.z2, DL.z3, DL.z4, DL.z5, DL.z6, DL.z7, DL.z8, DL.z9, DL.z10, DL.z11, DL.z12, DL.z13, DL.z14, DL.z15, DL.z16, DL.z17, DL.z18, DL.z19, DL.z20, DL.z21, DL.z22, DL.z23, DL.z24, DL.z25, DL.z26, DL.z27, DL.z28, DL.z29, DL.ic1, DL.ic2]
    refine sp__law_balanced hn' g.div ?_
    simp only [DL.e1]
    refine ne_ints ?_
    simp [phi, startA, dSeq, dNext, dAsg, dAsgG, dIf, dRet, dRetV, dRetN, dDrop, dRaise, dRaiseI, dFz, dFzS, dVar, dC, dBin, dUn, dTest, isB, dAndT, dOrT, dNotT, dAndV, dOrV, dNotV, dIfE, dTruth, dCons, dNil, dTupE, dLstE, dCB, dIs, dCall, gNm, dPart, dNoPart, DL.f0, DL.fc, DL.g1, DL.g2, DL.g3, DL.s1, DL.s2, DL.zc, dPar, dChain, DL.e1, DL.e2, DL.e3, DL.e4, DL.e5, DL.e6, DL.e7, DL.e8, DL.e9, DL.e10, DL.e11, DL.e12, DL.e13, DL.e14, DL.a1, DL.a2, DL.a3, DL.a4, DL.a5, DL.a6, DL.a7, DL.a8, DL.a9, DL.a10, DL.a11, DL.t1, DL.t2, DL.t3, DL.x1, DL.x2, DL.x3, DL.x4, DL.x5, DL.x6, DL.x7, DL.x8, DL.x9, DL.x10, DL.x11, DL.x12, DL.y1, DL.y2, DL.eq_ii, DL.ne_ii, DL.k1, DL.k2, DL.k3, DL.k4, DL.k5, DL.k6, DL.z0, DL.z1, DL.z2, DL.z3, DL.z4, DL.z5, DL.z6, DL.z7, DL.z8, DL.z9, DL.z10, DL.z11, DL.z12, DL.z13, DL.z14, DL.z15, DL.z16, DL.z17, DL.z18, DL.z19, DL.z20, DL.z21, DL.z22, DL.z23, DL.z24, DL.z25, DL.z26, DL.z27, DL.z28, DL.z29, DL.ic1, DL.ic2, dCallK, perm]
    refine sp_balanced g hn' ?_
    simp only [DL.e1]
    refine ne_ints ?_
    simp [phi, startA, dSeq, dNext, dAsg, dAsgG, dIf, dRet, dRetV, dRetN, dDrop, dRaise, dRaiseI, dFz, dFzS, dVar, dC, dBin, dUn, dTest, isB, dAndT, dOrT, dNotT, dAndV, dOrV, dNotV, dIfE, dTruth, dCons, dNil, dTupE, dLstE, dCB, dIs, dCall, gNm, dPart, dNoPart, DL.f0, DL.fc, DL.g1, DL.g2, DL.g3, DL.s1, DL.s2, DL.zc, dPar, dChain, DL.e1, DL.e2, DL.e3, DL.e4, DL.e5, DL.e6, DL.e7, DL.e8, DL.e9, DL.e10, DL.e11, DL.e12, DL.e13, DL.e14, DL.a1, DL.a2, DL.a3, DL.a4, DL.a5, DL.a6, DL.a7, DL.a8, DL.a9, DL.a10, DL.a11, DL.t1, DL.t2, DL.t3, DL.x1, DL.x2, DL.x3, DL.x4, DL.x5, DL.x6, DL.x7, DL.x8, DL.x9, DL.x10, DL.x11, DL.x12, DL.y1, DL.y2, DL.eq_ii, DL.ne_ii, DL.k1, DL.k2, DL.k3, DL.k4, DL.k5, DL.k6, DL.z0, DL.z1, DL.z2, DL.z3, DL.z4, DL.z5, DL.z6, DL.z7, DL.z8, DL.z9, DL.z10, DL.z11, DL.z12, DL.z13, DL.z14, DL.z15, DL.z16, DL.z17, DL.z18, DL.z19, DL.z20, DL.z21, DL.z22, DL.z23, DL.z24, DL.z25, DL.z26, DL.z27, DL.z28, DL.z29, DL.ic1, DL.ic2, dSl]
    rw [show (40 : Int) = ((40 : Nat) : Int) from rfl, cut_to, ← List.map_take, steps_take]
    refine sp__law_even (by omega) g.pos g.div ?_
    simp only [DL.e1, DL.t1, steps_len, true_and]
    exact hn _ ⟨_, _, _, _, rfl⟩
  · obtain ⟨s2, s3, s4, s5, rfl⟩ := hα
    simp [phi, startA, dSeq, dNext, dAsg, dAsgG, dIf, dRet, dRetV, dRetN, dDrop, dRaise, dRaiseI, dFz, dFzS, dVar, dC, dBin, dUn, dTest, isB, dAndT, dOrT, dNotT, dAndV, dOrV, dNotV, dIfE, dTruth, dCons, dNil, dTupE, dLstE, dCB, dIs, dCall, gNm, dPart, dNoPart, DL.f0, DL.fc, DL.g1, DL.g2, DL.g3, DL.s1, DL.s2, DL.zc, dPar, dChain, DL.e1, DL.e2, DL.e3, DL.e4, DL.e5, DL.e6, DL.e7, DL.e8, DL.e9, DL.e10, DL.e11, DL.e12, DL.e13, DL.e14, DL.a1, DL.a2, DL.a3, DL.a4, DL.a5, DL.a6, DL.a7, DL.a8, DL.a9, DL.a10, DL.a11, DL.t1, DL.t2, DL.t3, DL.x1, DL.x2, DL.x3, DL.x4, DL.x5, DL.x6, DL.x7, DL.x8, DL.x9, DL.x10, DL.x11, DL.x12, DL.y1, DL.y2, DL.eq_ii, DL.ne_ii, DL.k1, DL.k2, DL.k3, DL.k4, DL.k5, DL.k6, DL.z0, DL.z1, DL.z2, DL.z3, DL.z4, DL.z5, DL.z6, DL.z7, DL.z8, DL.z9, DL.z10, DL.z11, DL.z12, DL.z13, DL.z14, DL.z15, DL.z16, DL.z17, DL.z18, DL.z19, DL.z20, DL.z21, DL.z22, DL.z23, DL.z24, DL.z25, DL.z26, DL.z27, DL.z28, DL.z29, DL.ic1, DL.ic2]
    refine sp__law_share fun a b g => ?_
    simp [phi, startA, dSeq, dNext, dAsg, dAsgG, dIf, dRet, dRetV, dRetN, dDrop, dRaise, dRaiseI, dFz, dFzS, dVar, dC, dBin, dUn, dTest, isB, dAndT, dOrT, dNotT, dAndV, dOrV, dNotV, dIfE, dTruth, dCons, dNil, dTupE, dLstE, dCB, dIs, dCall, gNm, dPart, dNoPart, DL.f0, DL.fc, DL.g1, DL.g2, DL.g3, DL.s1, DL.s2, DL.zc, dPar, dChain, DL.e1, DL.e2, DL.e3, DL.e4, DL.e5, DL.e6, DL.e7, DL.e8, DL.e9, DL.e10, DL.e11, DL.e12, DL.e13, DL.e14, DL.a1, DL.a2, DL.a3, DL.a4, DL.a5, DL.a6, DL.a7, DL.a8, DL.a9, DL.a10, DL.a11, DL.t1, DL.t2, DL.t3, DL.x1, DL.x2, DL.x3, DL.x4, DL.x5, DL.x6, DL.x7, DL.x8, DL.x9, DL.x10, DL.x11, DL.x12, DL.y1, DL.y2, DL.eq_ii, DL.ne_ii, DL.k1, DL.k2, DL.k3, DL.k4, DL.k5, DL.k6, DL.z0, DL.z1, DL.z2, DL.z3, DL.z4, DL.z5, DL.z6, DL.z7, DL.z8, DL.z9, DL.z10, DL.z11, DL.z12, DL.z13, DL.z14, DL.z15, DL.z16, DL.z17, DL.z18, DL.z19, DL.z20, DL.z21, DL.z22, DL.z23, DL.z24, DL.z25, DL.z26, DL.z27, DL.z28, DL.z29, DL.ic1, DL.ic2]
    refine sp__law_refuses g ?_
    simp [phi, startA, dSeq, dNext, dAsg, dAsgG, dIf, dRet, dRetV, dRetN, dDrop, dRaise, dRaiseI, dFz, dFzS, dVar, dC, dBin, dUn, dTest, isB, dAndT, dOrT, dNotT, dAndV, dOrV, dNotV, dIfE, dTruth, dCons, dNil, dTupE, dLstE, dCB, dIs, dCall, gNm, dPart, dNoPart, DL.f0, DL.fc, DL.g1, DL.g2, DL.g3, DL.s1, DL.s2, DL.zc, dPar, dChain, DL.e1, DL.e2, DL.e3, DL.e4, DL.e5, DL.e6, DL.e7, DL.e8, DL.e9, DL.e10, DL.e11, DL.e12, DL.e13, DL.e14, DL.a1, DL.a2, DL.a3, DL.a4, DL.a5, DL.a6, DL.a7, DL.a8, DL.a9, DL.a10, DL.a11, DL.t1, DL.t2, DL.t3, DL.x1, DL.x2, DL.x3, DL.x4, DL.x5, DL.x6, DL.x7, DL.x8, DL.x9, DL.x10, DL.x11, DL.x12, DL.y1, DL.y2, DL.eq_ii, DL.ne_ii, DL.k1, DL.k2, DL.k3, DL.k4, DL.k5, DL.k6, DL.z0, DL.z1, DL.z2, DL.z3, DL.z4, DL.z5, DL.z6, DL.z7, DL.z8, DL.z9, DL.z10, DL.z11, DL.z12, DL.z13, DL.z14, DL.z15, DL.z16, DL.z17, DL.z18, DL.z19, DL.z20, DL.z21, DL.z22, DL.z23, DL.z24, DL.z25, DL.z26, DL.z27, DL.z28, DL.z29, DL.ic1, DL.ic2]
    refine ⟨lsz (by omega), sp_balanced (n := 6) ⟨by omega, by omega, by decide, by omega, by omega⟩ (by omega) ⟨lsz (by omega), ?_⟩⟩
    refine eq_ints (l := steps 1 3 6) (m := [0, 0, 1, 0, 0, 1]) (by decide +kernel) ?_
    simp [phi, startA, dSeq, dNext, dAsg, dAsgG, dIf, dRet, dRetV, dRetN, dDrop, dRaise, dRaiseI, dFz, dFzS, dVar, dC, dBin, dUn, dTest, isB, dAndT, dOrT, dNotT, dAndV, dOrV, dNotV, dIfE, dTruth, dCons, dNil, dTupE, dLstE, dCB, dIs, dCall, gNm, dPart, dNoPart, DL.f0, DL.fc, DL.g1, DL.g2, DL.g3, DL.s1, DL.s2, DL.zc, dPar, dChain, DL.e1, DL.e2, DL.e3, DL.e4, DL.e5, DL.e6, DL.e7, DL.e8, DL.e9, DL.e10, DL.e11, DL.e12, DL.e13, DL.e14, DL.a1, DL.a2, DL.a3, DL.a4, DL.a5, DL.a6, DL.a7, DL.a8, DL.a9, DL.a10, DL.a11, DL.t1, DL.t2, DL.t3, DL.x1, DL.x2, DL.x3, DL.x4, DL.x5, DL.x6, DL.x7, DL.x8, DL.x9, DL.x10, DL.x11, DL.x12, DL.y1, DL.y2, DL.eq_ii, DL.ne_ii, DL.k1, DL.k2, DL.k3, DL.k4, DL.k5, DL.k6, DL.z0, DL.z1, DL.z2, DL.z3, DL.z4, DL.z5, DL.z6, DL.z7, DL.z8, DL.z9, DL.z10, DL.z11, DL.z12, DL.z13, DL.z14, DL.z15, DL.z16, DL.z17, DL.z18, DL.z19, DL.z20, DL.z21, DL.z22, DL.z23, DL.z24, DL.z25, DL.z26, DL.z27, DL.z28, DL.z29, DL.ic1, DL.ic2]
    refine ⟨lsz (by omega), sp_balanced (n := 4) ⟨by omega, by omega, by decide, by omega, by omega⟩ (by omega) ⟨lsz (by omega), ?_⟩⟩
    refine eq_ints (l := steps (-1) 2 4) (m := [-1, 0, -1, 0]) (by decide +kernel) ?_
    simp [phi, startA, dSeq, dNext, dAsg, dAsgG, dIf, dRet, dRetV, dRetN, dDrop, dRaise, dRaiseI, dFz, dFzS, dVar, dC, dBin, dUn, dTest, isB, dAndT, dOrT, dNotT, dAndV, dOrV, dNotV, dIfE, dTruth, dCons, dNil, dTupE, dLstE, dCB, dIs, dCall, gNm, dPart, dNoPart, DL.f0, DL.fc, DL.g1, DL.g2, DL.g3, DL.s1, DL.s2, DL.zc, dPar, dChain, DL.e1, DL.e2, DL.e3, DL.e4, DL.e5, DL.e6, DL.e7, DL.e8, DL.e9, DL.e10, DL.e11, DL.e12, DL.e13, DL.e14, DL.a1, DL.a2, DL.a3, DL.a4, DL.a5, DL.a6, DL.a7, DL.a8, DL.a9, DL.a10, DL.a11, DL.t1, DL.t2, DL.t3, DL.x1, DL.x2, DL.x3, DL.x4, DL.x5, DL.x6, DL.x7, DL.x8, DL.x9, DL.x10, DL.x11, DL.x12, DL.y1, DL.y2, DL.eq_ii, DL.ne_ii, DL.k1, DL.k2, DL.k3, DL.k4, DL.k5, DL.k6, DL.z0, DL.z1, DL.z2, DL.z3, DL.z4, DL.z5, DL.z6, DL.z7, DL.z8, DL.z9, DL.z10, DL.z11, DL.z12, DL.z13, DL.z14, DL.z15, DL.z16, DL.z17, DL.z18, DL.z19, DL.z20, DL.z21, DL.z22, DL.z23, DL.z24, DL.z25, DL.z26, DL.z27, DL.z28, DL.z29, DL.ic1, DL.ic2]
end LW

set_option Elab.async false
set_option linter.all false
set_option maxRecDepth 100000
set_option maxHeartbeats 4000000
namespace LW
open PySem PySem.Spec L2 DL
section
variable {w : World} {K : PySem.W.Frag} {mg : Str → Option Value} {base h h2 : Heap}
theorem facts_of (X : K.In h) (G : h.Ns mainGlobals mg) (c : DLH.SaysY fa fn tf ex ini w h2 K) (TB : ∀ p ∈ tf.map (He.cT K), LamX.TabB base mg p.1 p.2) : Facts PySem.Challenge.pw_sumalarms_k51_balanced_streams w K mg base (gOf (CA K) (TT K) tn) := by
  have D : He.SaysD fa fn K := c.x.t.d
  have e0 : ex K = true := c.x.more
  unfold ex at e0
  obtain ⟨x0, y0⟩ := DLH.ba2 e0
  obtain ⟨x1, y1⟩ := DLH.ba2 y0
  obtain ⟨x2, y2⟩ := DLH.ba2 y1
  obtain ⟨x3, y3⟩ := DLH.ba2 y2
  obtain ⟨x4, y4⟩ := DLH.ba2 y3
  have x5 := y4
  have kd : Kinds K (gOf (CA K) (TT K) tn) nCls subB exB := DLH.kinds_of (g := gOf (CA K) (TT K) tn) x0
  obtain ⟨oc_PartError, od_PartError, os_PartError, fd_PartError, lk_PartError, hp_PartError, hd_PartError, T_PartError⟩ := DLH.iniF_of (d := d_PartError_dot_init) (f := "part") x3 (c.ini (by first | exact List.mem_cons_self | simp [ini])) rfl rfl rfl (by decide +kernel) (by decide +kernel) rfl rfl rfl rfl ⟨_, rfl, rfl⟩ (by kernel_rfl)
  have B_PartError : Binds K fd_PartError ["self", "part"] [] := by
    obtain ⟨n1, n2, n3, n4, n5, n6, n7, n8, n9, n10, n11, n12, n13, n14, n15⟩ := fd_PartError
    dsimp only at hp_PartError hd_PartError
    subst hp_PartError hd_PartError
    exact .all fun us hl => match us, hl with | [_, _], _ => rfl
  have K_PartError : FnOk PySem.Challenge.pw_sumalarms_k51_balanced_streams w K mg base (L2.CX PySem.Challenge.pw_sumalarms_k51_balanced_streams w) 1 (He.fAd K ("PartError", some "__init__")) fd_PartError ["self", "part"] (spIni K (CA K 1) "part") := ini_ok T_PartError lk_PartError (by decide) (He.free_ok X G (D.fact 34 (f := .free "super") rfl)) (by decide) (by decide) (fun _ => rfl)
  exact { toFacts0 := ⟨He.free_ok X G (D.fact 26 (f := .free "abs") rfl),
    He.free_ok X G (D.fact 27 (f := .free "bool") rfl),
    He.free_ok X G (D.fact 28 (f := .free "int") rfl),
    He.free_ok X G (D.fact 29 (f := .free "isinstance") rfl),
    He.free_ok X G (D.fact 30 (f := .free "len") rfl),
    He.free_ok X G (D.fact 31 (f := .free "min") rfl),
    He.free_ok X G (D.fact 32 (f := .free "range") rfl),
    He.free_ok X G (D.fact 33 (f := .free "sum") rfl),
    He.free_ok X G (D.fact 34 (f := .free "super") rfl),
    He.free_ok X G (D.fact 35 (f := .free "tuple") rfl),
    He.free_ok X G (D.fact 36 (f := .free "zip") rfl),
    He.int_ok X G (D.fact 37 (f := .int "MOST_SHARE" 100) rfl),
    He.glo_ok X G (D.fact 0 (f := .glo "is_number") rfl),
    D.def_ 0 (d := d_is_number) rfl,
    He.glo_ok X G (D.fact 1 (f := .glo "is_between") rfl),
    D.def_ 1 (d := d_is_between) rfl,
    He.glo_ok X G (D.fact 2 (f := .glo "divisor_of") rfl),
    D.def_ 2 (d := d_divisor_of) rfl,
    He.glo_ok X G (D.fact 3 (f := .glo "is_share") rfl),
    D.def_ 3 (d := d_is_share) rfl,
    He.glo_ok X G (D.fact 4 (f := .glo "is_less_share") rfl),
    D.def_ 4 (d := d_is_less_share) rfl,
    He.glo_ok X G (D.fact 5 (f := .glo "need_share") rfl),
    D.def_ 5 (d := d_need_share) rfl,
    He.glo_ok X G (D.fact 6 (f := .glo "need_number") rfl),
    D.def_ 6 (d := d_need_number) rfl,
    He.glo_ok X G (D.fact 7 (f := .glo "balanced_by") rfl),
    D.def_ 7 (d := d_balanced_by) rfl,
    He.glo_ok X G (D.fact 8 (f := .glo "balanced") rfl),
    D.def_ 8 (d := d_balanced) rfl,
    He.glo_ok X G (D.fact 9 (f := .glo "_law_begun") rfl),
    D.def_ 9 (d := d__law_begun) rfl,
    He.glo_ok X G (D.fact 10 (f := .glo "_law_blend") rfl),
    D.def_ 10 (d := d__law_blend) rfl,
    He.glo_ok X G (D.fact 11 (f := .glo "_law_draw") rfl),
    D.def_ 11 (d := d__law_draw) rfl,
    He.glo_ok X G (D.fact 12 (f := .glo "_law_pick") rfl),
    D.def_ 12 (d := d__law_pick) rfl,
    He.glo_ok X G (D.fact 13 (f := .glo "_law_caught") rfl),
    D.def_ 13 (d := d__law_caught) rfl,
    He.glo_ok X G (D.fact 14 (f := .glo "_law_common") rfl),
    D.def_ 14 (d := d__law_common) rfl,
    He.glo_ok X G (D.fact 15 (f := .glo "_law_lowest") rfl),
    D.def_ 15 (d := d__law_lowest) rfl,
    He.glo_ok X G (D.fact 16 (f := .glo "_law_share") rfl),
    D.def_ 16 (d := d__law_share) rfl,
    He.glo_ok X G (D.fact 17 (f := .glo "_law_balanced") rfl),
    D.def_ 17 (d := d__law_balanced) rfl,
    He.glo_ok X G (D.fact 18 (f := .glo "_law_even") rfl),
    D.def_ 18 (d := d__law_even) rfl,
    He.glo_ok X G (D.fact 19 (f := .glo "_law_wrong_shares") rfl),
    D.def_ 19 (d := d__law_wrong_shares) rfl,
    He.glo_ok X G (D.fact 20 (f := .glo "_law_refuses") rfl),
    D.def_ 20 (d := d__law_refuses) rfl,
    He.glo_ok X G (D.fact 21 (f := .glo "law") rfl),
    D.def_ 21 (d := d_law) rfl⟩
          kinds := kd
          g_AlarmError := He.glo_ok X G (D.fact 22 (f := .glo "AlarmError") rfl)
          g_PartError := He.glo_ok X G (D.fact 23 (f := .glo "PartError") rfl)
          g_BadNumber := He.glo_ok X G (D.fact 24 (f := .glo "BadNumber") rfl)
          g_BadShare := He.glo_ok X G (D.fact 25 (f := .glo "BadShare") rfl)
          e_BadShare := DLH.excR_of x1
          i_BadNumber := ⟨⟨CA K 1, _, fd_PartError, K_PartError, B_PartError, (DLH.iniC_of x2).2.1, (DLH.iniC_of x2).2.2, (DLH.iniC_of x2).1⟩⟩
          xf_part := fun c hc => let z := DLH.ba2 (DLH.all_of x5 (fun c h => DLH.getD_out _ c h) c hc); ⟨xfB_ok z.1, He.eqO_ok z.2⟩
          okc := fun c hc => of_decide_eq_true (DLH.all_of x4 (fun c h => DLH.getD_out _ c h) c hc)
          tape := gOf_tape
          lam := lamT_of gOf_tape
          tab__law_refuses := TB _ (by first | exact List.mem_cons_self | simp [tf])
          }
theorem law_at {fa_ : Addr} (X : K.In h) (G : h.Ns mainGlobals mg) (c : DLH.SaysY fa fn tf ex ini w h K) (hl : mg "law" = some (.ref fa_)) : LamX.LawAtS PySem.Challenge.rw_sumalarms_k51_balanced_streams w K (L2.CX PySem.Challenge.pw_sumalarms_k51_balanced_streams w) 8 63 "script" mg fa_ h := by
  have D : He.SaysD fa fn K := c.x.t.d
  obtain ⟨fd, F⟩ := D.def_ 21 (d := d_law) rfl
  have e := hl.symm.trans (He.glo_ok X G (D.fact 21 (f := .glo "law") rfl))
  cases e
  have mem : ∀ p ∈ tf.map (He.cT K), ∃ d ∈ tf, p = He.cT K d := fun p hp => by
    obtain ⟨d, hd, e⟩ := List.mem_map.mp hp
    exact ⟨d, hd, e.symm⟩
  refine ⟨fd, tf.map (He.cT K), spLaw (TT K) K, fun p hp => ?_, fun p hp => ?_, fun p hp => ?_, fun s u => ?_, fun H a ns h1 h2 h3 h4 => ⟨a, ns, rfl, h4, h1, h2, DLH.tabs_new fun p hp => ?_, fun _ => rfl⟩, fun base hb hg hT => ?_⟩
  · obtain ⟨d, hd, rfl⟩ := mem p hp
    exact c.x.empty d hd
  · obtain ⟨d, hd, rfl⟩ := mem p hp
    exact c.x.out d hd
  · obtain ⟨d, hd, rfl⟩ := mem p hp
    exact PySem.W.codeHd_of_K X (c.x.hd d hd)
  · exact FunD.bindsA (ps := ["script"]) F (fun _ _ _ _ _ _ us hl => match us, hl with | [_], _ => rfl) s [u] rfl
  · have z : ∃ d ∈ tf, p.1 = (He.cT K d).2 := by
      unfold TT at hp
      revert hp
      simp only [List.mem_cons, List.not_mem_nil, or_false]
      intro hp; subst hp; exact ⟨_, by simp [tf], rfl⟩
    obtain ⟨d, hd, e⟩ := z
    rw [e]
    exact h3 _ (List.mem_map.mpr ⟨d, hd, rfl⟩)
  · exact okf_law (facts_of hb hg c hT) F begun_plain law_plain
end
end LW
open PySem PySem.W PySem.Calls PyProof.Rows
theorem PySem.Challenge.cw_sumalarms_k51_balanced_streams_holds : PySem.Challenge.rw_sumalarms_k51_balanced_streams.Holds := by
  w_on; o_law
  refine HandSHeadRun.head_any (r := OpenLaw.row PySem.Challenge.rw_sumalarms_k51_balanced_streams) (q := view (OpenLaw.row PySem.Challenge.rw_sumalarms_k51_balanced_streams).prog [30]) (H := LW.hk) (ob := LW.ob) (M := 4000) (loose := LW.loose) (d := HandSHeadRun.topDef (OpenLaw.row PySem.Challenge.rw_sumalarms_k51_balanced_streams).prog 30) (kwd := []) LW.ob_eq
    (by kernel_rfl) (fun s => by kernel_rfl) LW.run (by kernel_rfl) (by kernel_rfl) (by kernel_rfl) (by rfl) (by first | assumption | decide +kernel) (by decide +kernel) ⟨rfl, rfl, rfl, rfl, rfl, by decide +kernel⟩ ?hw ?hc
  case hw => w_witness2
  case hc =>
    refine LamX.walk_ofTsE (l := PySem.Challenge.rw_sumalarms_k51_balanced_streams) (n := 63) (k := 8) (x := "script") (CX := fun w => L2.CX PySem.Challenge.pw_sumalarms_k51_balanced_streams w) rfl (by decide) (by kernel_rfl) ⟨rfl, by decide, by decide⟩ ?F ?E
    case F =>
      intro w mg fa h Y G hmg0
      obtain ⟨K, KX, c⟩ := Y
      have hmg : mg ("law" : PySem.Str) = some (.ref fa) := by
        have e : (HandSHeadRun.topDef (OpenLaw.row PySem.Challenge.rw_sumalarms_k51_balanced_streams).prog 30).name = ("law" : PySem.Str) := by kernel_rfl
        rw [← e]
        exact hmg0
      exact ⟨K, KX, LW.law_at KX G c hmg⟩
    case E =>
      intro w H s e s' z
      obtain ⟨_, _, _, _, _, _, _, _, _, _, _, _, z⟩ := z
      exact z
