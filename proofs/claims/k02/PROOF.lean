import PyProof.Rows.All
import Wide.All
import OpenK.AllK
import Wide.FinOn
import KE.KStateDown
import HandS.ForMost
import HandS.ForExc
import HandS.Defaults
import HandS.Lambda
import HandS.EndTab
import HandS.Flow
import HandS.Wide
import HandS.Zip
import HandS.Conv
import HandS.TupAny
import HandS.IsInst
import HandS.WideBits
import HandS.Deep
import HandS.Walk
import KE.KTupSum
import HandS.ExcIs
import HandS.ExcOwn
import HandS.ExcInit
import HandS.ExcField
import HandS.HeadHook1
import KE.KExcSuper
import HandS.ExcSuper
import HandS.HeadWalk
import HandS.TryOnly
import HandS.Dict
import HandS.Small
import HandS.HeadHook4
import HandS.Property
import HandS.HeadHook2
import HandS.More
import HandS.TupMul
import HandS.Style
import HandS.HeadEnd
import HandS.Head0
import HandS.Head1
import HandS.Head2
import PySem.Challenge.RW_sumalarms_k02_streams_judged
set_option Elab.async false
set_option linter.all false
set_option maxRecDepth 100000
set_option maxHeartbeats 4000000
/-! A data layer: values as data, lists and dicts of a def's own as owned data; each def's body read as a predicate transformer over data. -/
namespace DL
open PySem PySem.Spec PyProof.Rows L2

/-! ### data -/
inductive D where
  | non | bl (b : Bool) | int (i : Int) | str (x : Str)
  | tup (ds : List D) | lst (ds : List D)
  | raw (v : V)
  | ins (c : Nat) (ns : List Str) (ds : List D)
  | exc (c : Nat) (ns : List Str) (ds : List D)
  | dic (ks : List Key) (ds : List D)
  | scr (ns : List Int)
  | tok

/-- an exception object, caught: its class, its own dict -/
def ExcO (a C : Addr) (d : Option Addr) : HO := .ext fun h => ∃ (oe : Obj) (vs : Array Value), h.get? a = some oe ∧ Zc (.ref C) d oe ∧ oe.data = .fields vs

/-- what moves behind all defs: the tape of the draws, tables of code objects -/
def Fix : HO → Prop
  | .lst _ => False
  | .dK _ => False
  | .dT _ => False
  | .set _ _ => False
  | .ins _ _ _ => False
  | _ => True
def NT (o : HO) : Prop := ∀ ps, o ≠ .tbl ps
/-- what stands still; how many draws are behind (at most); the cap (of a def's beginning) -/
structure Gh where
  m : Hp
  b : Nat
  c : Nat
instance : CoeFun Gh (fun _ => Addr → Option HO) := ⟨Gh.m⟩
instance : Coe Gh Hp := ⟨Gh.m⟩
@[reducible] def Gh.up (F : Gh) (p : Addr) (o : HO) : Gh := ⟨upd F.m p o, F.b, F.c⟩
theorem up_same {F : Gh} {p : Addr} {o : HO} : (F.up p o).m p = some o := upd_same
theorem up_ne {F : Gh} {p a : Addr} {o : HO} (h : a ≠ p) : (F.up p o).m a = F.m a := upd_ne h
def tLim : Nat := 2 ^ 4000
structure Tk where
  ad : List Addr
  ok : Gh → Hp → Prop
  v : Option V
  fr : ∀ F H, ok F H → ∀ a ∈ ad, F.m a = none ∧ H a ≠ none
  st : ∀ F H F' H', ok F H → Same F.m F'.m → F.b ≤ F'.b → (∀ a o, H a = some o → (a ∈ ad ∨ Fix o) → H' a = some o) → (∀ a ∈ ad, F'.m a = none) → (∀ a o, F'.m a = some o → F.m a = none → NT o) → ok F' H'

/-- the classes' addresses, the tokens that are let -/
structure Gv where
  CA : Nat → Addr
  T : Tk → Prop

mutual
def Rep (K : PySem.W.Frag) (g : Gv) (F : Gh) : D → V → Prop
  | .non, v => v = .non
  | .bl b, v => v = .bl b
  | .int i, v => v = .int i
  | .str x, v => v = .str x
  | .tup ds, v => ∃ a vs, v = .ref a ∧ SqT K F a vs ∧ Reps K g F ds vs
  | .lst ds, v => ∃ a vs, v = .ref a ∧ F a = some (.lst vs) ∧ Reps K g F ds vs
  | .raw w, v => v = w
  | .scr ns, v => ∃ a, v = .ref a ∧ SqL K F a (ns.map V.int)
  | .tok, _ => False
  | .ins c ns ds, v => ∃ a dx vs, v = .ref a ∧ F a = some (.ins (g.CA c) dx (ns.zip vs)) ∧ vs.length = ns.length ∧ Reps K g F ds vs
  | .exc c ns ds, v => ∃ a dd vs, v = .ref a ∧ F a = some (ExcO a (g.CA c) dd) ∧ vs.length = ns.length ∧ ((dd = none ∧ ns = []) ∨ ∃ d, dd = some d ∧ F d = some (.xd (ns.zip vs))) ∧ Reps K g F ds vs
  | .dic ks ds, v => ∃ a vs, v = .ref a ∧ F a = some (.dK (ks.zip vs)) ∧ vs.length = ks.length ∧ Reps K g F ds vs
def Reps (K : PySem.W.Frag) (g : Gv) (F : Gh) : List D → List V → Prop
  | [], vs => vs = []
  | d :: ds, vs => ∃ v r, vs = v :: r ∧ Rep K g F d v ∧ Reps K g F ds r
end

section
variable {K : PySem.W.Frag} {g : Gv} {F F' : Gh} {H H' : Hp}
theorem sqT_same {F F' : Hp} {a : Addr} {vs : List V} (e : Same F F') (h : SqT K F a vs) : SqT K F' a vs := by
  rcases h with (h | ⟨o, h⟩) | h
  · exact .inl (.inl (e _ _ h))
  · exact .inl (.inr ⟨o, e _ _ h⟩)
  · exact .inr h
mutual
theorem Rep.mono (e : Same F F') : ∀ {d : D} {v : V}, Rep K g F d v → Rep K g F' d v
  | .non, _, h => by unfold Rep at h ⊢; exact h
  | .bl _, _, h => by unfold Rep at h ⊢; exact h
  | .int _, _, h => by unfold Rep at h ⊢; exact h
  | .str _, _, h => by unfold Rep at h ⊢; exact h
  | .raw _, _, h => by unfold Rep at h ⊢; exact h
  | .tok, _, h => by unfold Rep at h ⊢; exact h
  | .tup ds, _, h => by
    unfold Rep at h ⊢
    obtain ⟨a, vs, h1, h2, h3⟩ := h
    exact ⟨a, vs, h1, sqT_same e h2, Reps.mono e h3⟩
  | .lst ds, _, h => by
    unfold Rep at h ⊢
    obtain ⟨a, vs, h1, h2, h3⟩ := h
    exact ⟨a, vs, h1, e _ _ h2, Reps.mono e h3⟩
  | .scr ns, _, h => by
    unfold Rep at h ⊢
    obtain ⟨a, h1, h2⟩ := h
    exact ⟨a, h1, e.seq h2⟩
  | .ins c ns ds, _, h => by
    unfold Rep at h ⊢
    obtain ⟨a, dx, vs, h1, h2, h3, h4⟩ := h
    exact ⟨a, dx, vs, h1, e _ _ h2, h3, Reps.mono e h4⟩
  | .exc c ns ds, _, h => by
    unfold Rep at h ⊢
    obtain ⟨a, dd, vs, h1, h2, h3, h4, h5⟩ := h
    refine ⟨a, dd, vs, h1, e _ _ h2, h3, ?_, Reps.mono e h5⟩
    rcases h4 with h4 | ⟨d, e1, e2⟩
    · exact .inl h4
    · exact .inr ⟨d, e1, e _ _ e2⟩
  | .dic ks ds, _, h => by
    unfold Rep at h ⊢
    obtain ⟨a, vs, h1, h2, h3, h4⟩ := h
    exact ⟨a, vs, h1, e _ _ h2, h3, Reps.mono e h4⟩
theorem Reps.mono (e : Same F F') : ∀ {ds : List D} {vs : List V}, Reps K g F ds vs → Reps K g F' ds vs
  | [], _, h => by unfold Reps at h ⊢; exact h
  | d :: ds, _, h => by
    unfold Reps at h ⊢
    obtain ⟨v, r, h1, h2, h3⟩ := h
    exact ⟨v, r, h1, Rep.mono e h2, Reps.mono e h3⟩
end
theorem Reps.nil : Reps K g F [] [] := by unfold Reps; rfl
theorem Reps.cons {d : D} {v : V} {ds : List D} {vs : List V} (h : Rep K g F d v) (t : Reps K g F ds vs) : Reps K g F (d :: ds) (v :: vs) := by
  unfold Reps
  exact ⟨v, vs, rfl, h, t⟩
theorem Reps.inv_cons {d : D} {ds : List D} {vs : List V} (h : Reps K g F (d :: ds) vs) : ∃ v r, vs = v :: r ∧ Rep K g F d v ∧ Reps K g F ds r := by
  unfold Reps at h
  exact h
theorem Reps.inv_nil {vs : List V} (h : Reps K g F [] vs) : vs = [] := by
  unfold Reps at h
  exact h
theorem Reps.length : ∀ {ds : List D} {vs : List V}, Reps K g F ds vs → vs.length = ds.length
  | [], _, h => by rw [h.inv_nil]; rfl
  | d :: ds, _, h => by
    obtain ⟨v, r, rfl, _, t⟩ := h.inv_cons
    rw [List.length_cons, List.length_cons, Reps.length t]
theorem Reps.get : ∀ {ds : List D} {vs : List V} {i : Nat} {d : D}, Reps K g F ds vs → ds[i]? = some d → ∃ v, vs[i]? = some v ∧ Rep K g F d v
  | [], _, i, d, _, e => by simp at e
  | x :: ds, _, 0, d, h, e => by
    obtain ⟨v, r, rfl, q, _⟩ := h.inv_cons
    simp at e
    subst e
    exact ⟨v, rfl, q⟩
  | x :: ds, _, i + 1, d, h, e => by
    obtain ⟨v, r, rfl, _, t⟩ := h.inv_cons
    obtain ⟨w, e1, e2⟩ := Reps.get (i := i) t (by simpa using e)
    exact ⟨w, by simpa using e1, e2⟩
theorem Reps.getV : ∀ {ds : List D} {vs : List V} {i : Nat} {v : V}, Reps K g F ds vs → vs[i]? = some v → ∃ d, ds[i]? = some d ∧ Rep K g F d v
  | [], _, i, v, h, e => by rw [h.inv_nil] at e; simp at e
  | x :: ds, _, 0, v, h, e => by
    obtain ⟨w, r, rfl, q, _⟩ := h.inv_cons
    simp at e
    subst e
    exact ⟨x, rfl, q⟩
  | x :: ds, _, i + 1, v, h, e => by
    obtain ⟨w, r, rfl, _, t⟩ := h.inv_cons
    obtain ⟨d, e1, e2⟩ := Reps.getV (i := i) t (by simpa using e)
    exact ⟨d, by simpa using e1, e2⟩
theorem Reps.append : ∀ {ds es : List D} {vs ws : List V}, Reps K g F ds vs → Reps K g F es ws → Reps K g F (ds ++ es) (vs ++ ws)
  | [], _, _, _, h, k => by rw [h.inv_nil]; exact k
  | d :: ds, _, _, _, h, k => by
    obtain ⟨v, r, rfl, q, t⟩ := h.inv_cons
    exact .cons q (Reps.append t k)
theorem Reps.drop : ∀ {ds : List D} {vs : List V} (n : Nat), Reps K g F ds vs → Reps K g F (ds.drop n) (vs.drop n)
  | _, _, 0, h => h
  | [], _, n + 1, h => by rw [h.inv_nil]; exact .nil
  | d :: ds, _, n + 1, h => by
    obtain ⟨v, r, rfl, _, t⟩ := h.inv_cons
    exact Reps.drop n t
theorem Reps.take : ∀ {ds : List D} {vs : List V} (n : Nat), Reps K g F ds vs → Reps K g F (ds.take n) (vs.take n)
  | _, _, 0, _ => .nil
  | [], _, n + 1, h => by rw [h.inv_nil]; exact .nil
  | d :: ds, _, n + 1, h => by
    obtain ⟨v, r, rfl, q, t⟩ := h.inv_cons
    exact .cons q (Reps.take n t)
theorem Reps.set {d : D} {v : V} (q : Rep K g F d v) : ∀ {ds : List D} {vs : List V} (i : Nat), Reps K g F ds vs → Reps K g F (ds.set i d) (vs.set i v)
  | [], _, i, h => by rw [h.inv_nil]; exact .nil
  | x :: ds, _, 0, h => by
    obtain ⟨w, r, rfl, _, t⟩ := h.inv_cons
    exact .cons q t
  | x :: ds, _, i + 1, h => by
    obtain ⟨w, r, rfl, z, t⟩ := h.inv_cons
    exact .cons z (Reps.set q i t)
theorem Reps.ints : ∀ {ns : List Int} {vs : List V}, Reps K g F (ns.map D.int) vs → vs = ns.map V.int
  | [], _, h => h.inv_nil
  | n :: ns, _, h => by
    obtain ⟨v, r, rfl, q, t⟩ := h.inv_cons
    unfold Rep at q
    rw [q, Reps.ints t]
    rfl
theorem Reps.of_ints : ∀ (ns : List Int), Reps K g F (ns.map D.int) (ns.map V.int)
  | [] => .nil
  | n :: ns => .cons (by unfold Rep; rfl) (Reps.of_ints ns)
end

/-! ### steps of the two heaps: F what stands still, H all -/
/-- nothing stands there, but a code object's table perhaps -/
def Nf (H : Hp) (p : Addr) : Prop := ∀ o, H p = some o → ¬ NT o
theorem Nf.of {H : Hp} {p : Addr} (h : H p = none) : Nf H p := fun o e => by
  rw [h] at e
  cases e
structure Step (tk : Tk) (κ : Nat) (F : Gh) (H : Hp) (F' : Gh) (H' : Hp) : Prop where
  fr : Same F F'
  nw : ∀ a o, F'.m a = some o → F.m a = none → Nf H a
  kp : ∀ a o, H a = some o → a ∉ tk.ad → NT o → H' a = some o
  ad : ∀ a o, H a = some o → NT o → ∃ o', H' a = some o' ∧ NT o'
  tm : F.b ≤ F'.b ∧ F'.b ≤ F.b + κ
section
variable {tk : Tk} {κ κ' κ1 κ2 : Nat} {F F' F1 F2 : Gh} {H H' H1 H2 : Hp}
theorem Step.refl (tk : Tk) (F : Gh) (H : Hp) : Step tk κ F H F H := ⟨Same.refl _, fun _ _ e n => by (rw [n] at e; cases e), fun _ _ e _ _ => e, fun _ o e n => ⟨o, e, n⟩, Nat.le_refl _, Nat.le_add_right _ _⟩
theorem Step.trans (a : Step tk κ1 F H F1 H1) (b : Step tk κ2 F1 H1 F2 H2) : Step tk (κ1 + κ2) F H F2 H2 := by
  have t1 := a.tm
  have t2 := b.tm
  refine ⟨a.fr.trans b.fr, fun x o e n => ?_, fun x o e n t => b.kp x o (a.kp x o e n t) n t, fun x o e n => let ⟨o', e', n'⟩ := a.ad x o e n; b.ad x o' e' n', by omega, by omega⟩
  cases q : F1.m x with
  | some u => exact a.nw x u q n
  | none =>
    have z := b.nw x o e q
    intro u r n
    obtain ⟨o', e', n'⟩ := a.ad x u r n
    exact z o' e' n'
theorem Step.w (a : Step tk κ F H F' H') (h : κ ≤ κ' := by omega) : Step tk κ' F H F' H' := ⟨a.fr, a.nw, a.kp, a.ad, a.tm.1, by have := a.tm; omega⟩
theorem Step.tight (a : Step tk κ F H F' H') : Step tk (F'.b - F.b) F H F' H' := ⟨a.fr, a.nw, a.kp, a.ad, a.tm.1, by have := a.tm; omega⟩
/-- a new object that stands still -/
theorem Step.new {p : Addr} {o : HO} (hp : H p = none) (sub : Same F H) : Step tk κ F H (F.up p o) (upd H p o) := by
  have hF : F.m p = none := sub.free hp
  refine ⟨fun a u e => ?_, fun a u e n => ?_, fun a u e _ _ => ?_, fun a u e n => ⟨u, by rw [upd_ne (ne_of_none e hp)]; exact e, n⟩, Nat.le_refl _, Nat.le_add_right _ _⟩
  · rw [up_ne (ne_of_none e hF)]
    exact e
  · by_cases h : a = p
    · rw [h]
      exact .of hp
    · rw [up_ne h] at e
      rw [e] at n
      cases n
  · rw [upd_ne (ne_of_none e hp)]
    exact e
/-- a new object of one's own -/
theorem Step.own {p : Addr} {o : HO} (hp : H p = none) : Step tk κ F H F (upd H p o) := by
  refine ⟨Same.refl _, fun a u e n => by (rw [n] at e; cases e), fun a u e _ _ => ?_, fun a u e n => ⟨u, by rw [upd_ne (ne_of_none e hp)]; exact e, n⟩, Nat.le_refl _, Nat.le_add_right _ _⟩
  · rw [upd_ne (ne_of_none e hp)]
    exact e
end
/-- what was one's own stands still from now on -/
theorem Step.freeze {F : Gh} {p : Addr} {o : HO} (hF : F.m p = none) : Same F (F.up p o) := fun a u e => by
  rw [up_ne (ne_of_none e hF)]
  exact e
theorem same_upd {F : Gh} {H : Hp} {p : Addr} {o : HO} (sub : Same F H) (hp : H p = some o) : Same (F.up p o) H := fun a u e => by
  by_cases h : a = p
  · subst h
    rw [up_same] at e
    cases e
    exact hp
  · rw [up_ne h] at e
    exact sub a u e

/-! ### values of a def: what stands still, one's own new list or dict, a look at one's own, the token -/
inductive S where
  | fr (d : D) | nw (d : D) | bw (d : D) | tk
def S.view : S → D
  | .fr d => d
  | .nw d => d
  | .bw d => d
  | .tk => .tok
/-- at p a list or dict of one's own -/
def Own (K : PySem.W.Frag) (g : Gv) (F : Gh) (H : Hp) (p : Addr) : D → Prop
  | .lst ds => ∃ vs, H p = some (.lst vs) ∧ Reps K g F ds vs
  | .dic ks ds => ∃ vs, H p = some (.dK (ks.zip vs)) ∧ vs.length = ks.length ∧ Reps K g F ds vs
  | .ins c ns ds => ∃ dx vs, H p = some (.ins (g.CA c) dx (ns.zip vs)) ∧ vs.length = ns.length ∧ Reps K g F ds vs
  | _ => False
theorem Own.at_ {K : PySem.W.Frag} {g : Gv} {F : Gh} {H : Hp} {p : Addr} {d : D} (h : Own K g F H p d) : ¬ Nf H p := fun z => by
  cases d with
  | lst ds =>
    obtain ⟨vs, e, _⟩ := h
    exact z _ e fun ps q => nomatch q
  | dic ks ds =>
    obtain ⟨vs, e, _⟩ := h
    exact z _ e fun ps q => nomatch q
  | ins c ns ds =>
    obtain ⟨dx, vs, e, _⟩ := h
    exact z _ e fun ps q => nomatch q
  | _ => exact h.elim
theorem Own.there {K : PySem.W.Frag} {g : Gv} {F : Gh} {H : Hp} {p : Addr} {d : D} (h : Own K g F H p d) : H p ≠ none := fun z => h.at_ (.of z)
theorem Own.mono {K : PySem.W.Frag} {g : Gv} {F : Gh} {H : Hp} {F' : Gh} {H' : Hp} {p : Addr} {d : D} (e : Same F F') (hp : ∀ o, H p = some o → NT o → H' p = some o) (h : Own K g F H p d) : Own K g F' H' p d := by
  cases d with
  | lst ds =>
    obtain ⟨vs, q, r⟩ := h
    exact ⟨vs, hp _ q (fun ps z => nomatch z), r.mono e⟩
  | dic ks ds =>
    obtain ⟨vs, q, l, r⟩ := h
    exact ⟨vs, hp _ q (fun ps z => nomatch z), l, r.mono e⟩
  | ins c ns ds =>
    obtain ⟨dx, vs, q, l, r⟩ := h
    exact ⟨dx, vs, hp _ q (fun ps z => nomatch z), l, r.mono e⟩
  | _ => exact h.elim
/-- it may stand still from now on -/
theorem Own.rep {K : PySem.W.Frag} {g : Gv} {F : Gh} {H : Hp} {p : Addr} {d : D} (hF : F p = none) (h : Own K g F H p d) : ∃ o, H p = some o ∧ NT o ∧ Rep K g (F.up p o) d (.ref p) := by
  cases d with
  | lst ds =>
    obtain ⟨vs, q, r⟩ := h
    refine ⟨_, q, (fun ps z => nomatch z), ?_⟩
    unfold Rep
    exact ⟨p, vs, rfl, up_same, r.mono (Step.freeze hF)⟩
  | dic ks ds =>
    obtain ⟨vs, q, l, r⟩ := h
    refine ⟨_, q, (fun ps z => nomatch z), ?_⟩
    unfold Rep
    exact ⟨p, vs, rfl, up_same, l, r.mono (Step.freeze hF)⟩
  | ins c ns ds =>
    obtain ⟨dx, vs, q, l, r⟩ := h
    refine ⟨_, q, (fun ps z => nomatch z), ?_⟩
    unfold Rep
    exact ⟨p, dx, vs, rfl, up_same, l, r.mono (Step.freeze hF)⟩
  | _ => exact h.elim
def RepS (K : PySem.W.Frag) (g : Gv) (tk : Tk) (F : Gh) (H : Hp) : S → V → Prop
  | .fr d, v => Rep K g F d v
  | .nw d, v => ∃ p, v = .ref p ∧ F p = none ∧ p ∉ tk.ad ∧ Own K g F H p d
  | .bw d, v => ∃ p, v = .ref p ∧ F p = none ∧ p ∉ tk.ad ∧ Own K g F H p d
  | .tk, v => tk.v = some v
theorem RepS.step {K : PySem.W.Frag} {g : Gv} {tk : Tk} {κ : Nat} {F : Gh} {H : Hp} {F' : Gh} {H' : Hp} {s : S} {v : V} (e : Step tk κ F H F' H') (h : RepS K g tk F H s v) : RepS K g tk F' H' s v := by
  have own : ∀ {p : Addr} {d : D}, F.m p = none → p ∉ tk.ad → Own K g F H p d → F'.m p = none ∧ Own K g F' H' p d := fun {p d} hF hn ho => by
    refine ⟨?_, ho.mono e.fr fun o q t => e.kp p o q hn t⟩
    cases q : F'.m p with
    | none => rfl
    | some o => exact absurd (e.nw p o q hF) ho.at_
  cases s with
  | fr d => exact Rep.mono e.fr h
  | nw d =>
    obtain ⟨p, q, hF, hn, ho⟩ := h
    exact ⟨p, q, (own hF hn ho).1, hn, (own hF hn ho).2⟩
  | bw d =>
    obtain ⟨p, q, hF, hn, ho⟩ := h
    exact ⟨p, q, (own hF hn ho).1, hn, (own hF hn ho).2⟩
  | tk => exact h

/-! ### the def's state -/
abbrev AE := List (Option S)
structure Ab (K : PySem.W.Frag) (g : Gv) (tk : Tk) (κ : Nat) (Fe : Gh) (He : Hp) (F : Gh) (H : Hp) (α : AE) (σ : L2.St) : Prop where
  sub : Same F H
  ok : tk.ok F H
  st : Step tk (F.b - Fe.b) Fe He F H
  cap : F.b + κ ≤ Fe.c
  lim : Fe.c ≤ tLim
  len : α.length = σ.length
  val : ∀ (i : Nat) (s : S), α[i]? = some (some s) → ∃ v, σ[i]? = some (some v) ∧ RepS K g tk F H s v ∧ (∀ d p, s = .nw d → v = .ref p → Nf He p)
  nob : ∀ (i : Nat) (d : D), α[i]? ≠ some (some (.bw d))
  apart : ∀ (i j : Nat) (d e : D) (v : V), i ≠ j → α[i]? = some (some (.nw d)) → α[j]? = some (some (.nw e)) → σ[i]? = some (some v) → σ[j]? = some (some v) → False
theorem Ab.step {K : PySem.W.Frag} {g : Gv} {tk : Tk} {κ κ1 κ' : Nat} {Fe : Gh} {He : Hp} {F : Gh} {H : Hp} {F' : Gh} {H' : Hp} {α : AE} {σ : L2.St} (A : Ab K g tk κ Fe He F H α σ) (e : Step tk κ1 F H F' H') (sub : Same F' H') (ok : tk.ok F' H') (h : κ1 + κ' ≤ κ := by omega) : Ab K g tk κ' Fe He F' H' α σ where
  sub := sub
  ok := ok
  st := (A.st.trans e).tight
  cap := by
    have t := e.tm
    have c := A.cap
    omega
  lim := A.lim
  len := A.len
  val := fun i s h => by
    obtain ⟨v, e1, e2, e3⟩ := A.val i s h
    exact ⟨v, e1, e2.step e, e3⟩
  nob := A.nob
  apart := A.apart
theorem Ab.w {K : PySem.W.Frag} {g : Gv} {tk : Tk} {κ κ' : Nat} {Fe : Gh} {He : Hp} {F : Gh} {H : Hp} {α : AE} {σ : L2.St} (A : Ab K g tk κ Fe He F H α σ) (h : κ' ≤ κ := by omega) : Ab K g tk κ' Fe He F H α σ := ⟨A.sub, A.ok, A.st, by have := A.cap; omega, A.lim, A.len, A.val, A.nob, A.apart⟩

/-- a value's end: what follows is asked of the new heaps -/
def VO (K : PySem.W.Frag) (g : Gv) (tk : Tk) (κ : Nat) (F : Gh) (H : Hp) (Q : S → Prop) : VK := fun v H' =>
  ∃ F' r, Step tk κ F H F' H' ∧ Same F' H' ∧ tk.ok F' H' ∧ RepS K g tk F' H' r v ∧ (∀ d p, r = .nw d → v = .ref p → Nf H p) ∧ Q r
abbrev XD := Nat × List Str × List D
/-- an exception's end -/
def XO (K : PySem.W.Frag) (g : Gv) (tk : Tk) (κ : Nat) (F : Gh) (H : Hp) (E : XD → Prop) : XK := fun cls dd H' =>
  ∃ (F' : Gh) (c : Nat) (ns : List Str) (ds : List D) (vs : List V), Step tk κ F H F' H' ∧ Same F' H' ∧ tk.ok F' H' ∧ cls = .ref (g.CA c) ∧ vs.length = ns.length ∧ ((dd = none ∧ ns = []) ∨ ∃ d, dd = some d ∧ F'.m d = some (.xd (ns.zip vs))) ∧ Reps K g F' ds vs ∧ E (c, ns, ds)
theorem VO.at {K : PySem.W.Frag} {g : Gv} {tk : Tk} {κ κ1 κ2 : Nat} {F : Gh} {H : Hp} {F1 : Gh} {H1 : Hp} {Q : S → Prop} {v : V} {H' : Hp} (e : Step tk κ1 F H F1 H1) (h : VO K g tk κ2 F1 H1 Q v H') (hk : κ1 + κ2 ≤ κ := by omega) : VO K g tk κ F H Q v H' := by
  obtain ⟨F', r, s, su, ok, rep, fr, q⟩ := h
  refine ⟨F', r, (e.trans s).w, su, ok, rep, fun d p e1 e2 => ?_, q⟩
  have z := fr d p e1 e2
  intro o w n
  obtain ⟨o', w', n'⟩ := e.ad p o w n
  exact z o' w' n'
theorem VO.w {K : PySem.W.Frag} {g : Gv} {tk : Tk} {κ κ' : Nat} {F : Gh} {H : Hp} {Q : S → Prop} {v : V} {H' : Hp} (h : VO K g tk κ' F H Q v H') (hk : κ' ≤ κ := by omega) : VO K g tk κ F H Q v H' := by
  obtain ⟨F', r, s, z⟩ := h
  exact ⟨F', r, s.w, z⟩
theorem XO.at {K : PySem.W.Frag} {g : Gv} {tk : Tk} {κ κ1 κ2 : Nat} {F : Gh} {H : Hp} {F1 : Gh} {H1 : Hp} {E : XD → Prop} {cls : Value} {dd : Option Addr} {H' : Hp} (e : Step tk κ1 F H F1 H1) (h : XO K g tk κ2 F1 H1 E cls dd H') (hk : κ1 + κ2 ≤ κ := by omega) : XO K g tk κ F H E cls dd H' := by
  obtain ⟨F', c, ns, ds, vs, s, r⟩ := h
  exact ⟨F', c, ns, ds, vs, (e.trans s).w, r⟩

/-! ### readings over data -/
abbrev DE := AE → (S → Prop) → (XD → Prop) → Prop
abbrev DT := AE → (Bool → Prop) → (XD → Prop) → Prop
abbrev DA := AE → (List S → Prop) → (XD → Prop) → Prop
structure DEnds where
  nx : AE → Prop
  rt : S → Prop
  bk : AE → Prop := fun _ => False
  ct : AE → Prop := fun _ => False
abbrev DS := DEnds → AE → (XD → Prop) → Prop

def RepSs (K : PySem.W.Frag) (g : Gv) (tk : Tk) (F : Gh) (H : Hp) : List S → List V → Prop
  | [], vs => vs = []
  | s :: ss, vs => ∃ v r, vs = v :: r ∧ RepS K g tk F H s v ∧ RepSs K g tk F H ss r
theorem RepSs.step {K : PySem.W.Frag} {g : Gv} {tk : Tk} {κ : Nat} {F : Gh} {H : Hp} {F' : Gh} {H' : Hp} (e : Step tk κ F H F' H') : ∀ {ss : List S} {vs : List V}, RepSs K g tk F H ss vs → RepSs K g tk F' H' ss vs
  | [], _, h => h
  | _ :: _, _, ⟨v, r, e1, h1, h2⟩ => ⟨v, r, e1, h1.step e, RepSs.step e h2⟩

/-- readings over data as readings over the heap -/
def LE (K : PySem.W.Frag) (g : Gv) (tk : Tk) (κ : Nat) (Fe : Gh) (He : Hp) (E : XD → Prop) (t : DE) : TE := fun σ H Q' =>
  ∃ (F : Gh) (α : AE) (Q : S → Prop), Ab K g tk κ Fe He F H α σ ∧ t α Q E ∧ ∀ v H', VO K g tk κ F H Q v H' → Q' v H'
def LT (K : PySem.W.Frag) (g : Gv) (tk : Tk) (κ : Nat) (Fe : Gh) (He : Hp) (E : XD → Prop) (t : DT) : TT := fun σ H Q' =>
  ∃ (F : Gh) (α : AE) (Q : Bool → Prop), Ab K g tk κ Fe He F H α σ ∧ t α Q E ∧ ∀ (b : Bool) (H' : Hp) (F' : Gh), Step tk κ F H F' H' → Same F' H' → tk.ok F' H' → Q b → Q' b H'
/-- arguments: new lists stand still from now on -/
def LA (K : PySem.W.Frag) (g : Gv) (tk : Tk) (κ : Nat) (Fe : Gh) (He : Hp) (E : XD → Prop) (t : DA) : TA := fun σ H Q' =>
  ∃ (F : Gh) (α : AE) (Q : List S → Prop), Ab K g tk κ Fe He F H α σ ∧ t α Q E ∧ ∀ (vs : List V) (H' : Hp) (F' : Gh) (ss : List S), Step tk κ F H F' H' → Same F' H' → tk.ok F' H' → RepSs K g tk F' H' ss vs → Q ss → Q' vs H'
/-- r: what is left to draw -/
def toH (K : PySem.W.Frag) (g : Gv) (tk : Tk) (r : Nat) (Fe : Gh) (He : Hp) (D : DEnds) : Ends where
  nx := fun σ H => ∃ F α, Ab K g tk r Fe He F H α σ ∧ D.nx α
  rt := VO K g tk (Fe.c - Fe.b) Fe He D.rt
  bk := fun σ H => ∃ F α, Ab K g tk r Fe He F H α σ ∧ D.bk α
  ct := fun σ H => ∃ F α, Ab K g tk r Fe He F H α σ ∧ D.ct α
/-- what is wanted of an exception of the body -/
def WD (K : PySem.W.Frag) (g : Gv) (tk : Tk) (Fe : Gh) (He : Hp) (E : XD → Prop) : WX := fun cls d _ H' => XO K g tk (Fe.c - Fe.b) Fe He E cls d H'

structure QE (g : Gv) (X : Cx) (e : Expr) (t : DE) (κ : Nat) : Prop where
  pe : ∀ (tk : Tk) (Fe : Gh) (He : Hp) (E : XD → Prop), g.T tk → Takes X (WD X.K g tk Fe He E) → PE X e (LE X.K g tk κ Fe He E t)
structure QT (g : Gv) (X : Cx) (e : Expr) (t : DT) (κ : Nat) : Prop where
  pt : ∀ (tk : Tk) (Fe : Gh) (He : Hp) (E : XD → Prop), g.T tk → Takes X (WD X.K g tk Fe He E) → PT X e (LT X.K g tk κ Fe He E t)
structure QA (g : Gv) (X : Cx) (es : List Expr) (t : DA) (κ : Nat) : Prop where
  pa : ∀ (tk : Tk) (Fe : Gh) (He : Hp) (E : XD → Prop), g.T tk → Takes X (WD X.K g tk Fe He E) → PA X es (LA X.K g tk κ Fe He E t)
/-- ends that are at least as told -/
structure EndsLe (D : Ends) (D' : Ends) : Prop where
  nx : ∀ σ H, D.nx σ H → D'.nx σ H
  rt : ∀ v H, D.rt v H → D'.rt v H
  bk : ∀ σ H, D.bk σ H → D'.bk σ H
  ct : ∀ σ H, D.ct σ H → D'.ct σ H
theorem EndsLe.refl (D : Ends) : EndsLe D D := ⟨fun _ _ h => h, fun _ _ h => h, fun _ _ h => h, fun _ _ h => h⟩
theorem EndsLe.trans {D D' D'' : Ends} (a : EndsLe D D') (b : EndsLe D' D'') : EndsLe D D'' := ⟨fun _ _ h => b.nx _ _ (a.nx _ _ h), fun _ _ h => b.rt _ _ (a.rt _ _ h), fun _ _ h => b.bk _ _ (a.bk _ _ h), fun _ _ h => b.ct _ _ (a.ct _ _ h)⟩
theorem toH_w {K : PySem.W.Frag} {g : Gv} {tk : Tk} {r r' : Nat} {Fe : Gh} {He : Hp} {D : DEnds} (h : r' ≤ r := by omega) : EndsLe (toH K g tk r Fe He D) (toH K g tk r' Fe He D) :=
  ⟨fun _ _ ⟨F, α, A, q⟩ => ⟨F, α, A.w, q⟩, fun _ _ h => h, fun _ _ ⟨F, α, A, q⟩ => ⟨F, α, A.w, q⟩, fun _ _ ⟨F, α, A, q⟩ => ⟨F, α, A.w, q⟩⟩
def LS (K : PySem.W.Frag) (g : Gv) (tk : Tk) (κ : Nat) (Fe : Gh) (He : Hp) (E : XD → Prop) (t : DS) : TS := fun D' σ H =>
  ∃ (F : Gh) (α : AE) (D : DEnds) (r : Nat), Ab K g tk (κ + r) Fe He F H α σ ∧ t D α E ∧ EndsLe (toH K g tk r Fe He D) D'
structure QS (g : Gv) (X : Cx) (st : Stmt) (t : DS) (κ : Nat) : Prop where
  ps : ∀ (tk : Tk) (Fe : Gh) (He : Hp) (E : XD → Prop), g.T tk → Takes X (WD X.K g tk Fe He E) → PS X st (LS X.K g tk κ Fe He E t)
structure QSs (g : Gv) (X : Cx) (st : List Stmt) (t : DS) (κ : Nat) : Prop where
  ps : ∀ (tk : Tk) (Fe : Gh) (He : Hp) (E : XD → Prop), g.T tk → Takes X (WD X.K g tk Fe He E) → PSs X st (LS X.K g tk κ Fe He E t)

theorem _root_.L2.PE.dimp {X : Cx} {e : Expr} {t t' : TE} (h : PE X e t) (k : ∀ σ H Q, t' σ H Q → t σ H Q) : PE X e t' := ⟨fun pins s σ H Q I q => h.run pins s σ H Q I (k σ H Q q)⟩
theorem _root_.L2.PT.dimp {X : Cx} {e : Expr} {t t' : TT} (h : PT X e t) (k : ∀ σ H Q, t' σ H Q → t σ H Q) : PT X e t' := ⟨fun pins s σ H Q I q => h.run pins s σ H Q I (k σ H Q q)⟩
theorem _root_.L2.PA.dimp {X : Cx} {es : List Expr} {t t' : TA} (h : PA X es t) (k : ∀ σ H Q, t' σ H Q → t σ H Q) : PA X es t' := ⟨fun pos pins s σ H Q I q => h.run pos pins s σ H Q I (k σ H Q q)⟩
theorem _root_.L2.PS.dimp {X : Cx} {st : Stmt} {t t' : TS} (h : PS X st t) (k : ∀ D σ H, t' D σ H → t D σ H) : PS X st t' := ⟨fun pins s σ H D I q => h.run pins s σ H D I (k D σ H q)⟩
theorem _root_.L2.PSs.dimp {X : Cx} {st : List Stmt} {t t' : TS} (h : PSs X st t) (k : ∀ D σ H, t' D σ H → t D σ H) : PSs X st t' := ⟨fun pins s σ H D I q => h.run pins s σ H D I (k D σ H q)⟩
end DL

set_option Elab.async false
set_option linter.all false
set_option maxRecDepth 100000
set_option maxHeartbeats 4000000
namespace DL
open PySem PySem.Spec L2

/-! ### ends of values -/
section
variable {K : PySem.W.Frag} {g : Gv} {tk : Tk} {F : Gh} {H : Hp} {Q : S → Prop} {p : Addr} {ds : List D} {vs : List V}
theorem Tk.new (ok : tk.ok F H) (hp : H p = none) (o : HO) (sub : Same F H) (nt : NT o) : tk.ok (F.up p o) (upd H p o) := by
  have hF : F.m p = none := sub.free hp
  refine tk.st _ _ _ _ ok (fun a u e => ?_) (Nat.le_refl _) (fun a u e _ => ?_) (fun a ha => ?_) fun a u e n => ?_
  · rw [up_ne (ne_of_none e hF)]
    exact e
  · rw [upd_ne (ne_of_none e hp)]
    exact e
  · obtain ⟨h1, h2⟩ := tk.fr _ _ ok a ha
    have ne : a ≠ p := fun z => h2 (by rw [z]; exact hp)
    rw [up_ne ne]
    exact h1
  · by_cases h : a = p
    · subst h
      rw [up_same] at e
      cases e
      exact nt
    · rw [up_ne h, n] at e
      cases e
theorem Tk.own (ok : tk.ok F H) (hp : H p = none) (o : HO) : tk.ok F (upd H p o) := by
  refine tk.st _ _ _ _ ok (Same.refl _) (Nat.le_refl _) (fun a u e _ => ?_) (fun a ha => (tk.fr _ _ ok a ha).1) fun a u e n => by (rw [n] at e; cases e)
  rw [upd_ne (ne_of_none e hp)]
  exact e
theorem Tk.out (ok : tk.ok F H) (hp : H p = none) : p ∉ tk.ad := fun h => (tk.fr _ _ ok p h).2 hp
def S.plain : S → Bool
  | .nw _ => false
  | _ => true
theorem VO.here {r : S} {v : V} (sub : Same F H) (ok : tk.ok F H) (rep : RepS K g tk F H r v) (hr : r.plain = true) (q : Q r) : VO K g tk 0 F H Q v H :=
  ⟨F, r, Step.refl _ _ _, sub, ok, rep, fun d p e => by (subst e; cases hr), q⟩
theorem VO.fr {d : D} {v : V} (sub : Same F H) (ok : tk.ok F H) (rep : Rep K g F d v) (q : Q (.fr d)) : VO K g tk 0 F H Q v H := VO.here (r := .fr d) sub ok rep rfl q
theorem VO.int {i : Int} (sub : Same F H) (ok : tk.ok F H) (q : Q (.fr (.int i))) : VO K g tk 0 F H Q (.int i) H := VO.fr sub ok (by unfold Rep; rfl) q
theorem VO.bl {b : Bool} (sub : Same F H) (ok : tk.ok F H) (q : Q (.fr (.bl b))) : VO K g tk 0 F H Q (.bl b) H := VO.fr sub ok (by unfold Rep; rfl) q
theorem VO.str {x : Str} (sub : Same F H) (ok : tk.ok F H) (q : Q (.fr (.str x))) : VO K g tk 0 F H Q (.str x) H := VO.fr sub ok (by unfold Rep; rfl) q
theorem VO.non (sub : Same F H) (ok : tk.ok F H) (q : Q (.fr .non)) : VO K g tk 0 F H Q .non H := VO.fr sub ok (by unfold Rep; rfl) q
theorem VO.tup (sub : Same F H) (ok : tk.ok F H) (hp : H p = none) (r : Reps K g F ds vs) (q : Q (.fr (.tup ds))) : VO K g tk 0 F H Q (.ref p) (upd H p (.tup vs)) := by
  have hF : F.m p = none := sub.free hp
  have st : Step tk 0 F H (F.up p (.tup vs)) (upd H p (.tup vs)) := Step.new hp sub
  refine ⟨_, .fr (.tup ds), st, same_upd (fun a u e => ?_) upd_same, tk.new ok hp _ sub (fun ps z => nomatch z), ?_, fun d p e => (nomatch e), q⟩
  · rw [upd_ne (ne_of_none e hF)]
    exact sub a u e
  · show Rep K g _ (.tup ds) _
    unfold Rep
    exact ⟨p, vs, rfl, SqT.of up_same, r.mono st.fr⟩
theorem VO.lst (sub : Same F H) (ok : tk.ok F H) (hp : H p = none) (r : Reps K g F ds vs) (q : Q (.nw (.lst ds))) : VO K g tk 0 F H Q (.ref p) (upd H p (.lst vs)) := by
  have hF : F.m p = none := sub.free hp
  refine ⟨F, .nw (.lst ds), Step.own hp, fun a u e => ?_, tk.own ok hp _, ⟨p, rfl, hF, tk.out ok hp, vs, upd_same, r⟩, fun d q e e2 => ?_, q⟩
  · rw [upd_ne (ne_of_none e hF)]
    exact sub a u e
  · cases e2
    exact .of hp
/-! what a value is, by its data -/
theorem Rep.int_ {i : Int} {v : V} (h : Rep K g F (.int i) v) : v = .int i := by unfold Rep at h; exact h
theorem Rep.bl_ {i : Bool} {v : V} (h : Rep K g F (.bl i) v) : v = .bl i := by unfold Rep at h; exact h
theorem Rep.str_ {i : Str} {v : V} (h : Rep K g F (.str i) v) : v = .str i := by unfold Rep at h; exact h
theorem Rep.non_ {v : V} (h : Rep K g F .non v) : v = .non := by unfold Rep at h; exact h
theorem Rep.raw_ {w v : V} (h : Rep K g F (.raw w) v) : v = w := by unfold Rep at h; exact h
theorem Rep.tup_ {v : V} (h : Rep K g F (.tup ds) v) : ∃ a vs, v = .ref a ∧ SqT K F a vs ∧ Reps K g F ds vs := by unfold Rep at h; exact h
theorem Rep.lst_ {v : V} (h : Rep K g F (.lst ds) v) : ∃ a vs, v = .ref a ∧ F a = some (.lst vs) ∧ Reps K g F ds vs := by unfold Rep at h; exact h
theorem Rep.int (i : Int) : Rep K g F (.int i) (.int i) := by unfold Rep; rfl
theorem Rep.bl (i : Bool) : Rep K g F (.bl i) (.bl i) := by unfold Rep; rfl
theorem Rep.str (i : Str) : Rep K g F (.str i) (.str i) := by unfold Rep; rfl
theorem Rep.non : Rep K g F .non .non := by unfold Rep; rfl
theorem RepS.lst {s : S} {v : V} (sub : Same F H) (h : RepS K g tk F H s v) (e : s.view = .lst ds) : ∃ a vs, v = .ref a ∧ H a = some (.lst vs) ∧ Reps K g F ds vs := by
  cases s with
  | fr d =>
    have e' : d = .lst ds := e
    subst e'
    obtain ⟨a, vs, h1, h2, h3⟩ := Rep.lst_ h
    exact ⟨a, vs, h1, sub _ _ h2, h3⟩
  | nw d =>
    have e' : d = .lst ds := e
    subst e'
    obtain ⟨p, h1, _, _, vs, h2, h3⟩ := h
    exact ⟨p, vs, h1, h2, h3⟩
  | bw d =>
    have e' : d = .lst ds := e
    subst e'
    obtain ⟨p, h1, _, _, vs, h2, h3⟩ := h
    exact ⟨p, vs, h1, h2, h3⟩
  | tk => cases e
/-- a value that is no list or dict of one's own -/
theorem RepS.fr_ {s : S} {v : V} {d : D} (h : RepS K g tk F H s v) (e : s.view = d) (hd : (∀ ds, d ≠ .lst ds) ∧ (∀ ks ds, d ≠ .dic ks ds) ∧ d ≠ .tok ∧ ∀ c ns ds, d ≠ .ins c ns ds) : Rep K g F d v := by
  cases s with
  | fr z =>
    have e' : z = d := e
    subst e'
    exact h
  | nw z =>
    have e' : z = d := e
    subst e'
    obtain ⟨p, _, _, _, o⟩ := h
    cases z with
    | lst ds => exact absurd rfl (hd.1 ds)
    | dic ks ds => exact absurd rfl (hd.2.1 ks ds)
    | ins c ns ds => exact absurd rfl (hd.2.2.2 c ns ds)
    | _ => exact o.elim
  | bw z =>
    have e' : z = d := e
    subst e'
    obtain ⟨p, _, _, _, o⟩ := h
    cases z with
    | lst ds => exact absurd rfl (hd.1 ds)
    | dic ks ds => exact absurd rfl (hd.2.1 ks ds)
    | ins c ns ds => exact absurd rfl (hd.2.2.2 c ns ds)
    | _ => exact o.elim
  | tk =>
    have e' : D.tok = d := e
    exact absurd e'.symm hd.2.2.1
theorem RepS.int {s : S} {v : V} {i : Int} (h : RepS K g tk F H s v) (e : s.view = .int i) : v = .int i := Rep.int_ (K := K) (g := g) (F := F) (RepS.fr_ h e ⟨fun _ z => (nomatch z), fun _ _ z => (nomatch z), fun z => (nomatch z), fun _ _ _ z => (nomatch z)⟩)
theorem RepS.bl {s : S} {v : V} {i : Bool} (h : RepS K g tk F H s v) (e : s.view = .bl i) : v = .bl i := Rep.bl_ (K := K) (g := g) (F := F) (RepS.fr_ h e ⟨fun _ z => (nomatch z), fun _ _ z => (nomatch z), fun z => (nomatch z), fun _ _ _ z => (nomatch z)⟩)
theorem RepS.str {s : S} {v : V} {i : Str} (h : RepS K g tk F H s v) (e : s.view = .str i) : v = .str i := Rep.str_ (K := K) (g := g) (F := F) (RepS.fr_ h e ⟨fun _ z => (nomatch z), fun _ _ z => (nomatch z), fun z => (nomatch z), fun _ _ _ z => (nomatch z)⟩)
theorem RepS.tup {s : S} {v : V} (sub : Same F H) (h : RepS K g tk F H s v) (e : s.view = .tup ds) : ∃ a vs, v = .ref a ∧ SqT K H a vs ∧ Reps K g F ds vs := by
  obtain ⟨a, vs, h1, h2, h3⟩ := Rep.tup_ (RepS.fr_ h e ⟨fun _ z => (nomatch z), fun _ _ z => (nomatch z), fun z => (nomatch z), fun _ _ _ z => (nomatch z)⟩)
  exact ⟨a, vs, h1, sqT_same sub h2, h3⟩
end

/-! ### names, constants -/
section
variable {g : Gv} {X : Cx} {pos : Pos}
def S.look : S → S
  | .nw d => .bw d
  | s => s
theorem RepS.look_ {K : PySem.W.Frag} {tk : Tk} {F : Gh} {H : Hp} {s : S} {v : V} (h : RepS K g tk F H s v) : RepS K g tk F H s.look v := by
  cases s with
  | nw d => exact h
  | fr d => exact h
  | bw d => exact h
  | tk => exact h
theorem S.look_plain (s : S) : s.look.plain = true := by cases s <;> rfl
def dVar (i : Nat) : DE := fun α Q _ => ∃ s, α[i]? = some (some s) ∧ Q s.look
def dC (d : D) : DE := fun _ Q _ => Q (.fr d)
theorem qe_var {i : Nat} {x : Str} (hN : X.N[i]? = some x) (hv : Vis X.env.scope x) (hd : (x == ("__debug__" : Str)) = false := by decide) (hcd : (x == ("__classdict__" : Str)) = false := by decide) : QE g X (.Name x pos) (dVar i) 0 :=
  ⟨fun tk Fe He E hT hx => (pe_var hN hv hd hcd).dimp fun σ H Q' h => by
    obtain ⟨F, α, Q, A, ⟨s, e, q⟩, k⟩ := h
    obtain ⟨v, e1, e2, _⟩ := A.val i s e
    exact ⟨v, e1, k v H (VO.here A.sub A.ok e2.look_ s.look_plain q)⟩⟩
theorem qe_of_c {e : Expr} {d : D} {v : V} (h : PE X e (tC v)) (r : ∀ F, Rep X.K g F d v) : QE g X e (dC d) 0 :=
  ⟨fun tk Fe He E hT hx => h.dimp fun σ H Q' h => by
    obtain ⟨F, α, Q, A, q, k⟩ := h
    exact k v H (VO.fr A.sub A.ok (r F) q)⟩
theorem qe_int {i j} : QE g X (.Constant (.int i) j pos) (dC (.int i)) 0 := qe_of_c pe_int fun _ => Rep.int i
theorem qe_bl {b j} : QE g X (.Constant (.bool b) j pos) (dC (.bl b)) 0 := qe_of_c pe_bl fun _ => Rep.bl b
theorem qe_non {j} : QE g X (.Constant .none j pos) (dC .non) 0 := qe_of_c pe_non fun _ => Rep.non
theorem qe_str {x j} : QE g X (.Constant (.str x) j pos) (dC (.str x)) 0 := qe_of_c pe_str fun _ => Rep.str x
theorem qe_glob {x : Str} {d : D} {v : V} {u : Value} (hg : Gl X x) (hm : X.mg x = some u) (r : RelV v u) (rep : ∀ F, Rep X.K g F d v) (hd : (x == ("__debug__" : Str)) = false := by decide) : QE g X (.Name x pos) (dC d) 0 := qe_of_c (pe_glob hg hm r hd) rep
/-- a built-in class as a value -/
theorem qe_ty {x : Str} {T : String} (hg : Gl X x) (hm : X.mg x = none) (hv : bootBuiltins x = some (.type T)) (hn : x ≠ "__name__" := by decide) (hd : (x == ("__debug__" : Str)) = false := by decide) : QE g X (.Name x pos) (dC (.raw (.ty T))) 0 :=
  qe_of_c (pe_bltn (v := .ty T) hg hm hv rfl hn hd) fun _ => by unfold Rep; rfl
/-- a class or def of one's own as a value -/
theorem qe_ref {x : Str} {a : Addr} (hg : Gl X x) (hm : X.mg x = some (.ref a)) (hd : (x == ("__debug__" : Str)) = false := by decide) : QE g X (.Name x pos) (dC (.raw (.ref a))) 0 :=
  qe_of_c (pe_glob (v := .ref a) hg hm rfl hd) fun _ => by unfold Rep; rfl
end

/-! ### operators by values -/
abbrev F2 := D → D → (S → Prop) → Prop
abbrev F1 := D → (S → Prop) → Prop
def OpS (g : Gv) (K : PySem.W.Frag) (r : R2) (f : F2) : Prop :=
  ∀ (tk : Tk) (F : Gh) (H : Hp) (s1 s2 : S) (v w : V) (Q : S → Prop) (Q' : VK), g.T tk → Same F H → tk.ok F H → RepS K g tk F H s1 v → RepS K g tk F H s2 w → f s1.view s2.view Q → (∀ z H', VO K g tk 0 F H Q z H' → Q' z H') → r v w H Q'
def UnS (g : Gv) (K : PySem.W.Frag) (r : V → Hp → VK → Prop) (f : F1) : Prop :=
  ∀ (tk : Tk) (F : Gh) (H : Hp) (s : S) (v : V) (Q : S → Prop) (Q' : VK), g.T tk → Same F H → tk.ok F H → RepS K g tk F H s v → f s.view Q → (∀ z H', VO K g tk 0 F H Q z H' → Q' z H') → r v H Q'
def dBin (f : F2) (ta tb : DE) : DE := fun α Q E => ta α (fun x => tb α (fun y => f x.view y.view Q) E) E
def dUn (f : F1) (ta : DE) : DE := fun α Q E => ta α (fun x => f x.view Q) E
section
variable {g : Gv} {X : Cx} {a b c : Expr} {ta tb tc : DE} {pos : Pos} {r r' : R2} {f f' : F2}
theorem bin_red {tk : Tk} {Fe : Gh} {He : Hp} {E : XD → Prop} {σ : L2.St} {H : Hp} {Q' : VK} (hT : g.T tk) (hf : OpS g X.K r f) (h : LE X.K g tk (κ1 + κ2) Fe He E (dBin f ta tb) σ H Q') : tOp r (LE X.K g tk κ1 Fe He E ta) (LE X.K g tk κ2 Fe He E tb) σ H Q' := by
  obtain ⟨F, α, Q, A, t, k⟩ := h
  refine ⟨F, α, _, A.w, t, fun v H1 h1 => ?_⟩
  obtain ⟨F1, r1, st1, sub1, ok1, rep1, _, t2⟩ := h1
  refine ⟨F1, α, _, A.step st1 sub1 ok1, t2, fun w H2 h2 => ?_⟩
  obtain ⟨F2, r2, st2, sub2, ok2, rep2, _, q⟩ := h2
  exact hf tk F2 H2 r1 r2 v w Q Q' hT sub2 ok2 (rep1.step st2) rep2 q fun z H' hz => k z H' (hz.at (st1.trans st2))
theorem qe_bin {op : Operator} (ho : OpR X (binaryOp op) r) (hf : OpS g X.K r f) (ha : QE g X a ta κ1) (hb : QE g X b tb κ2) : QE g X (.BinOp a op b pos) (dBin f ta tb) (κ1 + κ2) :=
  ⟨fun tk Fe He E hT hx => (pe_op ho (ha.pe tk Fe He E hT hx) (hb.pe tk Fe He E hT hx)).dimp fun σ H Q' h => bin_red hT hf h⟩
theorem qe_un {op : UnaryOp} {ru : V → Hp → VK → Prop} {fu : F1} (ho : UnR X (unaryOp op) ru) (hf : UnS g X.K ru fu) (ha : QE g X a ta κ) : QE g X (.UnaryOp op a pos) (dUn fu ta) κ :=
  ⟨fun tk Fe He E hT hx => (pe_un ho (ha.pe tk Fe He E hT hx)).dimp fun σ H Q' h => by
    obtain ⟨F, α, Q, A, t, k⟩ := h
    refine ⟨F, α, _, A.w, t, fun v H1 h1 => ?_⟩
    obtain ⟨F1, r1, st1, sub1, ok1, rep1, _, q⟩ := h1
    exact hf tk F1 H1 r1 v Q Q' hT sub1 ok1 rep1 q fun z H' hz => k z H' (hz.at st1)⟩
theorem qe_cmp {op : CmpOp} (ho : OpR X (compareOp op) r) (hf : OpS g X.K r f) (ha : QE g X a ta κ1) (hb : QE g X b tb κ2) (hm : behindInMarks op b = false) : QE g X (.Compare a [op] [b] pos) (dBin f ta tb) (κ1 + κ2) :=
  ⟨fun tk Fe He E hT hx => (pe_cmpR ho (ha.pe tk Fe He E hT hx) (hb.pe tk Fe He E hT hx) hm).dimp fun σ H Q' h => bin_red hT hf h⟩
/-- tests -/
def isB (Q : Bool → Prop) : S → Prop := fun s => ∃ k, s = .fr (.bl k) ∧ Q k
def dTest (t : DE) : DT := fun α Q E => t α (isB Q) E
theorem test_red {K : PySem.W.Frag} {tk : Tk} {Fe : Gh} {He : Hp} {E : XD → Prop} {σ : L2.St} {H : Hp} {t : DE} {Q' : Bool → Hp → Prop} (h : LT K g tk κ Fe He E (dTest t) σ H Q') : LE K g tk κ Fe He E t σ H (fun x H' => ∃ k, x = .bl k ∧ Q' k H') := by
  obtain ⟨F, α, Q, A, t, k⟩ := h
  refine ⟨F, α, _, A.w, t, fun v H1 h1 => ?_⟩
  obtain ⟨F1, r1, st1, sub1, ok1, rep1, _, b, e, q⟩ := h1
  subst e
  have ev : v = .bl b := Rep.bl_ (K := K) (g := g) (F := F1) rep1
  exact ⟨b, ev, k b H1 F1 st1 sub1 ok1 q⟩
theorem qt_cmp {op : CmpOp} (ho : OpR X (compareOp op) r) (hf : OpS g X.K r f) (ha : QE g X a ta κ1) (hb : QE g X b tb κ2) (hm : behindInMarks op b = false) : QT g X (.Compare a [op] [b] pos) (dTest (dBin f ta tb)) (κ1 + κ2) :=
  ⟨fun tk Fe He E hT hx => (pt_cmpR ho (ha.pe tk Fe He E hT hx) (hb.pe tk Fe He E hT hx) hm).dimp fun σ H Q' h => bin_red hT hf (test_red h)⟩
/-- a op b op' c -/
def dChain (f f' : F2) (ta tb tc : DE) : DE := fun α Q E => ta α (fun x => tb α (fun y => f x.view y.view (isB fun k => if k = true then tc α (fun z => f' y.view z.view Q) E else Q (.fr (.bl false)))) E) E
theorem chain_red {tk : Tk} {Fe : Gh} {He : Hp} {E : XD → Prop} {σ : L2.St} {H : Hp} {Q' : VK} (hT : g.T tk) (hf : OpS g X.K r f) (hf' : OpS g X.K r' f') (h : LE X.K g tk (κ1 + κ2 + κ3) Fe He E (dChain f f' ta tb tc) σ H Q') :
    tChain r r' (LE X.K g tk κ1 Fe He E ta) (LE X.K g tk κ2 Fe He E tb) (LE X.K g tk κ3 Fe He E tc) σ H Q' := by
  obtain ⟨F, α, Q, A, t, k⟩ := h
  refine ⟨F, α, _, A.w, t, fun v H1 h1 => ?_⟩
  obtain ⟨F1, r1, st1, sub1, ok1, rep1, _, t2⟩ := h1
  refine ⟨F1, α, _, A.step st1 sub1 ok1, t2, fun w H2 h2 => ?_⟩
  obtain ⟨F2, r2, st2, sub2, ok2, rep2, _, q⟩ := h2
  refine hf tk F2 H2 r1 r2 v w _ _ hT sub2 ok2 (rep1.step st2) rep2 q fun z H3 hz => ?_
  obtain ⟨F3, r3, st3, sub3, ok3, rep3, _, b, e, q3⟩ := hz
  subst e
  refine ⟨b, Rep.bl_ (K := X.K) (g := g) (F := F3) rep3, ?_⟩
  have st := (st1.trans st2).trans st3
  cases b with
  | false => exact k _ H3 ((VO.bl sub3 ok3 q3).at st)
  | true =>
    refine ⟨F3, α, _, A.step st sub3 ok3, q3, fun u H4 h4 => ?_⟩
    obtain ⟨F4, r4, st4, sub4, ok4, rep4, _, q4⟩ := h4
    exact hf' tk F4 H4 r2 r4 w u Q Q' hT sub4 ok4 ((rep2.step st3).step st4) rep4 q4 fun z H' hz => k z H' (hz.at (st.trans st4))
theorem qe_chain {op op' : CmpOp} (ho : OpR X (compareOp op) r) (ho' : OpR X (compareOp op') r') (hf : OpS g X.K r f) (hf' : OpS g X.K r' f') (ha : QE g X a ta κ1) (hb : QE g X b tb κ2) (hc : QE g X c tc κ3) (hm : lastMarks [op, op'] [b, c] = false := by with_unfolding_all rfl) :
    QE g X (.Compare a [op, op'] [b, c] pos) (dChain f f' ta tb tc) (κ1 + κ2 + κ3) :=
  ⟨fun tk Fe He E hT hx => (pe_chain ho ho' (ha.pe tk Fe He E hT hx) (hb.pe tk Fe He E hT hx) (hc.pe tk Fe He E hT hx) hm).dimp fun σ H Q' h => chain_red hT hf hf' h⟩
theorem qt_chain {op op' : CmpOp} (ho : OpR X (compareOp op) r) (ho' : OpR X (compareOp op') r') (hf : OpS g X.K r f) (hf' : OpS g X.K r' f') (ha : QE g X a ta κ1) (hb : QE g X b tb κ2) (hc : QE g X c tc κ3) (hm : lastMarks [op, op'] [b, c] = false := by with_unfolding_all rfl) :
    QT g X (.Compare a [op, op'] [b, c] pos) (dTest (dChain f f' ta tb tc)) (κ1 + κ2 + κ3) :=
  ⟨fun tk Fe He E hT hx => (pt_chain ho ho' (ha.pe tk Fe He E hT hx) (hb.pe tk Fe He E hT hx) (hc.pe tk Fe He E hT hx) hm).dimp fun σ H Q' h => chain_red hT hf hf' (test_red h)⟩
end

/-! ### truth -/
def D.truth : D → Option Bool
  | .non => some false
  | .bl b => some b
  | .int i => some (i != 0)
  | .tup ds => some (!ds.isEmpty)
  | .lst ds => some (!ds.isEmpty)
  | _ => none
theorem isEmpty_reps {K : PySem.W.Frag} {g : Gv} {F : Gh} {ds : List D} {vs : List V} (h : Reps K g F ds vs) : (!vs.isEmpty) = !ds.isEmpty := by
  cases ds with
  | nil => rw [h.inv_nil] <;> rfl
  | cons d ds =>
    obtain ⟨v, r, rfl, _, _⟩ := h.inv_cons
    rfl
theorem tru_of {K : PySem.W.Frag} {g : Gv} {tk : Tk} {F : Gh} {H : Hp} {s : S} {v : V} {k : Bool} (sub : Same F H) (h : RepS K g tk F H s v) (e : s.view.truth = some k) : TruV K v H k := by
  cases q : s.view with
  | non =>
    rw [q] at e
    cases e
    have ev := Rep.non_ (K := K) (g := g) (F := F) (RepS.fr_ h q ⟨fun _ z => (nomatch z), fun _ _ z => (nomatch z), fun z => (nomatch z), fun _ _ _ z => (nomatch z)⟩)
    rw [ev]
    rfl
  | bl b =>
    rw [q] at e
    cases e
    rw [RepS.bl h q]
    rfl
  | int i =>
    rw [q] at e
    cases e
    rw [RepS.int h q]
    rfl
  | tup ds =>
    rw [q] at e
    obtain ⟨a, vs, rfl, h2, h3⟩ := RepS.tup sub h q
    cases e
    exact .inr (.inl ⟨vs, h2, (isEmpty_reps h3).symm⟩)
  | lst ds =>
    rw [q] at e
    obtain ⟨a, vs, rfl, h2, h3⟩ := RepS.lst sub h q
    cases e
    exact .inl ⟨vs, SqL.of h2, (isEmpty_reps h3).symm⟩
  | _ => rw [q] at e; cases e
section
variable {g : Gv} {X : Cx} {a b : Expr} {ta tb : DE} {tA tB : DT} {rest : List Expr} {pos : Pos}
def dTruth (t : DE) : DT := fun α Q E => t α (fun s => ∃ k, s.view.truth = some k ∧ Q k) E
theorem qt_truth (ha : QE g X a ta κ) (he : ∀ whole, isTrue a X.env whole = (do let v ← whole; standAt a.pos; holding [v] (truthy v))) : QT g X a (dTruth ta) κ :=
  ⟨fun tk Fe He E hT hx => (pt_truth (ha.pe tk Fe He E hT hx) he).dimp fun σ H Q' h => by
    obtain ⟨F, α, Q, A, t, k⟩ := h
    refine ⟨F, α, _, A.w, t, fun v H1 h1 => ?_⟩
    obtain ⟨F1, r1, st1, sub1, ok1, rep1, _, b, e, q⟩ := h1
    exact ⟨b, tru_of sub1 rep1 e, k b H1 F1 st1 sub1 ok1 q⟩⟩
def dAndT (t u : DT) : DT := fun α Q E => t α (fun c => if c = true then u α Q E else Q false) E
def dOrT (t u : DT) : DT := fun α Q E => t α (fun c => if c = true then Q true else u α Q E) E
def dNotT (t : DT) : DT := fun α Q E => t α (fun c => Q (!c)) E
structure QW (g : Gv) (X : Cx) (e : Expr) (t : DT) (κ : Nat) : Prop where
  pw : ∀ (tk : Tk) (Fe : Gh) (He : Hp) (E : XD → Prop), g.T tk → Takes X (WD X.K g tk Fe He E) → PW X e (LT X.K g tk κ Fe He E t)
theorem QW.qt {e : Expr} {t : DT} (h : QW g X e t κ) : QT g X e t κ := ⟨fun tk Fe He E hT hx => (h.pw tk Fe He E hT hx).pt⟩
theorem _root_.L2.PW.dimp {e : Expr} {t t' : TT} (h : PW X e t) (k : ∀ σ H Q, t' σ H Q → t σ H Q) : PW X e t' := ⟨fun wh pins s σ H Q I q => h.run wh pins s σ H Q I (k σ H Q q)⟩
theorem qw_and1 (ha : QT g X a tA κ) : QW g X (.BoolOp .And [a] pos) tA κ := ⟨fun tk Fe He E hT hx => pw_and1 (ha.pt tk Fe He E hT hx)⟩
theorem qw_or1 (ha : QT g X a tA κ) : QW g X (.BoolOp .Or [a] pos) tA κ := ⟨fun tk Fe He E hT hx => pw_or1 (ha.pt tk Fe He E hT hx)⟩
theorem lt_at {K : PySem.W.Frag} {tk : Tk} {κ κ1 κ2 : Nat} {Fe : Gh} {He : Hp} {F : Gh} {H : Hp} {E : XD → Prop} {α : AE} {σ : L2.St} {t : DT} {Q : Bool → Prop} {Q' : Bool → Hp → Prop} {F1 : Gh} {H1 : Hp} (A : Ab K g tk κ Fe He F H α σ) (st1 : Step tk κ1 F H F1 H1) (sub1 : Same F1 H1) (ok1 : tk.ok F1 H1)
    (q : t α Q E) (k : ∀ b H' F', Step tk κ F H F' H' → Same F' H' → tk.ok F' H' → Q b → Q' b H') (h : κ1 + κ2 ≤ κ := by omega) : LT K g tk κ2 Fe He E t σ H1 Q' :=
  ⟨F1, α, Q, A.step st1 sub1 ok1, q, fun b H2 F2 st2 sub2 ok2 qb => k b H2 F2 (st1.trans st2).w sub2 ok2 qb⟩
theorem le_at {K : PySem.W.Frag} {tk : Tk} {κ κ1 κ2 : Nat} {Fe : Gh} {He : Hp} {F : Gh} {H : Hp} {E : XD → Prop} {α : AE} {σ : L2.St} {t : DE} {Q : S → Prop} {Q' : VK} {F1 : Gh} {H1 : Hp} (A : Ab K g tk κ Fe He F H α σ) (st1 : Step tk κ1 F H F1 H1) (sub1 : Same F1 H1) (ok1 : tk.ok F1 H1)
    (q : t α Q E) (k : ∀ v H', VO K g tk κ F H Q v H' → Q' v H') (h : κ1 + κ2 ≤ κ := by omega) : LE K g tk κ2 Fe He E t σ H1 Q' :=
  ⟨F1, α, Q, A.step st1 sub1 ok1, q, fun v H2 h2 => k v H2 (h2.at st1)⟩
theorem qw_and (ha : QT g X a tA κ1) (hb : QW g X (.BoolOp .And (b :: rest) pos) tB κ2) : QW g X (.BoolOp .And (a :: b :: rest) pos) (dAndT tA tB) (κ1 + κ2) :=
  ⟨fun tk Fe He E hT hx => (pw_and (ha.pt tk Fe He E hT hx) (hb.pw tk Fe He E hT hx)).dimp fun σ H Q' h => by
    obtain ⟨F, α, Q, A, t, k⟩ := h
    refine ⟨F, α, _, A.w, t, fun c H1 F1 st1 sub1 ok1 q => ?_⟩
    cases c with
    | true => exact lt_at A st1 sub1 ok1 q k
    | false => exact k false H1 F1 st1.w sub1 ok1 q⟩
theorem qw_or (ha : QT g X a tA κ1) (hb : QW g X (.BoolOp .Or (b :: rest) pos) tB κ2) : QW g X (.BoolOp .Or (a :: b :: rest) pos) (dOrT tA tB) (κ1 + κ2) :=
  ⟨fun tk Fe He E hT hx => (pw_or (ha.pt tk Fe He E hT hx) (hb.pw tk Fe He E hT hx)).dimp fun σ H Q' h => by
    obtain ⟨F, α, Q, A, t, k⟩ := h
    refine ⟨F, α, _, A.w, t, fun c H1 F1 st1 sub1 ok1 q => ?_⟩
    cases c with
    | true => exact k true H1 F1 st1.w sub1 ok1 q
    | false => exact lt_at A st1 sub1 ok1 q k⟩
theorem qt_not (ha : QT g X a tA κ) : QT g X (.UnaryOp .Not a pos) (dNotT tA) κ :=
  ⟨fun tk Fe He E hT hx => (pt_not (ha.pt tk Fe He E hT hx)).dimp fun σ H Q' h => by
    obtain ⟨F, α, Q, A, t, k⟩ := h
    exact ⟨F, α, _, A.w, t, fun c H1 F1 st1 sub1 ok1 q => k _ H1 F1 st1 sub1 ok1 q⟩⟩
/-! as values -/
def dAndV (ta tb : DE) : DE := fun α Q E => ta α (fun x => x.plain = true ∧ ∃ k, x.view.truth = some k ∧ if k = true then tb α Q E else Q x) E
def dOrV (ta tb : DE) : DE := fun α Q E => ta α (fun x => x.plain = true ∧ ∃ k, x.view.truth = some k ∧ if k = true then Q x else tb α Q E) E
def dNotV (ta : DE) : DE := fun α Q E => ta α (fun x => ∃ k, x.view.truth = some k ∧ Q (.fr (.bl (!k)))) E
theorem qe_one {op} (h : QE g X a ta κ) : QE g X (.BoolOp op [a] pos) ta κ := ⟨fun tk Fe He E hT hx => pe_one (h.pe tk Fe He E hT hx)⟩
theorem qe_and (ha : QE g X a ta κ1) (hb : QE g X (.BoolOp .And (b :: rest) pos) tb κ2) : QE g X (.BoolOp .And (a :: b :: rest) pos) (dAndV ta tb) (κ1 + κ2) :=
  ⟨fun tk Fe He E hT hx => (pe_andT (ha.pe tk Fe He E hT hx) (hb.pe tk Fe He E hT hx)).dimp fun σ H Q' h => by
    obtain ⟨F, α, Q, A, t, k⟩ := h
    refine ⟨F, α, _, A.w, t, fun v H1 h1 => ?_⟩
    obtain ⟨F1, r1, st1, sub1, ok1, rep1, _, hp, b, e, q⟩ := h1
    refine ⟨b, tru_of sub1 rep1 e, ?_⟩
    cases b with
    | true => exact le_at A st1 sub1 ok1 q k
    | false => exact k v H1 ((VO.here sub1 ok1 rep1 hp q).at st1)⟩
theorem qe_or (ha : QE g X a ta κ1) (hb : QE g X (.BoolOp .Or (b :: rest) pos) tb κ2) : QE g X (.BoolOp .Or (a :: b :: rest) pos) (dOrV ta tb) (κ1 + κ2) :=
  ⟨fun tk Fe He E hT hx => (pe_orT (ha.pe tk Fe He E hT hx) (hb.pe tk Fe He E hT hx)).dimp fun σ H Q' h => by
    obtain ⟨F, α, Q, A, t, k⟩ := h
    refine ⟨F, α, _, A.w, t, fun v H1 h1 => ?_⟩
    obtain ⟨F1, r1, st1, sub1, ok1, rep1, _, hp, b, e, q⟩ := h1
    refine ⟨b, tru_of sub1 rep1 e, ?_⟩
    cases b with
    | true => exact k v H1 ((VO.here sub1 ok1 rep1 hp q).at st1)
    | false => exact le_at A st1 sub1 ok1 q k⟩
theorem qe_not (ha : QE g X a ta κ) : QE g X (.UnaryOp .Not a pos) (dNotV ta) κ :=
  ⟨fun tk Fe He E hT hx => (pe_notT (ha.pe tk Fe He E hT hx)).dimp fun σ H Q' h => by
    obtain ⟨F, α, Q, A, t, k⟩ := h
    refine ⟨F, α, _, A.w, t, fun v H1 h1 => ?_⟩
    obtain ⟨F1, r1, st1, sub1, ok1, rep1, _, b, e, q⟩ := h1
    exact ⟨b, tru_of sub1 rep1 e, k _ H1 ((VO.bl sub1 ok1 q).at st1)⟩⟩
def dIfE (tc : DT) (ta tb : DE) : DE := fun α Q E => tc α (fun c => if c = true then ta α Q E else tb α Q E) E
theorem qe_ifExp {c : Expr} {tc : DT} (hc : QT g X c tc κ1) (ha : QE g X a ta κ2) (hb : QE g X b tb κ3) : QE g X (.IfExp c a b pos) (dIfE tc ta tb) (κ1 + κ2 + κ3) :=
  ⟨fun tk Fe He E hT hx => (pe_ifExp (hc.pt tk Fe He E hT hx) (ha.pe tk Fe He E hT hx) (hb.pe tk Fe He E hT hx)).dimp fun σ H Q' h => by
    obtain ⟨F, α, Q, A, t, k⟩ := h
    refine ⟨F, α, _, A.w, t, fun c H1 F1 st1 sub1 ok1 q => ?_⟩
    cases c with
    | true => exact le_at A st1 sub1 ok1 q k
    | false => exact le_at A st1 sub1 ok1 q k⟩
end
end DL

set_option Elab.async false
set_option linter.all false
set_option maxRecDepth 100000
set_option maxHeartbeats 4000000
namespace DL
open PySem PySem.Spec L2

/-! ### the operators over data -/
def MulOk (i j : Int) : Prop := CMul i j ∨ CMulX i j
def DivOk (_ j : Int) : Prop := 0 < j ∧ j.natAbs.log2 < 9000
def fAdd : F2
  | .int i, .int j, Q => Q (.fr (.int (i + j)))
  | .str x, .str y, Q => x.length + y.length ≤ sizeLine ∧ Q (.fr (.str (x ++ y)))
  | .tup xs, .tup ys, Q => xs.length + ys.length ≤ sizeLine ∧ Q (.fr (.tup (xs ++ ys)))
  | .lst xs, .lst ys, Q => xs.length + ys.length ≤ sizeLine ∧ Q (.nw (.lst (xs ++ ys)))
  | _, _, _ => False
def fSub : F2
  | .int i, .int j, Q => Q (.fr (.int (i - j)))
  | _, _, _ => False
def fMul : F2
  | .int i, .int j, Q => MulOk i j ∧ Q (.fr (.int (i * j)))
  | .lst xs, .int j, Q => -(2 ^ 63) ≤ j ∧ j < 2 ^ 63 ∧ xs.length * j.toNat ≤ sizeLine ∧ Q (.nw (.lst (List.replicate j.toNat xs).flatten))
  | _, _, _ => False
def fDiv : F2
  | .int i, .int j, Q => DivOk i j ∧ Q (.fr (.int (i / j)))
  | _, _, _ => False
def fMod : F2
  | .int i, .int j, Q => 0 < j ∧ Q (.fr (.int (i % j)))
  | _, _, _ => False
/-- ** by a nonneg exponent: the result fits -/
def PowOk (i j : Int) : Prop := 0 ≤ j ∧ (Builtin.Int.intBits i : Int) * j ≤ 2 ^ 27
theorem op_powB {X : Cx} : OpR X (binaryOp .Pow) (rI PowOk fun i j => .int (i ^ j.toNat)) := opI fun _ _ _ _ _ _ _ hc q => PyProof.Rows.pow_int hc.1 hc.2 q
def fPow : F2
  | .int i, .int j, Q => PowOk i j ∧ Q (.fr (.int (i ^ j.toNat)))
  | _, _, _ => False
def fNeg : F1
  | .int i, Q => Q (.fr (.int (-i)))
  | _, _ => False
def fLt : F2
  | .int i, .int j, Q => Q (.fr (.bl (decide (i < j))))
  | _, _, _ => False
def fLe : F2
  | .int i, .int j, Q => Q (.fr (.bl (decide (i ≤ j))))
  | _, _, _ => False
def fGt : F2
  | .int i, .int j, Q => Q (.fr (.bl (decide (j < i))))
  | _, _, _ => False
def fGe : F2
  | .int i, .int j, Q => Q (.fr (.bl (decide (j ≤ i))))
  | _, _, _ => False
mutual
def D.py : D → PyData
  | .non => .none
  | .bl b => .bool b
  | .int i => .int i
  | .str x => .str x
  | .tup ds => .tuple (D.pys ds)
  | .lst ds => .list (D.pys ds)
  | _ => .none
def D.pys : List D → List PyData
  | [] => []
  | d :: ds => d.py :: D.pys ds
end
mutual
def D.isData : D → Bool
  | .non => true
  | .bl _ => true
  | .int _ => true
  | .str _ => true
  | .tup ds => D.areData ds
  | .lst ds => D.areData ds
  | _ => false
def D.areData : List D → Bool
  | [] => true
  | d :: ds => d.isData && D.areData ds
end
/-- data whose == is asked -/
def D.ok (d : D) : Prop := d.isData = true ∧ SeqAt.shaped d.py = true
def fEq : F2 := fun x y Q => x.ok ∧ y.ok ∧ Q (.fr (.bl (PyData.eqv x.py y.py)))
def fNe : F2 := fun x y Q => x.ok ∧ y.ok ∧ Q (.fr (.bl (!PyData.eqv x.py y.py)))
/-- is None -/
def D.isNon : D → Bool
  | .non => true
  | _ => false
def D.isRaw : D → Bool
  | .raw _ => true
  | .tok => true
  | _ => false
def fIsN : F2 := fun x y Q => x.isRaw = false ∧ y = .non ∧ Q (.fr (.bl x.isNon))
def fNotN : F2 := fun x y Q => x.isRaw = false ∧ y = .non ∧ Q (.fr (.bl (!x.isNon)))
def D.flat : D → Bool
  | .non => true
  | .bl _ => true
  | .int _ => true
  | .str _ => true
  | _ => false
/-- in a tuple of flat things, in a list of data -/
def fIn (neg : Bool) : F2
  | x, .tup ds, Q => x.flat = true ∧ ds.all D.flat = true ∧ Q (.fr (.bl (if neg then !(ds.any fun y => PyData.eqv y.py x.py) else ds.any fun y => PyData.eqv y.py x.py)))
  | x, .lst ds, Q => x.ok ∧ (D.lst ds).ok ∧ Q (.fr (.bl (if neg then !(ds.any fun y => PyData.eqv y.py x.py) else ds.any fun y => PyData.eqv y.py x.py)))
  | _, _, _ => False

section
variable {g : Gv} {K : PySem.W.Frag} {tk : Tk} {F : Gh} {H : Hp}
theorem RepS.any {s : S} {v : V} (h : RepS K g tk F H s v) (hm : (∀ ds, s.view ≠ .lst ds) ∧ (∀ ks ds, s.view ≠ .dic ks ds) ∧ s.view ≠ .tok ∧ ∀ c ns ds, s.view ≠ .ins c ns ds) : Rep K g F s.view v := RepS.fr_ h rfl hm
mutual
theorem Rep.dp (sub : Same F H) : ∀ {d : D} {v : V}, Rep K g F d v → d.isData = true → Dp K H v d.py
  | .non, v, h, _ => by rw [Rep.non_ h]; exact .non
  | .bl b, v, h, _ => by rw [Rep.bl_ h]; exact .bl b
  | .int b, v, h, _ => by rw [Rep.int_ h]; exact .int b
  | .str b, v, h, _ => by rw [Rep.str_ h]; exact .str b
  | .tup ds, v, h, e => by
    obtain ⟨a, vs, rfl, h2, h3⟩ := Rep.tup_ h
    unfold D.py
    unfold D.isData at e
    exact .tup (sqT_same sub h2) (Reps.dp sub h3 e)
  | .lst ds, v, h, e => by
    obtain ⟨a, vs, rfl, h2, h3⟩ := Rep.lst_ h
    unfold D.py
    unfold D.isData at e
    exact .lst (SqL.of (sub _ _ h2)) (Reps.dp sub h3 e)
  | .raw _, _, _, e => by unfold D.isData at e; cases e
  | .ins _ _ _, _, _, e => by unfold D.isData at e; cases e
  | .exc _ _ _, _, _, e => by unfold D.isData at e; cases e
  | .dic _ _, _, _, e => by unfold D.isData at e; cases e
  | .scr _, _, _, e => by unfold D.isData at e; cases e
  | .tok, _, _, e => by unfold D.isData at e; cases e
theorem Reps.dp (sub : Same F H) : ∀ {ds : List D} {vs : List V}, Reps K g F ds vs → D.areData ds = true → DpAll K H vs (D.pys ds)
  | [], vs, h, _ => by
    rw [h.inv_nil]
    unfold D.pys
    exact .nil
  | d :: ds, vs, h, e => by
    obtain ⟨v, r, rfl, q, t⟩ := h.inv_cons
    unfold D.areData at e
    obtain ⟨e1, e2⟩ := Bool.and_eq_true_iff.mp e
    unfold D.pys
    exact .cons (Rep.dp sub q e1) (Reps.dp sub t e2)
end
theorem RepS.dp {s : S} {v : V} (sub : Same F H) (h : RepS K g tk F H s v) (e : s.view.isData = true) : Dp K H v s.view.py := by
  cases q : s.view with
  | lst ds =>
    obtain ⟨a, vs, rfl, h2, h3⟩ := RepS.lst sub h q
    rw [q] at e
    unfold D.isData at e
    unfold D.py
    exact .lst (SqL.of h2) (Reps.dp sub h3 e)
  | dic ks ds =>
    rw [q] at e
    unfold D.isData at e
    cases e
  | tok =>
    rw [q] at e
    unfold D.isData at e
    cases e
  | ins _ _ _ =>
    rw [q] at e
    unfold D.isData at e
    cases e
  | _ =>
    rw [← q]
    refine Rep.dp sub (RepS.any h ⟨fun ds z => ?_, fun ks ds z => ?_, fun z => ?_, fun _ _ _ z => ?_⟩) e
    · rw [q] at z; cases z
    · rw [q] at z; cases z
    · rw [q] at z; cases z
    · rw [q] at z; cases z
end

section
variable {g : Gv} {X : Cx}
theorem rs_int {K : PySem.W.Frag} {r : R2} {f : F2} {C : Int → Int → Prop} {h : Int → Int → D} {hv : Int → Int → V}
    (hr : ∀ i j H Q, C i j → Q (hv i j) H → r (.int i) (.int j) H Q) (hd : ∀ F i j, Rep K g F (h i j) (hv i j)) (hf : ∀ x y Q, f x y Q → ∃ i j, x = .int i ∧ y = .int j ∧ C i j ∧ Q (.fr (h i j))) : OpS g K r f := by
  intro tk F H s1 s2 v w Q Q' hT sub ok r1 r2 q k
  obtain ⟨i, j, e1, e2, c, q⟩ := hf _ _ _ q
  rw [RepS.int r1 e1, RepS.int r2 e2]
  exact hr i j H Q' c (k _ H (VO.fr sub ok (hd F i j) q))
def rAdd (K : PySem.W.Frag) : R2 := fun x y H Q => (∃ i j, x = .int i ∧ y = .int j ∧ Q (.int (i + j)) H) ∨ (∃ i j, x = .str i ∧ y = .str j ∧ i.length + j.length ≤ sizeLine ∧ Q (.str (i ++ j)) H) ∨ rCatA K x y H Q ∨ rCat x y H Q
theorem or_add : OpR X (binaryOp .Add) (rAdd X.K) := OpR.or op_add (OpR.or op_add_str (OpR.or op_catA op_cat))
theorem os_add {K : PySem.W.Frag} : OpS g K (rAdd K) fAdd := by
  intro tk F H s1 s2 v w Q Q' hT sub ok r1 r2 q k
  cases e1 : s1.view with
  | int i =>
    cases e2 : s2.view with
    | int j =>
      rw [e1, e2] at q
      rw [RepS.int r1 e1, RepS.int r2 e2]
      exact .inl ⟨i, j, rfl, rfl, k _ H (VO.int sub ok q)⟩
    | _ => rw [e1, e2] at q; exact q.elim
  | str i =>
    cases e2 : s2.view with
    | str j =>
      rw [e1, e2] at q
      rw [RepS.str r1 e1, RepS.str r2 e2]
      exact .inr (.inl ⟨i, j, rfl, rfl, q.1, k _ H (VO.str sub ok q.2)⟩)
    | _ => rw [e1, e2] at q; exact q.elim
  | tup xs =>
    cases e2 : s2.view with
    | tup ys =>
      rw [e1, e2] at q
      obtain ⟨a, vs, rfl, h2, h3⟩ := RepS.tup sub r1 e1
      obtain ⟨b, ws, rfl, h4, h5⟩ := RepS.tup sub r2 e2
      have l1 := h3.length
      have l2 := h5.length
      obtain ⟨q1, q2⟩ : xs.length + ys.length ≤ sizeLine ∧ Q (.fr (.tup (xs ++ ys))) := q
      refine .inr (.inr (.inl ⟨a, b, vs, ws, rfl, rfl, h2, h4, by omega, fun z => ?_, fun z1 z2 => ?_, fun _ _ p hp => ?_⟩))
      · subst z
        have zx : xs = [] := by
          cases xs with
          | nil => rfl
          | cons _ _ => simp at l1
        subst zx
        exact k _ H (VO.here (r := .fr (.tup ys)) sub ok (by
          have z := RepS.fr_ r2 e2 ⟨fun _ z => (nomatch z), fun _ _ z => (nomatch z), fun z => (nomatch z), fun _ _ _ z => (nomatch z)⟩
          exact z) rfl q2)
      · subst z2
        have zy : ys = [] := by
          cases ys with
          | nil => rfl
          | cons _ _ => simp at l2
        subst zy
        rw [List.append_nil] at q2
        exact k _ H (VO.here (r := .fr (.tup xs)) sub ok (by
          have z := RepS.fr_ r1 e1 ⟨fun _ z => (nomatch z), fun _ _ z => (nomatch z), fun z => (nomatch z), fun _ _ _ z => (nomatch z)⟩
          exact z) rfl q2)
      · have f3 := RepS.fr_ r1 e1 ⟨fun _ z => (nomatch z), fun _ _ z => (nomatch z), fun z => (nomatch z), fun _ _ _ z => (nomatch z)⟩
        obtain ⟨a', vs', ea, _, _⟩ := Rep.tup_ f3
        exact k _ _ (VO.tup sub ok hp (h3.append h5) q2)
    | _ => rw [e1, e2] at q; exact q.elim
  | lst xs =>
    cases e2 : s2.view with
    | lst ys =>
      rw [e1, e2] at q
      obtain ⟨a, vs, rfl, h2, h3⟩ := RepS.lst sub r1 e1
      obtain ⟨b, ws, rfl, h4, h5⟩ := RepS.lst sub r2 e2
      have l1 := h3.length
      have l2 := h5.length
      obtain ⟨q1, q2⟩ : xs.length + ys.length ≤ sizeLine ∧ Q (.nw (.lst (xs ++ ys))) := q
      exact .inr (.inr (.inr ⟨a, b, vs, ws, rfl, rfl, h2, h4, by omega, fun p hp => k _ _ (VO.lst sub ok hp (h3.append h5) q2)⟩))
    | _ => rw [e1, e2] at q; exact q.elim
  | _ => rw [e1] at q; cases e2 : s2.view <;> rw [e2] at q <;> exact q.elim
theorem reps_rep {K : PySem.W.Frag} {F : Gh} {ds : List D} {vs : List V} (h : Reps K g F ds vs) : ∀ n : Nat, Reps K g F (List.replicate n ds).flatten (List.replicate n vs).flatten
  | 0 => .nil
  | n + 1 => by
    rw [List.replicate_succ, List.replicate_succ, List.flatten_cons, List.flatten_cons]
    exact h.append (reps_rep h n)
theorem os_sub {K : PySem.W.Frag} : OpS g K (rI0 fun i j => .int (i - j)) fSub := rs_int (C := fun _ _ => True) (h := fun i j => .int (i - j)) (hv := fun i j => .int (i - j)) (fun i j H Q _ q => ⟨i, j, rfl, rfl, q⟩) (fun _ _ _ => Rep.int _) fun x y Q q => by
  cases x <;> cases y <;> first | exact ⟨_, _, rfl, rfl, trivial, q⟩ | exact q.elim
def rMulA : R2 := fun x y H Q => rI CMul (fun i j => .int (i * j)) x y H Q ∨ rI CMulX (fun i j => .int (i * j)) x y H Q ∨ rRep x y H Q
theorem or_mul : OpR X (binaryOp .Mult) rMulA := OpR.or op_mul (OpR.or op_mulX op_rep)
theorem os_mul {K : PySem.W.Frag} : OpS g K rMulA fMul := by
  intro tk F H s1 s2 v w Q Q' hT sub ok r1 r2 q k
  cases e1 : s1.view with
  | int i =>
    cases e2 : s2.view with
    | int j =>
      rw [e1, e2] at q
      obtain ⟨q1, q2⟩ : MulOk i j ∧ Q (.fr (.int (i * j))) := q
      rw [RepS.int r1 e1, RepS.int r2 e2]
      rcases q1 with c | c
      · exact .inl ⟨i, j, rfl, rfl, c, k _ H (VO.int sub ok q2)⟩
      · exact .inr (.inl ⟨i, j, rfl, rfl, c, k _ H (VO.int sub ok q2)⟩)
    | _ => rw [e1, e2] at q; exact q.elim
  | lst xs =>
    cases e2 : s2.view with
    | int j =>
      rw [e1, e2] at q
      obtain ⟨q1, q2, q3, q4⟩ : -(2 ^ 63) ≤ j ∧ j < 2 ^ 63 ∧ xs.length * j.toNat ≤ sizeLine ∧ Q (.nw (.lst (List.replicate j.toNat xs).flatten)) := q
      obtain ⟨a, vs, rfl, h2, h3⟩ := RepS.lst sub r1 e1
      rw [RepS.int r2 e2]
      have l1 := h3.length
      exact .inr (.inr ⟨a, j, vs, rfl, rfl, h2, q1, q2, by rw [l1]; exact q3, fun p hp => k _ _ (VO.lst sub ok hp (reps_rep h3 _) q4)⟩)
    | _ => rw [e1, e2] at q; exact q.elim
  | _ => rw [e1] at q; cases e2 : s2.view <;> rw [e2] at q <;> exact q.elim
theorem os_div {K : PySem.W.Frag} : OpS g K (rI CDivW fun i j => .int (i / j)) fDiv := rs_int (C := DivOk) (h := fun i j => .int (i / j)) (hv := fun i j => .int (i / j)) (fun i j H Q c q => ⟨i, j, rfl, rfl, c, q⟩) (fun _ _ _ => Rep.int _) fun x y Q q => by
  cases x <;> cases y <;> first | exact ⟨_, _, rfl, rfl, q.1, q.2⟩ | exact q.elim
theorem os_mod {K : PySem.W.Frag} : OpS g K (rI (fun _ j => 0 < j) fun i j => .int (i % j)) fMod := rs_int (C := fun _ j => 0 < j) (h := fun i j => .int (i % j)) (hv := fun i j => .int (i % j)) (fun i j H Q c q => ⟨i, j, rfl, rfl, c, q⟩) (fun _ _ _ => Rep.int _) fun x y Q q => by
  cases x <;> cases y <;> first | exact ⟨_, _, rfl, rfl, q.1, q.2⟩ | exact q.elim
theorem os_pow {K : PySem.W.Frag} : OpS g K (rI PowOk fun i j => .int (i ^ j.toNat)) fPow := rs_int (C := PowOk) (h := fun i j => .int (i ^ j.toNat)) (hv := fun i j => .int (i ^ j.toNat)) (fun i j H Q c q => ⟨i, j, rfl, rfl, c, q⟩) (fun _ _ _ => Rep.int _) fun x y Q q => by
  cases x <;> cases y <;> first | exact ⟨_, _, rfl, rfl, q.1, q.2⟩ | exact q.elim
theorem us_neg {K : PySem.W.Frag} : UnS g K (rU fun i => .int (-i)) fNeg := by
  intro tk F H s v Q Q' hT sub ok r1 q k
  cases e : s.view with
  | int i =>
    rw [e] at q
    rw [RepS.int r1 e]
    exact ⟨i, rfl, k _ H (VO.int sub ok q)⟩
  | _ => rw [e] at q; exact q.elim
theorem os_lt {K : PySem.W.Frag} : OpS g K (rI0 fun i j => .bl (decide (i < j))) fLt := rs_int (C := fun _ _ => True) (h := fun i j => .bl (decide (i < j))) (hv := fun i j => .bl (decide (i < j))) (fun i j H Q _ q => ⟨i, j, rfl, rfl, q⟩) (fun _ _ _ => Rep.bl _) fun x y Q q => by
  cases x <;> cases y <;> first | exact ⟨_, _, rfl, rfl, trivial, q⟩ | exact q.elim
theorem os_le {K : PySem.W.Frag} : OpS g K (rI0 fun i j => .bl (decide (i ≤ j))) fLe := rs_int (C := fun _ _ => True) (h := fun i j => .bl (decide (i ≤ j))) (hv := fun i j => .bl (decide (i ≤ j))) (fun i j H Q _ q => ⟨i, j, rfl, rfl, q⟩) (fun _ _ _ => Rep.bl _) fun x y Q q => by
  cases x <;> cases y <;> first | exact ⟨_, _, rfl, rfl, trivial, q⟩ | exact q.elim
theorem os_gt {K : PySem.W.Frag} : OpS g K (rI0 fun i j => .bl (decide (j < i))) fGt := rs_int (C := fun _ _ => True) (h := fun i j => .bl (decide (j < i))) (hv := fun i j => .bl (decide (j < i))) (fun i j H Q _ q => ⟨i, j, rfl, rfl, q⟩) (fun _ _ _ => Rep.bl _) fun x y Q q => by
  cases x <;> cases y <;> first | exact ⟨_, _, rfl, rfl, trivial, q⟩ | exact q.elim
theorem os_ge {K : PySem.W.Frag} : OpS g K (rI0 fun i j => .bl (decide (j ≤ i))) fGe := rs_int (C := fun _ _ => True) (h := fun i j => .bl (decide (j ≤ i))) (hv := fun i j => .bl (decide (j ≤ i))) (fun i j H Q _ q => ⟨i, j, rfl, rfl, q⟩) (fun _ _ _ => Rep.bl _) fun x y Q q => by
  cases x <;> cases y <;> first | exact ⟨_, _, rfl, rfl, trivial, q⟩ | exact q.elim
/-! == over data, is None, in -/
theorem os_eq {K : PySem.W.Frag} : OpS g K (rEqD K) fEq := by
  intro tk F H s1 s2 v w Q Q' hT sub ok r1 r2 q k
  obtain ⟨a, b, q⟩ := q
  exact ⟨_, _, RepS.dp sub r1 a.1, RepS.dp sub r2 b.1, a.2, b.2, k _ H (VO.bl sub ok q)⟩
theorem os_ne {K : PySem.W.Frag} : OpS g K (rNeD K) fNe := by
  intro tk F H s1 s2 v w Q Q' hT sub ok r1 r2 q k
  obtain ⟨a, b, q⟩ := q
  exact ⟨_, _, RepS.dp sub r1 a.1, RepS.dp sub r2 b.1, a.2, b.2, k _ H (VO.bl sub ok q)⟩
theorem rep_non {K : PySem.W.Frag} {F : Gh} {d : D} {v : V} (h : Rep K g F d v) (hr : ∀ w, d ≠ .raw w) : decide (v = .non) = d.isNon := by
  cases d with
  | non => rw [Rep.non_ h]; rfl
  | bl b => rw [Rep.bl_ h]; rfl
  | int b => rw [Rep.int_ h]; rfl
  | str b => rw [Rep.str_ h]; rfl
  | tup ds => obtain ⟨a, vs, rfl, _⟩ := Rep.tup_ h; rfl
  | lst ds => obtain ⟨a, vs, rfl, _⟩ := Rep.lst_ h; rfl
  | raw w => exact absurd rfl (hr w)
  | ins c ns ds => unfold Rep at h; obtain ⟨a, dx, vs, rfl, _⟩ := h; rfl
  | exc c ns ds => unfold Rep at h; obtain ⟨a, dx, vs, rfl, _⟩ := h; rfl
  | dic ks ds => unfold Rep at h; obtain ⟨a, vs, rfl, _⟩ := h; rfl
  | scr ns => unfold Rep at h; obtain ⟨a, rfl, _⟩ := h; rfl
  | tok => unfold Rep at h; exact h.elim
theorem repS_non {K : PySem.W.Frag} {tk : Tk} {F : Gh} {H : Hp} {s : S} {v : V} (h : RepS K g tk F H s v) (hr : s.view.isRaw = false) : decide (v = .non) = s.view.isNon := by
  cases s with
  | fr d => exact rep_non h fun w z => by (have z' : d = .raw w := z; subst z'; cases hr)
  | nw d =>
    obtain ⟨p, rfl, _, _, o⟩ := h
    cases d with
    | lst ds => rfl
    | dic ks ds => rfl
    | ins c ns ds => rfl
    | _ => exact o.elim
  | bw d =>
    obtain ⟨p, rfl, _, _, o⟩ := h
    cases d with
    | lst ds => rfl
    | dic ks ds => rfl
    | ins c ns ds => rfl
    | _ => exact o.elim
  | tk => cases hr
theorem os_isN {K : PySem.W.Frag} : OpS g K (fun x y H Q => y = .non ∧ Q (.bl (decide (x = .non))) H) fIsN := by
  intro tk F H s1 s2 v w Q Q' hT sub ok r1 r2 q k
  obtain ⟨hr, a, q⟩ := q
  have e2 : w = .non := Rep.non_ (K := K) (g := g) (F := F) (RepS.fr_ r2 a ⟨fun _ z => (nomatch z), fun _ _ z => (nomatch z), fun z => (nomatch z), fun _ _ _ z => (nomatch z)⟩)
  refine ⟨e2, ?_⟩
  rw [repS_non r1 hr]
  exact k _ H (VO.bl sub ok q)
theorem os_notN {K : PySem.W.Frag} : OpS g K (fun x y H Q => y = .non ∧ Q (.bl (!decide (x = .non))) H) fNotN := by
  intro tk F H s1 s2 v w Q Q' hT sub ok r1 r2 q k
  obtain ⟨hr, a, q⟩ := q
  have e2 : w = .non := Rep.non_ (K := K) (g := g) (F := F) (RepS.fr_ r2 a ⟨fun _ z => (nomatch z), fun _ _ z => (nomatch z), fun z => (nomatch z), fun _ _ _ z => (nomatch z)⟩)
  refine ⟨e2, ?_⟩
  rw [repS_non r1 hr]
  exact k _ H (VO.bl sub ok q)
theorem flat_of {K : PySem.W.Frag} {F : Gh} {d : D} {v : V} (h : Rep K g F d v) (e : d.flat = true) : flatV v = true := by
  cases d with
  | non => rw [Rep.non_ h]; rfl
  | bl b => rw [Rep.bl_ h]; rfl
  | int b => rw [Rep.int_ h]; rfl
  | str b => rw [Rep.str_ h]; rfl
  | _ => cases e
theorem flats_of {K : PySem.W.Frag} {F : Gh} : ∀ {ds : List D} {vs : List V}, Reps K g F ds vs → ds.all D.flat = true → vs.all flatV = true
  | [], vs, h, _ => by rw [h.inv_nil]; rfl
  | d :: ds, vs, h, e => by
    obtain ⟨v, r, rfl, q, t⟩ := h.inv_cons
    obtain ⟨e1, e2⟩ := Bool.and_eq_true_iff.mp (show (d.flat && ds.all D.flat) = true from e)
    show (flatV v && r.all flatV) = true
    rw [flat_of q e1, flats_of t e2]
    rfl
end
end DL

set_option Elab.async false
set_option linter.all false
set_option maxRecDepth 100000
set_option maxHeartbeats 4000000
namespace DL
open PySem PySem.Spec L2

/-! ### in -/
section
variable {g : Gv} {X : Cx} {K : PySem.W.Frag} {tk : Tk} {F : Gh} {H : Hp}
theorem eqV_py {d e : D} {v w : V} (h : Rep K g F d v) (k : Rep K g F e w) (hd : d.flat = true) (he : e.flat = true) : eqV v w = PyData.eqv d.py e.py := by
  cases d with
  | non =>
    rw [Rep.non_ h]
    cases e with
    | non => rw [Rep.non_ k]; rfl
    | bl b => rw [Rep.bl_ k]; rfl
    | int b => rw [Rep.int_ k]; rfl
    | str b => rw [Rep.str_ k]; rfl
    | _ => cases he
  | bl b =>
    rw [Rep.bl_ h]
    cases e with
    | non => rw [Rep.non_ k]; rfl
    | bl b => rw [Rep.bl_ k]; simp [eqV, D.py, PyData.eqv]
    | int b => rw [Rep.int_ k]; simp [eqV, D.py, PyData.eqv]
    | str b => rw [Rep.str_ k]; rfl
    | _ => cases he
  | int b =>
    rw [Rep.int_ h]
    cases e with
    | non => rw [Rep.non_ k]; rfl
    | bl b => rw [Rep.bl_ k]; simp [eqV, D.py, PyData.eqv]
    | int b => rw [Rep.int_ k]; simp [eqV, D.py, PyData.eqv]
    | str b => rw [Rep.str_ k]; rfl
    | _ => cases he
  | str b =>
    rw [Rep.str_ h]
    cases e with
    | non => rw [Rep.non_ k]; rfl
    | bl b => rw [Rep.bl_ k]; rfl
    | int b => rw [Rep.int_ k]; rfl
    | str b => rw [Rep.str_ k]; simp [eqV, D.py, PyData.eqv]
    | _ => cases he
  | _ => cases hd
theorem inV_py {e : D} {w : V} (k : Rep K g F e w) (he : e.flat = true) : ∀ {ds : List D} {vs : List V}, Reps K g F ds vs → ds.all D.flat = true → inV w vs = ds.any fun y => PyData.eqv y.py e.py
  | [], vs, h, _ => by rw [h.inv_nil]; rfl
  | d :: ds, vs, h, hf => by
    obtain ⟨v, r, rfl, q, t⟩ := h.inv_cons
    obtain ⟨e1, e2⟩ := Bool.and_eq_true_iff.mp (show (d.flat && ds.all D.flat) = true from hf)
    have ih := inV_py k he t e2
    unfold inV at ih ⊢
    rw [List.any_cons, List.any_cons, ih, eqV_py q k e1 he]
theorem pys_any (e : PyData) : ∀ ds : List D, ((D.pys ds).any fun z => PyData.eqv z e) = ds.any fun y => PyData.eqv y.py e
  | [] => rfl
  | d :: ds => by
    unfold D.pys
    rw [List.any_cons, List.any_cons, pys_any e ds]
def rInA (K : PySem.W.Frag) (neg : Bool) : R2 := fun x y H Q => rIn K neg x y H Q ∨ (if neg then rNotInD K else rInD K) x y H Q
theorem or_in (hu : X.A.units + 65 < cLine) : OpR X (compareOp .In) (rInA X.K false) := OpR.or op_in_seq (op_inD hu)
theorem or_notIn (hu : X.A.units + 65 < cLine) : OpR X (compareOp .NotIn) (rInA X.K true) := OpR.or op_notIn_seq (op_notInD hu)
theorem os_in (neg : Bool) : OpS g K (rInA K neg) (fIn neg) := by
  intro tk F H s1 s2 v w Q Q' hT sub ok r1 r2 q k
  cases e2 : s2.view with
  | tup ds =>
    rw [e2] at q
    unfold fIn at q
    obtain ⟨q1, q2, q3⟩ := q
    obtain ⟨a, vs, rfl, h2, h3⟩ := RepS.tup sub r2 e2
    have rx : Rep K g F s1.view v := RepS.any r1 ⟨fun ds z => by (rw [z] at q1; cases q1), fun ks ds z => by (rw [z] at q1; cases q1), fun z => by (rw [z] at q1; cases q1), fun _ _ _ z => by (rw [z] at q1; cases q1)⟩
    have e := inV_py rx q1 h3 q2
    refine .inl ⟨a, vs, rfl, .inr h2, flat_of rx q1, flats_of h3 q2, k _ H (VO.bl sub ok ?_)⟩
    rw [e]
    exact q3
  | lst ds =>
    rw [e2] at q
    unfold fIn at q
    obtain ⟨q1, q2, q3⟩ := q
    have d1 := RepS.dp sub r1 q1.1
    have d2 : Dp K H w (.list (D.pys ds)) := by
      have z := RepS.dp sub r2 (by rw [e2]; exact q2.1)
      rw [e2] at z
      unfold D.py at z
      exact z
    have s2' : SeqAt.shaped (.list (D.pys ds)) = true := by
      have z := q2.2
      unfold D.py at z
      exact z
    refine .inr ?_
    cases neg with
    | true =>
      refine ⟨_, _, d1, d2, q1.2, s2', k _ H (VO.bl sub ok ?_)⟩
      rw [pys_any]
      exact q3
    | false =>
      refine ⟨_, _, d1, d2, q1.2, s2', k _ H (VO.bl sub ok ?_)⟩
      rw [pys_any]
      exact q3
  | _ => rw [e2] at q; unfold fIn at q; exact q.elim
end

/-! ### new things stand still where they are handed on -/
def S.fz : S → S
  | .nw d => .fr d
  | s => s
theorem VO.fz {K : PySem.W.Frag} {g : Gv} {tk : Tk} {F : Gh} {H : Hp} {Q : S → Prop} {v : V} {H' : Hp} (h : VO K g tk κ F H Q v H') :
    ∃ F' r, Step tk κ F H F' H' ∧ Same F' H' ∧ tk.ok F' H' ∧ RepS K g tk F' H' r.fz v ∧ Q r := by
  obtain ⟨F', r, st, sub, ok, rep, fr, q⟩ := h
  cases r with
  | nw d =>
    obtain ⟨p, rfl, hF, hn, ho⟩ := rep
    have hp := fr d p rfl rfl
    obtain ⟨o, e, nt, rp⟩ := ho.rep hF
    refine ⟨F'.up p o, .nw d, ⟨st.fr.trans (Step.freeze hF), fun a u e1 e2 => ?_, st.kp, st.ad, st.tm⟩, same_upd sub e, ?_, rp, q⟩
    · by_cases z : a = p
      · rw [z]
        exact hp
      · rw [up_ne z] at e1
        exact st.nw a u e1 e2
    · refine tk.st _ _ _ _ ok (Step.freeze hF) (Nat.le_refl _) (fun a u e1 _ => e1) (fun a ha => ?_) fun a u e1 n => ?_
      · have z : a ≠ p := fun z => hn (by rw [← z]; exact ha)
        rw [up_ne z]
        exact (tk.fr _ _ ok a ha).1
      · by_cases h : a = p
        · subst h
          rw [up_same] at e1
          cases e1
          exact nt
        · rw [up_ne h, n] at e1
          cases e1
  | fr d => exact ⟨F', .fr d, st, sub, ok, rep, q⟩
  | bw d => exact ⟨F', .bw d, st, sub, ok, rep, q⟩
  | tk => exact ⟨F', .tk, st, sub, ok, rep, q⟩

/-! ### arguments -/
def dNil : DA := fun _ Q _ => Q []
def dCons (t : DE) (u : DA) : DA := fun α Q E => t α (fun x => u α (fun xs => Q (x.fz :: xs)) E) E
section
variable {g : Gv} {X : Cx} {e : Expr} {es : List Expr} {t : DE} {u : DA} {pos : Pos}
theorem qa_nil : QA g X [] dNil 0 := ⟨fun tk Fe He E hT hx => pa_nil.dimp fun σ H Q' h => by
  obtain ⟨F, α, Q, A, q, k⟩ := h
  exact k [] H F [] (Step.refl _ _ _) A.sub A.ok rfl q⟩
theorem qa_cons (ha : QE g X e t κ1) (hr : QA g X es u κ2) (hs : starEach (e :: es) X.env = (false, eval e X.env) :: starEach es X.env := by rfl) : QA g X (e :: es) (dCons t u) (κ1 + κ2) :=
  ⟨fun tk Fe He E hT hx => (pa_cons (ha.pe tk Fe He E hT hx) (hr.pa tk Fe He E hT hx) hs).dimp fun σ H Q' h => by
    obtain ⟨F, α, Q, A, q, k⟩ := h
    refine ⟨F, α, _, A.w, q, fun v H1 h1 => ?_⟩
    obtain ⟨F1, r, st1, sub1, ok1, rep1, q1⟩ := h1.fz
    refine ⟨F1, α, _, A.step st1 sub1 ok1, q1, fun vs H2 F2 ss st2 sub2 ok2 reps q2 => ?_⟩
    exact k (v :: vs) H2 F2 (r.fz :: ss) (st1.trans st2) sub2 ok2 ⟨v, vs, rfl, rep1.step st2, reps⟩ q2⟩
theorem RepSs.frs {K : PySem.W.Frag} {tk : Tk} {F : Gh} {H : Hp} : ∀ {ds : List D} {vs : List V}, RepSs K g tk F H (ds.map S.fr) vs → Reps K g F ds vs
  | [], vs, h => by (have e : vs = [] := h); rw [e]; exact .nil
  | d :: ds, vs, h => by
    obtain ⟨v, r, rfl, q, t⟩ := h
    exact .cons q (RepSs.frs t)
/-- (a, b, ..), [a, b, ..] -/
def dTupE (u : DA) : DE := fun α Q E => u α (fun ss => ∃ ds, ss = ds.map S.fr ∧ ds.length ≤ sizeLine ∧ Q (.fr (.tup ds))) E
def dLstE (u : DA) : DE := fun α Q E => u α (fun ss => ∃ ds, ss = ds.map S.fr ∧ ds.length ≤ sizeLine ∧ Q (.nw (.lst ds))) E
theorem qe_tup {x1} (h : QA g X es u κ) : QE g X (.Tuple es x1 pos) (dTupE u) κ :=
  ⟨fun tk Fe He E hT hx => (pe_tup (h.pa tk Fe He E hT hx)).dimp fun σ H Q' h => by
    obtain ⟨F, α, Q, A, q, k⟩ := h
    refine ⟨F, α, _, A.w, q, fun vs H1 F1 ss st1 sub1 ok1 reps q1 => ?_⟩
    obtain ⟨ds, rfl, hl, q1⟩ := q1
    have r := reps.frs
    exact ⟨by rw [r.length]; exact hl, fun p hp => k _ _ ((VO.tup sub1 ok1 hp r q1).at st1)⟩⟩
theorem qe_lst (h : QA g X es u κ) : QE g X (.List es pos) (dLstE u) κ :=
  ⟨fun tk Fe He E hT hx => (pe_lst (h.pa tk Fe He E hT hx)).dimp fun σ H Q' h => by
    obtain ⟨F, α, Q, A, q, k⟩ := h
    refine ⟨F, α, _, A.w, q, fun vs H1 F1 ss st1 sub1 ok1 reps q1 => ?_⟩
    obtain ⟨ds, rfl, hl, q1⟩ := q1
    have r := reps.frs
    exact ⟨by rw [r.length]; exact hl, fun p hp => k _ _ ((VO.lst sub1 ok1 hp r q1).at st1)⟩⟩
end

/-! ### subscripts, slices -/
def fIx : F2
  | .tup ds, .int i, Q => ∃ d, atI ds i = some d ∧ Q (.fr d)
  | .lst ds, .int i, Q => ∃ d, atI ds i = some d ∧ Q (.fr d)
  | _, _, _ => False
section
variable {g : Gv} {X : Cx} {K : PySem.W.Frag} {tk : Tk} {F : Gh} {H : Hp}
theorem atI_reps {ds : List D} {vs : List V} {i : Int} {d : D} (h : Reps K g F ds vs) (e : atI ds i = some d) : ∃ v, atI vs i = some v ∧ Rep K g F d v := by
  unfold atI at e ⊢
  rw [h.length]
  cases q : ixN ds.length i with
  | none => rw [q] at e; cases e
  | some j =>
    rw [q] at e
    exact h.get (show ds[j]? = some d from e)
def rIx2 (K : PySem.W.Frag) : R2 := fun x y H Q => rIxL K x y H Q ∨ rIxT K x y H Q
theorem os_ix : OpS g K (rIx2 K) fIx := by
  intro tk F H s1 s2 v w Q Q' hT sub ok r1 r2 q k
  cases e1 : s1.view with
  | tup ds =>
    cases e2 : s2.view with
    | int i =>
      rw [e1, e2] at q
      obtain ⟨d, e, q⟩ := q
      obtain ⟨a, vs, rfl, h2, h3⟩ := RepS.tup sub r1 e1
      obtain ⟨u, e3, rp⟩ := atI_reps h3 e
      rw [RepS.int r2 e2]
      exact .inr ⟨a, vs, i, u, rfl, rfl, h2, e3, k _ H (VO.fr sub ok rp q)⟩
    | _ => rw [e1, e2] at q; exact q.elim
  | lst ds =>
    cases e2 : s2.view with
    | int i =>
      rw [e1, e2] at q
      obtain ⟨d, e, q⟩ := q
      obtain ⟨a, vs, rfl, h2, h3⟩ := RepS.lst sub r1 e1
      obtain ⟨u, e3, rp⟩ := atI_reps h3 e
      rw [RepS.int r2 e2]
      exact .inl ⟨a, vs, i, u, rfl, rfl, SqL.of h2, e3, k _ H (VO.fr sub ok rp q)⟩
    | _ => rw [e1, e2] at q; exact q.elim
  | _ => rw [e1] at q; cases e2 : s2.view <;> rw [e2] at q <;> exact q.elim
theorem qe_ix {a b : Expr} {ta tb : DE} {pos : Pos} (ha : QE g X a ta κ1) (hb : QE g X b tb κ2) (hs : PlainIx b) : QE g X (.Subscript a b pos) (dBin fIx ta tb) (κ1 + κ2) :=
  ⟨fun tk Fe He E hT hx => (pe_ix (ix_list.or ix_tup) (ha.pe tk Fe He E hT hx) (hb.pe tk Fe He E hT hx) hs).dimp fun σ H Q' h => bin_red hT os_ix h⟩
/-- parts of slices -/
abbrev DO := AE → (Option Int → Prop) → (XD → Prop) → Prop
def LO (K : PySem.W.Frag) (g : Gv) (tk : Tk) (κ : Nat) (Fe : Gh) (He : Hp) (E : XD → Prop) (t : DO) : TO := fun σ H Q' =>
  ∃ F α Q, Ab K g tk κ Fe He F H α σ ∧ t α Q E ∧ ∀ o H' F', Step tk κ F H F' H' → Same F' H' → tk.ok F' H' → Q o → Q' o H'
structure QO (g : Gv) (X : Cx) (e : Option Expr) (t : DO) (κ : Nat) : Prop where
  po : ∀ (tk : Tk) (Fe : Gh) (He : Hp) (E : XD → Prop), g.T tk → Takes X (WD X.K g tk Fe He E) → PO X e (LO X.K g tk κ Fe He E t)
theorem _root_.L2.PO.dimp {X : Cx} {e : Option Expr} {t t' : TO} (h : PO X e t) (k : ∀ σ H Q, t' σ H Q → t σ H Q) : PO X e t' := ⟨fun pins s σ H Q I q => h.run pins s σ H Q I (k σ H Q q)⟩
def dNoPart : DO := fun _ Q _ => Q none
def dPart (t : DE) : DO := fun α Q E => t α (fun x => ∃ i, x.view = .int i ∧ Q (some i)) E
theorem qo_none : QO g X none dNoPart 0 := ⟨fun tk Fe He E hT hx => po_none.dimp fun σ H Q' h => by
  obtain ⟨F, α, Q, A, q, k⟩ := h
  exact k none H F (Step.refl _ _ _) A.sub A.ok q⟩
theorem qo_some {e : Expr} {t : DE} (he : QE g X e t κ) : QO g X (some e) (dPart t) κ := ⟨fun tk Fe He E hT hx => (po_some (he.pe tk Fe He E hT hx)).dimp fun σ H Q' h => by
  obtain ⟨F, α, Q, A, q, k⟩ := h
  refine ⟨F, α, _, A.w, q, fun v H1 h1 => ?_⟩
  obtain ⟨F1, r, st1, sub1, ok1, rep1, _, i, e, q1⟩ := h1
  exact ⟨i, RepS.int rep1 e, k _ H1 F1 st1 sub1 ok1 q1⟩⟩
def cutD (ds : List D) (lo hi : Option Int) : List D := (ds.drop (HT.sIx ds.length 0 lo)).take (HT.sIx ds.length ds.length hi - HT.sIx ds.length 0 lo)
theorem cut_reps {ds : List D} {vs : List V} (lo hi : Option Int) (h : Reps K g F ds vs) : Reps K g F (cutD ds lo hi) (cutV vs lo hi) := by
  unfold cutD cutV
  rw [h.length]
  exact (h.drop _).take _
def fSl : D → Option Int → Option Int → (S → Prop) → Prop
  | .tup ds, lo, hi, Q => Q (.fr (.tup (cutD ds lo hi)))
  | .lst ds, lo, hi, Q => Q (.nw (.lst (cutD ds lo hi)))
  | _, _, _, _ => False
def dSl (t : DE) (l h : DO) : DE := fun α Q E => t α (fun x => l α (fun lo => h α (fun hi => fSl x.view lo hi Q) E) E) E
theorem qe_slice {e : Expr} {lo hi : Option Expr} {t : DE} {l h : DO} {p2 pos : Pos} (he : QE g X e t κ1) (hl : QO g X lo l κ2) (hh : QO g X hi h κ3) : QE g X (.Subscript e (.Slice lo hi none p2) pos) (dSl t l h) (κ1 + κ2 + κ3) :=
  ⟨fun tk Fe He E hT hx => (pe_slice (sl_list.or sl_tupA) (he.pe tk Fe He E hT hx) (hl.po tk Fe He E hT hx) (hh.po tk Fe He E hT hx)).dimp fun σ H Q' h => by
    obtain ⟨F, α, Q, A, q, k⟩ := h
    refine ⟨F, α, _, A.w, q, fun v H1 h1 => ?_⟩
    obtain ⟨F1, r, st1, sub1, ok1, rep1, _, q1⟩ := h1
    refine ⟨F1, α, _, A.step st1 sub1 ok1, q1, fun lo H2 F2 st2 sub2 ok2 q2 => ?_⟩
    refine ⟨F2, α, _, A.step (st1.trans st2) sub2 ok2, q2, fun hi H3 F3 st3 sub3 ok3 q3 => ?_⟩
    have st := (st1.trans st2).trans st3
    have rp := (rep1.step st2).step st3
    cases e1 : r.view with
    | tup ds =>
      rw [e1] at q3
      obtain ⟨a, vs, rfl, h2, h3⟩ := RepS.tup sub3 rp e1
      have l1 := h3.length
      refine .inr ⟨a, vs, rfl, h2, fun z => ?_, fun _ p hp => k _ _ ((VO.tup sub3 ok3 hp (cut_reps lo hi h3) q3).at st)⟩
      have e : cutD ds lo hi = ds := by
        unfold cutD
        rw [← l1, z.1, z.2, Nat.sub_zero, List.drop_zero, l1, List.take_length]
      have q3' : Q (.fr (.tup (cutD ds lo hi))) := q3
      rw [e] at q3'
      exact k _ _ ((VO.here (r := .fr (.tup ds)) sub3 ok3 (RepS.fr_ rp e1 ⟨fun _ z => (nomatch z), fun _ _ z => (nomatch z), fun z => (nomatch z), fun _ _ _ z => (nomatch z)⟩) rfl q3').at st)
    | lst ds =>
      rw [e1] at q3
      obtain ⟨a, vs, rfl, h2, h3⟩ := RepS.lst sub3 rp e1
      exact .inl ⟨a, vs, rfl, SqL.of h2, fun p hp => k _ _ ((VO.lst sub3 ok3 hp (cut_reps lo hi h3) q3).at st)⟩
    | _ => rw [e1] at q3; exact q3.elim⟩
end

/-! ### built-ins called -/
abbrev FC := List S → (S → Prop) → Prop
def CallS (g : Gv) (K : PySem.W.Frag) (r : List V → Hp → VK → Prop) (f : FC) : Prop :=
  ∀ (tk : Tk) (F : Gh) (H : Hp) (ss : List S) (vs : List V) (Q : S → Prop) (Q' : VK), g.T tk → Same F H → tk.ok F H → RepSs K g tk F H ss vs → f ss Q → (∀ z H', VO K g tk 0 F H Q z H' → Q' z H') → r vs H Q'
def dCB (f : FC) (u : DA) : DE := fun α Q E => u α (fun ss => f ss Q) E
section
variable {g : Gv} {X : Cx} {K : PySem.W.Frag} {e : Expr} {es : List Expr} {x : Str} {p pos : Pos} {u : DA} {id T : String} {r : List V → Hp → VK → Prop} {f : FC}
theorem cb_red {tk : Tk} {Fe : Gh} {He : Hp} {E : XD → Prop} {σ : L2.St} {H : Hp} {Q' : VK} (hT : g.T tk) (hf : CallS g K r f) (h : LE K g tk κ Fe He E (dCB f u) σ H Q') : tCB r (LA K g tk κ Fe He E u) σ H Q' := by
  obtain ⟨F, α, Q, A, q, k⟩ := h
  refine ⟨F, α, _, A.w, q, fun vs H1 F1 ss st1 sub1 ok1 reps q1 => ?_⟩
  exact hf tk F1 H1 ss vs Q Q' hT sub1 ok1 reps q1 fun z H' hz => k z H' (hz.at st1)
theorem qe_callB (hc : CallR X (.builtin id) r) (hf : CallS g X.K r f) (hg : Gl X x) (hm : X.mg x = none) (hv : bootBuiltins x = some (.builtin id)) (ha : QA g X (e :: es) u κ) (hn : x ≠ "__name__" := by decide) (hdb : (x == ("__debug__" : Str)) = false := by decide)
    (h1 : starEach (e :: es) X.env = (false, eval e X.env) :: starEach es X.env := by rfl) (h2 : (backTo pos (starEach es X.env)).any (·.1) = false := by rfl) : QE g X (.Call (.Name x p) (e :: es) [] pos) (dCB f u) κ :=
  ⟨fun tk Fe He E hT hx => (pe_callB hc hg hm hv (ha.pa tk Fe He E hT hx) hn hdb h1 h2).dimp fun σ H Q' h => cb_red hT hf h⟩
theorem qe_callTy (hc : CallR X (.type T) r) (hf : CallS g X.K r f) (hg : Gl X x) (hm : X.mg x = none) (hv : bootBuiltins x = some (.type T)) (ha : QA g X (e :: es) u κ) (hn : x ≠ "__name__" := by decide) (hdb : (x == ("__debug__" : Str)) = false := by decide)
    (h1 : starEach (e :: es) X.env = (false, eval e X.env) :: starEach es X.env := by rfl) (h2 : (backTo pos (starEach es X.env)).any (·.1) = false := by rfl) : QE g X (.Call (.Name x p) (e :: es) [] pos) (dCB f u) κ :=
  ⟨fun tk Fe He E hT hx => (pe_callTy hc hg hm hv (ha.pa tk Fe He E hT hx) hn hdb h1 h2).dimp fun σ H Q' h => cb_red hT hf h⟩
/-! one argument, two -/
def one (f : F1) : FC
  | [s], Q => f s.view Q
  | _, _ => False
def two (f : F2) : FC
  | [s, t], Q => f s.view t.view Q
  | _, _ => False
theorem cs_one {K : PySem.W.Frag} {r : List V → Hp → VK → Prop} {f : F1} (h : UnS g K (fun v H Q => r [v] H Q) f) : CallS g K r (one f) := by
  intro tk F H ss vs Q Q' hT sub ok reps q k
  match ss, reps, q with
  | [s], ⟨v, r', e, rs, hn⟩, q =>
    have hn' : r' = [] := hn
    subst hn'
    subst e
    exact h tk F H s v Q Q' hT sub ok rs q k
  | [], _, q => exact q.elim
  | _ :: _ :: _, _, q => exact q.elim
theorem cs_two {K : PySem.W.Frag} {r : List V → Hp → VK → Prop} {f : F2} (h : OpS g K (fun v w H Q => r [v, w] H Q) f) : CallS g K r (two f) := by
  intro tk F H ss vs Q Q' hT sub ok reps q k
  match ss, reps, q with
  | [s, t], ⟨v, r', e, rs, w, r2, e2, rt, hn⟩, q =>
    have hn' : r2 = [] := hn
    subst hn'
    subst e2
    subst e
    exact h tk F H s t v w Q Q' hT sub ok rs rt q k
  | [], _, q => exact q.elim
  | [_], _, q => exact q.elim
  | _ :: _ :: _ :: _, _, q => exact q.elim
def fLen : F1
  | .tup ds, Q => Q (.fr (.int ds.length))
  | .lst ds, Q => Q (.fr (.int ds.length))
  | .scr ns, Q => Q (.fr (.int ns.length))
  | .str x, Q => x.length ≤ sizeLine ∧ Q (.fr (.int x.length))
  | _, _ => False
theorem cs_len : CallS g K (fun xs H Q => ∃ x n, xs = [x] ∧ LenV K x H n ∧ Q (.int n) H) (one fLen) := cs_one (by
  intro tk F H s v Q Q' hT sub ok r1 q k
  cases e1 : s.view with
  | tup ds =>
    rw [e1] at q
    obtain ⟨a, vs, rfl, h2, h3⟩ := RepS.tup sub r1 e1
    exact ⟨_, ds.length, rfl, .inr ⟨vs, h2, h3.length.symm⟩, k _ H (VO.int sub ok q)⟩
  | lst ds =>
    rw [e1] at q
    obtain ⟨a, vs, rfl, h2, h3⟩ := RepS.lst sub r1 e1
    exact ⟨_, ds.length, rfl, .inl ⟨vs, SqL.of h2, h3.length.symm⟩, k _ H (VO.int sub ok q)⟩
  | str x =>
    rw [e1] at q
    rw [RepS.str r1 e1]
    exact ⟨_, x.length, rfl, ⟨q.1, rfl⟩, k _ H (VO.int sub ok q.2)⟩
  | scr ns =>
    rw [e1] at q
    have rp := RepS.fr_ r1 e1 ⟨fun _ z => (nomatch z), fun _ _ z => (nomatch z), fun z => (nomatch z), fun _ _ _ z => (nomatch z)⟩
    unfold Rep at rp
    obtain ⟨a, rfl, h2⟩ := rp
    exact ⟨_, ns.length, rfl, .inl ⟨_, sub.seq h2, by rw [List.length_map]⟩, k _ H (VO.int sub ok q)⟩
  | _ => rw [e1] at q; exact q.elim)
def fAbs : F1
  | .int i, Q => Q (.fr (.int (if i < 0 then -i else i)))
  | _, _ => False
theorem us_int {K : PySem.W.Frag} {r : V → Hp → VK → Prop} {f : F1} {h : Int → Int} (hr : ∀ i H Q, Q (.int (h i)) H → r (.int i) H Q) (hf : ∀ x Q, f x Q → ∃ i, x = .int i ∧ Q (.fr (.int (h i)))) : UnS g K r f := by
  intro tk F H s v Q Q' hT sub ok r1 q k
  obtain ⟨i, e, q⟩ := hf _ _ q
  rw [RepS.int r1 e]
  exact hr i H Q' (k _ H (VO.int sub ok q))
theorem cs_abs : CallS g K (fun xs H Q => ∃ i, xs = [.int i] ∧ Q (.int (if i < 0 then -i else i)) H) (one fAbs) := cs_one (us_int (h := fun i => if i < 0 then -i else i) (fun i H Q q => ⟨i, rfl, q⟩) fun x Q q => by
  cases x <;> first | exact ⟨_, rfl, q⟩ | exact q.elim)
def fMin2 : F2
  | .int i, .int j, Q => Q (.fr (.int (if j < i then j else i)))
  | _, _, _ => False
def fMax2 : F2
  | .int i, .int j, Q => Q (.fr (.int (if j > i then j else i)))
  | _, _, _ => False
theorem cs_min2 : CallS g K (fun xs H Q => ∃ i j, xs = [.int i, .int j] ∧ Q (.int (if j < i then j else i)) H) (two fMin2) := cs_two (rs_int (C := fun _ _ => True) (h := fun i j => .int (if j < i then j else i)) (hv := fun i j => .int (if j < i then j else i)) (fun i j H Q _ q => ⟨i, j, rfl, q⟩) (fun _ _ _ => Rep.int _) fun x y Q q => by
  cases x <;> cases y <;> first | exact ⟨_, _, rfl, rfl, trivial, q⟩ | exact q.elim)
theorem cs_max2 : CallS g K (fun xs H Q => ∃ i j, xs = [.int i, .int j] ∧ Q (.int (if j > i then j else i)) H) (two fMax2) := cs_two (rs_int (C := fun _ _ => True) (h := fun i j => .int (if j > i then j else i)) (hv := fun i j => .int (if j > i then j else i)) (fun i j H Q _ q => ⟨i, j, rfl, q⟩) (fun _ _ _ => Rep.int _) fun x y Q q => by
  cases x <;> cases y <;> first | exact ⟨_, _, rfl, rfl, trivial, q⟩ | exact q.elim)
def fInt : F1
  | .int i, Q => Q (.fr (.int i))
  | .bl b, Q => Q (.fr (.int (if b then 1 else 0)))
  | _, _ => False
theorem cs_int : CallS g K (fun xs H Q => (∃ i, xs = [.int i] ∧ Q (.int i) H) ∨ ∃ k, xs = [.bl k] ∧ Q (.int (if k then 1 else 0)) H) (one fInt) := cs_one (by
  intro tk F H s v Q Q' hT sub ok r1 q k
  cases e1 : s.view with
  | int i =>
    rw [e1] at q
    rw [RepS.int r1 e1]
    exact .inl ⟨i, rfl, k _ H (VO.int sub ok q)⟩
  | bl b =>
    rw [e1] at q
    rw [RepS.bl r1 e1]
    exact .inr ⟨b, rfl, k _ H (VO.int sub ok q)⟩
  | _ => rw [e1] at q; exact q.elim)
/-- the ints of a list -/
def D.toI : D → Option Int
  | .int i => some i
  | _ => none
def ints? : List D → Option (List Int)
  | [] => some []
  | d :: ds => match d.toI, ints? ds with
    | some i, some is => some (i :: is)
    | _, _ => none
theorem ints_map : ∀ is : List Int, ints? (is.map D.int) = some is
  | [] => rfl
  | i :: is => by
    show (match (D.int i).toI, ints? (is.map D.int) with
    | some i, some is => some (i :: is)
    | _, _ => none) = _
    rw [ints_map is]
    rfl
theorem ints_of : ∀ {ds : List D} {is : List Int}, ints? ds = some is → ds = is.map D.int
  | [], is, h => by
    have e : some [] = some is := h
    cases e
    rfl
  | d :: ds, is, h => by
    have h' : (match d.toI, ints? ds with
    | some i, some is => some (i :: is)
    | _, _ => none) = some is := h
    cases d with
    | int i =>
      cases q : ints? ds with
      | none => rw [q] at h'; cases h'
      | some js =>
        rw [q] at h'
        have e : some (i :: js) = some is := h'
        cases e
        rw [ints_of q]
        rfl
    | _ => cases h'
def fSum : F1
  | .lst ds, Q => ∃ is, ints? ds = some is ∧ Q (.fr (.int is.sum))
  | .tup ds, Q => ∃ is, ints? ds = some is ∧ Q (.fr (.int is.sum))
  | _, _ => False
def rSumA (K : PySem.W.Frag) : List V → Hp → VK → Prop := fun xs H Q => rSum K xs H Q ∨ ∃ (a : Addr) (ns : List Int), xs = [.ref a] ∧ SqT K H a (ns.map V.int) ∧ Q (.int ns.sum) H
open PyProof.Rows in
theorem call_sumT (hc : X.calm = true) : CallR X (.builtin "sum") (fun xs H Q => ∃ (a : Addr) (ns : List Int), xs = [.ref a] ∧ SqT X.K H a (ns.map V.int) ∧ Q (.int ns.sum) H) := by
  intro pins s σ H vs us Q I rv h
  obtain ⟨a, ns, rfl, hs, q⟩ := h
  obtain ⟨its, ri, hl, _⟩ := I.tuple hs
  rw [Vals.ref1 rv]
  have hi : IntsAre its ns := Vals.ints ri
  obtain ⟨xs, hx⟩ := hi.allInts.items
  have hn : numsOf its.toArray.toList = ns := by rw [show its.toArray.toList = its from rfl, hi.numsOf]
  rw [hx] at hl hn
  rw [nums_intItems] at hn
  refine PySem.W.ktm_sumG (I.ok.hd hc) hl fun h' tk t' hk => ?_
  refine ⟨.int ns.sum, H, I.kept hk, ?_, q⟩
  rw [preSum_eq, List.take_of_length_le (by simp), hn]
  exact ⟨_, rfl⟩
theorem call_sumA (hc : X.calm = true) : CallR X (.builtin "sum") (rSumA X.K) := CallR.or (cr_sum hc) (call_sumT hc)
theorem cs_sum : CallS g K (rSumA K) (one fSum) := cs_one (by
  intro tk F H s v Q Q' hT sub ok r1 q k
  cases e1 : s.view with
  | tup ds =>
    rw [e1] at q
    obtain ⟨is, e, q⟩ := q
    obtain ⟨a, vs, rfl, h2, h3⟩ := RepS.tup sub r1 e1
    rw [ints_of e] at h3
    rw [Reps.ints h3] at h2
    exact .inr ⟨a, is, rfl, h2, k _ H (VO.int sub ok q)⟩
  | lst ds =>
    rw [e1] at q
    obtain ⟨is, e, q⟩ := q
    obtain ⟨a, vs, rfl, h2, h3⟩ := RepS.lst sub r1 e1
    rw [ints_of e] at h3
    rw [Reps.ints h3] at h2
    exact .inl ⟨a, is, rfl, SqL.of h2, k _ H (VO.int sub ok q)⟩
  | _ => rw [e1] at q; exact q.elim)
def fTuple : F1
  | .lst ds, Q => Q (.fr (.tup ds))
  | .tup ds, Q => Q (.fr (.tup ds))
  | _, _ => False
theorem cs_tuple : CallS g K (fun xs H Q => ∃ p ys, xs = [.ref p] ∧ ((SqL K H p ys ∧ ∀ l, H l = none → Q (.ref l) (upd H l (.tup ys))) ∨ (SqT K H p ys ∧ Q (.ref p) H))) (one fTuple) := cs_one (by
  intro tk F H s v Q Q' hT sub ok r1 q k
  cases e1 : s.view with
  | tup ds =>
    rw [e1] at q
    obtain ⟨a, vs, rfl, h2, h3⟩ := RepS.tup sub r1 e1
    exact ⟨a, vs, rfl, .inr ⟨h2, k _ H (VO.here (r := .fr (.tup ds)) sub ok (RepS.fr_ r1 e1 ⟨fun _ z => (nomatch z), fun _ _ z => (nomatch z), fun z => (nomatch z), fun _ _ _ z => (nomatch z)⟩) rfl q)⟩⟩
  | lst ds =>
    rw [e1] at q
    obtain ⟨a, vs, rfl, h2, h3⟩ := RepS.lst sub r1 e1
    exact ⟨a, vs, rfl, .inl ⟨SqL.of h2, fun l hl => k _ _ (VO.tup sub ok hl h3 q)⟩⟩
  | _ => rw [e1] at q; exact q.elim)
def fList : F1
  | .lst ds, Q => Q (.nw (.lst ds))
  | .tup ds, Q => Q (.nw (.lst ds))
  | _, _ => False
theorem cs_list : CallS g K (fun xs H Q => ∃ p ys, xs = [.ref p] ∧ (SqL K H p ys ∨ SqT K H p ys) ∧ ∀ l, H l = none → Q (.ref l) (upd H l (.lst ys))) (one fList) := cs_one (by
  intro tk F H s v Q Q' hT sub ok r1 q k
  cases e1 : s.view with
  | tup ds =>
    rw [e1] at q
    obtain ⟨a, vs, rfl, h2, h3⟩ := RepS.tup sub r1 e1
    exact ⟨a, vs, rfl, .inr h2, fun l hl => k _ _ (VO.lst sub ok hl h3 q)⟩
  | lst ds =>
    rw [e1] at q
    obtain ⟨a, vs, rfl, h2, h3⟩ := RepS.lst sub r1 e1
    exact ⟨a, vs, rfl, .inl (SqL.of h2), fun l hl => k _ _ (VO.lst sub ok hl h3 q)⟩
  | _ => rw [e1] at q; exact q.elim)
def bools? : List D → Option (List Bool)
  | [] => some []
  | .bl b :: ds => (bools? ds).map (b :: ·)
  | _ => none
end
end DL

set_option Elab.async false
set_option linter.all false
set_option maxRecDepth 100000
set_option maxHeartbeats 4000000
namespace DL
open PySem PySem.Spec L2

theorem Ab.stc {K : PySem.W.Frag} {g : Gv} {tk : Tk} {κ : Nat} {Fe : Gh} {He : Hp} {F : Gh} {H : Hp} {α : AE} {σ : L2.St} (A : Ab K g tk κ Fe He F H α σ) : Step tk (Fe.c - Fe.b) Fe He F H := A.st.w (by have := A.cap; omega)
theorem Ab.back {K : PySem.W.Frag} {g : Gv} {tk : Tk} {κ κ1 : Nat} {Fe : Gh} {He : Hp} {F : Gh} {H : Hp} {α : AE} {σ : L2.St} {Q : S → Prop} {v : V} {H' : Hp} (A : Ab K g tk κ Fe He F H α σ) (h : VO K g tk κ1 F H Q v H') (hk : κ1 ≤ κ := by omega) : VO K g tk (Fe.c - Fe.b) Fe He Q v H' := h.at A.st (by have := A.cap; have := A.st.tm; omega)
theorem Ab.backX {K : PySem.W.Frag} {g : Gv} {tk : Tk} {κ κ1 : Nat} {Fe : Gh} {He : Hp} {F : Gh} {H : Hp} {α : AE} {σ : L2.St} {E : XD → Prop} {c : Value} {d : Option Addr} {H' : Hp} (A : Ab K g tk κ Fe He F H α σ) (h : XO K g tk κ1 F H E c d H') (hk : κ1 ≤ κ := by omega) : XO K g tk (Fe.c - Fe.b) Fe He E c d H' := h.at A.st (by have := A.cap; have := A.st.tm; omega)
section
variable {g : Gv} {X : Cx} {st : Stmt} {rest : List Stmt} {t u : DS} {e : Expr} {te : DE} {pos : Pos}
def dNext : DS := fun D α _ => D.nx α
def dSeq (t u : DS) : DS := fun D α E => t { D with nx := fun α' => u D α' E } α E
theorem qss_nil : QSs g X [] dNext 0 := ⟨fun tk Fe He E hT hx => pss_nil.dimp fun D' σ H h => by
  obtain ⟨F, α, D, ρ, A, q, k⟩ := h
  exact k.nx σ H ⟨F, α, A.w, q⟩⟩
theorem qss_cons (h1 : QS g X st t κ1) (h2 : QSs g X rest u κ2) : QSs g X (st :: rest) (dSeq t u) (κ1 + κ2) := ⟨fun tk Fe He E hT hx => (pss_cons (h1.ps tk Fe He E hT hx) (h2.ps tk Fe He E hT hx)).dimp fun D' σ H h => by
  obtain ⟨F, α, D, ρ, A, q, k⟩ := h
  exact ⟨F, α, _, κ2 + ρ, A.w, q, ⟨fun σ1 H1 ⟨F1, α1, A1, q1⟩ => ⟨F1, α1, D, ρ, A1, q1, k⟩, k.rt, fun σ1 H1 ⟨F1, α1, A1, q1⟩ => k.bk σ1 H1 ⟨F1, α1, A1.w, q1⟩, fun σ1 H1 ⟨F1, α1, A1, q1⟩ => k.ct σ1 H1 ⟨F1, α1, A1.w, q1⟩⟩⟩⟩
theorem qss_one (h1 : QS g X st t κ) : QSs g X [st] t κ := ⟨fun tk Fe He E hT hx => pss_one (h1.ps tk Fe He E hT hx)⟩
def dBreak : DS := fun D α _ => D.bk α
def dCont : DS := fun D α _ => D.ct α
theorem qs_pass : QS g X (.Pass pos) dNext 0 := ⟨fun tk Fe He E hT hx => ps_pass.dimp fun D' σ H h => by
  obtain ⟨F, α, D, ρ, A, q, k⟩ := h
  exact k.nx σ H ⟨F, α, A.w, q⟩⟩
theorem qs_break : QS g X (.Break pos) dBreak 0 := ⟨fun tk Fe He E hT hx => ps_break.dimp fun D' σ H h => by
  obtain ⟨F, α, D, ρ, A, q, k⟩ := h
  exact k.bk σ H ⟨F, α, A.w, q⟩⟩
theorem qs_continue : QS g X (.Continue pos) dCont 0 := ⟨fun tk Fe He E hT hx => ps_continue.dimp fun D' σ H h => by
  obtain ⟨F, α, D, ρ, A, q, k⟩ := h
  exact k.ct σ H ⟨F, α, A.w, q⟩⟩
def dDrop (te : DE) : DS := fun D α E => te α (fun _ => D.nx α) E
theorem qs_expr (he : QE g X e te κ) (hs : swapsWith e none pos.line X.env = pure false := by rfl) : QS g X (.Expr e pos) (dDrop te) κ := ⟨fun tk Fe He E hT hx => (ps_expr (he.pe tk Fe He E hT hx) hs).dimp fun D' σ H h => by
  obtain ⟨F, α, D, ρ, A, q, k⟩ := h
  refine ⟨F, α, _, A.w, q, fun v H1 h1 => ?_⟩
  obtain ⟨F1, r, st1, sub1, ok1, rep1, _, q1⟩ := h1
  exact k.nx σ H1 ⟨F1, α, A.step st1 sub1 ok1, q1⟩⟩
/-- the value of a return: no look at one's own list (for a name: qs_retV) -/
def dRet (te : DE) : DS := fun D α E => te α (fun r => (∀ d, r ≠ .bw d) ∧ D.rt r) E
theorem qs_ret (he : QE g X e te κ) : QS g X (.Return (some e) pos) (dRet te) κ := ⟨fun tk Fe He E hT hx => (ps_ret (he.pe tk Fe He E hT hx)).dimp fun D' σ H h => by
  obtain ⟨F, α, D, ρ, A, q, k⟩ := h
  refine ⟨F, α, _, A.w, q, fun v H1 h1 => k.rt v H1 ?_⟩
  have h2 : VO X.K g tk κ F H D.rt v H1 := by
    obtain ⟨F1, r, a, b, c, d, f, _, z⟩ := h1
    exact ⟨F1, r, a, b, c, d, f, z⟩
  exact A.back h2⟩
def dRetN : DS := fun D _ _ => D.rt (.fr .non)
theorem qs_retN : QS g X (.Return none pos) dRetN 0 := ⟨fun tk Fe He E hT hx => ps_retN.dimp fun D' σ H h => by
  obtain ⟨F, α, D, ρ, A, q, k⟩ := h
  have z : VO X.K g tk 0 F H D.rt .non H := VO.non A.sub A.ok q
  exact k.rt _ H (A.back z)⟩
/-- return x, x a name of the def -/
def dRetV (i : Nat) : DS := fun D α _ => ∃ s, α[i]? = some (some s) ∧ D.rt s
theorem qs_retV {i : Nat} {x : Str} {p : Pos} (hN : X.N[i]? = some x) (hv : Vis X.env.scope x) (hd : (x == ("__debug__" : Str)) = false := by decide) (hcd : (x == ("__classdict__" : Str)) = false := by decide) : QS g X (.Return (some (.Name x p)) pos) (dRetV i) 0 :=
  ⟨fun tk Fe He E hT hx => (ps_ret (pe_var hN hv hd hcd)).dimp fun D' σ H h => by
    obtain ⟨F, α, D, ρ, A, ⟨s, e, q⟩, k⟩ := h
    obtain ⟨v, e1, e2, e3⟩ := A.val i s e
    exact ⟨v, e1, k.rt v H ⟨F, s, A.stc, A.sub, A.ok, e2, e3, q⟩⟩⟩
def dIf (c : DT) (t u : DS) : DS := fun D α E => c α (fun b => if b = true then t D α E else u D α E) E
theorem qs_if {c : Expr} {a b : List Stmt} {tc : DT} (hc : QT g X c tc κ1) (ha : QSs g X a t κ2) (hb : QSs g X b u κ3) : QS g X (.If c a b pos) (dIf tc t u) (κ1 + κ2 + κ3) := ⟨fun tk Fe He E hT hx => (ps_if (hc.pt tk Fe He E hT hx) (ha.ps tk Fe He E hT hx) (hb.ps tk Fe He E hT hx)).dimp fun D' σ H h => by
  obtain ⟨F, α, D, ρ, A, q, k⟩ := h
  refine ⟨F, α, _, A.w, q, fun c H1 F1 st1 sub1 ok1 q1 => ?_⟩
  cases c with
  | true => exact ⟨F1, α, D, ρ, A.step st1 sub1 ok1, q1, k⟩
  | false => exact ⟨F1, α, D, ρ, A.step st1 sub1 ok1, q1, k⟩⟩
end

/-! ### stores to names -/
theorem Ab.set' {K : PySem.W.Frag} {g : Gv} {tk : Tk} {κ κ1 κ' : Nat} {Fe : Gh} {He : Hp} {F : Gh} {H : Hp} {F' : Gh} {H' : Hp} {α : AE} {σ : L2.St} {r : S} {v : V} (A : Ab K g tk κ Fe He F H α σ) (i : Nat) (st : Step tk κ1 F H F' H') (sub : Same F' H') (ok : tk.ok F' H') (rep : RepS K g tk F' H' r v)
    (fr : ∀ d p, r = .nw d → v = .ref p → Nf H p) (nb : ∀ d, r ≠ .bw d) (hk : κ1 + κ' ≤ κ := by omega) : Ab K g tk κ' Fe He F' H' (α.set i (some r)) (σ.set i (some v)) := by
  have A' : Ab K g tk κ' Fe He F' H' α σ := A.step st sub ok hk
  have newP : ∀ d p, r = .nw d → v = .ref p → Nf He p := fun d p e1 e2 => by
    have hp := fr d p e1 e2
    intro o w n
    obtain ⟨o', w', n'⟩ := A.st.ad p o w n
    exact hp o' w' n'
  refine ⟨sub, ok, A'.st, A'.cap, A'.lim, by rw [List.length_set, List.length_set]; exact A.len, fun j s h => ?_, fun j d h => ?_, fun j l d e w hjl hj hl hj' hl' => ?_⟩
  · by_cases z : i = j
    · subst z
      by_cases hi : i < α.length
      · rw [List.getElem?_set_self hi] at h
        cases h
        exact ⟨v, by rw [List.getElem?_set_self (by rw [← A.len]; exact hi)], rep, newP⟩
      · rw [List.getElem?_eq_none (by simpa using hi)] at h
        cases h
    · rw [List.getElem?_set_ne z] at h
      obtain ⟨w, e1, e2, e3⟩ := A'.val j s h
      exact ⟨w, by rw [List.getElem?_set_ne z]; exact e1, e2, e3⟩
  · by_cases z : i = j
    · subst z
      by_cases hi : i < α.length
      · rw [List.getElem?_set_self hi] at h
        exact nb d (Option.some.inj (Option.some.inj h))
      · rw [List.getElem?_eq_none (by simpa using hi)] at h
        cases h
    · rw [List.getElem?_set_ne z] at h
      exact A.nob j d h
  · have old : ∀ (a : Nat) (x : D), α[a]? = some (some (.nw x)) → ∀ y, σ[a]? = some (some y) → r = .nw d ∨ r = .nw e → y = v → False := fun a x ha y hy hr hyv => by
      obtain ⟨y', e1, e2, _⟩ := A.val a _ ha
      rw [hy] at e1
      cases e1
      obtain ⟨p, rfl, _, _, ho⟩ := e2
      rcases hr with hr | hr
      · exact ho.at_ (fr _ p hr hyv.symm)
      · exact ho.at_ (fr _ p hr hyv.symm)
    have hlen := A.len
    by_cases zj : i = j
    · have zl : ¬ i = l := fun z => hjl (zj.symm.trans z)
      subst zj
      have hi : i < α.length := by
        cases Nat.lt_or_ge i α.length with
        | inl h => exact h
        | inr h =>
          rw [List.getElem?_eq_none (by rw [List.length_set]; exact h)] at hj
          cases hj
      rw [List.getElem?_set_self hi] at hj
      rw [List.getElem?_set_self (by rw [← hlen]; exact hi)] at hj'
      rw [List.getElem?_set_ne zl] at hl hl'
      have hr : r = .nw d := Option.some.inj (Option.some.inj hj)
      have hw : v = w := Option.some.inj (Option.some.inj hj')
      exact old l e hl w hl' (.inl hr) hw.symm
    · rw [List.getElem?_set_ne zj] at hj hj'
      by_cases zl : i = l
      · subst zl
        have hi : i < α.length := by
          cases Nat.lt_or_ge i α.length with
          | inl h => exact h
          | inr h =>
            rw [List.getElem?_eq_none (by rw [List.length_set]; exact h)] at hl
            cases hl
        rw [List.getElem?_set_self hi] at hl
        rw [List.getElem?_set_self (by rw [← hlen]; exact hi)] at hl'
        have hr : r = .nw e := Option.some.inj (Option.some.inj hl)
        have hw : v = w := Option.some.inj (Option.some.inj hl')
        exact old j d hj w hj' (.inr hr) hw.symm
      · rw [List.getElem?_set_ne zl] at hl hl'
        exact A.apart j l d e w hjl hj hl hj' hl'
theorem Ab.set {K : PySem.W.Frag} {g : Gv} {tk : Tk} {κ κ1 : Nat} {Fe : Gh} {He : Hp} {F : Gh} {H : Hp} {α : AE} {σ : L2.St} {Q : S → Prop} {v : V} {H' : Hp} (κ' : Nat) (A : Ab K g tk κ Fe He F H α σ) (i : Nat) (hv : VO K g tk κ1 F H Q v H') (hk : κ1 + κ' ≤ κ := by omega) :
    ∃ F' r, Q r ∧ ((∀ d, r ≠ .bw d) → Ab K g tk κ' Fe He F' H' (α.set i (some r)) (σ.set i (some v))) := by
  obtain ⟨F', r, st, sub, ok, rep, fr, q⟩ := hv
  exact ⟨F', r, q, fun nb => A.set' i st sub ok rep fr nb hk⟩
section
variable {g : Gv} {X : Cx} {e : Expr} {te : DE} {pos : Pos}
def dAsg (i : Nat) (te : DE) : DS := fun D α E => te α (fun r => (∀ d, r ≠ .bw d) ∧ D.nx (α.set i (some r))) E
theorem qs_asg {i : Nat} {x : Str} {pos' : Pos} (hN : X.N.Nodup) (hi : X.N[i]? = some x) (hl : Loc X.env.scope x) (he : QE g X e te κ) (hs : swapsWith e (some (.Name x pos')) pos.line X.env = pure false := by rfl) (hf : X.fn x = true ∨ X.env.scope.names.lookup x = some .local := by first | exact .inl rfl | exact .inr rfl | assumption) :
    QS g X (.Assign [.Name x pos'] e pos) (dAsg i te) κ := ⟨fun tk Fe He E hT hx => (ps_set hN hi hl (he.pe tk Fe He E hT hx) hs hf).dimp fun D' σ H h => by
  obtain ⟨F, α, D, ρ, A, q, k⟩ := h
  refine ⟨F, α, _, A.w, q, fun v H1 h1 => k.nx _ H1 ?_⟩
  obtain ⟨F1, r, q1, A1⟩ := Ab.set ρ A i h1
  exact ⟨F1, _, A1 q1.1, q1.2⟩⟩
/-- targets, of what stands still -/
abbrev DG := D → AE → (AE → Prop) → Prop
def LG (K : PySem.W.Frag) (g : Gv) (tk : Tk) (Fe : Gh) (He : Hp) (t : DG) : TG := fun v σ H Q' =>
  ∃ F α d Q κ, Ab K g tk κ Fe He F H α σ ∧ Rep K g F d v ∧ t d α Q ∧ ∀ σ' α', Ab K g tk κ Fe He F H α' σ' → Q α' → Q' σ' H
def LGs (K : PySem.W.Frag) (g : Gv) (tk : Tk) (Fe : Gh) (He : Hp) (t : List D → AE → (AE → Prop) → Prop) : TGs := fun vs σ H Q' =>
  ∃ F α ds Q κ, Ab K g tk κ Fe He F H α σ ∧ Reps K g F ds vs ∧ t ds α Q ∧ ∀ σ' α', Ab K g tk κ Fe He F H α' σ' → Q α' → Q' σ' H
structure QG (g : Gv) (X : Cx) (tg : Expr) (t : DG) : Prop where
  pg : ∀ (tk : Tk) (Fe : Gh) (He : Hp), g.T tk → PG X tg (LG X.K g tk Fe He t)
structure QGs (g : Gv) (X : Cx) (ts : List Expr) (t : List D → AE → (AE → Prop) → Prop) : Prop where
  pg : ∀ (tk : Tk) (Fe : Gh) (He : Hp), g.T tk → PGs X ts (LGs X.K g tk Fe He t)
theorem _root_.L2.PG.dimp {X : Cx} {e : Expr} {t t' : TG} (h : PG X e t) (k : ∀ v σ H Q, t' v σ H Q → t v σ H Q) : PG X e t' := ⟨fun pins s σ H v u Q I r q => h.run pins s σ H v u Q I r (k v σ H Q q)⟩
theorem _root_.L2.PGs.dimp {X : Cx} {e : List Expr} {t t' : TGs} (h : PGs X e t) (k : ∀ v σ H Q, t' v σ H Q → t v σ H Q) : PGs X e t' := ⟨fun pins s σ H v u Q I r q => h.run pins s σ H v u Q I r (k v σ H Q q)⟩
def gNm (i : Nat) : DG := fun d α Q => Q (α.set i (some (.fr d)))
theorem qg_name {i : Nat} {x : Str} (hN : X.N.Nodup) (hi : X.N[i]? = some x) (hl : Loc X.env.scope x) (hf : X.fn x = true ∨ X.env.scope.names.lookup x = some .local := by first | exact .inl rfl | exact .inr rfl | assumption) : QG g X (.Name x pos) (gNm i) :=
  ⟨fun tk Fe He hT => (pg_name hN hi hl hf).dimp fun v σ H Q' h => by
    obtain ⟨F, α, d, Q, κ, A, r, q, k⟩ := h
    exact k _ _ (A.set' (κ1 := 0) i (Step.refl _ _ _) A.sub A.ok (r := .fr d) r (fun d p z => nomatch z) fun d z => nomatch z) q⟩
def gsNil : List D → AE → (AE → Prop) → Prop := fun ds α Q => ds = [] ∧ Q α
def gsCons (t : DG) (u : List D → AE → (AE → Prop) → Prop) : List D → AE → (AE → Prop) → Prop := fun ds α Q => ∃ d r, ds = d :: r ∧ t d α (fun α' => u r α' Q)
theorem qgs_nil : QGs g X [] gsNil := ⟨fun tk Fe He hT => pgs_nil.dimp fun vs σ H Q' h => by
  obtain ⟨F, α, ds, Q, κ, A, r, q, k⟩ := h
  obtain ⟨rfl, q⟩ := q
  exact ⟨r.inv_nil, k σ α A q⟩⟩
theorem qgs_cons {es : List Expr} {t : DG} {u : List D → AE → (AE → Prop) → Prop} (h1 : QG g X e t) (h2 : QGs g X es u) (hs : (assignEach (e :: es) X.env).map (·.2) = assign e X.env :: (assignEach es X.env).map (·.2) := by rfl) : QGs g X (e :: es) (gsCons t u) :=
  ⟨fun tk Fe He hT => (pgs_cons (h1.pg tk Fe He hT) (h2.pg tk Fe He hT) hs).dimp fun vs σ H Q' h => by
    obtain ⟨F, α, ds, Q, κ, A, r, ⟨d, ds', rfl, q⟩, k⟩ := h
    obtain ⟨v, vs', rfl, rd, rs⟩ := r.inv_cons
    exact ⟨v, vs', rfl, F, α, d, _, κ, A, rd, q, fun σ' α' A' q' => ⟨F, α', ds', Q, κ, A', rs, q', k⟩⟩⟩
def gTp (n : Nat) (t : List D → AE → (AE → Prop) → Prop) : DG := fun d α Q => ∃ ds, d = .tup ds ∧ ds.length = n ∧ t ds α Q
theorem qg_tup {es : List Expr} {k : Nat} {t : List D → AE → (AE → Prop) → Prop} {n : Nat} (hc : X.calm = true) (h : QGs g X es t) (hn : (assignEach es X.env).length = n := by rfl) (hst : (assignEach es X.env).findIdx? (·.1) = none := by rfl) : QG g X (.Tuple es k pos) (gTp n t) :=
  ⟨fun tk Fe He hT => (pg_tup hc (h.pg tk Fe He hT) hn hst).dimp fun v σ H Q' h => by
    obtain ⟨F, α, d, Q, κ, A, r, ⟨ds, rfl, hl, q⟩, k⟩ := h
    obtain ⟨a, vs, rfl, h2, h3⟩ := Rep.tup_ r
    exact ⟨a, vs, rfl, sqT_same A.sub h2, h3.length.trans hl, F, α, ds, Q, κ, A, h3, q, k⟩⟩
/-- a, b = e -/
def dAsgG (te : DE) (tg : DG) : DS := fun D α E => te α (fun r => ∃ d, r.fz = .fr d ∧ tg d α D.nx) E
theorem qs_asgG {tg : Expr} {t : DG} (he : QE g X e te κ) (hg : QG g X tg t) (hs : swapsWithSole [tg] e pos.line X.env = pure false := by rfl) (hw : swappedStores [tg] e X.env = pure none := by rfl) (h1 : (assignEach [tg] X.env).map (·.2) = [assign tg X.env] := by rfl) :
    QS g X (.Assign [tg] e pos) (dAsgG te t) κ := ⟨fun tk Fe He E hT hx => (ps_asg (he.pe tk Fe He E hT hx) (hg.pg tk Fe He hT) hs hw h1).dimp fun D' σ H h => by
  obtain ⟨F, α, D, ρ, A, q, k⟩ := h
  refine ⟨F, α, _, A.w, q, fun v H1 h1 => ?_⟩
  obtain ⟨F1, r, st1, sub1, ok1, rep1, d, e1, q1⟩ := h1.fz
  rw [e1] at rep1
  exact ⟨F1, α, d, D.nx, ρ, A.step st1 sub1 ok1, rep1, q1, fun σ' α' A' q' => k.nx σ' H1 ⟨F1, α', A', q'⟩⟩⟩
/-- a, b = x, y: two names -/
def dPar (i j : Nat) (ta tb : DE) : DS := fun D α E => ta α (fun x => tb α (fun y => (∀ d, x ≠ .bw d) ∧ (∀ d, y ≠ .bw d) ∧ D.nx ((α.set i (some x)).set j (some y))) E) E
theorem qs_par {i j : Nat} {x y : Str} {a b : Expr} {ta tb : DE} {px py pt : Pos} {kt k2 pt2} (hc : X.calm = true) (hN : X.N.Nodup) (hi : X.N[i]? = some x) (hj : X.N[j]? = some y) (hij : i ≠ j)
    (hx1 : X.env.scope.names.lookup x = some .local) (hy1 : X.env.scope.names.lookup y = some .local) (ha : QE g X a ta κ1) (hb : QE g X b tb κ2)
    (hw : swappedStores [.Tuple [.Name x px, .Name y py] kt pt] (.Tuple [a, b] k2 pt2) X.env = pure (some [x, y]))
    (hs : swapsWithSole [.Tuple [.Name x px, .Name y py] kt pt] (.Tuple [a, b] k2 pt2) pos.line X.env = pure false := by rfl)
    (h1 : starEach [a, b] X.env = (false, eval a X.env) :: starEach [b] X.env := by rfl) (h2 : starEach [b] X.env = (false, eval b X.env) :: starEach [] X.env := by rfl) :
    QS g X (.Assign [.Tuple [.Name x px, .Name y py] kt pt] (.Tuple [a, b] k2 pt2) pos) (dPar i j ta tb) (κ1 + κ2) := ⟨fun tk Fe He E hT hx => (ps_par hc hN hi hj hij hx1 hy1 (pa_cons (ha.pe tk Fe He E hT hx) (pa_cons (hb.pe tk Fe He E hT hx) pa_nil h2) h1) hw hs).dimp fun D' σ H h => by
  obtain ⟨F, α, D, ρ, A, q, k⟩ := h
  refine ⟨F, α, _, A.w, q, fun v H1 h1 => ?_⟩
  obtain ⟨F1, r1, st1, sub1, ok1, rep1, fr1, q1⟩ := h1
  refine ⟨F1, α, _, A.step st1 sub1 ok1, q1, fun w H2 h2 => ?_⟩
  obtain ⟨F2, r2, st2, sub2, ok2, rep2, fr2, n1, n2, q2⟩ := h2
  refine ⟨v, w, rfl, k.nx _ H2 ⟨F2, _, ?_, q2⟩⟩
  have A1 := A.set' (κ' := κ2 + ρ) i st1 sub1 ok1 rep1 fr1 n1
  exact A1.set' j st2 sub2 ok2 rep2 fr2 n2⟩
end
end DL

set_option Elab.async false
set_option linter.all false
set_option maxRecDepth 100000
set_option maxHeartbeats 4000000
namespace DL
open PySem PySem.Spec L2

/-! ### one's own lists change -/
theorem Ab.own {K : PySem.W.Frag} {g : Gv} {tk : Tk} {Fe : Gh} {He : Hp} {F : Gh} {H : Hp} {α : AE} {σ : L2.St} {i : Nat} {d : D} (A : Ab K g tk κ Fe He F H α σ) (h : α[i]? = some (some (.nw d))) :
    ∃ p, σ[i]? = some (some (.ref p)) ∧ F.m p = none ∧ p ∉ tk.ad ∧ Own K g F H p d ∧ Nf He p := by
  obtain ⟨v, e1, ⟨p, rfl, a, b, c⟩, e3⟩ := A.val i _ h
  exact ⟨p, e1, a, b, c, e3 d p rfl rfl⟩
theorem Ab.lst {K : PySem.W.Frag} {g : Gv} {tk : Tk} {Fe : Gh} {He : Hp} {F : Gh} {H : Hp} {α : AE} {σ : L2.St} {i : Nat} {ds : List D} (A : Ab K g tk κ Fe He F H α σ) (h : α[i]? = some (some (.nw (.lst ds)))) :
    ∃ p vs, σ[i]? = some (some (.ref p)) ∧ H p = some (.lst vs) ∧ Reps K g F ds vs ∧
      ∀ es ws, Reps K g F es ws → Ab K g tk κ Fe He F (upd H p (.lst ws)) (α.set i (some (.nw (.lst es)))) σ := by
  obtain ⟨p, e1, hF, hn, ⟨vs, e2, r⟩, hHe⟩ := A.own h
  refine ⟨p, vs, e1, e2, r, fun es ws r' => ?_⟩
  have hi : i < α.length := by
    cases Nat.lt_or_ge i α.length with
    | inl z => exact z
    | inr z =>
      rw [List.getElem?_eq_none z] at h
      cases h
  have sub' : Same F (upd H p (.lst ws)) := fun a o e => by
    rw [upd_ne (ne_of_none e hF)]
    exact A.sub a o e
  have other : ∀ {q : Addr} {x : D}, q ≠ p → Own K g F H q x → Own K g F (upd H p (.lst ws)) q x := fun {q x} hq ho => ho.mono (Same.refl _) fun o e _ => by
    rw [upd_ne hq]
    exact e
  refine ⟨sub', ?_, ⟨A.st.fr, A.st.nw, fun a o e hna ht => ?_, fun a o ha hn' => ?_, A.st.tm⟩, A.cap, A.lim, by rw [List.length_set]; exact A.len, fun j s hj => ?_, fun j x hj => ?_, fun j l x y w hjl hj hl hj' hl' => ?_⟩
  · refine tk.st _ _ _ _ A.ok (Same.refl _) (Nat.le_refl _) (fun a o e hor => ?_) (fun a ha => (tk.fr _ _ A.ok a ha).1) fun a u e n => by (rw [n] at e; cases e)
    have ne : a ≠ p := fun z => by
      rcases hor with hor | hor
      · exact hn (by rw [← z]; exact hor)
      · rw [z, e2] at e
        cases e
        exact hor
    rw [upd_ne ne]
    exact e
  · have ne : a ≠ p := fun z => hHe o (by rw [← z]; exact e) ht
    rw [upd_ne ne]
    exact A.st.kp a o e hna ht
  · by_cases z : a = p
    · rw [z, upd_same]
      exact ⟨_, rfl, fun ps q => nomatch q⟩
    · rw [upd_ne z]
      exact A.st.ad a o ha hn'
  · by_cases z : i = j
    · subst z
      rw [List.getElem?_set_self hi] at hj
      cases hj
      exact ⟨.ref p, e1, ⟨p, rfl, hF, hn, ws, upd_same, r'⟩, fun _ q _ e => by cases e; exact hHe⟩
    · rw [List.getElem?_set_ne z] at hj
      obtain ⟨v, f1, f2, f3⟩ := A.val j s hj
      refine ⟨v, f1, ?_, f3⟩
      cases s with
      | fr x => exact f2
      | tk => exact f2
      | bw x => exact absurd hj (A.nob j x)
      | nw x =>
        obtain ⟨q, rfl, a, b, c⟩ := f2
        have ne : q ≠ p := fun e => by
          subst e
          exact A.apart i j _ _ _ z h hj e1 f1
        exact ⟨q, rfl, a, b, other ne c⟩
  · by_cases z : i = j
    · subst z
      rw [List.getElem?_set_self hi] at hj
      cases hj
    · rw [List.getElem?_set_ne z] at hj
      exact A.nob j x hj
  · have back : ∀ (a : Nat) (x : D), (α.set i (some (.nw (.lst es))))[a]? = some (some (.nw x)) → ∃ x', α[a]? = some (some (.nw x')) := fun a x ha => by
      by_cases z : i = a
      · subst z
        exact ⟨_, h⟩
      · rw [List.getElem?_set_ne z] at ha
        exact ⟨x, ha⟩
    obtain ⟨x', hx'⟩ := back j x hj
    obtain ⟨y', hy'⟩ := back l y hl
    exact A.apart j l x' y' w hjl hx' hy' hj' hl'
/-- from now on it stands still -/
theorem Ab.freeze {K : PySem.W.Frag} {g : Gv} {tk : Tk} {Fe : Gh} {He : Hp} {F : Gh} {H : Hp} {α : AE} {σ : L2.St} {i : Nat} {d : D} (A : Ab K g tk κ Fe He F H α σ) (h : α[i]? = some (some (.nw d))) :
    ∃ F', Ab K g tk κ Fe He F' H (α.set i (some (.fr d))) σ := by
  obtain ⟨p, e1, hF, hn, ho, hHe⟩ := A.own h
  obtain ⟨o, e, nt, rp⟩ := ho.rep hF
  have hi : i < α.length := by
    cases Nat.lt_or_ge i α.length with
    | inl z => exact z
    | inr z =>
      rw [List.getElem?_eq_none z] at h
      cases h
  have fz : Same F (F.up p o) := Step.freeze hF
  refine ⟨F.up p o, same_upd A.sub e, ?_, ⟨A.st.fr.trans fz, fun a u q1 q2 => ?_, A.st.kp, A.st.ad, A.st.tm⟩, A.cap, A.lim, by rw [List.length_set]; exact A.len, fun j s hj => ?_, fun j x hj => ?_, fun j l x y w hjl hj hl hj' hl' => ?_⟩
  · refine tk.st _ _ _ _ A.ok fz (Nat.le_refl _) (fun a u q _ => q) (fun a ha => ?_) fun a u q n => ?_
    · have ne : a ≠ p := fun z => hn (by rw [← z]; exact ha)
      rw [up_ne ne]
      exact (tk.fr _ _ A.ok a ha).1
    · by_cases h : a = p
      · subst h
        rw [up_same] at q
        cases q
        exact nt
      · rw [up_ne h, n] at q
        cases q
  · by_cases z : a = p
    · rw [z]
      exact hHe
    · rw [up_ne z] at q1
      exact A.st.nw a u q1 q2
  · by_cases z : i = j
    · subst z
      rw [List.getElem?_set_self hi] at hj
      cases hj
      exact ⟨.ref p, e1, rp, fun _ _ z => nomatch z⟩
    · rw [List.getElem?_set_ne z] at hj
      obtain ⟨v, f1, f2, f3⟩ := A.val j s hj
      refine ⟨v, f1, ?_, f3⟩
      cases s with
      | fr x => exact Rep.mono fz f2
      | tk => exact f2
      | bw x => exact absurd hj (A.nob j x)
      | nw x =>
        obtain ⟨q, rfl, a, b, c⟩ := f2
        have ne : q ≠ p := fun e => by
          subst e
          exact A.apart i j _ _ _ z h hj e1 f1
        exact ⟨q, rfl, by rw [up_ne ne]; exact a, b, c.mono fz fun _ e _ => e⟩
  · by_cases z : i = j
    · subst z
      rw [List.getElem?_set_self hi] at hj
      cases hj
    · rw [List.getElem?_set_ne z] at hj
      exact A.nob j x hj
  · have back : ∀ (a : Nat) (x : D), (α.set i (some (.fr d)))[a]? = some (some (.nw x)) → α[a]? = some (some (.nw x)) := fun a x ha => by
      by_cases z : i = a
      · subst z
        rw [List.getElem?_set_self hi] at ha
        cases ha
      · rw [List.getElem?_set_ne z] at ha
        exact ha
    exact A.apart j l x y w hjl (back j x hj) (back l y hl) hj' hl'

section
variable {g : Gv} {X : Cx} {e : Expr} {es : List Expr} {te tb : DE} {ta : DA} {pos apos npos : Pos} {t u : DS}
/-- a def's own list stands still from here on -/
def dFrz (i : Nat) (u : DS) : DS := fun D α E => ∃ d, α[i]? = some (some (.nw d)) ∧ u D (α.set i (some (.fr d))) E
theorem qss_frz {sts : List Stmt} {i : Nat} (h : QSs g X sts u κ) : QSs g X sts (dFrz i u) κ := ⟨fun tk Fe He E hT hx => (h.ps tk Fe He E hT hx).dimp fun D' σ H h => by
  obtain ⟨F, α, D, ρ, A, ⟨d, e, q⟩, k⟩ := h
  obtain ⟨F', A'⟩ := A.freeze e
  exact ⟨F', _, D, ρ, A', q, k⟩⟩
/-- x.append(e), x.extend(e) -/
def dApp (i : Nat) (u : DA) : DS := fun D α E => ∃ ds, α[i]? = some (some (.nw (.lst ds))) ∧ u α (fun ss => ∃ d, ss = [.fr d] ∧ ds.length < sizeLine ∧ D.nx (α.set i (some (.nw (.lst (ds ++ [d])))))) E
theorem own_kept {K : PySem.W.Frag} {tk : Tk} {κ κ1 κ' : Nat} {Fe : Gh} {He : Hp} {F : Gh} {H : Hp} {F1 : Gh} {H1 : Hp} {α : AE} {σ : L2.St} {i : Nat} {ds : List D} (A : Ab K g tk κ Fe He F H α σ) (st1 : Step tk κ1 F H F1 H1) (sub1 : Same F1 H1) (ok1 : tk.ok F1 H1) (h : α[i]? = some (some (.nw (.lst ds)))) (hk : κ1 + κ' ≤ κ := by omega) :
    ∃ p vs, σ[i]? = some (some (.ref p)) ∧ H p = some (.lst vs) ∧ H1 p = some (.lst vs) ∧ Reps K g F1 ds vs ∧
      ∀ es ws, Reps K g F1 es ws → Ab K g tk κ' Fe He F1 (upd H1 p (.lst ws)) (α.set i (some (.nw (.lst es)))) σ := by
  obtain ⟨p, vs, e1, e2, r, k⟩ := A.lst h
  obtain ⟨q, ws, f1, f2, r', k'⟩ := (A.step (κ' := κ') st1 sub1 ok1 hk).lst h
  rw [e1] at f1
  cases f1
  obtain ⟨q, g1, g2, g3, g4, _⟩ := A.own h
  rw [e1] at g1
  cases g1
  have z := st1.kp p _ e2 g3 (fun ps z => nomatch z)
  rw [f2] at z
  cases z
  exact ⟨p, vs, e1, e2, f2, r', k'⟩
theorem qs_app {i : Nat} {call : Expr} (hpe : ∀ t : TA, PA X [e] t → PE X call (tBM X.K "list" rAppend (tVar i) t)) (he : QA g X [e] ta κ) (hs : swapsWith call none pos.line X.env = pure false := by rfl) :
    QS g X (.Expr call pos) (dApp i ta) κ := ⟨fun tk Fe He E hT hx => (ps_expr (hpe _ (he.pa tk Fe He E hT hx)) hs).dimp fun D' σ H h => by
  obtain ⟨F, α, D, ρ, A, ⟨ds, e, q⟩, k⟩ := h
  obtain ⟨p, vs, e1, e2, _⟩ := A.lst e
  refine ⟨.ref p, e1, .inl ⟨rfl, vs, SqL.of e2⟩, F, α, _, A.w, q, fun us H1 F1 ss st1 sub1 ok1 reps q1 => ?_⟩
  obtain ⟨d, rfl, hl, q1⟩ := q1
  obtain ⟨p', ws, f1, f2, f3, r3, k3⟩ := own_kept (κ' := ρ) A st1 sub1 ok1 e
  rw [e1] at f1
  cases f1
  obtain ⟨v, r', rfl, rd, hn⟩ := reps
  have hn' : r' = [] := hn
  subst hn'
  refine ⟨p, ws, v, rfl, rfl, f3, by rw [r3.length]; exact hl, k.nx σ _ ⟨F1, _, k3 _ _ (r3.append (.cons rd .nil)), q1⟩⟩⟩
def dExt (i : Nat) (u : DA) : DS := fun D α E => ∃ ds, α[i]? = some (some (.nw (.lst ds))) ∧ u α (fun ss => ∃ s es, ss = [s] ∧ s.view = .lst es ∧ ds.length + es.length ≤ sizeLine ∧ D.nx (α.set i (some (.nw (.lst (ds ++ es)))))) E
theorem qs_ext {i : Nat} {call : Expr} (hpe : ∀ t : TA, PA X [e] t → PE X call (tBM X.K "list" rExtend (tVar i) t)) (he : QA g X [e] ta κ) (hs : swapsWith call none pos.line X.env = pure false := by rfl) :
    QS g X (.Expr call pos) (dExt i ta) κ := ⟨fun tk Fe He E hT hx => (ps_expr (hpe _ (he.pa tk Fe He E hT hx)) hs).dimp fun D' σ H h => by
  obtain ⟨F, α, D, ρ, A, ⟨ds, e, q⟩, k⟩ := h
  obtain ⟨p, vs, e1, e2, _⟩ := A.lst e
  refine ⟨.ref p, e1, .inl ⟨rfl, vs, SqL.of e2⟩, F, α, _, A.w, q, fun us H1 F1 ss st1 sub1 ok1 reps q1 => ?_⟩
  obtain ⟨s, es, rfl, ev, hl, q1⟩ := q1
  obtain ⟨p', ws, f1, f2, f3, r3, k3⟩ := own_kept (κ' := ρ) A st1 sub1 ok1 e
  rw [e1] at f1
  cases f1
  obtain ⟨v, r', rfl, rd, hn⟩ := reps
  have hn' : r' = [] := hn
  subst hn'
  obtain ⟨a, zs, rfl, g2, g3⟩ := RepS.lst sub1 rd ev
  refine ⟨p, a, ws, zs, rfl, rfl, f3, g2, by rw [r3.length, g3.length]; exact hl, k.nx σ _ ⟨F1, _, k3 _ _ (r3.append g3), q1⟩⟩⟩
theorem Reps.dropLast_ {K : PySem.W.Frag} {F : Gh} {ds : List D} {d : D} {vs : List V} (h : Reps K g F (ds ++ [d]) vs) : ∃ ws v, vs = ws ++ [v] ∧ Reps K g F ds ws ∧ Rep K g F d v := by
  induction ds generalizing vs with
  | nil =>
    obtain ⟨v, r, rfl, q, t⟩ := h.inv_cons
    rw [t.inv_nil]
    exact ⟨[], v, rfl, .nil, q⟩
  | cons x ds ih =>
    obtain ⟨v, r, rfl, q, t⟩ := Reps.inv_cons (show Reps K g F (x :: (ds ++ [d])) vs from h)
    obtain ⟨ws, w, rfl, a, b⟩ := ih t
    exact ⟨v :: ws, w, rfl, .cons q a, b⟩
/-- target = x.pop() -/
def dPopG (i : Nat) (tg : DG) : DS := fun D α _ => ∃ ds d, α[i]? = some (some (.nw (.lst (ds ++ [d])))) ∧ tg d (α.set i (some (.nw (.lst ds)))) D.nx
theorem qs_popG {i : Nat} {call tg : Expr} {t : DG} (hpe : PE X call (tBM0 X.K "list" rPop (tVar i))) (hg : QG g X tg t) (hs : swapsWithSole [tg] call pos.line X.env = pure false := by rfl) (hw : swappedStores [tg] call X.env = pure none := by rfl)
    (h1 : (assignEach [tg] X.env).map (·.2) = [assign tg X.env] := by rfl) : QS g X (.Assign [tg] call pos) (dPopG i t) 0 := ⟨fun tk Fe He E hT hx => (ps_asg hpe (hg.pg tk Fe He hT) hs hw h1).dimp fun D' σ H h => by
  obtain ⟨F, α, D, ρ, A, ⟨ds, d, e, q⟩, k⟩ := h
  obtain ⟨p, vs, e1, e2, r, k2⟩ := A.lst e
  obtain ⟨ws, v, rfl, r1, r2⟩ := r.dropLast_
  refine ⟨.ref p, e1, .inl ⟨rfl, _, SqL.of e2⟩, p, _, v, rfl, rfl, e2, by simp, ?_⟩
  rw [List.dropLast_concat]
  exact ⟨F, _, d, D.nx, ρ, (k2 _ _ r1).w, r2, q, fun σ' α' A' q' => k.nx σ' _ ⟨F, α', A', q'⟩⟩⟩
/-- x[j] = e, x a list of one's own -/
def dSetIx (i : Nat) (te tj : DE) : DS := fun D α E => te α (fun r => tj α (fun s => ∃ d ds j n, r.fz = .fr d ∧ s.view = .int j ∧ α[i]? = some (some (.nw (.lst ds))) ∧ ixN ds.length j = some n ∧ D.nx (α.set i (some (.nw (.lst (ds.set n d)))))) E) E
/-- x += e of ints -/
def dAug (i : Nat) (f : Int → Int → Int) (te : DE) : DS := fun D α E => ∃ a, α[i]? = some (some (.fr (.int a))) ∧ te α (fun r => ∃ b, r.view = .int b ∧ D.nx (α.set i (some (.fr (.int (f a b)))))) E
theorem qs_aug {i : Nat} {x : Str} {op : Operator} {f : Int → Int → Int} {pos' : Pos} (hN : X.N.Nodup) (hi : X.N[i]? = some x) (hl : Loc X.env.scope x) (he : QE g X e te κ) (ho : PIp X op (ipI f)) (hf : X.fn x = true ∨ X.env.scope.names.lookup x = some .local := by first | exact .inl rfl | exact .inr rfl | assumption) :
    QS g X (.AugAssign (.Name x pos') op e pos) (dAug i f te) κ := ⟨fun tk Fe He E hT hx => (ps_aug hN hi hl (he.pe tk Fe He E hT hx) ho hf).dimp fun D' σ H h => by
  obtain ⟨F, α, D, ρ, A, ⟨a, ea, q⟩, k⟩ := h
  obtain ⟨v, e1, e2, _⟩ := A.val i _ ea
  have ev : v = .int a := Rep.int_ (K := X.K) (g := g) (F := F) e2
  subst ev
  refine ⟨.int a, e1, F, α, _, A.w, q, fun w H1 h1 => ?_⟩
  obtain ⟨F1, r, st1, sub1, ok1, rep1, _, b, eb, q1⟩ := h1
  have A2 := A.set' (K := X.K) (g := g) (κ' := ρ) i st1 sub1 ok1 (r := .fr (.int (f a b))) (v := .int (f a b)) (Rep.int (K := X.K) (g := g) (F := F1) _) (fun _ _ z => (nomatch z)) (fun _ z => (nomatch z))
  exact ⟨a, b, rfl, RepS.int rep1 eb, k.nx _ H1 ⟨F1, _, A2, q1⟩⟩⟩
/-- while c: body -/
def dWhile (c : DT) (t : DS) : DS := fun D α E => ∃ W : Nat → AE → Prop, (∃ m, W m α) ∧ ∀ m α, W m α → c α (fun b => if b = true then t { D with nx := fun α' => ∃ m', m' < m ∧ W m' α', ct := fun α' => ∃ m', m' < m ∧ W m' α', bk := D.nx } α E else D.nx α) E
theorem qs_while0 {c : Expr} {body : List Stmt} {tc : DT} (hp : PassesOwn (model X.prog X.w) X.A X.env X.xe) (hc : QT g X c tc 0) (hb : QSs g X body t 0) : QS g X (.While c body [] pos) (dWhile tc t) 0 := ⟨fun tk Fe He E hT hx => (ps_while hp (hc.pt tk Fe He E hT hx) (hb.ps tk Fe He E hT hx)).dimp fun D' σ H h => by
  obtain ⟨F, α, D, ρ, A, ⟨W, ⟨m0, w0⟩, turn⟩, k⟩ := h
  refine ⟨fun m σ H => ∃ F α, Ab X.K g tk ρ Fe He F H α σ ∧ W m α, ⟨m0, F, α, A.w, w0⟩, fun m σ H ⟨F, α, A, w⟩ => ?_⟩
  refine ⟨F, α, _, A.w, turn m α w, fun b H1 F1 st1 sub1 ok1 q1 => ?_⟩
  have A1 : Ab X.K g tk ρ Fe He F1 H1 α σ := A.step st1 sub1 ok1
  cases b with
  | true =>
    refine ⟨fun σ' H' => ∃ F α, Ab X.K g tk ρ Fe He F H' α σ' ∧ ∃ m', m' < m ∧ W m' α, fun σ' H' ⟨F, α, A, m', hm, w⟩ => ⟨m', hm, F, α, A, w⟩, F1, α, _, ρ, A1.w, q1, ⟨?_, k.rt, ?_, ?_⟩⟩
    · rintro σ' H' ⟨F', α', A', q'⟩
      exact ⟨F', α', A', q'⟩
    · rintro σ' H' ⟨F', α', A', q'⟩
      exact k.nx σ' H' ⟨F', α', A', q'⟩
    · rintro σ' H' ⟨F', α', A', q'⟩
      exact ⟨F', α', A', q'⟩
  | false => exact k.nx σ H1 ⟨F1, α, A1, q1⟩⟩
theorem qs_while {c : Expr} {body : List Stmt} {tc : DT} (hp : PassesOwn (model X.prog X.w) X.A X.env X.xe) (hc' : QT g X c tc κ1) (hb' : QSs g X body t κ2) (h1 : κ1 = 0 := by rfl) (h2 : κ2 = 0 := by rfl) : QS g X (.While c body [] pos) (dWhile tc t) 0 := by
  subst h1 h2
  exact qs_while0 hp hc' hb'
end

/-! ### what is walked -/
abbrev DI := AE → (List D → Prop) → (XD → Prop) → Prop
structure WalksD (K : PySem.W.Frag) (g : Gv) (tk : Tk) (J : It) (ds : List D) (F0 : Gh) : Prop where
  go : ∀ (F : Gh) (H : Hp) i, Same F0 F → Same F H → i < ds.length → J.go i H
  stop : ∀ (F : Gh) (H : Hp), Same F0 F → Same F H → J.stop ds.length H
  yld : ∀ (F : Gh) (H : Hp) i x H', Same F0 F → Same F H → tk.ok F H → i < ds.length → J.yld i H x H' → ∃ F' d, Step tk 0 F H F' H' ∧ Same F' H' ∧ tk.ok F' H' ∧ ds[i]? = some d ∧ Rep K g F' d x
def LI (K : PySem.W.Frag) (g : Gv) (tk : Tk) (κ : Nat) (Fe : Gh) (He : Hp) (E : XD → Prop) (t : DI) : TI := fun σ H R =>
  ∃ F α Q, Ab K g tk κ Fe He F H α σ ∧ t α Q E ∧ ∀ J F' H' ds, Step tk κ F H F' H' → Same F' H' → tk.ok F' H' → Q ds → WalksD K g tk J ds F' → R J H'
structure QI (g : Gv) (X : Cx) (tg iter : Expr) (t : DI) (κ : Nat) : Prop where
  pi : ∀ (tk : Tk) (Fe : Gh) (He : Hp) (E : XD → Prop), g.T tk → Takes X (WD X.K g tk Fe He E) → PI X tg iter (LI X.K g tk κ Fe He E t)
theorem _root_.L2.PI.dimp {X : Cx} {tg e : Expr} {t t' : TI} (h : PI X tg e t) (k : ∀ σ H R, t' σ H R → t σ H R) : PI X tg e t' := ⟨fun pins s σ H R I q => h.run pins s σ H R I (k σ H R q)⟩
/-- the base moved on, its draws and cap stay -/
@[reducible] def Gh.on (F Fe : Gh) : Gh := ⟨F.m, Fe.b, Fe.c⟩
theorem Step.rebase {tk : Tk} {κa κ : Nat} {Fe F3 F' : Gh} {He H3 H' : Hp} (a : Step tk κa Fe He F3 H3) (b : Step tk κ (F3.on Fe) He F' H') : Step tk κ Fe He F' H' := by
  refine ⟨a.fr.trans b.fr, fun x o e n => ?_, b.kp, b.ad, b.tm⟩
  cases q : F3.m x with
  | some u => exact a.nw x u q n
  | none => exact b.nw x o e q
theorem Step.based {tk : Tk} {κ : Nat} {Fe F3 : Gh} {He H3 : Hp} (a : Step tk κ Fe He F3 H3) : Step tk κ (F3.on Fe) He F3 H3 := ⟨Same.refl _, fun _ _ e n => by (rw [n] at e; cases e), a.kp, a.ad, a.tm⟩
theorem Ab.based {K : PySem.W.Frag} {g : Gv} {tk : Tk} {κ : Nat} {Fe F : Gh} {He H : Hp} {α : AE} {σ : L2.St} (A : Ab K g tk κ Fe He F H α σ) : Ab K g tk κ (F.on Fe) He F H α σ := ⟨A.sub, A.ok, A.st.based, A.cap, A.lim, A.len, A.val, A.nob, A.apart⟩
theorem Ab.rebase {K : PySem.W.Frag} {g : Gv} {tk : Tk} {κa κ : Nat} {Fe F3 F : Gh} {He H3 H : Hp} {α : AE} {σ : L2.St} (a : Step tk κa Fe He F3 H3) (A : Ab K g tk κ (F3.on Fe) He F H α σ) : Ab K g tk κ Fe He F H α σ := ⟨A.sub, A.ok, a.rebase A.st, A.cap, A.lim, A.len, A.val, A.nob, A.apart⟩
theorem VO.rebase {K : PySem.W.Frag} {g : Gv} {tk : Tk} {κa κ : Nat} {Fe F3 : Gh} {He H3 : Hp} {Q : S → Prop} {v : V} {H' : Hp} (a : Step tk κa Fe He F3 H3) (h : VO K g tk κ (F3.on Fe) He Q v H') : VO K g tk κ Fe He Q v H' := by
  obtain ⟨F', r, st, z⟩ := h
  exact ⟨F', r, a.rebase st, z⟩
theorem Takes.based {g : Gv} {X : Cx} {tk : Tk} {κa : Nat} {Fe F3 : Gh} {He H3 : Hp} {E : XD → Prop} (a : Step tk κa Fe He F3 H3) (h : Takes X (WD X.K g tk Fe He E)) : Takes X (WD X.K g tk (F3.on Fe) He E) := h.imp fun c d σ H w => by
  obtain ⟨F', c, ns, ds, vs, st, z⟩ := w
  exact ⟨F', c, ns, ds, vs, a.rebase st, z⟩
def LSx (g : Gv) (X : Cx) (tk : Tk) (κ : Nat) (He : Hp) (E : XD → Prop) (t : DS) : TS := fun D' σ H => ∃ Fb, Takes X (WD X.K g tk Fb He E) ∧ LS X.K g tk κ Fb He E t D' σ H
theorem QSs.psx {g : Gv} {X : Cx} {st : List Stmt} {t : DS} (h : QSs g X st t κ) (tk : Tk) (He : Hp) (E : XD → Prop) (hT : g.T tk) : PSs X st (LSx g X tk κ He E t) := ⟨fun pins s σ H D I q => by
  obtain ⟨Fb, hx, q⟩ := q
  exact (h.ps tk Fb He E hT hx).run pins s σ H D I q⟩
def LGx (g : Gv) (X : Cx) (tk : Tk) (He : Hp) (t : DG) : TG := fun v σ H Q' => ∃ Fb, LG X.K g tk Fb He t v σ H Q'
theorem QG.pgx {g : Gv} {X : Cx} {tg : Expr} {t : DG} (h : QG g X tg t) (tk : Tk) (He : Hp) (hT : g.T tk) : PG X tg (LGx g X tk He t) := ⟨fun pins s σ H v u Q I r q => by
  obtain ⟨Fb, q⟩ := q
  exact (h.pg tk Fb He hT).run pins s σ H v u Q I r q⟩
/-- a for over data: the turns one by one -/
def forD (tg : DG) (t : DS) (De : DEnds) (E : XD → Prop) : List D → AE → Prop
  | [], α => De.nx α
  | d :: ds, α => tg d α (fun α' => t { De with nx := forD tg t De E ds, ct := forD tg t De E ds, bk := De.nx } α' E)
def dFor (it : DI) (tg : DG) (t : DS) : DS := fun De α E => it α (fun ds => forD tg t De E ds α) E
def dForP (P : List D → Prop) (it : DI) (tg : DG) (t : DS) : DS := fun De α E => it α (fun ds => P ds ∧ forD tg t De E ds α) E
/-- turns with draws: how many at most -/
def fLim : Nat := 2 ^ 70
def dForC (it : DI) (tg : DG) (t : DS) : DS := dForP (fun ds => ds.length ≤ fLim) it tg t
theorem turns_left {n i κ : Nat} (h : i < n) : (n - i) * κ = κ + (n - (i + 1)) * κ := by
  have e : n - i = (n - (i + 1)) + 1 := by omega
  rw [e, Nat.succ_mul, Nat.add_comm]
section
variable {g : Gv} {X : Cx} {pos : Pos} {t : DS}
theorem qs_forP {P : List D → Prop} {κL : Nat} {iter tg : Expr} {body : List Stmt} {it : DI} {tgd : DG} (hP : ∀ ds, P ds → ds.length * κ2 ≤ κL) (hp : PassesOwn (model X.prog X.w) X.A X.env X.xe) (hc : X.calm = true) (hi : QI g X tg iter it κ1) (hg : QG g X tg tgd) (hb : QSs g X body t κ2) (hs : ∀ x, foldedSetIterable iter X.env x = pure x := by intro _; rfl) :
    QS g X (.For tg iter body [] pos) (dForP P it tgd t) (κ1 + κL) := ⟨fun tk Fe He E hT hx => (ps_for hp hc (hi.pi tk Fe He E hT hx) (hg.pgx tk He hT) (hb.psx tk He E hT) hs).dimp fun D' σ H h => by
  obtain ⟨F, α, De, ρ, A, q, k⟩ := h
  refine ⟨F, α, _, A.w, q, fun J F1 H1 ds st1 sub1 ok1 q1 w => ?_⟩
  obtain ⟨qp, q1⟩ := q1
  have lp := hP ds qp
  have A1 : Ab X.K g tk (ds.length * κ2 + ρ) Fe He F1 H1 α σ := A.step st1 sub1 ok1
  have hx1 : Takes X (WD X.K g tk (F1.on Fe) He E) := Takes.based A1.st hx
  refine ⟨fun i m σ H => m = ds.length - i ∧ i ≤ ds.length ∧ ∃ F α, Ab X.K g tk ((ds.length - i) * κ2 + ρ) (F1.on Fe) He F H α σ ∧ forD tgd t De E (ds.drop i) α, ⟨ds.length, by simp, Nat.zero_le _, F1, α, A1.based, q1⟩, ?_⟩
  rintro i m σ H ⟨rfl, hi, F2, α2, A2, q2⟩
  have s2 : Same F1 F2 := A2.st.fr
  by_cases hlt : i < ds.length
  · refine .inr ⟨w.go F2 H i s2 A2.sub hlt, fun σ' H' => ∃ F α, Ab X.K g tk ((ds.length - (i + 1)) * κ2 + ρ) (F1.on Fe) He F H' α σ' ∧ forD tgd t De E (ds.drop (i + 1)) α, fun σ' H' z => ⟨ds.length - (i + 1), by omega, rfl, hlt, z⟩, fun x H3 y => ?_⟩
    obtain ⟨F3, d, st3, sub3, ok3, ed, rp⟩ := w.yld F2 H i x H3 s2 A2.sub A2.ok hlt y
    have e : ds.drop i = d :: ds.drop (i + 1) := by
      rw [List.drop_eq_getElem_cons hlt]
      rw [List.getElem?_eq_getElem hlt] at ed
      cases ed
      rfl
    rw [e] at q2
    have tl := turns_left (κ := κ2) hlt
    have A3 : Ab X.K g tk (κ2 + ((ds.length - (i + 1)) * κ2 + ρ)) (F1.on Fe) He F3 H3 α2 σ := A2.step st3 sub3 ok3
    refine ⟨F1.on Fe, F3, α2, d, _, _, A3, rp, q2, fun σ4 α4 A4 q4 => ⟨F1.on Fe, hx1, F3, α4, _, (ds.length - (i + 1)) * κ2 + ρ, A4, q4, ⟨?_, ?_, ?_, ?_⟩⟩⟩
    · rintro σ' H' ⟨F', α', A', q'⟩
      exact ⟨F', α', A', q'⟩
    · intro v H' h'
      exact k.rt v H' (h'.rebase A1.st)
    · rintro σ' H' ⟨F', α', A', q'⟩
      exact k.nx σ' H' ⟨F', α', (A'.rebase A1.st).w, q'⟩
    · rintro σ' H' ⟨F', α', A', q'⟩
      exact ⟨F', α', A', q'⟩
  · have e : i = ds.length := by omega
    subst e
    rw [List.drop_length] at q2
    exact .inl ⟨w.stop F2 H s2 A2.sub, k.nx σ H ⟨F2, α2, (A2.rebase A1.st).w, q2⟩⟩⟩
theorem qs_for {iter tg : Expr} {body : List Stmt} {it : DI} {tgd : DG} (hp : PassesOwn (model X.prog X.w) X.A X.env X.xe) (hc : X.calm = true) (hi : QI g X tg iter it κ1) (hg : QG g X tg tgd) (hb : QSs g X body t κ2) (hs : ∀ x, foldedSetIterable iter X.env x = pure x := by intro _; rfl) (h0 : κ2 = 0 := by rfl) :
    QS g X (.For tg iter body [] pos) (dFor it tgd t) κ1 := by
  subst h0
  have z := qs_forP (P := fun _ => True) (κL := 0) (pos := pos) (fun ds _ => Nat.le_of_eq (Nat.mul_zero _)) hp hc hi hg hb hs
  have e : dForP (fun _ => True) it tgd t = dFor it tgd t := by
    funext De α E
    unfold dForP dFor
    congr 1
    funext ds
    exact propext ⟨fun h => h.2, fun h => ⟨trivial, h⟩⟩
  rw [e] at z
  exact z
theorem qs_forC {iter tg : Expr} {body : List Stmt} {it : DI} {tgd : DG} (hp : PassesOwn (model X.prog X.w) X.A X.env X.xe) (hc : X.calm = true) (hi : QI g X tg iter it κ1) (hg : QG g X tg tgd) (hb : QSs g X body t κ2) (hs : ∀ x, foldedSetIterable iter X.env x = pure x := by intro _; rfl) :
    QS g X (.For tg iter body [] pos) (dForC it tgd t) (κ1 + fLim * κ2) := qs_forP (fun ds h => Nat.mul_le_mul_right _ h) hp hc hi hg hb hs
/-! a list, a tuple; ranges; zip -/
theorem walksD_of {K : PySem.W.Frag} {tk : Tk} {J : It} {ds : List D} {F0 : Gh} {G : Hp → Prop} {Y : Nat → Hp → V → Hp → Prop} (w : Walk J ds.length G Y) (hG : ∀ (F : Gh) (H : Hp), Same F0 F → Same F H → G H)
    (hY : ∀ (F : Gh) (H : Hp) i x H', Same F0 F → Same F H → tk.ok F H → i < ds.length → Y i H x H' → ∃ F' d, Step tk 0 F H F' H' ∧ Same F' H' ∧ tk.ok F' H' ∧ ds[i]? = some d ∧ Rep K g F' d x) : WalksD K g tk J ds F0 :=
  ⟨fun F H i s sub hi => w.goes i H hi (hG F H s sub), fun F H s sub => w.stops H (hG F H s sub), fun F H i x H' s sub ok hi y => hY F H i x H' s sub ok hi (w.yields i H x H' hi (hG F H s sub) y)⟩
theorem walks_list {K : PySem.W.Frag} {tk : Tk} {a : Addr} {ds : List D} {vs : List V} {F0 : Gh} (h : F0.m a = some (.lst vs)) (r : Reps K g F0 ds vs) : WalksD K g tk (Itl K a) ds F0 := by
  have w : Walk (Itl K a) ds.length (fun H => SqL K H a vs) (YAt vs) := by
    rw [← r.length]
    exact walk_list
  refine walksD_of w (fun F H s sub => SqL.of (sub _ _ (s _ _ h))) fun F H i x H' s sub ok hi y => ?_
  obtain ⟨rfl, e⟩ := y
  obtain ⟨d, e1, rp⟩ := r.getV e
  exact ⟨F, d, Step.refl _ _ _, sub, ok, e1, rp.mono s⟩
theorem walks_scr {K : PySem.W.Frag} {tk : Tk} {a : Addr} {ns : List Int} {F0 : Gh} (h : SqL K F0 a (ns.map V.int)) : WalksD K g tk (Itl K a) (ns.map D.int) F0 := by
  have w : Walk (Itl K a) (ns.map D.int).length (fun H => SqL K H a (ns.map V.int)) (YAt (ns.map V.int)) := by
    have e : (ns.map D.int).length = (ns.map V.int).length := by rw [List.length_map, List.length_map]
    rw [e]
    exact walk_list
  refine walksD_of w (fun F H s sub => sub.seq (s.seq h)) fun F H i x H' s sub ok hi y => ?_
  obtain ⟨rfl, e⟩ := y
  rw [List.getElem?_map] at e
  cases q : ns[i]? with
  | none => rw [q] at e; cases e
  | some n =>
    rw [q] at e
    cases e
    exact ⟨F, .int n, Step.refl _ _ _, sub, ok, by rw [List.getElem?_map, q]; rfl, Rep.int n⟩
theorem walks_tup {K : PySem.W.Frag} {tk : Tk} {a : Addr} {ds : List D} {vs : List V} {F0 : Gh} (h : SqT K F0 a vs) (r : Reps K g F0 ds vs) : WalksD K g tk (Itt K a) ds F0 := by
  have w : Walk (Itt K a) ds.length (fun H => SqT K H a vs) (YAt vs) := by
    rw [← r.length]
    exact walk_tup
  refine walksD_of w (fun F H s sub => sqT_same sub (sqT_same s h)) fun F H i x H' s sub ok hi y => ?_
  obtain ⟨rfl, e⟩ := y
  obtain ⟨d, e1, rp⟩ := r.getV e
  exact ⟨F, d, Step.refl _ _ _, sub, ok, e1, rp.mono s⟩
def rangeD (lo : Int) (n : Nat) : List D := (List.range n).map fun i => .int (lo + (i : Nat))
theorem walks_range {K : PySem.W.Frag} {tk : Tk} {lo : Int} {n : Nat} {F0 : Gh} : WalksD K g tk (Itr lo n) (rangeD lo n) F0 := by
  have el : (rangeD lo n).length = n := by unfold rangeD; rw [List.length_map, List.length_range]
  have w : Walk (Itr lo n) (rangeD lo n).length (fun _ => True) (YFn fun i => .int (lo + i)) := by
    rw [el]
    exact walk_range
  refine walksD_of w (fun _ _ _ _ => trivial) fun F H i x H' s sub ok hi y => ?_
  obtain ⟨rfl, e⟩ := y
  subst e
  rw [el] at hi
  refine ⟨F, .int (lo + i), Step.refl _ _ _, sub, ok, ?_, Rep.int _⟩
  unfold rangeD
  rw [List.getElem?_map, List.getElem?_range hi]
  rfl
/-- over a list: what it holds -/
def dIterL (te : DE) : DI := fun α Q E => te α (fun s => (∃ ds, s.fz = .fr (.lst ds) ∧ Q ds) ∨ ∃ ns, s.fz = .fr (.scr ns) ∧ Q (ns.map D.int)) E
def dIterT (te : DE) : DI := fun α Q E => te α (fun s => ∃ ds, s.fz = .fr (.tup ds) ∧ Q ds) E
theorem qi_list {e tg : Expr} {te : DE} (he : QE g X e te κ) : QI g X tg e (dIterL te) κ := ⟨fun tk Fe He E hT hx => (pi_list (he.pe tk Fe He E hT hx)).dimp fun σ H R h => by
  obtain ⟨F, α, Q, A, q, k⟩ := h
  refine ⟨F, α, _, A.w, q, fun v H1 h1 => ?_⟩
  obtain ⟨F1, r, st1, sub1, ok1, rep1, q1⟩ := h1.fz
  rcases q1 with ⟨ds, e1, q1⟩ | ⟨ns, e1, q1⟩
  · rw [e1] at rep1
    obtain ⟨a, vs, rfl, h2, h3⟩ := Rep.lst_ rep1
    exact ⟨a, rfl, ⟨vs, SqL.of (sub1 _ _ h2)⟩, k _ F1 H1 ds st1 sub1 ok1 q1 (walks_list h2 h3)⟩
  · rw [e1] at rep1
    have rp : Rep X.K g F1 (.scr ns) v := rep1
    unfold Rep at rp
    obtain ⟨a, rfl, h2⟩ := rp
    exact ⟨a, rfl, ⟨_, sub1.seq h2⟩, k _ F1 H1 _ st1 sub1 ok1 q1 (walks_scr h2)⟩⟩
theorem qi_tup {e tg : Expr} {te : DE} (he : QE g X e te κ) : QI g X tg e (dIterT te) κ := ⟨fun tk Fe He E hT hx => (pi_tup (he.pe tk Fe He E hT hx)).dimp fun σ H R h => by
  obtain ⟨F, α, Q, A, q, k⟩ := h
  refine ⟨F, α, _, A.w, q, fun v H1 h1 => ?_⟩
  obtain ⟨F1, r, st1, sub1, ok1, rep1, ds, e1, q1⟩ := h1.fz
  rw [e1] at rep1
  obtain ⟨a, vs, rfl, h2, h3⟩ := Rep.tup_ rep1
  exact ⟨a, rfl, ⟨vs, sqT_same sub1 h2⟩, k _ F1 H1 ds st1 sub1 ok1 q1 (walks_tup h2 h3)⟩⟩
theorem RepSs.one {K : PySem.W.Frag} {tk : Tk} {F : Gh} {H : Hp} {s : S} {vs : List V} (h : RepSs K g tk F H [s] vs) : ∃ v, vs = [v] ∧ RepS K g tk F H s v := by
  obtain ⟨v, r, rfl, q, hn⟩ := h
  have hn' : r = [] := hn
  subst hn'
  exact ⟨v, rfl, q⟩
theorem RepSs.two {K : PySem.W.Frag} {tk : Tk} {F : Gh} {H : Hp} {s t : S} {vs : List V} (h : RepSs K g tk F H [s, t] vs) : ∃ v w, vs = [v, w] ∧ RepS K g tk F H s v ∧ RepS K g tk F H t w := by
  obtain ⟨v, r, rfl, q, t⟩ := h
  obtain ⟨w, rfl, q2⟩ := RepSs.one t
  exact ⟨v, w, rfl, q, q2⟩
def dRng1 (u : DA) : DI := fun α Q E => u α (fun ss => ∃ j, ss = [.fr (.int j)] ∧ -(2 ^ 62) ≤ j ∧ j < 2 ^ 62 ∧ Q (rangeD 0 j.toNat)) E
def dRng2 (u : DA) : DI := fun α Q E => u α (fun ss => ∃ i j, ss = [.fr (.int i), .fr (.int j)] ∧ (-(2 ^ 62) ≤ i ∧ i < 2 ^ 62 ∧ -(2 ^ 62) ≤ j ∧ j < 2 ^ 62) ∧ Q (rangeD i (j - i).toNat)) E
theorem qi_rng1 {a tg : Expr} {u : DA} {p : Pos} (hg : Gl X "range") (hm : X.mg "range" = none) (ha : QA g X [a] u κ) (hs : starEach [a] X.env = [(false, eval a X.env)] := by rfl) : QI g X tg (.Call (.Name "range" p) [a] [] pos) (dRng1 u) κ := ⟨fun tk Fe He E hT hx => (pi_range1 hg hm (ha.pa tk Fe He E hT hx) hs).dimp fun σ H R h => by
  obtain ⟨F, α, Q, A, q, k⟩ := h
  refine ⟨F, α, _, A.w, q, fun vs H1 F1 ss st1 sub1 ok1 reps q1 => ?_⟩
  obtain ⟨j, rfl, b1, b2, q1⟩ := q1
  obtain ⟨v, rfl, r⟩ := RepSs.one reps
  have ev : v = .int j := Rep.int_ (K := X.K) (g := g) (F := F1) r
  exact ⟨j, by rw [ev], b1, b2, k _ F1 H1 _ st1 sub1 ok1 q1 walks_range⟩⟩
theorem qi_rng2 {a b tg : Expr} {u : DA} {p : Pos} (hg : Gl X "range") (hm : X.mg "range" = none) (ha : QA g X [a, b] u κ) (hs : starEach [a, b] X.env = [(false, eval a X.env), (false, eval b X.env)] := by rfl) (hs2 : starEach [b] X.env = [(false, eval b X.env)] := by rfl) :
    QI g X tg (.Call (.Name "range" p) [a, b] [] pos) (dRng2 u) κ := ⟨fun tk Fe He E hT hx => (pi_range2 hg hm (ha.pa tk Fe He E hT hx) hs hs2).dimp fun σ H R h => by
  obtain ⟨F, α, Q, A, q, k⟩ := h
  refine ⟨F, α, _, A.w, q, fun vs H1 F1 ss st1 sub1 ok1 reps q1 => ?_⟩
  obtain ⟨i, j, rfl, b, q1⟩ := q1
  obtain ⟨v, w, rfl, r1, r2⟩ := RepSs.two reps
  have ev : v = .int i := Rep.int_ (K := X.K) (g := g) (F := F1) r1
  have ew : w = .int j := Rep.int_ (K := X.K) (g := g) (F := F1) r2
  exact ⟨i, j, by rw [ev, ew], b, k _ F1 H1 _ st1 sub1 ok1 q1 walks_range⟩⟩
/-- new pairs -/
theorem pair_step {K : PySem.W.Frag} {tk : Tk} {F : Gh} {H H' : Hp} {x : V} {d e : D} {v w : V} (sub : Same F H) (ok : tk.ok F H) (rd : Rep K g F d v) (re : Rep K g F e w) (y : ∃ T, x = .ref T ∧ H T = none ∧ H' = upd H T (.tup [v, w])) :
    ∃ F', Step tk 0 F H F' H' ∧ Same F' H' ∧ tk.ok F' H' ∧ Rep K g F' (.tup [d, e]) x := by
  obtain ⟨T, rfl, hT, rfl⟩ := y
  obtain ⟨F', r, st, sub', ok', rp, _, e'⟩ := VO.tup (K := K) (g := g) (Q := fun s => s = .fr (.tup [d, e])) sub ok hT (.cons rd (.cons re .nil)) rfl
  subst e'
  exact ⟨F', st, sub', ok', rp⟩
def pairsD (xs ys : List D) : List D := List.zipWith (fun x y => .tup [x, y]) xs ys
theorem pairs_get {xs ys : List D} {i : Nat} {x y : D} (h1 : xs[i]? = some x) (h2 : ys[i]? = some y) : (pairsD xs ys)[i]? = some (.tup [x, y]) := by
  unfold pairsD
  rw [List.getElem?_zipWith, h1, h2]
theorem walks_zip {K : PySem.W.Frag} {tk : Tk} {a b : Addr} {xs ys : List D} {vs ws : List V} {F0 : Gh} (h1 : F0.m a = some (.lst vs)) (r1 : Reps K g F0 xs vs) (h2 : F0.m b = some (.lst ws)) (r2 : Reps K g F0 ys ws) : WalksD K g tk (Itz K a b) (pairsD xs ys) F0 := by
  have el : (pairsD xs ys).length = min vs.length ws.length := by unfold pairsD; rw [List.length_zipWith, r1.length, r2.length]
  refine walksD_of (walk_zip el) (fun F H s sub => ⟨SqL.of (sub _ _ (s _ _ h1)), SqL.of (sub _ _ (s _ _ h2))⟩) fun F H i x H' s sub ok hi y => ?_
  obtain ⟨T, v, w, e0, e1, e2, e3, e4⟩ := y
  obtain ⟨d, f1, rd⟩ := r1.getV e3
  obtain ⟨e, f2, re⟩ := r2.getV e4
  obtain ⟨F', st, sub', ok', rp⟩ := pair_step sub ok (rd.mono s) (re.mono s) ⟨T, e0, e1, e2⟩
  exact ⟨F', _, st, sub', ok', pairs_get f1 f2, rp⟩
def dZip (u : DA) : DI := fun α Q E => u α (fun ss => ∃ xs ys, ss = [.fr (.lst xs), .fr (.lst ys)] ∧ Q (pairsD xs ys)) E
theorem qi_zip {e e2 : Expr} {u : DA} {p tpos : Pos} {elts : List Expr} {kk : Nat} (hg : Gl X "zip") (hm : X.mg "zip" = none) (ha : QA g X [e, e2] u κ)
    (hs : starEach [e, e2] X.env = (false, eval e X.env) :: starEach [e2] X.env := by rfl) (hpl : (backTo pos (starEach [e2] X.env)).any (·.1) = false := by rfl) : QI g X (.Tuple elts kk tpos) (.Call (.Name "zip" p) [e, e2] [] pos) (dZip u) κ := ⟨fun tk Fe He E hT hx => (pi_zip hg hm (ha.pa tk Fe He E hT hx) hs hpl).dimp fun σ H R h => by
  obtain ⟨F, α, Q, A, q, k⟩ := h
  refine ⟨F, α, _, A.w, q, fun vs H1 F1 ss st1 sub1 ok1 reps q1 => ?_⟩
  obtain ⟨xs, ys, rfl, q1⟩ := q1
  obtain ⟨v, w, rfl, r1, r2⟩ := RepSs.two reps
  obtain ⟨a, vs, rfl, h2, h3⟩ := Rep.lst_ (K := X.K) (g := g) (F := F1) r1
  obtain ⟨b, ws, rfl, h4, h5⟩ := Rep.lst_ (K := X.K) (g := g) (F := F1) r2
  exact ⟨a, b, vs, ws, rfl, SqL.of (sub1 _ _ h2), SqL.of (sub1 _ _ h4), k _ F1 H1 _ st1 sub1 ok1 q1 (walks_zip h2 h3 h4 h5)⟩⟩
end
end DL

set_option Elab.async false
set_option linter.all false
set_option maxRecDepth 100000
set_option maxHeartbeats 4000000
namespace DL
open PySem PySem.Spec L2

/-! ### targets of a block: only its own slots change -/
def LGv (K : PySem.W.Frag) (g : Gv) (tk : Tk) (Fe : Gh) (He : Hp) (vs : List Nat) (t : DG) : TG := fun v σ H Q' =>
  ∃ F α d Q κ, Ab K g tk κ Fe He F H α σ ∧ Rep K g F d v ∧ t d α Q ∧ ∀ σ' α', Ab K g tk κ Fe He F H α' σ' → wipe σ' vs = wipe σ vs → Q α' → Q' σ' H
def LGsv (K : PySem.W.Frag) (g : Gv) (tk : Tk) (Fe : Gh) (He : Hp) (vs : List Nat) (t : List D → AE → (AE → Prop) → Prop) : TGs := fun us σ H Q' =>
  ∃ F α ds Q κ, Ab K g tk κ Fe He F H α σ ∧ Reps K g F ds us ∧ t ds α Q ∧ ∀ σ' α', Ab K g tk κ Fe He F H α' σ' → wipe σ' vs = wipe σ vs → Q α' → Q' σ' H
structure QGv (g : Gv) (X : Cx) (tg : Expr) (vs : List Nat) (t : DG) : Prop where
  pg : ∀ (tk : Tk) (Fe : Gh) (He : Hp), g.T tk → PG X tg (LGv X.K g tk Fe He vs t)
structure QGsv (g : Gv) (X : Cx) (ts : List Expr) (vs : List Nat) (t : List D → AE → (AE → Prop) → Prop) : Prop where
  pg : ∀ (tk : Tk) (Fe : Gh) (He : Hp), g.T tk → PGs X ts (LGsv X.K g tk Fe He vs t)
theorem wipe_get {σ : L2.St} : ∀ (vs : List Nat) (j : Nat), (wipe σ vs)[j]? = if j ∈ vs ∧ j < σ.length then some none else σ[j]?
  | [], j => by
    unfold wipe
    simp
  | v :: vs, j => by
    unfold wipe
    by_cases h : v = j
    · subst h
      by_cases hl : v < σ.length
      · rw [List.getElem?_set_self (by rw [wipe_length]; exact hl), if_pos ⟨by simp, hl⟩]
      · rw [List.getElem?_eq_none (by rw [List.length_set, wipe_length]; omega), if_neg (fun z => hl z.2), List.getElem?_eq_none (by omega)]
    · rw [List.getElem?_set_ne h, wipe_get vs j]
      have e : (j ∈ v :: vs) ↔ (j ∈ vs) := by
        rw [List.mem_cons]
        exact ⟨fun z => z.elim (fun q => absurd q.symm h) id, .inr⟩
      simp only [e]
theorem wipe_wipe {σ : L2.St} {vs : List Nat} : wipe (wipe σ vs) vs = wipe σ vs := by
  apply List.ext_getElem?
  intro j
  rw [wipe_get, wipe_length, wipe_get]
  by_cases hj : j ∈ vs ∧ j < σ.length
  · rw [if_pos hj, if_pos hj]
  · rw [if_neg hj]
theorem wipe_set {σ : L2.St} {vs : List Nat} {i : Nat} {x : Option V} (h : i ∈ vs) : wipe (σ.set i x) vs = wipe σ vs := by
  apply List.ext_getElem?
  intro j
  rw [wipe_get, wipe_get, List.length_set]
  by_cases hj : j ∈ vs ∧ j < σ.length
  · rw [if_pos hj, if_pos hj]
  · rw [if_neg hj, if_neg hj]
    by_cases e : i = j
    · subst e
      have hl : ¬ i < σ.length := fun z => hj ⟨h, z⟩
      rw [List.getElem?_eq_none (by rw [List.length_set]; omega), List.getElem?_eq_none (by omega)]
    · rw [List.getElem?_set_ne e]
section
variable {g : Gv} {X : Cx} {e : Expr} {pos : Pos} {vs : List Nat}
theorem qgv_name {i : Nat} {x : Str} (hN : X.N.Nodup) (hi : X.N[i]? = some x) (hl : Loc X.env.scope x) (hm : i ∈ vs) (hf : X.fn x = true ∨ X.env.scope.names.lookup x = some .local := by first | exact .inl rfl | exact .inr rfl | assumption) : QGv g X (.Name x pos) vs (gNm i) :=
  ⟨fun tk Fe He hT => (pg_name hN hi hl hf).dimp fun v σ H Q' h => by
    obtain ⟨F, α, d, Q, κ, A, r, q, k⟩ := h
    exact k _ _ (A.set' (κ1 := 0) i (Step.refl _ _ _) A.sub A.ok (r := .fr d) r (fun d p z => nomatch z) fun d z => nomatch z) (wipe_set hm) q⟩
theorem qgsv_nil : QGsv g X [] vs gsNil := ⟨fun tk Fe He hT => pgs_nil.dimp fun us σ H Q' h => by
    obtain ⟨F, α, ds, Q, κ, A, r, q, k⟩ := h
    obtain ⟨rfl, q⟩ := q
    exact ⟨r.inv_nil, k σ α A rfl q⟩⟩
theorem qgsv_cons {es : List Expr} {t : DG} {u : List D → AE → (AE → Prop) → Prop} (h1 : QGv g X e vs t) (h2 : QGsv g X es vs u) (hs : (assignEach (e :: es) X.env).map (·.2) = assign e X.env :: (assignEach es X.env).map (·.2) := by rfl) : QGsv g X (e :: es) vs (gsCons t u) :=
  ⟨fun tk Fe He hT => (pgs_cons (h1.pg tk Fe He hT) (h2.pg tk Fe He hT) hs).dimp fun us σ H Q' h => by
    obtain ⟨F, α, ds, Q, κ, A, r, ⟨d, ds', rfl, q⟩, k⟩ := h
    obtain ⟨v, vs', rfl, rd, rs⟩ := r.inv_cons
    exact ⟨v, vs', rfl, F, α, d, _, κ, A, rd, q, fun σ' α' A' w q' => ⟨F, α', ds', Q, κ, A', rs, q', fun σ2 α2 A2 w2 q2 => k σ2 α2 A2 (w2.trans w) q2⟩⟩⟩
theorem qgv_tup {es : List Expr} {k : Nat} {t : List D → AE → (AE → Prop) → Prop} {n : Nat} (hc : X.calm = true) (h : QGsv g X es vs t) (hn : (assignEach es X.env).length = n := by rfl) (hst : (assignEach es X.env).findIdx? (·.1) = none := by rfl) : QGv g X (.Tuple es k pos) vs (gTp n t) :=
  ⟨fun tk Fe He hT => (pg_tup hc (h.pg tk Fe He hT) hn hst).dimp fun v σ H Q' h => by
    obtain ⟨F, α, d, Q, κ, A, r, ⟨ds, rfl, hl, q⟩, k⟩ := h
    obtain ⟨a, vs, rfl, h2, h3⟩ := Rep.tup_ r
    exact ⟨a, vs, rfl, sqT_same A.sub h2, h3.length.trans hl, F, α, ds, Q, κ, A, h3, q, k⟩⟩
end

/-! ### tests of a block -/
def LTs (K : PySem.W.Frag) (g : Gv) (tk : Tk) (κ : Nat) (Fe : Gh) (He : Hp) (t : DT) : TT := LT K g tk κ Fe He (fun _ => False) t
structure QTs (g : Gv) (X : Cx) (es : List Expr) (t : DT) (κ : Nat) : Prop where
  pt : ∀ (tk : Tk) (Fe : Gh) (He : Hp), g.T tk → Takes X (WD X.K g tk Fe He fun _ => False) → PTs X es (LTs X.K g tk κ Fe He t)
theorem _root_.L2.PTs.dimp {X : Cx} {e : List Expr} {t t' : TT} (h : PTs X e t) (k : ∀ σ H Q, t' σ H Q → t σ H Q) : PTs X e t' := ⟨fun pins s σ H Q I q => h.run pins s σ H Q I (k σ H Q q)⟩
def dYes : DT := fun _ Q _ => Q true
section
variable {g : Gv} {X : Cx} {e : Expr} {pos : Pos}
theorem qts_nil : QTs g X [] dYes 0 := ⟨fun tk Fe He hT hx => pts_nil.dimp fun σ H Q' h => by
  obtain ⟨F, α, Q, A, q, k⟩ := h
  exact k true H F (Step.refl _ _ _) A.sub A.ok q⟩
theorem qts_one {t : DT} (h : QT g X e t κ) : QTs g X [e] t κ := ⟨fun tk Fe He hT hx => pts_one (h.pt tk Fe He _ hT hx)⟩
end

/-! ### slots without a value -/
def wipeA (α : AE) : List Nat → AE
  | [] => α
  | v :: vs => (wipeA α vs).set v none
theorem Ab.unset {K : PySem.W.Frag} {g : Gv} {tk : Tk} {Fe : Gh} {He : Hp} {F : Gh} {H : Hp} {α : AE} {σ : L2.St} (A : Ab K g tk κ Fe He F H α σ) (i : Nat) : Ab K g tk κ Fe He F H (α.set i none) (σ.set i none) := by
  have old : ∀ {j : Nat} {s : S}, (α.set i none)[j]? = some (some s) → i ≠ j ∧ α[j]? = some (some s) := fun {j s} h => by
    by_cases z : i = j
    · subst z
      by_cases hi : i < α.length
      · rw [List.getElem?_set_self hi] at h
        cases h
      · rw [List.getElem?_eq_none (by simpa using hi)] at h
        cases h
    · rw [List.getElem?_set_ne z] at h
      exact ⟨z, h⟩
  refine ⟨A.sub, A.ok, A.st, A.cap, A.lim, by rw [List.length_set, List.length_set]; exact A.len, fun j s h => ?_, fun j d h => ?_, fun j l d e w hjl hj hl hj' hl' => ?_⟩
  · obtain ⟨z, h⟩ := old h
    obtain ⟨v, e1, e2⟩ := A.val j s h
    exact ⟨v, by rw [List.getElem?_set_ne z]; exact e1, e2⟩
  · exact A.nob j d (old h).2
  · obtain ⟨z1, h1⟩ := old hj
    obtain ⟨z2, h2⟩ := old hl
    rw [List.getElem?_set_ne z1] at hj'
    rw [List.getElem?_set_ne z2] at hl'
    exact A.apart j l d e w hjl h1 h2 hj' hl'
theorem Ab.wipe_ {K : PySem.W.Frag} {g : Gv} {tk : Tk} {Fe : Gh} {He : Hp} {F : Gh} {H : Hp} {α : AE} {σ : L2.St} (A : Ab K g tk κ Fe He F H α σ) : ∀ vs : List Nat, Ab K g tk κ Fe He F H (wipeA α vs) (wipe σ vs)
  | [] => A
  | v :: vs => (A.wipe_ vs).unset v
/-- the new list as one more slot -/
theorem Ab.more {K : PySem.W.Frag} {g : Gv} {tk : Tk} {Fe : Gh} {He : Hp} {F : Gh} {H : Hp} {α : AE} {σ : L2.St} {Dn : Addr} (A : Ab K g tk κ Fe He F H α σ) (hD : H Dn = none) : Ab K g tk κ Fe He F (upd H Dn (.lst [])) (α ++ [some (.nw (.lst []))]) (σ ++ [some (.ref Dn)]) := by
  have st : Step tk 0 F H F (upd H Dn (.lst [])) := Step.own hD
  have hF : F.m Dn = none := A.sub.free hD
  have nD : Dn ∉ tk.ad := fun z => (tk.fr _ _ A.ok Dn z).2 hD
  have hHe : Nf He Dn := fun o w n => by
    obtain ⟨o', w', n'⟩ := A.st.ad Dn o w n
    rw [hD] at w'
    cases w'
  have sub' : Same F (upd H Dn (.lst [])) := fun a o e => by
    rw [upd_ne (ne_of_none e hF)]
    exact A.sub a o e
  have ok' : tk.ok F (upd H Dn (.lst [])) := tk.st _ _ _ _ A.ok (Same.refl _) (Nat.le_refl _) (fun a o e _ => by rw [upd_ne (ne_of_none e hD)]; exact e) (fun a ha => (tk.fr _ _ A.ok a ha).1) fun a u e n => by (rw [n] at e; cases e)
  have A' : Ab K g tk κ Fe He F (upd H Dn (.lst [])) α σ := A.step st sub' ok'
  have hl := A.len
  refine ⟨sub', ok', A'.st, A'.cap, A'.lim, by simp [hl], fun j s h => ?_, fun j d h => ?_, fun j l d e w hjl hj hl1 hj' hl' => ?_⟩
  · by_cases z : j < α.length
    · rw [List.getElem?_append_left z] at h
      rw [List.getElem?_append_left (by omega)]
      exact A'.val j s h
    · rw [List.getElem?_append_right (by omega)] at h
      have e : j = α.length := by
        cases q : j - α.length with
        | zero => omega
        | succ n => rw [q] at h; cases h
      subst e
      rw [Nat.sub_self] at h
      have e2 : s = .nw (.lst []) := (Option.some.inj (Option.some.inj h)).symm
      subst e2
      refine ⟨.ref Dn, by rw [hl, List.getElem?_append_right (Nat.le_refl _), Nat.sub_self]; rfl, ⟨Dn, rfl, hF, nD, [], upd_same, .nil⟩, fun _ p _ e => ?_⟩
      cases e
      exact hHe
  · by_cases z : j < α.length
    · rw [List.getElem?_append_left z] at h
      exact A.nob j d h
    · rw [List.getElem?_append_right (by omega)] at h
      cases q : j - α.length with
      | zero => rw [q] at h; cases h
      | succ n => rw [q] at h; cases h
  · have last : ∀ {a : Nat} {s : S}, (α ++ [some (.nw (.lst []))])[a]? = some (some s) → ¬ a < α.length → a = α.length := fun {a s} h z => by
      rw [List.getElem?_append_right (by omega)] at h
      cases q : a - α.length with
      | zero => omega
      | succ n => rw [q] at h; cases h
    have oldNe : ∀ {a : Nat} {x : D} {y : V}, a < α.length → (α ++ [some (.nw (.lst []))])[a]? = some (some (.nw x)) → (σ ++ [some (V.ref Dn)])[a]? = some (some y) → y ≠ .ref Dn := fun {a x y} z h hy e => by
      rw [List.getElem?_append_left z] at h
      rw [List.getElem?_append_left (by omega)] at hy
      obtain ⟨v, e1, ⟨p, rfl, _, _, ho⟩, _⟩ := A.val a _ h
      rw [hy] at e1
      have e3 := Option.some.inj (Option.some.inj e1)
      rw [e] at e3
      cases e3
      exact ho.there hD
    by_cases zj : j < α.length
    · by_cases zl : l < α.length
      · rw [List.getElem?_append_left zj] at hj
        rw [List.getElem?_append_left zl] at hl1
        rw [List.getElem?_append_left (by omega)] at hj' hl'
        exact A.apart j l d e w hjl hj hl1 hj' hl'
      · have el := last hl1 zl
        rw [el, hl, List.getElem?_append_right (Nat.le_refl _), Nat.sub_self] at hl'
        have ew : V.ref Dn = w := Option.some.inj (Option.some.inj hl')
        exact oldNe zj hj hj' ew.symm
    · have ej := last hj zj
      by_cases zl : l < α.length
      · rw [ej, hl, List.getElem?_append_right (Nat.le_refl _), Nat.sub_self] at hj'
        have ew : V.ref Dn = w := Option.some.inj (Option.some.inj hj')
        exact oldNe zl hl1 hl' ew.symm
      · exact hjl (ej.trans (last hl1 zl).symm)
theorem Ab.less {K : PySem.W.Frag} {g : Gv} {tk : Tk} {Fe : Gh} {He : Hp} {F : Gh} {H : Hp} {α : AE} {σ : L2.St} {s : Option S} {v : Option V} (hl : α.length = σ.length) (A : Ab K g tk κ Fe He F H (α ++ [s]) (σ ++ [v])) : Ab K g tk κ Fe He F H α σ := by
  refine ⟨A.sub, A.ok, A.st, A.cap, A.lim, hl, fun j s h => ?_, fun j d h => ?_, fun j l d e w hjl hj hl1 hj' hl' => ?_⟩
  · have z : j < α.length := by
      cases Nat.lt_or_ge j α.length with
      | inl z => exact z
      | inr z => rw [List.getElem?_eq_none z] at h; cases h
    obtain ⟨v, e1, e2⟩ := A.val j s (by rw [List.getElem?_append_left z]; exact h)
    rw [List.getElem?_append_left (by omega)] at e1
    exact ⟨v, e1, e2⟩
  · have z : j < α.length := by
      cases Nat.lt_or_ge j α.length with
      | inl z => exact z
      | inr z => rw [List.getElem?_eq_none z] at h; cases h
    exact A.nob j d (by rw [List.getElem?_append_left z]; exact h)
  · have lt : ∀ {a : Nat} {x : Option S}, α[a]? = some x → a < α.length := fun {a x} h => by
      cases Nat.lt_or_ge a α.length with
      | inl z => exact z
      | inr z => rw [List.getElem?_eq_none z] at h; cases h
    have zj := lt hj
    have zl := lt hl1
    refine A.apart j l d e w hjl ?_ ?_ ?_ ?_
    · rw [List.getElem?_append_left zj]; exact hj
    · rw [List.getElem?_append_left zl]; exact hl1
    · rw [List.getElem?_append_left (by omega)]; exact hj'
    · rw [List.getElem?_append_left (by omega)]; exact hl'

/-! ### comprehensions -/
/-- [e for tg in items if t]: α the slots with the block's own wiped -/
def lcD (tg : DG) (tt : DT) (te : DE) (Q : List D → Prop) (α : AE) : List D → List D → Prop
  | [], acc => Q acc
  | d :: ds, acc => tg d α (fun α' => tt α' (fun b => if b = true then te α' (fun r => ∃ x, r.fz = .fr x ∧ acc.length < sizeLine ∧ lcD tg tt te Q α ds (acc ++ [x])) (fun _ => False) else lcD tg tt te Q α ds acc) (fun _ => False))
def dLc (it : DI) (tg : DG) (tt : DT) (te : DE) (vs : List Nat) : DE := fun α Q E => it α (fun ds => lcD tg tt te (fun acc => Q (.nw (.lst acc))) (wipeA α vs) ds []) E
theorem takes_never {X : Cx} {g : Gv} {tk : Tk} {Fe : Gh} {He : Hp} : Takes X (WD X.K g tk Fe He fun _ => False) := fun u s' ⟨a, B, sI, pins, σ, H, cls, d, _, _, _, _, _, _, _, _, w⟩ => by
  obtain ⟨_, _, _, _, _, _, _, _, _, _, _, _, z⟩ := w
  exact z.elim
theorem lc_lift {K : PySem.W.Frag} {g : Gv} {tk : Tk} {κ κ2 κ3 : Nat} {Fe : Gh} {He : Hp} {F : Gh} {H : Hp} {α : AE} {σ : L2.St} {ds : List D} {J : It} {tg : DG} {tt : DT} {te : DE} {vs : List Nat} {Q : S → Prop} {Q' : VK}
    (A : Ab K g tk κ Fe He F H α σ) (hn : ds.length * (κ2 + κ3) ≤ κ) (w : WalksD K g tk J ds F) (q : lcD tg tt te (fun acc => Q (.nw (.lst acc))) (wipeA α vs) ds [])
    (k : ∀ v H', VO K g tk (ds.length * (κ2 + κ3)) F H Q v H' → Q' v H') :
    ∀ Dn, H Dn = none → ∃ W : Nat → Nat → Hp → Prop, (∃ m, W 0 m (upd H Dn (.lst []))) ∧ ∀ i m H, W i m H →
      (J.stop i H ∧ Q' (.ref Dn) H) ∨ (J.go i H ∧ ∃ Nx : Hp → Prop, (∀ H', Nx H' → ∃ m', m' < m ∧ W (i + 1) m' H') ∧ ∀ x H', J.yld i H x H' → LGv K g tk (F.on Fe) He vs tg x (wipe σ vs) H' fun σ2 H2 => wipe σ2 vs = wipe σ vs ∧ LTs K g tk κ2 (F.on Fe) He tt σ2 H2 fun b H3 =>
        if b = true then LE K g tk κ3 (F.on Fe) He (fun _ => False) te σ2 H3 fun y H4 => ∃ acc, H4 Dn = some (.lst acc) ∧ acc.length < sizeLine ∧ Nx (upd H4 Dn (.lst (acc ++ [y]))) else Nx H3) := by
  intro Dn hD
  have A00 : Ab K g tk (ds.length * (κ2 + κ3)) Fe He F H (wipeA α vs) (wipe σ vs) := (A.wipe_ vs).w
  have A0 : Ab K g tk (ds.length * (κ2 + κ3)) (F.on Fe) He F H (wipeA α vs) (wipe σ vs) := A00.based
  have A1 := A0.more hD
  -- all that is kept of the turns' ends
  refine ⟨fun i m H' => m = ds.length - i ∧ i ≤ ds.length ∧ ∃ F' acc, Ab K g tk ((ds.length - i) * (κ2 + κ3)) (F.on Fe) He F' H' (wipeA α vs ++ [some (.nw (.lst acc))]) (wipe σ vs ++ [some (.ref Dn)]) ∧ lcD tg tt te (fun acc => Q (.nw (.lst acc))) (wipeA α vs) (ds.drop i) acc ∧ Step tk (i * (κ2 + κ3)) F H F' H',
    ⟨ds.length, by simp, Nat.zero_le _, F, [], A1, q, Step.own hD⟩, ?_⟩
  rintro i m H2 ⟨rfl, hi, F2, acc, A2, q2, S2⟩
  have s2 : Same F F2 := A2.st.fr
  have hlen := A0.len
  have ix : (wipeA α vs ++ [some (S.nw (.lst acc))])[(wipeA α vs).length]? = some (some (.nw (.lst acc))) := by rw [List.getElem?_append_right (Nat.le_refl _), Nat.sub_self]; rfl
  have ixv : (wipe σ vs ++ [some (V.ref Dn)])[(wipeA α vs).length]? = some (some (.ref Dn)) := by rw [hlen, List.getElem?_append_right (Nat.le_refl _), Nat.sub_self]; rfl
  by_cases hlt : i < ds.length
  · refine .inr ⟨w.go F2 H2 i s2 A2.sub hlt, fun H' => ∃ F' acc, Ab K g tk ((ds.length - (i + 1)) * (κ2 + κ3)) (F.on Fe) He F' H' (wipeA α vs ++ [some (.nw (.lst acc))]) (wipe σ vs ++ [some (.ref Dn)]) ∧ lcD tg tt te (fun acc => Q (.nw (.lst acc))) (wipeA α vs) (ds.drop (i + 1)) acc ∧ Step tk ((i + 1) * (κ2 + κ3)) F H F' H', fun H' z => ⟨ds.length - (i + 1), by omega, rfl, hlt, z⟩, fun x H3 y => ?_⟩
    obtain ⟨F3, d, st3, sub3, ok3, ed, rp⟩ := w.yld F2 H2 i x H3 s2 A2.sub A2.ok hlt y
    have e : ds.drop i = d :: ds.drop (i + 1) := by
      rw [List.drop_eq_getElem_cons hlt]
      rw [List.getElem?_eq_getElem hlt] at ed
      cases ed
      rfl
    rw [e] at q2
    have tl := turns_left (κ := κ2 + κ3) hlt
    have si : (i + 1) * (κ2 + κ3) = i * (κ2 + κ3) + (κ2 + κ3) := Nat.succ_mul _ _
    have A3 : Ab K g tk (κ2 + (κ3 + (ds.length - (i + 1)) * (κ2 + κ3))) (F.on Fe) He F3 H3 (wipeA α vs ++ [some (.nw (.lst acc))]) (wipe σ vs ++ [some (.ref Dn)]) := A2.step st3 sub3 ok3
    refine ⟨F3, wipeA α vs, d, _, _, A3.less hlen, rp, q2, fun σ4 α4 A4 hw q4 => ⟨hw.trans wipe_wipe, F3, α4, _, A4.w, q4, fun b H5 F5 st5 sub5 ok5 q5 => ?_⟩⟩
    have A5 : Ab K g tk (κ3 + (ds.length - (i + 1)) * (κ2 + κ3)) (F.on Fe) He F5 H5 (wipeA α vs ++ [some (.nw (.lst acc))]) (wipe σ vs ++ [some (.ref Dn)]) := A3.step st5 sub5 ok5
    have S5 := (S2.trans st3).trans st5
    cases b with
    | false => exact ⟨F5, acc, A5.w, q5, S5.w⟩
    | true =>
      refine ⟨F5, α4, _, A4.step st5 sub5 ok5, q5, fun v H6 h6 => ?_⟩
      obtain ⟨F6, r, st6, sub6, ok6, rep6, x6, e6, hl6, q6⟩ := h6.fz
      rw [e6] at rep6
      obtain ⟨p, vs6, g1, g2, g3, g4, g5⟩ := own_kept (κ' := (ds.length - (i + 1)) * (κ2 + κ3)) A5 st6 sub6 ok6 ix
      rw [ixv] at g1
      cases g1
      refine ⟨vs6, g3, by rw [g4.length]; exact hl6, F6, acc ++ [x6], ?_, q6, ?_⟩
      · have z := g5 (acc ++ [x6]) (vs6 ++ [v]) (g4.append (.cons rep6 .nil))
        rw [List.set_append_right _ _ (Nat.le_refl _), Nat.sub_self] at z
        exact z
      · have S6 : Step tk ((i + 1) * (κ2 + κ3)) F H F6 H6 := (S5.trans st6).w
        refine ⟨S6.fr, S6.nw, fun a o e n t => ?_, fun a o e n => ?_, S6.tm⟩
        · rw [upd_ne (ne_of_none e hD)]
          exact S6.kp a o e n t
        · by_cases z : a = Dn
          · rw [z, upd_same]
            exact ⟨_, rfl, fun ps q => nomatch q⟩
          · rw [upd_ne z]
            exact S6.ad a o e n
  · have e : i = ds.length := by omega
    subst e
    rw [List.drop_length] at q2
    refine .inl ⟨w.stop F2 H2 s2 A2.sub, k _ _ ⟨F2, .nw (.lst acc), S2, A2.sub, A2.ok, ?_, fun d p e1 e2 => ?_, q2⟩⟩
    · obtain ⟨p, e1, b, c, dd, _⟩ := A2.own ix
      rw [ixv] at e1
      cases e1
      exact ⟨Dn, rfl, b, c, dd⟩
    · cases e2
      exact .of hD
/-- with draws: how many turns at most -/
def dLcP (P : List D → Prop) (it : DI) (tg : DG) (tt : DT) (te : DE) (vs : List Nat) : DE := fun α Q E => it α (fun ds => P ds ∧ lcD tg tt te (fun acc => Q (.nw (.lst acc))) (wipeA α vs) ds []) E
def dLcC (it : DI) (tg : DG) (tt : DT) (te : DE) (vs : List Nat) : DE := dLcP (fun ds => ds.length ≤ fLim) it tg tt te vs
theorem dLcP_true {it : DI} {tg : DG} {tt : DT} {te : DE} {vs : List Nat} : dLcP (fun _ => True) it tg tt te vs = dLc it tg tt te vs := by
  funext α Q E
  unfold dLcP dLc
  congr 1
  funext ds
  exact propext ⟨fun h => h.2, fun h => ⟨trivial, h⟩⟩
theorem lc_red {K : PySem.W.Frag} {g : Gv} {tk : Tk} {κ1 κ2 κ3 κL : Nat} {Fe : Gh} {He : Hp} {E : XD → Prop} {it : DI} {dg : DG} {tt : DT} {te : DE} {vs : List Nat} {σ : L2.St} {H : Hp} {Q' : VK} {P : List D → Prop} (hP : ∀ ds, P ds → ds.length * (κ2 + κ3) ≤ κL) (h : LE K g tk (κ1 + κL) Fe He E (dLcP P it dg tt te vs) σ H Q') :
    tLc (LI K g tk κ1 Fe He E it) (fun v σ H Q' => ∃ F, LGv K g tk F He vs dg v σ H Q') (fun σ H Q' => ∃ F, LTs K g tk κ2 F He tt σ H Q') (fun σ H Q' => ∃ F, LE K g tk κ3 F He (fun _ => False) te σ H Q') vs σ H Q' := by
  obtain ⟨F, α, Q, A, q, k⟩ := h
  refine ⟨F, α, _, A.w, q, fun J F1 H1 ds st1 sub1 ok1 q1 w => ?_⟩
  obtain ⟨qp, q1⟩ := q1
  have lp := hP ds qp
  have A1 : Ab K g tk κL Fe He F1 H1 α σ := A.step st1 sub1 ok1
  intro Dn hD
  obtain ⟨W, w0, wt⟩ := lc_lift (κ2 := κ2) (κ3 := κ3) (Q := Q) (Q' := Q') A1 lp w q1 (fun v H' h => k v H' (h.at st1)) Dn hD
  refine ⟨W, w0, fun i m H2 hw => ?_⟩
  rcases wt i m H2 hw with z | ⟨go, Nx, n1, n2⟩
  · exact .inl z
  · refine .inr ⟨go, Nx, n1, fun x H3 y => ⟨F1.on Fe, ?_⟩⟩
    obtain ⟨Fa, αa, da, Qa, κa, Aa, ra, ta, ka⟩ := n2 x H3 y
    refine ⟨Fa, αa, da, Qa, κa, Aa, ra, ta, fun σ' α' A' w' q' => ?_⟩
    obtain ⟨k1, Fb, αb, Qb, Ab', tb, kb⟩ := ka σ' α' A' w' q'
    refine ⟨k1, F1.on Fe, Fb, αb, Qb, Ab', tb, fun b H5 F5 st5 sub5 ok5 q5 => ?_⟩
    have kb' := kb b H5 F5 st5 sub5 ok5 q5
    cases b with
    | false => exact kb'
    | true => exact ⟨F1.on Fe, kb'⟩
section
variable {g : Gv} {X : Cx} {elt tg iter : Expr} {ifs : List Expr} {scope : Scope} {own : List (Str × Nat)} {pos : Pos} {it : DI} {dg : DG} {tt : DT} {te : DE}
theorem qe_lcP {P : List D → Prop} {κL : Nat} (hP : ∀ ds, P ds → ds.length * (κ2 + κ3) ≤ κL) (hc : X.calm = true) (hN : X.N.Nodup) (hi : QI g X tg iter it κ1) (ok : BlkOk X.N X.env.scope scope own)
    (hg : ∀ (s : Shared) (H : Hp) (C : Addr) (cl : List (Str × Addr)) (fp : List Addr), QGv g (X.blk s H scope (compEnvC scope cl C X.env) fp) tg (own.map (·.2)) dg) (ht : ∀ (s : Shared) (H : Hp) (C : Addr) (cl : List (Str × Addr)) (fp : List Addr), QTs g (X.blk s H scope (compEnvC scope cl C X.env) fp) ifs tt κ2)
    (he : ∀ (s : Shared) (H : Hp) (C : Addr) (cl : List (Str × Addr)) (fp : List Addr), QE g (X.blk s H scope (compEnvC scope cl C X.env) fp) elt te κ3) (hs : ∀ x, foldedSetIterable iter X.env x = pure x := by intro _; rfl) :
    QE g X (.ListComp elt [⟨tg, iter, ifs, 0⟩] scope pos) (dLcP P it dg tt te (own.map (·.2))) (κ1 + κL) := ⟨fun tk Fe He E hT hx =>
  (pe_lc (g := fun v σ H Q' => ∃ F, LGv X.K g tk F He (own.map (·.2)) dg v σ H Q') (tt := fun σ H Q' => ∃ F, LTs X.K g tk κ2 F He tt σ H Q') (te := fun σ H Q' => ∃ F, LE X.K g tk κ3 F He (fun _ => False) te σ H Q') hc hN (hi.pi tk Fe He E hT hx) ok (fun s H C cl fp => ⟨fun pins s σ H v u Q I r ⟨F, q⟩ => ((hg _ _ _ _ _).pg tk F He hT).run pins s σ H v u Q I r q⟩) (fun s H C cl fp => ⟨fun pins s σ H Q I ⟨F, q⟩ => ((ht _ _ _ _ _).pt tk F He hT takes_never).run pins s σ H Q I q⟩)
      (fun s H C cl fp => ⟨fun pins s σ H Q I ⟨F, q⟩ => ((he _ _ _ _ _).pe tk F He _ hT takes_never).run pins s σ H Q I q⟩) hs).dimp fun σ H Q' h => lc_red hP h⟩
theorem qe_lc (hc : X.calm = true) (hN : X.N.Nodup) (hi : QI g X tg iter it κ1) (ok : BlkOk X.N X.env.scope scope own)
    (hg : ∀ (s : Shared) (H : Hp) (C : Addr) (cl : List (Str × Addr)) (fp : List Addr), QGv g (X.blk s H scope (compEnvC scope cl C X.env) fp) tg (own.map (·.2)) dg) (ht : ∀ (s : Shared) (H : Hp) (C : Addr) (cl : List (Str × Addr)) (fp : List Addr), QTs g (X.blk s H scope (compEnvC scope cl C X.env) fp) ifs tt κ2)
    (he : ∀ (s : Shared) (H : Hp) (C : Addr) (cl : List (Str × Addr)) (fp : List Addr), QE g (X.blk s H scope (compEnvC scope cl C X.env) fp) elt te κ3) (hs : ∀ x, foldedSetIterable iter X.env x = pure x := by intro _; rfl) (h2 : κ2 = 0 := by rfl) (h3 : κ3 = 0 := by rfl) :
    QE g X (.ListComp elt [⟨tg, iter, ifs, 0⟩] scope pos) (dLc it dg tt te (own.map (·.2))) κ1 := by
  subst h2 h3
  have z := qe_lcP (P := fun _ => True) (κL := 0) (pos := pos) (fun ds _ => Nat.le_of_eq (Nat.mul_zero _)) hc hN hi ok hg ht he hs
  rw [dLcP_true] at z
  exact z
theorem qe_lcC (hc : X.calm = true) (hN : X.N.Nodup) (hi : QI g X tg iter it κ1) (ok : BlkOk X.N X.env.scope scope own)
    (hg : ∀ (s : Shared) (H : Hp) (C : Addr) (cl : List (Str × Addr)) (fp : List Addr), QGv g (X.blk s H scope (compEnvC scope cl C X.env) fp) tg (own.map (·.2)) dg) (ht : ∀ (s : Shared) (H : Hp) (C : Addr) (cl : List (Str × Addr)) (fp : List Addr), QTs g (X.blk s H scope (compEnvC scope cl C X.env) fp) ifs tt κ2)
    (he : ∀ (s : Shared) (H : Hp) (C : Addr) (cl : List (Str × Addr)) (fp : List Addr), QE g (X.blk s H scope (compEnvC scope cl C X.env) fp) elt te κ3) (hs : ∀ x, foldedSetIterable iter X.env x = pure x := by intro _; rfl) :
    QE g X (.ListComp elt [⟨tg, iter, ifs, 0⟩] scope pos) (dLcC it dg tt te (own.map (·.2))) (κ1 + fLim * (κ2 + κ3)) := qe_lcP (fun ds h => Nat.mul_le_mul_right _ h) hc hN hi ok hg ht he hs
/-- name = [..] on one line -/
theorem qs_setLcP {P : List D → Prop} {κL : Nat} {i : Nat} {y : Str} {py spos : Pos} (hP : ∀ ds, P ds → ds.length * (κ2 + κ3) ≤ κL) (hc : X.calm = true) (hN : X.N.Nodup) (hy : X.N[i]? = some y) (hyl : X.env.scope.names.lookup y = some .local)
    (hsw : swapsWith (.ListComp elt [⟨tg, iter, ifs, 0⟩] scope pos) (some (.Name y py)) spos.line X.env = pure true) (hi : QI g X tg iter it κ1) (ok : BlkOk X.N X.env.scope scope own)
    (hg : ∀ (s : Shared) (H : Hp) (C : Addr) (cl : List (Str × Addr)) (fp : List Addr), QGv g (X.blk s H scope (compEnvC scope cl C X.env) fp) tg (own.map (·.2)) dg) (ht : ∀ (s : Shared) (H : Hp) (C : Addr) (cl : List (Str × Addr)) (fp : List Addr), QTs g (X.blk s H scope (compEnvC scope cl C X.env) fp) ifs tt κ2)
    (he : ∀ (s : Shared) (H : Hp) (C : Addr) (cl : List (Str × Addr)) (fp : List Addr), QE g (X.blk s H scope (compEnvC scope cl C X.env) fp) elt te κ3) (hs : ∀ x, foldedSetIterable iter X.env x = pure x := by intro _; rfl) :
    QS g X (.Assign [.Name y py] (.ListComp elt [⟨tg, iter, ifs, 0⟩] scope pos) spos) (dAsg i (dLcP P it dg tt te (own.map (·.2)))) (κ1 + κL) := ⟨fun tk Fe He E hT hx =>
  (ps_setLc (g := fun v σ H Q' => ∃ F, LGv X.K g tk F He (own.map (·.2)) dg v σ H Q') (tt := fun σ H Q' => ∃ F, LTs X.K g tk κ2 F He tt σ H Q') (te := fun σ H Q' => ∃ F, LE X.K g tk κ3 F He (fun _ => False) te σ H Q') hc hN hy hyl hsw (hi.pi tk Fe He E hT hx) ok (fun s H C cl fp => ⟨fun pins s σ H v u Q I r ⟨F, q⟩ => ((hg _ _ _ _ _).pg tk F He hT).run pins s σ H v u Q I r q⟩) (fun s H C cl fp => ⟨fun pins s σ H Q I ⟨F, q⟩ => ((ht _ _ _ _ _).pt tk F He hT takes_never).run pins s σ H Q I q⟩)
      (fun s H C cl fp => ⟨fun pins s σ H Q I ⟨F, q⟩ => ((he _ _ _ _ _).pe tk F He _ hT takes_never).run pins s σ H Q I q⟩) hs).dimp fun D' σ H h => by
    obtain ⟨F, α, D, ρ, A, q, k⟩ := h
    have z : LE X.K g tk (κ1 + κL) Fe He E (dLcP P it dg tt te (own.map (·.2))) σ H (fun x H1 => gName i x σ H1 D'.nx) := by
      refine ⟨F, α, _, A.w, q, fun v H1 h1 => k.nx _ H1 ?_⟩
      obtain ⟨F1, r, q1, A1⟩ := Ab.set ρ A i h1
      exact ⟨F1, _, A1 q1.1, q1.2⟩
    exact lc_red hP z⟩
theorem qs_setLc {i : Nat} {y : Str} {py spos : Pos} (hc : X.calm = true) (hN : X.N.Nodup) (hy : X.N[i]? = some y) (hyl : X.env.scope.names.lookup y = some .local)
    (hsw : swapsWith (.ListComp elt [⟨tg, iter, ifs, 0⟩] scope pos) (some (.Name y py)) spos.line X.env = pure true) (hi : QI g X tg iter it κ1) (ok : BlkOk X.N X.env.scope scope own)
    (hg : ∀ (s : Shared) (H : Hp) (C : Addr) (cl : List (Str × Addr)) (fp : List Addr), QGv g (X.blk s H scope (compEnvC scope cl C X.env) fp) tg (own.map (·.2)) dg) (ht : ∀ (s : Shared) (H : Hp) (C : Addr) (cl : List (Str × Addr)) (fp : List Addr), QTs g (X.blk s H scope (compEnvC scope cl C X.env) fp) ifs tt κ2)
    (he : ∀ (s : Shared) (H : Hp) (C : Addr) (cl : List (Str × Addr)) (fp : List Addr), QE g (X.blk s H scope (compEnvC scope cl C X.env) fp) elt te κ3) (hs : ∀ x, foldedSetIterable iter X.env x = pure x := by intro _; rfl) (h2 : κ2 = 0 := by rfl) (h3 : κ3 = 0 := by rfl) :
    QS g X (.Assign [.Name y py] (.ListComp elt [⟨tg, iter, ifs, 0⟩] scope pos) spos) (dAsg i (dLc it dg tt te (own.map (·.2)))) κ1 := by
  subst h2 h3
  have z := qs_setLcP (P := fun _ => True) (κL := 0) (pos := pos) (spos := spos) (py := py) (fun ds _ => Nat.le_of_eq (Nat.mul_zero _)) hc hN hy hyl hsw hi ok hg ht he hs
  rw [dLcP_true] at z
  exact z
theorem qs_setLcC {i : Nat} {y : Str} {py spos : Pos} (hc : X.calm = true) (hN : X.N.Nodup) (hy : X.N[i]? = some y) (hyl : X.env.scope.names.lookup y = some .local)
    (hsw : swapsWith (.ListComp elt [⟨tg, iter, ifs, 0⟩] scope pos) (some (.Name y py)) spos.line X.env = pure true) (hi : QI g X tg iter it κ1) (ok : BlkOk X.N X.env.scope scope own)
    (hg : ∀ (s : Shared) (H : Hp) (C : Addr) (cl : List (Str × Addr)) (fp : List Addr), QGv g (X.blk s H scope (compEnvC scope cl C X.env) fp) tg (own.map (·.2)) dg) (ht : ∀ (s : Shared) (H : Hp) (C : Addr) (cl : List (Str × Addr)) (fp : List Addr), QTs g (X.blk s H scope (compEnvC scope cl C X.env) fp) ifs tt κ2)
    (he : ∀ (s : Shared) (H : Hp) (C : Addr) (cl : List (Str × Addr)) (fp : List Addr), QE g (X.blk s H scope (compEnvC scope cl C X.env) fp) elt te κ3) (hs : ∀ x, foldedSetIterable iter X.env x = pure x := by intro _; rfl) :
    QS g X (.Assign [.Name y py] (.ListComp elt [⟨tg, iter, ifs, 0⟩] scope pos) spos) (dAsg i (dLcC it dg tt te (own.map (·.2)))) (κ1 + fLim * (κ2 + κ3)) := qs_setLcP (fun ds h => Nat.mul_le_mul_right _ h) hc hN hy hyl hsw hi ok hg ht he hs
end
end DL

set_option Elab.async false
set_option linter.all false
set_option maxRecDepth 100000
set_option maxHeartbeats 4000000
namespace DL
open PySem PySem.Spec L2

/-! ### what a def promises, over data -/
abbrev DF := List S → (S → Prop) → (XD → Prop) → Prop
def S.arg : S → Bool
  | .fr _ => true
  | .tk => true
  | _ => false
def spD (K : PySem.W.Frag) (g : Gv) (κ : Nat) (n : Nat) (Φ : DF) : Sp := fun vs H Q' E' =>
  ∃ (tk : Tk) (F : Gh) (ss : List S) (Q : S → Prop) (E : XD → Prop), g.T tk ∧ Same F H ∧ (tk.ok F H ∧ F.c = F.b + κ ∧ F.c ≤ tLim) ∧ RepSs K g tk F H ss vs ∧ ss.length = n ∧ ss.all S.arg = true ∧ Φ ss Q E ∧ (∀ v H', VO K g tk κ F H Q v H' → Q' v H') ∧ ∀ c d H', XO K g tk κ F H E c d H' → E' c d H'
theorem RepSs.length {K : PySem.W.Frag} {g : Gv} {tk : Tk} {F : Gh} {H : Hp} : ∀ {ss : List S} {vs : List V}, RepSs K g tk F H ss vs → vs.length = ss.length
  | [], vs, h => by (have e : vs = [] := h); rw [e]; rfl
  | _ :: _, _, ⟨v, r, e, _, h⟩ => by rw [e, List.length_cons, List.length_cons, RepSs.length h]
theorem RepSs.get {K : PySem.W.Frag} {g : Gv} {tk : Tk} {F : Gh} {H : Hp} : ∀ {ss : List S} {vs : List V} {i : Nat} {s : S}, RepSs K g tk F H ss vs → ss[i]? = some s → ∃ v, vs[i]? = some v ∧ RepS K g tk F H s v
  | [], _, i, s, _, e => by simp at e
  | x :: ss, _, 0, s, ⟨v, r, rfl, q, _⟩, e => by
    simp at e
    subst e
    exact ⟨v, rfl, q⟩
  | x :: ss, _, i + 1, s, ⟨v, r, rfl, _, t⟩, e => by
    obtain ⟨w, e1, e2⟩ := RepSs.get (i := i) t (by simpa using e)
    exact ⟨w, by simpa using e1, e2⟩
/-- a def's slots at its entry -/
def startA (N : List Str) (ss : List S) : AE := ss.map some ++ List.replicate (N.length - ss.length) none
theorem startA_get {N : List Str} {ss : List S} {i : Nat} {s : S} (h : (startA N ss)[i]? = some (some s)) : ss[i]? = some s := by
  unfold startA at h
  by_cases z : i < ss.length
  · rw [List.getElem?_append_left (by rw [List.length_map]; exact z), List.getElem?_map] at h
    cases q : ss[i]? with
    | none => rw [q] at h; cases h
    | some x =>
      rw [q] at h
      exact congrArg some (Option.some.inj (Option.some.inj h))
  · rw [List.getElem?_append_right (by rw [List.length_map]; omega), List.getElem?_replicate] at h
    split at h <;> cases h
theorem ab_start {K : PySem.W.Frag} {g : Gv} {tk : Tk} {F : Gh} {H : Hp} {ss : List S} {vs : List V} {N : List Str} (sub : Same F H) (ok : tk.ok F H) (r : RepSs K g tk F H ss vs) (ha : ss.all S.arg = true) (hc : F.b + κ ≤ F.c) (hl : F.c ≤ tLim) : Ab K g tk κ F H F H (startA N ss) (L2.start N vs) := by
  have hlen := r.length
  have argOf : ∀ {i : Nat} {s : S}, ss[i]? = some s → s.arg = true := fun {i s} e => List.all_eq_true.mp ha s (List.mem_of_getElem? e)
  refine ⟨sub, ok, Step.refl _ _ _, hc, hl, ?_, fun i s h => ?_, fun i d h => ?_, fun i j d e v _ h _ _ _ => ?_⟩
  · unfold startA L2.start
    rw [List.length_append, List.length_append, List.length_map, List.length_map, List.length_replicate, List.length_replicate, hlen]
  · have e := startA_get h
    obtain ⟨v, e1, e2⟩ := r.get e
    refine ⟨v, ?_, e2, fun d p z _ => ?_⟩
    · unfold L2.start
      have hi : i < vs.length := by
        cases Nat.lt_or_ge i vs.length with
        | inl z => exact z
        | inr z => rw [List.getElem?_eq_none z] at e1; cases e1
      rw [List.getElem?_append_left (by rw [List.length_map]; exact hi), List.getElem?_map, e1]
      rfl
    · have z2 := argOf e
      rw [z] at z2
      cases z2
  · have z := argOf (startA_get h)
    cases z
  · have z := argOf (startA_get h)
    cases z
/-- a def of the text, by its body's reading -/
def phi (N : List Str) (t : DS) : DF := fun ss Q E => t { nx := fun _ => Q (.fr .non), rt := Q } (startA N ss) E
theorem fn_ok {P : Program} {w : World} {K : PySem.W.Frag} {mg : Str → Option Value} {base : Heap} {g : Gv} {x qual : Str} {params : Arguments} {body : List Stmt} {scope : Scope} {dvs : List V} {kws : List (Str × V)} {f : Addr} {fd : FuncData} {N ps : List Str} {k : Nat} {t : DS}
    (F : FunD K x qual params body scope dvs kws f fd) (S : FnScope N ps scope)
    (hb : ∀ (cdv : Value) (A : Around) (outer : List Env) (s : Shared) (H : Hp) (E : XK), Room k (A.deeper (PyProof.Rows.envOfC qual scope s.heap.objs.size f cdv)) → QSs g (cxOf (CX P w) P w K mg base N qual scope f cdv A outer s H E) body t κ) :
    FnOk P w K mg base (CX P w) (k + 1) f fd ps (spD K g κ ps.length (phi N t)) := by
  refine F.ok S (fun vs H Q E h => ?_) (fun cdv A outer s H vs Q' E' hr h => ?_)
  · obtain ⟨tk, Fz, ss, Q, E2, _, _, _, r, hl, _⟩ := h
    rw [r.length, hl]
  · obtain ⟨tk, Fz, ss, Q, E, hT, sub, ⟨ok, c1, c2⟩, r, hl, ha, q, kQ, kE⟩ := h
    have ec : Fz.c - Fz.b = κ := by omega
    have hx : Takes (cxOf (CX P w) P w K mg base N qual scope f cdv A outer s H E') (WD K g tk Fz H E) := (takes_of rfl rfl rfl rfl).imp fun c d σ H' z => kE c d H' (by rw [← ec]; exact z)
    refine ⟨_, (hb cdv A outer s H E' hr).ps tk Fz H E hT hx, Fz, startA N ss, _, 0, ab_start sub ok r ha (by omega) c2, q, ⟨?_, fun v H' z => kQ v H' (by rw [← ec]; exact z), ?_, ?_⟩⟩
    · rintro σ H1 ⟨F1, α1, A1, q1⟩
      have z : VO K g tk 0 F1 H1 Q .non H1 := VO.non A1.sub A1.ok q1
      exact kQ _ _ (by rw [← ec]; exact A1.back z)
    · rintro σ H1 ⟨_, _, _, z⟩
      exact z
    · rintro σ H1 ⟨_, _, _, z⟩
      exact z
/-- x names a def that promises Φ -/
structure Fn (P : Program) (w : World) (K : PySem.W.Frag) (mg : Str → Option Value) (base : Heap) (g : Gv) (k : Nat) (x : Str) (ps : List Str) (Φ : DF) (κ : Nat) : Prop where
  ex : ∃ (f : Addr) (fd : FuncData), FnOk P w K mg base (CX P w) k f fd ps (spD K g κ ps.length Φ) ∧ mg x = some (.ref f) ∧ PySem.W.keepIn K (.ref f) = true ∧ Binds K fd ps []
theorem Fn.imp {P : Program} {w : World} {K : PySem.W.Frag} {mg : Str → Option Value} {base : Heap} {g : Gv} {k : Nat} {x : Str} {ps : List Str} {Φ Ψ : DF} (F : Fn P w K mg base g k x ps Φ κ) (h : ∀ ss Q E, Ψ ss Q E → Φ ss Q E) : Fn P w K mg base g k x ps Ψ κ := by
  obtain ⟨f, fd, F1, r⟩ := F.ex
  refine ⟨f, fd, F1.imp fun vs H Q' E' z => ?_, r⟩
  obtain ⟨tk, Fz, ss, Q, E, a, b, c, d, e, i, q, l, m⟩ := z
  exact ⟨tk, Fz, ss, Q, E, a, b, c, d, e, i, h _ _ _ q, l, m⟩
section
variable {g : Gv} {X : Cx} {k : Nat} {x : Str} {ps : List Str} {Φ : DF} {e : Expr} {es : List Expr} {u v : DA} {p pos : Pos}
def dCall (n : Nat) (Φ : DF) (u : DA) : DE := fun α Q E => u α (fun ss => ss.length = n ∧ ss.all S.arg = true ∧ Φ ss Q E) E
theorem Tk.recap {tk : Tk} {F : Gh} {H : Hp} (ok : tk.ok F H) (c : Nat) : tk.ok ⟨F.m, F.b, c⟩ H :=
  tk.st F H ⟨F.m, F.b, c⟩ H ok (Same.refl _) (Nat.le_refl _) (fun _ _ e _ => e) (fun a ha => (tk.fr _ _ ok a ha).1) fun a o e n => by (have n' : F.m a = none := n; have e' : F.m a = some o := e; rw [n'] at e'; cases e')
theorem Step.recap {tk : Tk} {F : Gh} {H : Hp} (c : Nat) : Step tk 0 F H ⟨F.m, F.b, c⟩ H := ⟨Same.refl _, fun a o e n => by (have n' : F.m a = none := n; have e' : F.m a = some o := e; rw [n'] at e'; cases e'), fun _ _ e _ _ => e, fun _ o e n => ⟨o, e, n⟩, Nat.le_refl _, Nat.le_refl _⟩
theorem spD_call {K : PySem.W.Frag} {tk : Tk} {κ κ1 κf : Nat} {Fe : Gh} {He : Hp} {F F1 : Gh} {H1 H : Hp} {α : AE} {σ : L2.St} {n : Nat} {ss : List S} {vs : List V} {Q : S → Prop} {Q' : VK} {E : XD → Prop} (hT : g.T tk) (A : Ab K g tk κ Fe He F H α σ) (st : Step tk κ1 F H F1 H1) (sub : Same F1 H1) (ok : tk.ok F1 H1)
    (r : RepSs K g tk F1 H1 ss vs) (hn : ss.length = n) (ha : ss.all S.arg = true) (q : Φ ss Q E) (k : ∀ v H', VO K g tk κ F H Q v H' → Q' v H') (hk : κ1 + κf ≤ κ := by omega) : spD K g κf n Φ vs H1 Q' (XO K g tk (Fe.c - Fe.b) Fe He E) :=
  ⟨tk, ⟨F1.m, F1.b, F1.b + κf⟩, ss, Q, E, hT, sub, ⟨tk.recap ok _, rfl, by have := A.cap; have := A.lim; have := st.tm; show F1.b + κf ≤ tLim; omega⟩, r.step (Step.recap _), hn, ha, q, fun v H' z => k v H' (z.at (st.trans (Step.recap _))), fun c d H' z => A.backX (κ1 := κ) (z.at (st.trans (Step.recap _)))⟩
theorem qe_call (F : Fn X.prog X.w X.K X.mg X.base g k x ps Φ κf) (hr : Room k X.A) (hg : Gl X x) (ha : QA g X (e :: es) u κ) (hdb : (x == ("__debug__" : Str)) = false := by decide) (he : starEach (e :: es) X.env = (false, eval e X.env) :: starEach es X.env := by rfl) (hpl : (backTo pos (starEach es X.env)).any (·.1) = false := by rfl) :
    QE g X (.Call (.Name x p) (e :: es) [] pos) (dCall ps.length Φ u) (κ + κf) := ⟨fun tk Fe He E hT hx => by
  obtain ⟨f, fd, F1, hm, hk, hb⟩ := F.ex
  refine (pe_call F1 hr hg hm hk hb .nil (passes_call (E := XO X.K g tk (Fe.c - Fe.b) Fe He E) hx fun _ _ _ _ z => z) (ha.pa tk Fe He E hT hx) hdb he hpl).dimp fun σ H Q' h => ?_
  obtain ⟨F, α, Q, A, q, kk⟩ := h
  refine ⟨F, α, _, A.w, q, fun vs H1 F1 ss st1 sub1 ok1 reps q1 => ?_⟩
  show spD X.K g κf ps.length Φ (vs ++ []) H1 Q' _
  rw [List.append_nil]
  exact spD_call hT A st1 sub1 ok1 reps q1.1 q1.2.1 q1.2.2 kk⟩
theorem qe_call0 (F : Fn X.prog X.w X.K X.mg X.base g k x [] Φ κf) (hr : Room k X.A) (hg : Gl X x) (hdb : (x == ("__debug__" : Str)) = false := by decide) :
    QE g X (.Call (.Name x p) [] [] pos) (fun _ Q E => Φ [] Q E) κf := ⟨fun tk Fe He E hT hx => by
  obtain ⟨f, fd, F1, hm, hk, hb⟩ := F.ex
  refine (pe_call0 F1 hr hg hm hk hb .nil (passes_call (E := XO X.K g tk (Fe.c - Fe.b) Fe He E) hx fun _ _ _ _ z => z) hdb).dimp fun σ H Q' h => ?_
  obtain ⟨F, α, Q, A, q, kk⟩ := h
  exact spD_call (n := 0) (ss := []) hT A (Step.refl (κ := 0) _ _ _) A.sub A.ok rfl rfl rfl q kk⟩
end
end DL

set_option Elab.async false
set_option linter.all false
set_option maxRecDepth 100000
set_option maxHeartbeats 4000000
namespace DL
open PySem PySem.Spec L2

/-! ### a caught exception, asked for its class (with or without a dict) -/
section
variable {prog : Program} {w : World} {A : Around} {E : Value → Shared → Prop} {s : Shared} {K : PySem.W.Frag} {x C : Addr} {ox : Obj} {od : Option Obj}
theorem find_data {name : Str} {a g : Value} (hc : (PySem.W.clsIn K C).isSome = true) (ha : PySem.W.findIn K (.ref C) name = some (some a)) (hg : PySem.W.specialIn K a "__get__" = some (some g)) (ht : PySem.W.takesIn K a = some true) : PySem.W.findObj K C od name = some (.bind g a) := by
  obtain ⟨cd, e⟩ := Option.isSome_iff_exists.mp hc
  unfold PySem.W.findObj
  rw [e, Option.bind_some, ha, Option.bind_some]
  simp [hg, ht]
theorem exc_class {Q : Option Value → Shared → Prop} (T : ExcC K C) (X : K.In s.heap) (I : PySem.W.InstAt s.heap x ox C od) (h : Q (some (.ref C)) { s with toks := s.toks + 1 }) : wpAny (model prog w) A (getAttr? (.ref x) "__class__") Q E s := by
  have hf : PySem.W.findObj K C od "__class__" = some (.bind (.builtin "getset_descriptor.__get__") (.builtin "object.__class__")) := find_data (by obtain ⟨cd, hc, _⟩ := PySem.W.any_some T.hd; rw [hc]; rfl) T.ha T.hn T.ht
  obtain ⟨hp, g, d, t, os⟩ := s
  have L0 := I.type (M := model prog w)
  have L1 := PySem.W.looks_findIn (M := model prog w) X T.hg
  have L2 := PySem.W.looks_findIn (M := model prog w) X T.hk
  have L3 := PySem.W.looks_find (M := model prog w) X I hf
  have sub : PySem.W.Looks (model prog w) hp (isInstance (.ref x) (.type "BaseException")) true := L0.andThen (PySem.W.looks_subIn X T.hs)
  have n1 : (Value.builtin "BaseException.__getattribute__" == Value.builtin "object.__getattribute__") = false := by decide +kernel
  have n2 : (onTheHeap (Value.ref C) && Value.builtin "BaseException.__getattribute__" == Value.builtin "object.__getattribute__") = false := by rw [n1]; rfl
  unfold getAttr? getAttrBy? getAttrBy
  refine wpAny_bind (wpAny_mkText (wpAny_bind (wpAny_attempt (wpAny_holding (wpAny_bind (L0.at (wpAny_bind (L1.at ?_))))))))
  show wpAny _ _ (if (onTheHeap (Value.ref C) && Value.builtin "BaseException.__getattribute__" == Value.builtin "object.__getattribute__") = true then _ else _) _ _ _
  rw [n2, if_neg Bool.false_ne_true]
  unfold getAttrByItsOwn hookBefore
  refine wpAny_bind ?_
  rw [if_pos (show onTheHeap (Value.ref C) = true from rfl)]
  refine L2.at ?_
  refine wpAny_bind (wpAny_attempt (wpAny_holding ?_))
  unfold callGetattribute
  rw [show (false && onTheHeap (Value.builtin "BaseException.__getattribute__")) = false from rfl, if_neg Bool.false_ne_true]
  unfold boundAndCalled
  rw [PySem.F.excAttr_ValueError.ga.bind (.ref x)]
  refine wpAny_bind (wpAny_pure ?_)
  show wpAny _ _ (call (.builtin "BaseException.__getattribute__") [.ref x, .str "__class__" t]) _ _ _
  refine wpAny_call (codeAny_call_builtin PySem.F.excAttr_ValueError.ga.plain PySem.F.entry_bexc_ga ?_)
  refine @PySem.W.check_slot (model prog w) _ _ ⟨hp, g, d, t + 1, os⟩ "BaseException.__getattribute__" "BaseException" "__getattribute__" (.ref x) [.str "__class__" t] [] _ (by decide +kernel) (by decide +kernel) sub (PySem.F.args_bexc_ga (.ref x) (.str "__class__" t)) ?_
  unfold Builtin.«object.__getattribute__»
  refine wpAny_bind (wpAny_of_eq (a := ((Value.ref x : Value), [Value.str "__class__" t])) (by first | rfl | (simp only [slotArgs]; rfl)) ?_)
  refine wpAny_bind (wpAny_pure (wpAny_bind (L0.at (wpAny_bind (L3.at ?_)))))
  show wpAny _ _ (holding [Value.builtin "object.__class__"] (call (.builtin "getset_descriptor.__get__") [.builtin "object.__class__", .ref x, .ref C]) >>= ret) _ _ _
  refine wpAny_bind (wpAny_holding (wpAny_call (PySem.W.class_get (s := ⟨hp, g, d, t + 1, os⟩) (ox := ox) (od := od) X I T.hm ?_)))
  refine wpAny_pure ?_
  show wpAny _ _ (handedOut (.ref C)) _ _ _
  rw [PySem.W.handedOut_of (v := .ref C) rfl]
  first
    | exact wpAny_pure (wpAny_pure h)
    | exact wpAny_pure h
    | exact wpAny_pure (wpAny_bind (wpAny_pure (wpAny_pure h)))
theorem kit_exc (T : ExcC K C) : PySem.W.KitX K (.ref x) (.ref C) (fun h => ∃ ox od, PySem.W.InstAt h x ox C od) where
  ty := fun _ _ _ ⟨_, _, I⟩ => I.type
  it := fun _ _ X _ => by
    obtain ⟨cdD, hcD, _⟩ := PySem.W.any_some T.hd
    unfold PySem.W.clsIn at hcD
    split at hcD
    · rename_i c' d' cd' sl' ho
      intro A' Q' E' s' k q
      unfold isType loadHead
      exact wpAny_bind (wpAny_loadPart (k _ _ (X _ _ ho)) (wpAny_pure q))
    · cases hcD
  ne := fun h tp dd its n sl X htp => by
    obtain ⟨cdD, hcD, _⟩ := PySem.W.any_some T.hd
    refine Bool.eq_false_iff.mpr fun q => ?_
    have e : C = tp := Value.ref.inj (beq_iff_eq.mp q)
    subst e
    unfold PySem.W.clsIn at hcD
    split at hcD
    · rename_i c' d' cd' sl' ho
      have z := (X _ _ ho).symm.trans htp
      cases z
    · cases hcD
  ca := fun X ⟨_, _, I⟩ k => exc_class T X I k
/-- what is tracked of a caught exception, at the heap -/
theorem exc_inst {P : Program} {H : Hp} {h : Heap} {dd : Option Addr} (hok : HOk P w H h) (ha : H x = some (ExcO x C dd)) (hd : dd = none ∨ ∃ d fs, dd = some d ∧ H d = some (.xd fs)) : ∃ ox od, PySem.W.InstAt h x ox C od := by
  have z : ObjOk P w H h x (.ext fun h => ∃ (oe : Obj) (vs : Array Value), h.get? x = some oe ∧ Zc (.ref C) dd oe ∧ oe.data = .fields vs) := hok x _ ha
  obtain ⟨⟨oe, vs, e1, e2, e3⟩, _, _⟩ := z
  obtain ⟨oc, odd, dt, sl⟩ := oe
  obtain ⟨h1, h2⟩ := e2
  dsimp only at h1 h2 e3
  subst h1 h2 e3
  rcases hd with rfl | ⟨d, fs, rfl, e⟩
  · exact ⟨_, none, e1, rfl, rfl, trivial⟩
  · have y : ObjOk P w H h d (.xd fs) := hok d _ e
    obtain ⟨mA, ⟨o, es, ep, e4, _⟩, _⟩ := y
    exact ⟨_, some o, e1, rfl, rfl, e4⟩
end
def rIsX (K : PySem.W.Frag) : List V → Hp → VK → Prop := fun xs H Q => ∃ (a C : Addr) (dd : Option Addr) (c : V) (u : Value) (b : Bool), xs = [.ref a, c] ∧ H a = some (ExcO a C dd) ∧ (dd = none ∨ ∃ d fs, dd = some d ∧ H d = some (.xd fs)) ∧ ExcC K C ∧ ClsV c u ∧ PySem.W.kitOne K (.ref C) u = some b ∧ Q (.bl b) H
theorem call_isX {X : Cx} : CallR X (.builtin "isinstance") (rIsX X.K) := by
  intro pins s σ H xs us Q I r h
  obtain ⟨a, C, dd, c, u, b, rfl, ha, hd, T, k, e, q⟩ := h
  obtain ⟨u1, u2, rfl, r1, r2⟩ := vals2 r
  have e2 := k.eq r2
  subst e2
  cases (show u1 = Value.ref a from r1)
  exact PySem.W.kia_one (kit_exc T) I.kIn (exc_inst I.hok ha hd) e (fun z => nomatch z) fun tk => ⟨.bl b, H, I.tok tk, rfl, q⟩

/-! ### isinstance over data: classes by number -/
def tyN : List String := ["int", "bool", "str", "tuple", "list", "dict", "NoneType"]
/-- what the head tells of the own classes: n of them; sub: which lies under which; ex: exceptions -/
structure Kinds (K : PySem.W.Frag) (g : Gv) (n : Nat) (sub : Nat → Nat → Bool) (ex : Nat → Bool) : Prop where
  cc : ∀ a b, a < n → b < n → PySem.W.kitOne K (.ref (g.CA a)) (.ref (g.CA b)) = some (sub a b)
  ct : ∀ a, a < n → ∀ T ∈ tyN, PySem.W.kitOne K (.ref (g.CA a)) (.type T) = some false
  tc : ∀ T ∈ tyN, ∀ b, b < n → PySem.W.kitOne K (.type T) (.ref (g.CA b)) = some false
  exc : ∀ a, a < n → ex a = true → ExcC K (g.CA a)
  ins : ∀ a, a < n → ex a = false → Cls K (g.CA a) ∧ PySem.W.findIn K (.ref (g.CA a)) "__class__" = some (some (.builtin "object.__class__")) ∧ PySem.W.specialIn K (.builtin "object.__class__") "__get__" = some (some (.builtin "getset_descriptor.__get__")) ∧
    PySem.W.takesIn K (.builtin "object.__class__") = some true ∧ PySem.W.mroIn K (g.CA a) (.type "object") = some true
/-- the type of a datum: a built-in one, an own class -/
def D.ty : D → Option (String ⊕ Nat)
  | .non => some (.inl "NoneType")
  | .bl _ => some (.inl "bool")
  | .int _ => some (.inl "int")
  | .str _ => some (.inl "str")
  | .tup _ => some (.inl "tuple")
  | .lst _ => some (.inl "list")
  | .scr _ => some (.inl "list")
  | .dic _ _ => some (.inl "dict")
  | .ins c _ _ => some (.inr c)
  | .exc c _ _ => some (.inr c)
  | _ => none
theorem seqT_ty {K : PySem.W.Frag} {H : Hp} {a : Addr} {vs : List V} (h : SqT K H a vs) : TyX K H (.ref a) (.type "tuple") := by
  rcases h with (h | ⟨o, h⟩) | h
  · exact .base (.tup h)
  · exact .fTuple h
  · obtain ⟨o, its, n, h1, h2, _⟩ := h
    exact .kTuple h1 h2
theorem seqL_ty {K : PySem.W.Frag} {H : Hp} {a : Addr} {vs : List V} (h : SqL K H a vs) : TyX K H (.ref a) (.type "list") := by
  rcases h with (h | ⟨o, h⟩) | h
  · exact .base (.lst h)
  · exact .base (.frz h)
  · obtain ⟨o, its, n, h1, h2, _⟩ := h
    exact .kList h1 h2
/-- isinstance(x, T), T built-in; isinstance(x, C), C the c-th own class -/
def isT (T : String) (d : D) : Option Bool := match d.ty with
  | some (.inl t) => kitB t T
  | some (.inr _) => some false
  | none => none
def isC (sub : Nat → Nat → Bool) (c : Nat) (d : D) : Option Bool := match d.ty with
  | some (.inl _) => some false
  | some (.inr a) => some (sub a c)
  | none => none
/-- the classes' numbers that occur in a datum's top -/
def D.low (n : Nat) : D → Prop
  | .ins c _ _ => c < n
  | .exc c _ _ => c < n
  | _ => True
def dIs (n : Nat) (ex : Nat → Bool) (f : D → Option Bool) (te : DE) : DE := fun α Q E => te α (fun x => ∃ b, x.fz.view.low n ∧ (∀ c ns ds, x.fz.view = .exc c ns ds → ex c = true) ∧ (∀ c ns ds, x.fz.view = .ins c ns ds → ex c = false) ∧ f x.fz.view = some b ∧ Q (.fr (.bl b))) E
/-- the type of a value at the heap, or a tracked exception -/
theorem ty_of {K : PySem.W.Frag} {g : Gv} {tk : Tk} {F : Gh} {H : Hp} {s : S} {v : V} {n : Nat} {sub : Nat → Nat → Bool} {ex : Nat → Bool} (Kd : Kinds K g n sub ex) (su : Same F H) (r : RepS K g tk F H s v) (hl : s.view.low n) (he : ∀ c ns ds, s.view = .exc c ns ds → ex c = true) (hi : ∀ c ns ds, s.view = .ins c ns ds → ex c = false) :
    (∀ t, s.view.ty = some (.inl t) → TyX K H v (.type t) ∧ t ∈ tyN) ∧ (∀ c, s.view.ty = some (.inr c) → c < n ∧ (TyX K H v (.ref (g.CA c)) ∨ (ExcC K (g.CA c) ∧ ∃ a dd, v = .ref a ∧ H a = some (ExcO a (g.CA c) dd) ∧ (dd = none ∨ ∃ d fs, dd = some d ∧ H d = some (.xd fs))))) := by
  cases e : s.view with
  | non =>
    refine ⟨fun t z => ?_, fun c z => (nomatch z)⟩
    cases z
    have q := RepS.fr_ r e ⟨fun _ z => (nomatch z), fun _ _ z => (nomatch z), fun z => (nomatch z), fun _ _ _ z => (nomatch z)⟩
    rw [Rep.non_ q]
    exact ⟨.base .non, by decide⟩
  | bl b =>
    refine ⟨fun t z => ?_, fun c z => (nomatch z)⟩
    cases z
    rw [RepS.bl r e]
    exact ⟨.base (.bl b), by decide⟩
  | int b =>
    refine ⟨fun t z => ?_, fun c z => (nomatch z)⟩
    cases z
    rw [RepS.int r e]
    exact ⟨.base (.int b), by decide⟩
  | str b =>
    refine ⟨fun t z => ?_, fun c z => (nomatch z)⟩
    cases z
    rw [RepS.str r e]
    exact ⟨.base (.str b), by decide⟩
  | tup ds =>
    refine ⟨fun t z => ?_, fun c z => (nomatch z)⟩
    cases z
    obtain ⟨a, vs, rfl, h2, _⟩ := RepS.tup su r e
    exact ⟨seqT_ty h2, by decide⟩
  | lst ds =>
    refine ⟨fun t z => ?_, fun c z => (nomatch z)⟩
    cases z
    obtain ⟨a, vs, rfl, h2, _⟩ := RepS.lst su r e
    exact ⟨.base (.lst h2), by decide⟩
  | scr ns =>
    refine ⟨fun t z => ?_, fun c z => (nomatch z)⟩
    cases z
    have q := RepS.fr_ r e ⟨fun _ z => (nomatch z), fun _ _ z => (nomatch z), fun z => (nomatch z), fun _ _ _ z => (nomatch z)⟩
    unfold Rep at q
    obtain ⟨a, rfl, h2⟩ := q
    exact ⟨seqL_ty (su.seq h2), by decide⟩
  | dic ks ds =>
    refine ⟨fun t z => ?_, fun c z => (nomatch z)⟩
    cases z
    have q : ∃ a vs, v = .ref a ∧ H a = some (.dK (ks.zip vs)) := by
      cases s with
      | fr d =>
        have e' : d = .dic ks ds := e
        subst e'
        have q := r
        unfold RepS Rep at q
        obtain ⟨a, vs, rfl, h2, _⟩ := q
        exact ⟨a, vs, rfl, su _ _ h2⟩
      | nw d =>
        have e' : d = .dic ks ds := e
        subst e'
        obtain ⟨p, rfl, _, _, vs, h2, _⟩ := r
        exact ⟨p, vs, rfl, h2⟩
      | bw d =>
        have e' : d = .dic ks ds := e
        subst e'
        obtain ⟨p, rfl, _, _, vs, h2, _⟩ := r
        exact ⟨p, vs, rfl, h2⟩
      | tk => cases e
    obtain ⟨a, vs, rfl, h2⟩ := q
    exact ⟨.base (.dK h2), by decide⟩
  | raw w => exact ⟨fun t z => (nomatch z), fun c z => (nomatch z)⟩
  | tok => exact ⟨fun t z => (nomatch z), fun c z => (nomatch z)⟩
  | ins c ns ds =>
    refine ⟨fun t z => (nomatch z), fun c' z => ?_⟩
    cases z
    rw [e] at hl
    have q : ∃ a dx vs, v = .ref a ∧ H a = some (.ins (g.CA c) dx (ns.zip vs)) := by
      cases s with
      | fr z =>
        have e' : z = .ins c ns ds := e
        subst e'
        have r' : Rep K g F (.ins c ns ds) v := r
        unfold Rep at r'
        obtain ⟨a, dx, vs, rfl, h2, _⟩ := r'
        exact ⟨a, dx, vs, rfl, su _ _ h2⟩
      | nw z =>
        have e' : z = .ins c ns ds := e
        subst e'
        obtain ⟨p, rfl, _, _, dx, vs, h2, _⟩ := r
        exact ⟨p, dx, vs, rfl, h2⟩
      | bw z =>
        have e' : z = .ins c ns ds := e
        subst e'
        obtain ⟨p, rfl, _, _, dx, vs, h2, _⟩ := r
        exact ⟨p, dx, vs, rfl, h2⟩
      | tk => cases e
    obtain ⟨a, dx, vs, rfl, h2⟩ := q
    obtain ⟨c1, c2, c3, c4, c5⟩ := Kd.ins c hl (hi _ _ _ e)
    exact ⟨hl, .inl (.base (.ins h2 c1 c2 c3 c4 c5))⟩
  | exc c ns ds =>
    refine ⟨fun t z => (nomatch z), fun c' z => ?_⟩
    cases z
    rw [e] at hl
    have q := RepS.fr_ r e ⟨fun _ z => (nomatch z), fun _ _ z => (nomatch z), fun z => (nomatch z), fun _ _ _ z => (nomatch z)⟩
    unfold Rep at q
    obtain ⟨a, dd, vs, rfl, h2, _, h4, _⟩ := q
    refine ⟨hl, .inr ⟨Kd.exc c hl (he _ _ _ e), a, dd, rfl, su _ _ h2, ?_⟩⟩
    rcases h4 with ⟨h4, _⟩ | ⟨d, e1, e2⟩
    · exact .inl h4
    · exact .inr ⟨d, _, e1, su _ _ e2⟩
section
variable {g : Gv} {X : Cx} {n : Nat} {sub : Nat → Nat → Bool} {ex : Nat → Bool} {e : Expr} {te : DE} {p p2 pos : Pos} {x : Str}
def rIsA (K : PySem.W.Frag) : List V → Hp → VK → Prop := fun xs H Q => rIsi K xs H Q ∨ rIsX K xs H Q
theorem call_isA : CallR X (.builtin "isinstance") (rIsA X.K) := CallR.or call_isi call_isX
theorem qe_isT {T : String} (Kd : Kinds X.K g n sub ex) (hg : Gl X "isinstance") (hm : X.mg "isinstance" = none) (hgx : Gl X x) (hmx : X.mg x = none) (hv : bootBuiltins x = some (.type T)) (hT : T ∈ tyN) (he : QE g X e te κ) (hnx : x ≠ "__name__" := by decide) (hdx : (x == ("__debug__" : Str)) = false := by decide)
    (h1 : starEach [e, .Name x p2] X.env = (false, eval e X.env) :: starEach [.Name x p2] X.env := by rfl) (h2 : (backTo pos (starEach [.Name x p2] X.env)).any (·.1) = false := by rfl) (h3 : starEach [.Name x p2] X.env = (false, eval (.Name x p2) X.env) :: starEach [] X.env := by rfl) :
    QE g X (.Call (.Name "isinstance" p) [e, .Name x p2] [] pos) (dIs n ex (isT T) te) κ := by
  have f : CallS g X.K (rIsA X.K) (fun ss Q => match ss with
    | [s, .fr (.raw w)] => w = .ty T ∧ ∃ b, s.view.low n ∧ (∀ c ns ds, s.view = .exc c ns ds → ex c = true) ∧ (∀ c ns ds, s.view = .ins c ns ds → ex c = false) ∧ isT T s.view = some b ∧ Q (.fr (.bl b))
    | _ => False) := by
    intro tk F H ss vs Q Q' hTk su ok r h k
    match ss, h with
    | [s, .fr (.raw w)], h =>
      obtain ⟨rfl, b, hl, he, hi, hb, q⟩ := h
      obtain ⟨v, u, rfl, r1, r2⟩ := RepSs.two r
      have eu : u = .ty T := Rep.raw_ (K := X.K) (g := g) (F := F) r2
      subst eu
      obtain ⟨t1, t2⟩ := ty_of Kd su r1 hl he hi
      unfold isT at hb
      cases z : s.view.ty with
      | none => rw [z] at hb; cases hb
      | some y =>
        rw [z] at hb
        cases y with
        | inl t => exact .inl ⟨v, .ty T, .type t, .type T, b, rfl, .ty T, (t1 t z).1, kit_ty hb, k _ H (VO.bl su ok q)⟩
        | inr c =>
          cases hb
          obtain ⟨hc, t3⟩ := t2 c z
          have kk := Kd.ct c hc T hT
          rcases t3 with t3 | ⟨T3, a, dd, rfl, h1, h2⟩
          · exact .inl ⟨v, .ty T, _, .type T, false, rfl, .ty T, t3, kk, k _ H (VO.bl su ok q)⟩
          · exact .inr ⟨a, g.CA c, dd, .ty T, .type T, false, rfl, h1, h2, T3, .ty T, kk, k _ H (VO.bl su ok q)⟩
  have z := qe_callB (p := p) call_isA f hg hm (by rfl) (qa_cons he (qa_cons (qe_ty (T := T) hgx hmx hv hnx hdx) qa_nil h3) h1) (by decide) (by decide) h1 h2
  exact ⟨fun tk Fe He E hT hx => (z.pe tk Fe He E hT hx).dimp fun σ H Q' h => by
    obtain ⟨F, α, Q, A, q, k⟩ := h
    refine ⟨F, α, Q, A, ?_, k⟩
    have e1 : (fun x : S => (V.ty T = V.ty T ∧ ∃ b, x.fz.view.low n ∧ (∀ c ns ds, x.fz.view = .exc c ns ds → ex c = true) ∧ (∀ c ns ds, x.fz.view = .ins c ns ds → ex c = false) ∧ isT T x.fz.view = some b ∧ Q (.fr (.bl b)))) = fun x : S => ∃ b, x.fz.view.low n ∧ (∀ c ns ds, x.fz.view = .exc c ns ds → ex c = true) ∧ (∀ c ns ds, x.fz.view = .ins c ns ds → ex c = false) ∧ isT T x.fz.view = some b ∧ Q (.fr (.bl b)) := by
      funext x
      exact propext ⟨fun h => h.2, fun h => ⟨rfl, h⟩⟩
    show te α (fun x : S => (V.ty T = V.ty T ∧ ∃ b, x.fz.view.low n ∧ (∀ c ns ds, x.fz.view = .exc c ns ds → ex c = true) ∧ (∀ c ns ds, x.fz.view = .ins c ns ds → ex c = false) ∧ isT T x.fz.view = some b ∧ Q (.fr (.bl b)))) E
    rw [e1]
    exact q⟩
theorem qe_isC {c : Nat} (Kd : Kinds X.K g n sub ex) (hc : c < n) (hg : Gl X "isinstance") (hm : X.mg "isinstance" = none) (hgx : Gl X x) (hmx : X.mg x = some (.ref (g.CA c))) (he : QE g X e te κ) (hdx : (x == ("__debug__" : Str)) = false := by decide)
    (h1 : starEach [e, .Name x p2] X.env = (false, eval e X.env) :: starEach [.Name x p2] X.env := by rfl) (h2 : (backTo pos (starEach [.Name x p2] X.env)).any (·.1) = false := by rfl) (h3 : starEach [.Name x p2] X.env = (false, eval (.Name x p2) X.env) :: starEach [] X.env := by rfl) :
    QE g X (.Call (.Name "isinstance" p) [e, .Name x p2] [] pos) (dIs n ex (isC sub c) te) κ := by
  have f : CallS g X.K (rIsA X.K) (fun ss Q => match ss with
    | [s, .fr (.raw w)] => w = .ref (g.CA c) ∧ ∃ b, s.view.low n ∧ (∀ c ns ds, s.view = .exc c ns ds → ex c = true) ∧ (∀ c ns ds, s.view = .ins c ns ds → ex c = false) ∧ isC sub c s.view = some b ∧ Q (.fr (.bl b))
    | _ => False) := by
    intro tk F H ss vs Q Q' hTk su ok r h k
    match ss, h with
    | [s, .fr (.raw w)], h =>
      obtain ⟨rfl, b, hl, he, hi, hb, q⟩ := h
      obtain ⟨v, u, rfl, r1, r2⟩ := RepSs.two r
      have eu : u = .ref (g.CA c) := Rep.raw_ (K := X.K) (g := g) (F := F) r2
      subst eu
      obtain ⟨t1, t2⟩ := ty_of Kd su r1 hl he hi
      unfold isC at hb
      cases z : s.view.ty with
      | none => rw [z] at hb; cases hb
      | some y =>
        rw [z] at hb
        cases y with
        | inl t =>
          cases hb
          exact .inl ⟨v, _, .type t, _, false, rfl, .own _, (t1 t z).1, Kd.tc t (t1 t z).2 c hc, k _ H (VO.bl su ok q)⟩
        | inr a =>
          cases hb
          obtain ⟨ha, t3⟩ := t2 a z
          have kk := Kd.cc a c ha hc
          rcases t3 with t3 | ⟨T3, a', dd, rfl, h1, h2⟩
          · exact .inl ⟨v, _, _, _, _, rfl, .own _, t3, kk, k _ H (VO.bl su ok q)⟩
          · exact .inr ⟨a', g.CA a, dd, _, _, _, rfl, h1, h2, T3, .own _, kk, k _ H (VO.bl su ok q)⟩
  have z := qe_callB (p := p) call_isA f hg hm (by rfl) (qa_cons he (qa_cons (qe_ref hgx hmx hdx) qa_nil h3) h1) (by decide) (by decide) h1 h2
  exact ⟨fun tk Fe He E hT hx => (z.pe tk Fe He E hT hx).dimp fun σ H Q' h => by
    obtain ⟨F, α, Q, A, q, k⟩ := h
    refine ⟨F, α, Q, A, ?_, k⟩
    have e1 : (fun x : S => (V.ref (g.CA c) = V.ref (g.CA c) ∧ ∃ b, x.fz.view.low n ∧ (∀ c ns ds, x.fz.view = .exc c ns ds → ex c = true) ∧ (∀ c ns ds, x.fz.view = .ins c ns ds → ex c = false) ∧ isC sub c x.fz.view = some b ∧ Q (.fr (.bl b)))) = fun x : S => ∃ b, x.fz.view.low n ∧ (∀ c ns ds, x.fz.view = .exc c ns ds → ex c = true) ∧ (∀ c ns ds, x.fz.view = .ins c ns ds → ex c = false) ∧ isC sub c x.fz.view = some b ∧ Q (.fr (.bl b)) := by
      funext x
      exact propext ⟨fun h => h.2, fun h => ⟨rfl, h⟩⟩
    show te α (fun x : S => (V.ref (g.CA c) = V.ref (g.CA c) ∧ ∃ b, x.fz.view.low n ∧ (∀ c ns ds, x.fz.view = .exc c ns ds → ex c = true) ∧ (∀ c ns ds, x.fz.view = .ins c ns ds → ex c = false) ∧ isC sub c x.fz.view = some b ∧ Q (.fr (.bl b)))) E
    rw [e1]
    exact q⟩
end
end DL

set_option Elab.async false
set_option linter.all false
set_option maxRecDepth 100000
set_option maxHeartbeats 4000000
namespace DL
open PySem PySem.Spec L2

abbrev veB : List Value := _root_.He.veBase
/-! ### raise -/
def dRaise (c : Nat) : DS := fun _ _ E => E (c, [], [])
/-- what the head tells of a class that is raised by a text alone -/
structure ExcR (K : PySem.W.Frag) (C : Addr) : Prop where
  make : PySem.W.excIn K C veB "ValueError.__new__" = true
  kp : PySem.W.keepIn K (.ref C) = true
  sb : PySem.W.subIn K (.ref C) (.type "BaseException") = some true
  ty : PySem.W.typeIn K (.ref C) = some (.type "type")
section
variable {g : Gv} {X : Cx} {c : Nat} {x m : Str} {j : Nat} {p p2 pos pos' : Pos} {e : Expr} {es : List Expr}
theorem qs_raise (hc : X.calm = true) (T : ExcR X.K (g.CA c)) (hm : X.mg x = some (.ref (g.CA c))) (hg : Gl X x) (hdb : (x == ("__debug__" : Str)) = false := by decide) :
    QS g X (.Raise (some (.Call (.Name x p) [.Constant (.str m) j p2] [] pos)) none pos') (dRaise c) 0 := ⟨fun tk Fe He E hT hx =>
  (ps_raise hc hx (pmk_own (C := g.CA c) (bmB := veB) F.excBase_ValueError T.make hm T.kp (raises_own T.sb T.ty) hg hdb)).dimp fun D' σ H h => by
    obtain ⟨F, α, D, ρ, A, q, k⟩ := h
    exact ⟨F, c, [], [], [], A.stc, A.sub, A.ok, rfl, rfl, .inl ⟨rfl, rfl⟩, .nil, q⟩⟩
end

/-! ### classes whose __init__ is one's own: super().__init__(text), one field set -/
structure IniFd (P : Program) (K : PySem.W.Frag) (D0 : Addr) (f : Str) (body : List Stmt) (fd : FuncData) : Prop where
  body : fd.body = .stmts body
  kind : fd.scope.kind = .function
  co : fd.scope.isCoroutine = false
  gen : fd.scope.isGenerator = false
  ncell : ∀ y ∈ fd.scope.names, y.2 ≠ .cell
  nfree : ∀ y ∈ fd.scope.names, y.2 = .free → y.1 = ("__class__" : Str)
  self : fd.scope.names.lookup ("self" : Str) = some .local
  fld : fd.scope.names.lookup f = some .local
  sup : fd.scope.names.lookup ("super" : Str) = some .globalImplicit
  cls : fd.scope.names.lookup ("__class__" : Str) = some .free
  glob : fd.globals = mainGlobals
  blt : fd.builtins = builtinsNs
  clo : ∃ (cc : Addr) (o : Obj), fd.closure = [(("__class__" : Str), cc)] ∧ K.lookup cc = some o ∧ o.data = .cell (some (.ref D0))
  code : PySem.W.codeIn K fd.code fd.qualname = true
  file : ∃ (cv : Addr) (oc : Obj) (vs : Array Value) (fl : Str) (tf : Tok), fd.code = .ref cv ∧ K.lookup cv = some oc ∧ oc.data = .fields vs ∧ vs[2]? = some (.str fl tf) ∧ ((P.main.file : Str) == fl) = true
  head : ∃ ar, (fd.params.posonlyargs ++ fd.params.args).head? = some ar ∧ ar.arg = ("self" : Str)
  top : (P.main.scope.names.lookup ("super" : Str)).isSome = false
structure IniC (K : PySem.W.Frag) (D0 : Addr) (f : Str) (C : Addr) : Prop where
  T : OexC K C
  lk : ∃ (o : Obj) (cd : ClassData), K.lookup D0 = some o ∧ o.data = .cls cd
  sub : PySem.W.subIn K (.ref C) (.ref D0) = some true
  sup : PySem.W.ks_superIn K C D0 "__init__" = some (some (.builtin "ValueError.__init__"))
  ve : PySem.W.subIn K (.ref C) (.type "ValueError") = some true
  opq : PySem.W.nsIn K cStatics "thirdparty.any" = some none
  no : PySem.W.findIn K (.ref C) f = some none
def spIni (K : PySem.W.Frag) (D0 : Addr) (f : Str) : Sp := fun vs H Q _ => ∃ a C y, vs = [.ref a, y] ∧ IniC K D0 f C ∧ H a = some (exo a C none) ∧
  ∀ dx, H dx = none → dx ≠ a → Q .non (upd (upd H dx (exd dx [(f, y)])) a (exo a C (some dx)))
/-- the context of such an __init__ -/
def iniCx (CX : CXT) (P : Program) (w : World) (K : PySem.W.Frag) (mg : Str → Option Value) (base : Heap) (f : Str) (fd : FuncData) (f0 : Addr) (A : Around) (outer : List Env) (s : Shared) (H : Hp) (E : XK) : Cx where
  prog := P
  w := w
  K := K
  mg := mg
  base := base
  A := A.deeper (callEnv fd s.heap.objs.size f0)
  N := ["self", f]
  s_0 := s
  H_0 := H
  env := callEnv fd s.heap.objs.size f0
  outer := outer
  stack := callEnv fd s.heap.objs.size f0 :: outer
  ex := []
  calm := true
  fn := fun _ => false
  pn := []
  xe := fun e s' => wpAny (model P w) (A.deeper (callEnv fd s.heap.objs.size f0)) (leaving (callEnv fd s.heap.objs.size f0) e) (fun _ s'' => CX outer H s E e s'') (fun e' s'' => CX outer H s E e' s'') s'
section
variable {P : Program} {w : World} {K : PySem.W.Frag} {mg : Str → Option Value} {base : Heap} {D0 f0 : Addr} {f : Str} {body : List Stmt} {fd : FuncData} {CX : CXT} {A : Around} {outer : List Env} {s : Shared} {H : Hp} {E : XK}
theorem ini_start {h₀ : Heap} {us : List Value} {vs : List V} {n : Nat} (T : IniFd P K D0 f body fd) (nsf : ("self" : Str) ≠ f) (hd : A.handled = none) (e0 : Env0 P w K mg base A outer s H) (hl : vs.length = 2) (r : Vals vs us)
    (hns : h₀.Ns s.heap.objs.size (fun x => ((["self", f] : List Str).zip us).reverse.lookup x)) (kp : ∀ b o, s.heap.get? b = some o → h₀.get? b = some o) :
    Inv (iniCx CX P w K mg base f fd f0 A outer s H E) [] (vs.map some) H { s with heap := h₀, toks := n } := by
  have noA : ∀ b : Addr, b ∉ (iniCx CX P w K mg base f fd f0 A outer s H E).ex := fun b z => absurd (show b ∈ ([] : List Addr) from z) (by simp)
  obtain ⟨cc, oc, e1, e2, e3⟩ := T.clo
  have KX : K.In s.heap := e0.mod.kin.keeps fun b o e => (e0.bs b o e).1
  have cN : H cc = none := (e0.bs cc oc (e0.mod.kin _ _ e2)).2
  have cl : ∀ {y c}, (iniCx CX P w K mg base f fd f0 A outer s H E).env.cells.lookup y = some c → y = "__class__" ∧ c = cc := fun {y c} h => by
    have h' : fd.closure.lookup y = some c := h
    rw [e1] at h'
    have h2 : (match y == ("__class__" : Str) with | true => some cc | false => ([] : List (Str × Addr)).lookup y) = some c := h'
    cases z : (y == ("__class__" : Str)) with
    | true =>
      rw [z] at h2
      exact ⟨beq_iff_eq.mp z, (Option.some.inj h2).symm⟩
    | false =>
      rw [z] at h2
      cases h2
  have hcell : h₀.IsCell cc (some (.ref D0)) := ⟨oc, kp _ _ (KX _ _ e2), e3⟩
  obtain ⟨x, y, rfl⟩ : ∃ x y, vs = [x, y] := by
    match vs, hl with
    | [x, y], _ => exact ⟨x, y, rfl⟩
  obtain ⟨u1, u2, rfl, r1, r2⟩ := vals2 r
  refine ⟨⟨e0.mod, T.kind, T.glob, T.blt, Nat.le_refl _, fun a b c h1 h2 => ?_, fun y hy => ?_, fun y c z _ => ?_, fun _ => hd, Around.frames_deeper e0.frames, .inr ⟨rfl, rfl⟩, fun b z => absurd z (noA b), e0.bs, e0.bsz, fun b _ _ => noA b, fun b z => absurd z (noA b), e0.funs, e0.frf⟩,
    rfl, e0.bare, Un.kept kp, ⟨_, hns, fun i z v h1 h2 h3 => ?_⟩, fun y c h => ?_, e0.hok.fresh (Nat.le_refl _), fun y c h => ?_, fun p hp => absurd (show p ∈ ([] : List (Addr × Obj)) from hp) (by simp), e0.hok.kept kp, rfl⟩
  · exact (cl h1).1.trans (cl h2).1.symm
  · have hy : fd.scope.names.lookup y = some .cell ∨ fd.scope.names.lookup y = some .free := hy
    rcases hy with hy | hy
    · exact absurd rfl (T.ncell _ (PySem.mem_of_lookup hy))
    · have e := T.nfree _ (PySem.mem_of_lookup hy) rfl
      refine ⟨cc, ?_⟩
      show fd.closure.lookup y = some cc
      rw [e1, show y = ("__class__" : Str) from e]
      rfl
  · cases z
  · match i, h1, h2 with
    | 0, h1, h2 =>
      cases h1
      cases h2
      refine ⟨u1, r1, .inl ⟨T.self, ?_⟩⟩
      show ([(f, u2), (("self" : Str), u1)] : List (Str × Value)).lookup ("self" : Str) = some u1
      simp [List.lookup, show (("self" : Str) == f) = false from by simpa using nsf]
    | 1, h1, h2 =>
      cases h1
      cases h2
      refine ⟨u2, r2, .inl ⟨T.fld, ?_⟩⟩
      show ([(f, u2), (("self" : Str), u1)] : List (Str × Value)).lookup f = some u2
      simp [List.lookup]
  · obtain ⟨_, rfl⟩ := cl h
    exact ⟨_, hcell⟩
  · obtain ⟨_, rfl⟩ := cl h
    exact cN
theorem ld_sup {M : Model} {A : Around} {E : Value → Shared → Prop} {env : Env} {s : Shared} {x : Str} {mg mb : Str → Option Value} {v : Value} {Q : Value → Shared → Prop} (hk : env.scope.kind = .function) (hx : env.kindOf x = some .globalImplicit) (hg : s.heap.Ns env.globals mg) (hn : mg x = none)
    (hb : s.heap.Ns env.builtins mb) (hv : mb x = some v) (h : Q v s) : wpAny M A (loadName env x) Q E s := by
  unfold loadName
  simp only [Env.blockKind, hk, hx, ScopeKind.isAnnotationScope, Bool.false_and, Bool.false_eq_true, if_false]
  exact Calls.loadGlobal_builtin hg hn hb hv h
/-- the bound __init__ of the base, called -/
theorem call_mw {A : Around} {E : Value → Shared → Prop} {h : Heap} {g : Array GenState} {d : Drawn} {t : Nat} {os : OsState} {nm q : Str} {C N : Addr} {bs bm : List Value} {hdct : Bool} {sn : List Str} {sub : List Value} {ab : Bool} {col : Option Bool} {dd : Option Addr} {k0 k1 k2 k3 k5 : Option Value}
    {u e t0 : Addr} {rest : List Value} {Q : Value → Shared → Prop} (prog : Program) (w : World)
    (hC : h.get? C = some (excClassObj nm q C N bs bm hdct sn sub ab col dd k0 k1 k2 k3 k5 "ValueError.__new__")) (he : h.get? e = some ({ cls := .ref C, dict := none, data := .fields #[.ref t0, .none, .none, .none, .bool false, .none] } : Obj)) (hu : h.get? u = some (PySem.W.kxs_mw "ValueError.__init__" e)) (hrest : rest.length ≤ sizeLine)
    (hq : ∀ h' t1, (∀ b o, b ≠ e → h.get? b = some o → h'.get? b = some o) → h'.get? e = some ({ cls := .ref C, dict := none, data := .fields #[.ref t1, .none, .none, .none, .bool false, .none] } : Obj) → Q .none ⟨h', g, d, t, os⟩) :
    wpAny (model prog w) A (call (.ref u) rest) Q E ⟨h, g, d, t, os⟩ := by
  refine wpAny_call (codeAny_of_tree ?_)
  show wpAny _ A.in1 (callAny (.ref u) ⟨rest, []⟩) _ _ _
  simp only [callAny]
  refine wpAny_bind (wpAny_load hu ?_)
  simp only [PySem.W.kxs_mw, show (Value.type "method-wrapper" == Value.type "method" || Value.type "method-wrapper" == Value.type "builtin_function_or_method" || Value.type "method-wrapper" == Value.type "method-wrapper") = true by decide, if_true]
  refine PySem.W.KFB.if_so (by decide) ?_
  refine wpAny_bind (PySem.ESX.check_bound F.excBase_ValueError hC he rfl ?_)
  refine wpAny_bind (wpAny_pure (wpAny_pure ?_))
  refine ⟨plainId_quiet F.excBase_ValueError.init.plain _, codeAny_builtin F.excBase_ValueError.initEntry ?_⟩
  refine PySem.W.exc_init_tree (cls := .ref C) (t0 := t0) (dv := none) (c2 := .none) (c3 := .none) (b4 := .bool false) he hrest fun h' k e' _ => hq h' _ k e'
theorem ini_ok {oc : Value} {od : Option Addr} {osl : Array (Option Value)} {m : Str} {j : Nat} {p0 p1 ap p2 p3 p4 p5 p6 p7 p8 : Pos} (T : IniFd P K D0 f [.Expr (.Call (.Attribute (.Call (.Name "super" p0) [] [] p1) "__init__" ap) [.Constant (.str m) j p2] [] p3) p4, .Assign [.Attribute (.Name "self" p5) f p6] (.Name f p7) p8] fd)
    (lk : K.lookup f0 = some ⟨oc, od, .func fd, osl⟩) (nsf : ("self" : Str) ≠ f) (hS : mg "super" = none) (hfd : (f == ("__debug__" : Str)) = false) (hfc : (f == ("__classdict__" : Str)) = false)
    (hev : ∀ env, eval (.Call (.Attribute (.Call (.Name "super" p0) [] [] p1) "__init__" ap) [.Constant (.str m) j p2] [] p3) env = (do
      let ov ← attributeBase (.Call (.Name "super" p0) [] [] p1) "__init__" env (eval (.Call (.Name "super" p0) [] [] p1) env)
      standAt ap.atName
      let (f, first) ← holding [ov] (getMethod ov "__init__" (plainOf (.Call (.Name "super" p0) [] [] p1) env))
      callWith p3 f first (backTo p3 (starEach [.Constant (.str m) j p2] env)) [])) : FnOk P w K mg base CX 1 f0 fd ["self", f] (spIni K D0 f) := by
  refine ⟨fun vs H Q E h => ?_, fun A outer s H args us vs Q E hr e0 hb r hsp => ?_⟩
  · obtain ⟨a, C, y, rfl, _⟩ := h
    rfl
  obtain ⟨a, C, y, rfl, IC, ea, q⟩ := hsp
  have KX : K.In s.heap := e0.mod.kin.keeps fun b o e => (e0.bs b o e).1
  have lim : s.heap.NoLimit := e0.mod.nolimit.keeps fun b o e => (e0.bs b o e).1
  obtain ⟨u1, u2, rfl, r1, r2⟩ := vals2 r
  obtain rfl : u1 = Value.ref a := r1
  refine ks_codeAny_call_defAt hr.depth (KX _ _ lk) rfl lim (PySem.W.codeRec_of KX T.code) T.body hb (fun y hy => T.ncell y hy) (fun y hy => ?_) (fun h₀ hns kp => ?_) T.co T.gen T.kind
  · have hm : y ∈ [(("self" : Str), Value.ref a), (f, u2)] := hy
    rcases List.mem_cons.mp hm with e | hm
    · rw [e]
      exact T.self
    · rcases List.mem_cons.mp hm with e | hm
      · rw [e]
        exact T.fld
      · cases hm
  have I0 : Inv (iniCx CX P w K mg base f fd f0 A outer s H E) [] ([V.ref a, y].map some) H { s with heap := h₀, toks := s.toks + ((["self", f] : List Str).zip [Value.ref a, u2]).length } := ini_start T nsf hr.hd e0 rfl r hns kp
  generalize hX : iniCx CX P w K mg base f fd f0 A outer s H E = X0 at I0
  have hK : X0.K = K := by rw [← hX]; rfl
  have hP : X0.prog = P := by rw [← hX]; rfl
  have hW : X0.w = w := by rw [← hX]; rfl
  have hE : X0.env = callEnv fd s.heap.objs.size f0 := by rw [← hX]; rfl
  have K0 : K.In h₀ := KX.keeps kp
  obtain ⟨nm, qn, N, bs, bm, sn, sub, ab, col, dd, k0, k1, k2, k3, k5, hC, hbm⟩ := IC.T.cls
  obtain ⟨oD, cdD, hD, hDd⟩ := IC.lk
  obtain ⟨cc, occ, c1, c2, c3⟩ := T.clo
  obtain ⟨cv, ocv, vsv, fl, tf, v1, v2, v3, v4, v5⟩ := T.file
  obtain ⟨ar, a1, a2⟩ := T.head
  obtain ⟨mb, hmb, hbb⟩ := e0.mod.blt
  have bk : ∀ b o, base.get? b = some o → h₀.get? b = some o := fun b o e => kp b o (e0.bs b o e).1
  obtain ⟨t1, ho⟩ := exo_at I0.hok ea
  have ho : h₀.get? a = some ({ cls := .ref C, dict := none, data := .fields #[.ref t1, .none, .none, .none, .bool false, .none] } : Obj) := ho
  refine ks_wpAt_execs_cons (ks_wpAt_Expr_any (hi := by unfold interactive; rw [show (callEnv fd s.heap.objs.size f0).scope.kind = .function from T.kind]; rfl) (ks_wpAt_MethodCall (pl := plainOf (.Call (.Name "super" p0) [] [] p1) (callEnv fd s.heap.objs.size f0)) (ks_wpAt_super_base T.sup T.cls (by decide) rfl (kp _ _ (KX _ _ lk)) rfl a1 v1 (K0 _ _ v2) v3 v4 v5 T.top ?_) (hev _)))
  refine ld_sup T.kind T.sup (by rw [show (callEnv fd s.heap.objs.size f0).globals = mainGlobals from T.glob]; exact e0.mod.glob.keeps bk) hS (by rw [show (callEnv fd s.heap.objs.size f0).builtins = builtinsNs from T.blt]; exact hmb.keeps bk) ((hbb "super" (by decide)).trans (by rfl)) ⟨rfl, ?_⟩
  refine wpAny_loadName_free T.kind T.cls (c := cc) (show fd.closure.lookup ("__class__" : Str) = some cc by rw [c1]; rfl) ⟨_, K0 _ _ c2, c3⟩ ?_
  refine wpAny_loadName_local (v := .ref a) T.kind (by rw [a2]; exact T.self) hns (by
    rw [a2]
    show ([(f, u2), (("self" : Str), Value.ref a)] : List (Str × Value)).lookup ("self" : Str) = some (.ref a)
    simp [List.lookup, show (("self" : Str) == f) = false from by simpa using nsf]) ?_
  refine ks_wpAny_isType_cls (K0 _ _ hD) hDd ⟨rfl, ?_⟩
  refine ks_wpAny_call_super (K0 _ _ hD) hDd ho rfl (fun c z => nomatch z) (PySem.W.looks_subIn K0 IC.sub) fun h1 hso kp1 => ?_
  have K1 : K.In h1 := K0.keeps kp1
  have hcl : PySem.W.clsIn K C = some { name := nm, bases := bs, mro := .ref C :: bm, ns := N, qualname := qn, hasDict := true, slotNames := sn, subclasses := sub, abstract := ab, collection := col, hasDel := false } := by unfold PySem.W.clsIn; rw [hC] <;> rfl
  have hsup := IC.sup
  unfold PySem.W.ks_superIn at hsup
  rw [hcl, Option.bind_some] at hsup
  have J1 : PySem.W.InstAt h1 a { cls := .ref C, dict := none, data := .fields #[.ref t1, .none, .none, .none, .bool false, .none] } C none := ⟨kp1 _ _ ho, rfl, rfl, trivial⟩
  refine PySem.W.kxs_getMethod PySem.W.kxs_ValueError hso (PySem.W.looks_opaque K1 IC.opq) (l₀ := .ref C :: bm) (fun A Q E s k q => wpAny_bind ((PySem.W.looks_clsIn K1 hcl) A _ E s k (wpAny_pure q))) rfl K1 hsup (J1.type.andThen (PySem.W.looks_subIn K1 IC.ve)) (PySem.W.ks_ne K1 J1 hcl) (by decide) ?_
  have kp2 : ∀ b o, h₀.get? b = some o → (h1.push (PySem.W.kxs_mw "ValueError.__init__" a)).get? b = some o := fun b o e => Heap.get?_push_of_some _ (kp1 b o e)
  have K2 := K0.keeps kp2
  show wpAny _ _ (callWith p3 (.ref h1.objs.size) [] (backTo p3 (starEach [.Constant (.str m) j p2] (callEnv fd s.heap.objs.size f0))) []) _ _ _
  refine PySem.W.kxs_callWith (i := "ValueError.__init__") (x := a) rfl (Calls.evalArgs_plain (Calls.spliced_cons (Calls.Constant_str (k := j) (pos := p2) (Calls.spliced_nil ⟨Heap.get?_push_size _ rfl, ?_⟩))))
  refine call_mw P w (K2 _ _ hC) (kp2 _ _ ho) (Heap.get?_push_size _ rfl) (by show 1 ≤ sizeLine; rw [sizeLine_eq]; omega) fun h2 t2 k2 e2 => ?_
  have I2 : ∀ n, Inv X0 [] ([V.ref a, y].map some) H ⟨h2, s.gens, s.drawn, n, s.os⟩ := fun n => by
    have z := (I0.kept (t' := n) kp2).write (t' := n) (x := a) (e := a) (o := exo a C none) (h' := h2) (by rw [ea]; exact True.intro) (.inl rfl) k2 ⟨_, e2⟩ (exo_ok e2)
    have eu : upd H a (exo a C none) = H := by
      funext b
      by_cases hb : b = a
      · rw [hb, upd_same, ea]
      · rw [upd_ne hb]
    rw [eu] at z
    exact z
  show wpAt _ _ _ (execs [.Assign [.Attribute (.Name "self" p5) f p6] (.Name f p7) p8] (callEnv fd s.heap.objs.size f0)) _ _ _
  refine wpAt_of_wpAny ?_
  subst hX
  have pst : PSs (iniCx CX P w K mg base f fd f0 A outer s H E) [.Assign [.Attribute (.Name "self" p5) f p6] (.Name f p7) p8] (tOst K f (tVar 0) (tVar 1)) :=
    pss_one (ps_ost (pe_var (i := 0) rfl (.inl T.self)) (pe_var (i := 1) rfl (.inl T.fld) hfd hfc))
  refine wpAny_mono (pst.run [] _ _ H { nx := fun _ H' => Q .non H', rt := Q } (I2 _) ⟨y, rfl, .ref a, rfl, a, C, rfl, IC.T, IC.no, .inl ⟨ea, q⟩⟩) (fun fl s' hs => ?_) fun e s' hs => hs
  have fin : ∀ {σ' : L2.St} {H' : Hp} {v : V} {u : Value}, Inv (iniCx CX P w K mg base f fd f0 A outer s H E) [] σ' H' s' → L2.RelV v u → Q v H' → CE outer P w H s Q u s' :=
    fun {σ' H' v u} J rv q => ⟨v, H', J.os, J.bare, J.base, J.hok, rv, q⟩
  cases fl with
  | ret u =>
    obtain ⟨v, σ', H', J, rv, q⟩ := hs
    exact fin J rv q
  | next =>
    obtain ⟨σ', H', J, q⟩ := hs
    exact fin (v := V.non) (u := Value.none) J rfl q
  | brk =>
    obtain ⟨_, _, _, q⟩ := hs
    exact False.elim q
  | cont =>
    obtain ⟨_, _, _, q⟩ := hs
    exact False.elim q
end
end DL

set_option Elab.async false
set_option linter.all false
set_option maxRecDepth 100000
set_option maxHeartbeats 4000000
namespace DL
open PySem PySem.Spec L2

/-- a new thing that stands still -/
theorem Tk.newS {tk : Tk} {F : Gh} {H : Hp} {p : Addr} {o : HO} (sub : Same F H) (ok : tk.ok F H) (hp : H p = none) (nt : NT o) : Same (F.up p o) (upd H p o) ∧ tk.ok (F.up p o) (upd H p o) := by
  refine ⟨fun a u e => ?_, tk.st _ _ _ _ ok (fun a u e => ?_) (Nat.le_refl _) (fun a u e _ => ?_) (fun a ha => ?_) fun a u e n => ?_⟩
  · by_cases h : a = p
    · subst h
      rw [up_same] at e
      rw [upd_same]
      exact e
    · rw [up_ne h] at e
      rw [upd_ne h]
      exact sub a u e
  · rw [up_ne (ne_of_none e (sub.free hp))]
    exact e
  · rw [upd_ne (ne_of_none e hp)]
    exact e
  · obtain ⟨h1, h2⟩ := tk.fr _ _ ok a ha
    have ne : a ≠ p := fun z => h2 (by rw [z]; exact hp)
    rw [up_ne ne]
    exact h1
  · by_cases h : a = p
    · subst h
      rw [up_same] at e
      cases e
      exact nt
    · rw [up_ne h, n] at e
      cases e
def dRaiseI (c : Nat) (f : Str) (u : DA) : DS := fun _ α E => u α (fun ss => ∃ d, ss = [.fr d] ∧ E (c, [f], [d])) E
/-- the class C, its __init__ (one field f) -/
structure IniOk (P : Program) (w : World) (K : PySem.W.Frag) (mg : Str → Option Value) (base : Heap) (f : Str) (C : Addr) : Prop where
  ex : ∃ (D0 f0 : Addr) (fd : FuncData), FnOk P w K mg base (CX P w) 1 f0 fd ["self", f] (spIni K D0 f) ∧ Binds K fd ["self", f] [] ∧ PySem.W.findIn K (.ref C) "__init__" = some (some (.ref f0)) ∧ PySem.W.typeIn K (.ref f0) = some (.type "function") ∧ IniC K D0 f C
theorem qs_raiseI {g : Gv} {X : Cx} {c : Nat} {x f : Str} {p pos pos' : Pos} {e : Expr} {es : List Expr} {u : DA} (hc : X.calm = true) (T : IniOk X.prog X.w X.K X.mg X.base f (g.CA c)) (hr : Room 2 X.A) (hm : X.mg x = some (.ref (g.CA c))) (hg : Gl X x) (ha : QA g X (e :: es) u κ)
    (hdb : (x == ("__debug__" : Str)) = false := by decide) (he : starEach (e :: es) X.env = (false, eval e X.env) :: starEach es X.env := by rfl) (hpl : (backTo pos (starEach es X.env)).any (·.1) = false := by rfl) :
    QS g X (.Raise (some (.Call (.Name x p) (e :: es) [] pos)) none pos') (dRaiseI c f u) κ := ⟨fun tk Fe He E hT hx => by
  obtain ⟨D0, f0, fd, F1, hb, iC, tI, IC⟩ := T.ex
  refine (ps_raise hc hx (pmk_oex (C := g.CA c) IC.T iC tI F1 hr hb .nil (passes_call (E := fun _ _ _ => False) hx fun _ _ _ _ z => z.elim) hg hm (ha.pa tk Fe He E hT hx) hdb he hpl)).dimp fun D' σ H h => ?_
  obtain ⟨F, α, D, ρ, A, q, k⟩ := h
  refine ⟨F, α, _, A.w, q, fun vs H1 F1 ss st1 sub1 ok1 reps q1 => ?_⟩
  obtain ⟨d, rfl, q1⟩ := q1
  obtain ⟨v, rfl, r⟩ := RepSs.one reps
  refine ⟨by simp, fun a ha => ⟨a, g.CA c, v, rfl, IC, upd_same, fun dx hdx hne => ?_⟩⟩
  rw [upd_ne hne] at hdx
  have eH : upd (del (upd (upd (upd H1 a (exo a (g.CA c) none)) dx (exd dx [(f, v)])) a (exo a (g.CA c) (some dx))) a) dx (.xd [(f, v)]) = upd H1 dx (.xd [(f, v)]) := by
    funext b
    by_cases hb : b = dx
    · rw [hb, upd_same, upd_same]
    · rw [upd_ne hb, upd_ne hb]
      by_cases hb2 : b = a
      · rw [hb2, del_same, ha]
      · rw [del_ne hb2, upd_ne hb2, upd_ne hb, upd_ne hb2]
  refine ⟨rfl, dx, [(f, v)], upd_same, ?_, hdx, ?_⟩
  · rw [upd_ne hne, upd_same]
  · rw [eH]
    obtain ⟨n1, n2⟩ := Tk.newS (o := .xd [(f, v)]) sub1 ok1 hdx (fun ps z => nomatch z)
    have rd : Rep X.K g F1 d v := r
    have sn : Step tk 0 F1 H1 (F1.up dx (.xd [(f, v)])) (upd H1 dx (.xd [(f, v)])) := Step.new hdx sub1
    exact ⟨F1.up dx (.xd [(f, v)]), c, [f], [d], [v], ((A.st.trans st1).trans sn).w (by have := A.cap; have := A.st.tm; omega), n1, n2, rfl, rfl, .inr ⟨dx, rfl, up_same⟩, .cons (rd.mono sn.fr) .nil, q1⟩⟩

/-! ### a field of a caught exception -/
def tXt (K : PySem.W.Frag) (n : Str) (te : TE) : TE := fun σ H Q => te σ H fun x H1 => ∃ (a C d : Addr) (fs : List (Str × V)) (v : V), x = .ref a ∧ H1 a = some (ExcO a C (some d)) ∧ XfC K C ∧ PySem.W.findIn K (.ref C) n = some none ∧ H1 d = some (.xd fs) ∧ fs.lookup n = some v ∧ Q v H1
theorem pe_xt {X : Cx} {e : Expr} {te : TE} {pos : Pos} {n : Str} (he : PE X e te) (hb : attributeBase e n X.env (eval e X.env) = eval e X.env := by rfl) : PE X (.Attribute e n pos) (tXt X.K n te) := by
  refine ⟨fun pins s σ H Q I h => ?_⟩
  refine attr_of hb (thn (he.run pins s σ H _ I h) fun u s1 hh => ?_)
  obtain ⟨x, H1, I1, rx, a, C, d, fs, v, ex, ea, T, hno, ed, l, q⟩ := hh
  subst ex
  obtain rfl : u = Value.ref a := rx
  have z : ObjOk X.prog X.w H1 s1.heap a (.ext fun h => ∃ (oe : Obj) (vs : Array Value), h.get? a = some oe ∧ Zc (.ref C) (some d) oe ∧ oe.data = .fields vs) := I1.hok a _ ea
  obtain ⟨⟨oe, vs, ha, hz, hd⟩, _, _⟩ := z
  have hx : ObjOk X.prog X.w H1 s1.heap d (.xd fs) := I1.hok d _ ed
  obtain ⟨mA, hns, hr⟩ := hx
  obtain ⟨od, ho, hl⟩ := lookIn_ns hns
  obtain ⟨u, hu, ru⟩ := RelO.some_of (v := v) (o := mA n) (by rw [← l]; exact hr n)
  have J : PySem.W.InstAt s1.heap a oe C (some od) := ⟨ha, hz.1, by unfold PySem.W.notCls; rw [hd] <;> rfl, by rw [hz.2]; exact ho⟩
  exact HandSPX.exc_get I1.kIn J T.ga T.gg T.exC (PySem.W.findObj_own T.hdC hno rfl (by rw [hl, hu])) (handed_of ru) ⟨v, H1, I1.tok _, ru, q⟩
theorem zip_look {K : PySem.W.Frag} {g : Gv} {F : Gh} {n : Str} {d : D} : ∀ {ns : List Str} {ds : List D} {vs : List V}, Reps K g F ds vs → (ns.zip ds).lookup n = some d → ∃ v, (ns.zip vs).lookup n = some v ∧ Rep K g F d v
  | [], ds, vs, _, e => by cases e
  | x :: ns, [], vs, _, e => by cases e
  | x :: ns, y :: ds, vs, h, e => by
    obtain ⟨v, r, rfl, q, t⟩ := h.inv_cons
    have e2 : (match n == x with | true => some y | false => (ns.zip ds).lookup n) = some d := e
    show ∃ w, (match n == x with | true => some v | false => (ns.zip r).lookup n) = some w ∧ Rep K g F d w
    cases z : (n == x) with
    | true =>
      rw [z] at e2
      cases e2
      exact ⟨v, rfl, q⟩
    | false =>
      rw [z] at e2
      exact zip_look t e2
def dXt (n : Str) (m : Nat) (ok : Nat → Bool) (te : DE) : DE := fun α Q E => te α (fun x => ∃ c ns ds d, x.view = .exc c ns ds ∧ ok c = true ∧ (ns.zip ds).lookup n = some d ∧ Q (.fr d)) E
theorem qe_xt {g : Gv} {X : Cx} {e : Expr} {te : DE} {pos : Pos} {n : Str} {m : Nat} {ok : Nat → Bool} (T : ∀ c, ok c = true → XfC X.K (g.CA c) ∧ PySem.W.findIn X.K (.ref (g.CA c)) n = some none) (he : QE g X e te κ) (hb : attributeBase e n X.env (eval e X.env) = eval e X.env := by rfl) :
    QE g X (.Attribute e n pos) (dXt n m ok te) κ := ⟨fun tk Fe He E hT hx => (pe_xt (he.pe tk Fe He E hT hx) hb).dimp fun σ H Q' h => by
  obtain ⟨F, α, Q, A, q, k⟩ := h
  refine ⟨F, α, _, A.w, q, fun v H1 h1 => ?_⟩
  obtain ⟨F1, r, st1, sub1, ok1, rep1, _, c, ns, ds, d, e1, e2, e3, q1⟩ := h1
  have rp : Rep X.K g F1 (.exc c ns ds) v := RepS.fr_ rep1 e1 ⟨fun _ z => (nomatch z), fun _ _ z => (nomatch z), fun z => (nomatch z), fun _ _ _ z => (nomatch z)⟩
  unfold Rep at rp
  obtain ⟨a, dd, vs, rfl, h2, h3, h4, h5⟩ := rp
  obtain ⟨v', l1, l2⟩ := zip_look h5 e3
  rcases h4 with ⟨_, h4⟩ | ⟨d', f1, f2⟩
  · subst h4
    cases e3
  · subst f1
    exact ⟨a, g.CA c, d', _, v', rfl, sub1 _ _ h2, (T c e2).1, (T c e2).2, sub1 _ _ f2, l1, k _ _ ((VO.fr sub1 ok1 l2 q1).at st1)⟩⟩
end DL

set_option Elab.async false
set_option linter.all false
set_option maxRecDepth 100000
set_option maxHeartbeats 4000000
namespace DL
open PySem PySem.Spec L2

/-! ### try: body / except x as n: suite — the exception tracked in the suite and behind it -/
section
variable {X : Cx} {pins : List (Addr × Obj)} {σ : L2.St} {H : Hp} {s sI s' : Shared} {B : Heap} {a C : Addr} {d : Option Addr}
theorem landedT (I : Inv X pins σ H sI) (nb : ∀ b o, sI.heap.get? b = some o → b ∉ frs X.stack → B.get? b = some o) (st : B.StaysIn s'.heap) (up : sI.heap.UpToSlots s'.heap) (os : s'.os = sI.os) (ag : PyProof.Rows.AllBare s'.gens)
    (na : H a = none) (hB : B.get? a = none) (nfr : a ∉ frs X.stack) (ho : ∃ (oe : Obj) (vs : Array Value), s'.heap.get? a = some oe ∧ Zc (.ref C) d oe ∧ oe.data = .fields vs) : Inv X pins σ (upd H a (ExcO a C d)) s' := by
  have nI : ∀ {b : Addr} {o : Obj}, sI.heap.get? b = some o → b ≠ a := fun {b o} e z => by
    rw [z] at e
    have q := nb a o e nfr
    rw [hB] at q
    cases q
  have nf : ∀ b ∈ frs X.stack, ∀ o, sI.heap.get? b = some o → ∃ sl, s'.heap.get? b = some { o with slots := sl } := fun b hb o e => by
    obtain ⟨_, o', e', hd⟩ := I.stack.mem hb
    rw [e] at e'
    cases e'
    exact up b o e hd
  have nH : ∀ {b : Addr} {o : HO}, H b = some o → b ≠ a := fun {b o} e => ne_of_none e na
  have hokG : HOk X.prog X.w H s'.heap := (I.inGround nb).kept st
  have hok : HOk X.prog X.w (upd H a (ExcO a C d)) s'.heap := fun b o e => by
    by_cases h : b = a
    · subst h
      rw [upd_same] at e
      cases e
      obtain ⟨oe, vs, h1, h2, h3⟩ := ho
      exact ⟨⟨oe, vs, h1, h2, h3⟩, ⟨oe, h1⟩, fun q1 q2 ⟨oe, vs, z1, z2, z3⟩ k => ⟨oe, vs, k _ z1, z2, z3⟩⟩
    · rw [upd_ne h] at e
      exact (hokG b o e).stay (fun c v _ z => z) (fun c hc => by rw [upd_ne (nH hc)]; exact hc) fun c xs hc => by rw [upd_ne (nH hc)]; exact hc
  have J := I.call (ch := []) (h' := s'.heap) (g' := s'.gens) (t' := s'.toks) (d' := s'.drawn) (H' := upd H a (ExcO a C d))
    ⟨fun b o e _ hb _ => st b o (nb b o e hb), fun b o e _ hb _ => nf b hb o e, fun b o e n _ => by rw [upd_ne (nI e)]; exact n, fun b o e _ => by
      by_cases hb : b ∈ frs X.stack
      · obtain ⟨sl, q⟩ := nf b hb o e
        exact ⟨_, q⟩
      · exact ⟨o, st b o (nb b o e hb)⟩, fun b xs e => by rw [upd_ne (nH e)]; exact e, fun b o u e => by rw [upd_ne (nH e)]; exact e, fun b ps e => ⟨#[], by rw [upd_ne (nH e), e]; simp⟩⟩
    hok ag (fun _ z => nomatch z)
  obtain ⟨a1, a2, a3, a4, a5⟩ := s'
  have e5 : a5 = sI.os := os
  subst e5
  exact J
theorem suiteT (I : Inv X pins σ H s) : Inv (X.suite a (X.pn ++ pins)) [] σ H s :=
  ⟨I.ok.suite _ _, I.os, I.bare, I.base, I.loc, I.cell, I.free, I.freeC, fun p hp => I.pin p (by rw [List.append_nil] at hp; exact hp), I.hok, I.len⟩
theorem unsuiteT {pn' : List (Addr × Obj)} (I : Inv (X.suite a (X.pn ++ pins)) pn' σ H s) (ok : X.Ok) : Inv X pins σ H s :=
  ⟨ok, I.os, I.bare, I.base, I.loc, I.cell, I.free, I.freeC, fun p hp => I.pin p (List.mem_append_left _ hp), I.hok, I.len⟩
/-- what the clause wishes of an exception of the body -/
def wAsT (K : PySem.W.Frag) (c : Value) (i : Nat) (ts : TS) (Wout : WX) (D : Ends) : WX := fun cls d σ H =>
  ∃ b, PySem.W.exmOne K cls c = some b ∧ (b = true → ∃ C, cls = .ref C ∧ ∀ a, H a = none → ts { nx := fun σ' H' => D.nx (σ'.set i none) H', rt := D.rt, bk := fun σ' H' => D.bk (σ'.set i none) H', ct := fun σ' H' => D.ct (σ'.set i none) H' } (σ.set i (some (.ref a))) (upd H a (ExcO a C d))) ∧
    (b = false → Wout cls d σ H)
variable {x n : Str} {c : Value} {i : Nat} {body suite : List Stmt} {b₀ : Stmt} {np pos pos' : Pos} {tb : WX → TS} {ts : TS} {Wout : WX}
theorem ps_try_asT (hs : X.stack = X.env :: X.outer) (hf : X.env.frame = some X.env.locals) (hN : X.N.Nodup) (hi : X.N[i]? = some n) (hln : X.env.kindOf n = some .local) (hc : Names X x c) (tk : Takes X Wout)
    (hb : ∀ (W : WX) (pn : List (Addr × Obj)) (xe : Value → Shared → Prop), Takes (X.tr pn xe) W → PassesOwn (model X.prog X.w) X.A X.env xe → PSs (X.tr pn xe) body (tb W))
    (hsu : ∀ (a : Addr) (pn : List (Addr × Obj)), PSs (X.suite a pn) (b₀ :: suite) ts) :
    PS X (.Try body [.ExceptHandler (some (.Name x np)) (some n) (b₀ :: suite) pos'] [] [] pos) (fun D σ H => tb (wAsT X.K c i ts Wout D) D σ H) := by
  refine ⟨fun pins s σ H D I h => ?_⟩
  have ok := I.ok
  have hfr : X.A.frames = some (X.env :: X.outer) := by rw [ok.frames, hs]
  have hloc : Loc X.env.scope n := .inl hln
  refine wpAny_Try_except ?_
  refine wpAny_mono ((hb (wAsT X.K c i ts Wout D) (X.pn ++ pins) (fun e s₁ => wpAny (model X.prog X.w) X.A (noteFrame e X.env) (fun _ s₂ => wpAny (model X.prog X.w) X.A (setFlight e none) (fun _ s₃ =>
    wpAny (model X.prog X.w) X.A (handleBy e X.env [.ExceptHandler (some (.Name x np)) (some n) (b₀ :: suite) pos']) (SP X pins D) X.xe s₃) X.xe s₂) X.xe s₁) (fun u s' xx => ?_) PassesOwn.looking).run [] s σ H D (I.toTry _) h) (fun f s1 hsp => ?_) (fun e s1 he => he)
  · obtain ⟨a, B, sI, pins', σ', H', cls, d, rfl, J', nb, up, sky, na, os, ag, b, hb1, hyes, hno⟩ := xx
    have J : Inv X pins σ' H' sI := J'.ofTry ok
    have sky' : Sky B (X.env :: X.outer) a (Zc cls d) X.env.locals s'.heap := by rw [← hs]; exact sky
    show wpAny (model X.prog X.w) X.A (noteFrame (.ref a) X.env) _ _ _
    refine Sky.land Zc.steady hfr hf sky' fun h3 fl3 up3 => ?_
    have J3 : Inv X pins σ' H' { s' with heap := h3 } := J.landed nb fl3.1 (up.trans up3) os ag
    obtain ⟨oe3, vs3, he3, hz3, hd3⟩ := fl3.there
    have notFr : ∀ {h : Heap} {o : Obj} {vs : Array Value}, h.FunFrames B (X.env :: X.outer) → h.get? a = some o → o.data = .fields vs → a ∉ frs (X.env :: X.outer) := fun {h o vs} ff e dd hm => by
      obtain ⟨_, o', e', hnf⟩ := ff.mem hm
      rw [e] at e'
      cases e'
      exact hnf _ dd
    have nfr := notFr fl3.2.2.1 he3 hd3
    have nL : a ≠ X.env.locals := fun z => nfr (List.mem_filterMap.mpr ⟨X.env, List.mem_cons_self, by rw [hf, z]⟩)
    have nF : a ∉ X.fs := fun hm => by
      obtain ⟨e, he, q⟩ := List.mem_filterMap.mp hm
      exact nfr (List.mem_filterMap.mpr ⟨e, List.mem_cons_of_mem _ he, q⟩)
    have S3 := J3.suite he3 hd3 na nL nF
    refine wpAny_handleBy_cons (codeAny_handlers_test ?_) (by intro q; cases q)
    have LT : PySem.W.Looks (model X.prog X.w) h3 (typeOf (.ref a)) cls := fun A Q E s k q => wpAny_typeOf_ref (k _ _ he3) (by rw [hz3.1]; exact q)
    have LM := PySem.W.exm_one (M := model X.prog X.w) (J3.kIn) LT hb1
    have test : ∀ {Q : Value → Shared → Prop} {E : Value → Shared → Prop}, Q c { s' with heap := h3 } → wpAny (model X.prog X.w) (X.A.mark (some (.ref a))) (eval (.Name x np) X.env) Q E { s' with heap := h3 } := fun {Q E} q => by
      obtain ⟨hg, hdbg, hm | ⟨hm, hv, hnn⟩⟩ := hc
      · exact ld_glob (X := X.suite a ((a, oe3) :: (X.pn ++ pins))) S3 hg hm q hdbg
      · exact ld_blt (X := X.suite a ((a, oe3) :: (X.pn ++ pins))) S3 hg hm hv q hnn hdbg
    refine test (LM.here ?_)
    cases b with
    | true =>
      refine codeAny_handlers_suite_as ?_
      refine HandSPX.lands_againZ fl3 fun h4 fl4 up4 => ?_
      obtain ⟨C, rfl, hyes2⟩ := hyes rfl
      obtain ⟨oe4, vs4, he4, hz4, hd4⟩ := fl4.there
      have J4 : Inv X pins σ' (upd H' a (ExcO a C d)) { s' with heap := h4 } := landedT J nb fl4.1 ((up.trans up3).trans up4) os ag na fl4.2.1 (by rw [hs]; exact nfr) ⟨oe4, _, he4, hz4, hd4⟩
      have S4 := suiteT (a := a) J4
      refine store_ok (X := X.suite a (X.pn ++ pins)) (v := .ref a) S4 hN hi hloc rfl (fun s5 S5 => ?_) (.inr hln)
      refine wpAny_mono ((hsu a (X.pn ++ pins)).run [] s5 _ (upd H' a (ExcO a C d)) _ S5 (hyes2 a na)) (fun f s6 hsp => ?_) (fun _ _ z => False.elim z)
      have end_ : ∀ {σ6 : L2.St} {H6 : Hp} {Q : Shared → Prop}, Inv (X.suite a (X.pn ++ pins)) [] σ6 H6 s6 → (∀ s7, Inv X pins (σ6.set i none) H6 s7 → Q s7) →
          wpAny (model X.prog X.w) X.A (do bindName X.env n .none; unbindBehindTheSuite X.env n pos') (fun _ s7 => Q s7) X.xe s6 := fun {σ6 H6 Q} S6 hq => gone_ok (unsuiteT S6 ok) hN hi hln hq
      cases f with
      | next =>
        obtain ⟨σ6, H6, S6, q6⟩ := hsp
        exact end_ S6 fun s7 J7 => ⟨_, _, J7, q6⟩
      | brk =>
        obtain ⟨σ6, H6, S6, q6⟩ := hsp
        exact end_ S6 fun s7 J7 => ⟨_, _, J7, q6⟩
      | cont =>
        obtain ⟨σ6, H6, S6, q6⟩ := hsp
        exact end_ S6 fun s7 J7 => ⟨_, _, J7, q6⟩
      | ret u =>
        obtain ⟨v6, σ6, H6, S6, r6, q6⟩ := hsp
        exact end_ S6 fun s7 J7 => ⟨_, _, _, J7, r6, q6⟩
    | false =>
      show wpAny _ X.A (handleBy (.ref a) X.env []) _ _ _
      refine wpAny_handleBy_nil ?_
      obtain ⟨k1, k2, k3, oe, vs, T, oT, ts', he, hz, hd, h1, hr⟩ := id fl3
      unfold PySem.passOn
      refine wpAny_bind (wpAny_field he hd h1 ?_)
      rw [if_neg (show ¬ ((Value.ref T == Value.none) = true) from by simp)]
      have fin : wpAny (model X.prog X.w) X.A (setFlight (.ref a) X.env.frame) (fun _ s4 => wpAny (model X.prog X.w) X.A (throw (.ref a) : Sem Flow) (SP X pins D) X.xe s4) X.xe { s' with heap := h3 } := by
        rw [hf]
        refine HandSPX.setFlight_upZ fl3 fun h4 hh4 up4 => wpAny_throw (tk _ _ ?_)
        exact ⟨a, B, sI, pins, σ', H', cls, d, rfl, J, nb, (up.trans up3).trans up4, .inr (.inr (by rw [hs]; exact hh4)), na, os, ag, hno rfl⟩
      first
        | exact wpAny_bind (wpAny_pure (wpAny_bind fin))
        | exact wpAny_bind fin
  · cases f with
    | next =>
      obtain ⟨σ', H', J', q⟩ := hsp
      exact wpAny_execs_nil ⟨σ', H', J'.ofTry ok, q⟩
    | brk =>
      obtain ⟨σ', H', J', q⟩ := hsp
      exact ⟨σ', H', J'.ofTry ok, q⟩
    | cont =>
      obtain ⟨σ', H', J', q⟩ := hsp
      exact ⟨σ', H', J'.ofTry ok, q⟩
    | ret u =>
      obtain ⟨v, σ', H', J', r, q⟩ := hsp
      exact ⟨v, σ', H', J'.ofTry ok, r, q⟩
end
end DL

set_option Elab.async false
set_option linter.all false
set_option maxRecDepth 100000
set_option maxHeartbeats 4000000
namespace DL
open PySem PySem.Spec L2

/-! ### caught(lambda: ..): None, or the exception, tracked -/
def TCaught (K : PySem.W.Frag) (C0 : Addr) : (XK → Hp → VK → Prop) → Hp → VK → Prop := fun tl H Q =>
  tl (fun cls d H' => ∃ b, PySem.W.exmOne K cls (.ref C0) = some b ∧ (b = true → ∃ C, cls = .ref C ∧ ∀ a, H' a = none → Q (.ref a) (upd H' a (ExcO a C d))) ∧ (b = false → False)) H (fun _ H' => Q .non H')
theorem takes_len {X : Cx} {W : WX} (t : Takes X W) : Takes X (fun cls d σ H => σ.length = X.N.length → W cls d σ H) := fun u s' ⟨a, B, sI, pins, σ, H, cls, d, e, I, nb, up, sky, na, os, ag, w⟩ =>
  t u s' ⟨a, B, sI, pins, σ, H, cls, d, e, I, nb, up, sky, na, os, ag, w I.len⟩
theorem caught_gives {X : Cx} {x a fo er e q : Str} {sg : Scope} {g C0 : Addr} {cdg : Value} {j : Nat} {p1 p2 p3 p4 p5 p6 p7 p8 p9 p10 p11 p12 p13 p14 : Pos} (hge : sg.names.lookup e = some .globalImplicit) (hme : X.mg e = some (.ref C0)) (hde : (e == ("__debug__" : Str)) = false)
    (nd : [a, fo, er].Nodup) (h1 : sg.names.lookup fo = some .local) (h2 : sg.names.lookup er = some .local) (d1 : (fo == ("__debug__" : Str)) = false) (d2 : (fo == ("__classdict__" : Str)) = false) (d3 : (er == ("__debug__" : Str)) = false) (d4 : (er == ("__classdict__" : Str)) = false) :
    LamX.GivesTo X [a, fo, er] x sg g cdg [.Assign [.Name fo p1] (.Constant .none j p2) p3, .Try [.Expr (.Call (.Name a p4) [] [] p5) p6] [.ExceptHandler (some (.Name e p7)) (some er) [.Assign [.Name fo p8] (.Name er p9) p10] p11] [] [] p12, .Return (some (.Name fo p13)) p14] a q (TCaught X.K C0) := by
  intro f c' s H Q tl act hc h
  have hgl : Gl (cxOf C8.CX0 X.prog X.w X.K X.mg X.base [a, fo, er] x sg g cdg X.A X.stack s H C8.E0).nox e := hge
  refine ⟨_, pss_cons (ps_set (X := (cxOf C8.CX0 X.prog X.w X.K X.mg X.base [a, fo, er] x sg g cdg X.A X.stack s H C8.E0).nox) (i := 1) nd rfl (.inl h1) pe_non rfl (.inl rfl)) (pss_cons (ps_try_asT (X := (cxOf C8.CX0 X.prog X.w X.K X.mg X.base [a, fo, er] x sg g cdg X.A X.stack s H C8.E0).nox) (c := .ref C0) (i := 2)
      (tb := fun W D σ H => ∃ Ech : XK, (∀ cls d σ' H', σ'.length = 3 → Ech cls d H' → W cls d σ' H') ∧ σ[0]? = some (some (.ref f)) ∧ H c' = some (LamX.CodeO c' q) ∧ tl Ech H (fun _ H' => D.nx σ H'))
      rfl rfl nd rfl h2 ⟨hgl, hde, .inl hme⟩ LamX.takes0 (fun W pn xe tk _ => ?_) (fun a' pn => pss_one (ps_set (i := 1) nd rfl (.inl h1) (pe_var (i := 2) rfl (.inl h2) d3 d4) rfl (.inr h1)))) (pss_one (ps_ret (pe_var (i := 1) rfl (.inl h1) d1 d2)))), ?_⟩
  · refine ⟨fun pins s' σ H' D I h' => ?_⟩
    obtain ⟨Ech, hW, g1, g2, g3⟩ := h'
    have hp := act (fun cls d σ H => σ.length = 3 → W cls d σ H) pn xe Ech p4 p5 (takes_len tk) (fun cls d σ' H' z l => hW cls d σ' H' l z)
    exact (pss_one (ps_expr hp)).run pins s' σ H' D I ⟨g1, g2, g3⟩
  · refine ⟨fun cls d H' => ∃ b, PySem.W.exmOne X.K cls (.ref C0) = some b ∧ (b = true → ∃ C, cls = .ref C ∧ ∀ a, H' a = none → Q (.ref a) (upd H' a (ExcO a C d))) ∧ (b = false → False), fun cls d σ' H' hl z => ?_, rfl, hc, ?_⟩
    · obtain ⟨b, e1, e2, e3⟩ := z
      refine ⟨b, e1, fun hb => ?_, fun hb => e3 hb⟩
      obtain ⟨C, ec, k⟩ := e2 hb
      refine ⟨C, ec, fun a' na => ?_⟩
      match σ', hl with
      | [x0, x1, x2], _ => exact ⟨.ref a', rfl, .ref a', rfl, k a' na⟩
    · have z : tl _ H (fun _ H' => Q .non H') := h
      have e1 : (fun (_ : V) (H' : Hp) => Q V.non H') = fun (_ : V) (H' : Hp) => ∃ v, ((L2.start [a, fo, er] [V.ref f]).set 1 (some V.non))[1]? = some (some v) ∧ Q v H' := by
        funext v H'
        exact propext ⟨fun z => ⟨.non, rfl, z⟩, fun ⟨v, e, z⟩ => by cases e; exact z⟩
      rw [e1] at z
      exact z
/-- what the tokens say of the lambdas' tables -/
structure LamT (g : Gv) (T : List (Addr × Str)) : Prop where
  keep : ∀ (tk : Tk) (F : Gh) (H : Hp), g.T tk → tk.ok F H → LamX.Tabs T H ∧ (∀ a o, F.m a = some o → NT o) ∧ ∀ H1, LamX.ExtN H H1 → LamX.Tabs T H1 → tk.ok F H1
def S.noOwn : Option S → Bool
  | some (.nw _) => false
  | _ => true
def dCaught (okc : Nat → Bool) (te : DE) : DE := fun α Q _ => α.all S.noOwn = true ∧ te α (fun _ => Q (.fr .non)) (fun x => okc x.1 = true ∧ Q (.fr (.exc x.1 x.2.1 x.2.2)))
theorem exc_new {K : PySem.W.Frag} {g : Gv} {tk : Tk} {κ : Nat} {F F' : Gh} {H H' : Hp} {Q : S → Prop} {c : Nat} {ns : List Str} {ds : List D} {vs : List V} {dd : Option Addr} {a : Addr} (st : Step tk κ F H F' H') (sub : Same F' H') (ok : tk.ok F' H') (hl : vs.length = ns.length)
    (hd : (dd = none ∧ ns = []) ∨ ∃ d, dd = some d ∧ F'.m d = some (.xd (ns.zip vs))) (r : Reps K g F' ds vs) (ha : H' a = none) (q : Q (.fr (.exc c ns ds))) : VO K g tk κ F H Q (.ref a) (upd H' a (ExcO a (g.CA c) dd)) := by
  obtain ⟨n1, n2⟩ := Tk.newS (o := ExcO a (g.CA c) dd) sub ok ha (fun ps z => by unfold ExcO at z; cases z)
  have s2 : Step tk 0 F' H' (F'.up a (ExcO a (g.CA c) dd)) (upd H' a (ExcO a (g.CA c) dd)) := Step.new ha sub
  refine ⟨_, .fr (.exc c ns ds), (st.trans s2).w, n1, n2, ?_, (fun d p z => nomatch z), q⟩
  show Rep K g _ (.exc c ns ds) _
  unfold Rep
  refine ⟨a, dd, vs, rfl, up_same, hl, ?_, r.mono s2.fr⟩
  rcases hd with hd | ⟨d, e1, e2⟩
  · exact .inl hd
  · exact .inr ⟨d, e1, s2.fr _ _ e2⟩
/-- the state as a beginning of its own, κ' to draw -/
theorem Ab.rooted {K : PySem.W.Frag} {g : Gv} {tk : Tk} {κ : Nat} {Fe : Gh} {He : Hp} {F : Gh} {H : Hp} {α : AE} {σ : L2.St} (A : Ab K g tk κ Fe He F H α σ) (h : α.all S.noOwn = true) (κ' : Nat) (hk : κ' ≤ κ := by omega) : Ab K g tk κ' ⟨F.m, F.b, F.b + κ'⟩ H F H α σ := by
  refine ⟨A.sub, A.ok, ⟨Same.refl _, fun a o e n => by (have n' : F.m a = none := n; have e' : F.m a = some o := e; rw [n'] at e'; cases e'), fun _ _ e _ _ => e, fun _ o e n => ⟨o, e, n⟩, Nat.le_refl _, Nat.le_add_right _ _⟩, Nat.le_refl _, ?_, A.len, fun i s e => ?_, A.nob, A.apart⟩
  · have c := A.cap
    have l := A.lim
    show F.b + κ' ≤ tLim
    omega
  · obtain ⟨v, e1, e2, _⟩ := A.val i s e
    refine ⟨v, e1, e2, fun d p z _ => ?_⟩
    have y := List.all_eq_true.mp h _ (List.mem_of_getElem? e)
    rw [z] at y
    cases y
theorem Step.uncap {tk : Tk} {κ c : Nat} {F F' : Gh} {H H' : Hp} (s : Step tk κ ⟨F.m, F.b, c⟩ H F' H') : Step tk κ F H F' H' := ⟨s.fr, s.nw, s.kp, s.ad, s.tm⟩
section
open LamX
variable {g : Gv} {X : Cx}
theorem qe_caught {T : List (Addr × Str)} {x a fo er en : Str} {gA c P C0 : Addr} {k : Nat} {okc : Nat → Bool} {pg : Arguments} {sg : Scope} {dV kV doc pm cdv ct oc : Value} {an od : Option Addr} {osl : Array (Option Value)} {j : Nat} {p1 p2 p3 p4 p5 p6 p7 p8 p9 p10 p11 p12 p13 p14 : Pos}
    {params : Arguments} {body : Expr} {scope : Scope} {te : DE} {p lpos pos : Pos} (hT : LamT g T) (ex : ∀ c, okc c = true → PySem.W.exmOne X.K (.ref (g.CA c)) (.ref C0) = some true)
    (hge : sg.names.lookup en = some .globalImplicit) (hme : X.mg en = some (.ref C0)) (nd : [a, fo, er].Nodup) (h1 : sg.names.lookup fo = some .local) (h2 : sg.names.lookup er = some .local)
    (hg : Gl X x) (hm : X.mg x = some (.ref gA)) (hk : PySem.W.keepIn X.K (.ref gA) = true)
    (lk : X.K.lookup gA = some ⟨oc, od, .func (PySem.W.fnOf x x pg [.Assign [.Name fo p1] (.Constant .none j p2) p3, .Try [.Expr (.Call (.Name a p4) [] [] p5) p6] [.ExceptHandler (some (.Name en p7)) (some er) [.Assign [.Name fo p8] (.Name er p9) p10] p11] [] [] p12, .Return (some (.Name fo p13)) p14] sg dV kV doc pm an cdv ct), osl⟩)
    (hcg : PySem.W.codeIn X.K cdv x = true) (hb : L2.Binds X.K (PySem.W.fnOf x x pg [.Assign [.Name fo p1] (.Constant .none j p2) p3, .Try [.Expr (.Call (.Name a p4) [] [] p5) p6] [.ExceptHandler (some (.Name en p7)) (some er) [.Assign [.Name fo p8] (.Name er p9) p10] p11] [] [] p12, .Return (some (.Name fo p13)) p14] sg dV kV doc pm an cdv ct) [a] [])
    (Sg : FnScope [a, fo, er] [a] sg) (hva : Vis sg a)
    (TB : TabB X.base X.mg c P) (hcode : X.env.code = .ref c) (hmT : (P, X.env.qual ++ "<lambda>") ∈ T) (hu : ∀ p ∈ T, p.1 = P → p.2 = X.env.qual ++ "<lambda>") (hr : Room (k + 2) X.A) (L : LamS X.env.scope scope) (hdef : defaultsOf params X.env = ([], []))
    (hbind : ∀ (q : Str) (cl : List (Str × Addr)) (pm cv ctv : Value), bindArgs (PySem.W.kla_fn "<lambda>" q params body scope cl pm cv ctv) ⟨[], []⟩ = pure [])
    (hbody : ∀ (A : Around) (outer : List Env) (s : Shared) (H : Hp) (E : XK) (f c' : Addr), Room k (A.deeper (lamEnv X scope s.heap.objs.size f c')) → QE g (lamCx X A outer s H E scope f c') body te κ)
    (hdb : (x == ("__debug__" : Str)) = false := by decide) (hd : (a == ("__debug__" : Str)) = false := by decide) (hcd : (a == ("__classdict__" : Str)) = false := by decide) (hde : (en == ("__debug__" : Str)) = false := by decide)
    (d1 : (fo == ("__debug__" : Str)) = false := by decide) (d2 : (fo == ("__classdict__" : Str)) = false := by decide) (d3 : (er == ("__debug__" : Str)) = false := by decide) (d4 : (er == ("__classdict__" : Str)) = false := by decide) :
    QE g X (.Call (.Name x p) [.Lambda params body scope lpos] [] pos) (dCaught okc te) κ := ⟨fun tk Fe He E hTk hx => by
  refine (pe_lamcall (t := fun E' σ H Q' => ∃ tk Fe He E, g.T tk ∧ (∀ cls d H', XO X.K g tk (Fe.c - Fe.b) Fe He E cls d H' → E' cls d H') ∧ LE X.K g tk κ Fe He E te σ H Q') hg hm hk lk hcg hb Sg rfl hva
    (caught_gives (x := x) (g := gA) (cdg := cdv) (q := X.env.qual ++ "<lambda>") hge hme hde nd h1 h2 d1 d2 d3 d4) TB hcode hmT hu hr L hdef hbind (fun A outer s H E' f c' hr2 => ?_) hdb hd hcd).dimp fun σ H Q' h => ?_
  · refine ⟨fun pins s2 σ H2 Q' I h => ?_⟩
    obtain ⟨tk, Fe, He, E, hTk, hE, h⟩ := h
    have hx2 : Takes (lamCx X A outer s H E' scope f c') (WD X.K g tk Fe He E) := (L2.takes_of rfl rfl rfl rfl).imp fun cls d σ H' z => hE cls d H' z
    exact ((hbody A outer s H E' f c' hr2).pe tk Fe He E hTk hx2).run pins s2 σ H2 Q' I h
  · obtain ⟨F, α, Q, A, ⟨na, q⟩, k⟩ := h
    obtain ⟨l1, l2, l3⟩ := hT.keep tk F H hTk A.ok
    refine ⟨l1, fun H1 eN T1 => ?_⟩
    have st : Step tk 0 F H F H1 := ⟨Same.refl _, fun a o e n => by (rw [n] at e; cases e), fun a o e _ n => eN a o e n, fun a o e n => ⟨o, eN a o e n, n⟩, Nat.le_refl _, Nat.le_refl _⟩
    have sub1 : Same F H1 := fun a o e => eN a o (A.sub a o e) (l2 a o e)
    have ok1 := l3 H1 eN T1
    have A0 : Ab X.K g tk κ Fe He F H1 α σ := A.step st sub1 ok1
    have A1 := A0.rooted na κ
    refine ⟨tk, ⟨F.m, F.b, F.b + κ⟩, H1, fun x => okc x.1 = true ∧ Q (.fr (.exc x.1 x.2.1 x.2.2)), hTk, fun cls d H' z => ?_, F, α, _, A1, q, fun v H' z => ?_⟩
    · obtain ⟨F', c, ns, ds, vs, st', sub', ok', rfl, hl, hdd, rp, hc, q'⟩ := z
      have st2 : Step tk κ F H F' H' := (st.trans st'.uncap).w (by show 0 + (F.b + κ - F.b) ≤ κ; omega)
      exact ⟨true, ex c hc, fun _ => ⟨g.CA c, rfl, fun a ha => k _ _ (exc_new st2 sub' ok' hl hdd rp ha q')⟩, fun z => nomatch z⟩
    · obtain ⟨F', r, st', sub', ok', rp, _, q'⟩ := z
      exact k _ _ ((VO.non sub' ok' q').at (st.trans st'))⟩
end
end DL

set_option Elab.async false
set_option linter.all false
set_option maxRecDepth 100000
set_option maxHeartbeats 4000000
namespace DL
open PySem PySem.Spec L2

/-! ### {k: v, ..}, the keys texts -/
def dDic (ks : List Key) (u : DA) : DE := fun α Q E => u α (fun ss => ∃ ds, ss = ds.map S.fr ∧ ds.length = ks.length ∧ Q (.nw (.dic ks ds))) E
structure QP (g : Gv) (X : Cx) (pos : Pos) (keys : List (Option Expr)) (values : List Expr) (ks : List Key) (u : DA) (κ : Nat) : Prop where
  pp : ∀ (tk : Tk) (Fe : Gh) (He : Hp) (E : XD → Prop), g.T tk → Takes X (WD X.K g tk Fe He E) → ∃ trs, PPs X pos keys values trs ∧
    ∀ (F : Gh) (H : Hp) (α : AE) (σ : L2.St) (Q : List S → Prop) (Q' : List (V × V) → Hp → Prop), Ab X.K g tk κ Fe He F H α σ → u α Q E →
      (∀ (vs : List V) (H' : Hp) (F' : Gh) (ss : List S), Step tk κ F H F' H' → Same F' H' → tk.ok F' H' → RepSs X.K g tk F' H' ss vs → vs.length = ks.length → Q ss → Q' ((ks.map kV).zip vs) H') → tPairs trs σ H Q'
section
variable {g : Gv} {X : Cx} {pos : Pos}
theorem qp_nil : QP g X pos [] [] [] dNil 0 := ⟨fun tk Fe He E hT hx => ⟨[], pps_nil, fun F H α σ Q Q' A q k => k [] H F [] (Step.refl _ _ _) A.sub A.ok rfl rfl q⟩⟩
theorem qp_cons {x : Str} {j : Nat} {p : Pos} {v : Expr} {keys : List (Option Expr)} {vs : List Expr} {ks : List Key} {te : DE} {u : DA} (hv : QE g X v te κ1) (hr : QP g X pos keys vs ks u κ2) :
    QP g X pos (some (.Constant (.str x) j p) :: keys) (v :: vs) (.inr x :: ks) (dCons te u) (κ1 + κ2) := ⟨fun tk Fe He E hT hx => by
  obtain ⟨trs, h1, h2⟩ := hr.pp tk Fe He E hT hx
  refine ⟨_, pps_cons pe_str (hv.pe tk Fe He E hT hx) h1, fun F H α σ Q Q' A q k => ?_⟩
  refine ⟨F, α, _, A.w, q, fun w H1 w1 => ?_⟩
  obtain ⟨F1, r, st1, sub1, ok1, rep1, q1⟩ := w1.fz
  refine h2 F1 H1 α σ _ _ (A.step st1 sub1 ok1) q1 fun vs H2 F2 ss st2 sub2 ok2 reps hl q2 => ?_
  exact k (w :: vs) H2 F2 (r.fz :: ss) (st1.trans st2) sub2 ok2 ⟨w, vs, rfl, rep1.step st2, reps⟩ (by rw [List.length_cons, List.length_cons, hl]) q2⟩
theorem merge_new : ∀ (more kvs : List (Key × V)), (kvs.map (·.1) ++ more.map (·.1)).Nodup → mergeK kvs more = kvs ++ more
  | [], kvs, _ => by rw [List.append_nil]; rfl
  | p :: r, kvs, h => by
    have hn : (kvs.any fun kv => decide (kv.1 = p.1)) = false := by
      rw [List.any_eq_false]
      intro kv hkv z
      have e := of_decide_eq_true z
      rw [List.map_cons, List.nodup_append] at h
      exact h.2.2 kv.1 (List.mem_map.mpr ⟨kv, hkv, rfl⟩) p.1 List.mem_cons_self e
    have e : putK kvs p.1 p.2 = kvs ++ [p] := by
      unfold putK
      rw [hn, if_neg Bool.false_ne_true]
    show mergeK (putK kvs p.1 p.2) r = _
    rw [e, merge_new r (kvs ++ [p]) (by rw [List.map_append, List.append_assoc]; exact h), List.append_assoc]
    rfl
theorem zip_pairs : ∀ {ks : List Key} {vs : List V}, (ks.map kV).zip vs = (ks.zip vs).map fun kv => (kV kv.1, kv.2)
  | [], vs => rfl
  | k :: ks, [] => rfl
  | k :: ks, v :: vs => by
    show (kV k, v) :: (ks.map kV).zip vs = _
    rw [zip_pairs]
    rfl
theorem qe_dic {keys : List (Option Expr)} {values : List Expr} {ks : List Key} {u : DA} (h : QP g X pos keys values ks u κ) (nd : ks.Nodup) (h15 : ks.length ≤ 15) (hall : keys.all (·.isSome) = true := by rfl) (hl : keys.length = values.length := by rfl) (h0 : keys ≠ [] := by intro z; cases z)
    (hk : keys.length ≤ 15 := by decide) : QE g X (.Dict keys values pos) (dDic ks u) κ := ⟨fun tk Fe He E hT hx => by
  obtain ⟨trs, h1, h2⟩ := h.pp tk Fe He E hT hx
  refine (pe_disp h1 hall hl h0 hk).dimp fun σ H Q' h => ?_
  obtain ⟨F, α, Q, A, q, k⟩ := h
  intro p hp
  have hF : F.m p = none := A.sub.free hp
  have st0 : Step tk 0 F H F (upd H p (.dK [])) := Step.own hp
  have nD : p ∉ tk.ad := Tk.out A.ok hp
  have sub0 : Same F (upd H p (.dK [])) := fun a o e => by
    rw [upd_ne (ne_of_none e hF)]
    exact A.sub a o e
  have ok0 : tk.ok F (upd H p (.dK [])) := Tk.own A.ok hp _
  refine h2 F _ α σ _ _ (A.step st0 sub0 ok0) q fun vs H1 F1 ss st1 sub1 ok1 reps hlen q1 => ?_
  obtain ⟨ds, rfl, hd, q1⟩ := q1
  have r := reps.frs
  have e1 : H1 p = some (.dK []) := st1.kp p _ upd_same nD fun ps z => nomatch z
  have n1 : F1 p = none := by
    cases z : F1 p with
    | none => rfl
    | some o => exact absurd (fun ps z => nomatch z) (st1.nw p o z hF _ upd_same)
  refine ⟨e1, ks.zip vs, zip_pairs, by rw [List.length_zip]; omega, ?_⟩
  have em : mergeK [] (ks.zip vs) = ks.zip vs := by
    rw [merge_new _ _ (by
      rw [List.map_nil, List.nil_append, show (ks.zip vs).map (fun x => x.1) = ks from List.map_fst_zip (by omega)]
      exact nd), List.nil_append]
  rw [em]
  have st2 := st0.trans st1
  refine k _ _ ⟨F1, .nw (.dic ks ds), ⟨st2.fr, st2.nw, fun a o e n t => ?_, fun a o e t => ?_, by have := st2.tm; omega⟩, fun a o e => ?_, ?_, ⟨p, rfl, n1, nD, vs, upd_same, hlen, r⟩, fun d q _ e => by cases e; exact .of hp, q1⟩
  · rw [upd_ne (ne_of_none e hp)]
    exact st2.kp a o e n t
  · rw [upd_ne (ne_of_none e hp)]
    exact st2.ad a o e t
  · rw [upd_ne (ne_of_none e n1)]
    exact sub1 a o e
  · refine tk.st _ _ _ _ ok1 (Same.refl _) (Nat.le_refl _) (fun a o e hor => ?_) (fun a ha => (tk.fr _ _ ok1 a ha).1) fun a u e n => by (rw [n] at e; cases e)
    have ne : a ≠ p := fun z => by
      rcases hor with hor | hor
      · exact nD (by rw [← z]; exact hor)
      · rw [z, e1] at e
        cases e
        exact hor
    rw [upd_ne ne]
    exact e⟩
end
end DL

set_option Elab.async false
set_option linter.all false
set_option maxRecDepth 100000
set_option maxHeartbeats 4000000
namespace DL
open PySem PySem.Spec L2

/-! ### the tape of the draws: a dict of four, one of its lists shrinks -/
structure TN where
  kl : Str
  kr : Str
  kc : Str
  kt : Str
structure TN.Ok (n : TN) : Prop where
  lr : n.kl ≠ n.kr
  lc : n.kl ≠ n.kc
  lt : n.kl ≠ n.kt
  rc : n.kr ≠ n.kc
  rt : n.kr ≠ n.kt
  ct : n.kc ≠ n.kt
structure TapeD (n : TN) (b : Nat) (kvs : List (Key × V)) (L Cc : Addr) : Prop where
  len : kvs.length = 4
  l : valV kvs (.inr n.kl) = some (.ref L)
  c : valV kvs (.inr n.kc) = some (.ref Cc)
  r : ∃ m : Int, 0 ≤ m ∧ valV kvs (.inr n.kr) = some (.int m)
  t : ∃ m : Int, 0 ≤ m ∧ m ≤ (b : Int) ∧ valV kvs (.inr n.kt) = some (.int m)
theorem TapeD.mono {n : TN} {b b' : Nat} {kvs : List (Key × V)} {L Cc : Addr} (h : TapeD n b kvs L Cc) (hb : b ≤ b') : TapeD n b' kvs L Cc := ⟨h.len, h.l, h.c, h.r, let ⟨m, m1, m2, m3⟩ := h.t; ⟨m, m1, by omega, m3⟩⟩
/-- nonneg -/
def Nn (l : List Int) : Prop := ∀ x ∈ l, 0 ≤ x
structure TapeOk (T : List (Addr × Str)) (n : TN) (d L Cc : Addr) (F : Gh) (H : Hp) : Prop where
  fd : F.m d = none
  fL : F.m L = none
  ne : d ≠ L
  cells : ∃ cl : List Int, Nn cl ∧ F.m Cc = some (.lst (cl.map V.int))
  dict : ∃ kvs, H d = some (.dK kvs) ∧ TapeD n F.b kvs L Cc
  large : ∃ lg : List Int, Nn lg ∧ H L = some (.lst (lg.map V.int))
  tabs : LamX.Tabs T H
  nt : ∀ a o, F.m a = some o → NT o
theorem tabs_fix {T : List (Addr × Str)} {H H' : Hp} (h : LamX.Tabs T H) (k : ∀ a o, H a = some o → Fix o → H' a = some o) : LamX.Tabs T H' := fun p hp => by
  obtain ⟨ps, h1, h2, h3⟩ := h p hp
  refine ⟨ps, k _ _ h1 trivial, h2, fun pos cv hc => ?_⟩
  obtain ⟨c, e1, e2⟩ := h3 pos cv hc
  exact ⟨c, e1, k _ _ e2 trivial⟩
def tkOf (T : List (Addr × Str)) (n : TN) (d L Cc : Addr) : Tk where
  ad := [d, L]
  ok := TapeOk T n d L Cc
  v := some (.ref d)
  fr := fun F H h a ha => by
    obtain ⟨kvs, e1, _⟩ := h.dict
    obtain ⟨lg, _, e2⟩ := h.large
    rcases List.mem_cons.mp ha with rfl | ha
    · exact ⟨h.fd, by rw [e1]; simp⟩
    · rcases List.mem_cons.mp ha with rfl | ha
      · exact ⟨h.fL, by rw [e2]; simp⟩
      · cases ha
  st := fun F H F' H' h sF hb sH nF nt => by
    obtain ⟨kvs, e1, t1⟩ := h.dict
    obtain ⟨lg, l1, e2⟩ := h.large
    obtain ⟨cl, c1, c2⟩ := h.cells
    refine ⟨nF d (by simp), nF L (by simp), h.ne, ⟨cl, c1, sF _ _ c2⟩, ⟨kvs, sH _ _ e1 (.inl (by simp)), t1.mono hb⟩, ⟨lg, l1, sH _ _ e2 (.inl (by simp))⟩, tabs_fix h.tabs fun a o e f => sH a o e (.inr f), fun a o e => ?_⟩
    cases q : F.m a with
    | none => exact nt a o e q
    | some u =>
      have z := sF _ _ q
      rw [e] at z
      cases z
      exact h.nt a o q
/-- the tokens that are let: such tapes, this n, these tables -/
def IsTape (g : Gv) (T : List (Addr × Str)) (n : TN) : Prop := ∀ tk, g.T tk → ∃ d L Cc, tk = tkOf T n d L Cc
theorem lamT_of {g : Gv} {T : List (Addr × Str)} {n : TN} (h : IsTape g T n) : LamT g T := ⟨fun tk F H hT ok => by
  obtain ⟨d, L, Cc, rfl⟩ := h tk hT
  have ok' : TapeOk T n d L Cc F H := ok
  refine ⟨ok'.tabs, ok'.nt, fun H1 eN T1 => ?_⟩
  obtain ⟨kvs, e1, t1⟩ := ok'.dict
  obtain ⟨lg, l1, e2⟩ := ok'.large
  have r : TapeOk T n d L Cc F H1 := ⟨ok'.fd, ok'.fL, ok'.ne, ok'.cells, ⟨kvs, eN _ _ e1 fun ps z => (nomatch z), t1⟩, ⟨lg, l1, eN _ _ e2 fun ps z => (nomatch z)⟩, T1, ok'.nt⟩
  exact r⟩
/-- what the token guards changes -/
theorem Step.tape {tk : Tk} {F : Gh} {H : Hp} {d : Addr} {o : HO} (hd : d ∈ tk.ad) (nt : NT o) : Step tk κ F H F (upd H d o) := by
  refine ⟨Same.refl _, fun a u e n => by (rw [n] at e; cases e), fun a u e n _ => ?_, fun a u e n => ?_, Nat.le_refl _, Nat.le_add_right _ _⟩
  · have ne : a ≠ d := fun z => n (by rw [z]; exact hd)
    rw [upd_ne ne]
    exact e
  · by_cases h : a = d
    · rw [h, upd_same]
      exact ⟨o, rfl, nt⟩
    · rw [upd_ne h]
      exact ⟨u, e, n⟩
theorem same_tape {F : Gh} {H : Hp} {d : Addr} {o : HO} (sub : Same F H) (hF : F.m d = none) : Same F (upd H d o) := fun a u e => by
  rw [upd_ne (ne_of_none e hF)]
  exact sub a u e
theorem tabs_upd {T : List (Addr × Str)} {H : Hp} {d : Addr} {o u : HO} (h : LamX.Tabs T H) (e : H d = some u) (nf : ¬ Fix u) : LamX.Tabs T (upd H d o) := tabs_fix h fun a v q f => by
  have ne : a ≠ d := fun z => by
    rw [z, e] at q
    cases q
    exact nf f
  rw [upd_ne ne]
  exact q
theorem valV_put {kvs : List (Key × V)} {k k' : Key} {v w : V} (h : valV kvs k = some w) : valV (putK kvs k v) k' = if k' = k then some v else valV kvs k' := by
  have key : ∀ l : List (Key × V), valV l k = some w → (l.any fun kv => decide (kv.1 = k)) = true := fun l => by
    induction l with
    | nil => intro z; cases z
    | cons p r ih =>
      intro z
      by_cases e : p.1 = k
      · simp [e]
      · rw [valV_neg e] at z
        simp [e, ih z]
  have maps : ∀ l : List (Key × V), valV (l.map (fun kv => if kv.1 = k then (kv.1, v) else kv)) k' = if k' = k then (if (l.any fun kv => decide (kv.1 = k)) = true then some v else none) else valV l k' := fun l => by
    induction l with
    | nil => by_cases e : k' = k <;> simp [e, valV]
    | cons p r ih =>
      rw [List.map_cons]
      by_cases e : p.1 = k
      · rw [if_pos e]
        by_cases e2 : k' = k
        · rw [valV_pos (by rw [e2]; exact e), if_pos e2]
          simp [e]
        · have a1 : valV ((p.1, v) :: r.map (fun kv => if kv.1 = k then (kv.1, v) else kv)) k' = valV (r.map (fun kv => if kv.1 = k then (kv.1, v) else kv)) k' := valV_neg fun z => e2 (z.symm.trans e)
          have a2 : valV (p :: r) k' = valV r k' := valV_neg fun z => e2 (z.symm.trans e)
          rw [a1, a2, ih, if_neg e2, if_neg e2]
      · rw [if_neg e]
        by_cases e2 : k' = k
        · have a1 : valV (p :: r.map (fun kv => if kv.1 = k then (kv.1, v) else kv)) k' = valV (r.map (fun kv => if kv.1 = k then (kv.1, v) else kv)) k' := valV_neg fun z => e (z.trans e2)
          rw [a1, ih, if_pos e2, if_pos e2, List.any_cons, decide_eq_false e, Bool.false_or]
        · by_cases e3 : p.1 = k'
          · rw [valV_pos e3, valV_pos e3, if_neg e2]
          · have a1 : valV (p :: r.map (fun kv => if kv.1 = k then (kv.1, v) else kv)) k' = valV (r.map (fun kv => if kv.1 = k then (kv.1, v) else kv)) k' := valV_neg e3
            have a2 : valV (p :: r) k' = valV r k' := valV_neg e3
            rw [a1, a2, ih, if_neg e2, if_neg e2]
  unfold putK
  rw [if_pos (key kvs h), maps kvs, key kvs h, if_pos rfl]
theorem len_put {kvs : List (Key × V)} {k : Key} {v w : V} (h : valV kvs k = some w) : (putK kvs k v).length = kvs.length := by
  have key : ∀ l : List (Key × V), valV l k = some w → (l.any fun kv => decide (kv.1 = k)) = true := fun l => by
    induction l with
    | nil => intro z; cases z
    | cons p r ih =>
      intro z
      by_cases e : p.1 = k
      · simp [e]
      · rw [valV_neg e] at z
        simp [e, ih z]
  unfold putK
  rw [if_pos (key kvs h), List.length_map]

section
variable {g : Gv} {X : Cx} {T : List (Addr × Str)} {n : TN} {i : Nat} {x k : Str} {j j2 : Nat} {p1 p2 p3 pos : Pos}
/-- tape['rest'], tape['turn'] -/
def dTkInt (i : Nat) : DE := fun α Q _ => α[i]? = some (some .tk) ∧ ∀ m : Int, 0 ≤ m → Q (.fr (.int m))
theorem Ab.tape {K : PySem.W.Frag} {Fe : Gh} {He : Hp} {F : Gh} {H : Hp} {α : AE} {σ : L2.St} {tk : Tk} (hT : IsTape g T n) (hk : g.T tk) (A : Ab K g tk κ Fe He F H α σ) (h : α[i]? = some (some .tk)) : ∃ d L Cc, tk = tkOf T n d L Cc ∧ σ[i]? = some (some (.ref d)) ∧ TapeOk T n d L Cc F H := by
  obtain ⟨d, L, Cc, rfl⟩ := hT tk hk
  obtain ⟨v, e1, e2, _⟩ := A.val i _ h
  have e3 : some (V.ref d) = some v := e2
  cases e3
  exact ⟨d, L, Cc, rfl, e1, A.ok⟩
theorem qe_tkInt (hT : IsTape g T n) (hu : X.A.units + 1 < cLine) (hk : k = n.kr ∨ k = n.kt) (hN : X.N[i]? = some x) (hv : Vis X.env.scope x) (hd : (x == ("__debug__" : Str)) = false := by decide) (hcd : (x == ("__classdict__" : Str)) = false := by decide) (hs : NoSl (.Constant (.str k) j p2) := by exact fun _ _ => rfl) :
    QE g X (.Subscript (.Name x p1) (.Constant (.str k) j p2) pos) (dTkInt i) 0 := ⟨fun tk Fe He E hTk hx => (pe_dget hu (pe_var hN hv hd hcd) pe_str hs).dimp fun σ H Q' h => by
  obtain ⟨F, α, Q, A, ⟨q1, q2⟩, kk⟩ := h
  obtain ⟨d, L, Cc, rfl, e1, ok⟩ := A.tape hT hTk q1
  obtain ⟨kvs, d1, td⟩ := ok.dict
  have hm : ∃ m : Int, 0 ≤ m ∧ valV kvs (.inr k) = some (.int m) := by
    rcases hk with rfl | rfl
    · exact td.r
    · obtain ⟨m, m1, _, m3⟩ := td.t
      exact ⟨m, m1, m3⟩
  obtain ⟨m, m1, m2⟩ := hm
  refine ⟨.ref d, e1, d, .int m, rfl, ?_, kk _ H (VO.int A.sub A.ok (q2 m m1))⟩
  have z := DGet.k (k := .inr k) d1
  rw [m2] at z
  exact z⟩
/-- tape['rest'] = e -/
def dTkSet (i : Nat) (te : DE) : DS := fun De α E => α[i]? = some (some .tk) ∧ te α (fun r => ∃ m : Int, 0 ≤ m ∧ r.view = .int m ∧ De.nx α) E
theorem tape_put {d L Cc : Addr} {b' : Nat} {F : Gh} {H : Hp} {m : Int} {kvs : List (Key × V)} (no : n.Ok) (ok : TapeOk T n d L Cc F H) (hk : k = n.kr ∨ k = n.kt) (hm : 0 ≤ m) (hb : F.b ≤ b') (hmb : k = n.kt → m ≤ (b' : Int)) (e : H d = some (.dK kvs)) (td : TapeD n F.b kvs L Cc) : TapeOk T n d L Cc ⟨F.m, b', F.c⟩ (upd H d (.dK (putK kvs (.inr k) (.int m)))) := by
  have had : ∃ w, valV kvs (.inr k) = some w := by
    rcases hk with rfl | rfl
    · obtain ⟨r, _, h⟩ := td.r
      exact ⟨_, h⟩
    · obtain ⟨r, _, _, h⟩ := td.t
      exact ⟨_, h⟩
  obtain ⟨w, hw⟩ := had
  have ne1 : n.kl ≠ k := by rcases hk with rfl | rfl; exact no.lr; exact no.lt
  have ne2 : n.kc ≠ k := by
    rcases hk with rfl | rfl
    · exact fun z => no.rc z.symm
    · exact no.ct
  have oth : ∀ (k' : Str) (v : V), k' ≠ k → valV kvs (.inr k') = some v → valV (putK kvs (.inr k) (.int m)) (.inr k') = some v := fun k' v hne hv => by
    rw [valV_put hw, if_neg (fun z => hne (Sum.inr.inj z))]
    exact hv
  have atk : valV (putK kvs (.inr k) (.int m)) (.inr k) = some (.int m) := by rw [valV_put hw, if_pos rfl]
  have td' : TapeD n b' (putK kvs (.inr k) (.int m)) L Cc := by
    refine ⟨by rw [len_put hw]; exact td.len, oth _ _ ne1 td.l, oth _ _ ne2 td.c, ?_, ?_⟩
    · obtain ⟨r, r1, r2⟩ := td.r
      by_cases z : n.kr = k
      · exact ⟨m, hm, by rw [z]; exact atk⟩
      · exact ⟨r, r1, oth _ _ z r2⟩
    · obtain ⟨r, r1, r3, r2⟩ := td.t
      by_cases z : n.kt = k
      · exact ⟨m, hm, hmb z.symm, by rw [z]; exact atk⟩
      · exact ⟨r, r1, by omega, oth _ _ z r2⟩
  obtain ⟨lg, l1, l2⟩ := ok.large
  exact ⟨ok.fd, ok.fL, ok.ne, ok.cells, ⟨_, upd_same, td'⟩, ⟨lg, l1, by rw [upd_ne ok.ne.symm]; exact l2⟩, tabs_upd ok.tabs e fun z => z, ok.nt⟩
theorem qs_tkSet {e : Expr} {te : DE} (hT : IsTape g T n) (no : n.Ok) (hu : X.A.units + 1 < cLine) (hk : k = n.kr) (hN : X.N[i]? = some x) (hv : Vis X.env.scope x) (he : QE g X e te κ) (hd : (x == ("__debug__" : Str)) = false := by decide) (hcd : (x == ("__classdict__" : Str)) = false := by decide)
    (ha : ∀ v, assign (.Subscript (.Name x p1) (.Constant (.str k) j p2) p3) X.env v = (do
      let ov ← holding [v] (eval (.Name x p1) X.env)
      let iv ← holding [v, ov] (eval (.Constant (.str k) j p2) X.env)
      standAt p3
      holding [v, ov, iv] (setItem ov iv v)
      release [v, ov, iv] []) := by intro _; rfl)
    (hs : swapsWithSole [.Subscript (.Name x p1) (.Constant (.str k) j p2) p3] e pos.line X.env = pure false := by rfl) (hw : swappedStores [.Subscript (.Name x p1) (.Constant (.str k) j p2) p3] e X.env = pure none := by rfl)
    (h1 : (assignEach [.Subscript (.Name x p1) (.Constant (.str k) j p2) p3] X.env).map (·.2) = [assign (.Subscript (.Name x p1) (.Constant (.str k) j p2) p3) X.env] := by rfl) :
    QS g X (.Assign [.Subscript (.Name x p1) (.Constant (.str k) j p2) p3] e pos) (dTkSet i te) κ := ⟨fun tk Fe He E hTk hx => (ps_asg (he.pe tk Fe He E hTk hx) (pg_sub (pe_var hN hv hd hcd) pe_str (set_dict hu) ha) hs hw h1).dimp fun D' σ H h => by
  obtain ⟨F, α, D, ρ, A, ⟨q0, q⟩, kk⟩ := h
  refine ⟨F, α, _, A.w, q, fun v H1 h1 => ?_⟩
  obtain ⟨F1, r, st1, sub1, ok1, rep1, _, m, m0, em, q1⟩ := h1
  have ev := RepS.int rep1 em
  subst ev
  have A1 : Ab X.K g tk ρ Fe He F1 H1 α σ := A.step st1 sub1 ok1
  obtain ⟨d, L, Cc, rfl, e1, ok⟩ := A1.tape hT hTk q0
  obtain ⟨kvs, d1, td⟩ := ok.dict
  refine ⟨.ref d, e1, d, _, rfl, DPut.k (k := .inr k) d1 (by rw [td.len, sizeLine_eq]; omega), ?_⟩
  have ok2 := tape_put (k := k) no ok (.inl hk) m0 (Nat.le_refl F1.b) (fun z => absurd (hk.symm.trans z) no.rt) d1 td
  exact kk.nx _ _ ⟨F1, α, A1.step (Step.tape (κ := 0) (by simp [tkOf]) fun ps z => nomatch z) (same_tape sub1 ok.fd) ok2, q1⟩⟩
/-- what the token guards changes, a draw more -/
theorem Step.tick {tk : Tk} {F : Gh} {H : Hp} {d : Addr} {o : HO} (hd : d ∈ tk.ad) (nt : NT o) : Step tk 1 F H ⟨F.m, F.b + 1, F.c⟩ (upd H d o) := by
  have z : Step tk 0 F H F (upd H d o) := Step.tape hd nt
  exact ⟨z.fr, z.nw, z.kp, z.ad, Nat.le_succ _, Nat.le_refl _⟩
/-- tape['turn'] = tape['turn'] + 1 -/
def dTkInc (i : Nat) : DS := fun De α _ => α[i]? = some (some .tk) ∧ De.nx α
theorem qs_tkInc {i1 j1 : Nat} {q1 q2 q3 q4 q5 : Pos} (hT : IsTape g T n) (no : n.Ok) (hu : X.A.units + 1 < cLine) (hk : k = n.kt) (hN : X.N[i]? = some x) (hv : Vis X.env.scope x) (hd : (x == ("__debug__" : Str)) = false := by decide) (hcd : (x == ("__classdict__" : Str)) = false := by decide)
    (ha : ∀ v, assign (.Subscript (.Name x p1) (.Constant (.str k) j p2) p3) X.env v = (do
      let ov ← holding [v] (eval (.Name x p1) X.env)
      let iv ← holding [v, ov] (eval (.Constant (.str k) j p2) X.env)
      standAt p3
      holding [v, ov, iv] (setItem ov iv v)
      release [v, ov, iv] []) := by intro _; rfl)
    (hs : swapsWithSole [.Subscript (.Name x p1) (.Constant (.str k) j p2) p3] (.BinOp (.Subscript (.Name x q1) (.Constant (.str k) i1 q2) q3) .Add (.Constant (.int 1) j1 q4) q5) pos.line X.env = pure false := by rfl) (hw : swappedStores [.Subscript (.Name x p1) (.Constant (.str k) j p2) p3] (.BinOp (.Subscript (.Name x q1) (.Constant (.str k) i1 q2) q3) .Add (.Constant (.int 1) j1 q4) q5) X.env = pure none := by rfl)
    (h1 : (assignEach [.Subscript (.Name x p1) (.Constant (.str k) j p2) p3] X.env).map (·.2) = [assign (.Subscript (.Name x p1) (.Constant (.str k) j p2) p3) X.env] := by rfl) (hsl : NoSl (.Constant (.str k) i1 q2) := by exact fun _ _ => rfl) :
    QS g X (.Assign [.Subscript (.Name x p1) (.Constant (.str k) j p2) p3] (.BinOp (.Subscript (.Name x q1) (.Constant (.str k) i1 q2) q3) .Add (.Constant (.int 1) j1 q4) q5) pos) (dTkInc i) 1 := ⟨fun tk Fe He E hTk hx => (ps_asg (pe_op op_add (pe_dget hu (pe_var hN hv hd hcd) pe_str hsl) pe_int) (pg_sub (pe_var hN hv hd hcd) pe_str (set_dict hu) ha) hs hw h1).dimp fun D' σ H h => by
  obtain ⟨F, α, D, ρ, A, ⟨q0, q⟩, kk⟩ := h
  obtain ⟨d, L, Cc, rfl, e1, ok⟩ := A.tape hT hTk q0
  obtain ⟨kvs, d1, td⟩ := ok.dict
  obtain ⟨m, m1, m2, m3⟩ := td.t
  have z := DGet.k (k := .inr k) d1
  rw [hk, m3] at z
  refine ⟨.ref d, e1, d, .int m, rfl, by rw [hk]; exact z, m, 1, rfl, rfl, .ref d, e1, d, _, rfl, DPut.k (k := .inr k) d1 (by rw [td.len, sizeLine_eq]; omega), ?_⟩
  have ok2 := tape_put (k := k) (m := m + 1) (b' := F.b + 1) no ok (.inr hk) (by omega) (Nat.le_succ _) (fun _ => by omega) d1 td
  exact kk.nx _ _ ⟨_, α, A.step (Step.tick (by simp [tkOf]) fun ps z => nomatch z) (same_tape A.sub ok.fd) ok2, q⟩⟩
/-- turn, found = (tape['turn'] + 1, 0); tape['turn'] = turn -/
def dTkTurn (i l f : Nat) (u : DS) : DS := fun De α E => α[i]? = some (some .tk) ∧ l < α.length ∧ ∀ m : Int, 0 < m → m ≤ (tLim : Int) → u De ((α.set l (some (.fr (.int m)))).set f (some (.fr (.int 0)))) E
theorem qss_tkTurn {l f : Nat} {xl xf : Str} {i1 j1 j3 k1 k2 : Nat} {q1 q2 q3 q4 q5 q6 t1 t2 t3 t4 s1 s2 : Pos} {rest : List Stmt} {u : DS} (hT : IsTape g T n) (no : n.Ok) (hu : X.A.units + 1 < cLine) (hk : k = n.kt) (hc : X.calm = true) (hnd : X.N.Nodup) (hN : X.N[i]? = some x) (hl : X.N[l]? = some xl) (hf : X.N[f]? = some xf) (hlf : l ≠ f) (hv : Vis X.env.scope x)
    (hx1 : X.env.scope.names.lookup xl = some .local) (hy1 : X.env.scope.names.lookup xf = some .local) (hr : QSs g X rest u κ)
    (hw : swappedStores [.Tuple [.Name xl t1, .Name xf t2] k1 t3] (.Tuple [.BinOp (.Subscript (.Name x q1) (.Constant (.str k) i1 q2) q3) .Add (.Constant (.int 1) j1 q4) q5, .Constant (.int 0) j3 q6] k2 t4) X.env = pure (some [xl, xf]))
    (hil : i ≠ l := by decide) (hif : i ≠ f := by decide)
    (hd : (x == ("__debug__" : Str)) = false := by decide) (hcd : (x == ("__classdict__" : Str)) = false := by decide) (hd2 : (xl == ("__debug__" : Str)) = false := by decide) (hcd2 : (xl == ("__classdict__" : Str)) = false := by decide)
    (hs0 : swapsWithSole [.Tuple [.Name xl t1, .Name xf t2] k1 t3] (.Tuple [.BinOp (.Subscript (.Name x q1) (.Constant (.str k) i1 q2) q3) .Add (.Constant (.int 1) j1 q4) q5, .Constant (.int 0) j3 q6] k2 t4) pos.line X.env = pure false := by rfl)
    (hz1 : starEach [.BinOp (.Subscript (.Name x q1) (.Constant (.str k) i1 q2) q3) .Add (.Constant (.int 1) j1 q4) q5, .Constant (.int 0) j3 q6] X.env = (false, eval (.BinOp (.Subscript (.Name x q1) (.Constant (.str k) i1 q2) q3) .Add (.Constant (.int 1) j1 q4) q5) X.env) :: starEach [.Constant (.int 0) j3 q6] X.env := by rfl)
    (hz2 : starEach [.Constant (.int 0) j3 q6] X.env = (false, eval (.Constant (.int 0) j3 q6) X.env) :: starEach [] X.env := by rfl)
    (ha : ∀ v, assign (.Subscript (.Name x p1) (.Constant (.str k) j p2) p3) X.env v = (do
      let ov ← holding [v] (eval (.Name x p1) X.env)
      let iv ← holding [v, ov] (eval (.Constant (.str k) j p2) X.env)
      standAt p3
      holding [v, ov, iv] (setItem ov iv v)
      release [v, ov, iv] []) := by intro _; rfl)
    (hs : swapsWithSole [.Subscript (.Name x p1) (.Constant (.str k) j p2) p3] (.Name xl s1) s2.line X.env = pure false := by rfl) (hw2 : swappedStores [.Subscript (.Name x p1) (.Constant (.str k) j p2) p3] (.Name xl s1) X.env = pure none := by rfl)
    (h1 : (assignEach [.Subscript (.Name x p1) (.Constant (.str k) j p2) p3] X.env).map (·.2) = [assign (.Subscript (.Name x p1) (.Constant (.str k) j p2) p3) X.env] := by rfl) (hsl : NoSl (.Constant (.str k) i1 q2) := by exact fun _ _ => rfl) :
    QSs g X (.Assign [.Tuple [.Name xl t1, .Name xf t2] k1 t3] (.Tuple [.BinOp (.Subscript (.Name x q1) (.Constant (.str k) i1 q2) q3) .Add (.Constant (.int 1) j1 q4) q5, .Constant (.int 0) j3 q6] k2 t4) pos :: .Assign [.Subscript (.Name x p1) (.Constant (.str k) j p2) p3] (.Name xl s1) s2 :: rest) (dTkTurn i l f u) (1 + κ) := ⟨fun tk Fe He E hTk hx =>
  (pss_cons (ps_par hc hnd hl hf hlf hx1 hy1 (pa_cons (pe_op op_add (pe_dget hu (pe_var hN hv hd hcd) pe_str hsl) pe_int) (pa_cons pe_int pa_nil hz2) hz1) hw hs0)
    (pss_cons (ps_asg (pe_var hl (.inl hx1) hd2 hcd2) (pg_sub (pe_var hN hv hd hcd) pe_str (set_dict hu) ha) hs hw2 h1) (hr.ps tk Fe He E hTk hx))).dimp fun D' σ H h => by
  obtain ⟨F, α, D, ρ, A, ⟨q0, hll, q⟩, kk⟩ := h
  obtain ⟨d, L, Cc, rfl, e1, ok⟩ := A.tape hT hTk q0
  obtain ⟨kvs, d1, td⟩ := ok.dict
  obtain ⟨m, m1, m2, m3⟩ := td.t
  have z := DGet.k (k := .inr k) d1
  rw [hk, m3] at z
  have hml : m + 1 ≤ (tLim : Int) := by
    have c1 := A.cap
    have c2 := A.lim
    omega
  have A1 : Ab X.K g (tkOf T n d L Cc) (1 + κ + ρ) Fe He F H (α.set l (some (.fr (.int (m + 1))))) (σ.set l (some (.int (m + 1)))) := A.set' (κ1 := 0) l (Step.refl _ _ _) A.sub A.ok (r := .fr (.int (m + 1))) (v := .int (m + 1)) (Rep.int (K := X.K) (g := g) (F := F) _) (fun _ _ z => (nomatch z)) (fun _ z => (nomatch z))
  have A2 : Ab X.K g (tkOf T n d L Cc) (1 + κ + ρ) Fe He F H ((α.set l (some (.fr (.int (m + 1))))).set f (some (.fr (.int 0)))) ((σ.set l (some (.int (m + 1)))).set f (some (.int 0))) := A1.set' (κ1 := 0) f (Step.refl _ _ _) A1.sub A1.ok (r := .fr (.int 0)) (v := .int 0) (Rep.int (K := X.K) (g := g) (F := F) _) (fun _ _ z => (nomatch z)) (fun _ z => (nomatch z))
  have hlen := A.len
  have e2 : ((σ.set l (some (.int (m + 1)))).set f (some (.int 0)))[i]? = some (some (V.ref d)) := by
    rw [List.getElem?_set_ne (Ne.symm hif), List.getElem?_set_ne (Ne.symm hil)]
    exact e1
  refine ⟨.ref d, e1, d, .int m, rfl, by rw [hk]; exact z, m, 1, rfl, rfl, .int (m + 1), .int 0, rfl, ?_⟩
  have e3 : ((σ.set l (some (.int (m + 1)))).set f (some (.int 0)))[l]? = some (some (V.int (m + 1))) := by
    rw [List.getElem?_set_ne (Ne.symm hlf)]
    exact List.getElem?_set_self (by omega)
  refine ⟨.int (m + 1), e3, .ref d, e2, d, _, rfl, DPut.k (k := .inr k) d1 (by rw [td.len, sizeLine_eq]; omega), ?_⟩
  have ok2 := tape_put (k := k) (m := m + 1) (b' := F.b + 1) no ok (.inr hk) (by omega) (Nat.le_succ _) (fun _ => by omega) d1 td
  exact ⟨_, _, D, ρ, A2.step (Step.tick (by simp [tkOf]) fun ps z => nomatch z) (same_tape A.sub ok.fd) ok2, q (m + 1) (by omega) hml, kk⟩⟩
/-- for x in tape['cells'] -/
def dTkCells (i : Nat) : DI := fun α Q _ => α[i]? = some (some .tk) ∧ ∀ ns : List Int, Nn ns → Q (ns.map D.int)
theorem qi_tkCells {tg : Expr} (hT : IsTape g T n) (hu : X.A.units + 1 < cLine) (hk : k = n.kc) (hN : X.N[i]? = some x) (hv : Vis X.env.scope x) (hd : (x == ("__debug__" : Str)) = false := by decide) (hcd : (x == ("__classdict__" : Str)) = false := by decide) (hs : NoSl (.Constant (.str k) j p2) := by exact fun _ _ => rfl) :
    QI g X tg (.Subscript (.Name x p1) (.Constant (.str k) j p2) pos) (dTkCells i) 0 := ⟨fun tk Fe He E hTk hx => (pi_list (pe_dget hu (pe_var hN hv hd hcd) pe_str hs)).dimp fun σ H R h => by
  obtain ⟨F, α, Q, A, ⟨q1, q2⟩, kk⟩ := h
  obtain ⟨d, L, Cc, rfl, e1, ok⟩ := A.tape hT hTk q1
  obtain ⟨kvs, d1, td⟩ := ok.dict
  obtain ⟨cl, c1, c2⟩ := ok.cells
  refine ⟨.ref d, e1, d, .ref Cc, rfl, ?_, Cc, rfl, ⟨_, SqL.of (A.sub _ _ c2)⟩, kk _ F H _ (Step.refl _ _ _) A.sub A.ok (q2 cl c1) (walks_list c2 (Reps.of_ints cl))⟩
  have z := DGet.k (k := .inr k) d1
  rw [hk, td.c] at z
  rw [hk]
  exact z⟩
end

/-! lists of ints, compared -/
theorem canLay_ints : ∀ ns : List Int, PyData.canLayAll0 (ns.map PyData.int) = true
  | [] => by unfold PyData.canLayAll0; rfl
  | n :: ns => by
    rw [List.map_cons]
    unfold PyData.canLayAll0 PyData.canLay0
    rw [canLay_ints ns]
    rfl
theorem depth_ints : ∀ ns : List Int, PyData.depthAll (ns.map PyData.int) = 0
  | [] => by unfold PyData.depthAll; rfl
  | n :: ns => by
    rw [List.map_cons]
    unfold PyData.depthAll PyData.depth
    rw [depth_ints ns]
    rfl
theorem shaped_ints (ns : List Int) : SeqAt.shaped (.list (ns.map PyData.int)) = true := by
  unfold SeqAt.shaped PyData.canLay0 PyData.depth
  rw [canLay_ints, depth_ints]
  rfl
theorem dp_ints {K : PySem.W.Frag} {H : Hp} : ∀ ns : List Int, DpAll K H (ns.map V.int) (ns.map PyData.int)
  | [] => .nil
  | n :: ns => .cons (.int n) (dp_ints ns)
section
variable {g : Gv} {X : Cx} {T : List (Addr × Str)} {n : TN} {i : Nat} {x : Str} {j j2 j3 : Nat} {p1 p2 p3 p4 p5 p6 p7 p8 p9 pa cp pos : Pos}
/-- tape['large'].pop(0) if tape['large'] != [] else e -/
def dTkPop (i : Nat) (te : DE) : DE := fun α Q E => α[i]? = some (some .tk) ∧ (∀ m : Int, 0 ≤ m → Q (.fr (.int m))) ∧ te α Q E
theorem qe_tkPop {e : Expr} {te : DE} (hT : IsTape g T n) (hu : X.A.units + 64 < cLine) (hN : X.N[i]? = some x) (hv : Vis X.env.scope x) (he : QE g X e te κ) (hd : (x == ("__debug__" : Str)) = false := by decide) (hcd : (x == ("__classdict__" : Str)) = false := by decide)
    (hs : NoSl (.Constant (.str n.kl) j p2) := by exact fun _ _ => rfl) (hs2 : NoSl (.Constant (.str n.kl) j2 p5) := by exact fun _ _ => rfl)
    (hbase : attributeBase (.Subscript (.Name x p4) (.Constant (.str n.kl) j2 p5) p6) "pop" X.env (eval (.Subscript (.Name x p4) (.Constant (.str n.kl) j2 p5) p6) X.env) = eval (.Subscript (.Name x p4) (.Constant (.str n.kl) j2 p5) p6) X.env := by rfl) (hline : (pa.endLine == cp.line) = true := by rfl) :
    QE g X (.IfExp (.Compare (.Subscript (.Name x p1) (.Constant (.str n.kl) j p2) p3) [.NotEq] [.List [] p7] p8) (.Call (.Attribute (.Subscript (.Name x p4) (.Constant (.str n.kl) j2 p5) p6) "pop" pa) [.Constant (.int 0) j3 p9] [] cp) e pos) (dTkPop i te) κ := ⟨fun tk Fe He E hTk hx =>
  (pe_ifExp (pt_cmpR (op_neD hu) (pe_dget (by omega) (pe_var hN hv hd hcd) pe_str hs) (pe_lst pa_nil) (by rfl))
    (pe_bm PySem.F.plainAttrs_list PySem.F.slot_list_pop PySem.F.type_list_pop mt_popAt (pe_dget (by omega) (pe_var hN hv hd hcd) pe_str hs2) (pa_cons pe_int pa_nil) hbase (by rfl) hline) (he.pe tk Fe He E hTk hx)).dimp fun σ H Q' h => by
  obtain ⟨F, α, Q, A, ⟨q1, q2, q3⟩, kk⟩ := h
  obtain ⟨d, L, Cc, rfl, e1, ok⟩ := A.tape hT hTk q1
  obtain ⟨kvs, d1, td⟩ := ok.dict
  obtain ⟨lg, l1, l2⟩ := ok.large
  have dg : ∀ H1, H1 d = some (.dK kvs) → DGet H1 d (.str n.kl) (some (.ref L)) := fun H1 e => by
    have z := DGet.k (k := .inr n.kl) e
    rw [td.l] at z
    exact z
  refine ⟨.ref d, e1, d, .ref L, rfl, dg H d1, by rw [sizeLine_eq]; simp, fun p hp => ?_⟩
  have neL : L ≠ p := ne_of_none l2 hp
  have neD : d ≠ p := ne_of_none d1 hp
  have hL : upd H p (.lst []) L = some (.lst (lg.map V.int)) := by rw [upd_ne neL]; exact l2
  have hD : upd H p (.lst []) d = some (.dK kvs) := by rw [upd_ne neD]; exact d1
  have st0 : Step (tkOf T n d L Cc) 0 F H F (upd H p (.lst [])) := Step.own hp
  have hF : F.m p = none := A.sub.free hp
  have sub0 : Same F (upd H p (.lst [])) := same_tape A.sub hF
  have ok0 : (tkOf T n d L Cc).ok F (upd H p (.lst [])) := Tk.own A.ok hp _
  refine ⟨.list (lg.map PyData.int), .list ([].map PyData.int), .lst (SqL.of hL) (dp_ints lg), .lst (SqL.of upd_same) .nil, shaped_ints lg, shaped_ints [], _, rfl, ?_⟩
  cases lg with
  | nil => exact ⟨F, α, Q, A.step st0 sub0 ok0, q3, fun v H' h => kk v H' (h.at st0)⟩
  | cons m lg =>
    refine ⟨.ref d, e1, d, .ref L, rfl, dg _ hD, .inl ⟨rfl, _, SqL.of hL⟩, ?_⟩
    refine ⟨L, _, 0, 0, .int m, rfl, rfl, hL, by omega, by omega, seqIndex_of (Int.le_refl _) (by simp), rfl, kk _ _ ?_⟩
    have ok' : TapeOk T n d L Cc F (upd H p (.lst [])) := ok0
    have ok1 : TapeOk T n d L Cc F (upd (upd H p (.lst [])) L (.lst (lg.map V.int))) := ⟨ok.fd, ok.fL, ok.ne, ok.cells, ⟨kvs, by rw [upd_ne ok.ne]; exact hD, td⟩, ⟨lg, fun y hy => l1 y (List.mem_cons_of_mem _ hy), upd_same⟩, tabs_upd ok'.tabs hL fun z => z, ok.nt⟩
    have st1 : Step (tkOf T n d L Cc) 0 F (upd H p (.lst [])) F (upd (upd H p (.lst [])) L (.lst (lg.map V.int))) := Step.tape (by simp [tkOf]) fun ps z => nomatch z
    exact (VO.int (same_tape sub0 ok.fL) ok1 (q2 m (l1 m List.mem_cons_self))).at (st0.trans st1)⟩
end
end DL

set_option Elab.async false
set_option linter.all false
set_option maxRecDepth 100000
set_option maxHeartbeats 4000000
namespace DL
open PySem PySem.Spec L2

/-! ### what the printed derivations lean on -/
def visB (sc : Scope) (x : Str) : Bool := match sc.names.lookup x with
  | some .local => true
  | some .cell => true
  | some .free => true
  | _ => false
theorem vis_of {sc : Scope} {x : Str} (h : visB sc x = true) : Vis sc x := by
  unfold visB at h
  split at h
  · rename_i e
    exact .inl e
  · rename_i e
    exact .inr (.inl e)
  · rename_i e
    exact .inr (.inr e)
  · cases h
def locB (sc : Scope) (x : Str) : Bool := match sc.names.lookup x with
  | some .local => true
  | some .cell => true
  | _ => false
theorem loc_of {sc : Scope} {x : Str} (h : locB sc x = true) : Loc sc x := by
  unfold locB at h
  split at h
  · rename_i e
    exact .inl e
  · rename_i e
    exact .inr e
  · cases h
theorem u64 {k : Nat} {A : Around} (hr : Room k A) : A.units + 64 < cLine := by
  have := hr.un
  omega
theorem u65 {k : Nat} {A : Around} (hr : Room k A) : A.units + 65 < cLine := by
  have := hr.un
  omega
theorem u1 {k : Nat} {A : Around} (hr : Room k A) : A.units + 1 < cLine := by
  have := hr.un
  omega
section
variable {g : Gv} {X : Cx} {e : Expr} {te : DE} {pos : Pos}
/-- x = e, and what is new stands still from now on -/
def dFz (te : DE) : DE := fun α Q E => te α (fun r => Q r.fz) E
theorem qe_fz (h : QE g X e te κ) : QE g X e (dFz te) κ := ⟨fun tk Fe He E hT hx => (h.pe tk Fe He E hT hx).dimp fun σ H Q' h => by
  obtain ⟨F, α, Q, A, q, k⟩ := h
  refine ⟨F, α, _, A.w, q, fun v H1 h1 => ?_⟩
  obtain ⟨F1, r, st1, sub1, ok1, rep1, q1⟩ := h1.fz
  refine k v H1 ⟨F1, r.fz, st1, sub1, ok1, rep1, fun d p z => ?_, q1⟩
  cases r with
  | nw d => cases z
  | fr d => cases z
  | bw d => cases z
  | tk => cases z⟩
/-- a slot that holds a new thing: it stands still from here on -/
def dFzS (i : Nat) (u : DS) : DS := fun De α E => u De (match α[i]? with
  | some (some (.nw d)) => α.set i (some (.fr d))
  | _ => α) E
theorem qss_fzS {sts : List Stmt} {i : Nat} {u : DS} (h : QSs g X sts u κ) : QSs g X sts (dFzS i u) κ := ⟨fun tk Fe He E hT hx => (h.ps tk Fe He E hT hx).dimp fun D' σ H h => by
  obtain ⟨F, α, D, ρ, A, q, k⟩ := h
  unfold dFzS at q
  split at q
  · rename_i d e
    obtain ⟨F', A'⟩ := A.freeze e
    exact ⟨F', _, D, ρ, A', q, k⟩
  · exact ⟨F, α, D, ρ, A, q, k⟩⟩
/-! calls by keywords alone -/
structure KFn (P : Program) (w : World) (K : PySem.W.Frag) (mg : Str → Option Value) (base : Heap) (g : Gv) (k : Nat) (x : Str) (ps ks : List Str) (ix : List Nat) (Φ : DF) (κ : Nat) : Prop where
  ex : ∃ (f : Addr) (fd : FuncData), FnOk P w K mg base (CX P w) k f fd ps (spD K g κ ps.length Φ) ∧ mg x = some (.ref f) ∧ PySem.W.keepIn K (.ref f) = true ∧
    ∀ (s : Shared) (ws : List Value), K.In s.heap → ws.length = ks.length → BindsTo s fd ⟨[], ks.zip ws⟩ (ps.zip (ix.map fun i => ws.getD i .none))
def perm {α : Type} [Inhabited α] (ix : List Nat) (xs : List α) : List α := ix.map fun i => xs.getD i default
instance : Inhabited S := ⟨.tk⟩
def dCallK (n m : Nat) (ix : List Nat) (Φ : DF) (u : DA) : DE := fun α Q E => u α (fun ss => ss.length = m ∧ ix.length = n ∧ (∀ i ∈ ix, i < m) ∧ (perm ix ss).all S.arg = true ∧ Φ (perm ix ss) Q E) E
theorem reps_perm {K : PySem.W.Frag} {tk : Tk} {F : Gh} {H : Hp} {ss : List S} {vs : List V} (r : RepSs K g tk F H ss vs) : ∀ {ix : List Nat}, (∀ i ∈ ix, i < ss.length) → RepSs K g tk F H (perm ix ss) (ix.map fun i => vs.getD i .non)
  | [], _ => rfl
  | i :: ix, h => by
    have hi := h i List.mem_cons_self
    obtain ⟨v, e1, e2⟩ := r.get (i := i) (s := ss[i]) (List.getElem?_eq_getElem hi)
    refine ⟨vs.getD i .non, ix.map fun i => vs.getD i .non, rfl, ?_, reps_perm r fun j hj => h j (List.mem_cons_of_mem _ hj)⟩
    have a1 : vs.getD i .non = v := by rw [List.getD_eq_getElem?_getD, e1]; rfl
    have a2 : ss.getD i default = ss[i] := by rw [List.getD_eq_getElem?_getD, List.getElem?_eq_getElem hi]; rfl
    rw [a1]
    show RepS K g tk F H (ss.getD i default) v
    rw [a2]
    exact e2
theorem vals_perm {vs : List V} {us : List Value} (r : Vals vs us) : ∀ {ix : List Nat}, (∀ i ∈ ix, i < vs.length) → Vals (ix.map fun i => vs.getD i .non) (ix.map fun i => us.getD i .none)
  | [], _ => .nil
  | i :: ix, h => by
    have hi := h i List.mem_cons_self
    obtain ⟨u, e1, e2⟩ := r.get (i := i) (x := vs[i]) (List.getElem?_eq_getElem hi)
    have a1 : vs.getD i .non = vs[i] := by rw [List.getD_eq_getElem?_getD, List.getElem?_eq_getElem hi]; rfl
    have a2 : us.getD i .none = u := by rw [List.getD_eq_getElem?_getD, e1]; rfl
    refine .cons ?_ (vals_perm r fun j hj => h j (List.mem_cons_of_mem _ hj))
    show RelV (vs.getD i .non) (us.getD i .none)
    rw [a1, a2]
    exact e2
structure QK (g : Gv) (X : Cx) (kws : List Keyword) (u : DA) (κ : Nat) : Prop where
  pk : ∀ (tk : Tk) (Fe : Gh) (He : Hp) (E : XD → Prop), g.T tk → Takes X (WD X.K g tk Fe He E) → PK X kws (LA X.K g tk κ Fe He E u)
theorem _root_.L2.PK.dimp {X : Cx} {es : List Keyword} {t t' : TA} (h : PK X es t) (k : ∀ σ H Q, t' σ H Q → t σ H Q) : PK X es t' := ⟨fun pos pins s σ H Q I q => h.run pos pins s σ H Q I (k σ H Q q)⟩
theorem qk_nil : QK g X [] dNil 0 := ⟨fun tk Fe He E hT hx => pk_nil.dimp fun σ H Q' h => by
  obtain ⟨F, α, Q, A, q, k⟩ := h
  exact k [] H F [] (Step.refl _ _ _) A.sub A.ok rfl q⟩
theorem qk_cons {nm : Option Str} {kpos : Pos} {kws : List Keyword} {u : DA} (ha : QE g X e te κ1) (hr : QK g X kws u κ2) : QK g X (⟨nm, e, kpos⟩ :: kws) (dCons te u) (κ1 + κ2) :=
  ⟨fun tk Fe He E hT hx => (pk_cons (ha.pe tk Fe He E hT hx) (hr.pk tk Fe He E hT hx)).dimp fun σ H Q' h => by
    obtain ⟨F, α, Q, A, q, k⟩ := h
    refine ⟨F, α, _, A.w, q, fun v H1 h1 => ?_⟩
    obtain ⟨F1, r, st1, sub1, ok1, rep1, q1⟩ := h1.fz
    refine ⟨F1, α, _, A.step st1 sub1 ok1, q1, fun vs H2 F2 ss st2 sub2 ok2 reps q2 => ?_⟩
    exact k (v :: vs) H2 F2 (r.fz :: ss) (st1.trans st2) sub2 ok2 ⟨v, vs, rfl, rep1.step st2, reps⟩ q2⟩
theorem qe_callK {k : Nat} {x : Str} {ps ks : List Str} {ix : List Nat} {Φ : DF} {kws : List Keyword} {u : DA} {p : Pos} (F : KFn X.prog X.w X.K X.mg X.base g k x ps ks ix Φ κf) (hr : Room k X.A) (hg : Gl X x) (hkw : QK g X kws u κ)
    (hall : (backToKw pos (keywordEach kws X.env)).all (·.1.isSome) = true := by rfl) (hks : (backToKw pos (keywordEach kws X.env)).filterMap (·.1) = ks := by rfl) (hdb : (x == ("__debug__" : Str)) = false := by decide)
    (hpl : ((backTo pos (starEach [] X.env)).any (·.1) || (backToKw pos (keywordEach kws X.env)).any (·.1.isNone)) = false := by rfl) : QE g X (.Call (.Name x p) [] kws pos) (dCallK ps.length ks.length ix Φ u) (κ + κf) := ⟨fun tk Fe He E hT hx => by
  obtain ⟨f, fd, F1, hm, hk, hb⟩ := F.ex
  refine ⟨fun pins s σ H Q' I h => ?_⟩
  obtain ⟨F, α, Q, A, q, kk⟩ := h
  refine wpAny_Call_Name_kw (ld_glob I hg hm ?_ hdb)
  refine PySem.W.callWith_KW0 (h₀ := X.base) I.ok.mod.kin hk hall ?_ hpl
  refine thn ((hkw.pk tk Fe He E hT hx).run pos pins s σ H (fun vs H1 => ∃ F1 ss, Step tk κ F H F1 H1 ∧ Same F1 H1 ∧ tk.ok F1 H1 ∧ RepSs X.K g tk F1 H1 ss vs ∧ ss.length = ks.length ∧ ix.length = ps.length ∧ (∀ i ∈ ix, i < ks.length) ∧ (perm ix ss).all S.arg = true ∧ Φ (perm ix ss) Q E) I ⟨F, α, _, A.w, q, fun vs H1 F1 ss st1 sub1 ok1 reps q1 => ⟨F1, ss, st1, sub1, ok1, reps, q1⟩⟩) fun ws s2 ⟨zs, H2, I2, rz, F1', ss, st1, sub1, ok1, reps, l1, l2, l3, ha, q2⟩ => ⟨I2.kIn, ?_⟩
  rw [hks]
  have hz : zs.length = ks.length := reps.length.trans l1
  have hw : ws.length = ks.length := rz.length.symm.trans hz
  have rv := vals_perm rz (ix := ix) fun i hi => by rw [hz]; exact l3 i hi
  have rp := reps_perm (g := g) reps (ix := ix) fun i hi => by rw [l1]; exact l3 i hi
  have hsp : spD X.K g κf ps.length Φ (ix.map fun i => zs.getD i .non) H2 Q' (XO X.K g tk (Fe.c - Fe.b) Fe He E) := spD_call hT A st1 sub1 ok1 rp (by unfold perm; rw [List.length_map]; exact l2) ha q2 kk
  refine wpAny_call (codeAny_mono (F1.run X.A X.stack s2 H2 ⟨[], ks.zip ws⟩ (ix.map fun i => ws.getD i .none) _ Q' _ hr I2.env0 (hb s2 ws I2.kIn hw) rv hsp) fun r s' hq => ?_)
  cases r with
  | error e => exact passes_call (E := XO X.K g tk (Fe.c - Fe.b) Fe He E) hx (fun _ _ _ _ z => z) pins σ H2 s2 e s' I2 hq
  | ok fl =>
    cases fl with
    | ret u => exact I2.after hq
    | next => exact False.elim hq
    | brk => exact False.elim hq
    | cont => exact False.elim hq⟩
end
end DL

set_option Elab.async false
set_option linter.all false
set_option maxRecDepth 100000
set_option maxHeartbeats 4000000
namespace DL
open PySem PySem.Spec L2

/-! ### defs with lambdas; calls by keywords; the tape's beginning; the law -/
section
variable {P : Program} {w : World} {K : PySem.W.Frag} {mg : Str → Option Value} {base : Heap} {g : Gv} {x qual : Str} {params : Arguments} {body : List Stmt} {scope : Scope} {dvs : List V} {kws : List (Str × V)} {f : Addr} {fd : FuncData} {N ps : List Str} {k : Nat} {t : DS}
theorem qe_intG {X : Cx} {x : Str} {i : Int} {pos : Pos} (h : ∃ t, X.mg x = some (.int i t)) (hg : Gl X x) (hd : (x == ("__debug__" : Str)) = false := by decide) : QE g X (.Name x pos) (dC (.int i)) 0 := by
  obtain ⟨t, hm⟩ := h
  exact qe_glob (v := .int i) hg hm ⟨t, rfl⟩ (fun _ => Rep.int i) hd
theorem fn_okC {p : Str × Option Str} (F : FunD K x qual params body scope dvs kws (_root_.He.fAd K p) fd) (S : FnScope N ps scope)
    (hb : ∀ (cdv : Value), cdv = .ref (_root_.He.codeOf K p) → ∀ (A : Around) (outer : List Env) (s : Shared) (H : Hp) (E : XK), Room k (A.deeper (PyProof.Rows.envOfC qual scope s.heap.objs.size (_root_.He.fAd K p) cdv)) → QSs g (cxOf (CX P w) P w K mg base N qual scope (_root_.He.fAd K p) cdv A outer s H E) body t κ) :
    FnOk P w K mg base (CX P w) (k + 1) (_root_.He.fAd K p) fd ps (spD K g κ ps.length (phi N t)) := by
  obtain ⟨oc, od, dV, kV, doc, pm, an, cdv, ct, osl, rfl, lk, hcd, _, _⟩ := F.ex
  obtain ⟨c, ec⟩ := _root_.He.codeIn_ref hcd
  have e : cdv = .ref (_root_.He.codeOf K p) := by rw [_root_.He.codeOf_eq lk ec, ec]
  refine fn_of lk hcd S (fun vs H Q E h => ?_) (fun A outer s H vs Q' E' hr h => ?_)
  · obtain ⟨tk, Fz, ss, Q, E2, _, _, _, r, hl, _⟩ := h
    rw [r.length, hl]
  · obtain ⟨tk, Fz, ss, Q, E, hT, sub, ⟨ok, c1, c2⟩, r, hl, ha, q, kQ, kE⟩ := h
    have ec0 : Fz.c - Fz.b = κ := by omega
    have hx : Takes (cxOf (CX P w) P w K mg base N qual scope (_root_.He.fAd K p) cdv A outer s H E') (WD K g tk Fz H E) := (takes_of rfl rfl rfl rfl).imp fun c d σ H' z => kE c d H' (by rw [← ec0]; exact z)
    refine ⟨_, (hb cdv e A outer s H E' hr).ps tk Fz H E hT hx, Fz, startA N ss, _, 0, ab_start sub ok r ha (by omega) c2, q, ⟨?_, fun v H' z => kQ v H' (by rw [← ec0]; exact z), ?_, ?_⟩⟩
    · rintro σ H1 ⟨F1, α1, A1, q1⟩
      have z : VO K g tk 0 F1 H1 Q .non H1 := VO.non A1.sub A1.ok q1
      exact kQ _ _ (by rw [← ec0]; exact A1.back z)
    · rintro σ H1 ⟨_, _, _, z⟩
      exact z
    · rintro σ H1 ⟨_, _, _, z⟩
      exact z
theorem bindsKw {ks : List Str} {ix : List Nat} (F : FunD K x qual params body scope [] kws f fd)
    (h : ∀ (kV doc pm : Value) (an : Option Addr) (cdv ct : Value) (ws : List Value), ws.length = ks.length → bindArgs (PySem.W.fnOf x qual params body scope .none kV doc pm an cdv ct) ⟨[], ks.zip ws⟩ = pure (ps.zip (ix.map fun i => ws.getD i .none))) :
    ∀ (s : Shared) (ws : List Value), K.In s.heap → ws.length = ks.length → BindsTo s fd ⟨[], ks.zip ws⟩ (ps.zip (ix.map fun i => ws.getD i .none)) := fun s ws _ hl => by
  obtain ⟨oc, od, dV, kV, doc, pm, an, cdv, ct, osl, rfl, lk, hcd, hD, hK⟩ := F.ex
  rcases hD with ⟨_, rfl⟩ | ⟨e, _⟩
  · exact .of_eq (h kV doc pm an cdv ct ws hl)
  · exact absurd rfl e
end

/-! the tape's beginning -/
def tk0 (T : List (Addr × Str)) : Tk where
  ad := []
  ok := fun F H => LamX.Tabs T H ∧ ∀ a o, F.m a = some o → NT o
  v := none
  fr := fun _ _ _ _ h => nomatch h
  st := fun F H F' H' h sF _ sH _ nt => ⟨tabs_fix h.1 fun a o e f => sH a o e (.inr f), fun a o e => by
    cases q : F.m a with
    | none => exact nt a o e q
    | some u =>
      have z := sF _ _ q
      rw [e] at z
      cases z
      exact h.2 a o q⟩
def g0 (T : List (Addr × Str)) : Gv := ⟨fun _ => 0, fun tk => tk = tk0 T⟩
/-- the values of the display: the large ones' list one's own as yet -/
def tapeSs (n : TN) (ks : List Key) (ss : List S) : Prop := ∃ lg cl : List Int, Nn lg ∧ Nn cl ∧
  ((ks = [.inr n.kl, .inr n.kr, .inr n.kc, .inr n.kt] ∧ ss = [.bw (.lst (lg.map D.int)), .fr (.int 0), .fr (.lst (cl.map D.int)), .fr (.int 0)]) ∨
   (ks = [.inr n.kl, .inr n.kc, .inr n.kr, .inr n.kt] ∧ ss = [.bw (.lst (lg.map D.int)), .fr (.lst (cl.map D.int)), .fr (.int 0), .fr (.int 0)]))
/-- the script stands still -/
def scrF (H : Hp) (a : Addr) : Hp := fun b => if b = a then (match H a with
  | some (.lst vs) => some (.lst vs)
  | some (.frz o u) => some (.frz o u)
  | _ => none) else none
theorem scrF_sub {H : Hp} {a : Addr} : Same (scrF H a) H := fun b o e => by
  unfold scrF at e
  split at e
  · rename_i h
    rw [h]
    split at e <;> first | (rename_i z; rw [z]; exact e) | cases e
  · cases e
theorem scrF_nt {H : Hp} {a : Addr} : ∀ b o, scrF H a b = some o → NT o := fun b o e ps z => by
  subst z
  unfold scrF at e
  split at e
  · split at e <;> cases e
  · cases e
theorem scrF_seq {K : PySem.W.Frag} {H : Hp} {a : Addr} {vs : List V} (h : SqL K H a vs) : SqL K (scrF H a) a vs := by
  rcases h with (h | ⟨o, h⟩) | h
  · refine .inl (.inl ?_)
    unfold scrF
    rw [if_pos rfl, h]
  · refine .inl (.inr ⟨o, ?_⟩)
    unfold scrF
    rw [if_pos rfl, h]
  · exact .inr h
/-- a new tape -/
def TapeNew (T : List (Addr × Str)) (n : TN) (H : Hp) (a : Addr) (H' : Hp) (d : Addr) : Prop := ∃ (L Cc : Addr) (F' : Gh), TapeOk T n d L Cc F' H' ∧ Same (scrF H a) F' ∧ Same F' H' ∧ F'.b = 0
def spBegun (T : List (Addr × Str)) (K : PySem.W.Frag) (n : TN) : Sp := fun vs H Q _ => ∃ (a : Addr) (ns : List Int), vs = [.ref a] ∧ SqL K H a (ns.map V.int) ∧ ns.length ≤ 63 ∧ LamX.Tabs T H ∧ ∀ d H', TapeNew T n H a H' d → Q (.ref d) H'
section
variable {P : Program} {w : World} {K : PySem.W.Frag} {mg : Str → Option Value} {base : Heap} {x qual : Str} {params : Arguments} {scope : Scope} {dvs : List V} {kws : List (Str × V)} {f : Addr} {fd : FuncData} {N : List Str} {k : Nat}
theorem own_ints {g : Gv} {tk : Tk} {F : Gh} {H : Hp} {v : V} {lg : List Int} (h : RepS K g tk F H (.bw (.lst (lg.map D.int))) v) : ∃ p, v = .ref p ∧ F.m p = none ∧ H p = some (.lst (lg.map V.int)) := by
  obtain ⟨p, rfl, hF, _, vs, e, r⟩ := h
  rw [Reps.ints r] at e
  exact ⟨p, rfl, hF, e⟩
theorem rep_ints {g : Gv} {tk : Tk} {F : Gh} {H : Hp} {v : V} {lg : List Int} (h : RepS K g tk F H (.fr (.lst (lg.map D.int))) v) : ∃ p, v = .ref p ∧ F.m p = some (.lst (lg.map V.int)) := by
  obtain ⟨p, vs, rfl, e, r⟩ := Rep.lst_ (K := K) (g := g) (F := F) h
  rw [Reps.ints r] at e
  exact ⟨p, rfl, e⟩
theorem rep_int0 {g : Gv} {tk : Tk} {F : Gh} {H : Hp} {v : V} (h : RepS K g tk F H (.fr (.int 0)) v) : v = .int 0 := Rep.int_ (K := K) (g := g) (F := F) h
theorem tape_vals {g : Gv} {tk : Tk} {F : Gh} {H : Hp} {n : TN} {ks : List Key} {ss : List S} {vs : List V} (no : n.Ok) (h : tapeSs n ks ss) (r : RepSs K g tk F H ss vs) : ∃ L Cc lg cl, Nn lg ∧ Nn cl ∧ TapeD n F.b (ks.zip vs) L Cc ∧ F.m L = none ∧ H L = some (.lst (lg.map V.int)) ∧ F.m Cc = some (.lst (cl.map V.int)) := by
  obtain ⟨lg, cl, h1, h2, h⟩ := h
  have key : ∀ a b : Str, a ≠ b → ¬ ((Sum.inr a : Key) = Sum.inr b) := fun a b e z => e (Sum.inr.inj z)
  rcases h with ⟨rfl, rfl⟩ | ⟨rfl, rfl⟩
  · obtain ⟨v1, r1, e1, q1, v2, r2, e2, q2, v3, r3, e3, q3, v4, r4, e4, q4, e5⟩ := r
    have e5' : r4 = [] := e5
    subst e5' e4 e3 e2 e1
    obtain ⟨L, rfl, l1, l2⟩ := own_ints q1
    obtain ⟨C, rfl, c1⟩ := rep_ints q3
    rw [rep_int0 q2, rep_int0 q4]
    refine ⟨L, C, lg, cl, h1, h2, ⟨rfl, valV_pos rfl, ?_, ⟨0, Int.le_refl _, ?_⟩, ⟨0, Int.le_refl _, by omega, ?_⟩⟩, l1, l2, c1⟩
    · exact (valV_neg (key _ _ no.lc)).trans ((valV_neg (key _ _ no.rc)).trans (valV_pos rfl))
    · exact (valV_neg (key _ _ no.lr)).trans (valV_pos rfl)
    · exact (valV_neg (key _ _ no.lt)).trans ((valV_neg (key _ _ no.rt)).trans ((valV_neg (key _ _ no.ct)).trans (valV_pos rfl)))
  · obtain ⟨v1, r1, e1, q1, v2, r2, e2, q2, v3, r3, e3, q3, v4, r4, e4, q4, e5⟩ := r
    have e5' : r4 = [] := e5
    subst e5' e4 e3 e2 e1
    obtain ⟨L, rfl, l1, l2⟩ := own_ints q1
    obtain ⟨C, rfl, c1⟩ := rep_ints q2
    rw [rep_int0 q3, rep_int0 q4]
    refine ⟨L, C, lg, cl, h1, h2, ⟨rfl, valV_pos rfl, ?_, ⟨0, Int.le_refl _, ?_⟩, ⟨0, Int.le_refl _, by omega, ?_⟩⟩, l1, l2, c1⟩
    · exact (valV_neg (key _ _ no.lc)).trans (valV_pos rfl)
    · exact (valV_neg (key _ _ no.lr)).trans ((valV_neg (key _ _ no.rc.symm)).trans (valV_pos rfl))
    · exact (valV_neg (key _ _ no.lt)).trans ((valV_neg (key _ _ no.ct)).trans ((valV_neg (key _ _ no.rt)).trans (valV_pos rfl)))
theorem begun_ok {T : List (Addr × Str)} {n : TN} {st1 : Stmt} {keys : List (Option Expr)} {values : List Expr} {pos rp : Pos} {t1 : DS} {u : DA} {ks : List Key} (F : FunD K x qual params [st1, .Return (some (.Dict keys values pos)) rp] scope dvs kws f fd) (S : FnScope N ["script"] scope) (no : n.Ok) (hnd : ks.Nodup)
    (hb : ∀ (cdv : Value) (A : Around) (outer : List Env) (s : Shared) (H : Hp) (E : XK), Room k (A.deeper (PyProof.Rows.envOfC qual scope s.heap.objs.size f cdv)) → QS (g0 T) (cxOf (CX P w) P w K mg base N qual scope f cdv A outer s H E) st1 t1 0 ∧ QP (g0 T) (cxOf (CX P w) P w K mg base N qual scope f cdv A outer s H E) pos keys values ks u 0)
    (hp : ∀ ns : List Int, ns.length ≤ 63 → t1 { nx := fun α => u α (tapeSs n ks) (fun _ => False), rt := fun _ => False } (startA N [.fr (.scr ns)]) (fun _ => False))
    (hall : keys.all (·.isSome) = true := by rfl) (hl : keys.length = values.length := by rfl) (h0 : keys ≠ [] := by intro z; cases z) (hk : keys.length ≤ 15 := by decide) : FnOk P w K mg base (CX P w) (k + 1) f fd ["script"] (spBegun T K n) := by
  refine F.ok S (fun vs H Q E h => ?_) (fun cdv A outer s H vs Q' E' hr h => ?_)
  · obtain ⟨a, ns, rfl, _⟩ := h
    rfl
  · obtain ⟨a, ns, rfl, hS, hlen, hT, kQ⟩ := h
    obtain ⟨b1, b2⟩ := hb cdv A outer s H E' hr
    have scN := scrF_nt (H := H) (a := a)
    have scS := scrF_sub (H := H) (a := a)
    have hx : Takes (cxOf (CX P w) P w K mg base N qual scope f cdv A outer s H E') (WD K (g0 T) (tk0 T) ⟨scrF H a, 0, 0⟩ H fun _ => False) := takes_never
    obtain ⟨trs, p1, p2⟩ := b2.pp (tk0 T) ⟨scrF H a, 0, 0⟩ H (fun _ => False) rfl hx
    have ok0 : (tk0 T).ok ⟨scrF H a, 0, 0⟩ H := ⟨hT, scrF_nt⟩
    have rep0 : RepSs K (g0 T) (tk0 T) ⟨scrF H a, 0, 0⟩ H [.fr (.scr ns)] [.ref a] := ⟨.ref a, [], rfl, (by
      show Rep K (g0 T) ⟨scrF H a, 0, 0⟩ (.scr ns) (.ref a)
      unfold Rep
      exact ⟨a, rfl, scrF_seq hS⟩), rfl⟩
    refine ⟨_, pss_cons (b1.ps (tk0 T) ⟨scrF H a, 0, 0⟩ H (fun _ => False) rfl hx) (pss_one (ps_ret (pe_disp p1 hall hl h0 hk))), ⟨scrF H a, 0, 0⟩, startA N [.fr (.scr ns)], _, 0, ab_start scS ok0 rep0 rfl (Nat.le_refl _) (Nat.zero_le _), hp ns hlen, ⟨?_, ?_, ?_, ?_⟩⟩
    · rintro σ H1 ⟨F1, α1, A1, q1⟩
      intro p hpn
      have hF : F1.m p = none := A1.sub.free hpn
      have st0 : Step (tk0 T) 0 F1 H1 F1 (upd H1 p (.dK [])) := Step.own hpn
      have nD : p ∉ (tk0 T).ad := Tk.out A1.ok hpn
      have sub0 : Same F1 (upd H1 p (.dK [])) := same_tape A1.sub hF
      have ok1 : (tk0 T).ok F1 (upd H1 p (.dK [])) := Tk.own A1.ok hpn _
      refine p2 F1 _ α1 σ _ _ (A1.step st0 sub0 ok1) q1 fun vs H2 F2 ss st2 sub2 ok2 reps hlen2 hs => ?_
      obtain ⟨L, Cc, lg, cl, g1, g2, td, fL, hL, fC⟩ := tape_vals no hs reps
      have e1 : H2 p = some (.dK []) := st2.kp p _ upd_same nD fun ps z => nomatch z
      have n1 : F2.m p = none := by
        cases z : F2.m p with
        | none => rfl
        | some o => exact absurd (fun ps z => nomatch z) (st2.nw p o z hF _ upd_same)
      have hks : ks.length ≤ 15 := by
        have := td.len
        rw [List.length_zip, hlen2] at this
        omega
      refine ⟨e1, ks.zip vs, zip_pairs, by rw [List.length_zip]; omega, ?_⟩
      have em : mergeK [] (ks.zip vs) = ks.zip vs := by
        rw [merge_new _ _ (by
          rw [List.map_nil, List.nil_append, show (ks.zip vs).map (fun x => x.1) = ks from List.map_fst_zip (by omega)]
          exact hnd), List.nil_append]
      rw [em]
      have nL : p ≠ L := fun z => by
        rw [z, hL] at e1
        cases e1
      refine kQ p _ ⟨L, Cc, F2, ⟨n1, fL, nL, ⟨cl, g2, fC⟩, ⟨_, upd_same, td⟩, ⟨lg, g1, by rw [upd_ne nL.symm]; exact hL⟩, tabs_upd ok2.1 e1 (fun z => z), ok2.2⟩, A1.st.fr.trans st2.fr, same_tape sub2 n1, by have a1 := A1.cap; have a2 := st2.tm; have a3 : F1.b + 0 ≤ 0 := a1; omega⟩
    · rintro v H1 ⟨_, _, _, _, _, _, _, z⟩
      exact z.elim
    · rintro σ H1 ⟨_, _, _, z⟩
      exact z.elim
    · rintro σ H1 ⟨_, _, _, z⟩
      exact z.elim
end
end DL

set_option Elab.async false
set_option linter.all false
set_option maxRecDepth 100000
set_option maxHeartbeats 4000000
namespace DL
open PySem PySem.Spec L2

/-! ### the law -/
def spLaw (T : List (Addr × Str)) (K : PySem.W.Frag) : Sp := fun vs H Q _ => ∃ (a : Addr) (ns : List Int), vs = [.ref a] ∧ SqL K H a (ns.map V.int) ∧ ns.length ≤ 63 ∧ (∀ z ∈ ns, Builtin.Int.intBits z ≤ 1048576) ∧ LamX.Tabs T H ∧ ∀ H', Q (.bl true) H'
/-- the law's classes' addresses, its tapes -/
def gOf (CA : Nat → Addr) (T : List (Addr × Str)) (n : TN) : Gv := ⟨CA, fun tk => ∃ d L Cc, tk = tkOf T n d L Cc⟩
theorem gOf_tape {CA : Nat → Addr} {T : List (Addr × Str)} {n : TN} : IsTape (gOf CA T n) T n := fun _ h => h
def LSa (g : Gv) (X : Cx) (κ : Nat) (t : DS) : TS := fun D' σ H => ∃ tk Fe He E, g.T tk ∧ Takes X (WD X.K g tk Fe He E) ∧ LS X.K g tk κ Fe He E t D' σ H
theorem QSs.psa {g : Gv} {X : Cx} {st : List Stmt} {t : DS} (h : QSs g X st t κ) : PSs X st (LSa g X κ t) := ⟨fun pins s σ H D I q => by
  obtain ⟨tk, Fe, He, E, hT, hx, q⟩ := q
  exact (h.ps tk Fe He E hT hx).run pins s σ H D I q⟩
section
variable {P : Program} {w : World} {K : PySem.W.Frag} {mg : Str → Option Value} {base : Heap} {x qual tp bg : Str} {params : Arguments} {scope : Scope} {dvs : List V} {kws : List (Str × V)} {f fB : Addr} {fd fdB : FuncData} {N : List Str} {k kB it : Nat}
theorem law_ok {CA : Nat → Addr} {T : List (Addr × Str)} {n : TN} {rest : List Stmt} {p1 p2 p3 p4 p5 : Pos} {t : DS} (F : FunD K x qual params (.Assign [.Name tp p1] (.Call (.Name bg p2) [.Name "script" p3] [] p4) p5 :: rest) scope dvs kws f fd) (S : FnScope N ["script"] scope)
    (hN : N[it]? = some tp) (h0 : N[0]? = some ("script" : Str)) (hi : locB scope tp = true) (hv : visB scope "script" = true) (hgb : scope.names.lookup bg = some .globalImplicit) (hdb : (bg == ("__debug__" : Str)) = false)
    (B : FnOk P w K mg base (CX P w) kB fB fdB ["script"] (spBegun T K n)) (mB : mg bg = some (.ref fB)) (kpB : PySem.W.keepIn K (.ref fB) = true) (bB : Binds K fdB ["script"] []) (hkB : kB ≤ k)
    (hs : ∀ env : Env, swapsWith (.Call (.Name bg p2) [.Name "script" p3] [] p4) (some (.Name tp p1)) p5.line env = pure false)
    (hb : ∀ (cdv : Value) (A : Around) (outer : List Env) (s : Shared) (H : Hp) (E : XK), Room k (A.deeper (PyProof.Rows.envOfC qual scope s.heap.objs.size f cdv)) → QSs (gOf CA T n) (cxOf (CX P w) P w K mg base N qual scope f cdv A outer s H E) rest t κ) (hκ : κ ≤ tLim)
    (hp : ∀ ns : List Int, ns.length ≤ 63 → (∀ z ∈ ns, Builtin.Int.intBits z ≤ 1048576) → t { nx := fun _ => False, rt := fun s => s = .fr (.bl true) } ((startA N [.fr (.scr ns)]).set it (some .tk)) (fun _ => False)) :
    FnOk P w K mg base (CX P w) (k + 1) f fd ["script"] (spLaw T K) := by
  refine F.ok S (fun vs H Q E h => ?_) (fun cdv A outer s H vs Q' E' hr h => ?_)
  · obtain ⟨a, ns, rfl, _⟩ := h
    rfl
  · obtain ⟨a, ns, rfl, hS, hlen, hbits, hT, kQ⟩ := h
    have b1 := hb cdv A outer s H E' hr
    have sv : Vis scope "script" := vis_of hv
    refine ⟨_, pss_cons (ps_set (i := it) S.nd hN (loc_of hi) (pe_call B (hr.mono hkB) hgb mB kpB bB .nil (passes_call (E := fun _ _ _ => False) LamX.takes0 (fun _ _ _ _ z => z)) (pa_cons (pe_var (i := 0) h0 sv) pa_nil) hdb rfl rfl) (hs _) (.inl rfl)) b1.psa, ?_⟩
    refine ⟨.ref a, rfl, a, ns, rfl, hS, hlen, hT, fun d H' hn => ?_⟩
    obtain ⟨L, Cc, F', ok, s1, s2, b0⟩ := hn
    have ok : (tkOf T n d L Cc).ok ⟨F'.m, F'.b, F'.b + κ⟩ H' := Tk.recap (tk := tkOf T n d L Cc) ok _
    have rep0 : RepSs K (gOf CA T n) (tkOf T n d L Cc) ⟨F'.m, F'.b, F'.b + κ⟩ H' [.fr (.scr ns)] [.ref a] := ⟨.ref a, [], rfl, (by
      show Rep K (gOf CA T n) ⟨F'.m, F'.b, F'.b + κ⟩ (.scr ns) (.ref a)
      unfold Rep
      exact ⟨a, rfl, s1.seq (scrF_seq hS)⟩), rfl⟩
    have A0 : Ab K (gOf CA T n) (tkOf T n d L Cc) κ ⟨F'.m, F'.b, F'.b + κ⟩ H' ⟨F'.m, F'.b, F'.b + κ⟩ H' (startA N [.fr (.scr ns)]) (L2.start N [.ref a]) := ab_start s2 ok rep0 rfl (Nat.le_refl _) (by show F'.b + κ ≤ tLim; omega)
    have A1 : Ab K (gOf CA T n) (tkOf T n d L Cc) (κ + 0) ⟨F'.m, F'.b, F'.b + κ⟩ H' ⟨F'.m, F'.b, F'.b + κ⟩ H' ((startA N [.fr (.scr ns)]).set it (some .tk)) ((L2.start N [.ref a]).set it (some (.ref d))) := A0.set' (κ1 := 0) it (Step.refl _ _ _) s2 ok (r := .tk) (v := .ref d) rfl (fun d p z => nomatch z) fun d z => nomatch z
    refine ⟨tkOf T n d L Cc, ⟨F'.m, F'.b, F'.b + κ⟩, H', fun _ => False, ⟨d, L, Cc, rfl⟩, takes_never, ⟨F'.m, F'.b, F'.b + κ⟩, _, _, 0, A1, hp ns hlen hbits, ⟨?_, ?_, ?_, ?_⟩⟩
    · rintro σ H1 ⟨_, _, _, z⟩
      exact z.elim
    · rintro v H1 ⟨F2, r, st2, sub2, ok2, rep2, _, z⟩
      subst z
      have e : v = .bl true := Rep.bl_ (K := K) (g := gOf CA T n) (F := F2) rep2
      rw [e]
      exact kQ H1
    · rintro σ H1 ⟨_, _, _, z⟩
      exact z.elim
    · rintro σ H1 ⟨_, _, _, z⟩
      exact z.elim
end
end DL

set_option Elab.async false
set_option linter.all false
set_option maxRecDepth 100000
set_option maxHeartbeats 4000000
/-! the head's facts of own classes: tests, what they tell; the Hook with own __init__s. -/
namespace DLH
open PySem PySem.Spec L2 DL
theorem ba2 {a b : Bool} (h : (a && b) = true) : a = true ∧ b = true := Bool.and_eq_true_iff.mp h
/-! ### own __init__s -/
structure IniD where
  at_ : Str × Option Str
  params : Arguments
  body : List Stmt
  scope : Scope
abbrev FnY : Type := Option (Arguments × FuncBody × Scope × Addr × Addr × Value × Value)
def fnY (K : PySem.W.Frag) (p : Str × Option Str) : FnY := match K.lookup (He.fAd K p) with
  | some ⟨_, _, .func fd, _⟩ => some (fd.params, fd.body, fd.scope, fd.globals, fd.builtins, fd.defaults, .none)
  | _ => none
def IniD.val (d : IniD) : FnY := some (d.params, .stmts d.body, d.scope, mainGlobals, builtinsNs, .none, .none)
abbrev AlY : Type := He.AlX × List FnY
/-- what the module's names reach, and the machine's statics -/
def asY (g : Addr → Option Obj) (n : Nat) : List Addr := cStatics :: He.asD g n
def kY (g : Addr → Option Obj) (n : Nat) : PySem.W.Frag := He.frT g (asY g n)
def obsY (n : Nat) (fa : List He.Fa) (fn : List He.DefD) (tf : List He.Defn) (ex : PySem.W.Frag → Bool) (ini : List IniD) (g : Addr → Option Obj) : AlY := ((He.obsT fa fn [] (kY g n), ex (kY g n) && He.tabsB g tf (kY g n)), ini.map fun d => fnY (kY g n) d.at_)
def valY (fn : List He.DefD) (ini : List IniD) (w : World) : AlY := (He.valX fn [] w, ini.map IniD.val)
theorem saysX_at {n : Nat} {fa : List He.Fa} {fn : List He.DefD} {tf : List He.Defn} {ex : PySem.W.Frag → Bool} {w : World} {h : Heap} (e : (He.obsT fa fn [] (kY h.get? n), ex (kY h.get? n) && He.tabsB h.get? tf (kY h.get? n)) = He.valX fn [] w) : He.SaysX fa fn [] tf ex w h (kY h.get? n) := by
  have e1 : He.obsT fa fn [] (kY h.get? n) = He.valT fn [] w := congrArg (fun z : He.AlX => z.1) e
  have e2 : (ex (kY h.get? n) && He.tabsB h.get? tf (kY h.get? n)) = true := congrArg (fun z : He.AlX => z.2) e
  obtain ⟨h1, h2⟩ := ba2 e2
  have key : ∀ p ∈ tf, PySem.W.codeHdIn (kY h.get? n) (He.cT (kY h.get? n) p).1 (He.cT (kY h.get? n) p).2 = true ∧ ∃ o, h.get? (He.cT (kY h.get? n) p).2 = some o ∧ He.emptyTab o = true := fun p hp => by
    obtain ⟨h3, h4⟩ := ba2 (List.all_eq_true.mp h2 p hp)
    refine ⟨h3, ?_⟩
    cases q : h.get? (He.cT (kY h.get? n) p).2 with
    | none =>
      rw [q] at h4
      cases h4
    | some o =>
      rw [q] at h4
      exact ⟨o, rfl, h4⟩
  exact ⟨e1, h1, fun p hp => (key p hp).1, fun p hp => by
    obtain ⟨_, o, q, z⟩ := key p hp
    exact He.frT_none q z, fun p hp => by
    obtain ⟨_, o, q, z⟩ := key p hp
    rw [q, He.emptyTab_eq z]⟩
structure SaysY (fa : List He.Fa) (fn : List He.DefD) (tf : List He.Defn) (ex : PySem.W.Frag → Bool) (ini : List IniD) (w : World) (h : Heap) (K : PySem.W.Frag) : Prop where
  x : He.SaysX fa fn [] tf ex w h K
  i : ini.map (fun d => fnY K d.at_) = ini.map IniD.val
def hookY (n : Nat) (fa : List He.Fa) (fn : List He.DefD) (tf : List He.Defn) (ex : PySem.W.Frag → Bool) (ini : List IniD) : PySem.W.Hook where
  α := AlY
  obs := fun s => obsY n fa fn tf ex ini s.heap.get?
  val := fun w => valY fn ini w
  says := fun w h => ∃ K : PySem.W.Frag, K.In h ∧ SaysY fa fn tf ex ini w h K
  of := fun _ _ e => ⟨_, He.frT_in, saysX_at (congrArg (fun z : AlY => z.1) e), congrArg (fun z : AlY => z.2) e⟩
  keeps := fun _ _ _ ⟨K, hK, c⟩ k => ⟨K, PySem.W.Frag.In.keeps hK k, ⟨c.x.t, c.x.more, c.x.hd, c.x.out, fun p hp => k _ _ (c.x.empty p hp)⟩, c.i⟩
theorem obsY_eq {n : Nat} {fa : List He.Fa} {fn : List He.DefD} {tf : List He.Defn} {ex : PySem.W.Frag → Bool} {ini : List IniD} {g : Addr → Option Obj} {s : Shared} (h : ∀ a, g a = s.heap.get? a) : obsY n fa fn tf ex ini g = (hookY n fa fn tf ex ini).obs s := by
  have e : g = s.heap.get? := funext h
  rw [e] <;> rfl
theorem SaysY.ini {fa : List He.Fa} {fn : List He.DefD} {tf : List He.Defn} {ex : PySem.W.Frag → Bool} {ini : List IniD} {w : World} {h : Heap} {K : PySem.W.Frag} (c : SaysY fa fn tf ex ini w h K) {d : IniD} (hd : d ∈ ini) : fnY K d.at_ = d.val := by
  obtain ⟨i, hi, e⟩ := List.mem_iff_getElem.mp hd
  have z := congrArg (fun l => l[i]?) c.i
  simp only [List.getElem?_map, List.getElem?_eq_getElem hi, Option.map_some, e] at z
  exact Option.some.inj z
/-! ### tests -/
def excCB (K : PySem.W.Frag) (C : Addr) : Bool := He.eqO (PySem.W.findIn K (.ref C) "__getattribute__") (some (some (.builtin "BaseException.__getattribute__"))) && (He.eqO (PySem.W.findIn K (.ref C) "__getattr__") (some none) && (decide (PySem.W.subIn K (.ref C) (.type "BaseException") = some true) && (PySem.W.hasDictIn K C && (He.eqO (PySem.W.findIn K (.ref C) "__class__") (some (some (.builtin "object.__class__"))) &&
  (He.eqO (PySem.W.specialIn K (.builtin "object.__class__") "__get__") (some (some (.builtin "getset_descriptor.__get__"))) && (decide (PySem.W.takesIn K (.builtin "object.__class__") = some true) && decide (PySem.W.mroIn K C (.type "object") = some true)))))))
theorem excC_of {K : PySem.W.Frag} {C : Addr} (h : excCB K C = true) : ExcC K C := by
  obtain ⟨h1, h⟩ := ba2 h
  obtain ⟨h2, h⟩ := ba2 h
  obtain ⟨h3, h⟩ := ba2 h
  obtain ⟨h4, h⟩ := ba2 h
  obtain ⟨h5, h⟩ := ba2 h
  obtain ⟨h6, h⟩ := ba2 h
  obtain ⟨h7, h8⟩ := ba2 h
  exact ⟨He.eqO_ok h1, He.eqO_ok h2, of_decide_eq_true h3, h4, He.eqO_ok h5, He.eqO_ok h6, of_decide_eq_true h7, of_decide_eq_true h8⟩
def insCB (K : PySem.W.Frag) (C : Addr) : Bool := PySem.W.plainGet K C Str.empty && (PySem.W.hasDictIn K C && (PySem.W.plainOver K C && (He.eqO (PySem.W.findIn K (.ref C) "__setattr__") (some (some (.builtin "object.__setattr__"))) && (He.eqO (PySem.W.findIn K (.ref C) "__class__") (some (some (.builtin "object.__class__"))) &&
  (He.eqO (PySem.W.specialIn K (.builtin "object.__class__") "__get__") (some (some (.builtin "getset_descriptor.__get__"))) && (decide (PySem.W.takesIn K (.builtin "object.__class__") = some true) && decide (PySem.W.mroIn K C (.type "object") = some true)))))))
theorem insC_of {K : PySem.W.Frag} {C : Addr} (h : insCB K C = true) : Cls K C ∧ PySem.W.findIn K (.ref C) "__class__" = some (some (.builtin "object.__class__")) ∧ PySem.W.specialIn K (.builtin "object.__class__") "__get__" = some (some (.builtin "getset_descriptor.__get__")) ∧
    PySem.W.takesIn K (.builtin "object.__class__") = some true ∧ PySem.W.mroIn K C (.type "object") = some true := by
  obtain ⟨h1, h⟩ := ba2 h
  obtain ⟨h2, h⟩ := ba2 h
  obtain ⟨h3, h⟩ := ba2 h
  obtain ⟨h4, h⟩ := ba2 h
  obtain ⟨h5, h⟩ := ba2 h
  obtain ⟨h6, h⟩ := ba2 h
  obtain ⟨h7, h8⟩ := ba2 h
  exact ⟨⟨h1, h2, h3, He.eqO_ok h4⟩, He.eqO_ok h5, He.eqO_ok h6, of_decide_eq_true h7, of_decide_eq_true h8⟩
def kindsB (K : PySem.W.Frag) (CA : Nat → Addr) (n : Nat) (sub : Nat → Nat → Bool) (ex : Nat → Bool) : Bool := (List.range n).all fun a =>
  ((List.range n).all fun b => decide (PySem.W.kitOne K (.ref (CA a)) (.ref (CA b)) = some (sub a b))) && ((tyN.all fun T => decide (PySem.W.kitOne K (.ref (CA a)) (.type T) = some false) && decide (PySem.W.kitOne K (.type T) (.ref (CA a)) = some false)) && (if ex a = true then excCB K (CA a) else insCB K (CA a)))
theorem kinds_of {K : PySem.W.Frag} {g : Gv} {n : Nat} {sub : Nat → Nat → Bool} {ex : Nat → Bool} (h : kindsB K g.CA n sub ex = true) : Kinds K g n sub ex := by
  have at_ : ∀ a, a < n → (((List.range n).all fun b => decide (PySem.W.kitOne K (.ref (g.CA a)) (.ref (g.CA b)) = some (sub a b))) = true ∧ (tyN.all fun T => decide (PySem.W.kitOne K (.ref (g.CA a)) (.type T) = some false) && decide (PySem.W.kitOne K (.type T) (.ref (g.CA a)) = some false)) = true ∧ (if ex a = true then excCB K (g.CA a) else insCB K (g.CA a)) = true) := fun a ha => by
    have z := List.all_eq_true.mp h a (List.mem_range.mpr ha)
    obtain ⟨z1, z⟩ := ba2 z
    obtain ⟨z2, z3⟩ := ba2 z
    exact ⟨z1, z2, z3⟩
  refine ⟨fun a b ha hb => of_decide_eq_true (List.all_eq_true.mp (at_ a ha).1 b (List.mem_range.mpr hb)), fun a ha T hT => of_decide_eq_true (ba2 (List.all_eq_true.mp (at_ a ha).2.1 T hT)).1, fun T hT b hb => of_decide_eq_true (ba2 (List.all_eq_true.mp (at_ b hb).2.1 T hT)).2, fun a ha e => ?_, fun a ha e => ?_⟩
  · have z := (at_ a ha).2.2
    rw [if_pos e] at z
    exact excC_of z
  · have z := (at_ a ha).2.2
    rw [if_neg (by rw [e]; exact Bool.false_ne_true)] at z
    exact insC_of z
def excRB (K : PySem.W.Frag) (C : Addr) : Bool := PySem.W.excIn K C veB "ValueError.__new__" && (PySem.W.keepIn K (.ref C) && (decide (PySem.W.subIn K (.ref C) (.type "BaseException") = some true) && decide (PySem.W.typeIn K (.ref C) = some (.type "type"))))
theorem excR_of {K : PySem.W.Frag} {C : Addr} (h : excRB K C = true) : ExcR K C := by
  obtain ⟨h1, h⟩ := ba2 h
  obtain ⟨h2, h⟩ := ba2 h
  obtain ⟨h3, h4⟩ := ba2 h
  exact ⟨h1, h2, of_decide_eq_true h3, of_decide_eq_true h4⟩
def oexB (K : PySem.W.Frag) (C : Addr) : Bool := (match K.lookup C with
  | some ⟨.type t, _, .cls cd, sl⟩ => decide (t = "type") && (match cd.mro, sl.toList with
    | .ref C' :: bm, [_, _, _, _, some (.builtin nw), _] => decide (C' = C) && (decide (nw = "ValueError.__new__") && (!cd.hasDel && (cd.hasDict && PySem.HandSPX.refsVE bm)))
    | _, _ => false)
  | _ => false) && (He.eqO (PySem.W.findIn K (.ref C) "__setattr__") (some (some (.builtin "object.__setattr__"))) && (decide (PySem.W.subIn K (.ref C) (.type "BaseException") = some true) && (decide (PySem.W.typeIn K (.ref C) = some (.type "type")) && PySem.W.keepIn K (.ref C))))
theorem oexC_of {K : PySem.W.Frag} {C : Addr} (h : oexB K C = true) : OexC K C := by
  unfold oexB at h
  obtain ⟨h1, h⟩ := ba2 h
  obtain ⟨h2, h⟩ := ba2 h
  obtain ⟨h3, h⟩ := ba2 h
  obtain ⟨h4, h5⟩ := ba2 h
  refine ⟨?_, He.eqO_ok h2, of_decide_eq_true h3, of_decide_eq_true h4, h5⟩
  split at h1
  · rename_i t dd cd sl ho
    obtain ⟨e1, h6⟩ := ba2 h1
    clear h1
    have e1 := of_decide_eq_true e1
    subst e1
    split at h6
    · rename_i C' bm k0 k1 k2 k3 nw k5 hm hs
      obtain ⟨a1, h7⟩ := ba2 h6
      obtain ⟨a2, h8⟩ := ba2 h7
      obtain ⟨a3, h9⟩ := ba2 h8
      obtain ⟨a4, a5⟩ := ba2 h9
      have a1 := of_decide_eq_true a1
      have a2 := of_decide_eq_true a2
      subst a1 a2
      obtain ⟨nm, bs, mro, ns, qn, hd, sn, sub, ab, col, del⟩ := cd
      dsimp only at hm a3 a4
      subst hm a4
      have a3' : del = false := by simpa using a3
      subst a3'
      have hsl : sl = #[k0, k1, k2, k3, some (.builtin "ValueError.__new__"), k5] := by
        obtain ⟨l⟩ := sl
        simp only at hs
        rw [hs]
      subst hsl
      exact ⟨nm, qn, ns, bs, bm, sn, sub, ab, col, dd, k0, k1, k2, k3, k5, ho, a5⟩
    · cases h6
  · cases h1
def iniCB (K : PySem.W.Frag) (D0 : Addr) (f : Str) (C f0 : Addr) : Bool := oexB K C && ((match K.lookup D0 with
  | some ⟨_, _, .cls _, _⟩ => true
  | _ => false) && (decide (PySem.W.subIn K (.ref C) (.ref D0) = some true) && (He.eqO (PySem.W.ks_superIn K C D0 "__init__") (some (some (.builtin "ValueError.__init__"))) && (decide (PySem.W.subIn K (.ref C) (.type "ValueError") = some true) && (He.eqO (PySem.W.nsIn K cStatics "thirdparty.any") (some none) && (He.eqO (PySem.W.findIn K (.ref C) f) (some none) &&
  (He.eqO (PySem.W.findIn K (.ref C) "__init__") (some (some (.ref f0))) && decide (PySem.W.typeIn K (.ref f0) = some (.type "function")))))))))
theorem iniC_of {K : PySem.W.Frag} {D0 C f0 : Addr} {f : Str} (h : iniCB K D0 f C f0 = true) : IniC K D0 f C ∧ PySem.W.findIn K (.ref C) "__init__" = some (some (.ref f0)) ∧ PySem.W.typeIn K (.ref f0) = some (.type "function") := by
  obtain ⟨h1, h⟩ := ba2 h
  obtain ⟨h2, h⟩ := ba2 h
  obtain ⟨h3, h⟩ := ba2 h
  obtain ⟨h4, h⟩ := ba2 h
  obtain ⟨h5, h⟩ := ba2 h
  obtain ⟨h6, h⟩ := ba2 h
  obtain ⟨h7, h⟩ := ba2 h
  obtain ⟨h8, h9⟩ := ba2 h
  refine ⟨⟨oexC_of h1, ?_, of_decide_eq_true h3, He.eqO_ok h4, of_decide_eq_true h5, He.eqO_ok h6, He.eqO_ok h7⟩, He.eqO_ok h8, of_decide_eq_true h9⟩
  split at h2
  · rename_i c d cd sl e
    exact ⟨_, cd, e, rfl⟩
  · cases h2
/-- what is asked of the function of such an __init__, beside its text -/
def iniFB (P : Program) (K : PySem.W.Frag) (D0 f0 : Addr) : Bool := match K.lookup f0 with
  | some ⟨_, _, .func fd, _⟩ => (match fd.closure with
    | [(x, cc)] => decide (x = "__class__") && (match K.lookup cc with
      | some ⟨_, _, .cell (some (.ref d)), _⟩ => decide (d = D0)
      | _ => false)
    | _ => false) && (PySem.W.codeIn K fd.code fd.qualname && (match fd.code with
    | .ref cv => (match K.lookup cv with
      | some ⟨_, _, .fields vs, _⟩ => (match (vs[2]? : Option Value) with
        | some (.str fl _) => (P.main.file : Str) == fl
        | _ => false)
      | _ => false)
    | _ => false))
  | _ => false
theorem iniF_of {P : Program} {K : PySem.W.Frag} {D0 : Addr} {f : Str} {d : IniD} (h : iniFB P K D0 (He.fAd K d.at_) = true) (e : fnY K d.at_ = d.val) (kind : d.scope.kind = .function) (co : d.scope.isCoroutine = false) (gen : d.scope.isGenerator = false) (ncell : ∀ y ∈ d.scope.names, y.2 ≠ .cell)
    (nfree : ∀ y ∈ d.scope.names, y.2 = .free → y.1 = ("__class__" : Str)) (self : d.scope.names.lookup ("self" : Str) = some .local) (fld : d.scope.names.lookup f = some .local) (sup : d.scope.names.lookup ("super" : Str) = some .globalImplicit) (cls : d.scope.names.lookup ("__class__" : Str) = some .free)
    (head : ∃ ar, (d.params.posonlyargs ++ d.params.args).head? = some ar ∧ ar.arg = ("self" : Str)) (top : (P.main.scope.names.lookup ("super" : Str)).isSome = false) :
    ∃ (oc : Value) (od : Option Addr) (osl : Array (Option Value)) (fd : FuncData), K.lookup (He.fAd K d.at_) = some ⟨oc, od, .func fd, osl⟩ ∧ fd.params = d.params ∧ fd.defaults = .none ∧ IniFd P K D0 f d.body fd := by
  unfold iniFB at h
  unfold fnY at e
  split at h
  · rename_i oc od fd osl lk
    rw [lk] at e
    have e2 : (some (fd.params, fd.body, fd.scope, fd.globals, fd.builtins, fd.defaults, Value.none) : FnY) = some (d.params, .stmts d.body, d.scope, mainGlobals, builtinsNs, .none, .none) := e
    simp only [Option.some.injEq, Prod.mk.injEq] at e2
    obtain ⟨e1, e2, e3, e4, e5, e6, _⟩ := e2
    obtain ⟨h1, h⟩ := ba2 h
    obtain ⟨h2, h3⟩ := ba2 h
    refine ⟨oc, od, osl, fd, lk, e1, e6, e2, by rw [e3]; exact kind, by rw [e3]; exact co, by rw [e3]; exact gen, by rw [e3]; exact ncell, by rw [e3]; exact nfree, by rw [e3]; exact self, by rw [e3]; exact fld, by rw [e3]; exact sup, by rw [e3]; exact cls, e4, e5, ?_, h2, ?_, by rw [e1]; exact head, top⟩
    · split at h1
      · rename_i x cc hc
        obtain ⟨a1, a2⟩ := ba2 h1
        have a1 := of_decide_eq_true a1
        subst a1
        split at a2
        · rename_i c' d' dd sl' ho
          have a2 := of_decide_eq_true a2
          subst a2
          exact ⟨cc, _, hc, ho, rfl⟩
        · cases a2
      · cases h1
    · split at h3
      · rename_i cv hcv
        split at h3
        · rename_i c' d' vs sl' ho
          split at h3
          · rename_i fl tf hv
            exact ⟨cv, _, vs, fl, tf, hcv, ho, rfl, hv, h3⟩
          · cases h3
        · cases h3
      · cases h3
  · cases h
theorem all_of {n : Nat} {ok p : Nat → Bool} (h : ((List.range n).all fun c => !ok c || p c) = true) (out : ∀ c, n ≤ c → ok c = false) (c : Nat) (hc : ok c = true) : p c = true := by
  cases Nat.lt_or_ge c n with
  | inl hl =>
    have z := List.all_eq_true.mp h c (List.mem_range.mpr hl)
    rw [hc] at z
    exact z
  | inr hg =>
    rw [out c hg] at hc
    cases hc
theorem getD_out (l : List Bool) (c : Nat) (h : l.length ≤ c) : l.getD c false = false := by
  rw [List.getD_eq_getElem?_getD, List.getElem?_eq_none h]
  rfl
theorem tabs_new {T : List (Addr × Str)} {H : Hp} (h : ∀ p ∈ T, H p.1 = some (.tbl #[])) : LamX.Tabs T H := fun p hp => LamX.TabS.nil (h p hp)
end DLH

set_option Elab.async false
set_option linter.all false
set_option maxRecDepth 100000
set_option maxHeartbeats 4000000
namespace DL
open PySem PySem.Spec L2

/-! ### equations for the plain part -/
section
variable {d e : D} {i j : Int} {b c : Bool} {Q : S → Prop} {ds es : List D} {n : Nat} {x y : Str}
theorem e1 : S.view (.fr d) = d := rfl
theorem e2 : S.view (.nw d) = d := rfl
theorem e3 : S.view (.bw d) = d := rfl
theorem e4 : S.fz (.fr d) = .fr d := rfl
theorem e5 : S.fz (.nw d) = .fr d := rfl
theorem e6 : S.fz (.bw d) = .bw d := rfl
theorem e7 : S.fz .tk = .tk := rfl
theorem e8 : S.look (.fr d) = .fr d := rfl
theorem e9 : S.look (.nw d) = .bw d := rfl
theorem e10 : S.look .tk = .tk := rfl
theorem e11 : S.plain (.fr d) = true := rfl
theorem e12 : S.plain (.bw d) = true := rfl
theorem e13 : S.arg (.fr d) = true := rfl
theorem e14 : S.arg .tk = true := rfl
theorem a1 : fAdd (.int i) (.int j) Q = Q (.fr (.int (i + j))) := rfl
theorem a2 : fSub (.int i) (.int j) Q = Q (.fr (.int (i - j))) := rfl
theorem a3 : fMul (.int i) (.int j) Q = (MulOk i j ∧ Q (.fr (.int (i * j)))) := rfl
theorem a4 : fDiv (.int i) (.int j) Q = (DivOk i j ∧ Q (.fr (.int (i / j)))) := rfl
theorem a5 : fMod (.int i) (.int j) Q = (0 < j ∧ Q (.fr (.int (i % j)))) := rfl
theorem a6 : fPow (.int i) (.int j) Q = (PowOk i j ∧ Q (.fr (.int (i ^ j.toNat)))) := rfl
theorem a7 : fNeg (.int i) Q = Q (.fr (.int (-i))) := rfl
theorem a8 : fLt (.int i) (.int j) Q = Q (.fr (.bl (decide (i < j)))) := rfl
theorem a9 : fLe (.int i) (.int j) Q = Q (.fr (.bl (decide (i ≤ j)))) := rfl
theorem a10 : fGt (.int i) (.int j) Q = Q (.fr (.bl (decide (j < i)))) := rfl
theorem a11 : fGe (.int i) (.int j) Q = Q (.fr (.bl (decide (j ≤ i)))) := rfl
theorem t1 : D.truth (.bl b) = some b := rfl
theorem t2 : D.truth (.int i) = some (i != 0) := rfl
theorem t3 : D.truth .non = some false := rfl
theorem x1 : fIx (.tup ds) (.int i) Q = ∃ d, atI ds i = some d ∧ Q (.fr d) := rfl
theorem x2 : fIx (.lst ds) (.int i) Q = ∃ d, atI ds i = some d ∧ Q (.fr d) := rfl
theorem x3 {a : D} : atI (a :: ds) 0 = some a := by unfold atI ixN; simp
theorem x4 {a c : D} : atI (a :: c :: ds) 1 = some c := by
  have h : (1 : Int) < ds.length + 1 + 1 := by omega
  unfold atI ixN
  simp [h]
theorem x5 : fLen (.tup ds) Q = Q (.fr (.int ds.length)) := rfl
theorem x6 : fLen (.lst ds) Q = Q (.fr (.int ds.length)) := rfl
theorem x7 {ns : List Int} : fLen (.scr ns) Q = Q (.fr (.int ns.length)) := rfl
theorem x8 : fAbs (.int i) Q = Q (.fr (.int (if i < 0 then -i else i))) := rfl
theorem x9 : fInt (.int i) Q = Q (.fr (.int i)) := rfl
theorem x10 : fMin2 (.int i) (.int j) Q = Q (.fr (.int (if j < i then j else i))) := rfl
theorem x11 : fTuple (.lst ds) Q = Q (.fr (.tup ds)) := rfl
theorem x12 : fTuple (.tup ds) Q = Q (.fr (.tup ds)) := rfl
theorem y1 {s : S} {f : F1} : one f [s] Q = f s.view Q := rfl
theorem y2 {s t : S} {f : F2} : two f [s, t] Q = f s.view t.view Q := rfl
theorem eq_ii : fEq (.int i) (.int j) Q ↔ Q (.fr (.bl (decide (i = j)))) := by
  unfold fEq
  have h : PyData.eqv (D.int i).py (D.int j).py = decide (i = j) := by
    simp [D.py, PyData.eqv]
    rfl
  constructor
  · rintro ⟨_, _, q⟩
    rw [h] at q
    exact q
  · intro q
    refine ⟨⟨rfl, rfl⟩, ⟨rfl, rfl⟩, ?_⟩
    rw [h]
    exact q
theorem ne_ii : fNe (.int i) (.int j) Q ↔ Q (.fr (.bl (decide (i ≠ j)))) := by
  unfold fNe
  have h : (!PyData.eqv (D.int i).py (D.int j).py) = decide (i ≠ j) := by
    simp [D.py, PyData.eqv]
    rfl
  constructor
  · rintro ⟨_, _, q⟩
    rw [h] at q
    exact q
  · intro q
    refine ⟨⟨rfl, rfl⟩, ⟨rfl, rfl⟩, ?_⟩
    rw [h]
    exact q
theorem k1 : D.low n (.int i) ↔ True := Iff.rfl
theorem k2 : D.low n (.bl b) ↔ True := Iff.rfl
theorem k3 : D.low n (.tup ds) ↔ True := Iff.rfl
theorem k4 : D.low n (.lst ds) ↔ True := Iff.rfl
theorem k5 : D.low n .non ↔ True := Iff.rfl
theorem k6 : D.low n (.str x) ↔ True := Iff.rfl
theorem z0 : isT "int" (.int i) = some true := by first | rfl | (unfold isT D.ty; decide +kernel)
theorem z1 : isT "int" (.bl b) = some true := by first | rfl | (unfold isT D.ty; decide +kernel)
theorem z2 : isT "int" (.str x) = some false := by first | rfl | (unfold isT D.ty; decide +kernel)
theorem z3 : isT "int" (.tup ds) = some false := by first | rfl | (unfold isT D.ty; decide +kernel)
theorem z4 : isT "int" (.lst ds) = some false := by first | rfl | (unfold isT D.ty; decide +kernel)
theorem z5 : isT "int" .non = some false := by first | rfl | (unfold isT D.ty; decide +kernel)
theorem z6 : isT "bool" (.int i) = some false := by first | rfl | (unfold isT D.ty; decide +kernel)
theorem z7 : isT "bool" (.bl b) = some true := by first | rfl | (unfold isT D.ty; decide +kernel)
theorem z8 : isT "bool" (.str x) = some false := by first | rfl | (unfold isT D.ty; decide +kernel)
theorem z9 : isT "bool" (.tup ds) = some false := by first | rfl | (unfold isT D.ty; decide +kernel)
theorem z10 : isT "bool" (.lst ds) = some false := by first | rfl | (unfold isT D.ty; decide +kernel)
theorem z11 : isT "bool" .non = some false := by first | rfl | (unfold isT D.ty; decide +kernel)
theorem z12 : isT "str" (.int i) = some false := by first | rfl | (unfold isT D.ty; decide +kernel)
theorem z13 : isT "str" (.bl b) = some false := by first | rfl | (unfold isT D.ty; decide +kernel)
theorem z14 : isT "str" (.str x) = some true := by first | rfl | (unfold isT D.ty; decide +kernel)
theorem z15 : isT "str" (.tup ds) = some false := by first | rfl | (unfold isT D.ty; decide +kernel)
theorem z16 : isT "str" (.lst ds) = some false := by first | rfl | (unfold isT D.ty; decide +kernel)
theorem z17 : isT "str" .non = some false := by first | rfl | (unfold isT D.ty; decide +kernel)
theorem z18 : isT "tuple" (.int i) = some false := by first | rfl | (unfold isT D.ty; decide +kernel)
theorem z19 : isT "tuple" (.bl b) = some false := by first | rfl | (unfold isT D.ty; decide +kernel)
theorem z20 : isT "tuple" (.str x) = some false := by first | rfl | (unfold isT D.ty; decide +kernel)
theorem z21 : isT "tuple" (.tup ds) = some true := by first | rfl | (unfold isT D.ty; decide +kernel)
theorem z22 : isT "tuple" (.lst ds) = some false := by first | rfl | (unfold isT D.ty; decide +kernel)
theorem z23 : isT "tuple" .non = some false := by first | rfl | (unfold isT D.ty; decide +kernel)
theorem z24 : isT "list" (.int i) = some false := by first | rfl | (unfold isT D.ty; decide +kernel)
theorem z25 : isT "list" (.bl b) = some false := by first | rfl | (unfold isT D.ty; decide +kernel)
theorem z26 : isT "list" (.str x) = some false := by first | rfl | (unfold isT D.ty; decide +kernel)
theorem z27 : isT "list" (.tup ds) = some false := by first | rfl | (unfold isT D.ty; decide +kernel)
theorem z28 : isT "list" (.lst ds) = some true := by first | rfl | (unfold isT D.ty; decide +kernel)
theorem z29 : isT "list" .non = some false := by first | rfl | (unfold isT D.ty; decide +kernel)
theorem ic1 {sub : Nat → Nat → Bool} {a c : Nat} {ns : List Str} : isC sub c (.exc a ns ds) = some (sub a c) := rfl
theorem ic2 {sub : Nat → Nat → Bool} {c : Nat} : isC sub c .non = some false := rfl
end
theorem lc_of {tg : DG} {tt : DT} {te : DE} {Q : List D → Prop} {α : AE} (f : D → Option D) : ∀ (ds acc : List D),
    (∀ d ∈ ds, ∀ (P : D → Prop) (k0 : Prop), (match f d with | some m => P m | none => k0) → tg d α (fun α' => tt α' (fun b => if b = true then te α' (fun r => ∃ x, r.fz = .fr x ∧ P x) (fun _ => False) else k0) (fun _ => False))) →
    acc.length + ds.length ≤ sizeLine → Q (acc ++ ds.filterMap f) → lcD tg tt te Q α ds acc
  | [], acc, _, _, q => by
    unfold lcD
    rw [List.filterMap_nil, List.append_nil] at q
    exact q
  | d :: ds, acc, H, hl, q => by
    unfold lcD
    rw [List.length_cons] at hl
    refine H d List.mem_cons_self (fun x => acc.length < sizeLine ∧ lcD tg tt te Q α ds (acc ++ [x])) (lcD tg tt te Q α ds acc) ?_
    cases e : f d with
    | none => exact lc_of f ds acc (fun d' h' => H d' (List.mem_cons_of_mem _ h')) (by omega) (by rw [List.filterMap_cons_none e] at q; exact q)
    | some m => exact ⟨by omega, lc_of f ds (acc ++ [m]) (fun d' h' => H d' (List.mem_cons_of_mem _ h')) (by rw [List.length_append, List.length_singleton]; omega) (by rw [List.filterMap_cons_some e] at q; rw [List.append_assoc]; exact q)⟩
theorem lc_map {tg : DG} {tt : DT} {te : DE} {Q : List D → Prop} {α : AE} (f : D → D) {ds : List D} (H : ∀ d ∈ ds, ∀ (P : D → Prop) (k0 : Prop), P (f d) → tg d α (fun α' => tt α' (fun b => if b = true then te α' (fun r => ∃ x, r.fz = .fr x ∧ P x) (fun _ => False) else k0) (fun _ => False)))
    (hl : ds.length ≤ sizeLine) (q : Q (ds.map f)) : lcD tg tt te Q α ds [] := by
  refine lc_of (fun d => some (f d)) ds [] (fun d hd P k0 hp => H d hd P k0 hp) (by simpa using hl) ?_
  rw [List.nil_append, show (fun d => some (f d)) = (some ∘ f) from rfl, List.filterMap_eq_map]
  exact q
theorem rangeD_len (lo : Int) (n : Nat) : (rangeD lo n).length = n := by unfold rangeD; rw [List.length_map, List.length_range]
theorem rangeD_mem {lo : Int} {n : Nat} {d : D} (h : d ∈ rangeD lo n) : ∃ i : Nat, i < n ∧ d = .int (lo + i) := by
  unfold rangeD at h
  obtain ⟨i, hi, rfl⟩ := List.mem_map.mp h
  exact ⟨i, List.mem_range.mp hi, rfl⟩
theorem rangeD_map {lo : Int} {n : Nat} {f : D → D} : (rangeD lo n).map f = (List.range n).map fun i => f (.int (lo + (i : Nat))) := by
  unfold rangeD
  rw [List.map_map]
  rfl
theorem abs_eq (i : Int) : (if i < 0 then -i else i) = (i.natAbs : Int) := by
  split <;> omega
theorem line_big : (1000000 : Nat) ≤ sizeLine := by rw [sizeLine_eq]; omega
/-- std: what has a plain type -/
def D.std : D → Bool
  | .non => true
  | .bl _ => true
  | .int _ => true
  | .str _ => true
  | .tup _ => true
  | .lst _ => true
  | _ => false
def D.num : D → Bool
  | .int _ => true
  | _ => false
section
variable {d : D} {ds : List D} {Q : S → Prop} {α : AE} {P : List D → Prop} {l : List S} {t : DG} {u : List D → AE → (AE → Prop) → Prop} {R : AE → Prop} {n : Nat} {lo hi : Option Int}
theorem f0 : (∃ ds : List D, ([] : List S) = List.map S.fr ds ∧ P ds) ↔ P [] := by
  constructor
  · rintro ⟨ds, e, p⟩
    cases ds with
    | nil => exact p
    | cons d r => cases e
  · intro p
    exact ⟨[], rfl, p⟩
theorem fc : (∃ ds : List D, (S.fr d :: l) = List.map S.fr ds ∧ P ds) ↔ ∃ ds : List D, l = List.map S.fr ds ∧ P (d :: ds) := by
  constructor
  · rintro ⟨ds, e, p⟩
    cases ds with
    | nil => cases e
    | cons d' r =>
      rw [List.map_cons] at e
      injection e with e1 e2
      injection e1 with e1
      subst e1
      exact ⟨r, e2, p⟩
  · rintro ⟨ds, e, p⟩
    exact ⟨d :: ds, by rw [e, List.map_cons], p⟩
theorem g1 : gsNil [] α R ↔ R α := ⟨fun h => h.2, fun h => ⟨rfl, h⟩⟩
theorem g2 : gsCons t u (d :: ds) α R ↔ t d α (fun α' => u ds α' R) := ⟨fun ⟨_, _, e, h⟩ => by cases e; exact h, fun h => ⟨d, ds, rfl, h⟩⟩
theorem g3 : gTp n u (.tup ds) α R ↔ ds.length = n ∧ u ds α R := ⟨fun ⟨_, e, h⟩ => by cases e; exact h, fun h => ⟨ds, rfl, h⟩⟩
theorem s1 : fSl (.lst ds) lo hi Q = Q (.nw (.lst (cutD ds lo hi))) := rfl
theorem s2 : fSl (.tup ds) lo hi Q = Q (.fr (.tup (cutD ds lo hi))) := rfl
theorem zc {a b : List D} {P : List D → List D → Prop} : (∃ xs ys : List D, [S.fr (.lst a), S.fr (.lst b)] = [S.fr (.lst xs), S.fr (.lst ys)] ∧ P xs ys) ↔ P a b := ⟨fun ⟨_, _, e, h⟩ => by cases e; exact h, fun h => ⟨a, b, rfl, h⟩⟩
theorem lsz {n : Nat} (h : n ≤ 1000000) : n ≤ sizeLine := Nat.le_trans h line_big
end
theorem pairs_range {f : Nat → D} {n : Nat} : pairsD ((List.range (n + 1)).map f) (((List.range (n + 1)).map f).drop 1) = (List.range n).map fun i => .tup [f i, f (i + 1)] := by
  apply List.ext_getElem
  · unfold pairsD
    rw [List.length_zipWith, List.length_drop, List.length_map, List.length_map, List.length_range, List.length_range]
    omega
  · intro i h1 h2
    unfold pairsD
    simp [Nat.add_comm 1 i]
theorem take_all {ds : List D} {n m : Nat} (h : ds.length ≤ n) (h' : ds.length ≤ m) : ds.take n = ds.take m := by
  rw [List.take_of_length_le h, List.take_of_length_le h']
theorem cut_nn {ds : List D} {a b : Nat} : cutD ds (some a) (some b) = (ds.drop a).take (b - a) := by
  unfold cutD
  rw [HT.sIx_nat, HT.sIx_nat]
  by_cases h : a ≤ ds.length
  · rw [Nat.min_eq_left h]
    by_cases h2 : b ≤ ds.length
    · rw [Nat.min_eq_left h2]
    · exact take_all (by rw [List.length_drop]; omega) (by rw [List.length_drop]; omega)
  · rw [List.drop_of_length_le (l := ds) (i := min a ds.length) (by omega), List.drop_of_length_le (l := ds) (i := a) (by omega), List.take_nil, List.take_nil]
theorem cut_from {ds : List D} {a : Nat} : cutD ds (some a) none = ds.drop a := by
  unfold cutD
  rw [HT.sIx_nat, HT.sIx_none]
  by_cases h : a ≤ ds.length
  · rw [Nat.min_eq_left h]
    exact List.take_of_length_le (by rw [List.length_drop]; omega)
  · rw [List.drop_of_length_le (l := ds) (i := min a ds.length) (by omega), List.drop_of_length_le (l := ds) (i := a) (by omega), List.take_nil]
theorem cut_to {ds : List D} {b : Nat} : cutD ds none (some b) = ds.take b := by
  unfold cutD
  rw [HT.sIx_nat, HT.sIx_none, List.drop_zero, Nat.sub_zero]
  by_cases h : b ≤ ds.length
  · rw [Nat.min_eq_left h]
  · exact take_all (by omega) (by omega)
theorem map_ints {n : Nat} {f : Nat → Int} : ((List.range n).map fun i => D.int (f i)) = ((List.range n).map f).map D.int := by
  rw [List.map_map]
  rfl
/-- loops without an early end -/
theorem for_inv {tg : DG} {t : DS} {De : DEnds} {E : XD → Prop} (P : AE → Prop) : ∀ {ds : List D} {α : AE}, (∀ d ∈ ds, ∀ α, P α → ∀ nxt : AE → Prop, (∀ α', P α' → nxt α') → tg d α (fun α' => t { De with nx := nxt, ct := nxt, bk := De.nx } α' E)) → P α → (∀ α, P α → De.nx α) → forD tg t De E ds α
  | [], α, _, h0, hn => by
    unfold forD
    exact hn α h0
  | d :: ds, α, H, h0, hn => by
    unfold forD
    exact H d List.mem_cons_self α h0 _ fun α' p' => for_inv P (fun d' h' => H d' (List.mem_cons_of_mem _ h')) p' hn
theorem div_ok {i j : Int} (h : 0 < j) (h' : j < 2 ^ 8000) : DivOk i j := by
  refine ⟨h, ?_⟩
  have e : j.natAbs < 2 ^ 8000 := by omega
  have : j.natAbs.log2 < 8000 := (Nat.log2_lt (by omega)).mpr e
  omega
theorem div_ok' {i j : Int} (h : 0 < j) (h' : j ≤ 10 ^ 40) : DivOk i j := div_ok h (Int.lt_of_le_of_lt h' (by decide +kernel))
theorem bits_le {i : Int} {n : Nat} (h : i.natAbs < 2 ^ n) : Builtin.Int.intBits i ≤ n := by
  unfold Builtin.Int.intBits
  by_cases z : i = 0
  · subst z
    simp
  · have e : (i == 0) = false := by simpa using z
    rw [e]
    have := (Nat.log2_lt (by omega)).mpr h
    simp
    omega
theorem pow_okN {i j : Int} (n : Nat) (h : 0 ≤ j) (hi : i.natAbs < 2 ^ n) (hn : (n : Int) * j ≤ 2 ^ 27) : PowOk i j := by
  refine ⟨h, ?_⟩
  have b := bits_le hi
  have : (Builtin.Int.intBits i : Int) * j ≤ (n : Int) * j := Int.mul_le_mul_of_nonneg_right (by omega) h
  omega
theorem pow_ok {i j : Int} (h : 0 ≤ j) (h' : j ≤ 1000) (hi : i.natAbs < 2 ^ 64) : PowOk i j := pow_okN 64 h hi (by omega)
theorem mul_r {a b : Int} (h : -(2 ^ 64) < b) (h' : b < 2 ^ 64) : MulOk a b := .inl (.inr ⟨h, h'⟩)
theorem mul_l {a b : Int} (h : -(2 ^ 64) < a) (h' : a < 2 ^ 64) : MulOk a b := .inl (.inl ⟨h, h'⟩)
theorem for_ints {Q : List D → Prop} {ns : List Int} : Q (ns.map D.int) = Q (ns.map D.int) := rfl
theorem p1 {d : D} {P : List D → Prop} : (∃ ds, S.fr (.lst [d]) = .fr (.lst ds) ∧ P ds) ↔ P [d] := ⟨fun ⟨ds, e, p⟩ => by cases e; exact p, fun p => ⟨_, rfl, p⟩⟩
theorem fin_t {neg : Bool} {x : D} {ds : List D} {Q : S → Prop} : fIn neg x (.tup ds) Q = (x.flat = true ∧ ds.all D.flat = true ∧ Q (.fr (.bl (if neg then !(ds.any fun y => PyData.eqv y.py x.py) else ds.any fun y => PyData.eqv y.py x.py)))) := rfl
theorem eqv_ii {i j : Int} : PyData.eqv (D.int i).py (D.int j).py = decide (i = j) := by
  simp [D.py, PyData.eqv]
  rfl
theorem intsq_map : ∀ l : List Int, ints? (l.map D.int) = some l
  | [] => rfl
  | i :: l => by
    rw [List.map_cons]
    show (match (D.int i).toI, ints? (l.map D.int) with | some i, some is => some (i :: is) | _, _ => none) = _
    rw [intsq_map l]
    rfl
theorem sum_t {l : List Int} {Q : S → Prop} (q : Q (.fr (.int l.sum))) : fSum (.tup (l.map D.int)) Q := ⟨l, intsq_map l, q⟩
theorem sum_l {l : List Int} {Q : S → Prop} (q : Q (.fr (.int l.sum))) : fSum (.lst (l.map D.int)) Q := ⟨l, intsq_map l, q⟩
theorem add_div {x y b : Int} (hb : 0 < b) : (x + y) / b = x / b + y / b ∨ ((x + y) / b = x / b + y / b + 1 ∧ 0 < y % b) := by
  have h1 := Int.mul_ediv_add_emod x b
  have h2 := Int.mul_ediv_add_emod y b
  have r1 := Int.emod_nonneg x (show b ≠ 0 by omega)
  have r2 := Int.emod_nonneg y (show b ≠ 0 by omega)
  have l1 := Int.emod_lt_of_pos x hb
  have l2 := Int.emod_lt_of_pos y hb
  have e : x + y = (x % b + y % b) + b * (x / b + y / b) := by rw [Int.mul_add]; omega
  rw [e, Int.add_mul_ediv_left _ _ (show b ≠ 0 by omega)]
  by_cases h : x % b + y % b < b
  · left
    rw [Int.ediv_eq_zero_of_lt (by omega) h]
    omega
  · right
    have e2 : x % b + y % b = (x % b + y % b - b) + b * 1 := by omega
    rw [e2, Int.add_mul_ediv_left _ _ (show b ≠ 0 by omega), Int.ediv_eq_zero_of_lt (by omega) (by omega)]
    exact ⟨by omega, by omega⟩
theorem neg_div {y b : Int} (hb : 0 < b) (h : 0 < y % b) : -(-y / b) = y / b + 1 := by
  have h2 := Int.mul_ediv_add_emod y b
  have l2 := Int.emod_lt_of_pos y hb
  have e : -y = (b - y % b) + b * (-(y / b) - 1) := by rw [Int.mul_sub, Int.mul_neg]; omega
  rw [e, Int.add_mul_ediv_left _ _ (show b ≠ 0 by omega), Int.ediv_eq_zero_of_lt (by omega) (by omega)]
  omega
end DL

set_option Elab.async false
set_option linter.all false
set_option maxRecDepth 100000
set_option maxHeartbeats 4000000
/-! own instances: fields, properties, their __init__ -/
namespace DL
open PySem PySem.Spec L2

theorem noOwn_nw {α : AE} (h : α.all S.noOwn = true) {i : Nat} {d : D} : α[i]? ≠ some (some (.nw d)) := fun e => by
  have z := List.all_eq_true.mp h _ (List.mem_of_getElem? e)
  cases z
/-- the object that is being made gets a field -/
theorem Ab.poke {K : PySem.W.Frag} {g : Gv} {tk : Tk} {Fe : Gh} {He : Hp} {F : Gh} {H : Hp} {α : AE} {σ : L2.St} {x : Addr} {o o' : HO} (A : Ab K g tk κ Fe He F H α σ) (hn : α.all S.noOwn = true) (hF : F.m x = none) (hk : x ∉ tk.ad) (h0 : He x = none) (hx : H x = some o) (ho : ¬ Fix o) (nt : NT o') :
    Ab K g tk κ Fe He F (upd H x o') α σ := by
  have sub' : Same F (upd H x o') := fun a u e => by
    rw [upd_ne (ne_of_none e hF)]
    exact A.sub a u e
  refine ⟨sub', ?_, ⟨A.st.fr, A.st.nw, fun a u e hna ht => ?_, fun a u ha hn' => ?_, A.st.tm⟩, A.cap, A.lim, A.len, fun j s hj => ?_, A.nob, A.apart⟩
  · refine tk.st _ _ _ _ A.ok (Same.refl _) (Nat.le_refl _) (fun a u e hor => ?_) (fun a ha => (tk.fr _ _ A.ok a ha).1) fun a u e n => by (rw [n] at e; cases e)
    have ne : a ≠ x := fun z => by
      rcases hor with hor | hor
      · exact hk (by rw [← z]; exact hor)
      · rw [z, hx] at e
        cases e
        exact ho hor
    rw [upd_ne ne]
    exact e
  · have ne : a ≠ x := fun z => by (rw [z, h0] at e; cases e)
    rw [upd_ne ne]
    exact A.st.kp a u e hna ht
  · have ne : a ≠ x := fun z => by (rw [z, h0] at ha; cases ha)
    rw [upd_ne ne]
    exact A.st.ad a u ha hn'
  · obtain ⟨v, f1, f2, f3⟩ := A.val j s hj
    refine ⟨v, f1, ?_, f3⟩
    cases s with
    | fr y => exact f2
    | tk => exact f2
    | bw y => exact absurd hj (A.nob j y)
    | nw y => exact absurd hj (noOwn_nw hn)
/-- an instance in the making -/
structure JI (K : PySem.W.Frag) (g : Gv) (tk : Tk) (F0 : Gh) (H0 : Hp) (c : Nat) (x : Addr) (F : Gh) (H : Hp) (α : AE) (σ : L2.St) (ns : List Str) (ds : List D) : Prop where
  A : Ab K g tk 0 F0 H0 F H α σ
  fx : F.m x = none
  kx : x ∉ tk.ad
  h0 : H0 x = none
  ob : ∃ dx vs, H x = some (.ins (g.CA c) dx (ns.zip vs)) ∧ vs.length = ns.length ∧ Reps K g F ds vs
theorem JI.step {K : PySem.W.Frag} {g : Gv} {tk : Tk} {F0 : Gh} {H0 : Hp} {F : Gh} {H : Hp} {F' : Gh} {H' : Hp} {c : Nat} {x : Addr} {α : AE} {σ : L2.St} {ns : List Str} {ds : List D} (J : JI K g tk F0 H0 c x F H α σ ns ds) (st : Step tk 0 F H F' H') (sub : Same F' H') (ok : tk.ok F' H') : JI K g tk F0 H0 c x F' H' α σ ns ds := by
  obtain ⟨dx, vs, e, l, r⟩ := J.ob
  have nt : NT (.ins (g.CA c) dx (ns.zip vs)) := fun ps z => nomatch z
  refine ⟨J.A.step st sub ok, ?_, J.kx, J.h0, dx, vs, st.kp x _ e J.kx nt, l, r.mono st.fr⟩
  cases q : F'.m x with
  | none => rfl
  | some o => exact absurd nt (st.nw x o q J.fx _ e)
theorem putF_end {f : Str} {y : V} : ∀ {ns : List Str} {vs : List V}, f ∉ ns → vs.length = ns.length → putF f y (ns.zip vs) = (ns ++ [f]).zip (vs ++ [y])
  | [], [], _, _ => rfl
  | [], _ :: _, _, h => by cases h
  | _ :: _, [], _, h => by cases h
  | n :: ns, v :: vs, hf, hl => by
    have h1 : n ≠ f := fun e => hf (by rw [e]; exact List.mem_cons_self)
    have h2 : f ∉ ns := fun e => hf (List.mem_cons_of_mem _ e)
    show (if n = f then (n, y) :: ns.zip vs else (n, v) :: putF f y (ns.zip vs)) = (n, v) :: (ns ++ [f]).zip (vs ++ [y])
    rw [if_neg h1, putF_end h2 (by simpa using hl)]
theorem Ab.rise {K : PySem.W.Frag} {g : Gv} {tk : Tk} {κa κ c : Nat} {F0 F F1 : Gh} {H0 H H1 : Hp} {α : AE} {σ : L2.St} (a : Step tk κa F0 H0 F H) (A : Ab K g tk κ ⟨F.m, F.b, c⟩ H F1 H1 α σ) (hc : c ≤ F0.c) (hl : F0.c ≤ tLim) : Ab K g tk κ F0 H0 F1 H1 α σ := by
  have cap : F1.b + κ ≤ c := A.cap
  refine ⟨A.sub, A.ok, (a.trans A.st.uncap).tight, by omega, hl, A.len, fun i s e => ?_, A.nob, A.apart⟩
  obtain ⟨v, e1, e2, e3⟩ := A.val i s e
  refine ⟨v, e1, e2, fun d p z1 z2 => ?_⟩
  have z := e3 d p z1 z2
  intro o w n
  obtain ⟨o', w', n'⟩ := a.ad p o w n
  exact z o' w' n'
abbrev DJ := AE → List Str → List D → (List Str → List D → Prop) → (XD → Prop) → Prop
def LJ (K : PySem.W.Frag) (g : Gv) (tk : Tk) (F0 : Gh) (H0 : Hp) (c : Nat) (x : Addr) (E : XD → Prop) (t : DJ) : TS := fun D' σ H =>
  ∃ F α ns ds R, JI K g tk F0 H0 c x F H α σ ns ds ∧ t α ns ds R E ∧ ∀ σ' H' F' α' ns' ds', JI K g tk F0 H0 c x F' H' α' σ' ns' ds' → R ns' ds' → D'.nx σ' H'
structure QJ (g : Gv) (X : Cx) (c : Nat) (x : Addr) (sts : List Stmt) (t : DJ) : Prop where
  ps : ∀ (tk : Tk) (F0 : Gh) (H0 : Hp) (E : XD → Prop), g.T tk → Takes X (WD X.K g tk F0 H0 E) → PSs X sts (LJ X.K g tk F0 H0 c x E t)
theorem ps_ex {ι : Sort _} {X : Cx} {st : Stmt} {p : ι → Prop} {t : ι → TS} (h : ∀ a, p a → PS X st (t a)) : PS X st (fun D σ H => ∃ a, p a ∧ t a D σ H) := ⟨fun pins s σ H D I ⟨a, pa, q⟩ => (h a pa).run pins s σ H D I q⟩
section
variable {g : Gv} {X : Cx} {c : Nat} {x : Addr} {st : Stmt} {rest : List Stmt} {t : DS} {te : DE} {u : DJ}
def dJEnd : DJ := fun _ ns ds R _ => R ns ds
theorem qj_nil : QJ g X c x [] dJEnd := ⟨fun tk F0 H0 E hT hx => pss_nil.dimp fun D' σ H ⟨F, α, ns, ds, R, J, q, k⟩ => k σ H F α ns ds J q⟩
def dJChk (t : DS) (u : DJ) : DJ := fun α ns ds R E => α.all S.noOwn = true ∧ t { nx := fun α' => u α' ns ds R E, rt := fun _ => False } α E
theorem qj_chk (h1 : QS g X st t κ) (h2 : QJ g X c x rest u) (h0 : κ = 0 := by rfl) : QJ g X c x (st :: rest) (dJChk t u) := by
  subst h0
  exact ⟨fun tk F0 H0 E hT hx => by
  refine (pss_cons (ps_ex (ι := Gh × Hp) (p := fun a => Step tk (F0.c - F0.b) F0 H0 a.1 a.2 ∧ a.1.c - a.1.b = 0) (t := fun a => LS X.K g tk 0 a.1 a.2 E t) fun a pa => h1.ps tk a.1 a.2 E hT (hx.imp fun c d σ H' z => XO.at (κ := F0.c - F0.b) pa.1 z (by have := pa.2; omega))) (h2.ps tk F0 H0 E hT hx)).dimp fun D' σ H h => ?_
  obtain ⟨F, α, ns, ds, R, J, ⟨hn, q⟩, k⟩ := h
  have cap := J.A.cap
  have tm := J.A.st.tm
  refine ⟨(⟨F.m, F.b, F.b + 0⟩, H), ⟨(J.A.st.trans (Step.recap _)).w, by show F.b + 0 - F.b = 0; omega⟩, F, α, _, 0, J.A.rooted hn 0, q, ⟨?_, fun v H' z => ?_, fun σ' H' z => ?_, fun σ' H' z => ?_⟩⟩
  · rintro σ1 H1 ⟨F1, α1, A1, q1⟩
    have s1 : Step tk 0 F H F1 H1 := A1.st.uncap.w (by have c1 : F1.b + 0 ≤ F.b + 0 := A1.cap; show F1.b - F.b ≤ 0; omega)
    have J1 := J.step s1 A1.sub A1.ok
    exact ⟨F1, α1, ns, ds, R, ⟨Ab.rise J.A.st A1 (by omega) J.A.lim, J1.fx, J1.kx, J1.h0, J1.ob⟩, q1, k⟩
  · obtain ⟨_, _, _, _, _, _, _, z⟩ := z
    exact z.elim
  · obtain ⟨_, _, _, z⟩ := z
    exact z.elim
  · obtain ⟨_, _, _, z⟩ := z
    exact z.elim⟩
def dJPut (i : Nat) (x : Addr) (f : Str) (te : DE) (u : DJ) : DJ := fun α ns ds R E => α.all S.noOwn = true ∧ te α (fun y => ∃ d, y.fz = .fr d ∧ α[i]? = some (some (.fr (.raw (.ref x)))) ∧ f ∉ ns ∧ ns.length < 1000 ∧ u α (ns ++ [f]) (ds ++ [d]) R E) E
theorem qj_put {i : Nat} {nm f : Str} {value : Expr} {p1 p2 pos : Pos} (C : Cls X.K (g.CA c)) (hN : X.N[i]? = some nm) (hv : Vis X.env.scope nm) (hf : NoAttr X.K (g.CA c) f) (he : QE g X value te κ) (h2 : QJ g X c x rest u) (hdb : (nm == ("__debug__" : Str)) = false := by decide) (hcd : (nm == ("__classdict__" : Str)) = false := by decide) (hs : swapsWith value (some (.Attribute (.Name nm p1) f p2)) pos.line X.env = pure false := by rfl) (h0 : κ = 0 := by rfl) :
    QJ g X c x (.Assign [.Attribute (.Name nm p1) f p2] value pos :: rest) (dJPut i x f te u) := by
  subst h0
  exact ⟨fun tk F0 H0 E hT hx => by
  refine (pss_cons (ps_fld (pe_var (i := i) hN hv hdb hcd) (he.pe tk F0 H0 E hT hx) hs) (h2.ps tk F0 H0 E hT hx)).dimp fun D' σ H h => ?_
  obtain ⟨F, α, ns, ds, R, J, ⟨hn, q⟩, k⟩ := h
  refine ⟨F, α, _, J.A, q, fun y H1 h1 => ?_⟩
  obtain ⟨F1, r, st1, sub1, ok1, rep1, q1⟩ := h1.fz
  obtain ⟨d, e1, e2, e3, e4, q1⟩ := q1
  rw [e1] at rep1
  have J1 := J.step st1 sub1 ok1
  obtain ⟨v, f1, f2, _⟩ := J1.A.val i _ e2
  have f2 : v = .ref x := Rep.raw_ (K := X.K) (g := g) (F := F1) f2
  subst f2
  obtain ⟨dx, vs, ob, hl, rs⟩ := J1.ob
  refine ⟨.ref x, f1, x, g.CA c, dx, _, rfl, ob, C, hf, ?_, ?_⟩
  · rw [List.length_zip, hl]
    omega
  · rw [putF_end e3 hl]
    refine ⟨F1, α, ns ++ [f], ds ++ [d], R, ⟨J1.A.poke hn J1.fx J1.kx J1.h0 ob (fun z => z) (fun ps z => nomatch z), J1.fx, J1.kx, J1.h0, dx, vs ++ [y], upd_same, by rw [List.length_append, List.length_append, hl]; rfl, rs.append (.cons rep1 .nil)⟩, q1, k⟩⟩
end
/-! ### the contract of such an __init__ -/
def spJ (K : PySem.W.Frag) (g : Gv) (n : Nat) (c : Nat) (Φ : DF) : Sp := fun vs H Q' E' =>
  ∃ (tk : Tk) (F : Gh) (H0 : Hp) (x dx : Addr) (us : List V) (ss : List S) (Q : S → Prop) (E : XD → Prop), vs = .ref x :: us ∧ H = upd (upd H0 dx (.own x)) x (.ins (g.CA c) dx []) ∧ H0 x = none ∧ H0 dx = none ∧ dx ≠ x ∧ g.T tk ∧ Same F H0 ∧ (tk.ok F H0 ∧ F.c = F.b ∧ F.c ≤ tLim) ∧ RepSs K g tk F H0 ss us ∧ ss.length = n ∧ ss.all S.arg = true ∧ Φ ss Q E ∧
    (∀ H', VO K g tk 0 F H0 Q (.ref x) H' → Q' .non H') ∧ ∀ c d H', XO K g tk 0 F H0 E c d H' → E' c d H'
def phiJ (N : List Str) (c : Nat) (t : Addr → DJ) : DF := fun ss Q E => ∀ x, t x (startA N (.fr (.raw (.ref x)) :: ss)) [] [] (fun ns ds => Q (.fr (.ins c ns ds))) E
theorem JI.vo {K : PySem.W.Frag} {g : Gv} {tk : Tk} {F0 : Gh} {H0 : Hp} {F : Gh} {H : Hp} {c : Nat} {x : Addr} {α : AE} {σ : L2.St} {ns : List Str} {ds : List D} {Q : S → Prop} (J : JI K g tk F0 H0 c x F H α σ ns ds) (q : Q (.fr (.ins c ns ds))) : VO K g tk (F.b - F0.b) F0 H0 Q (.ref x) H := by
  have z : VO K g tk (F.b - F0.b) F0 H0 (fun s => s = .nw (.ins c ns ds)) (.ref x) H := ⟨F, .nw (.ins c ns ds), J.A.st, J.A.sub, J.A.ok, ⟨x, rfl, J.fx, J.kx, J.ob⟩, fun d p _ e => by cases e; exact .of J.h0, rfl⟩
  obtain ⟨F', r, st, sub, ok, rep, e⟩ := z.fz
  subst e
  exact ⟨F', .fr (.ins c ns ds), st, sub, ok, rep, fun d p e => (nomatch e), q⟩
theorem fnJ_ok {P : Program} {w : World} {K : PySem.W.Frag} {mg : Str → Option Value} {base : Heap} {g : Gv} {nm qual s0 : Str} {params : Arguments} {body : List Stmt} {scope : Scope} {dvs : List V} {kws : List (Str × V)} {f : Addr} {fd : FuncData} {N ps : List Str} {k c : Nat} {t : Addr → DJ}
    (F : FunD K nm qual params body scope dvs kws f fd) (S : FnScope N (s0 :: ps) scope) (hn : N.length ≥ ps.length + 1)
    (hb : ∀ (x : Addr) (cdv : Value) (A : Around) (outer : List Env) (s : Shared) (H : Hp) (E : XK), Room k (A.deeper (PyProof.Rows.envOfC qual scope s.heap.objs.size f cdv)) → QJ g (cxOf (CX P w) P w K mg base N qual scope f cdv A outer s H E) c x body (t x)) :
    FnOk P w K mg base (CX P w) (k + 1) f fd (s0 :: ps) (spJ K g ps.length c (phiJ N c t)) := by
  refine F.ok S (fun vs H Q E h => ?_) (fun cdv A outer s H vs Q' E' hr h => ?_)
  · obtain ⟨tk, Fz, H0, x, dx, us, ss, Q, E2, rfl, _, _, _, _, _, _, _, r, hl, _⟩ := h
    rw [List.length_cons, List.length_cons, r.length, hl]
  · obtain ⟨tk, Fz, H0, x, dx, us, ss, Q, E, rfl, eH, hx0, hd0, hne, hT, sub, ⟨ok, c1, c2⟩, r, hl, ha, q, kQ, kE⟩ := h
    have ec0 : Fz.c - Fz.b = 0 := by omega
    have hx : Takes (cxOf (CX P w) P w K mg base N qual scope f cdv A outer s H E') (WD K g tk Fz H0 E) := (takes_of rfl rfl rfl rfl).imp fun c d σ H' z => kE c d H' (by rw [← ec0]; exact z)
    have st : Step tk (0 + 0) Fz H0 Fz H := by
      rw [eH]
      exact (Step.own hd0).trans (Step.own (by rw [upd_ne (Ne.symm hne)]; exact hx0))
    have hFx : Fz.m x = none := sub.free hx0
    have hFd : Fz.m dx = none := sub.free hd0
    have sub1 : Same Fz H := fun a o e => by
      rw [eH, upd_ne (ne_of_none e hFx), upd_ne (ne_of_none e hFd)]
      exact sub a o e
    have kx : x ∉ tk.ad := fun z => (tk.fr _ _ ok x z).2 hx0
    have ok1 : tk.ok Fz H := by
      refine tk.st _ _ _ _ ok (Same.refl _) (Nat.le_refl _) (fun a o e _ => ?_) (fun a z => (tk.fr _ _ ok a z).1) fun a u e n => by (rw [n] at e; cases e)
      rw [eH, upd_ne (ne_of_none e hx0), upd_ne (ne_of_none e hd0)]
      exact e
    have A0 : Ab K g tk 0 Fz H Fz H (startA N (.fr (.raw (.ref x)) :: ss)) (L2.start N (.ref x :: us)) := by
      refine ab_start sub1 ok1 ⟨.ref x, us, rfl, ?_, r.step st⟩ ?_ (by omega) c2
      · show Rep K g Fz (.raw (.ref x)) (.ref x)
        unfold Rep
        rfl
      · rw [List.all_cons, ha]
        rfl
    refine ⟨_, (hb x cdv A outer s H E' hr).ps tk Fz H0 E hT hx, Fz, _, [], [], _, ⟨Ab.rise (c := Fz.c) st A0 (Nat.le_refl _) c2, hFx, kx, hx0, dx, [], by rw [eH]; exact upd_same, rfl, .nil⟩, q x, ?_⟩
    intro σ' H' F' α' ns' ds' J q'
    exact kQ H' ((J.vo q').w (by have := J.A.cap; omega))
/-- x names a class whose instances are made so -/
structure Mkr (P : Program) (w : World) (K : PySem.W.Frag) (mg : Str → Option Value) (base : Heap) (g : Gv) (k : Nat) (x : Str) (n : Nat) (c : Nat) (Φ : DF) : Prop where
  ex : ∃ (f : Addr) (fd : FuncData) (ps : List Str), FnOk P w K mg base (CX P w) k f fd ps (spJ K g n c Φ) ∧ mg x = some (.ref (g.CA c)) ∧ Mk K (g.CA c) f ∧ Binds K fd ps []
section
variable {g : Gv} {X : Cx} {k n c : Nat} {x : Str} {Φ : DF} {e : Expr} {es : List Expr} {u : DA} {te : DE} {p pos : Pos} {f : Str}
def dNew (n : Nat) (Φ : DF) (u : DA) : DE := fun α Q E => u α (fun ss => ss.length = n ∧ ss.all S.arg = true ∧ Φ ss Q E) E
theorem qe_new (F : Mkr X.prog X.w X.K X.mg X.base g k x n c Φ) (hr : Room (k + 1) X.A) (hg : Gl X x) (ha : QA g X (e :: es) u κ) (hdb : (x == ("__debug__" : Str)) = false := by decide) (he : starEach (e :: es) X.env = (false, eval e X.env) :: starEach es X.env := by rfl) (hpl : (backTo pos (starEach es X.env)).any (·.1) = false := by rfl) :
    QE g X (.Call (.Name x p) (e :: es) [] pos) (dNew n Φ u) κ := ⟨fun tk Fe He E hT hx => by
  obtain ⟨f, fd, ps, F1, hm, M, hb⟩ := F.ex
  refine (pe_make M F1 hr hg hm hb .nil (passes_call (E := XO X.K g tk (Fe.c - Fe.b) Fe He E) hx fun _ _ _ _ z => z) (ha.pa tk Fe He E hT hx) hdb he hpl).dimp fun σ H Q' h => ?_
  obtain ⟨F, α, Q, A, q, kk⟩ := h
  refine ⟨F, α, _, A.w, q, fun vs H1 F1 ss st1 sub1 ok1 reps q1 y dy hy hdy hne => ?_⟩
  rw [List.append_nil]
  exact ⟨tk, ⟨F1.m, F1.b, F1.b⟩, H1, y, dy, vs, ss, Q, E, rfl, rfl, hy, hdy, hne, hT, sub1, ⟨tk.recap ok1 _, rfl, by have := A.cap; have := A.lim; have := st1.tm; show F1.b ≤ tLim; omega⟩, reps.step (Step.recap _), q1.1, q1.2.1, q1.2.2, fun H' z => ⟨rfl, kk _ _ (z.at (st1.trans (Step.recap _)))⟩, fun c d H' z => A.backX (κ1 := κ) (z.at (st1.trans (Step.recap _)))⟩⟩
/-- o.f, a field -/
def dFld (f : Str) (okf : Nat → Bool) (te : DE) : DE := fun α Q E => te α (fun x => ∃ c ns ds d, x.view = .ins c ns ds ∧ okf c = true ∧ (ns.zip ds).lookup f = some d ∧ Q (.fr d)) E
theorem insAt {K : PySem.W.Frag} {tk : Tk} {F : Gh} {H : Hp} {s : S} {v : V} {c : Nat} {ns : List Str} {ds : List D} (su : Same F H) (r : RepS K g tk F H s v) (e : s.view = .ins c ns ds) : ∃ a dx vs, v = .ref a ∧ H a = some (.ins (g.CA c) dx (ns.zip vs)) ∧ vs.length = ns.length ∧ Reps K g F ds vs := by
  cases s with
  | fr z =>
    have e' : z = .ins c ns ds := e
    subst e'
    have r' : Rep K g F (.ins c ns ds) v := r
    unfold Rep at r'
    obtain ⟨a, dx, vs, rfl, h2, h3, h4⟩ := r'
    exact ⟨a, dx, vs, rfl, su _ _ h2, h3, h4⟩
  | nw z =>
    have e' : z = .ins c ns ds := e
    subst e'
    obtain ⟨p, rfl, _, _, dx, vs, h2, h3, h4⟩ := r
    exact ⟨p, dx, vs, rfl, h2, h3, h4⟩
  | bw z =>
    have e' : z = .ins c ns ds := e
    subst e'
    obtain ⟨p, rfl, _, _, dx, vs, h2, h3, h4⟩ := r
    exact ⟨p, dx, vs, rfl, h2, h3, h4⟩
  | tk => cases e
theorem qe_fld {okf : Nat → Bool} (T : ∀ c, okf c = true → Cls X.K (g.CA c) ∧ NoAttr X.K (g.CA c) f) (he : QE g X e te κ) (hb : attributeBase e f X.env (eval e X.env) = eval e X.env := by rfl) :
    QE g X (.Attribute e f pos) (dFld f okf te) κ := ⟨fun tk Fe He E hT hx => (pe_fld (he.pe tk Fe He E hT hx) hb).dimp fun σ H Q' h => by
  obtain ⟨F, α, Q, A, q, k⟩ := h
  refine ⟨F, α, _, A.w, q, fun v H1 h1 => ?_⟩
  obtain ⟨F1, r, st1, sub1, ok1, rep1, _, c, ns, ds, d, e1, e2, e3, q1⟩ := h1
  obtain ⟨a, dx, vs, rfl, h2, h3, h4⟩ := insAt sub1 rep1 e1
  obtain ⟨v', l1, l2⟩ := zip_look h4 e3
  exact ⟨a, g.CA c, dx, _, v', rfl, h2, (T c e2).1, (T c e2).2, l1, k _ _ ((VO.fr sub1 ok1 l2 q1).at st1)⟩⟩
/-- C has f as a property whose getter promises Φ -/
structure Pr (P : Program) (w : World) (K : PySem.W.Frag) (mg : Str → Option Value) (base : Heap) (g : Gv) (k : Nat) (c : Nat) (f : Str) (Φ : DF) : Prop where
  ex : ∃ (p ga : Addr) (fd : FuncData) (ps : List Str), Cls K (g.CA c) ∧ PropOf K (g.CA c) f p ga ∧ FnOk P w K mg base (CX P w) k ga fd ps (spD K g 0 1 Φ) ∧ Binds K fd ps []
/-- o.f, a property: its getter raises nothing -/
def dProp (c : Nat) (Φ : DF) (te : DE) : DE := fun α Q E => te α (fun x => ∃ ns ds, x = .fr (.ins c ns ds) ∧ Φ [.fr (.ins c ns ds)] Q (fun _ => False)) E
theorem passes_never {P : Program} {w : World} : Passes (CX P w) X.nox (fun _ _ _ => False) := fun _ _ _ _ _ _ _ ⟨_, _, _, _, _, _, _, _, _, _, _, _, z⟩ => z.elim
theorem qe_prop (F : Pr X.prog X.w X.K X.mg X.base g k c f Φ) (hr : Room (k + 1) X.A) (he : QE g X e te κ) (hab : attributeBase e f X.env (eval e X.env) = eval e X.env := by rfl) :
    QE g X (.Attribute e f pos) (dProp c Φ te) κ := ⟨fun tk Fe He E hT hx => by
  obtain ⟨p, ga, fd, ps, C, PO, F1, hb⟩ := F.ex
  refine (pe_prop (he.pe tk Fe He E hT hx) C PO F1 hr hb .nil passes_never hab).dimp fun σ H Q' h => ?_
  obtain ⟨F, α, Q, A, q, kk⟩ := h
  refine ⟨F, α, _, A.w, q, fun v H1 h1 => ?_⟩
  obtain ⟨F1, r, st1, sub1, ok1, rep1, _, ns, ds, rfl, q1⟩ := h1
  obtain ⟨a, dx, vs, rfl, h2, h3, h4⟩ := insAt sub1 rep1 rfl
  refine ⟨a, dx, _, rfl, h2, tk, ⟨F1.m, F1.b, F1.b + 0⟩, [.fr (.ins c ns ds)], Q, (fun _ => False), hT, sub1, ⟨tk.recap ok1 _, rfl, by have := A.cap; have := A.lim; have := st1.tm; show F1.b + 0 ≤ tLim; omega⟩, RepSs.step (Step.recap (F := F1) _) ⟨.ref a, [], rfl, rep1, rfl⟩, rfl, rfl, q1, fun v H' z => kk v H' (z.at (st1.trans (Step.recap _))), fun c d H' z => ?_⟩
  obtain ⟨_, _, _, _, _, _, _, _, _, _, _, _, z⟩ := z
  exact z⟩
end
end DL

set_option Elab.async false
set_option linter.all false
set_option maxRecDepth 100000
set_option maxHeartbeats 4000000
/-! the head's facts of properties; the Hook with own __init__s and getters -/
namespace DLH
open PySem PySem.Spec L2 DL
/-- a getter: its class, its property's name -/
def pAd (K : PySem.W.Frag) (p : Str × Str) : Addr := He.ma K (He.ga K p.1) p.2
def gAd (K : PySem.W.Frag) (p : Str × Str) : Addr := match PySem.W.recIn K (pAd K p) "property" with
  | some (.ref g :: _) => g
  | _ => 0
structure PrD where
  at_ : Str × Str
  name : Str
  qual : Str
  params : Arguments
  body : List Stmt
  scope : Scope
def PrD.val (d : PrD) : He.FnW := some (d.name, d.qual, d.params, .stmts d.body, d.scope, mainGlobals, [], builtinsNs)
def fnP (K : PySem.W.Frag) (p : Str × Str) : He.FnW := match K.lookup (gAd K p) with
  | some ⟨_, _, .func fd, _⟩ => some (fd.name, fd.qualname, fd.params, fd.body, fd.scope, fd.globals, fd.closure, fd.builtins)
  | _ => none
/-- what is asked of a property and its getter, beside the getter's text -/
def prB (K : PySem.W.Frag) (d : PrD) : Bool := He.eqO (PySem.W.findIn K (.ref (He.ga K d.at_.1)) d.at_.2) (some (some (.ref (pAd K d.at_)))) && (He.eqO (PySem.W.specialIn K (.ref (pAd K d.at_)) "__get__") (some (some (.builtin "property.__get__"))) && (decide (PySem.W.takesIn K (.ref (pAd K d.at_)) = some true) &&
  ((match PySem.W.recIn K (pAd K d.at_) "property" with
    | some (.ref _ :: _) => true
    | _ => false) && (PySem.W.keepIn K (.ref (gAd K d.at_)) && (match K.lookup (gAd K d.at_) with
    | some ⟨_, _, .func fd, _⟩ => PySem.W.codeIn K fd.code d.qual && (He.dflB K fd.defaults [] && He.kwdB K fd.kwdefaults [])
    | _ => false)))))
theorem pr_of {K : PySem.W.Frag} {d : PrD} (h : prB K d = true) (e : fnP K d.at_ = d.val) : PropOf K (He.ga K d.at_.1) d.at_.2 (pAd K d.at_) (gAd K d.at_) ∧ ∃ fd, FunD K d.name d.qual d.params d.body d.scope [] [] (gAd K d.at_) fd := by
  obtain ⟨h1, h⟩ := ba2 h
  obtain ⟨h2, h⟩ := ba2 h
  obtain ⟨h3, h⟩ := ba2 h
  obtain ⟨h4, h⟩ := ba2 h
  obtain ⟨h5, h6⟩ := ba2 h
  refine ⟨⟨He.eqO_ok h1, He.eqO_ok h2, of_decide_eq_true h3, ?_⟩, ?_⟩
  · unfold gAd
    split at h4
    · rename_i g rest q
      rw [q]
      exact ⟨rest, rfl⟩
    · cases h4
  · unfold fnP at e
    cases q : K.lookup (gAd K d.at_) with
    | none =>
      rw [q] at h6
      cases h6
    | some o =>
      obtain ⟨oc, od, dt, osl⟩ := o
      rw [q] at h6 e
      cases dt with
      | func fd =>
        obtain ⟨n1, n2, n3, n4, n5, n6, n7, n8, n9, n10, n11, n12, n13, n14, n15⟩ := fd
        have e2 : (some (n1, n2, n3, n4, n5, n6, n7, n15) : He.FnW) = some (d.name, d.qual, d.params, .stmts d.body, d.scope, mainGlobals, [], builtinsNs) := e
        simp only [Option.some.injEq, Prod.mk.injEq] at e2
        obtain ⟨k1, k2, k3, k4, k5, k6, k7, k8⟩ := e2
        subst k1 k2 k3 k4 k5 k6 k7 k8
        have c3 : (PySem.W.codeIn K n13 d.qual && (He.dflB K n8 [] && He.kwdB K n9 [])) = true := h6
        obtain ⟨c1, c2⟩ := ba2 c3
        obtain ⟨c4, c5⟩ := ba2 c2
        exact ⟨_, ⟨oc, od, n8, n9, n10, n11, n12, n13, n14, osl, rfl, q, c1, He.dflB_ok c4, He.kwdB_ok c5⟩, h5⟩
      | _ => cases h6
/-- what is asked of a class whose instances are made -/
def mkB (K : PySem.W.Frag) (C f : Addr) : Bool := insCB K C && (PySem.W.makesIn K C && (He.eqO (PySem.W.findIn K (.ref C) "__init__") (some (some (.ref f))) && (PySem.W.isFn K (.ref f) && PySem.W.keepIn K (.ref C))))
theorem mk_of {K : PySem.W.Frag} {C f : Addr} (h : mkB K C f = true) : Cls K C ∧ Mk K C f := by
  obtain ⟨h1, h⟩ := ba2 h
  obtain ⟨h2, h⟩ := ba2 h
  obtain ⟨h3, h⟩ := ba2 h
  obtain ⟨h4, h5⟩ := ba2 h
  exact ⟨(insC_of h1).1, h2, He.eqO_ok h3, h4, h5⟩
def noB (K : PySem.W.Frag) (C : Addr) (f : Str) : Bool := He.eqO (PySem.W.findIn K (.ref C) f) (some none)
theorem no_of {K : PySem.W.Frag} {C : Addr} {f : Str} (h : noB K C f = true) : NoAttr K C f := He.eqO_ok h
abbrev AlZ : Type := AlY × List He.FnW
def obsZ (n : Nat) (fa : List He.Fa) (fn : List He.DefD) (tf : List He.Defn) (ex : PySem.W.Frag → Bool) (ini : List IniD) (prs : List PrD) (g : Addr → Option Obj) : AlZ := (obsY n fa fn tf ex ini g, prs.map fun d => fnP (kY g n) d.at_)
def valZ (fn : List He.DefD) (ini : List IniD) (prs : List PrD) (w : World) : AlZ := (valY fn ini w, prs.map PrD.val)
structure SaysZ (fa : List He.Fa) (fn : List He.DefD) (tf : List He.Defn) (ex : PySem.W.Frag → Bool) (ini : List IniD) (prs : List PrD) (w : World) (h : Heap) (K : PySem.W.Frag) : Prop where
  y : SaysY fa fn tf ex ini w h K
  p : prs.map (fun d => fnP K d.at_) = prs.map PrD.val
def hookZ (n : Nat) (fa : List He.Fa) (fn : List He.DefD) (tf : List He.Defn) (ex : PySem.W.Frag → Bool) (ini : List IniD) (prs : List PrD) : PySem.W.Hook where
  α := AlZ
  obs := fun s => obsZ n fa fn tf ex ini prs s.heap.get?
  val := fun w => valZ fn ini prs w
  says := fun w h => ∃ K : PySem.W.Frag, K.In h ∧ SaysZ fa fn tf ex ini prs w h K
  of := fun _ _ e => ⟨_, He.frT_in, ⟨saysX_at (congrArg (fun z : AlZ => z.1.1) e), congrArg (fun z : AlZ => z.1.2) e⟩, congrArg (fun z : AlZ => z.2) e⟩
  keeps := fun _ _ _ ⟨K, hK, c⟩ k => ⟨K, PySem.W.Frag.In.keeps hK k, ⟨⟨c.y.x.t, c.y.x.more, c.y.x.hd, c.y.x.out, fun p hp => k _ _ (c.y.x.empty p hp)⟩, c.y.i⟩, c.p⟩
theorem obsZ_eq {n : Nat} {fa : List He.Fa} {fn : List He.DefD} {tf : List He.Defn} {ex : PySem.W.Frag → Bool} {ini : List IniD} {prs : List PrD} {g : Addr → Option Obj} {s : Shared} (h : ∀ a, g a = s.heap.get? a) : obsZ n fa fn tf ex ini prs g = (hookZ n fa fn tf ex ini prs).obs s := by
  have e : g = s.heap.get? := funext h
  rw [e] <;> rfl
theorem SaysZ.pr {fa : List He.Fa} {fn : List He.DefD} {tf : List He.Defn} {ex : PySem.W.Frag → Bool} {ini : List IniD} {prs : List PrD} {w : World} {h : Heap} {K : PySem.W.Frag} (c : SaysZ fa fn tf ex ini prs w h K) {d : PrD} (hd : d ∈ prs) : fnP K d.at_ = d.val := by
  obtain ⟨i, hi, e⟩ := List.mem_iff_getElem.mp hd
  have z := congrArg (fun l => l[i]?) c.p
  simp only [List.getElem?_map, List.getElem?_eq_getElem hi, Option.map_some, e] at z
  exact Option.some.inj z
end DLH

set_option Elab.async false
set_option linter.all false
set_option maxRecDepth 100000
set_option maxHeartbeats 4000000
/-! is True, is False; enumerate; all, any -/
namespace DL
open PySem PySem.Spec L2 PyProof.Rows
section
variable {g : Gv} {X : Cx}
theorem op_isB : OpR X (compareOp .Is) (fun x y H Q => ∃ k, y = .bl k ∧ Q (.bl (decide (x = .bl k))) H) := by
  intro pins s σ H x y v u Q I rx ry h
  obtain ⟨k, rfl, q⟩ := h
  cases ry
  have key : plainIs v (.bool k) = true ∧ (v == Value.bool k) = decide (x = .bl k) := by
    cases x <;> first
      | (rename_i b; cases rx; refine ⟨rfl, ?_⟩; cases b <;> cases k <;> rfl)
      | (cases rx; exact ⟨rfl, by simp⟩)
      | (obtain ⟨t, rfl⟩ := rx; exact ⟨rfl, by simp⟩)
      | (rename_i b; cases rx; refine ⟨rfl, ?_⟩; cases b <;> cases k <;> rfl)
  exact wpAny_is_plain key.1 (fin_bl I q (by rw [key.2]))
theorem op_isNotB : OpR X (compareOp .IsNot) (fun x y H Q => ∃ k, y = .bl k ∧ Q (.bl (!decide (x = .bl k))) H) := by
  intro pins s σ H x y v u Q I rx ry h
  obtain ⟨k, rfl, q⟩ := h
  cases ry
  have key : plainIs v (.bool k) = true ∧ (v == Value.bool k) = decide (x = .bl k) := by
    cases x <;> first
      | (rename_i b; cases rx; refine ⟨rfl, ?_⟩; cases b <;> cases k <;> rfl)
      | (cases rx; exact ⟨rfl, by simp⟩)
      | (obtain ⟨t, rfl⟩ := rx; exact ⟨rfl, by simp⟩)
      | (rename_i b; cases rx; refine ⟨rfl, ?_⟩; cases b <;> cases k <;> rfl)
  exact wpAny_isNot_plain key.1 (fin_bl I q (by rw [key.2]))
def D.isBl (k : Bool) : D → Bool
  | .bl b => b == k
  | _ => false
def fIsB : F2 := fun x y Q => x.isRaw = false ∧ ∃ k, y = .bl k ∧ Q (.fr (.bl (x.isBl k)))
def fNotB : F2 := fun x y Q => x.isRaw = false ∧ ∃ k, y = .bl k ∧ Q (.fr (.bl (!x.isBl k)))
theorem rep_isBl {K : PySem.W.Frag} {F : Gh} {d : D} {v : V} {k : Bool} (h : Rep K g F d v) (hr : ∀ w, d ≠ .raw w) : decide (v = .bl k) = d.isBl k := by
  cases d with
  | non => rw [Rep.non_ h]; rfl
  | bl b => rw [Rep.bl_ h]; cases b <;> cases k <;> rfl
  | int b => rw [Rep.int_ h]; rfl
  | str b => rw [Rep.str_ h]; rfl
  | tup ds => obtain ⟨a, vs, rfl, _⟩ := Rep.tup_ h; rfl
  | lst ds => obtain ⟨a, vs, rfl, _⟩ := Rep.lst_ h; rfl
  | raw w => exact absurd rfl (hr w)
  | ins c ns ds => unfold Rep at h; obtain ⟨a, dx, vs, rfl, _⟩ := h; rfl
  | exc c ns ds => unfold Rep at h; obtain ⟨a, dx, vs, rfl, _⟩ := h; rfl
  | dic ks ds => unfold Rep at h; obtain ⟨a, vs, rfl, _⟩ := h; rfl
  | scr ns => unfold Rep at h; obtain ⟨a, rfl, _⟩ := h; rfl
  | tok => unfold Rep at h; exact h.elim
theorem repS_isBl {K : PySem.W.Frag} {tk : Tk} {F : Gh} {H : Hp} {s : S} {v : V} {k : Bool} (h : RepS K g tk F H s v) (hr : s.view.isRaw = false) : decide (v = .bl k) = s.view.isBl k := by
  cases s with
  | fr d => exact rep_isBl h fun w z => by (have z' : d = .raw w := z; subst z'; cases hr)
  | nw d =>
    obtain ⟨p, rfl, _, _, o⟩ := h
    cases d with
    | lst ds => rfl
    | dic ks ds => rfl
    | ins c ns ds => rfl
    | _ => exact o.elim
  | bw d =>
    obtain ⟨p, rfl, _, _, o⟩ := h
    cases d with
    | lst ds => rfl
    | dic ks ds => rfl
    | ins c ns ds => rfl
    | _ => exact o.elim
  | tk => cases hr
theorem os_isB {K : PySem.W.Frag} : OpS g K (fun x y H Q => ∃ k, y = .bl k ∧ Q (.bl (decide (x = .bl k))) H) fIsB := by
  intro tk F H s1 s2 v w Q Q' hT sub ok r1 r2 q k
  obtain ⟨hr, b, a, q⟩ := q
  have e2 : w = .bl b := Rep.bl_ (K := K) (g := g) (F := F) (RepS.fr_ r2 a ⟨fun _ z => (nomatch z), fun _ _ z => (nomatch z), fun z => (nomatch z), fun _ _ _ z => (nomatch z)⟩)
  refine ⟨b, e2, ?_⟩
  rw [repS_isBl r1 hr]
  exact k _ H (VO.bl sub ok q)
theorem os_notB {K : PySem.W.Frag} : OpS g K (fun x y H Q => ∃ k, y = .bl k ∧ Q (.bl (!decide (x = .bl k))) H) fNotB := by
  intro tk F H s1 s2 v w Q Q' hT sub ok r1 r2 q k
  obtain ⟨hr, b, a, q⟩ := q
  have e2 : w = .bl b := Rep.bl_ (K := K) (g := g) (F := F) (RepS.fr_ r2 a ⟨fun _ z => (nomatch z), fun _ _ z => (nomatch z), fun z => (nomatch z), fun _ _ _ z => (nomatch z)⟩)
  refine ⟨b, e2, ?_⟩
  rw [repS_isBl r1 hr]
  exact k _ H (VO.bl sub ok q)
/-- all(list of bools), any(list of bools) -/
def bls? : List D → Option (List Bool)
  | [] => some []
  | .bl b :: r => (bls? r).map (b :: ·)
  | _ :: _ => none
theorem bls_rep {K : PySem.W.Frag} {F : Gh} : ∀ {ds : List D} {vs : List V} {bs : List Bool}, Reps K g F ds vs → bls? ds = some bs → vs = bs.map V.bl
  | [], vs, bs, h, e => by
    cases e
    exact h.inv_nil
  | d :: ds, vs, bs, h, e => by
    obtain ⟨v, r, rfl, q, t⟩ := h.inv_cons
    cases d with
    | bl b =>
      unfold bls? at e
      obtain ⟨bs', e1, rfl⟩ := Option.map_eq_some_iff.mp e
      rw [Rep.bl_ q, bls_rep t e1]
      rfl
    | _ => cases e
def fAll : F1 := fun x Q => ∃ ds bs, x = .lst ds ∧ bls? ds = some bs ∧ Q (.fr (.bl (bs.all id)))
def fAny : F1 := fun x Q => ∃ ds bs, x = .lst ds ∧ bls? ds = some bs ∧ Q (.fr (.bl (bs.any id)))
theorem cs_all {K : PySem.W.Frag} : CallS g K (rAll K) (one fAll) := cs_one (by
  intro tk F H s v Q Q' hT sub ok r1 q k
  obtain ⟨ds, bs, e1, e2, q⟩ := q
  obtain ⟨a, vs, rfl, h2, h3⟩ := RepS.lst sub r1 e1
  have e3 := bls_rep h3 e2
  subst e3
  exact ⟨a, bs, rfl, SqL.of h2, k _ H (VO.bl sub ok q)⟩)
theorem cs_any {K : PySem.W.Frag} : CallS g K (rAny K) (one fAny) := cs_one (by
  intro tk F H s v Q Q' hT sub ok r1 q k
  obtain ⟨ds, bs, e1, e2, q⟩ := q
  obtain ⟨a, vs, rfl, h2, h3⟩ := RepS.lst sub r1 e1
  have e3 := bls_rep h3 e2
  subst e3
  exact ⟨a, bs, rfl, SqL.of h2, k _ H (VO.bl sub ok q)⟩)
/-- enumerate(list) -/
def enumD (ds : List D) : List D := (List.range ds.length).zipWith (fun i d => .tup [.int (i : Nat), d]) ds
theorem enum_get {ds : List D} {i : Nat} {d : D} (h : ds[i]? = some d) : (enumD ds)[i]? = some (.tup [.int (i : Nat), d]) := by
  unfold enumD
  have hi : i < ds.length := by
    cases Nat.lt_or_ge i ds.length with
    | inl z => exact z
    | inr z => rw [List.getElem?_eq_none z] at h; cases h
  rw [List.getElem?_zipWith, List.getElem?_range hi, h]
theorem walks_enum {K : PySem.W.Frag} {tk : Tk} {a : Addr} {ds : List D} {vs : List V} {F0 : Gh} (h1 : F0 a = some (.lst vs)) (r1 : Reps K g F0 ds vs) : WalksD K g tk (Ite K a) (enumD ds) F0 := by
  have el : (enumD ds).length = vs.length := by unfold enumD; rw [List.length_zipWith, List.length_range, r1.length, Nat.min_self]
  have wk : Walk (Ite K a) (enumD ds).length (fun H => SqL K H a vs) (YPair (fun i => some (.int (i : Nat))) (fun i => vs[i]?)) := by
    rw [el]
    exact walk_enum
  refine walksD_of wk (fun F H s sub => SqL.of (sub _ _ (s _ _ h1))) fun F H i x H' s sub ok hi y => ?_
  obtain ⟨T, v, w, e0, e1, e2, e3, e4⟩ := y
  cases e3
  obtain ⟨e, f2, re⟩ := r1.getV e4
  obtain ⟨F', st, sub', ok', rp⟩ := pair_step (d := .int (i : Nat)) sub ok (by unfold Rep; rfl) (re.mono s) ⟨T, e0, e1, e2⟩
  exact ⟨F', _, st, sub', ok', enum_get f2, rp⟩
def dEnum (u : DA) : DI := fun α Q E => u α (fun ss => ∃ xs, ss = [.fr (.lst xs)] ∧ Q (enumD xs)) E
theorem qi_enum {e : Expr} {u : DA} {p pos tpos : Pos} {elts : List Expr} {kk : Nat} (hg : Gl X "enumerate") (hm : X.mg "enumerate" = none) (ha : QA g X [e] u κ) (hs : starEach [e] X.env = [(false, eval e X.env)] := by rfl) :
    QI g X (.Tuple elts kk tpos) (.Call (.Name "enumerate" p) [e] [] pos) (dEnum u) κ := ⟨fun tk Fe He E hT hx => (pi_enum hg hm (ha.pa tk Fe He E hT hx) hs).dimp fun σ H R h => by
  obtain ⟨F, α, Q, A, q, k⟩ := h
  refine ⟨F, α, _, A.w, q, fun vs H1 F1 ss st1 sub1 ok1 reps q1 => ?_⟩
  obtain ⟨xs, rfl, q1⟩ := q1
  obtain ⟨v, r', rfl, r1, hn⟩ := reps
  have hn' : r' = [] := hn
  subst hn'
  obtain ⟨a, vs, rfl, h2, h3⟩ := Rep.lst_ (K := X.K) (g := g) (F := F1) r1
  exact ⟨a, vs, rfl, SqL.of (sub1 _ _ h2), k _ F1 H1 _ st1 sub1 ok1 q1 (walks_enum h2 h3)⟩⟩
end
end DL

set_option Elab.async false
set_option linter.all false
set_option maxRecDepth 100000
set_option maxHeartbeats 4000000
/-! isinstance with two built-in types -/
namespace DL
open PySem PySem.Spec L2 PyProof.Rows
section
variable {g : Gv} {X : Cx} {n : Nat} {sub : Nat → Nat → Bool} {ex : Nat → Bool} {e : Expr} {te : DE} {p p2 p3 p4 pos : Pos} {x y : Str} {j : Nat}
def dIs2 (n : Nat) (ex : Nat → Bool) (T1 T2 : String) (te : DE) : DE := fun α Q E => te α (fun x => ∃ b1 b2, x.fz.view.low n ∧ (∀ c ns ds, x.fz.view ≠ .exc c ns ds) ∧ (∀ c ns ds, x.fz.view = .ins c ns ds → ex c = false) ∧ isT T1 x.fz.view = some b1 ∧ isT T2 x.fz.view = some b2 ∧ Q (.fr (.bl (b1 || b2)))) E
theorem kit2 {K : PySem.W.Frag} {t u1 u2 : Value} {b1 b2 : Bool} (h1 : PySem.W.kitOne K t u1 = some b1) (h2 : PySem.W.kitOne K t u2 = some b2) : PySem.W.kitAny K t [u1, u2] = some (b1 || b2) := by
  unfold PySem.W.kitAny
  rw [h1]
  cases b1 with
  | true => rfl
  | false =>
    unfold PySem.W.kitAny
    rw [h2]
    cases b2 <;> rfl
theorem qe_isT2 {T1 T2 : String} (Kd : Kinds X.K g n sub ex) (hg : Gl X "isinstance") (hm : X.mg "isinstance" = none) (hgx : Gl X x) (hmx : X.mg x = none) (hv : bootBuiltins x = some (.type T1)) (hT : T1 ∈ tyN) (hgy : Gl X y) (hmy : X.mg y = none) (hvy : bootBuiltins y = some (.type T2)) (hT2 : T2 ∈ tyN) (he : QE g X e te κ) (nx : x ≠ "__name__" := by decide) (dx : (x == ("__debug__" : Str)) = false := by decide) (ny : y ≠ "__name__" := by decide) (dy : (y == ("__debug__" : Str)) = false := by decide)
    (h3 : starEach [.Tuple [.Name x p2, .Name y p3] j p4] X.env = (false, eval (.Tuple [.Name x p2, .Name y p3] j p4) X.env) :: starEach [] X.env := by rfl) (h4 : starEach [.Name x p2, .Name y p3] X.env = (false, eval (.Name x p2) X.env) :: starEach [.Name y p3] X.env := by rfl) (h5 : starEach [.Name y p3] X.env = (false, eval (.Name y p3) X.env) :: starEach [] X.env := by rfl)
    (h1 : starEach [e, .Tuple [.Name x p2, .Name y p3] j p4] X.env = (false, eval e X.env) :: starEach [.Tuple [.Name x p2, .Name y p3] j p4] X.env := by rfl) (h2 : (backTo pos (starEach [.Tuple [.Name x p2, .Name y p3] j p4] X.env)).any (·.1) = false := by rfl) :
    QE g X (.Call (.Name "isinstance" p) [e, .Tuple [.Name x p2, .Name y p3] j p4] [] pos) (dIs2 n ex T1 T2 te) κ := ⟨fun tk Fe He E hT hx => by
  refine (pe_callB (p := p) (pos := pos) call_isiT hg hm (by rfl) (pa_cons (he.pe tk Fe He E hT hx) (pa_cons (pe_tup (pa_cons (pe_bltn (v := .ty T1) hgx hmx hv rfl nx dx) (pa_cons (pe_bltn (v := .ty T2) hgy hmy hvy rfl ny dy) pa_nil h5) h4)) pa_nil h3) h1) (by decide) (by decide) h1 h2).dimp fun σ H Q' h => ?_
  obtain ⟨F, α, Q, A, q, k⟩ := h
  refine ⟨F, α, _, A.w, q, fun v H1 hv1 => ?_⟩
  obtain ⟨F1, r, st1, sub1, ok1, rep1, b1, b2, hl, hne, hi, e1, e2, q1⟩ := hv1.fz
  refine ⟨by rw [sizeLine_eq]; show 2 ≤ _; omega, fun tp htp => ?_⟩
  have su : Same F1 (upd H1 tp (.tup [.ty T1, .ty T2])) := fun a o z => by
    rw [upd_ne (ne_of_none (sub1 _ _ z) htp)]
    exact sub1 _ _ z
  have st2 : Step tk 0 F1 H1 F1 (upd H1 tp (.tup [.ty T1, .ty T2])) := Step.own htp
  obtain ⟨n1, n2⟩ := Tk.newS (o := .tup [.ty T1, .ty T2]) sub1 ok1 htp (fun ps z => nomatch z)
  obtain ⟨t1, t2⟩ := ty_of Kd su (rep1.step st2) hl (fun c ns ds z => absurd z (hne c ns ds)) hi
  have fin : VO X.K g tk κ F H Q (.bl (b1 || b2)) (upd H1 tp (.tup [.ty T1, .ty T2])) := by
    have z : VO X.K g tk 0 F1 H1 Q (.bl (b1 || b2)) (upd H1 tp (.tup [.ty T1, .ty T2])) := ⟨_, .fr (.bl (b1 || b2)), Step.new htp sub1, n1, n2, by show Rep _ _ _ _ _; unfold Rep; rfl, fun d p z => (nomatch z), q1⟩
    exact z.at st1
  cases z : r.fz.view.ty with
  | none =>
    unfold isT at e1
    rw [z] at e1
    cases e1
  | some y =>
    unfold isT at e1 e2
    rw [z] at e1 e2
    cases y with
    | inl t => exact ⟨v, tp, [.ty T1, .ty T2], .type t, [.type T1, .type T2], _, rfl, upd_same, .cons (.ty T1) (.cons (.ty T2) .nil), (t1 t z).1, kit2 (kit_ty e1) (kit_ty e2), k _ _ fin⟩
    | inr c =>
      cases e1
      cases e2
      cases ev : r.fz.view with
      | ins c' ns ds =>
        rw [ev] at z hl
        cases z
        obtain ⟨a, dx', vs, rfl, h2', _, _⟩ := insAt su (rep1.step st2) ev
        obtain ⟨c1, c2, c3, c4, c5⟩ := Kd.ins _ hl (hi _ _ _ ev)
        exact ⟨_, tp, [.ty T1, .ty T2], _, [.type T1, .type T2], _, rfl, upd_same, .cons (.ty T1) (.cons (.ty T2) .nil), .base (.ins h2' c1 c2 c3 c4 c5), kit2 (Kd.ct _ hl T1 ‹T1 ∈ tyN›) (Kd.ct _ hl T2 hT2), k _ _ fin⟩
      | exc c' ns ds => exact absurd ev (hne c' ns ds)
      | _ => rw [ev] at z; cases z⟩
end
end DL

set_option Elab.async false
set_option linter.all false
set_option maxRecDepth 100000
set_option maxHeartbeats 4000000
/-! tuples of the module's own, constants -/
namespace DL
open PySem PySem.Spec L2 PyProof.Rows
def dV : D → V
  | .non => .non
  | .bl b => .bl b
  | .int i => .int i
  | .str x => .str x
  | _ => .non
theorem rep_dV {K : PySem.W.Frag} {g : Gv} {F : Gh} {d : D} (h : d.flat = true) : Rep K g F d (dV d) := by
  cases d <;> first | (unfold Rep; rfl) | cases h
theorem reps_dV {K : PySem.W.Frag} {g : Gv} {F : Gh} : ∀ {ds : List D}, ds.all D.flat = true → Reps K g F ds (ds.map dV)
  | [], _ => .nil
  | d :: ds, h => by
    obtain ⟨h1, h2⟩ := Bool.and_eq_true_iff.mp (show (d.flat && ds.all D.flat) = true from h)
    exact .cons (rep_dV h1) (reps_dV h2)
def tupB (K : PySem.W.Frag) (a : Addr) (ds : List D) : Bool := match K.lookup a with
  | some ⟨.type t, _, .seq its _, _⟩ => decide (t = "tuple") && (decide (its.size ≤ 1000) && He.relAll (ds.map dV) its.toList)
  | _ => false
theorem tupB_ok {K : PySem.W.Frag} {g : Gv} {F : Gh} {a : Addr} {ds : List D} (h : tupB K a ds = true) (hf : ds.all D.flat = true) : Rep K g F (.tup ds) (.ref a) := by
  unfold tupB at h
  split at h
  · rename_i t dd its n sl ho
    obtain ⟨h1, h⟩ := Bool.and_eq_true_iff.mp h
    obtain ⟨h2, h3⟩ := Bool.and_eq_true_iff.mp h
    have h1 := of_decide_eq_true h1
    subst h1
    unfold Rep
    exact ⟨a, ds.map dV, rfl, .inr ⟨_, its, n, ho, rfl, rfl, lsz (by have := of_decide_eq_true h2; omega), He.relAll_ok h3⟩, reps_dV hf⟩
  · cases h
theorem qe_tupG {g : Gv} {X : Cx} {x : Str} {a : Addr} {ds : List D} {pos : Pos} (hg : Gl X x) (hm : X.mg x = some (.ref a)) (h : tupB X.K a ds = true) (hf : ds.all D.flat = true) (hd : (x == ("__debug__" : Str)) = false := by decide) : QE g X (.Name x pos) (dC (.tup ds)) 0 :=
  qe_of_c (pe_glob (v := .ref a) hg hm rfl hd) fun _ => tupB_ok h hf
end DL

set_option Elab.async false
set_option linter.all false
set_option maxRecDepth 100000
set_option maxHeartbeats 4000000
/-! xs.pop(i), xs.insert(i, y): lists of one's own -/
namespace DL
open PySem PySem.Spec L2 PyProof.Rows
theorem Reps.erase {K : PySem.W.Frag} {g : Gv} {F : Gh} : ∀ {ds : List D} {vs : List V} (k : Nat), Reps K g F ds vs → Reps K g F (ds.eraseIdx k) (vs.eraseIdx k)
  | [], _, _, h => by rw [h.inv_nil]; exact .nil
  | d :: ds, _, 0, h => by
    obtain ⟨v, r, rfl, _, t⟩ := h.inv_cons
    exact t
  | d :: ds, _, k + 1, h => by
    obtain ⟨v, r, rfl, q, t⟩ := h.inv_cons
    exact .cons q (Reps.erase k t)
section
variable {g : Gv} {X : Cx} {e e2 : Expr} {u : DA} {pos : Pos}
def dPopAt (i : Nat) (u : DA) : DS := fun D α E => ∃ ds, α[i]? = some (some (.nw (.lst ds))) ∧ u α (fun ss => ∃ j k, ss = [.fr (.int j)] ∧ -(2 ^ 63) ≤ j ∧ j < 2 ^ 63 ∧ seqIndex? j ds.length = some k ∧ k < ds.length ∧ D.nx (α.set i (some (.nw (.lst (ds.eraseIdx k)))))) E
theorem qs_popAt {i : Nat} {call : Expr} (hpe : ∀ t : TA, PA X [e] t → PE X call (tBM X.K "list" rPopAt (tVar i) t)) (he : QA g X [e] u κ) (hs : swapsWith call none pos.line X.env = pure false := by rfl) :
    QS g X (.Expr call pos) (dPopAt i u) κ := ⟨fun tk Fe He E hT hx => (ps_expr (hpe _ (he.pa tk Fe He E hT hx)) hs).dimp fun D' σ H h => by
  obtain ⟨F, α, D, ρ, A, ⟨ds, e, q⟩, k⟩ := h
  obtain ⟨p, vs, e1, e2, _⟩ := A.lst e
  refine ⟨.ref p, e1, .inl ⟨rfl, vs, SqL.of e2⟩, F, α, _, A.w, q, fun us H1 F1 ss st1 sub1 ok1 reps q1 => ?_⟩
  obtain ⟨j, n, rfl, h1, h2, h3, h4, q1⟩ := q1
  obtain ⟨p', ws, f1, f2, f3, r3, k3⟩ := own_kept (κ' := ρ) A st1 sub1 ok1 e
  rw [e1] at f1
  cases f1
  obtain ⟨v, r', rfl, rd, hn⟩ := reps
  have hn' : r' = [] := hn
  subst hn'
  have ev : v = .int j := Rep.int_ (K := X.K) (g := g) (F := F1) rd
  subst ev
  obtain ⟨y, l1, _⟩ := r3.get (List.getElem?_eq_getElem h4)
  exact ⟨p, ws, j, n, y, rfl, rfl, f3, h1, h2, by rw [r3.length]; exact h3, l1, k.nx σ _ ⟨F1, _, k3 _ _ (r3.erase n), q1⟩⟩⟩
def rIns : V → List V → Hp → VK → Prop := fun x vs H Q => ∃ (l : Addr) (xs : List V) (i : Int) (y : V), x = .ref l ∧ vs = [.int i, y] ∧ H l = some (.lst xs) ∧ xs.length < sizeLine ∧ 0 ≤ i ∧ i < 2 ^ 63 ∧ Q .non (upd H l (.lst (xs.take i.toNat ++ [y] ++ xs.drop i.toNat)))
def dIns (i : Nat) (u : DA) : DS := fun D α E => ∃ ds, α[i]? = some (some (.nw (.lst ds))) ∧ u α (fun ss => ∃ j d, ss = [.fr (.int j), .fr d] ∧ 0 ≤ j ∧ j < 2 ^ 63 ∧ ds.length < sizeLine ∧ D.nx (α.set i (some (.nw (.lst (ds.take j.toNat ++ [d] ++ ds.drop j.toNat)))))) E
theorem qs_ins {i : Nat} {call : Expr} (hpe : ∀ t : TA, PA X [e, e2] t → PE X call (tBM X.K "list" rIns (tVar i) t)) (he : QA g X [e, e2] u κ) (hs : swapsWith call none pos.line X.env = pure false := by rfl) :
    QS g X (.Expr call pos) (dIns i u) κ := ⟨fun tk Fe He E hT hx => (ps_expr (hpe _ (he.pa tk Fe He E hT hx)) hs).dimp fun D' σ H h => by
  obtain ⟨F, α, D, ρ, A, ⟨ds, e, q⟩, k⟩ := h
  obtain ⟨p, vs, e1, e2, _⟩ := A.lst e
  refine ⟨.ref p, e1, .inl ⟨rfl, vs, SqL.of e2⟩, F, α, _, A.w, q, fun us H1 F1 ss st1 sub1 ok1 reps q1 => ?_⟩
  obtain ⟨j, d, rfl, h1, h2, h4, q1⟩ := q1
  obtain ⟨p', ws, f1, f2, f3, r3, k3⟩ := own_kept (κ' := ρ) A st1 sub1 ok1 e
  rw [e1] at f1
  cases f1
  obtain ⟨v, w, rfl, rd, rw_⟩ := RepSs.two reps
  have ev : v = .int j := Rep.int_ (K := X.K) (g := g) (F := F1) rd
  subst ev
  exact ⟨p, ws, j, w, rfl, rfl, f3, by rw [r3.length]; exact h4, h1, h2, k.nx σ _ ⟨F1, _, k3 _ _ (((r3.take _).append (.cons rw_ .nil)).append (r3.drop _)), q1⟩⟩⟩
end
end DL

set_option Elab.async false
set_option linter.all false
set_option maxRecDepth 100000
set_option maxHeartbeats 4000000
/-! tuple * int -/
namespace DL
open PySem PySem.Spec L2 PyProof.Rows
theorem Reps.replicate {K : PySem.W.Frag} {g : Gv} {F : Gh} {ds : List D} {vs : List V} (h : Reps K g F ds vs) : ∀ n : Nat, Reps K g F (List.replicate n ds).flatten (List.replicate n vs).flatten
  | 0 => .nil
  | n + 1 => by
    rw [List.replicate_succ, List.replicate_succ, List.flatten_cons, List.flatten_cons]
    exact h.append (Reps.replicate h n)
def fRep : F2 := fun x y Q => ∃ ds k, x = .tup ds ∧ y = .int k ∧ ds ≠ [] ∧ 2 ≤ k ∧ k ≤ 1000 ∧ ds.length ≤ 1000 ∧ Q (.fr (.tup (List.replicate k.toNat ds).flatten))
theorem os_rep {g : Gv} {K : PySem.W.Frag} : OpS g K (rRepT K) fRep := by
  intro tk F H s1 s2 v w Q Q' hT sub ok r1 r2 q k
  obtain ⟨ds, n, e1, e2, hne, h2, h3, h4, q⟩ := q
  obtain ⟨a, vs, rfl, h5, h6⟩ := RepS.tup sub r1 e1
  rw [RepS.int r2 e2]
  refine ⟨a, n, vs, rfl, rfl, h5, fun z => hne ?_, h2, h3, by rw [h6.length]; exact h4, fun p hp => k _ _ (VO.tup sub ok hp (h6.replicate _) q)⟩
  have l := h6.length
  rw [z] at l
  exact List.length_eq_zero_iff.mp l.symm
end DL

set_option Elab.async false
set_option linter.all false
set_option maxRecDepth 100000
set_option maxHeartbeats 4000000
/-! calls that leave parameters to their defaults -/
namespace DL
open PySem PySem.Spec L2 PyProof.Rows
/-- x names a def that promises Φ; its last parameters' defaults are df -/
structure FnDf (P : Program) (w : World) (K : PySem.W.Frag) (mg : Str → Option Value) (base : Heap) (g : Gv) (k : Nat) (x : Str) (n : Nat) (df : List D) (Φ : DF) (κ : Nat) : Prop where
  ex : ∃ (f : Addr) (fd : FuncData) (ps : List Str) (dvs : List V) (ds : List Value), FnOk P w K mg base (CX P w) k f fd ps (spD K g κ n Φ) ∧ mg x = some (.ref f) ∧ PySem.W.keepIn K (.ref f) = true ∧ Binds K fd ps ds ∧ Vals dvs ds ∧ ∀ F, Reps K g F df dvs
theorem reps_frs {K : PySem.W.Frag} {g : Gv} {tk : Tk} {F : Gh} {H : Hp} : ∀ {ds : List D} {vs : List V}, Reps K g F ds vs → RepSs K g tk F H (ds.map S.fr) vs
  | [], _, h => h.inv_nil
  | d :: ds, _, h => by
    obtain ⟨v, r, rfl, q, t⟩ := h.inv_cons
    exact ⟨v, r, rfl, q, reps_frs t⟩
theorem RepSs.app {K : PySem.W.Frag} {g : Gv} {tk : Tk} {F : Gh} {H : Hp} : ∀ {ss tt : List S} {vs ws : List V}, RepSs K g tk F H ss vs → RepSs K g tk F H tt ws → RepSs K g tk F H (ss ++ tt) (vs ++ ws)
  | [], _, vs, _, h, k => by
    have e : vs = [] := h
    subst e
    exact k
  | _ :: _, _, _, _, ⟨v, r, e, q, t⟩, k => by
    subst e
    exact ⟨v, _, rfl, q, RepSs.app t k⟩
def dCallD (n : Nat) (df : List D) (Φ : DF) (u : DA) : DE := fun α Q E => u α (fun ss => (ss ++ df.map S.fr).length = n ∧ (ss ++ df.map S.fr).all S.arg = true ∧ Φ (ss ++ df.map S.fr) Q E) E
theorem qe_callD {g : Gv} {X : Cx} {k n : Nat} {x : Str} {df : List D} {Φ : DF} {e : Expr} {es : List Expr} {u : DA} {p pos : Pos} (F : FnDf X.prog X.w X.K X.mg X.base g k x n df Φ κf) (hr : Room k X.A) (hg : Gl X x) (ha : QA g X (e :: es) u κ) (hdb : (x == ("__debug__" : Str)) = false := by decide)
    (he : starEach (e :: es) X.env = (false, eval e X.env) :: starEach es X.env := by rfl) (hpl : (backTo pos (starEach es X.env)).any (·.1) = false := by rfl) : QE g X (.Call (.Name x p) (e :: es) [] pos) (dCallD n df Φ u) (κ + κf) := ⟨fun tk Fe He E hT hx => by
  obtain ⟨f, fd, ps, dvs, ds, F1, hm, hk, hb, hd, hr2⟩ := F.ex
  refine (pe_call F1 hr hg hm hk hb hd (passes_call (E := XO X.K g tk (Fe.c - Fe.b) Fe He E) hx fun _ _ _ _ z => z) (ha.pa tk Fe He E hT hx) hdb he hpl).dimp fun σ H Q' h => ?_
  obtain ⟨F, α, Q, A, q, kk⟩ := h
  refine ⟨F, α, _, A.w, q, fun vs H1 F1 ss st1 sub1 ok1 reps q1 => ?_⟩
  exact spD_call hT A st1 sub1 ok1 (reps.app (reps_frs (hr2 F1))) q1.1 q1.2.1 q1.2.2 kk⟩
end DL

set_option Elab.async false
set_option linter.all false
set_option maxRecDepth 100000
set_option maxHeartbeats 4000000
/-! defs that call themselves: the n-th contract by the one below it -/
namespace DL
open PySem PySem.Spec L2 PyProof.Rows
theorem qss_false {g : Gv} {X : Cx} {sts : List Stmt} : QSs g X sts (fun _ _ _ => False) 0 := ⟨fun tk Fe He E hT hx => ⟨fun pins s σ H D I h => by
  obtain ⟨_, _, _, _, _, q, _⟩ := h
  exact q.elim⟩⟩
def phiR (N : List Str) (t : DF → DS) : Nat → DF
  | 0 => fun _ _ _ => False
  | n + 1 => phi N (t (phiR N t n))
/-- what the depth n draws -/
def costR (kc : Nat → Nat) : Nat → Nat
  | 0 => 0
  | n + 1 => kc (costR kc n)
/-- x names a def with the contracts phiR: of depth n at level k + n + 1 -/
theorem fn_rec {P : Program} {w : World} {K : PySem.W.Frag} {mg : Str → Option Value} {base : Heap} {g : Gv} {x qual : Str} {params : Arguments} {body : List Stmt} {scope : Scope} {f : Addr} {fd : FuncData} {N ps : List Str} {k : Nat} {t : DF → DS} {kc : Nat → Nat}
    (F : FunD K x qual params body scope [] [] f fd) (S : FnScope N ps scope) (hm : mg x = some (.ref f)) (hk : PySem.W.keepIn K (.ref f) = true) (hb : Binds K fd ps [])
    (step : ∀ (n : Nat) (Φ : DF) (κr : Nat), Fn P w K mg base g (k + n + 1) x ps Φ κr → ∀ (cdv : Value) (A : Around) (outer : List Env) (s : Shared) (H : Hp) (E : XK), Room (k + n + 1) (A.deeper (PyProof.Rows.envOfC qual scope s.heap.objs.size f cdv)) → QSs g (cxOf (CX P w) P w K mg base N qual scope f cdv A outer s H E) body (t Φ) (kc κr)) :
    ∀ n, Fn P w K mg base g (k + n + 1) x ps (phiR N t n) (costR kc n)
  | 0 => (⟨f, fd, fn_ok (k := k) (N := N) (t := fun _ _ _ => False) F S (fun _ _ _ _ _ _ _ => qss_false), hm, hk, hb⟩ : Fn P w K mg base g (k + 1) x ps (phi N fun _ _ _ => False) 0).imp fun _ _ _ h => h.elim
  | n + 1 => ⟨f, fd, fn_ok (k := k + n + 1) F S (step n _ _ (fn_rec F S hm hk hb step n)), hm, hk, hb⟩
end DL

set_option Elab.async false
set_option linter.all false
set_option maxRecDepth 100000
set_option maxHeartbeats 4000000
/-! three names at once; x[j] = e; {} -/
namespace DL
open PySem PySem.Spec L2 PyProof.Rows
section
variable {g : Gv} {X : Cx} {pos : Pos}
def dPar3 (i j l : Nat) (ta tb tc : DE) : DS := fun D α E => ta α (fun x => tb α (fun y => tc α (fun z => (∀ d, x ≠ .bw d) ∧ (∀ d, y ≠ .bw d) ∧ (∀ d, z ≠ .bw d) ∧ D.nx (((α.set i (some x)).set j (some y)).set l (some z))) E) E) E
theorem qs_par3 {i j l : Nat} {x y z : Str} {a b c : Expr} {ta tb tc : DE} {px py pz pt : Pos} {kt k2 pt2} (hc : X.calm = true) (hN : X.N.Nodup) (hi : X.N[i]? = some x) (hj : X.N[j]? = some y) (hl : X.N[l]? = some z) (hij : i ≠ j) (hil : i ≠ l) (hjl : j ≠ l)
    (hx1 : X.env.scope.names.lookup x = some .local) (hy1 : X.env.scope.names.lookup y = some .local) (hz1 : X.env.scope.names.lookup z = some .local) (ha : QE g X a ta κ1) (hb : QE g X b tb κ2) (hcc : QE g X c tc κ3)
    (hw : swappedStores [.Tuple [.Name x px, .Name y py, .Name z pz] kt pt] (.Tuple [a, b, c] k2 pt2) X.env = pure (some [x, y, z]))
    (hs : swapsWithSole [.Tuple [.Name x px, .Name y py, .Name z pz] kt pt] (.Tuple [a, b, c] k2 pt2) pos.line X.env = pure false := by rfl)
    (h1 : starEach [a, b, c] X.env = (false, eval a X.env) :: starEach [b, c] X.env := by rfl) (h2 : starEach [b, c] X.env = (false, eval b X.env) :: starEach [c] X.env := by rfl) (h3 : starEach [c] X.env = (false, eval c X.env) :: starEach [] X.env := by rfl) :
    QS g X (.Assign [.Tuple [.Name x px, .Name y py, .Name z pz] kt pt] (.Tuple [a, b, c] k2 pt2) pos) (dPar3 i j l ta tb tc) (κ1 + κ2 + κ3) := ⟨fun tk Fe He E hT hx => (ps_par3 hc hN hi hj hl hij hil hjl hx1 hy1 hz1 (pa_cons (ha.pe tk Fe He E hT hx) (pa_cons (hb.pe tk Fe He E hT hx) (pa_cons (hcc.pe tk Fe He E hT hx) pa_nil h3) h2) h1) hw hs).dimp fun D' σ H h => by
  obtain ⟨F, α, D, ρ, A, q, k⟩ := h
  refine ⟨F, α, _, A.w, q, fun v H1 h1 => ?_⟩
  obtain ⟨F1, r1, st1, sub1, ok1, rep1, fr1, q1⟩ := h1
  have A1 : Ab X.K g tk (κ2 + κ3 + ρ) Fe He F1 H1 α σ := A.step st1 sub1 ok1
  refine ⟨F1, α, _, A1.w, q1, fun w H2 h2 => ?_⟩
  obtain ⟨F2, r2, st2, sub2, ok2, rep2, fr2, q2⟩ := h2
  have A2 : Ab X.K g tk (κ3 + ρ) Fe He F2 H2 α σ := A1.step st2 sub2 ok2
  refine ⟨F2, α, _, A2.w, q2, fun u H3 h3 => ?_⟩
  obtain ⟨F3, r3, st3, sub3, ok3, rep3, fr3, n1, n2, n3, q3⟩ := h3
  refine ⟨v, w, u, rfl, k.nx _ H3 ⟨F3, _, ?_, q3⟩⟩
  have B1 := A.set' (κ' := κ2 + κ3 + ρ) i st1 sub1 ok1 rep1 fr1 n1
  have B2 := B1.set' (κ' := κ3 + ρ) j st2 sub2 ok2 rep2 fr2 n2
  exact B2.set' l st3 sub3 ok3 rep3 fr3 n3⟩
def dSetI (i : Nat) (te tj : DE) : DS := fun D α E => ∃ ds, α[i]? = some (some (.nw (.lst ds))) ∧ te α (fun r => tj α (fun s => ∃ d j n, r.fz = .fr d ∧ s.view = .int j ∧ ixN ds.length j = some n ∧ D.nx (α.set i (some (.nw (.lst (ds.set n d)))))) E) E
theorem qs_setIx {i : Nat} {nm : Str} {e j : Expr} {te tj : DE} {p1 p2 : Pos} (hi : X.N[i]? = some nm) (hv : Vis X.env.scope nm) (he : QE g X e te κ1) (hj : QE g X j tj κ2) (hdb : (nm == ("__debug__" : Str)) = false := by decide) (hcd : (nm == ("__classdict__" : Str)) = false := by decide)
    (ha : ∀ v, assign (.Subscript (.Name nm p1) j p2) X.env v = (do
      let ov ← holding [v] (eval (.Name nm p1) X.env)
      let iv ← holding [v, ov] (eval j X.env)
      standAt p2
      holding [v, ov, iv] (setItem ov iv v)
      release [v, ov, iv] []) := by intro _; rfl)
    (hs : swapsWithSole [.Subscript (.Name nm p1) j p2] e pos.line X.env = pure false := by rfl) (hw : swappedStores [.Subscript (.Name nm p1) j p2] e X.env = pure none := by rfl) (h1 : (assignEach [.Subscript (.Name nm p1) j p2] X.env).map (·.2) = [assign (.Subscript (.Name nm p1) j p2) X.env] := by rfl) :
    QS g X (.Assign [.Subscript (.Name nm p1) j p2] e pos) (dSetI i te tj) (κ1 + κ2) := ⟨fun tk Fe He E hT hx => (ps_asg (he.pe tk Fe He E hT hx) (pg_sub (pe_var (i := i) hi hv hdb hcd) (hj.pe tk Fe He E hT hx) set_list ha) hs hw h1).dimp fun D' σ H h => by
  obtain ⟨F, α, D, ρ, A, ⟨ds, e0, q⟩, k⟩ := h
  refine ⟨F, α, _, A.w, q, fun v H1 hv1 => ?_⟩
  obtain ⟨F1, r, st1, sub1, ok1, rep1, q1⟩ := hv1.fz
  have A1 : Ab X.K g tk (κ2 + ρ) Fe He F1 H1 α σ := A.step st1 sub1 ok1
  obtain ⟨p, vs, e1, e2, _⟩ := A1.lst e0
  refine ⟨.ref p, e1, F1, α, _, A1.w, q1, fun w H2 hv2 => ?_⟩
  obtain ⟨F2, s, st2, sub2, ok2, rep2, _, d, jj, n, z1, z2, z3, q2⟩ := hv2
  rw [z1] at rep1
  have rd : Rep X.K g F2 d v := (show Rep X.K g F1 d v from rep1).mono st2.fr
  rw [RepS.int rep2 z2]
  obtain ⟨p', ws, f1, f2, f3, f4⟩ := (A1.step (κ' := ρ) st2 sub2 ok2).lst e0
  rw [e1] at f1
  cases f1
  exact ⟨p, ws, jj, n, rfl, rfl, f2, by rw [f3.length]; exact z3, k.nx σ _ ⟨F2, _, f4 _ _ (f3.set rd n), q2⟩⟩⟩
end
end DL

set_option Elab.async false
set_option linter.all false
set_option maxRecDepth 100000
set_option maxHeartbeats 4000000
/-! {}; int keys of dict displays; a law with lambdas of its own; tables apart -/
namespace DL
open PySem PySem.Spec L2
section
variable {g : Gv} {X : Cx} {pos : Pos}
def dDic0 : DE := fun _ Q _ => Q (.nw (.dic [] []))
theorem qe_dic0 : QE g X (.Dict [] [] pos) dDic0 0 := ⟨fun tk Fe He E hT hx => pe_dnewK.dimp fun σ H Q' h => by
  obtain ⟨F, α, Q, A, q, k⟩ := h
  intro p hp
  have hF : F.m p = none := A.sub.free hp
  have st0 : Step tk 0 F H F (upd H p (.dK [])) := Step.own hp
  have nD : p ∉ tk.ad := Tk.out A.ok hp
  have sub0 : Same F (upd H p (.dK [])) := fun a o e => by
    rw [upd_ne (ne_of_none e hF)]
    exact A.sub a o e
  have ok0 : tk.ok F (upd H p (.dK [])) := Tk.own A.ok hp _
  exact k _ _ ⟨F, .nw (.dic [] []), st0, sub0, ok0, ⟨p, rfl, hF, nD, [], upd_same, rfl, .nil⟩, fun d q _ e => by cases e; exact .of hp, q⟩⟩
theorem qp_consI {i : Int} {j : Nat} {p : Pos} {v : Expr} {keys : List (Option Expr)} {vs : List Expr} {ks : List Key} {te : DE} {u : DA} (hv : QE g X v te κ1) (hr : QP g X pos keys vs ks u κ2) :
    QP g X pos (some (.Constant (.int i) j p) :: keys) (v :: vs) (.inl i :: ks) (dCons te u) (κ1 + κ2) := ⟨fun tk Fe He E hT hx => by
  obtain ⟨trs, h1, h2⟩ := hr.pp tk Fe He E hT hx
  refine ⟨_, pps_cons pe_int (hv.pe tk Fe He E hT hx) h1, fun F H α σ Q Q' A q k => ?_⟩
  refine ⟨F, α, _, A.w, q, fun w H1 w1 => ?_⟩
  obtain ⟨F1, r, st1, sub1, ok1, rep1, q1⟩ := w1.fz
  refine h2 F1 H1 α σ _ _ (A.step st1 sub1 ok1) q1 fun vs H2 F2 ss st2 sub2 ok2 reps hl q2 => ?_
  exact k (w :: vs) H2 F2 (r.fz :: ss) (st1.trans st2) sub2 ok2 ⟨w, vs, rfl, rep1.step st2, reps⟩ (by rw [List.length_cons, List.length_cons, hl]) q2⟩
end
section
variable {P : Program} {w : World} {K : PySem.W.Frag} {mg : Str → Option Value} {base : Heap} {x qual tp bg : Str} {params : Arguments} {scope : Scope} {dvs : List V} {kws : List (Str × V)} {fB : Addr} {fd fdB : FuncData} {N : List Str} {k kB it : Nat}
theorem law_okC {CA : Nat → Addr} {T : List (Addr × Str)} {n : TN} {rest : List Stmt} {p1 p2 p3 p4 p5 : Pos} {t : DS} {pp : Str × Option Str} (F : FunD K x qual params (.Assign [.Name tp p1] (.Call (.Name bg p2) [.Name "script" p3] [] p4) p5 :: rest) scope dvs kws (_root_.He.fAd K pp) fd) (S : FnScope N ["script"] scope)
    (hN : N[it]? = some tp) (h0 : N[0]? = some ("script" : Str)) (hi : locB scope tp = true) (hv : visB scope "script" = true) (hgb : scope.names.lookup bg = some .globalImplicit) (hdb : (bg == ("__debug__" : Str)) = false)
    (B : FnOk P w K mg base (CX P w) kB fB fdB ["script"] (spBegun T K n)) (mB : mg bg = some (.ref fB)) (kpB : PySem.W.keepIn K (.ref fB) = true) (bB : Binds K fdB ["script"] []) (hkB : kB ≤ k)
    (hs : ∀ env : Env, swapsWith (.Call (.Name bg p2) [.Name "script" p3] [] p4) (some (.Name tp p1)) p5.line env = pure false)
    (hb : ∀ (cdv : Value), cdv = .ref (_root_.He.codeOf K pp) → ∀ (A : Around) (outer : List Env) (s : Shared) (H : Hp) (E : XK), Room k (A.deeper (PyProof.Rows.envOfC qual scope s.heap.objs.size (_root_.He.fAd K pp) cdv)) → QSs (gOf CA T n) (cxOf (CX P w) P w K mg base N qual scope (_root_.He.fAd K pp) cdv A outer s H E) rest t κ) (hκ : κ ≤ tLim)
    (hp : ∀ ns : List Int, ns.length ≤ 63 → (∀ z ∈ ns, Builtin.Int.intBits z ≤ 1048576) → t { nx := fun _ => False, rt := fun s => s = .fr (.bl true) } ((startA N [.fr (.scr ns)]).set it (some .tk)) (fun _ => False)) :
    FnOk P w K mg base (CX P w) (k + 1) (_root_.He.fAd K pp) fd ["script"] (spLaw T K) := by
  obtain ⟨oc, od, dV, kV, doc, pm, an, cdv, ct, osl, rfl, lk, hcd, _, _⟩ := F.ex
  obtain ⟨c, ec⟩ := _root_.He.codeIn_ref hcd
  have ecd : cdv = .ref (_root_.He.codeOf K pp) := by rw [_root_.He.codeOf_eq lk ec, ec]
  refine fn_of lk hcd S (fun vs H Q E h => ?_) (fun A outer s H vs Q' E' hr h => ?_)
  · obtain ⟨a, ns, rfl, _⟩ := h
    rfl
  · obtain ⟨a, ns, rfl, hS, hlen, hbits, hT, kQ⟩ := h
    have b1 := hb cdv ecd A outer s H E' hr
    refine ⟨_, pss_cons (ps_set (i := it) S.nd hN (loc_of hi) (pe_call B (hr.mono hkB) hgb mB kpB bB .nil (passes_call (E := fun _ _ _ => False) LamX.takes0 (fun _ _ _ _ z => z)) (pa_cons (pe_var (i := 0) h0 (vis_of hv)) pa_nil) hdb rfl rfl) (hs _) (.inl rfl)) b1.psa, ?_⟩
    refine ⟨.ref a, rfl, a, ns, rfl, hS, hlen, hT, fun d H' hn => ?_⟩
    obtain ⟨L, Cc, F', ok, s1, s2, b0⟩ := hn
    have ok : (tkOf T n d L Cc).ok ⟨F'.m, F'.b, F'.b + κ⟩ H' := Tk.recap (tk := tkOf T n d L Cc) ok _
    have rep0 : RepSs K (gOf CA T n) (tkOf T n d L Cc) ⟨F'.m, F'.b, F'.b + κ⟩ H' [.fr (.scr ns)] [.ref a] := ⟨.ref a, [], rfl, (by
      show Rep K (gOf CA T n) ⟨F'.m, F'.b, F'.b + κ⟩ (.scr ns) (.ref a)
      unfold Rep
      exact ⟨a, rfl, s1.seq (scrF_seq hS)⟩), rfl⟩
    have A0 : Ab K (gOf CA T n) (tkOf T n d L Cc) κ ⟨F'.m, F'.b, F'.b + κ⟩ H' ⟨F'.m, F'.b, F'.b + κ⟩ H' (startA N [.fr (.scr ns)]) (L2.start N [.ref a]) := ab_start s2 ok rep0 rfl (Nat.le_refl _) (by show F'.b + κ ≤ tLim; omega)
    have A1 : Ab K (gOf CA T n) (tkOf T n d L Cc) (κ + 0) ⟨F'.m, F'.b, F'.b + κ⟩ H' ⟨F'.m, F'.b, F'.b + κ⟩ H' ((startA N [.fr (.scr ns)]).set it (some .tk)) ((L2.start N [.ref a]).set it (some (.ref d))) := A0.set' (κ1 := 0) it (Step.refl _ _ _) s2 ok (r := .tk) (v := .ref d) rfl (fun d p z => nomatch z) fun d z => nomatch z
    refine ⟨tkOf T n d L Cc, ⟨F'.m, F'.b, F'.b + κ⟩, H', fun _ => False, ⟨d, L, Cc, rfl⟩, takes_never, ⟨F'.m, F'.b, F'.b + κ⟩, _, _, 0, A1, hp ns hlen hbits, ⟨?_, ?_, ?_, ?_⟩⟩
    · rintro σ H1 ⟨_, _, _, z⟩
      exact z.elim
    · rintro v H1 ⟨F2, r, st2, sub2, ok2, rep2, _, z⟩
      subst z
      have e : v = .bl true := Rep.bl_ (K := K) (g := gOf CA T n) (F := F2) rep2
      rw [e]
      exact kQ H1
    · rintro σ H1 ⟨_, _, _, z⟩
      exact z.elim
    · rintro σ H1 ⟨_, _, _, z⟩
      exact z.elim
end
theorem tab_uniq {α β : Type} {l : List (α × β)} {p q : α × β} (nd : (l.map (·.1)).Nodup) (hp : p ∈ l) (hq : q ∈ l) (e : p.1 = q.1) : p.2 = q.2 := by
  induction l with
  | nil => cases hp
  | cons x l ih =>
    rw [List.map_cons, List.nodup_cons] at nd
    obtain ⟨n1, n2⟩ := nd
    rcases List.mem_cons.mp hp with a | a
    · rcases List.mem_cons.mp hq with c | c
      · rw [a, c]
      · exact absurd (List.mem_map.mpr ⟨q, c, by rw [← e, a]⟩) n1
    · rcases List.mem_cons.mp hq with c | c
      · exact absurd (List.mem_map.mpr ⟨p, a, by rw [e, c]⟩) n1
      · exact ih n2 a c
section
variable {g : Gv} {X : Cx} {tg : Expr}
/-- a list or a tuple, walked -/
def iAny (K : PySem.W.Frag) (tl : TE) : TI := fun σ H R => tl σ H fun x G => ∃ c, x = .ref c ∧ (((∃ vs, SqL K G c vs) ∧ R (Itl K c) G) ∨ ((∃ vs, SqT K G c vs) ∧ R (Itt K c) G))
theorem pi_any {l : Expr} {tl : TE} (hl : PE X l tl) : PI X tg l (iAny X.K tl) := by
  refine ⟨fun pins s σ H R J h => thn (hl.run pins s σ H _ J h) fun v t z => ?_⟩
  obtain ⟨x, G, J1, rv, c, rfl, z⟩ := z
  cases rv
  have fpk : ∀ b ∈ [t.heap.objs.size], FpOk X pins G b := fun b hb => by
    rw [List.mem_singleton.mp hb]
    exact J1.fpOk (Nat.le_refl _) (J1.hok.fresh (Nat.le_refl _))
  rcases z with ⟨⟨vs, hq⟩, q⟩ | ⟨⟨vs, hq⟩, q⟩
  · obtain ⟨ws, _, p, _⟩ := J1.list hq
    exact wpAny_pyIter_list p.isList ⟨_, [t.heap.objs.size], _, _, G, rfl, J1.kept (t' := t.toks) fun b o e => Heap.get?_push_of_some _ e, turn_list c _, ⟨_, Heap.get?_push_size _ rfl, rfl, rfl⟩, fpk, q⟩
  · obtain ⟨ws, _, p, _⟩ := J1.tuple hq
    exact wpAny_pyIter_tuple (show t.heap.IsTuple c ws.toArray from p) ⟨_, [t.heap.objs.size], _, _, G, rfl, J1.kept (t' := t.toks) fun b o e => Heap.get?_push_of_some _ e, turn_tuple c _, ⟨_, Heap.get?_push_size _ rfl, rfl, rfl⟩, fpk, q⟩
def dIter (te : DE) : DI := fun α Q E => te α (fun s => (∃ ds, s.fz = .fr (.lst ds) ∧ Q ds) ∨ (∃ ds, s.fz = .fr (.tup ds) ∧ Q ds) ∨ ∃ ns, s.fz = .fr (.scr ns) ∧ Q (ns.map D.int)) E
theorem qi_any {e : Expr} {te : DE} (he : QE g X e te κ) : QI g X tg e (dIter te) κ := ⟨fun tk Fe He E hT hx => (pi_any (he.pe tk Fe He E hT hx)).dimp fun σ H R h => by
  obtain ⟨F, α, Q, A, q, k⟩ := h
  refine ⟨F, α, _, A.w, q, fun v H1 h1 => ?_⟩
  obtain ⟨F1, r, st1, sub1, ok1, rep1, q1⟩ := h1.fz
  rcases q1 with ⟨ds, e1, q1⟩ | ⟨ds, e1, q1⟩ | ⟨ns, e1, q1⟩ <;> rw [e1] at rep1
  · obtain ⟨a, vs, rfl, h2, h3⟩ := Rep.lst_ (K := X.K) (g := g) (F := F1) rep1
    exact ⟨a, rfl, .inl ⟨⟨vs, SqL.of (sub1 _ _ h2)⟩, k _ F1 H1 ds st1 sub1 ok1 q1 (walks_list h2 h3)⟩⟩
  · obtain ⟨a, vs, rfl, h2, h3⟩ := Rep.tup_ (K := X.K) (g := g) (F := F1) rep1
    exact ⟨a, rfl, .inr ⟨⟨vs, sqT_same sub1 h2⟩, k _ F1 H1 ds st1 sub1 ok1 q1 (walks_tup h2 h3)⟩⟩
  · have rp : Rep X.K g F1 (.scr ns) v := rep1
    unfold Rep at rp
    obtain ⟨a, rfl, h2⟩ := rp
    exact ⟨a, rfl, .inl ⟨⟨_, sub1.seq h2⟩, k _ F1 H1 _ st1 sub1 ok1 q1 (walks_scr h2)⟩⟩⟩
end
end DL

set_option Elab.async false
set_option linter.all false
set_option maxRecDepth 100000
set_option maxHeartbeats 4000000
/-! what may be drawn, told greater -/
namespace DL
open PySem PySem.Spec L2
theorem spD_mono {K : PySem.W.Frag} {g : Gv} {κ κ' n : Nat} {Φ : DF} {vs : List V} {H : Hp} {Q' : VK} {E' : XK} (hk : κ ≤ κ') (h : spD K g κ' n Φ vs H Q' E') : spD K g κ n Φ vs H Q' E' := by
  obtain ⟨tk, F, ss, Q, E, hT, sub, ⟨ok, c1, c2⟩, r, hl, ha, q, kQ, kE⟩ := h
  have up : ∀ {F' : Gh} {H' : Hp}, Step tk κ ⟨F.m, F.b, F.b + κ⟩ H F' H' → Step tk κ' F H F' H' := fun s => s.uncap.w
  refine ⟨tk, ⟨F.m, F.b, F.b + κ⟩, ss, Q, E, hT, sub, ⟨tk.recap ok _, rfl, by show F.b + κ ≤ tLim; omega⟩, r.step (Step.recap _), hl, ha, q, fun v H' z => kQ v H' ?_, fun c d H' z => kE c d H' ?_⟩
  · obtain ⟨F', r', s, z⟩ := z
    exact ⟨F', r', up s, z⟩
  · obtain ⟨F', c', ns, ds, vs', s, z⟩ := z
    exact ⟨F', c', ns, ds, vs', up s, z⟩
theorem fnok_mono {P : Program} {w : World} {K : PySem.W.Frag} {mg : Str → Option Value} {base : Heap} {g : Gv} {k n κ κ' : Nat} {f : Addr} {fd : FuncData} {ps : List Str} {Φ : DF} (h : FnOk P w K mg base (CX P w) k f fd ps (spD K g κ n Φ)) (hk : κ ≤ κ') : FnOk P w K mg base (CX P w) k f fd ps (spD K g κ' n Φ) :=
  h.imp fun _ _ _ _ z => spD_mono hk z
theorem Fn.mono {P : Program} {w : World} {K : PySem.W.Frag} {mg : Str → Option Value} {base : Heap} {g : Gv} {k κ κ' : Nat} {x : Str} {ps : List Str} {Φ : DF} (F : Fn P w K mg base g k x ps Φ κ) (hk : κ ≤ κ') : Fn P w K mg base g k x ps Φ κ' := by
  obtain ⟨f, fd, F1, r⟩ := F.ex
  exact ⟨f, fd, fnok_mono F1 hk, r⟩
end DL
namespace DL
open PySem PySem.Spec L2
theorem QSs.mono {g : Gv} {X : Cx} {sts : List Stmt} {t : DS} {κ κ' : Nat} (h : QSs g X sts t κ) (hk : κ ≤ κ') : QSs g X sts t κ' := ⟨fun tk Fe He E hT hx => (h.ps tk Fe He E hT hx).dimp fun D' σ H h => by
  obtain ⟨F, α, D, ρ, A, q, k⟩ := h
  exact ⟨F, α, D, ρ, A.w, q, k⟩⟩
theorem QSs.zero {g : Gv} {X : Cx} {sts : List Stmt} {t : DS} {κ : Nat} (h : QSs g X sts t κ) (hk : κ = 0) : QSs g X sts t 0 := hk ▸ h
theorem QS.zero {g : Gv} {X : Cx} {st : Stmt} {t : DS} {κ : Nat} (h : QS g X st t κ) (hk : κ = 0) : QS g X st t 0 := hk ▸ h
theorem QP.zero {g : Gv} {X : Cx} {pos : Pos} {keys : List (Option Expr)} {values : List Expr} {ks : List Key} {u : DA} {κ : Nat} (h : QP g X pos keys values ks u κ) (hk : κ = 0) : QP g X pos keys values ks u 0 := hk ▸ h
end DL

set_option Elab.async false
set_option linter.all false
set_option maxRecDepth 100000
set_option maxHeartbeats 4000000
/-! more for the plain part -/
namespace DL
open PySem PySem.Spec L2
theorem fl {n : Nat} (h : n ≤ 1000000) : n ≤ fLim := by unfold fLim; omega
/-- loops without an early end, turn by turn -/
theorem for_invN {tg : DG} {t : DS} {De : DEnds} {E : XD → Prop} (P : Nat → AE → Prop) : ∀ {ds : List D} {α : AE} (i : Nat), (∀ (j : Nat) (d : D), ds[j]? = some d → ∀ α, P (i + j) α → ∀ nxt : AE → Prop, (∀ α', P (i + j + 1) α' → nxt α') → tg d α (fun α' => t { De with nx := nxt, ct := nxt, bk := De.nx } α' E)) → P i α → (∀ α, P (i + ds.length) α → De.nx α) → forD tg t De E ds α
  | [], α, i, _, h0, hn => by
    unfold forD
    exact hn α h0
  | d :: ds, α, i, H, h0, hn => by
    unfold forD
    refine H 0 d rfl α h0 _ fun α' p' => for_invN P (i + 1) (fun j d' h' α2 hp nxt hn2 => ?_) p' fun α2 hp => hn α2 ?_
    · have e : i + 1 + j = i + (j + 1) := by omega
      rw [e] at hp hn2
      exact H (j + 1) d' h' α2 hp nxt hn2
    · have e : i + 1 + ds.length = i + (d :: ds).length := by rw [List.length_cons]; omega
      rw [e] at hp
      exact hp
section
variable {d : D} {ks : List Key} {ds : List D} {n : Nat}
theorem w0 : isT "int" (.dic ks ds) = some false := by first | rfl | (unfold isT D.ty; decide +kernel)
theorem w1 : isT "bool" (.dic ks ds) = some false := by first | rfl | (unfold isT D.ty; decide +kernel)
theorem w2 : isT "str" (.dic ks ds) = some false := by first | rfl | (unfold isT D.ty; decide +kernel)
theorem w3 : isT "tuple" (.dic ks ds) = some false := by first | rfl | (unfold isT D.ty; decide +kernel)
theorem w4 : isT "list" (.dic ks ds) = some false := by first | rfl | (unfold isT D.ty; decide +kernel)
theorem w5 : D.low n (.dic ks ds) ↔ True := Iff.rfl
end
/-- what has a built-in type -/
def D.pl : D → Bool
  | .non => true
  | .bl _ => true
  | .int _ => true
  | .str _ => true
  | .tup _ => true
  | .lst _ => true
  | .dic _ _ => true
  | _ => false
/-- an int between -/
def btw (d : D) (a b : Int) : Bool := match d with
  | .int i => decide (a ≤ i) && decide (i ≤ b)
  | _ => false
theorem bls_map {f : D → Bool} : ∀ ds : List D, bls? (ds.map fun d => .bl (f d)) = some (ds.map f)
  | [] => rfl
  | d :: ds => by
    rw [List.map_cons, List.map_cons]
    unfold bls?
    rw [bls_map ds]
    rfl
theorem all_map {f : D → Bool} {ds : List D} {Q : S → Prop} (q : Q (.fr (.bl (ds.all f)))) : fAll (.lst (ds.map fun d => .bl (f d))) Q := by
  refine ⟨_, _, rfl, bls_map ds, ?_⟩
  have e : (ds.map f).all id = ds.all f := by rw [List.all_map]; rfl
  rw [e]
  exact q
theorem in_range {lo : Int} {n j : Nat} {d : D} (h : (rangeD lo n)[j]? = some d) : j < n ∧ d = .int (lo + j) := by
  unfold rangeD at h
  rw [List.getElem?_map] at h
  by_cases hj : j < n
  · rw [List.getElem?_range hj] at h
    cases h
    exact ⟨hj, rfl⟩
  · rw [List.getElem?_eq_none (by rw [List.length_range]; omega)] at h
    cases h
theorem at_nat {ds : List D} {i : Nat} {d : D} (h : ds[i]? = some d) : atI ds (i : Int) = some d := by
  have hi : i < ds.length := by
    cases Nat.lt_or_ge i ds.length with
    | inl z => exact z
    | inr z => rw [List.getElem?_eq_none z] at h; cases h
  unfold atI ixN
  rw [if_pos (by omega), if_pos (by omega)]
  exact h
theorem ix_nat {n i : Nat} (h : i < n) : ixN n (i : Int) = some i := by
  unfold ixN
  rw [if_pos (by omega), if_pos (by omega)]
  rfl
theorem ok_str {x : Str} (h : PyData.strOk x = true) : (D.str x).ok := by
  refine ⟨rfl, ?_⟩
  unfold D.py SeqAt.shaped PyData.canLay0 PyData.depth
  rw [h]
  rfl
theorem eq_str {x y : Str} {Q : S → Prop} (hx : PyData.strOk x = true) (hy : PyData.strOk y = true) (q : Q (.fr (.bl (PyData.eqv (.str x) (.str y))))) : fEq (.str x) (.str y) Q := ⟨ok_str hx, ok_str hy, q⟩
theorem in_t {neg b : Bool} {x : D} {ds : List D} {Q : S → Prop} (h1 : x.flat = true) (h2 : ds.all D.flat = true) (h3 : (ds.any fun y => PyData.eqv y.py x.py) = b) (q : Q (.fr (.bl (if neg then !b else b)))) : fIn neg x (.tup ds) Q := by
  rw [fin_t, h3]
  exact ⟨h1, h2, q⟩
theorem enum_mem {ds : List D} {d : D} (h : d ∈ enumD ds) : ∃ (i : Nat) (x : D), i < ds.length ∧ ds[i]? = some x ∧ d = .tup [.int i, x] := by
  obtain ⟨i, hi⟩ := List.mem_iff_getElem?.mp h
  cases q : ds[i]? with
  | some x =>
    rw [enum_get q] at hi
    cases hi
    refine ⟨i, x, ?_, q, rfl⟩
    cases Nat.lt_or_ge i ds.length with
    | inl z => exact z
    | inr z => rw [List.getElem?_eq_none z] at q; cases q
  | none =>
    have hn : ds.length ≤ i := List.getElem?_eq_none_iff.mp q
    unfold enumD at hi
    rw [List.getElem?_eq_none (by rw [List.length_zipWith, List.length_range, Nat.min_self]; exact hn)] at hi
    cases hi
theorem nofr {d : D} : S.noOwn (some (.fr d)) = true := rfl
theorem nono : S.noOwn none = true := rfl
theorem notk : S.noOwn (some .tk) = true := rfl
theorem pys_ints : ∀ l : List Int, D.pys (l.map D.int) = l.map PyData.int
  | [] => by unfold D.pys; rfl
  | n :: l => by
    rw [List.map_cons, List.map_cons]
    unfold D.pys
    rw [pys_ints l]
    unfold D.py
    rfl
theorem data_ints : ∀ l : List Int, D.areData (l.map D.int) = true
  | [] => by unfold D.areData; rfl
  | n :: l => by
    rw [List.map_cons]
    unfold D.areData
    rw [data_ints l]
    unfold D.isData
    rfl
theorem ok_ints (l : List Int) : (D.tup (l.map D.int)).ok := by
  refine ⟨by unfold D.isData; exact data_ints l, ?_⟩
  unfold D.py
  rw [pys_ints]
  unfold SeqAt.shaped PyData.canLay0 PyData.depth
  rw [canLay_ints, depth_ints]
  rfl
theorem ok_lints (l : List Int) : (D.lst (l.map D.int)).ok := by
  refine ⟨by unfold D.isData; exact data_ints l, ?_⟩
  unfold D.py
  rw [pys_ints]
  exact shaped_ints l
/-- a list of ints beside [] -/
theorem eq_nil {l : List Int} {Q : S → Prop} (q : Q (.fr (.bl l.isEmpty))) : fEq (.lst (l.map D.int)) (.lst []) Q := by
  refine ⟨ok_lints l, ok_lints [], ?_⟩
  have e : PyData.eqv (D.lst (l.map D.int)).py (D.lst []).py = l.isEmpty := by
    unfold D.py
    rw [pys_ints]
    unfold D.pys
    cases l with
    | nil => decide +kernel
    | cons x l => rfl
  rw [e]
  exact q
theorem lc_any {tg : DG} {tt : DT} {te : DE} {Q : List D → Prop} {α : AE} (R : D → Prop) : ∀ (ds acc : List D),
    (∀ d ∈ ds, ∀ (P : D → Prop) (k0 : Prop), (∀ x, R x → P x) → tg d α (fun α' => tt α' (fun b => if b = true then te α' (fun r => ∃ x, r.fz = .fr x ∧ P x) (fun _ => False) else k0) (fun _ => False))) →
    acc.length + ds.length ≤ sizeLine → (∀ as : List D, as.length = ds.length → (∀ x ∈ as, R x) → Q (acc ++ as)) → lcD tg tt te Q α ds acc
  | [], acc, _, _, q => by
    unfold lcD
    have z := q [] rfl (fun x h => nomatch h)
    rw [List.append_nil] at z
    exact z
  | d :: ds, acc, H, hl, q => by
    unfold lcD
    rw [List.length_cons] at hl
    refine H d List.mem_cons_self (fun x => acc.length < sizeLine ∧ lcD tg tt te Q α ds (acc ++ [x])) (lcD tg tt te Q α ds acc) fun x hx => ⟨by omega, ?_⟩
    refine lc_any R ds (acc ++ [x]) (fun d' h' => H d' (List.mem_cons_of_mem _ h')) (by rw [List.length_append, List.length_singleton]; omega) fun as h1 h2 => ?_
    have z := q (x :: as) (by rw [List.length_cons, List.length_cons, h1]) fun y hy => by
      rcases List.mem_cons.mp hy with rfl | hy
      · exact hx
      · exact h2 y hy
    rw [List.append_assoc]
    exact z
end DL

set_option Elab.async false
set_option linter.all false
set_option maxRecDepth 100000
set_option maxHeartbeats 0
namespace LW
open PySem PySem.Spec L2 DL
def top (i : Nat) : Stmt := PySem.Challenge.pw_sumalarms_k02_streams_judged.main.body.getD i (.Pass ⟨0, 0, 0, 0⟩)
abbrev s__wall : Stmt := top 0
abbrev s_PartError_dot_init : Stmt := inClass (top 3) 0
abbrev s_ItemError_dot_init : Stmt := inClass (top 4) 0
abbrev s_is_number : Stmt := top 9
abbrev s_is_between : Stmt := top 10
abbrev s_is_list : Stmt := top 11
abbrev s_alarm_right : Stmt := top 18
abbrev s_need_values : Stmt := top 19
abbrev s_Alarms_dot_init : Stmt := inClass (top 20) 0
abbrev s_Alarms_dot_low : Stmt := inClass (top 20) 1
abbrev s_Alarms_dot_high : Stmt := inClass (top 20) 2
abbrev s_Alarms_dot_alarms : Stmt := inClass (top 20) 3
abbrev s_Alarms_dot_span : Stmt := inClass (top 20) 4
abbrev s_Alarms_dot___eq__ : Stmt := inClass (top 20) 5
abbrev s_need_alarms : Stmt := top 21
abbrev s_stream_right : Stmt := top 24
abbrev s_is_stream : Stmt := top 25
abbrev s__law_begun : Stmt := top 27
abbrev s__law_blended : Stmt := top 28
abbrev s__law_draw : Stmt := top 29
abbrev s__law_pick : Stmt := top 30
abbrev s__law_caught : Stmt := top 31
abbrev s__law_is_truth : Stmt := top 32
abbrev s__law_is_number : Stmt := top 33
abbrev s__law_al_alarm : Stmt := top 34
abbrev s__law_al_several : Stmt := top 35
abbrev s__law_al_values : Stmt := top 36
abbrev s__law_al_stream : Stmt := top 37
abbrev s__law_al_is_stream : Stmt := top 38
abbrev s__law_al_no_alarms : Stmt := top 39
abbrev s__law_al_bent : Stmt := top 40
abbrev s_law : Stmt := top 41
def d__wall : He.DefD := ⟨("_wall", none), "_wall", "_wall", defArgs s__wall, defBody s__wall, defScope s__wall, [], []⟩
def d_is_number : He.DefD := ⟨("is_number", none), "is_number", "is_number", defArgs s_is_number, defBody s_is_number, defScope s_is_number, [], []⟩
def d_is_between : He.DefD := ⟨("is_between", none), "is_between", "is_between", defArgs s_is_between, defBody s_is_between, defScope s_is_between, [], []⟩
def d_is_list : He.DefD := ⟨("is_list", none), "is_list", "is_list", defArgs s_is_list, defBody s_is_list, defScope s_is_list, [], []⟩
def d_alarm_right : He.DefD := ⟨("alarm_right", none), "alarm_right", "alarm_right", defArgs s_alarm_right, defBody s_alarm_right, defScope s_alarm_right, [], []⟩
def d_need_values : He.DefD := ⟨("need_values", none), "need_values", "need_values", defArgs s_need_values, defBody s_need_values, defScope s_need_values, [], []⟩
def d_need_alarms : He.DefD := ⟨("need_alarms", none), "need_alarms", "need_alarms", defArgs s_need_alarms, defBody s_need_alarms, defScope s_need_alarms, [.non], []⟩
def d_stream_right : He.DefD := ⟨("stream_right", none), "stream_right", "stream_right", defArgs s_stream_right, defBody s_stream_right, defScope s_stream_right, [], []⟩
def d_is_stream : He.DefD := ⟨("is_stream", none), "is_stream", "is_stream", defArgs s_is_stream, defBody s_is_stream, defScope s_is_stream, [], []⟩
def d__law_begun : He.DefD := ⟨("_law_begun", none), "_law_begun", "_law_begun", defArgs s__law_begun, defBody s__law_begun, defScope s__law_begun, [], []⟩
def d__law_blended : He.DefD := ⟨("_law_blended", none), "_law_blended", "_law_blended", defArgs s__law_blended, defBody s__law_blended, defScope s__law_blended, [], []⟩
def d__law_draw : He.DefD := ⟨("_law_draw", none), "_law_draw", "_law_draw", defArgs s__law_draw, defBody s__law_draw, defScope s__law_draw, [], []⟩
def d__law_pick : He.DefD := ⟨("_law_pick", none), "_law_pick", "_law_pick", defArgs s__law_pick, defBody s__law_pick, defScope s__law_pick, [], []⟩
def d__law_caught : He.DefD := ⟨("_law_caught", none), "_law_caught", "_law_caught", defArgs s__law_caught, defBody s__law_caught, defScope s__law_caught, [], []⟩
def d__law_is_truth : He.DefD := ⟨("_law_is_truth", none), "_law_is_truth", "_law_is_truth", defArgs s__law_is_truth, defBody s__law_is_truth, defScope s__law_is_truth, [], []⟩
def d__law_is_number : He.DefD := ⟨("_law_is_number", none), "_law_is_number", "_law_is_number", defArgs s__law_is_number, defBody s__law_is_number, defScope s__law_is_number, [], []⟩
def d__law_al_alarm : He.DefD := ⟨("_law_al_alarm", none), "_law_al_alarm", "_law_al_alarm", defArgs s__law_al_alarm, defBody s__law_al_alarm, defScope s__law_al_alarm, [], []⟩
def d__law_al_several : He.DefD := ⟨("_law_al_several", none), "_law_al_several", "_law_al_several", defArgs s__law_al_several, defBody s__law_al_several, defScope s__law_al_several, [], []⟩
def d__law_al_values : He.DefD := ⟨("_law_al_values", none), "_law_al_values", "_law_al_values", defArgs s__law_al_values, defBody s__law_al_values, defScope s__law_al_values, [], []⟩
def d__law_al_stream : He.DefD := ⟨("_law_al_stream", none), "_law_al_stream", "_law_al_stream", defArgs s__law_al_stream, defBody s__law_al_stream, defScope s__law_al_stream, [], []⟩
def d__law_al_is_stream : He.DefD := ⟨("_law_al_is_stream", none), "_law_al_is_stream", "_law_al_is_stream", defArgs s__law_al_is_stream, defBody s__law_al_is_stream, defScope s__law_al_is_stream, [], []⟩
def d__law_al_no_alarms : He.DefD := ⟨("_law_al_no_alarms", none), "_law_al_no_alarms", "_law_al_no_alarms", defArgs s__law_al_no_alarms, defBody s__law_al_no_alarms, defScope s__law_al_no_alarms, [], []⟩
def d__law_al_bent : He.DefD := ⟨("_law_al_bent", none), "_law_al_bent", "_law_al_bent", defArgs s__law_al_bent, defBody s__law_al_bent, defScope s__law_al_bent, [], []⟩
def d_law : He.DefD := ⟨("law", none), "law", "law", defArgs s_law, defBody s_law, defScope s_law, [], []⟩
def d_Alarms_dot_init : He.DefD := ⟨("Alarms", some "__init__"), "__init__", "Alarms.__init__", defArgs s_Alarms_dot_init, defBody s_Alarms_dot_init, defScope s_Alarms_dot_init, [], []⟩
def d_Alarms_dot_low : DLH.PrD := ⟨("Alarms", "low"), "low", "Alarms.low", defArgs s_Alarms_dot_low, defBody s_Alarms_dot_low, defScope s_Alarms_dot_low⟩
def d_Alarms_dot_high : DLH.PrD := ⟨("Alarms", "high"), "high", "Alarms.high", defArgs s_Alarms_dot_high, defBody s_Alarms_dot_high, defScope s_Alarms_dot_high⟩
def d_Alarms_dot_alarms : DLH.PrD := ⟨("Alarms", "alarms"), "alarms", "Alarms.alarms", defArgs s_Alarms_dot_alarms, defBody s_Alarms_dot_alarms, defScope s_Alarms_dot_alarms⟩
def d_Alarms_dot_span : DLH.PrD := ⟨("Alarms", "span"), "span", "Alarms.span", defArgs s_Alarms_dot_span, defBody s_Alarms_dot_span, defScope s_Alarms_dot_span⟩
def prs : List DLH.PrD := [d_Alarms_dot_low, d_Alarms_dot_high, d_Alarms_dot_alarms, d_Alarms_dot_span]
def fn : List He.DefD := [d__wall, d_is_number, d_is_between, d_is_list, d_alarm_right, d_need_values, d_need_alarms, d_stream_right, d_is_stream, d__law_begun, d__law_blended, d__law_draw, d__law_pick, d__law_caught, d__law_is_truth, d__law_is_number, d__law_al_alarm, d__law_al_several, d__law_al_values, d__law_al_stream, d__law_al_is_stream, d__law_al_no_alarms, d__law_al_bent, d_law, d_Alarms_dot_init]
def d_PartError_dot_init : DLH.IniD := ⟨("PartError", some "__init__"), defArgs s_PartError_dot_init, defBody s_PartError_dot_init, defScope s_PartError_dot_init⟩
def d_ItemError_dot_init : DLH.IniD := ⟨("ItemError", some "__init__"), defArgs s_ItemError_dot_init, defBody s_ItemError_dot_init, defScope s_ItemError_dot_init⟩
def ini : List DLH.IniD := [d_PartError_dot_init, d_ItemError_dot_init]
def CA (K : PySem.W.Frag) (i : Nat) : Addr := He.ga K ((["AlarmError", "PartError", "ItemError", "BadAlarm", "BadAlarms", "NoAlarms", "Alarms"] : List Str).getD i "")
def nCls : Nat := 7
def subB (a b : Nat) : Bool := (([[true, false, false, false, false, false, false], [true, true, false, false, false, false, false], [true, false, true, false, false, false, false], [true, false, true, true, false, false, false], [true, true, false, false, true, false, false], [true, true, false, false, false, true, false], [false, false, false, false, false, false, true]] : List (List Bool)).getD a []).getD b false
def exB (a : Nat) : Bool := ([true, true, true, true, true, true, false] : List Bool).getD a false
def okc (a : Nat) : Bool := ([true, true, true, true, true, true, false] : List Bool).getD a false
def okf_index (a : Nat) : Bool := ([false, false, true, true, false, false, false] : List Bool).getD a false
def okf_part (a : Nat) : Bool := ([false, true, false, false, true, true, false] : List Bool).getD a false
def lamQ (x : Str) (sc : Scope) : Str := (PyProof.Rows.envOfC x sc 0 0 .none).qual ++ "<lambda>"
def tf : List He.Defn := [("law", none)]
def TT (K : PySem.W.Frag) : List (Addr × Str) := [((He.cT K ("law", none)).2, lamQ "law" (defScope s_law))]
abbrev tn : TN := ⟨"great", "rest", "cells", "turn"⟩
theorem tnok : tn.Ok := ⟨by decide, by decide, by decide, by decide, by decide, by decide⟩
def okd_own_alarms (a : Nat) : Bool := ([false, false, false, false, false, false, true] : List Bool).getD a false
def okd_own_high (a : Nat) : Bool := ([false, false, false, false, false, false, true] : List Bool).getD a false
def okd_own_low (a : Nat) : Bool := ([false, false, false, false, false, false, true] : List Bool).getD a false
def k_KINDS : List D := [.str "over", .str "under"]
def ex0 (K : PySem.W.Frag) : Bool := DLH.kindsB K (CA K) nCls subB exB
def ex1 (K : PySem.W.Frag) : Bool := DLH.iniCB K (CA K 2) "index" (CA K 3) (He.fAd K ("ItemError", some "__init__"))
def ex2 (K : PySem.W.Frag) : Bool := DLH.iniCB K (CA K 1) "part" (CA K 4) (He.fAd K ("PartError", some "__init__"))
def ex3 (K : PySem.W.Frag) : Bool := DLH.iniCB K (CA K 1) "part" (CA K 5) (He.fAd K ("PartError", some "__init__"))
def ex4 (K : PySem.W.Frag) : Bool := DLH.iniFB PySem.Challenge.pw_sumalarms_k02_streams_judged K (CA K 2) (He.fAd K ("ItemError", some "__init__"))
def ex5 (K : PySem.W.Frag) : Bool := DLH.iniFB PySem.Challenge.pw_sumalarms_k02_streams_judged K (CA K 1) (He.fAd K ("PartError", some "__init__"))
def ex6 (K : PySem.W.Frag) : Bool := (List.range nCls).all fun c => !okc c || decide (PySem.W.exmOne K (.ref (CA K c)) (.ref (CA K 0)) = some true)
def ex7 (K : PySem.W.Frag) : Bool := (List.range nCls).all fun c => !okf_index c || (L2.xfB K (CA K c) && He.eqO (PySem.W.findIn K (.ref (CA K c)) "index") (some none))
def ex8 (K : PySem.W.Frag) : Bool := (List.range nCls).all fun c => !okf_part c || (L2.xfB K (CA K c) && He.eqO (PySem.W.findIn K (.ref (CA K c)) "part") (some none))
def ex9 (K : PySem.W.Frag) : Bool := DLH.mkB K (CA K 6) (He.fAd K ("Alarms", some "__init__"))
def ex10 (K : PySem.W.Frag) : Bool := DLH.prB K d_Alarms_dot_low
def ex11 (K : PySem.W.Frag) : Bool := DLH.prB K d_Alarms_dot_high
def ex12 (K : PySem.W.Frag) : Bool := DLH.prB K d_Alarms_dot_alarms
def ex13 (K : PySem.W.Frag) : Bool := DLH.prB K d_Alarms_dot_span
def ex14 (K : PySem.W.Frag) : Bool := (List.range nCls).all fun c => !okd_own_alarms c || (DLH.insCB K (CA K c) && DLH.noB K (CA K c) "own_alarms")
def ex15 (K : PySem.W.Frag) : Bool := (List.range nCls).all fun c => !okd_own_high c || (DLH.insCB K (CA K c) && DLH.noB K (CA K c) "own_high")
def ex16 (K : PySem.W.Frag) : Bool := (List.range nCls).all fun c => !okd_own_low c || (DLH.insCB K (CA K c) && DLH.noB K (CA K c) "own_low")
def ex17 (K : PySem.W.Frag) : Bool := decide ((TT K).map (·.1)).Nodup
def ex18 (K : PySem.W.Frag) : Bool := DL.tupB K (He.ga K "KINDS") k_KINDS
def fa : List He.Fa := [.glo "_wall", .glo "is_number", .glo "is_between", .glo "is_list", .glo "alarm_right", .glo "need_values", .glo "need_alarms", .glo "stream_right", .glo "is_stream", .glo "_law_begun", .glo "_law_blended", .glo "_law_draw", .glo "_law_pick", .glo "_law_caught", .glo "_law_is_truth", .glo "_law_is_number", .glo "_law_al_alarm", .glo "_law_al_several", .glo "_law_al_values", .glo "_law_al_stream", .glo "_law_al_is_stream", .glo "_law_al_no_alarms", .glo "_law_al_bent", .glo "law", .glo "AlarmError", .glo "PartError", .glo "ItemError", .glo "BadAlarm", .glo "BadAlarms", .glo "NoAlarms", .glo "Alarms", .free "abs", .free "all", .free "bool", .free "enumerate", .free "int", .free "isinstance", .free "len", .free "list", .free "min", .free "range", .free "str", .free "super", .free "tuple", .int "MOST_ALARMS" 4, .int "MOST_MARK" 1000, .int "MOST_VALUE" 100, .int "MOST_WINDOW" 8, .int "MOST_TICKS" 200, .glo "KINDS"]
def ex (K : PySem.W.Frag) : Bool := ex0 K && (ex1 K && (ex2 K && (ex3 K && (ex4 K && (ex5 K && (ex6 K && (ex7 K && (ex8 K && (ex9 K && (ex10 K && (ex11 K && (ex12 K && (ex13 K && (ex14 K && (ex15 K && (ex16 K && (ex17 K && (ex18 K))))))))))))))))))
def loose : List Str := "_wall" :: "AlarmError" :: "PartError" :: "ItemError" :: "BadAlarm" :: "BadAlarms" :: "NoAlarms" :: "is_number" :: "is_between" :: "is_list" :: "KINDS" :: "MOST_ALARMS" :: "MOST_MARK" :: "MOST_VALUE" :: "MOST_WINDOW" :: "alarm_right" :: "need_values" :: "Alarms" :: "need_alarms" :: "MOST_TICKS" :: "stream_right" :: "is_stream" :: "_law_begun" :: "_law_blended" :: "_law_draw" :: "_law_pick" :: "_law_caught" :: "_law_is_truth" :: "_law_is_number" :: "_law_al_alarm" :: "_law_al_several" :: "_law_al_values" :: "_law_al_stream" :: "_law_al_is_stream" :: "_law_al_no_alarms" :: "_law_al_bent" :: []
abbrev R : PySem.W.OpenRow := PySem.W.OpenLaw.row PySem.Challenge.rw_sumalarms_k02_streams_judged
abbrev hk : PySem.W.Hook := DLH.hookZ 5 fa fn tf ex ini prs
def ob (s : PySem.W.SharedT) : DLH.AlZ := DLH.obsZ 5 fa fn tf ex ini prs (HandSHeadRun.getT s)
theorem ob_eq (s : PySem.W.SharedT) : ob s = hk.obs s.abs := DLH.obsZ_eq (HandSHeadRun.getT_eq s)
end LW

set_option Elab.async false
set_option linter.all false
set_option maxRecDepth 100000
set_option maxHeartbeats 0
namespace LW
open PySem PySem.Spec L2 DL
theorem run (w : World) : HandSHeadRun.RunEq R (PySem.W.view R.prog [41]) hk ob 4000 loose w := by
  intro os
  kernel_rfl
end LW

set_option Elab.async false
set_option linter.all false
set_option maxRecDepth 100000
set_option maxHeartbeats 4000000
namespace LW
open PySem PySem.Spec L2 DL
theorem bt_abs : bootBuiltins "abs" = some (.builtin "abs") := by decide +kernel
theorem bt_all : bootBuiltins "all" = some (.builtin "all") := by decide +kernel
theorem bt_bool : bootBuiltins "bool" = some (.type "bool") := by decide +kernel
theorem bt_enumerate : bootBuiltins "enumerate" = some (.type "enumerate") := by decide +kernel
theorem bt_int : bootBuiltins "int" = some (.type "int") := by decide +kernel
theorem bt_isinstance : bootBuiltins "isinstance" = some (.builtin "isinstance") := by decide +kernel
theorem bt_len : bootBuiltins "len" = some (.builtin "len") := by decide +kernel
theorem bt_list : bootBuiltins "list" = some (.type "list") := by decide +kernel
theorem bt_min : bootBuiltins "min" = some (.builtin "min") := by decide +kernel
theorem bt_range : bootBuiltins "range" = some (.type "range") := by decide +kernel
theorem bt_str : bootBuiltins "str" = some (.type "str") := by decide +kernel
theorem bt_tuple : bootBuiltins "tuple" = some (.type "tuple") := by decide +kernel
structure Facts0 (K : PySem.W.Frag) (mg : Str → Option Value) : Prop where
  m_abs : mg "abs" = none
  m_all : mg "all" = none
  m_bool : mg "bool" = none
  m_enumerate : mg "enumerate" = none
  m_int : mg "int" = none
  m_isinstance : mg "isinstance" = none
  m_len : mg "len" = none
  m_list : mg "list" = none
  m_min : mg "min" = none
  m_range : mg "range" = none
  m_str : mg "str" = none
  m_super : mg "super" = none
  m_tuple : mg "tuple" = none
  c_MOST_ALARMS : ∃ t, mg "MOST_ALARMS" = some (.int 4 t)
  c_MOST_MARK : ∃ t, mg "MOST_MARK" = some (.int 1000 t)
  c_MOST_VALUE : ∃ t, mg "MOST_VALUE" = some (.int 100 t)
  c_MOST_WINDOW : ∃ t, mg "MOST_WINDOW" = some (.int 8 t)
  c_MOST_TICKS : ∃ t, mg "MOST_TICKS" = some (.int 200 t)
  g__wall : mg "_wall" = some (.ref (He.fAd K ("_wall", none)))
  d__wall : ∃ fd, FunD K "_wall" "_wall" (defArgs s__wall) (defBody s__wall) (defScope s__wall) [] [] (He.fAd K ("_wall", none)) fd
  g_is_number : mg "is_number" = some (.ref (He.fAd K ("is_number", none)))
  d_is_number : ∃ fd, FunD K "is_number" "is_number" (defArgs s_is_number) (defBody s_is_number) (defScope s_is_number) [] [] (He.fAd K ("is_number", none)) fd
  g_is_between : mg "is_between" = some (.ref (He.fAd K ("is_between", none)))
  d_is_between : ∃ fd, FunD K "is_between" "is_between" (defArgs s_is_between) (defBody s_is_between) (defScope s_is_between) [] [] (He.fAd K ("is_between", none)) fd
  g_is_list : mg "is_list" = some (.ref (He.fAd K ("is_list", none)))
  d_is_list : ∃ fd, FunD K "is_list" "is_list" (defArgs s_is_list) (defBody s_is_list) (defScope s_is_list) [] [] (He.fAd K ("is_list", none)) fd
  g_alarm_right : mg "alarm_right" = some (.ref (He.fAd K ("alarm_right", none)))
  d_alarm_right : ∃ fd, FunD K "alarm_right" "alarm_right" (defArgs s_alarm_right) (defBody s_alarm_right) (defScope s_alarm_right) [] [] (He.fAd K ("alarm_right", none)) fd
  g_need_values : mg "need_values" = some (.ref (He.fAd K ("need_values", none)))
  d_need_values : ∃ fd, FunD K "need_values" "need_values" (defArgs s_need_values) (defBody s_need_values) (defScope s_need_values) [] [] (He.fAd K ("need_values", none)) fd
  g_need_alarms : mg "need_alarms" = some (.ref (He.fAd K ("need_alarms", none)))
  d_need_alarms : ∃ fd, FunD K "need_alarms" "need_alarms" (defArgs s_need_alarms) (defBody s_need_alarms) (defScope s_need_alarms) [.non] [] (He.fAd K ("need_alarms", none)) fd
  g_stream_right : mg "stream_right" = some (.ref (He.fAd K ("stream_right", none)))
  d_stream_right : ∃ fd, FunD K "stream_right" "stream_right" (defArgs s_stream_right) (defBody s_stream_right) (defScope s_stream_right) [] [] (He.fAd K ("stream_right", none)) fd
  g_is_stream : mg "is_stream" = some (.ref (He.fAd K ("is_stream", none)))
  d_is_stream : ∃ fd, FunD K "is_stream" "is_stream" (defArgs s_is_stream) (defBody s_is_stream) (defScope s_is_stream) [] [] (He.fAd K ("is_stream", none)) fd
  g__law_begun : mg "_law_begun" = some (.ref (He.fAd K ("_law_begun", none)))
  d__law_begun : ∃ fd, FunD K "_law_begun" "_law_begun" (defArgs s__law_begun) (defBody s__law_begun) (defScope s__law_begun) [] [] (He.fAd K ("_law_begun", none)) fd
  g__law_blended : mg "_law_blended" = some (.ref (He.fAd K ("_law_blended", none)))
  d__law_blended : ∃ fd, FunD K "_law_blended" "_law_blended" (defArgs s__law_blended) (defBody s__law_blended) (defScope s__law_blended) [] [] (He.fAd K ("_law_blended", none)) fd
  g__law_draw : mg "_law_draw" = some (.ref (He.fAd K ("_law_draw", none)))
  d__law_draw : ∃ fd, FunD K "_law_draw" "_law_draw" (defArgs s__law_draw) (defBody s__law_draw) (defScope s__law_draw) [] [] (He.fAd K ("_law_draw", none)) fd
  g__law_pick : mg "_law_pick" = some (.ref (He.fAd K ("_law_pick", none)))
  d__law_pick : ∃ fd, FunD K "_law_pick" "_law_pick" (defArgs s__law_pick) (defBody s__law_pick) (defScope s__law_pick) [] [] (He.fAd K ("_law_pick", none)) fd
  g__law_caught : mg "_law_caught" = some (.ref (He.fAd K ("_law_caught", none)))
  d__law_caught : ∃ fd, FunD K "_law_caught" "_law_caught" (defArgs s__law_caught) (defBody s__law_caught) (defScope s__law_caught) [] [] (He.fAd K ("_law_caught", none)) fd
  g__law_is_truth : mg "_law_is_truth" = some (.ref (He.fAd K ("_law_is_truth", none)))
  d__law_is_truth : ∃ fd, FunD K "_law_is_truth" "_law_is_truth" (defArgs s__law_is_truth) (defBody s__law_is_truth) (defScope s__law_is_truth) [] [] (He.fAd K ("_law_is_truth", none)) fd
  g__law_is_number : mg "_law_is_number" = some (.ref (He.fAd K ("_law_is_number", none)))
  d__law_is_number : ∃ fd, FunD K "_law_is_number" "_law_is_number" (defArgs s__law_is_number) (defBody s__law_is_number) (defScope s__law_is_number) [] [] (He.fAd K ("_law_is_number", none)) fd
  g__law_al_alarm : mg "_law_al_alarm" = some (.ref (He.fAd K ("_law_al_alarm", none)))
  d__law_al_alarm : ∃ fd, FunD K "_law_al_alarm" "_law_al_alarm" (defArgs s__law_al_alarm) (defBody s__law_al_alarm) (defScope s__law_al_alarm) [] [] (He.fAd K ("_law_al_alarm", none)) fd
  g__law_al_several : mg "_law_al_several" = some (.ref (He.fAd K ("_law_al_several", none)))
  d__law_al_several : ∃ fd, FunD K "_law_al_several" "_law_al_several" (defArgs s__law_al_several) (defBody s__law_al_several) (defScope s__law_al_several) [] [] (He.fAd K ("_law_al_several", none)) fd
  g__law_al_values : mg "_law_al_values" = some (.ref (He.fAd K ("_law_al_values", none)))
  d__law_al_values : ∃ fd, FunD K "_law_al_values" "_law_al_values" (defArgs s__law_al_values) (defBody s__law_al_values) (defScope s__law_al_values) [] [] (He.fAd K ("_law_al_values", none)) fd
  g__law_al_stream : mg "_law_al_stream" = some (.ref (He.fAd K ("_law_al_stream", none)))
  d__law_al_stream : ∃ fd, FunD K "_law_al_stream" "_law_al_stream" (defArgs s__law_al_stream) (defBody s__law_al_stream) (defScope s__law_al_stream) [] [] (He.fAd K ("_law_al_stream", none)) fd
  g__law_al_is_stream : mg "_law_al_is_stream" = some (.ref (He.fAd K ("_law_al_is_stream", none)))
  d__law_al_is_stream : ∃ fd, FunD K "_law_al_is_stream" "_law_al_is_stream" (defArgs s__law_al_is_stream) (defBody s__law_al_is_stream) (defScope s__law_al_is_stream) [] [] (He.fAd K ("_law_al_is_stream", none)) fd
  g__law_al_no_alarms : mg "_law_al_no_alarms" = some (.ref (He.fAd K ("_law_al_no_alarms", none)))
  d__law_al_no_alarms : ∃ fd, FunD K "_law_al_no_alarms" "_law_al_no_alarms" (defArgs s__law_al_no_alarms) (defBody s__law_al_no_alarms) (defScope s__law_al_no_alarms) [] [] (He.fAd K ("_law_al_no_alarms", none)) fd
  g__law_al_bent : mg "_law_al_bent" = some (.ref (He.fAd K ("_law_al_bent", none)))
  d__law_al_bent : ∃ fd, FunD K "_law_al_bent" "_law_al_bent" (defArgs s__law_al_bent) (defBody s__law_al_bent) (defScope s__law_al_bent) [] [] (He.fAd K ("_law_al_bent", none)) fd
  g_law : mg "law" = some (.ref (He.fAd K ("law", none)))
  d_law : ∃ fd, FunD K "law" "law" (defArgs s_law) (defBody s_law) (defScope s_law) [] [] (He.fAd K ("law", none)) fd
  d_Alarms_dot_init : ∃ fd, FunD K "__init__" "Alarms.__init__" (defArgs s_Alarms_dot_init) (defBody s_Alarms_dot_init) (defScope s_Alarms_dot_init) [] [] (He.fAd K ("Alarms", some "__init__")) fd
  g_KINDS : mg "KINDS" = some (.ref (He.ga K "KINDS"))
structure Facts (P : Program) (w : World) (K : PySem.W.Frag) (mg : Str → Option Value) (base : Heap) (g : Gv) : Prop extends Facts0 K mg where
  kinds : Kinds K g nCls subB exB
  g_AlarmError : mg "AlarmError" = some (.ref (g.CA 0))
  g_PartError : mg "PartError" = some (.ref (g.CA 1))
  g_ItemError : mg "ItemError" = some (.ref (g.CA 2))
  g_BadAlarm : mg "BadAlarm" = some (.ref (g.CA 3))
  g_BadAlarms : mg "BadAlarms" = some (.ref (g.CA 4))
  g_NoAlarms : mg "NoAlarms" = some (.ref (g.CA 5))
  g_Alarms : mg "Alarms" = some (.ref (g.CA 6))
  cl_Alarms : Cls K (g.CA 6)
  k_Alarms : Mk K (g.CA 6) (He.fAd K ("Alarms", some "__init__"))
  d_Alarms_dot_low : PropOf K (g.CA 6) "low" (DLH.pAd K ("Alarms", "low")) (DLH.gAd K ("Alarms", "low")) ∧ ∃ fd, FunD K "low" "Alarms.low" (defArgs s_Alarms_dot_low) (defBody s_Alarms_dot_low) (defScope s_Alarms_dot_low) [] [] (DLH.gAd K ("Alarms", "low")) fd
  d_Alarms_dot_high : PropOf K (g.CA 6) "high" (DLH.pAd K ("Alarms", "high")) (DLH.gAd K ("Alarms", "high")) ∧ ∃ fd, FunD K "high" "Alarms.high" (defArgs s_Alarms_dot_high) (defBody s_Alarms_dot_high) (defScope s_Alarms_dot_high) [] [] (DLH.gAd K ("Alarms", "high")) fd
  d_Alarms_dot_alarms : PropOf K (g.CA 6) "alarms" (DLH.pAd K ("Alarms", "alarms")) (DLH.gAd K ("Alarms", "alarms")) ∧ ∃ fd, FunD K "alarms" "Alarms.alarms" (defArgs s_Alarms_dot_alarms) (defBody s_Alarms_dot_alarms) (defScope s_Alarms_dot_alarms) [] [] (DLH.gAd K ("Alarms", "alarms")) fd
  d_Alarms_dot_span : PropOf K (g.CA 6) "span" (DLH.pAd K ("Alarms", "span")) (DLH.gAd K ("Alarms", "span")) ∧ ∃ fd, FunD K "span" "Alarms.span" (defArgs s_Alarms_dot_span) (defBody s_Alarms_dot_span) (defScope s_Alarms_dot_span) [] [] (DLH.gAd K ("Alarms", "span")) fd
  fl_own_alarms : ∀ c, okd_own_alarms c = true → Cls K (g.CA c) ∧ NoAttr K (g.CA c) "own_alarms"
  fl_own_high : ∀ c, okd_own_high c = true → Cls K (g.CA c) ∧ NoAttr K (g.CA c) "own_high"
  fl_own_low : ∀ c, okd_own_low c = true → Cls K (g.CA c) ∧ NoAttr K (g.CA c) "own_low"
  t_KINDS : tupB K (He.ga K "KINDS") k_KINDS = true
  i_BadAlarm : IniOk P w K mg base "index" (g.CA 3)
  i_BadAlarms : IniOk P w K mg base "part" (g.CA 4)
  i_NoAlarms : IniOk P w K mg base "part" (g.CA 5)
  xf_index : ∀ c, okf_index c = true → XfC K (g.CA c) ∧ PySem.W.findIn K (.ref (g.CA c)) "index" = some none
  xf_part : ∀ c, okf_part c = true → XfC K (g.CA c) ∧ PySem.W.findIn K (.ref (g.CA c)) "part" = some none
  okc : ∀ c, okc c = true → PySem.W.exmOne K (.ref (g.CA c)) (.ref (g.CA 0)) = some true
  tape : IsTape g (TT K) tn
  lam : LamT g (TT K)
  tabs : ((TT K).map (·.1)).Nodup
  tab_law : LamX.TabB base mg (He.codeOf K ("law", none)) (He.cT K ("law", none)).2
section
variable {P : Program} {w : World} {K : PySem.W.Frag} {mg : Str → Option Value} {base : Heap} {g : Gv}
theorem sc__law_caught : FnScope ["action", "found", "error"] ["action"] (defScope s__law_caught) := ⟨rfl, rfl, rfl, by decide +kernel, rfl, by decide +kernel, by decide +kernel⟩
theorem sc__law_begun : FnScope ["script", "great", "cell"] ["script"] (defScope s__law_begun) := ⟨rfl, rfl, rfl, by decide +kernel, rfl, by decide +kernel, by decide +kernel⟩
def t1__law_begun : DS := (dAsg 1 (dLc (dIter (dVar 0)) (gNm 2) (dTest (dBin fGe (dCB (one fAbs) (dCons (dVar 2) dNil)) (dBin fPow (dC (.int 10)) (dC (.int 18))))) (dBin fSub (dCB (one fAbs) (dCons (dVar 2) dNil)) (dBin fPow (dC (.int 10)) (dC (.int 18)))) [2]))
def u__law_begun : DA := (dCons (dVar 1) (dCons (dLc (dIter (dVar 0)) (gNm 2) dYes (dCB (one fAbs) (dCons (dVar 2) dNil)) [2]) (dCons (dC (.int 0)) (dCons (dC (.int 0)) dNil))))
def k__law_begun : List Key := [.inr "great", .inr "cells", .inr "rest", .inr "turn"]
theorem okf__law_begun (FF : Facts0 K mg) {fd : FuncData} (F : FunD K "_law_begun" "_law_begun" (defArgs s__law_begun) (defBody s__law_begun) (defScope s__law_begun) [] [] (He.fAd K ("_law_begun", none)) fd)
    (hp : ∀ ns : List Int, ns.length ≤ 63 → t1__law_begun { nx := fun α => u__law_begun α (tapeSs tn k__law_begun) (fun _ => False), rt := fun _ => False } (startA ["script", "great", "cell"] [.fr (.scr ns)]) (fun _ => False)) : FnOk P w K mg base (L2.CX P w) 1 (He.fAd K ("_law_begun", none)) fd ["script"] (spBegun (TT K) K tn) :=
  begun_ok (k := 0) (ks := k__law_begun) F sc__law_begun tnok (by decide +kernel) (fun cdv A outer s H E hr => ⟨QS.zero (qs_setLc (i := 1) (own := [("cell", 2)]) rfl sc__law_begun.nd rfl rfl rfl (qi_any (qe_var (i := 0) rfl (vis_of rfl))) (blkOk_by (by kernel_rfl)) (fun _ _ _ _ _ => (qgv_name (i := 2) sc__law_begun.nd rfl (loc_of rfl) (by decide))) (fun _ _ _ _ _ => (qts_one (qt_cmp op_ge os_ge (qe_callB call_abs cs_abs rfl FF.m_abs bt_abs (qa_cons (qe_var (i := 2) rfl (vis_of rfl)) qa_nil)) (qe_bin op_powB os_pow qe_int qe_int) (nomark _)))) (fun _ _ _ _ _ => (qe_bin op_sub os_sub (qe_callB call_abs cs_abs rfl FF.m_abs bt_abs (qa_cons (qe_var (i := 2) rfl (vis_of rfl)) qa_nil)) (qe_bin op_powB os_pow qe_int qe_int)))) rfl, QP.zero (qp_cons (qe_var (i := 1) rfl (vis_of rfl)) (qp_cons (qe_lc (own := [("cell", 2)]) rfl sc__law_begun.nd (qi_any (qe_var (i := 0) rfl (vis_of rfl))) (blkOk_by (by kernel_rfl)) (fun _ _ _ _ _ => (qgv_name (i := 2) sc__law_begun.nd rfl (loc_of rfl) (by decide))) (fun _ _ _ _ _ => qts_nil) (fun _ _ _ _ _ => (qe_callB call_abs cs_abs rfl FF.m_abs bt_abs (qa_cons (qe_var (i := 2) rfl (vis_of rfl)) qa_nil)))) (qp_cons qe_int (qp_cons qe_int qp_nil)))) rfl⟩) hp
theorem sc__wall : FnScope ["k"] ["k"] (defScope s__wall) := ⟨rfl, rfl, rfl, by decide +kernel, rfl, by decide +kernel, by decide +kernel⟩
def t__wall : DS := (dWhile (dTruth (dC (.bl true))) dNext)
def phi__wall : DF := phi ["k"] t__wall
theorem okf__wall (FF : Facts P w K mg base g) {fd : FuncData} (F : FunD K "_wall" "_wall" (defArgs s__wall) (defBody s__wall) (defScope s__wall) [] [] (He.fAd K ("_wall", none)) fd) : FnOk P w K mg base (L2.CX P w) 1 (He.fAd K ("_wall", none)) fd ["k"] (spD K g 0 1 phi__wall) :=
  fn_ok (k := 0) (N := ["k"]) (t := t__wall) F sc__wall (fun cdv A outer s H E hr => QSs.zero (qss_one (qs_while (passes_of rfl) (qt_truth qe_bl (by intro _; rfl)) (qss_one qs_pass))) rfl)
theorem ok__wall (FF : Facts P w K mg base g) : Fn P w K mg base g 1 "_wall" ["k"] phi__wall 0 := by
  obtain ⟨fd, F⟩ := FF.d__wall
  exact ⟨_, fd, okf__wall FF F, FF.g__wall, F.kp, F.bindsN fun _ _ _ _ _ _ us hl => match us, hl with | [_], _ => rfl⟩
theorem sc_is_number : FnScope ["thing"] ["thing"] (defScope s_is_number) := ⟨rfl, rfl, rfl, by decide +kernel, rfl, by decide +kernel, by decide +kernel⟩
def t_is_number : DS := (dRet (dAndV (dIs nCls exB (isT "int") (dVar 0)) (dNotV (dIs nCls exB (isT "bool") (dVar 0)))))
def phi_is_number : DF := phi ["thing"] t_is_number
theorem okf_is_number (FF : Facts P w K mg base g) {fd : FuncData} (F : FunD K "is_number" "is_number" (defArgs s_is_number) (defBody s_is_number) (defScope s_is_number) [] [] (He.fAd K ("is_number", none)) fd) : FnOk P w K mg base (L2.CX P w) 1 (He.fAd K ("is_number", none)) fd ["thing"] (spD K g 0 1 phi_is_number) :=
  fn_ok (k := 0) (N := ["thing"]) (t := t_is_number) F sc_is_number (fun cdv A outer s H E hr => QSs.zero (qss_one (qs_ret (qe_and (qe_isT FF.kinds rfl FF.m_isinstance rfl FF.m_int bt_int (by decide) (qe_var (i := 0) rfl (vis_of rfl))) (qe_one (qe_not (qe_isT FF.kinds rfl FF.m_isinstance rfl FF.m_bool bt_bool (by decide) (qe_var (i := 0) rfl (vis_of rfl)))))))) rfl)
theorem ok_is_number (FF : Facts P w K mg base g) : Fn P w K mg base g 1 "is_number" ["thing"] phi_is_number 0 := by
  obtain ⟨fd, F⟩ := FF.d_is_number
  exact ⟨_, fd, okf_is_number FF F, FF.g_is_number, F.kp, F.bindsN fun _ _ _ _ _ _ us hl => match us, hl with | [_], _ => rfl⟩
theorem sc_is_between : FnScope ["thing", "low", "high"] ["thing", "low", "high"] (defScope s_is_between) := ⟨rfl, rfl, rfl, by decide +kernel, rfl, by decide +kernel, by decide +kernel⟩
def t_is_between : DS := (dRet (dAndV (dCall 1 phi_is_number (dCons (dVar 0) dNil)) (dChain fLe fLe (dVar 1) (dVar 0) (dVar 2))))
def phi_is_between : DF := phi ["thing", "low", "high"] t_is_between
theorem okf_is_between (FF : Facts P w K mg base g) {fd : FuncData} (F : FunD K "is_between" "is_between" (defArgs s_is_between) (defBody s_is_between) (defScope s_is_between) [] [] (He.fAd K ("is_between", none)) fd) : FnOk P w K mg base (L2.CX P w) 2 (He.fAd K ("is_between", none)) fd ["thing", "low", "high"] (spD K g 0 3 phi_is_between) :=
  fn_ok (k := 1) (N := ["thing", "low", "high"]) (t := t_is_between) F sc_is_between (fun cdv A outer s H E hr => QSs.zero (qss_one (qs_ret (qe_and (qe_call (ok_is_number FF) (hr.mono (by decide)) rfl (qa_cons (qe_var (i := 0) rfl (vis_of rfl)) qa_nil)) (qe_one (qe_chain op_le op_le os_le os_le (qe_var (i := 1) rfl (vis_of rfl)) (qe_var (i := 0) rfl (vis_of rfl)) (qe_var (i := 2) rfl (vis_of rfl))))))) rfl)
theorem ok_is_between (FF : Facts P w K mg base g) : Fn P w K mg base g 2 "is_between" ["thing", "low", "high"] phi_is_between 0 := by
  obtain ⟨fd, F⟩ := FF.d_is_between
  exact ⟨_, fd, okf_is_between FF F, FF.g_is_between, F.kp, F.bindsN fun _ _ _ _ _ _ us hl => match us, hl with | [_, _, _], _ => rfl⟩
theorem sc_is_list : FnScope ["thing"] ["thing"] (defScope s_is_list) := ⟨rfl, rfl, rfl, by decide +kernel, rfl, by decide +kernel, by decide +kernel⟩
def t_is_list : DS := (dRet (dIs2 nCls exB "list" "tuple" (dVar 0)))
def phi_is_list : DF := phi ["thing"] t_is_list
theorem okf_is_list (FF : Facts P w K mg base g) {fd : FuncData} (F : FunD K "is_list" "is_list" (defArgs s_is_list) (defBody s_is_list) (defScope s_is_list) [] [] (He.fAd K ("is_list", none)) fd) : FnOk P w K mg base (L2.CX P w) 1 (He.fAd K ("is_list", none)) fd ["thing"] (spD K g 0 1 phi_is_list) :=
  fn_ok (k := 0) (N := ["thing"]) (t := t_is_list) F sc_is_list (fun cdv A outer s H E hr => QSs.zero (qss_one (qs_ret (qe_isT2 FF.kinds rfl FF.m_isinstance rfl FF.m_list bt_list (by decide) rfl FF.m_tuple bt_tuple (by decide) (qe_var (i := 0) rfl (vis_of rfl))))) rfl)
theorem ok_is_list (FF : Facts P w K mg base g) : Fn P w K mg base g 1 "is_list" ["thing"] phi_is_list 0 := by
  obtain ⟨fd, F⟩ := FF.d_is_list
  exact ⟨_, fd, okf_is_list FF F, FF.g_is_list, F.kp, F.bindsN fun _ _ _ _ _ _ us hl => match us, hl with | [_], _ => rfl⟩
theorem sc_alarm_right : FnScope ["thing", "item"] ["thing"] (defScope s_alarm_right) := ⟨rfl, rfl, rfl, by decide +kernel, rfl, by decide +kernel, by decide +kernel⟩
def t_alarm_right : DS := (dSeq (dIf (dOrT (dNotT (dTruth (dIs nCls exB (isT "tuple") (dVar 0)))) (dTest (dBin (fIn true) (dCB (one fLen) (dCons (dVar 0) dNil)) (dTupE (dCons (dC (.int 3)) (dCons (dC (.int 4)) dNil)))))) (dRet (dC (.bl false))) dNext) (dSeq (dIf (dOrT (dNotT (dTruth (dIs nCls exB (isT "str") (dBin fIx (dVar 0) (dC (.int 0)))))) (dOrT (dTest (dBin (fIn true) (dBin fIx (dVar 0) (dC (.int 0))) (dC (.tup k_KINDS)))) (dNotT (dTruth (dCall 3 phi_is_between (dCons (dBin fIx (dVar 0) (dC (.int 1))) (dCons (dC (.int 1)) (dCons (dC (.int 8)) dNil)))))))) (dRet (dC (.bl false))) dNext) (dSeq (dIf (dNotT (dTruth (dCB (one fAll) (dCons (dLc (dIter (dSl (dVar 0) (dPart (dC (.int 2))) dNoPart)) (gNm 1) dYes (dCall 3 phi_is_between (dCons (dVar 1) (dCons (dUn fNeg (dC (.int 1000))) (dCons (dC (.int 1000)) dNil)))) [1]) dNil)))) (dRet (dC (.bl false))) dNext) (dSeq (dIf (dTest (dBin fEq (dCB (one fLen) (dCons (dVar 0) dNil)) (dC (.int 3)))) (dRet (dC (.bl true))) dNext) (dRet (dIfE (dTest (dBin fEq (dBin fIx (dVar 0) (dC (.int 0))) (dC (.str "over")))) (dBin fLt (dBin fIx (dVar 0) (dC (.int 3))) (dBin fIx (dVar 0) (dC (.int 2)))) (dBin fGt (dBin fIx (dVar 0) (dC (.int 3))) (dBin fIx (dVar 0) (dC (.int 2))))))))))
def phi_alarm_right : DF := phi ["thing", "item"] t_alarm_right
theorem okf_alarm_right (FF : Facts P w K mg base g) {fd : FuncData} (F : FunD K "alarm_right" "alarm_right" (defArgs s_alarm_right) (defBody s_alarm_right) (defScope s_alarm_right) [] [] (He.fAd K ("alarm_right", none)) fd) : FnOk P w K mg base (L2.CX P w) 3 (He.fAd K ("alarm_right", none)) fd ["thing"] (spD K g 0 1 phi_alarm_right) :=
  fn_ok (k := 2) (N := ["thing", "item"]) (t := t_alarm_right) F sc_alarm_right (fun cdv A outer s H E hr => QSs.zero (qss_cons (qs_if (QW.qt (qw_or (qt_not (qt_truth (qe_isT FF.kinds rfl FF.m_isinstance rfl FF.m_tuple bt_tuple (by decide) (qe_var (i := 0) rfl (vis_of rfl))) (by intro _; rfl))) (qw_or1 (qt_cmp (or_notIn (u65 hr)) (os_in true) (qe_callB call_len cs_len rfl FF.m_len bt_len (qa_cons (qe_var (i := 0) rfl (vis_of rfl)) qa_nil)) (qe_tup (qa_cons qe_int (qa_cons qe_int qa_nil))) rfl)))) (qss_one (qs_ret qe_bl)) qss_nil) (qss_cons (qs_if (QW.qt (qw_or (qt_not (qt_truth (qe_isT FF.kinds rfl FF.m_isinstance rfl FF.m_str bt_str (by decide) (qe_ix (qe_var (i := 0) rfl (vis_of rfl)) qe_int fun _ _ => rfl)) (by intro _; rfl))) (qw_or (qt_cmp (or_notIn (u65 hr)) (os_in true) (qe_ix (qe_var (i := 0) rfl (vis_of rfl)) qe_int fun _ _ => rfl) (qe_tupG rfl FF.g_KINDS FF.t_KINDS rfl) rfl) (qw_or1 (qt_not (qt_truth (qe_call (ok_is_between FF) (hr.mono (by decide)) rfl (qa_cons (qe_ix (qe_var (i := 0) rfl (vis_of rfl)) qe_int fun _ _ => rfl) (qa_cons qe_int (qa_cons (qe_intG FF.c_MOST_WINDOW rfl) qa_nil)))) (by intro _; rfl))))))) (qss_one (qs_ret qe_bl)) qss_nil) (qss_cons (qs_if (qt_not (qt_truth (qe_callB (cr_all rfl) cs_all rfl FF.m_all bt_all (qa_cons (qe_lc (own := [("item", 1)]) rfl sc_alarm_right.nd (qi_any (qe_slice (qe_var (i := 0) rfl (vis_of rfl)) (qo_some qe_int) qo_none)) (blkOk_by (by kernel_rfl)) (fun _ _ _ _ _ => (qgv_name (i := 1) sc_alarm_right.nd rfl (loc_of rfl) (by decide))) (fun _ _ _ _ _ => qts_nil) (fun _ _ _ _ _ => (qe_call (ok_is_between FF) (hr.mono (by decide)) rfl (qa_cons (qe_var (i := 1) rfl (vis_of rfl)) (qa_cons (qe_un un_neg us_neg (qe_intG FF.c_MOST_MARK rfl)) (qa_cons (qe_intG FF.c_MOST_MARK rfl) qa_nil)))))) qa_nil)) (by intro _; rfl))) (qss_one (qs_ret qe_bl)) qss_nil) (qss_cons (qs_if (qt_cmp (op_eqD (u64 hr)) os_eq (qe_callB call_len cs_len rfl FF.m_len bt_len (qa_cons (qe_var (i := 0) rfl (vis_of rfl)) qa_nil)) qe_int (nomark _)) (qss_one (qs_ret qe_bl)) qss_nil) (qss_one (qs_ret (qe_ifExp (qt_cmp (op_eqD (u64 hr)) os_eq (qe_ix (qe_var (i := 0) rfl (vis_of rfl)) qe_int fun _ _ => rfl) qe_str (nomark _)) (qe_cmp op_lt os_lt (qe_ix (qe_var (i := 0) rfl (vis_of rfl)) qe_int fun _ _ => rfl) (qe_ix (qe_var (i := 0) rfl (vis_of rfl)) qe_int fun _ _ => rfl) (nomark _)) (qe_cmp op_gt os_gt (qe_ix (qe_var (i := 0) rfl (vis_of rfl)) qe_int fun _ _ => rfl) (qe_ix (qe_var (i := 0) rfl (vis_of rfl)) qe_int fun _ _ => rfl) (nomark _))))))))) rfl)
theorem ok_alarm_right (FF : Facts P w K mg base g) : Fn P w K mg base g 3 "alarm_right" ["thing"] phi_alarm_right 0 := by
  obtain ⟨fd, F⟩ := FF.d_alarm_right
  exact ⟨_, fd, okf_alarm_right FF F, FF.g_alarm_right, F.kp, F.bindsN fun _ _ _ _ _ _ us hl => match us, hl with | [_], _ => rfl⟩
theorem sc_need_values : FnScope ["low", "high"] ["low", "high"] (defScope s_need_values) := ⟨rfl, rfl, rfl, by decide +kernel, rfl, by decide +kernel, by decide +kernel⟩
def t_need_values : DS := (dSeq (dIf (dNotT (dTruth (dCall 3 phi_is_between (dCons (dVar 0) (dCons (dUn fNeg (dC (.int 100))) (dCons (dC (.int 100)) dNil)))))) (dRaiseI 4 "part" (dCons (dC (.str "low")) dNil)) dNext) (dIf (dNotT (dTruth (dCall 3 phi_is_between (dCons (dVar 1) (dCons (dVar 0) (dCons (dC (.int 100)) dNil)))))) (dRaiseI 4 "part" (dCons (dC (.str "high")) dNil)) dNext))
def phi_need_values : DF := phi ["low", "high"] t_need_values
theorem okf_need_values (FF : Facts P w K mg base g) {fd : FuncData} (F : FunD K "need_values" "need_values" (defArgs s_need_values) (defBody s_need_values) (defScope s_need_values) [] [] (He.fAd K ("need_values", none)) fd) : FnOk P w K mg base (L2.CX P w) 3 (He.fAd K ("need_values", none)) fd ["low", "high"] (spD K g 0 2 phi_need_values) :=
  fn_ok (k := 2) (N := ["low", "high"]) (t := t_need_values) F sc_need_values (fun cdv A outer s H E hr => QSs.zero (qss_cons (qs_if (qt_not (qt_truth (qe_call (ok_is_between FF) (hr.mono (by decide)) rfl (qa_cons (qe_var (i := 0) rfl (vis_of rfl)) (qa_cons (qe_un un_neg us_neg (qe_intG FF.c_MOST_VALUE rfl)) (qa_cons (qe_intG FF.c_MOST_VALUE rfl) qa_nil)))) (by intro _; rfl))) (qss_one (qs_raiseI (c := 4) rfl FF.i_BadAlarms (hr.mono (by decide)) FF.g_BadAlarms rfl (qa_cons qe_str qa_nil))) qss_nil) (qss_one (qs_if (qt_not (qt_truth (qe_call (ok_is_between FF) (hr.mono (by decide)) rfl (qa_cons (qe_var (i := 1) rfl (vis_of rfl)) (qa_cons (qe_var (i := 0) rfl (vis_of rfl)) (qa_cons (qe_intG FF.c_MOST_VALUE rfl) qa_nil)))) (by intro _; rfl))) (qss_one (qs_raiseI (c := 4) rfl FF.i_BadAlarms (hr.mono (by decide)) FF.g_BadAlarms rfl (qa_cons qe_str qa_nil))) qss_nil))) rfl)
theorem ok_need_values (FF : Facts P w K mg base g) : Fn P w K mg base g 3 "need_values" ["low", "high"] phi_need_values 0 := by
  obtain ⟨fd, F⟩ := FF.d_need_values
  exact ⟨_, fd, okf_need_values FF F, FF.g_need_values, F.kp, F.bindsN fun _ _ _ _ _ _ us hl => match us, hl with | [_, _], _ => rfl⟩
theorem sc_Alarms_dot_low : FnScope ["self"] ["self"] (defScope s_Alarms_dot_low) := ⟨rfl, rfl, rfl, by decide +kernel, rfl, by decide +kernel, by decide +kernel⟩
def t_Alarms_dot_low : DS := (dRet (dFld "own_low" okd_own_low (dVar 0)))
def phi_Alarms_dot_low : DF := phi ["self"] t_Alarms_dot_low
theorem pr_Alarms_dot_low (FF : Facts P w K mg base g) : Pr P w K mg base g 1 6 "low" phi_Alarms_dot_low := by
  obtain ⟨PO, fd, F⟩ := FF.d_Alarms_dot_low
  exact ⟨_, _, fd, ["self"], FF.cl_Alarms, PO, fn_ok (k := 0) (N := ["self"]) (t := t_Alarms_dot_low) F sc_Alarms_dot_low (fun cdv A outer s H E hr => QSs.zero (qss_one (qs_ret (qe_fld FF.fl_own_low (qe_var (i := 0) rfl (vis_of rfl))))) rfl), F.bindsN fun _ _ _ _ _ _ us hl => match us, hl with | [_], _ => rfl⟩
theorem sc_Alarms_dot_high : FnScope ["self"] ["self"] (defScope s_Alarms_dot_high) := ⟨rfl, rfl, rfl, by decide +kernel, rfl, by decide +kernel, by decide +kernel⟩
def t_Alarms_dot_high : DS := (dRet (dFld "own_high" okd_own_high (dVar 0)))
def phi_Alarms_dot_high : DF := phi ["self"] t_Alarms_dot_high
theorem pr_Alarms_dot_high (FF : Facts P w K mg base g) : Pr P w K mg base g 1 6 "high" phi_Alarms_dot_high := by
  obtain ⟨PO, fd, F⟩ := FF.d_Alarms_dot_high
  exact ⟨_, _, fd, ["self"], FF.cl_Alarms, PO, fn_ok (k := 0) (N := ["self"]) (t := t_Alarms_dot_high) F sc_Alarms_dot_high (fun cdv A outer s H E hr => QSs.zero (qss_one (qs_ret (qe_fld FF.fl_own_high (qe_var (i := 0) rfl (vis_of rfl))))) rfl), F.bindsN fun _ _ _ _ _ _ us hl => match us, hl with | [_], _ => rfl⟩
theorem sc_Alarms_dot_alarms : FnScope ["self"] ["self"] (defScope s_Alarms_dot_alarms) := ⟨rfl, rfl, rfl, by decide +kernel, rfl, by decide +kernel, by decide +kernel⟩
def t_Alarms_dot_alarms : DS := (dRet (dFld "own_alarms" okd_own_alarms (dVar 0)))
def phi_Alarms_dot_alarms : DF := phi ["self"] t_Alarms_dot_alarms
theorem pr_Alarms_dot_alarms (FF : Facts P w K mg base g) : Pr P w K mg base g 1 6 "alarms" phi_Alarms_dot_alarms := by
  obtain ⟨PO, fd, F⟩ := FF.d_Alarms_dot_alarms
  exact ⟨_, _, fd, ["self"], FF.cl_Alarms, PO, fn_ok (k := 0) (N := ["self"]) (t := t_Alarms_dot_alarms) F sc_Alarms_dot_alarms (fun cdv A outer s H E hr => QSs.zero (qss_one (qs_ret (qe_fld FF.fl_own_alarms (qe_var (i := 0) rfl (vis_of rfl))))) rfl), F.bindsN fun _ _ _ _ _ _ us hl => match us, hl with | [_], _ => rfl⟩
theorem sc_Alarms_dot_span : FnScope ["self"] ["self"] (defScope s_Alarms_dot_span) := ⟨rfl, rfl, rfl, by decide +kernel, rfl, by decide +kernel, by decide +kernel⟩
def t_Alarms_dot_span : DS := (dDrop (dCall 1 phi__wall (dCons (dC (.int 0)) dNil)))
def phi_Alarms_dot_span : DF := phi ["self"] t_Alarms_dot_span
theorem pr_Alarms_dot_span (FF : Facts P w K mg base g) : Pr P w K mg base g 2 6 "span" phi_Alarms_dot_span := by
  obtain ⟨PO, fd, F⟩ := FF.d_Alarms_dot_span
  exact ⟨_, _, fd, ["self"], FF.cl_Alarms, PO, fn_ok (k := 1) (N := ["self"]) (t := t_Alarms_dot_span) F sc_Alarms_dot_span (fun cdv A outer s H E hr => QSs.zero (qss_one (qs_expr (qe_call (ok__wall FF) (hr.mono (by decide)) rfl (qa_cons qe_int qa_nil)))) rfl), F.bindsN fun _ _ _ _ _ _ us hl => match us, hl with | [_], _ => rfl⟩
theorem sc_need_alarms : FnScope ["alarms", "part"] ["alarms", "part"] (defScope s_need_alarms) := ⟨rfl, rfl, rfl, by decide +kernel, rfl, by decide +kernel, by decide +kernel⟩
def t_need_alarms : DS := (dIf (dNotT (dTruth (dIs nCls exB (isC subB 6) (dVar 0)))) (dRaiseI 5 "part" (dCons (dVar 1) dNil)) dNext)
def phi_need_alarms : DF := phi ["alarms", "part"] t_need_alarms
theorem okf_need_alarms (FF : Facts P w K mg base g) {fd : FuncData} (F : FunD K "need_alarms" "need_alarms" (defArgs s_need_alarms) (defBody s_need_alarms) (defScope s_need_alarms) [.non] [] (He.fAd K ("need_alarms", none)) fd) : FnOk P w K mg base (L2.CX P w) 3 (He.fAd K ("need_alarms", none)) fd ["alarms", "part"] (spD K g 0 2 phi_need_alarms) :=
  fn_ok (k := 2) (N := ["alarms", "part"]) (t := t_need_alarms) F sc_need_alarms (fun cdv A outer s H E hr => QSs.zero (qss_one (qs_if (qt_not (qt_truth (qe_isC (c := 6) FF.kinds (by decide) rfl FF.m_isinstance rfl FF.g_Alarms (qe_var (i := 0) rfl (vis_of rfl))) (by intro _; rfl))) (qss_one (qs_raiseI (c := 5) rfl FF.i_NoAlarms (hr.mono (by decide)) FF.g_NoAlarms rfl (qa_cons (qe_var (i := 1) rfl (vis_of rfl)) qa_nil))) qss_nil)) rfl)
theorem okd_need_alarms_1 (FF : Facts P w K mg base g) : FnDf P w K mg base g 3 "need_alarms" 2 [.non] phi_need_alarms 0 := by
  obtain ⟨fd, F⟩ := FF.d_need_alarms
  obtain ⟨ds, hv, hb⟩ := F.binds1 (ps := ["alarms", "part"]) 1 0 (by simp) rfl fun _ _ _ _ _ _ _ us its h1 h2 => match us, its, h1, h2 with | [_], [_], _, _ => ⟨_, rfl, rfl⟩
  exact ⟨_, fd, ["alarms", "part"], _, ds, okf_need_alarms FF F, FF.g_need_alarms, F.kp, hb, hv, fun _ => reps_dV rfl⟩
theorem ok_need_alarms (FF : Facts P w K mg base g) : Fn P w K mg base g 3 "need_alarms" ["alarms", "part"] phi_need_alarms 0 := by
  obtain ⟨fd, F⟩ := FF.d_need_alarms
  obtain ⟨ds, hv, hb⟩ := F.binds1 (ps := ["alarms", "part"]) 2 1 (by simp) rfl fun _ _ _ _ _ _ _ us its h1 h2 => match us, its, h1, h2 with | [_, _], [_], _, _ => ⟨_, rfl, rfl⟩
  cases hv
  exact ⟨_, fd, okf_need_alarms FF F, FF.g_need_alarms, F.kp, hb⟩
theorem sc_stream_right : FnScope ["alarms", "thing", "item"] ["alarms", "thing"] (defScope s_stream_right) := ⟨rfl, rfl, rfl, by decide +kernel, rfl, by decide +kernel, by decide +kernel⟩
def t_stream_right : DS := (dSeq (dIf (dOrT (dNotT (dTruth (dIs nCls exB (isT "tuple") (dVar 1)))) (dTest (dBin fGt (dCB (one fLen) (dCons (dVar 1) dNil)) (dC (.int 200))))) (dRet (dC (.bl false))) dNext) (dRet (dCB (one fAll) (dCons (dLc (dIter (dVar 1)) (gNm 2) dYes (dCall 3 phi_is_between (dCons (dVar 2) (dCons (dProp 6 phi_Alarms_dot_low (dVar 0)) (dCons (dProp 6 phi_Alarms_dot_high (dVar 0)) dNil)))) [2]) dNil))))
def phi_stream_right : DF := phi ["alarms", "thing", "item"] t_stream_right
theorem okf_stream_right (FF : Facts P w K mg base g) {fd : FuncData} (F : FunD K "stream_right" "stream_right" (defArgs s_stream_right) (defBody s_stream_right) (defScope s_stream_right) [] [] (He.fAd K ("stream_right", none)) fd) : FnOk P w K mg base (L2.CX P w) 3 (He.fAd K ("stream_right", none)) fd ["alarms", "thing"] (spD K g 0 2 phi_stream_right) :=
  fn_ok (k := 2) (N := ["alarms", "thing", "item"]) (t := t_stream_right) F sc_stream_right (fun cdv A outer s H E hr => QSs.zero (qss_cons (qs_if (QW.qt (qw_or (qt_not (qt_truth (qe_isT FF.kinds rfl FF.m_isinstance rfl FF.m_tuple bt_tuple (by decide) (qe_var (i := 1) rfl (vis_of rfl))) (by intro _; rfl))) (qw_or1 (qt_cmp op_gt os_gt (qe_callB call_len cs_len rfl FF.m_len bt_len (qa_cons (qe_var (i := 1) rfl (vis_of rfl)) qa_nil)) (qe_intG FF.c_MOST_TICKS rfl) (nomark _))))) (qss_one (qs_ret qe_bl)) qss_nil) (qss_one (qs_ret (qe_callB (cr_all rfl) cs_all rfl FF.m_all bt_all (qa_cons (qe_lc (own := [("item", 2)]) rfl sc_stream_right.nd (qi_any (qe_var (i := 1) rfl (vis_of rfl))) (blkOk_by (by kernel_rfl)) (fun _ _ _ _ _ => (qgv_name (i := 2) sc_stream_right.nd rfl (loc_of rfl) (by decide))) (fun _ _ _ _ _ => qts_nil) (fun _ _ _ _ _ => (qe_call (ok_is_between FF) (hr.mono (by decide)) rfl (qa_cons (qe_var (i := 2) rfl (vis_of rfl)) (qa_cons (qe_prop (pr_Alarms_dot_low FF) (hr.mono (by decide)) (qe_var (i := 0) rfl (vis_of rfl))) (qa_cons (qe_prop (pr_Alarms_dot_high FF) (hr.mono (by decide)) (qe_var (i := 0) rfl (vis_of rfl))) qa_nil)))))) qa_nil))))) rfl)
theorem ok_stream_right (FF : Facts P w K mg base g) : Fn P w K mg base g 3 "stream_right" ["alarms", "thing"] phi_stream_right 0 := by
  obtain ⟨fd, F⟩ := FF.d_stream_right
  exact ⟨_, fd, okf_stream_right FF F, FF.g_stream_right, F.kp, F.bindsN fun _ _ _ _ _ _ us hl => match us, hl with | [_, _], _ => rfl⟩
theorem sc_is_stream : FnScope ["alarms", "thing"] ["alarms", "thing"] (defScope s_is_stream) := ⟨rfl, rfl, rfl, by decide +kernel, rfl, by decide +kernel, by decide +kernel⟩
def t_is_stream : DS := (dSeq (dDrop (dCallD 2 [.non] phi_need_alarms (dCons (dVar 0) dNil))) (dRet (dCall 2 phi_stream_right (dCons (dVar 0) (dCons (dVar 1) dNil)))))
def phi_is_stream : DF := phi ["alarms", "thing"] t_is_stream
theorem okf_is_stream (FF : Facts P w K mg base g) {fd : FuncData} (F : FunD K "is_stream" "is_stream" (defArgs s_is_stream) (defBody s_is_stream) (defScope s_is_stream) [] [] (He.fAd K ("is_stream", none)) fd) : FnOk P w K mg base (L2.CX P w) 4 (He.fAd K ("is_stream", none)) fd ["alarms", "thing"] (spD K g 0 2 phi_is_stream) :=
  fn_ok (k := 3) (N := ["alarms", "thing"]) (t := t_is_stream) F sc_is_stream (fun cdv A outer s H E hr => QSs.zero (qss_cons (qs_expr (qe_callD (okd_need_alarms_1 FF) (hr.mono (by decide)) rfl (qa_cons (qe_var (i := 0) rfl (vis_of rfl)) qa_nil))) (qss_one (qs_ret (qe_call (ok_stream_right FF) (hr.mono (by decide)) rfl (qa_cons (qe_var (i := 0) rfl (vis_of rfl)) (qa_cons (qe_var (i := 1) rfl (vis_of rfl)) qa_nil)))))) rfl)
theorem ok_is_stream (FF : Facts P w K mg base g) : Fn P w K mg base g 4 "is_stream" ["alarms", "thing"] phi_is_stream 0 := by
  obtain ⟨fd, F⟩ := FF.d_is_stream
  exact ⟨_, fd, okf_is_stream FF F, FF.g_is_stream, F.kp, F.bindsN fun _ _ _ _ _ _ us hl => match us, hl with | [_, _], _ => rfl⟩
theorem sc__law_blended : FnScope ["state", "turn", "found", "prime", "blend", "cell"] ["state"] (defScope s__law_blended) := ⟨rfl, rfl, rfl, by decide +kernel, rfl, by decide +kernel, by decide +kernel⟩
def t__law_blended : DS := (dTkTurn 0 1 2 (dSeq (dFor (dIter (dLstE (dCons (dC (.int 2147483579)) (dCons (dC (.int 2147483629)) (dCons (dC (.int 2147483563)) dNil))))) (gNm 3) (dSeq (dAsg 4 (dFz (dBin fAdd (dBin fMul (dC (.int 48271)) (dVar 1)) (dBin fDiv (dVar 3) (dC (.int 53)))))) (dSeq (dFor (dTkCells 0) (gNm 5) (dAsg 4 (dFz (dBin fMod (dCB (one fInt) (dCons (dBin fAdd (dBin fAdd (dBin fMul (dVar 4) (dC (.int 69621))) (dVar 5)) (dVar 1)) dNil)) (dVar 3))))) (dAsg 2 (dFz (dBin fAdd (dBin fMul (dVar 2) (dC (.int 2147483647))) (dBin fMod (dCB (one fInt) (dCons (dBin fPow (dVar 4) (dC (.int 5))) dNil)) (dVar 3)))))))) (dRetV 2)))
def phi__law_blended : DF := phi ["state", "turn", "found", "prime", "blend", "cell"] t__law_blended
theorem okf__law_blended (FF : Facts P w K mg base g) {fd : FuncData} (F : FunD K "_law_blended" "_law_blended" (defArgs s__law_blended) (defBody s__law_blended) (defScope s__law_blended) [] [] (He.fAd K ("_law_blended", none)) fd) : FnOk P w K mg base (L2.CX P w) 1 (He.fAd K ("_law_blended", none)) fd ["state"] (spD K g (2 ^ 0) 1 phi__law_blended) :=
  fn_ok (k := 0) (N := ["state", "turn", "found", "prime", "blend", "cell"]) (t := t__law_blended) F sc__law_blended (fun cdv A outer s H E hr => QSs.mono (qss_tkTurn (i := 0) (l := 1) (f := 2) FF.tape tnok (u1 hr) rfl rfl sc__law_blended.nd rfl rfl rfl (by decide) (vis_of rfl) rfl rfl (qss_cons (qs_for (passes_of rfl) rfl (qi_any (qe_lst (qa_cons qe_int (qa_cons qe_int (qa_cons qe_int qa_nil))))) (qg_name (i := 3) sc__law_blended.nd rfl (loc_of rfl)) (qss_cons (qs_asg (i := 4) sc__law_blended.nd rfl (loc_of rfl) (qe_fz (qe_bin or_add os_add (qe_bin or_mul os_mul qe_int (qe_var (i := 1) rfl (vis_of rfl))) (qe_bin op_fdivW os_div (qe_var (i := 3) rfl (vis_of rfl)) qe_int)))) (qss_cons (qs_for (passes_of rfl) rfl (qi_tkCells (i := 0) FF.tape (u1 hr) rfl rfl (vis_of rfl)) (qg_name (i := 5) sc__law_blended.nd rfl (loc_of rfl)) (qss_one (qs_asg (i := 4) sc__law_blended.nd rfl (loc_of rfl) (qe_fz (qe_bin op_mod os_mod (qe_callTy call_int1 cs_int rfl FF.m_int bt_int (qa_cons (qe_bin or_add os_add (qe_bin or_add os_add (qe_bin or_mul os_mul (qe_var (i := 4) rfl (vis_of rfl)) qe_int) (qe_var (i := 5) rfl (vis_of rfl))) (qe_var (i := 1) rfl (vis_of rfl))) qa_nil)) (qe_var (i := 3) rfl (vis_of rfl))))))) (qss_one (qs_asg (i := 2) sc__law_blended.nd rfl (loc_of rfl) (qe_fz (qe_bin or_add os_add (qe_bin or_mul os_mul (qe_var (i := 2) rfl (vis_of rfl)) qe_int) (qe_bin op_mod os_mod (qe_callTy call_int1 cs_int rfl FF.m_int bt_int (qa_cons (qe_bin op_powB os_pow (qe_var (i := 4) rfl (vis_of rfl)) qe_int) qa_nil)) (qe_var (i := 3) rfl (vis_of rfl)))))))))) (qss_one (qs_retV (i := 2) rfl (vis_of rfl)))) rfl) (by decide +kernel))
theorem ok__law_blended (FF : Facts P w K mg base g) : Fn P w K mg base g 1 "_law_blended" ["state"] phi__law_blended (2 ^ 0) := by
  obtain ⟨fd, F⟩ := FF.d__law_blended
  exact ⟨_, fd, okf__law_blended FF F, FF.g__law_blended, F.kp, F.bindsN fun _ _ _ _ _ _ us hl => match us, hl with | [_], _ => rfl⟩
theorem sc__law_draw : FnScope ["state", "room", "found"] ["state", "room"] (defScope s__law_draw) := ⟨rfl, rfl, rfl, by decide +kernel, rfl, by decide +kernel, by decide +kernel⟩
def t__law_draw : DS := (dSeq (dIf (dTest (dBin fEq (dTkInt 0) (dC (.int 0)))) (dTkSet 0 (dTkPop 0 (dCall 1 phi__law_blended (dCons (dVar 0) dNil)))) dNext) (dSeq (dAsg 2 (dFz (dBin fMod (dCB (one fInt) (dCons (dTkInt 0) dNil)) (dVar 1)))) (dSeq (dTkSet 0 (dBin fDiv (dTkInt 0) (dVar 1))) (dRetV 2))))
def phi__law_draw : DF := phi ["state", "room", "found"] t__law_draw
theorem okf__law_draw (FF : Facts P w K mg base g) {fd : FuncData} (F : FunD K "_law_draw" "_law_draw" (defArgs s__law_draw) (defBody s__law_draw) (defScope s__law_draw) [] [] (He.fAd K ("_law_draw", none)) fd) : FnOk P w K mg base (L2.CX P w) 2 (He.fAd K ("_law_draw", none)) fd ["state", "room"] (spD K g (2 ^ 0) 2 phi__law_draw) :=
  fn_ok (k := 1) (N := ["state", "room", "found"]) (t := t__law_draw) F sc__law_draw (fun cdv A outer s H E hr => QSs.mono (qss_cons (qs_if (qt_cmp (op_eqD (u64 hr)) os_eq (qe_tkInt (i := 0) FF.tape (u1 hr) (.inl rfl) rfl (vis_of rfl)) qe_int (nomark _)) (qss_one (qs_tkSet (i := 0) FF.tape tnok (u1 hr) rfl rfl (vis_of rfl) (qe_tkPop (n := tn) (i := 0) FF.tape (u64 hr) rfl (vis_of rfl) (qe_call (ok__law_blended FF) (hr.mono (by decide)) rfl (qa_cons (qe_var (i := 0) rfl (vis_of rfl)) qa_nil))))) qss_nil) (qss_cons (qs_asg (i := 2) sc__law_draw.nd rfl (loc_of rfl) (qe_fz (qe_bin op_mod os_mod (qe_callTy call_int1 cs_int rfl FF.m_int bt_int (qa_cons (qe_tkInt (i := 0) FF.tape (u1 hr) (.inl rfl) rfl (vis_of rfl)) qa_nil)) (qe_var (i := 1) rfl (vis_of rfl))))) (qss_cons (qs_tkSet (i := 0) FF.tape tnok (u1 hr) rfl rfl (vis_of rfl) (qe_bin op_fdivW os_div (qe_tkInt (i := 0) FF.tape (u1 hr) (.inl rfl) rfl (vis_of rfl)) (qe_var (i := 1) rfl (vis_of rfl)))) (qss_one (qs_retV (i := 2) rfl (vis_of rfl)))))) (by decide +kernel))
theorem ok__law_draw (FF : Facts P w K mg base g) : Fn P w K mg base g 2 "_law_draw" ["state", "room"] phi__law_draw (2 ^ 0) := by
  obtain ⟨fd, F⟩ := FF.d__law_draw
  exact ⟨_, fd, okf__law_draw FF F, FF.g__law_draw, F.kp, F.bindsN fun _ _ _ _ _ _ us hl => match us, hl with | [_, _], _ => rfl⟩
theorem sc__law_pick : FnScope ["state", "some"] ["state", "some"] (defScope s__law_pick) := ⟨rfl, rfl, rfl, by decide +kernel, rfl, by decide +kernel, by decide +kernel⟩
def t__law_pick : DS := (dRet (dBin fIx (dVar 1) (dCall 2 phi__law_draw (dCons (dVar 0) (dCons (dCB (one fLen) (dCons (dVar 1) dNil)) dNil)))))
def phi__law_pick : DF := phi ["state", "some"] t__law_pick
theorem okf__law_pick (FF : Facts P w K mg base g) {fd : FuncData} (F : FunD K "_law_pick" "_law_pick" (defArgs s__law_pick) (defBody s__law_pick) (defScope s__law_pick) [] [] (He.fAd K ("_law_pick", none)) fd) : FnOk P w K mg base (L2.CX P w) 3 (He.fAd K ("_law_pick", none)) fd ["state", "some"] (spD K g (2 ^ 0) 2 phi__law_pick) :=
  fn_ok (k := 2) (N := ["state", "some"]) (t := t__law_pick) F sc__law_pick (fun cdv A outer s H E hr => QSs.mono (qss_one (qs_ret (qe_ix (qe_var (i := 1) rfl (vis_of rfl)) (qe_call (ok__law_draw FF) (hr.mono (by decide)) rfl (qa_cons (qe_var (i := 0) rfl (vis_of rfl)) (qa_cons (qe_callB call_len cs_len rfl FF.m_len bt_len (qa_cons (qe_var (i := 1) rfl (vis_of rfl)) qa_nil)) qa_nil))) fun _ _ => rfl))) (by decide +kernel))
theorem ok__law_pick (FF : Facts P w K mg base g) : Fn P w K mg base g 3 "_law_pick" ["state", "some"] phi__law_pick (2 ^ 0) := by
  obtain ⟨fd, F⟩ := FF.d__law_pick
  exact ⟨_, fd, okf__law_pick FF F, FF.g__law_pick, F.kp, F.bindsN fun _ _ _ _ _ _ us hl => match us, hl with | [_, _], _ => rfl⟩
theorem sc__law_is_truth : FnScope ["found", "due"] ["found", "due"] (defScope s__law_is_truth) := ⟨rfl, rfl, rfl, by decide +kernel, rfl, by decide +kernel, by decide +kernel⟩
def t__law_is_truth : DS := (dRet (dIfE (dTruth (dVar 1)) (dBin fIsB (dVar 0) (dC (.bl true))) (dBin fIsB (dVar 0) (dC (.bl false)))))
def phi__law_is_truth : DF := phi ["found", "due"] t__law_is_truth
theorem okf__law_is_truth (FF : Facts P w K mg base g) {fd : FuncData} (F : FunD K "_law_is_truth" "_law_is_truth" (defArgs s__law_is_truth) (defBody s__law_is_truth) (defScope s__law_is_truth) [] [] (He.fAd K ("_law_is_truth", none)) fd) : FnOk P w K mg base (L2.CX P w) 1 (He.fAd K ("_law_is_truth", none)) fd ["found", "due"] (spD K g 0 2 phi__law_is_truth) :=
  fn_ok (k := 0) (N := ["found", "due"]) (t := t__law_is_truth) F sc__law_is_truth (fun cdv A outer s H E hr => QSs.zero (qss_one (qs_ret (qe_ifExp (qt_truth (qe_var (i := 1) rfl (vis_of rfl)) (by intro _; rfl)) (qe_cmp op_isB os_isB (qe_var (i := 0) rfl (vis_of rfl)) qe_bl (nomark _)) (qe_cmp op_isB os_isB (qe_var (i := 0) rfl (vis_of rfl)) qe_bl (nomark _))))) rfl)
theorem ok__law_is_truth (FF : Facts P w K mg base g) : Fn P w K mg base g 1 "_law_is_truth" ["found", "due"] phi__law_is_truth 0 := by
  obtain ⟨fd, F⟩ := FF.d__law_is_truth
  exact ⟨_, fd, okf__law_is_truth FF F, FF.g__law_is_truth, F.kp, F.bindsN fun _ _ _ _ _ _ us hl => match us, hl with | [_, _], _ => rfl⟩
theorem sc__law_is_number : FnScope ["value"] ["value"] (defScope s__law_is_number) := ⟨rfl, rfl, rfl, by decide +kernel, rfl, by decide +kernel, by decide +kernel⟩
def t__law_is_number : DS := (dRet (dAndV (dIs nCls exB (isT "int") (dVar 0)) (dNotV (dIs nCls exB (isT "bool") (dVar 0)))))
def phi__law_is_number : DF := phi ["value"] t__law_is_number
theorem okf__law_is_number (FF : Facts P w K mg base g) {fd : FuncData} (F : FunD K "_law_is_number" "_law_is_number" (defArgs s__law_is_number) (defBody s__law_is_number) (defScope s__law_is_number) [] [] (He.fAd K ("_law_is_number", none)) fd) : FnOk P w K mg base (L2.CX P w) 1 (He.fAd K ("_law_is_number", none)) fd ["value"] (spD K g 0 1 phi__law_is_number) :=
  fn_ok (k := 0) (N := ["value"]) (t := t__law_is_number) F sc__law_is_number (fun cdv A outer s H E hr => QSs.zero (qss_one (qs_ret (qe_and (qe_isT FF.kinds rfl FF.m_isinstance rfl FF.m_int bt_int (by decide) (qe_var (i := 0) rfl (vis_of rfl))) (qe_one (qe_not (qe_isT FF.kinds rfl FF.m_isinstance rfl FF.m_bool bt_bool (by decide) (qe_var (i := 0) rfl (vis_of rfl)))))))) rfl)
theorem ok__law_is_number (FF : Facts P w K mg base g) : Fn P w K mg base g 1 "_law_is_number" ["value"] phi__law_is_number 0 := by
  obtain ⟨fd, F⟩ := FF.d__law_is_number
  exact ⟨_, fd, okf__law_is_number FF F, FF.g__law_is_number, F.kp, F.bindsN fun _ _ _ _ _ _ us hl => match us, hl with | [_], _ => rfl⟩
theorem sc__law_al_alarm : FnScope ["draws", "low", "high", "most", "kind", "window", "mark", "apart"] ["draws", "low", "high", "most"] (defScope s__law_al_alarm) := ⟨rfl, rfl, rfl, by decide +kernel, rfl, by decide +kernel, by decide +kernel⟩
def t__law_al_alarm : DS := (dSeq (dPar 4 5 (dFz (dCall 2 phi__law_pick (dCons (dVar 0) (dCons (dLstE (dCons (dC (.str "over")) (dCons (dC (.str "under")) dNil))) dNil)))) (dFz (dBin fAdd (dC (.int 1)) (dCall 2 phi__law_draw (dCons (dVar 0) (dCons (dVar 3) dNil)))))) (dSeq (dAsg 6 (dFz (dBin fAdd (dBin fSub (dBin fMul (dVar 5) (dVar 1)) (dC (.int 1))) (dCall 2 phi__law_draw (dCons (dVar 0) (dCons (dBin fAdd (dBin fMul (dVar 5) (dBin fSub (dVar 2) (dVar 1))) (dC (.int 3))) dNil)))))) (dSeq (dAsg 7 (dFz (dBin fAdd (dC (.int 1)) (dCall 2 phi__law_draw (dCons (dVar 0) (dCons (dCall 2 phi__law_pick (dCons (dVar 0) (dCons (dLstE (dCons (dC (.int 1)) (dCons (dC (.int 3)) (dCons (dC (.int 9)) dNil)))) dNil))) dNil)))))) (dSeq (dIf (dTest (dBin fEq (dCall 2 phi__law_draw (dCons (dVar 0) (dCons (dC (.int 2)) dNil))) (dC (.int 0)))) (dRet (dTupE (dCons (dVar 4) (dCons (dVar 5) (dCons (dVar 6) dNil))))) dNext) (dRet (dTupE (dCons (dVar 4) (dCons (dVar 5) (dCons (dVar 6) (dCons (dIfE (dTest (dBin fEq (dVar 4) (dC (.str "over")))) (dBin fSub (dVar 6) (dVar 7)) (dBin fAdd (dVar 6) (dVar 7))) dNil))))))))))
def phi__law_al_alarm : DF := phi ["draws", "low", "high", "most", "kind", "window", "mark", "apart"] t__law_al_alarm
theorem okf__law_al_alarm (FF : Facts P w K mg base g) {fd : FuncData} (F : FunD K "_law_al_alarm" "_law_al_alarm" (defArgs s__law_al_alarm) (defBody s__law_al_alarm) (defScope s__law_al_alarm) [] [] (He.fAd K ("_law_al_alarm", none)) fd) : FnOk P w K mg base (L2.CX P w) 4 (He.fAd K ("_law_al_alarm", none)) fd ["draws", "low", "high", "most"] (spD K g (2 ^ 3) 4 phi__law_al_alarm) :=
  fn_ok (k := 3) (N := ["draws", "low", "high", "most", "kind", "window", "mark", "apart"]) (t := t__law_al_alarm) F sc__law_al_alarm (fun cdv A outer s H E hr => QSs.mono (qss_cons (qs_par (i := 4) (j := 5) rfl sc__law_al_alarm.nd rfl rfl (by decide) rfl rfl (qe_fz (qe_call (ok__law_pick FF) (hr.mono (by decide)) rfl (qa_cons (qe_var (i := 0) rfl (vis_of rfl)) (qa_cons (qe_lst (qa_cons qe_str (qa_cons qe_str qa_nil))) qa_nil)))) (qe_fz (qe_bin or_add os_add qe_int (qe_call (ok__law_draw FF) (hr.mono (by decide)) rfl (qa_cons (qe_var (i := 0) rfl (vis_of rfl)) (qa_cons (qe_var (i := 3) rfl (vis_of rfl)) qa_nil))))) rfl) (qss_cons (qs_asg (i := 6) sc__law_al_alarm.nd rfl (loc_of rfl) (qe_fz (qe_bin or_add os_add (qe_bin op_sub os_sub (qe_bin or_mul os_mul (qe_var (i := 5) rfl (vis_of rfl)) (qe_var (i := 1) rfl (vis_of rfl))) qe_int) (qe_call (ok__law_draw FF) (hr.mono (by decide)) rfl (qa_cons (qe_var (i := 0) rfl (vis_of rfl)) (qa_cons (qe_bin or_add os_add (qe_bin or_mul os_mul (qe_var (i := 5) rfl (vis_of rfl)) (qe_bin op_sub os_sub (qe_var (i := 2) rfl (vis_of rfl)) (qe_var (i := 1) rfl (vis_of rfl)))) qe_int) qa_nil)))))) (qss_cons (qs_asg (i := 7) sc__law_al_alarm.nd rfl (loc_of rfl) (qe_fz (qe_bin or_add os_add qe_int (qe_call (ok__law_draw FF) (hr.mono (by decide)) rfl (qa_cons (qe_var (i := 0) rfl (vis_of rfl)) (qa_cons (qe_call (ok__law_pick FF) (hr.mono (by decide)) rfl (qa_cons (qe_var (i := 0) rfl (vis_of rfl)) (qa_cons (qe_lst (qa_cons qe_int (qa_cons qe_int (qa_cons qe_int qa_nil)))) qa_nil))) qa_nil)))))) (qss_cons (qs_if (qt_cmp (op_eqD (u64 hr)) os_eq (qe_call (ok__law_draw FF) (hr.mono (by decide)) rfl (qa_cons (qe_var (i := 0) rfl (vis_of rfl)) (qa_cons qe_int qa_nil))) qe_int (nomark _)) (qss_one (qs_ret (qe_tup (qa_cons (qe_var (i := 4) rfl (vis_of rfl)) (qa_cons (qe_var (i := 5) rfl (vis_of rfl)) (qa_cons (qe_var (i := 6) rfl (vis_of rfl)) qa_nil)))))) qss_nil) (qss_one (qs_ret (qe_tup (qa_cons (qe_var (i := 4) rfl (vis_of rfl)) (qa_cons (qe_var (i := 5) rfl (vis_of rfl)) (qa_cons (qe_var (i := 6) rfl (vis_of rfl)) (qa_cons (qe_ifExp (qt_cmp (op_eqD (u64 hr)) os_eq (qe_var (i := 4) rfl (vis_of rfl)) qe_str (nomark _)) (qe_bin op_sub os_sub (qe_var (i := 6) rfl (vis_of rfl)) (qe_var (i := 7) rfl (vis_of rfl))) (qe_bin or_add os_add (qe_var (i := 6) rfl (vis_of rfl)) (qe_var (i := 7) rfl (vis_of rfl)))) qa_nil))))))))))) (by decide +kernel))
theorem ok__law_al_alarm (FF : Facts P w K mg base g) : Fn P w K mg base g 4 "_law_al_alarm" ["draws", "low", "high", "most"] phi__law_al_alarm (2 ^ 3) := by
  obtain ⟨fd, F⟩ := FF.d__law_al_alarm
  exact ⟨_, fd, okf__law_al_alarm FF F, FF.g__law_al_alarm, F.kp, F.bindsN fun _ _ _ _ _ _ us hl => match us, hl with | [_, _, _, _], _ => rfl⟩
theorem sc__law_al_several : FnScope ["draws", "low", "high", "most", "lap"] ["draws", "low", "high", "most"] (defScope s__law_al_several) := ⟨rfl, rfl, rfl, by decide +kernel, rfl, by decide +kernel, by decide +kernel⟩
def t__law_al_several : DS := (dRet (dLcC (dRng1 (dCons (dBin fAdd (dC (.int 1)) (dCall 2 phi__law_draw (dCons (dVar 0) (dCons (dC (.int 4)) dNil)))) dNil)) (gNm 4) dYes (dCall 4 phi__law_al_alarm (dCons (dVar 0) (dCons (dVar 1) (dCons (dVar 2) (dCons (dVar 3) dNil))))) [4]))
def phi__law_al_several : DF := phi ["draws", "low", "high", "most", "lap"] t__law_al_several
theorem okf__law_al_several (FF : Facts P w K mg base g) {fd : FuncData} (F : FunD K "_law_al_several" "_law_al_several" (defArgs s__law_al_several) (defBody s__law_al_several) (defScope s__law_al_several) [] [] (He.fAd K ("_law_al_several", none)) fd) : FnOk P w K mg base (L2.CX P w) 5 (He.fAd K ("_law_al_several", none)) fd ["draws", "low", "high", "most"] (spD K g (2 ^ 74) 4 phi__law_al_several) :=
  fn_ok (k := 4) (N := ["draws", "low", "high", "most", "lap"]) (t := t__law_al_several) F sc__law_al_several (fun cdv A outer s H E hr => QSs.mono (qss_one (qs_ret (qe_lcC (own := [("lap", 4)]) rfl sc__law_al_several.nd (qi_rng1 rfl FF.m_range (qa_cons (qe_bin or_add os_add qe_int (qe_call (ok__law_draw FF) (hr.mono (by decide)) rfl (qa_cons (qe_var (i := 0) rfl (vis_of rfl)) (qa_cons qe_int qa_nil)))) qa_nil)) (blkOk_by (by kernel_rfl)) (fun _ _ _ _ _ => (qgv_name (i := 4) sc__law_al_several.nd rfl (loc_of rfl) (by decide))) (fun _ _ _ _ _ => qts_nil) (fun _ _ _ _ _ => (qe_call (ok__law_al_alarm FF) (hr.mono (by decide)) rfl (qa_cons (qe_var (i := 0) rfl (vis_of rfl)) (qa_cons (qe_var (i := 1) rfl (vis_of rfl)) (qa_cons (qe_var (i := 2) rfl (vis_of rfl)) (qa_cons (qe_var (i := 3) rfl (vis_of rfl)) qa_nil))))))))) (by decide +kernel))
theorem ok__law_al_several (FF : Facts P w K mg base g) : Fn P w K mg base g 5 "_law_al_several" ["draws", "low", "high", "most"] phi__law_al_several (2 ^ 74) := by
  obtain ⟨fd, F⟩ := FF.d__law_al_several
  exact ⟨_, fd, okf__law_al_several FF F, FF.g__law_al_several, F.kp, F.bindsN fun _ _ _ _ _ _ us hl => match us, hl with | [_, _, _, _], _ => rfl⟩
theorem sc__law_al_values : FnScope ["draws", "low"] ["draws"] (defScope s__law_al_values) := ⟨rfl, rfl, rfl, by decide +kernel, rfl, by decide +kernel, by decide +kernel⟩
def t__law_al_values : DS := (dSeq (dAsg 1 (dFz (dCall 2 phi__law_pick (dCons (dVar 0) (dCons (dLstE (dCons (dC (.int 0)) (dCons (dC (.int 0)) (dCons (dUn fNeg (dC (.int 1))) (dCons (dUn fNeg (dC (.int 3))) (dCons (dBin fSub (dCall 2 phi__law_draw (dCons (dVar 0) (dCons (dC (.int 201)) dNil))) (dC (.int 100))) dNil)))))) dNil))))) (dRet (dTupE (dCons (dVar 1) (dCons (dCB (two fMin2) (dCons (dC (.int 100)) (dCons (dBin fAdd (dVar 1) (dCall 2 phi__law_pick (dCons (dVar 0) (dCons (dLstE (dCons (dC (.int 0)) (dCons (dC (.int 1)) (dCons (dC (.int 1)) (dCons (dC (.int 2)) (dCons (dC (.int 5)) (dCons (dC (.int 200)) dNil))))))) dNil)))) dNil))) dNil)))))
def phi__law_al_values : DF := phi ["draws", "low"] t__law_al_values
theorem okf__law_al_values (FF : Facts P w K mg base g) {fd : FuncData} (F : FunD K "_law_al_values" "_law_al_values" (defArgs s__law_al_values) (defBody s__law_al_values) (defScope s__law_al_values) [] [] (He.fAd K ("_law_al_values", none)) fd) : FnOk P w K mg base (L2.CX P w) 4 (He.fAd K ("_law_al_values", none)) fd ["draws"] (spD K g (2 ^ 2) 1 phi__law_al_values) :=
  fn_ok (k := 3) (N := ["draws", "low"]) (t := t__law_al_values) F sc__law_al_values (fun cdv A outer s H E hr => QSs.mono (qss_cons (qs_asg (i := 1) sc__law_al_values.nd rfl (loc_of rfl) (qe_fz (qe_call (ok__law_pick FF) (hr.mono (by decide)) rfl (qa_cons (qe_var (i := 0) rfl (vis_of rfl)) (qa_cons (qe_lst (qa_cons qe_int (qa_cons qe_int (qa_cons (qe_un un_neg us_neg qe_int) (qa_cons (qe_un un_neg us_neg qe_int) (qa_cons (qe_bin op_sub os_sub (qe_call (ok__law_draw FF) (hr.mono (by decide)) rfl (qa_cons (qe_var (i := 0) rfl (vis_of rfl)) (qa_cons qe_int qa_nil))) qe_int) qa_nil)))))) qa_nil))))) (qss_one (qs_ret (qe_tup (qa_cons (qe_var (i := 1) rfl (vis_of rfl)) (qa_cons (qe_callB (call_min2 rfl) cs_min2 rfl FF.m_min bt_min (qa_cons qe_int (qa_cons (qe_bin or_add os_add (qe_var (i := 1) rfl (vis_of rfl)) (qe_call (ok__law_pick FF) (hr.mono (by decide)) rfl (qa_cons (qe_var (i := 0) rfl (vis_of rfl)) (qa_cons (qe_lst (qa_cons qe_int (qa_cons qe_int (qa_cons qe_int (qa_cons qe_int (qa_cons qe_int (qa_cons qe_int qa_nil))))))) qa_nil)))) qa_nil))) qa_nil)))))) (by decide +kernel))
theorem ok__law_al_values (FF : Facts P w K mg base g) : Fn P w K mg base g 4 "_law_al_values" ["draws"] phi__law_al_values (2 ^ 2) := by
  obtain ⟨fd, F⟩ := FF.d__law_al_values
  exact ⟨_, fd, okf__law_al_values FF F, FF.g__law_al_values, F.kp, F.bindsN fun _ _ _ _ _ _ us hl => match us, hl with | [_], _ => rfl⟩
theorem sc__law_al_stream : FnScope ["draws", "low", "high", "ticks", "way", "found", "here", "lap"] ["draws", "low", "high", "ticks"] (defScope s__law_al_stream) := ⟨rfl, rfl, rfl, by decide +kernel, rfl, by decide +kernel, by decide +kernel⟩
def t__law_al_stream : DS := (dSeq (dPar3 4 5 6 (dFz (dCall 2 phi__law_draw (dCons (dVar 0) (dCons (dC (.int 3)) dNil)))) (dLstE dNil) (dFz (dVar 1))) (dSeq (dForC (dRng1 (dCons (dVar 3) dNil)) (gNm 7) (dSeq (dIf (dOrT (dTest (dBin fEq (dVar 4) (dC (.int 0)))) (dOrT (dAndT (dTest (dBin fEq (dVar 4) (dC (.int 1)))) (dTest (dBin fEq (dCall 2 phi__law_draw (dCons (dVar 0) (dCons (dC (.int 4)) dNil))) (dC (.int 0))))) (dTest (dBin fEq (dVar 7) (dC (.int 0)))))) (dAsg 6 (dFz (dBin fAdd (dVar 1) (dCall 2 phi__law_draw (dCons (dVar 0) (dCons (dBin fAdd (dBin fSub (dVar 2) (dVar 1)) (dC (.int 1))) dNil)))))) (dIf (dTest (dBin fEq (dVar 4) (dC (.int 2)))) (dAsg 6 (dFz (dCall 2 phi__law_pick (dCons (dVar 0) (dCons (dLstE (dCons (dVar 1) (dCons (dVar 2) dNil))) dNil))))) dNext)) (dApp 5 (dCons (dVar 6) dNil)))) (dRet (dCB (one fTuple) (dCons (dVar 5) dNil)))))
def phi__law_al_stream : DF := phi ["draws", "low", "high", "ticks", "way", "found", "here", "lap"] t__law_al_stream
theorem okf__law_al_stream (FF : Facts P w K mg base g) {fd : FuncData} (F : FunD K "_law_al_stream" "_law_al_stream" (defArgs s__law_al_stream) (defBody s__law_al_stream) (defScope s__law_al_stream) [] [] (He.fAd K ("_law_al_stream", none)) fd) : FnOk P w K mg base (L2.CX P w) 4 (He.fAd K ("_law_al_stream", none)) fd ["draws", "low", "high", "ticks"] (spD K g (2 ^ 72) 4 phi__law_al_stream) :=
  fn_ok (k := 3) (N := ["draws", "low", "high", "ticks", "way", "found", "here", "lap"]) (t := t__law_al_stream) F sc__law_al_stream (fun cdv A outer s H E hr => QSs.mono (qss_cons (qs_par3 (i := 4) (j := 5) (l := 6) rfl sc__law_al_stream.nd rfl rfl rfl (by decide) (by decide) (by decide) rfl rfl rfl (qe_fz (qe_call (ok__law_draw FF) (hr.mono (by decide)) rfl (qa_cons (qe_var (i := 0) rfl (vis_of rfl)) (qa_cons qe_int qa_nil)))) (qe_lst qa_nil) (qe_fz (qe_var (i := 1) rfl (vis_of rfl))) rfl) (qss_cons (qs_forC (passes_of rfl) rfl (qi_rng1 rfl FF.m_range (qa_cons (qe_var (i := 3) rfl (vis_of rfl)) qa_nil)) (qg_name (i := 7) sc__law_al_stream.nd rfl (loc_of rfl)) (qss_cons (qs_if (QW.qt (qw_or (qt_cmp (op_eqD (u64 hr)) os_eq (qe_var (i := 4) rfl (vis_of rfl)) qe_int (nomark _)) (qw_or (QW.qt (qw_and (qt_cmp (op_eqD (u64 hr)) os_eq (qe_var (i := 4) rfl (vis_of rfl)) qe_int (nomark _)) (qw_and1 (qt_cmp (op_eqD (u64 hr)) os_eq (qe_call (ok__law_draw FF) (hr.mono (by decide)) rfl (qa_cons (qe_var (i := 0) rfl (vis_of rfl)) (qa_cons qe_int qa_nil))) qe_int (nomark _))))) (qw_or1 (qt_cmp (op_eqD (u64 hr)) os_eq (qe_var (i := 7) rfl (vis_of rfl)) qe_int (nomark _)))))) (qss_one (qs_asg (i := 6) sc__law_al_stream.nd rfl (loc_of rfl) (qe_fz (qe_bin or_add os_add (qe_var (i := 1) rfl (vis_of rfl)) (qe_call (ok__law_draw FF) (hr.mono (by decide)) rfl (qa_cons (qe_var (i := 0) rfl (vis_of rfl)) (qa_cons (qe_bin or_add os_add (qe_bin op_sub os_sub (qe_var (i := 2) rfl (vis_of rfl)) (qe_var (i := 1) rfl (vis_of rfl))) qe_int) qa_nil))))))) (qss_one (qs_if (qt_cmp (op_eqD (u64 hr)) os_eq (qe_var (i := 4) rfl (vis_of rfl)) qe_int (nomark _)) (qss_one (qs_asg (i := 6) sc__law_al_stream.nd rfl (loc_of rfl) (qe_fz (qe_call (ok__law_pick FF) (hr.mono (by decide)) rfl (qa_cons (qe_var (i := 0) rfl (vis_of rfl)) (qa_cons (qe_lst (qa_cons (qe_var (i := 1) rfl (vis_of rfl)) (qa_cons (qe_var (i := 2) rfl (vis_of rfl)) qa_nil))) qa_nil)))))) qss_nil))) (qss_one (qs_app (i := 5) (fun _ ha => pe_bm PySem.F.plainAttrs_list PySem.F.slot_list_append PySem.F.type_list_append mt_append (pe_var (i := 5) rfl (vis_of rfl)) ha) (qa_cons (qe_var (i := 6) rfl (vis_of rfl)) qa_nil))))) (qss_one (qs_ret (qe_callTy call_tuple_of cs_tuple rfl FF.m_tuple bt_tuple (qa_cons (qe_var (i := 5) rfl (vis_of rfl)) qa_nil)))))) (by decide +kernel))
theorem ok__law_al_stream (FF : Facts P w K mg base g) : Fn P w K mg base g 4 "_law_al_stream" ["draws", "low", "high", "ticks"] phi__law_al_stream (2 ^ 72) := by
  obtain ⟨fd, F⟩ := FF.d__law_al_stream
  exact ⟨_, fd, okf__law_al_stream FF F, FF.g__law_al_stream, F.kp, F.bindsN fun _ _ _ _ _ _ us hl => match us, hl with | [_, _, _, _], _ => rfl⟩
theorem sc__law_al_is_stream : FnScope ["low", "high", "value", "part"] ["low", "high", "value"] (defScope s__law_al_is_stream) := ⟨rfl, rfl, rfl, by decide +kernel, rfl, by decide +kernel, by decide +kernel⟩
def t__law_al_is_stream : DS := (dSeq (dIf (dOrT (dNotT (dTruth (dIs nCls exB (isT "tuple") (dVar 2)))) (dTest (dBin fGt (dCB (one fLen) (dCons (dVar 2) dNil)) (dC (.int 200))))) (dRet (dC (.bl false))) dNext) (dRet (dBin fEq (dLc (dIter (dVar 2)) (gNm 3) (dOrT (dNotT (dTruth (dCall 1 phi__law_is_number (dCons (dVar 3) dNil)))) (dNotT (dTest (dChain fLe fLe (dVar 0) (dVar 3) (dVar 1))))) (dC (.int 1)) [3]) (dLstE dNil))))
def phi__law_al_is_stream : DF := phi ["low", "high", "value", "part"] t__law_al_is_stream
theorem okf__law_al_is_stream (FF : Facts P w K mg base g) {fd : FuncData} (F : FunD K "_law_al_is_stream" "_law_al_is_stream" (defArgs s__law_al_is_stream) (defBody s__law_al_is_stream) (defScope s__law_al_is_stream) [] [] (He.fAd K ("_law_al_is_stream", none)) fd) : FnOk P w K mg base (L2.CX P w) 2 (He.fAd K ("_law_al_is_stream", none)) fd ["low", "high", "value"] (spD K g 0 3 phi__law_al_is_stream) :=
  fn_ok (k := 1) (N := ["low", "high", "value", "part"]) (t := t__law_al_is_stream) F sc__law_al_is_stream (fun cdv A outer s H E hr => QSs.zero (qss_cons (qs_if (QW.qt (qw_or (qt_not (qt_truth (qe_isT FF.kinds rfl FF.m_isinstance rfl FF.m_tuple bt_tuple (by decide) (qe_var (i := 2) rfl (vis_of rfl))) (by intro _; rfl))) (qw_or1 (qt_cmp op_gt os_gt (qe_callB call_len cs_len rfl FF.m_len bt_len (qa_cons (qe_var (i := 2) rfl (vis_of rfl)) qa_nil)) qe_int (nomark _))))) (qss_one (qs_ret qe_bl)) qss_nil) (qss_one (qs_ret (qe_cmp (op_eqD (u64 hr)) os_eq (qe_lc (own := [("part", 3)]) rfl sc__law_al_is_stream.nd (qi_any (qe_var (i := 2) rfl (vis_of rfl))) (blkOk_by (by kernel_rfl)) (fun _ _ _ _ _ => (qgv_name (i := 3) sc__law_al_is_stream.nd rfl (loc_of rfl) (by decide))) (fun _ _ _ _ _ => (qts_one (QW.qt (qw_or (qt_not (qt_truth (qe_call (ok__law_is_number FF) (hr.mono (by decide)) rfl (qa_cons (qe_var (i := 3) rfl (vis_of rfl)) qa_nil)) (by intro _; rfl))) (qw_or1 (qt_not (qt_chain op_le op_le os_le os_le (qe_var (i := 0) rfl (vis_of rfl)) (qe_var (i := 3) rfl (vis_of rfl)) (qe_var (i := 1) rfl (vis_of rfl))))))))) (fun _ _ _ _ _ => qe_int)) (qe_lst qa_nil) (nomark _))))) rfl)
theorem ok__law_al_is_stream (FF : Facts P w K mg base g) : Fn P w K mg base g 2 "_law_al_is_stream" ["low", "high", "value"] phi__law_al_is_stream 0 := by
  obtain ⟨fd, F⟩ := FF.d__law_al_is_stream
  exact ⟨_, fd, okf__law_al_is_stream FF F, FF.g__law_al_is_stream, F.kp, F.bindsN fun _ _ _ _ _ _ us hl => match us, hl with | [_, _, _], _ => rfl⟩
theorem sc__law_al_no_alarms : FnScope ["draws"] ["draws"] (defScope s__law_al_no_alarms) := ⟨rfl, rfl, rfl, by decide +kernel, rfl, by decide +kernel, by decide +kernel⟩
def t__law_al_no_alarms : DS := (dRet (dCall 2 phi__law_pick (dCons (dVar 0) (dCons (dLstE (dCons (dC .non) (dCons (dC (.int 5)) (dCons (dC (.str "over")) (dCons (dTupE (dCons (dC (.int 0)) (dCons (dC (.int 1)) (dCons (dLstE (dCons (dTupE (dCons (dC (.str "over")) (dCons (dC (.int 1)) (dCons (dC (.int 1)) dNil)))) dNil)) dNil)))) (dCons (dLstE (dCons (dTupE (dCons (dC (.str "over")) (dCons (dC (.int 1)) (dCons (dC (.int 1)) dNil)))) dNil)) (dCons dDic0 dNil))))))) dNil))))
def phi__law_al_no_alarms : DF := phi ["draws"] t__law_al_no_alarms
theorem okf__law_al_no_alarms (FF : Facts P w K mg base g) {fd : FuncData} (F : FunD K "_law_al_no_alarms" "_law_al_no_alarms" (defArgs s__law_al_no_alarms) (defBody s__law_al_no_alarms) (defScope s__law_al_no_alarms) [] [] (He.fAd K ("_law_al_no_alarms", none)) fd) : FnOk P w K mg base (L2.CX P w) 4 (He.fAd K ("_law_al_no_alarms", none)) fd ["draws"] (spD K g (2 ^ 0) 1 phi__law_al_no_alarms) :=
  fn_ok (k := 3) (N := ["draws"]) (t := t__law_al_no_alarms) F sc__law_al_no_alarms (fun cdv A outer s H E hr => QSs.mono (qss_one (qs_ret (qe_call (ok__law_pick FF) (hr.mono (by decide)) rfl (qa_cons (qe_var (i := 0) rfl (vis_of rfl)) (qa_cons (qe_lst (qa_cons qe_non (qa_cons qe_int (qa_cons qe_str (qa_cons (qe_tup (qa_cons qe_int (qa_cons qe_int (qa_cons (qe_lst (qa_cons (qe_tup (qa_cons qe_str (qa_cons qe_int (qa_cons qe_int qa_nil)))) qa_nil)) qa_nil)))) (qa_cons (qe_lst (qa_cons (qe_tup (qa_cons qe_str (qa_cons qe_int (qa_cons qe_int qa_nil)))) qa_nil)) (qa_cons qe_dic0 qa_nil))))))) qa_nil))))) (by decide +kernel))
theorem ok__law_al_no_alarms (FF : Facts P w K mg base g) : Fn P w K mg base g 4 "_law_al_no_alarms" ["draws"] phi__law_al_no_alarms (2 ^ 0) := by
  obtain ⟨fd, F⟩ := FF.d__law_al_no_alarms
  exact ⟨_, fd, okf__law_al_no_alarms FF F, FF.g__law_al_no_alarms, F.kp, F.bindsN fun _ _ _ _ _ _ us hl => match us, hl with | [_], _ => rfl⟩
theorem sc__law_al_bent : FnScope ["draws", "value", "at", "way", "items"] ["draws", "value"] (defScope s__law_al_bent) := ⟨rfl, rfl, rfl, by decide +kernel, rfl, by decide +kernel, by decide +kernel⟩
def t__law_al_bent (Φ : DF) : DS := (dSeq (dIf (dAndT (dTruth (dIs2 nCls exB "tuple" "list" (dVar 1))) (dAndT (dTest (dBin fGt (dCB (one fLen) (dCons (dVar 1) dNil)) (dC (.int 0)))) (dTest (dBin fGt (dCall 2 phi__law_draw (dCons (dVar 0) (dCons (dC (.int 6)) dNil))) (dC (.int 0)))))) (dSeq (dPar3 2 3 4 (dFz (dCall 2 phi__law_draw (dCons (dVar 0) (dCons (dCB (one fLen) (dCons (dVar 1) dNil)) dNil)))) (dFz (dCall 2 phi__law_draw (dCons (dVar 0) (dCons (dC (.int 9)) dNil)))) (dCB (one fList) (dCons (dVar 1) dNil))) (dSeq (dIf (dTest (dBin fEq (dVar 3) (dC (.int 0)))) (dPopAt 4 (dCons (dVar 2) dNil)) (dIf (dTest (dBin fEq (dVar 3) (dC (.int 1)))) (dIns 4 (dCons (dVar 2) (dCons (dBin fIx (dVar 4) (dVar 2)) dNil))) (dIf (dAndT (dTest (dBin fEq (dVar 3) (dC (.int 2)))) (dTest (dBin fGt (dVar 2) (dC (.int 0))))) (dAsg 4 (dBin fAdd (dBin fAdd (dSl (dVar 4) dNoPart (dPart (dBin fSub (dVar 2) (dC (.int 1))))) (dLstE (dCons (dBin fIx (dVar 4) (dVar 2)) (dCons (dBin fIx (dVar 4) (dBin fSub (dVar 2) (dC (.int 1)))) dNil)))) (dSl (dVar 4) (dPart (dBin fAdd (dVar 2) (dC (.int 1)))) dNoPart))) (dSetI 4 (dCall 2 Φ (dCons (dVar 0) (dCons (dBin fIx (dVar 4) (dVar 2)) dNil))) (dVar 2))))) (dRet (dIfE (dTruth (dIs nCls exB (isT "tuple") (dVar 1))) (dCB (one fTuple) (dCons (dVar 4) dNil)) (dVar 4))))) dNext) (dSeq (dIf (dTruth (dCall 1 phi__law_is_number (dCons (dVar 1) dNil))) (dRet (dCall 2 phi__law_pick (dCons (dVar 0) (dCons (dLstE (dCons (dBin fAdd (dVar 1) (dC (.int 1))) (dCons (dBin fSub (dVar 1) (dC (.int 1))) (dCons (dBin fAdd (dVar 1) (dC (.int 2))) (dCons (dC .non) (dCons (dBin fEq (dVar 1) (dC (.int 1))) (dCons (dC (.int 0)) (dCons (dC (.int 1)) (dCons (dC (.str "1")) (dCons (dUn fNeg (dVar 1)) dNil)))))))))) dNil)))) dNext) (dRet (dCall 2 phi__law_pick (dCons (dVar 0) (dCons (dLstE (dCons (dC .non) (dCons (dTupE dNil) (dCons (dLstE dNil) (dCons (dC (.int 0)) (dCons (dC (.int 1)) (dCons (dC (.bl true)) (dCons (dC (.str "over")) (dCons (dC (.str "under")) (dCons (dC (.str "x")) (dCons (dTupE (dCons (dC (.int 0)) dNil)) (dCons (dTupE (dCons (dC .non) dNil)) dNil)))))))))))) dNil))))))
def phi__law_al_bent : DF := phiR ["draws", "value", "at", "way", "items"] t__law_al_bent 8
theorem ok__law_al_bent (FF : Facts P w K mg base g) : Fn P w K mg base g 12 "_law_al_bent" ["draws", "value"] phi__law_al_bent (2 ^ 6) := by
  obtain ⟨fd, F⟩ := FF.d__law_al_bent
  exact Fn.mono (fn_rec (k := 3) F sc__law_al_bent FF.g__law_al_bent F.kp (F.bindsN fun _ _ _ _ _ _ us hl => match us, hl with | [_, _], _ => rfl) (fun n Φ κr HR cdv A outer s H E hr => (qss_cons (qs_if (QW.qt (qw_and (qt_truth (qe_isT2 FF.kinds rfl FF.m_isinstance rfl FF.m_tuple bt_tuple (by decide) rfl FF.m_list bt_list (by decide) (qe_var (i := 1) rfl (vis_of rfl))) (by intro _; rfl)) (qw_and (qt_cmp op_gt os_gt (qe_callB call_len cs_len rfl FF.m_len bt_len (qa_cons (qe_var (i := 1) rfl (vis_of rfl)) qa_nil)) qe_int (nomark _)) (qw_and1 (qt_cmp op_gt os_gt (qe_call (ok__law_draw FF) (hr.mono (by omega)) rfl (qa_cons (qe_var (i := 0) rfl (vis_of rfl)) (qa_cons qe_int qa_nil))) qe_int (nomark _)))))) (qss_cons (qs_par3 (i := 2) (j := 3) (l := 4) rfl sc__law_al_bent.nd rfl rfl rfl (by decide) (by decide) (by decide) rfl rfl rfl (qe_fz (qe_call (ok__law_draw FF) (hr.mono (by omega)) rfl (qa_cons (qe_var (i := 0) rfl (vis_of rfl)) (qa_cons (qe_callB call_len cs_len rfl FF.m_len bt_len (qa_cons (qe_var (i := 1) rfl (vis_of rfl)) qa_nil)) qa_nil)))) (qe_fz (qe_call (ok__law_draw FF) (hr.mono (by omega)) rfl (qa_cons (qe_var (i := 0) rfl (vis_of rfl)) (qa_cons qe_int qa_nil)))) (qe_callTy call_list_of cs_list rfl FF.m_list bt_list (qa_cons (qe_var (i := 1) rfl (vis_of rfl)) qa_nil)) rfl) (qss_cons (qs_if (qt_cmp (op_eqD (u64 hr)) os_eq (qe_var (i := 3) rfl (vis_of rfl)) qe_int (nomark _)) (qss_one (qs_popAt (i := 4) (fun _ ha => pe_bm PySem.F.plainAttrs_list PySem.F.slot_list_pop PySem.F.type_list_pop mt_popAt (pe_var (i := 4) rfl (vis_of rfl)) ha) (qa_cons (qe_var (i := 2) rfl (vis_of rfl)) qa_nil))) (qss_one (qs_if (qt_cmp (op_eqD (u64 hr)) os_eq (qe_var (i := 3) rfl (vis_of rfl)) qe_int (nomark _)) (qss_one (qs_ins (i := 4) (fun _ ha => pe_bm PySem.F.plainAttrs_list PySem.F.slot_list_insert PySem.F.type_list_insert mt_insert (pe_var (i := 4) rfl (vis_of rfl)) ha) (qa_cons (qe_var (i := 2) rfl (vis_of rfl)) (qa_cons (qe_ix (qe_var (i := 4) rfl (vis_of rfl)) (qe_var (i := 2) rfl (vis_of rfl)) fun _ _ => rfl) qa_nil)))) (qss_one (qs_if (QW.qt (qw_and (qt_cmp (op_eqD (u64 hr)) os_eq (qe_var (i := 3) rfl (vis_of rfl)) qe_int (nomark _)) (qw_and1 (qt_cmp op_gt os_gt (qe_var (i := 2) rfl (vis_of rfl)) qe_int (nomark _))))) (qss_one (qs_asg (i := 4) sc__law_al_bent.nd rfl (loc_of rfl) (qe_bin or_add os_add (qe_bin or_add os_add (qe_slice (qe_var (i := 4) rfl (vis_of rfl)) qo_none (qo_some (qe_bin op_sub os_sub (qe_var (i := 2) rfl (vis_of rfl)) qe_int))) (qe_lst (qa_cons (qe_ix (qe_var (i := 4) rfl (vis_of rfl)) (qe_var (i := 2) rfl (vis_of rfl)) fun _ _ => rfl) (qa_cons (qe_ix (qe_var (i := 4) rfl (vis_of rfl)) (qe_bin op_sub os_sub (qe_var (i := 2) rfl (vis_of rfl)) qe_int) fun _ _ => rfl) qa_nil)))) (qe_slice (qe_var (i := 4) rfl (vis_of rfl)) (qo_some (qe_bin or_add os_add (qe_var (i := 2) rfl (vis_of rfl)) qe_int)) qo_none)))) (qss_one (qs_setIx (i := 4) rfl (vis_of rfl) (qe_call HR hr rfl (qa_cons (qe_var (i := 0) rfl (vis_of rfl)) (qa_cons (qe_ix (qe_var (i := 4) rfl (vis_of rfl)) (qe_var (i := 2) rfl (vis_of rfl)) fun _ _ => rfl) qa_nil))) (qe_var (i := 2) rfl (vis_of rfl))))))))) (qss_one (qs_ret (qe_ifExp (qt_truth (qe_isT FF.kinds rfl FF.m_isinstance rfl FF.m_tuple bt_tuple (by decide) (qe_var (i := 1) rfl (vis_of rfl))) (by intro _; rfl)) (qe_callTy call_tuple_of cs_tuple rfl FF.m_tuple bt_tuple (qa_cons (qe_var (i := 4) rfl (vis_of rfl)) qa_nil)) (qe_var (i := 4) rfl (vis_of rfl))))))) qss_nil) (qss_cons (qs_if (qt_truth (qe_call (ok__law_is_number FF) (hr.mono (by omega)) rfl (qa_cons (qe_var (i := 1) rfl (vis_of rfl)) qa_nil)) (by intro _; rfl)) (qss_one (qs_ret (qe_call (ok__law_pick FF) (hr.mono (by omega)) rfl (qa_cons (qe_var (i := 0) rfl (vis_of rfl)) (qa_cons (qe_lst (qa_cons (qe_bin or_add os_add (qe_var (i := 1) rfl (vis_of rfl)) qe_int) (qa_cons (qe_bin op_sub os_sub (qe_var (i := 1) rfl (vis_of rfl)) qe_int) (qa_cons (qe_bin or_add os_add (qe_var (i := 1) rfl (vis_of rfl)) qe_int) (qa_cons qe_non (qa_cons (qe_cmp (op_eqD (u64 hr)) os_eq (qe_var (i := 1) rfl (vis_of rfl)) qe_int (nomark _)) (qa_cons qe_int (qa_cons qe_int (qa_cons qe_str (qa_cons (qe_un un_neg us_neg (qe_var (i := 1) rfl (vis_of rfl))) qa_nil)))))))))) qa_nil))))) qss_nil) (qss_one (qs_ret (qe_call (ok__law_pick FF) (hr.mono (by omega)) rfl (qa_cons (qe_var (i := 0) rfl (vis_of rfl)) (qa_cons (qe_lst (qa_cons qe_non (qa_cons (qe_tup qa_nil) (qa_cons (qe_lst qa_nil) (qa_cons qe_int (qa_cons qe_int (qa_cons qe_bl (qa_cons qe_str (qa_cons qe_str (qa_cons qe_str (qa_cons (qe_tup (qa_cons qe_int qa_nil)) (qa_cons (qe_tup (qa_cons qe_non qa_nil)) qa_nil)))))))))))) qa_nil)))))))) 8) (by decide +kernel)
theorem sc_Alarms_dot_init : FnScope ["self", "low", "high", "alarms", "index", "item"] ["self", "low", "high", "alarms"] (defScope s_Alarms_dot_init) := ⟨rfl, rfl, rfl, by decide +kernel, rfl, by decide +kernel, by decide +kernel⟩
def t_Alarms_dot_init (x : Addr) : DJ := (dJChk (dDrop (dCall 2 phi_need_values (dCons (dVar 1) (dCons (dVar 2) dNil)))) (dJChk (dIf (dOrT (dNotT (dTruth (dCall 1 phi_is_list (dCons (dVar 3) dNil)))) (dNotT (dTest (dChain fLe fLe (dC (.int 1)) (dCB (one fLen) (dCons (dVar 3) dNil)) (dC (.int 4)))))) (dRaiseI 4 "part" (dCons (dC (.str "alarms")) dNil)) dNext) (dJChk (dFor (dEnum (dCons (dVar 3) dNil)) (gTp 2 (gsCons (gNm 4) (gsCons (gNm 5) gsNil))) (dIf (dNotT (dTruth (dCall 1 phi_alarm_right (dCons (dVar 5) dNil)))) (dRaiseI 3 "index" (dCons (dVar 4) dNil)) dNext)) (dJPut 0 x "own_low" (dVar 1) (dJPut 0 x "own_high" (dVar 2) (dJPut 0 x "own_alarms" (dCB (one fTuple) (dCons (dVar 3) dNil)) dJEnd))))))
def phi_Alarms_dot_init : DF := phiJ ["self", "low", "high", "alarms", "index", "item"] 6 t_Alarms_dot_init
theorem mk_Alarms (FF : Facts P w K mg base g) : Mkr P w K mg base g 4 "Alarms" 3 6 phi_Alarms_dot_init := by
  obtain ⟨fd, F⟩ := FF.d_Alarms_dot_init
  exact ⟨_, fd, _, fnJ_ok (k := 3) (N := ["self", "low", "high", "alarms", "index", "item"]) (t := t_Alarms_dot_init) F sc_Alarms_dot_init (by decide) (fun x cdv A outer s H E hr => (qj_chk (qs_expr (qe_call (ok_need_values FF) (hr.mono (by decide)) rfl (qa_cons (qe_var (i := 1) rfl (vis_of rfl)) (qa_cons (qe_var (i := 2) rfl (vis_of rfl)) qa_nil)))) (qj_chk (qs_if (QW.qt (qw_or (qt_not (qt_truth (qe_call (ok_is_list FF) (hr.mono (by decide)) rfl (qa_cons (qe_var (i := 3) rfl (vis_of rfl)) qa_nil)) (by intro _; rfl))) (qw_or1 (qt_not (qt_chain op_le op_le os_le os_le qe_int (qe_callB call_len cs_len rfl FF.m_len bt_len (qa_cons (qe_var (i := 3) rfl (vis_of rfl)) qa_nil)) (qe_intG FF.c_MOST_ALARMS rfl)))))) (qss_one (qs_raiseI (c := 4) rfl FF.i_BadAlarms (hr.mono (by decide)) FF.g_BadAlarms rfl (qa_cons qe_str qa_nil))) qss_nil) (qj_chk (qs_for (passes_of rfl) rfl (qi_enum rfl FF.m_enumerate (qa_cons (qe_var (i := 3) rfl (vis_of rfl)) qa_nil)) (qg_tup (n := 2) rfl (qgs_cons (qg_name (i := 4) sc_Alarms_dot_init.nd rfl (loc_of rfl)) (qgs_cons (qg_name (i := 5) sc_Alarms_dot_init.nd rfl (loc_of rfl)) qgs_nil))) (qss_one (qs_if (qt_not (qt_truth (qe_call (ok_alarm_right FF) (hr.mono (by decide)) rfl (qa_cons (qe_var (i := 5) rfl (vis_of rfl)) qa_nil)) (by intro _; rfl))) (qss_one (qs_raiseI (c := 3) rfl FF.i_BadAlarm (hr.mono (by decide)) FF.g_BadAlarm rfl (qa_cons (qe_var (i := 4) rfl (vis_of rfl)) qa_nil))) qss_nil))) (qj_put (FF.fl_own_low 6 rfl).1 rfl (vis_of rfl) (FF.fl_own_low 6 rfl).2 (qe_var (i := 1) rfl (vis_of rfl)) (qj_put (FF.fl_own_high 6 rfl).1 rfl (vis_of rfl) (FF.fl_own_high 6 rfl).2 (qe_var (i := 2) rfl (vis_of rfl)) (qj_put (FF.fl_own_alarms 6 rfl).1 rfl (vis_of rfl) (FF.fl_own_alarms 6 rfl).2 (qe_callTy call_tuple_of cs_tuple rfl FF.m_tuple bt_tuple (qa_cons (qe_var (i := 3) rfl (vis_of rfl)) qa_nil)) qj_nil))))))), FF.g_Alarms, FF.k_Alarms, F.bindsN fun _ _ _ _ _ _ us hl => match us, hl with | [_, _, _, _], _ => rfl⟩
theorem kok_is_stream_thing_alarms (FF : Facts P w K mg base g) : KFn P w K mg base g 4 "is_stream" ["alarms", "thing"] ["thing", "alarms"] [1, 0] phi_is_stream 0 := by
  obtain ⟨fd, F⟩ := FF.d_is_stream
  exact ⟨_, fd, okf_is_stream FF F, FF.g_is_stream, F.kp, bindsKw F fun _ _ _ _ _ _ ws hl => match ws, hl with | [_, _], _ => rfl⟩
theorem sc_law : FnScope ["script", "draws", "turn", "low", "high", "one", "stream", "at", "some", "part", "value", "lap", "due", "caught", "wide"] ["script"] (defScope s_law) := ⟨rfl, rfl, rfl, by decide +kernel, rfl, by decide +kernel, by decide +kernel⟩
def t_law : DS := (dSeq (dForC (dRng1 (dCons (dBin fAdd (dC (.int 5)) (dCB (two fMin2) (dCons (dCB (one fLen) (dCons (dVar 0) dNil)) (dCons (dC (.int 9)) dNil)))) dNil)) (gNm 2) (dSeq (dAsgG (dCall 1 phi__law_al_values (dCons (dVar 1) dNil)) (gTp 2 (gsCons (gNm 3) (gsCons (gNm 4) gsNil)))) (dSeq (dAsg 5 (dFz (dNew 3 phi_Alarms_dot_init (dCons (dVar 3) (dCons (dVar 4) (dCons (dCall 4 phi__law_al_several (dCons (dVar 1) (dCons (dVar 3) (dCons (dVar 4) (dCons (dC (.int 8)) dNil))))) dNil)))))) (dSeq (dAsg 6 (dFz (dCall 4 phi__law_al_stream (dCons (dVar 1) (dCons (dVar 3) (dCons (dVar 4) (dCons (dCall 2 phi__law_pick (dCons (dVar 1) (dCons (dLstE (dCons (dC (.int 0)) (dCons (dC (.int 1)) (dCons (dC (.int 5)) (dCons (dC (.int 30)) (dCons (dC (.int 199)) dNil)))))) dNil))) dNil))))))) (dSeq (dAsg 7 (dFz (dCall 2 phi__law_draw (dCons (dVar 1) (dCons (dBin fAdd (dCB (one fLen) (dCons (dVar 6) dNil)) (dC (.int 1))) dNil))))) (dSeq (dAsg 8 (dLstE (dCons (dVar 6) (dCons (dCB (one fList) (dCons (dVar 6) dNil)) (dCons (dBin fAdd (dVar 6) (dTupE (dCons (dVar 3) dNil))) (dCons (dBin fAdd (dVar 6) (dTupE (dCons (dVar 4) dNil))) (dCons (dBin fAdd (dVar 6) (dTupE (dCons (dBin fSub (dVar 3) (dC (.int 1))) dNil))) (dCons (dBin fAdd (dTupE (dCons (dBin fAdd (dVar 4) (dC (.int 1))) dNil)) (dVar 6)) (dCons (dTupE dNil) (dCons (dLstE dNil) (dCons (dC .non) (dCons (dC (.int 5)) (dCons (dC (.str "0")) (dCons dDic0 (dCons (dDic [.inl 0] (dCons (dVar 3) dNil)) (dCons (dBin fAdd (dVar 6) (dVar 6)) dNil)))))))))))))))) (dSeq (dAsg 8 (dBin fAdd (dVar 8) (dLstE (dCons (dBin fRep (dTupE (dCons (dVar 3) dNil)) (dC (.int 200))) (dCons (dBin fRep (dTupE (dCons (dVar 3) dNil)) (dC (.int 201))) (dCons (dBin fRep (dTupE (dCons (dVar 4) dNil)) (dC (.int 201))) dNil)))))) (dSeq (dFor (dIter (dLstE (dCons (dC .non) (dCons (dC (.bl true)) (dCons (dC (.bl false)) (dCons (dC (.str "1")) (dCons (dTupE (dCons (dVar 3) dNil)) (dCons (dLstE (dCons (dVar 3) dNil)) (dCons (dBin fPow (dC (.int 10)) (dC (.int 40))) (dCons (dUn fNeg (dBin fPow (dC (.int 10)) (dC (.int 40)))) (dCons (dC (.int 0)) (dCons (dC (.int 1)) dNil)))))))))))) (gNm 9) (dApp 8 (dCons (dBin fAdd (dBin fAdd (dSl (dVar 6) dNoPart (dPart (dVar 7))) (dTupE (dCons (dVar 9) dNil))) (dSl (dVar 6) (dPart (dVar 7)) dNoPart)) dNil))) (dSeq (dFor (dIter (dBin fAdd (dVar 8) (dLcC (dRng1 (dCons (dC (.int 6)) dNil)) (gNm 11) dYes (dCall 2 phi__law_al_bent (dCons (dVar 1) (dCons (dVar 6) dNil))) [11]))) (gNm 10) (dSeq (dAsg 12 (dFz (dCall 3 phi__law_al_is_stream (dCons (dVar 3) (dCons (dVar 4) (dCons (dVar 10) dNil)))))) (dIf (dOrT (dNotT (dTruth (dCall 2 phi__law_is_truth (dCons (dCall 2 phi_is_stream (dCons (dVar 5) (dCons (dVar 10) dNil))) (dCons (dVar 12) dNil))))) (dNotT (dTruth (dCall 2 phi__law_is_truth (dCons (dCallK 2 2 [1, 0] phi_is_stream (dCons (dVar 10) (dCons (dVar 5) dNil))) (dCons (dVar 12) dNil)))))) (dRet (dC (.bl false))) dNext))) (dFzS 8 (dSeq (dAsg 13 (dFz (dCaught okc (dCall 2 phi_is_stream (dCons (dCall 1 phi__law_al_no_alarms (dCons (dVar 1) dNil)) (dCons (dVar 6) dNil)))))) (dIf (dOrT (dNotT (dTruth (dIs nCls exB (isC subB 5) (dVar 13)))) (dTest (dBin fNotN (dXt "part" 0 okf_part (dVar 13)) (dC .non)))) (dRet (dC (.bl false))) dNext)))))))))))) (dSeq (dAsg 14 (dFz (dNew 3 phi_Alarms_dot_init (dCons (dUn fNeg (dC (.int 100))) (dCons (dC (.int 100)) (dCons (dLstE (dCons (dTupE (dCons (dC (.str "over")) (dCons (dC (.int 1)) (dCons (dC (.int 0)) dNil)))) dNil)) dNil)))))) (dRet (dAndV (dBin fIsB (dCall 2 phi_is_stream (dCons (dVar 14) (dCons (dTupE (dCons (dUn fNeg (dC (.int 100))) (dCons (dC (.int 100)) dNil))) dNil))) (dC (.bl true))) (dAndV (dBin fIsB (dCall 2 phi_is_stream (dCons (dVar 14) (dCons (dTupE (dCons (dUn fNeg (dC (.int 101))) dNil)) dNil))) (dC (.bl false))) (dAndV (dBin fIsB (dCall 2 phi_is_stream (dCons (dVar 14) (dCons (dTupE (dCons (dC (.int 101)) dNil)) dNil))) (dC (.bl false))) (dBin fIsB (dCall 2 phi_is_stream (dCons (dVar 14) (dCons (dTupE (dCons (dC (.bl true)) dNil)) dNil))) (dC (.bl false)))))))))
theorem okf_law {CAs : Nat → Addr} (FF : Facts P w K mg base (gOf CAs (TT K) tn)) {fd : FuncData} (F : FunD K "law" "law" (defArgs s_law) (defBody s_law) (defScope s_law) [] [] (He.fAd K ("law", none)) fd)
    (hb : ∀ ns : List Int, ns.length ≤ 63 → t1__law_begun { nx := fun α => u__law_begun α (tapeSs tn k__law_begun) (fun _ => False), rt := fun _ => False } (startA ["script", "great", "cell"] [.fr (.scr ns)]) (fun _ => False))
    (hp : ∀ ns : List Int, ns.length ≤ 63 → (∀ z ∈ ns, Builtin.Int.intBits z ≤ 1048576) → t_law { nx := fun _ => False, rt := fun s => s = .fr (.bl true) } ((startA ["script", "draws", "turn", "low", "high", "one", "stream", "at", "some", "part", "value", "lap", "due", "caught", "wide"] [.fr (.scr ns)]).set 1 (some .tk)) (fun _ => False)) :
    FnOk P w K mg base (L2.CX P w) 13 (He.fAd K ("law", none)) fd ["script"] (spLaw (TT K) K) := by
  obtain ⟨fdB, FB⟩ := FF.d__law_begun
  obtain ⟨fdc, Fc⟩ := FF.d__law_caught
  have Fcb : Binds K fdc ["action"] [] := Fc.bindsN fun _ _ _ _ _ _ us hl => match us, hl with | [_], _ => rfl
  obtain ⟨occ, odc, dVc, kVc, docc, pmc, anc, cdc, ctc, oslc, efc, lkc, hcc, _, _⟩ := Fc.ex
  subst efc
  have TB := FF.tab_law
  have hmT : ((He.cT K ("law", none)).2, lamQ "law" (defScope s_law)) ∈ TT K := List.mem_cons_self
  have huT : ∀ p ∈ TT K, p.1 = (He.cT K ("law", none)).2 → p.2 = lamQ "law" (defScope s_law) := fun p hp e => tab_uniq FF.tabs hp hmT e
  refine law_okC (CA := CAs) (κ := (2 ^ 147)) (k := 12) (it := 1) F sc_law rfl rfl rfl rfl rfl rfl (okf__law_begun FF.toFacts0 FB hb) FF.g__law_begun FB.kp (FB.bindsN fun _ _ _ _ _ _ us hl => match us, hl with | [_], _ => rfl) (by decide) (fun _ => rfl) (fun c hcode A outer s H E hr => ?_) (by decide +kernel) hp
  subst hcode
  exact QSs.mono (qss_cons (qs_forC (passes_of rfl) rfl (qi_rng1 rfl FF.m_range (qa_cons (qe_bin or_add os_add qe_int (qe_callB (call_min2 rfl) cs_min2 rfl FF.m_min bt_min (qa_cons (qe_callB call_len cs_len rfl FF.m_len bt_len (qa_cons (qe_var (i := 0) rfl (vis_of rfl)) qa_nil)) (qa_cons qe_int qa_nil)))) qa_nil)) (qg_name (i := 2) sc_law.nd rfl (loc_of rfl)) (qss_cons (qs_asgG (qe_call (ok__law_al_values FF) (hr.mono (by decide)) rfl (qa_cons (qe_var (i := 1) rfl (vis_of rfl)) qa_nil)) (qg_tup (n := 2) rfl (qgs_cons (qg_name (i := 3) sc_law.nd rfl (loc_of rfl)) (qgs_cons (qg_name (i := 4) sc_law.nd rfl (loc_of rfl)) qgs_nil)))) (qss_cons (qs_asg (i := 5) sc_law.nd rfl (loc_of rfl) (qe_fz (qe_new (mk_Alarms FF) (hr.mono (by decide)) rfl (qa_cons (qe_var (i := 3) rfl (vis_of rfl)) (qa_cons (qe_var (i := 4) rfl (vis_of rfl)) (qa_cons (qe_call (ok__law_al_several FF) (hr.mono (by decide)) rfl (qa_cons (qe_var (i := 1) rfl (vis_of rfl)) (qa_cons (qe_var (i := 3) rfl (vis_of rfl)) (qa_cons (qe_var (i := 4) rfl (vis_of rfl)) (qa_cons qe_int qa_nil))))) qa_nil)))))) (qss_cons (qs_asg (i := 6) sc_law.nd rfl (loc_of rfl) (qe_fz (qe_call (ok__law_al_stream FF) (hr.mono (by decide)) rfl (qa_cons (qe_var (i := 1) rfl (vis_of rfl)) (qa_cons (qe_var (i := 3) rfl (vis_of rfl)) (qa_cons (qe_var (i := 4) rfl (vis_of rfl)) (qa_cons (qe_call (ok__law_pick FF) (hr.mono (by decide)) rfl (qa_cons (qe_var (i := 1) rfl (vis_of rfl)) (qa_cons (qe_lst (qa_cons qe_int (qa_cons qe_int (qa_cons qe_int (qa_cons qe_int (qa_cons qe_int qa_nil)))))) qa_nil))) qa_nil))))))) (qss_cons (qs_asg (i := 7) sc_law.nd rfl (loc_of rfl) (qe_fz (qe_call (ok__law_draw FF) (hr.mono (by decide)) rfl (qa_cons (qe_var (i := 1) rfl (vis_of rfl)) (qa_cons (qe_bin or_add os_add (qe_callB call_len cs_len rfl FF.m_len bt_len (qa_cons (qe_var (i := 6) rfl (vis_of rfl)) qa_nil)) qe_int) qa_nil))))) (qss_cons (qs_asg (i := 8) sc_law.nd rfl (loc_of rfl) (qe_lst (qa_cons (qe_var (i := 6) rfl (vis_of rfl)) (qa_cons (qe_callTy call_list_of cs_list rfl FF.m_list bt_list (qa_cons (qe_var (i := 6) rfl (vis_of rfl)) qa_nil)) (qa_cons (qe_bin or_add os_add (qe_var (i := 6) rfl (vis_of rfl)) (qe_tup (qa_cons (qe_var (i := 3) rfl (vis_of rfl)) qa_nil))) (qa_cons (qe_bin or_add os_add (qe_var (i := 6) rfl (vis_of rfl)) (qe_tup (qa_cons (qe_var (i := 4) rfl (vis_of rfl)) qa_nil))) (qa_cons (qe_bin or_add os_add (qe_var (i := 6) rfl (vis_of rfl)) (qe_tup (qa_cons (qe_bin op_sub os_sub (qe_var (i := 3) rfl (vis_of rfl)) qe_int) qa_nil))) (qa_cons (qe_bin or_add os_add (qe_tup (qa_cons (qe_bin or_add os_add (qe_var (i := 4) rfl (vis_of rfl)) qe_int) qa_nil)) (qe_var (i := 6) rfl (vis_of rfl))) (qa_cons (qe_tup qa_nil) (qa_cons (qe_lst qa_nil) (qa_cons qe_non (qa_cons qe_int (qa_cons qe_str (qa_cons qe_dic0 (qa_cons (qe_dic (qp_consI (qe_var (i := 3) rfl (vis_of rfl)) qp_nil) (by decide +kernel) (by decide)) (qa_cons (qe_bin or_add os_add (qe_var (i := 6) rfl (vis_of rfl)) (qe_var (i := 6) rfl (vis_of rfl))) qa_nil)))))))))))))))) (qss_cons (qs_asg (i := 8) sc_law.nd rfl (loc_of rfl) (qe_bin or_add os_add (qe_var (i := 8) rfl (vis_of rfl)) (qe_lst (qa_cons (qe_bin op_repT os_rep (qe_tup (qa_cons (qe_var (i := 3) rfl (vis_of rfl)) qa_nil)) qe_int) (qa_cons (qe_bin op_repT os_rep (qe_tup (qa_cons (qe_var (i := 3) rfl (vis_of rfl)) qa_nil)) qe_int) (qa_cons (qe_bin op_repT os_rep (qe_tup (qa_cons (qe_var (i := 4) rfl (vis_of rfl)) qa_nil)) qe_int) qa_nil)))))) (qss_cons (qs_for (passes_of rfl) rfl (qi_any (qe_lst (qa_cons qe_non (qa_cons qe_bl (qa_cons qe_bl (qa_cons qe_str (qa_cons (qe_tup (qa_cons (qe_var (i := 3) rfl (vis_of rfl)) qa_nil)) (qa_cons (qe_lst (qa_cons (qe_var (i := 3) rfl (vis_of rfl)) qa_nil)) (qa_cons (qe_bin op_powB os_pow qe_int qe_int) (qa_cons (qe_un un_neg us_neg (qe_bin op_powB os_pow qe_int qe_int)) (qa_cons qe_int (qa_cons qe_int qa_nil)))))))))))) (qg_name (i := 9) sc_law.nd rfl (loc_of rfl)) (qss_one (qs_app (i := 8) (fun _ ha => pe_bm PySem.F.plainAttrs_list PySem.F.slot_list_append PySem.F.type_list_append mt_append (pe_var (i := 8) rfl (vis_of rfl)) ha) (qa_cons (qe_bin or_add os_add (qe_bin or_add os_add (qe_slice (qe_var (i := 6) rfl (vis_of rfl)) qo_none (qo_some (qe_var (i := 7) rfl (vis_of rfl)))) (qe_tup (qa_cons (qe_var (i := 9) rfl (vis_of rfl)) qa_nil))) (qe_slice (qe_var (i := 6) rfl (vis_of rfl)) (qo_some (qe_var (i := 7) rfl (vis_of rfl))) qo_none)) qa_nil)))) (qss_cons (qs_for (passes_of rfl) rfl (qi_any (qe_bin or_add os_add (qe_var (i := 8) rfl (vis_of rfl)) (qe_lcC (own := [("lap", 11)]) rfl sc_law.nd (qi_rng1 rfl FF.m_range (qa_cons qe_int qa_nil)) (blkOk_by (by kernel_rfl)) (fun _ _ _ _ _ => (qgv_name (i := 11) sc_law.nd rfl (loc_of rfl) (by decide))) (fun _ _ _ _ _ => qts_nil) (fun _ _ _ _ _ => (qe_call (ok__law_al_bent FF) (hr.mono (by decide)) rfl (qa_cons (qe_var (i := 1) rfl (vis_of rfl)) (qa_cons (qe_var (i := 6) rfl (vis_of rfl)) qa_nil))))))) (qg_name (i := 10) sc_law.nd rfl (loc_of rfl)) (qss_cons (qs_asg (i := 12) sc_law.nd rfl (loc_of rfl) (qe_fz (qe_call (ok__law_al_is_stream FF) (hr.mono (by decide)) rfl (qa_cons (qe_var (i := 3) rfl (vis_of rfl)) (qa_cons (qe_var (i := 4) rfl (vis_of rfl)) (qa_cons (qe_var (i := 10) rfl (vis_of rfl)) qa_nil)))))) (qss_one (qs_if (QW.qt (qw_or (qt_not (qt_truth (qe_call (ok__law_is_truth FF) (hr.mono (by decide)) rfl (qa_cons (qe_call (ok_is_stream FF) (hr.mono (by decide)) rfl (qa_cons (qe_var (i := 5) rfl (vis_of rfl)) (qa_cons (qe_var (i := 10) rfl (vis_of rfl)) qa_nil))) (qa_cons (qe_var (i := 12) rfl (vis_of rfl)) qa_nil))) (by intro _; rfl))) (qw_or1 (qt_not (qt_truth (qe_call (ok__law_is_truth FF) (hr.mono (by decide)) rfl (qa_cons (qe_callK (kok_is_stream_thing_alarms FF) (hr.mono (by decide)) rfl (qk_cons (qe_var (i := 10) rfl (vis_of rfl)) (qk_cons (qe_var (i := 5) rfl (vis_of rfl)) qk_nil))) (qa_cons (qe_var (i := 12) rfl (vis_of rfl)) qa_nil))) (by intro _; rfl)))))) (qss_one (qs_ret qe_bl)) qss_nil)))) (qss_fzS (qss_cons (qs_asg (i := 13) sc_law.nd rfl (loc_of rfl) (qe_fz (qe_caught (k := 4) FF.lam FF.okc rfl FF.g_AlarmError (by decide) rfl rfl rfl FF.g__law_caught Fc.kp lkc hcc Fcb sc__law_caught (.inl rfl) TB rfl hmT huT (hr.mono (by decide)) (LamX.lamS_by (by kernel_rfl)) rfl (fun _ _ _ _ _ => rfl) (fun A outer s H E f c' hr2 => (qe_call (ok_is_stream FF) (hr2.mono (by decide)) rfl (qa_cons (qe_call (ok__law_al_no_alarms FF) (hr2.mono (by decide)) rfl (qa_cons (qe_var (i := 1) rfl (vis_of rfl)) qa_nil)) (qa_cons (qe_var (i := 6) rfl (vis_of rfl)) qa_nil))))))) (qss_one (qs_if (QW.qt (qw_or (qt_not (qt_truth (qe_isC (c := 5) FF.kinds (by decide) rfl FF.m_isinstance rfl FF.g_NoAlarms (qe_var (i := 13) rfl (vis_of rfl))) (by intro _; rfl))) (qw_or1 (qt_cmp op_notN os_notN (qe_xt FF.xf_part (qe_var (i := 13) rfl (vis_of rfl))) qe_non (nomark _))))) (qss_one (qs_ret qe_bl)) qss_nil))))))))))))) (qss_cons (qs_asg (i := 14) sc_law.nd rfl (loc_of rfl) (qe_fz (qe_new (mk_Alarms FF) (hr.mono (by decide)) rfl (qa_cons (qe_un un_neg us_neg qe_int) (qa_cons qe_int (qa_cons (qe_lst (qa_cons (qe_tup (qa_cons qe_str (qa_cons qe_int (qa_cons qe_int qa_nil)))) qa_nil)) qa_nil)))))) (qss_one (qs_ret (qe_and (qe_cmp op_isB os_isB (qe_call (ok_is_stream FF) (hr.mono (by decide)) rfl (qa_cons (qe_var (i := 14) rfl (vis_of rfl)) (qa_cons (qe_tup (qa_cons (qe_un un_neg us_neg qe_int) (qa_cons qe_int qa_nil))) qa_nil))) qe_bl (nomark _)) (qe_and (qe_cmp op_isB os_isB (qe_call (ok_is_stream FF) (hr.mono (by decide)) rfl (qa_cons (qe_var (i := 14) rfl (vis_of rfl)) (qa_cons (qe_tup (qa_cons (qe_un un_neg us_neg qe_int) qa_nil)) qa_nil))) qe_bl (nomark _)) (qe_and (qe_cmp op_isB os_isB (qe_call (ok_is_stream FF) (hr.mono (by decide)) rfl (qa_cons (qe_var (i := 14) rfl (vis_of rfl)) (qa_cons (qe_tup (qa_cons qe_int qa_nil)) qa_nil))) qe_bl (nomark _)) (qe_one (qe_cmp op_isB os_isB (qe_call (ok_is_stream FF) (hr.mono (by decide)) rfl (qa_cons (qe_var (i := 14) rfl (vis_of rfl)) (qa_cons (qe_tup (qa_cons qe_bl qa_nil)) qa_nil))) qe_bl (nomark _)))))))))) (by decide +kernel)
end
end LW

set_option linter.all false
set_option maxRecDepth 100000
set_option maxHeartbeats 4000000
namespace LW
open PySem PySem.Spec L2 DL
section
variable {Q : S → Prop} {E : XD → Prop}
theorem sp_is_number {d : D} (h : d.pl = true) : phi_is_number [.fr d] Q E ↔ Q (.fr (.bl d.num)) := by
  cases d <;> simp_all [phi, startA, dSeq, dNext, dAsg, dAsgG, dIf, dRet, dRetV, dRetN, dDrop, dRaise, dRaiseI, dFz, dFzS, dVar, dC, dBin, dUn, dTest, isB, dAndT, dOrT, dNotT, dAndV, dOrV, dNotV, dIfE, dTruth, dCons, dNil, dTupE, dLstE, dCB, dIs, dCall, gNm, dPart, dNoPart, DL.f0, DL.fc, DL.g1, DL.g2, DL.g3, DL.s1, DL.s2, DL.zc, dPar, dChain, DL.e1, DL.e2, DL.e3, DL.e4, DL.e5, DL.e6, DL.e7, DL.e8, DL.e9, DL.e10, DL.e11, DL.e12, DL.e13, DL.e14, DL.a1, DL.a2, DL.a3, DL.a4, DL.a5, DL.a6, DL.a7, DL.a8, DL.a9, DL.a10, DL.a11, DL.t1, DL.t2, DL.t3, DL.x1, DL.x2, DL.x3, DL.x4, DL.x5, DL.x6, DL.x7, DL.x8, DL.x9, DL.x10, DL.x11, DL.x12, DL.y1, DL.y2, DL.eq_ii, DL.ne_ii, DL.k1, DL.k2, DL.k3, DL.k4, DL.k5, DL.k6, DL.z0, DL.z1, DL.z2, DL.z3, DL.z4, DL.z5, DL.z6, DL.z7, DL.z8, DL.z9, DL.z10, DL.z11, DL.z12, DL.z13, DL.z14, DL.z15, DL.z16, DL.z17, DL.z18, DL.z19, DL.z20, DL.z21, DL.z22, DL.z23, DL.z24, DL.z25, DL.z26, DL.z27, DL.z28, DL.z29, DL.ic1, DL.ic2, dPar3, dIs2, dDic0, dCallD, dFld, dProp, dNew, dTkSet, dTkInt, dIter, DL.w0, DL.w1, DL.w2, DL.w3, DL.w4, DL.w5, phi_is_number, t_is_number, D.pl, D.num]
theorem sp__law_is_number {d : D} (h : d.pl = true) : phi__law_is_number [.fr d] Q E ↔ Q (.fr (.bl d.num)) := by
  cases d <;> simp_all [phi, startA, dSeq, dNext, dAsg, dAsgG, dIf, dRet, dRetV, dRetN, dDrop, dRaise, dRaiseI, dFz, dFzS, dVar, dC, dBin, dUn, dTest, isB, dAndT, dOrT, dNotT, dAndV, dOrV, dNotV, dIfE, dTruth, dCons, dNil, dTupE, dLstE, dCB, dIs, dCall, gNm, dPart, dNoPart, DL.f0, DL.fc, DL.g1, DL.g2, DL.g3, DL.s1, DL.s2, DL.zc, dPar, dChain, DL.e1, DL.e2, DL.e3, DL.e4, DL.e5, DL.e6, DL.e7, DL.e8, DL.e9, DL.e10, DL.e11, DL.e12, DL.e13, DL.e14, DL.a1, DL.a2, DL.a3, DL.a4, DL.a5, DL.a6, DL.a7, DL.a8, DL.a9, DL.a10, DL.a11, DL.t1, DL.t2, DL.t3, DL.x1, DL.x2, DL.x3, DL.x4, DL.x5, DL.x6, DL.x7, DL.x8, DL.x9, DL.x10, DL.x11, DL.x12, DL.y1, DL.y2, DL.eq_ii, DL.ne_ii, DL.k1, DL.k2, DL.k3, DL.k4, DL.k5, DL.k6, DL.z0, DL.z1, DL.z2, DL.z3, DL.z4, DL.z5, DL.z6, DL.z7, DL.z8, DL.z9, DL.z10, DL.z11, DL.z12, DL.z13, DL.z14, DL.z15, DL.z16, DL.z17, DL.z18, DL.z19, DL.z20, DL.z21, DL.z22, DL.z23, DL.z24, DL.z25, DL.z26, DL.z27, DL.z28, DL.z29, DL.ic1, DL.ic2, dPar3, dIs2, dDic0, dCallD, dFld, dProp, dNew, dTkSet, dTkInt, dIter, DL.w0, DL.w1, DL.w2, DL.w3, DL.w4, DL.w5, phi__law_is_number, t__law_is_number, D.pl, D.num]
theorem sp_is_between {d : D} {a b : Int} (h : d.pl = true) : phi_is_between [.fr d, .fr (.int a), .fr (.int b)] Q E ↔ Q (.fr (.bl (btw d a b))) := by
  cases d with
  | int i =>
    simp [phi, startA, dSeq, dNext, dAsg, dAsgG, dIf, dRet, dRetV, dRetN, dDrop, dRaise, dRaiseI, dFz, dFzS, dVar, dC, dBin, dUn, dTest, isB, dAndT, dOrT, dNotT, dAndV, dOrV, dNotV, dIfE, dTruth, dCons, dNil, dTupE, dLstE, dCB, dIs, dCall, gNm, dPart, dNoPart, DL.f0, DL.fc, DL.g1, DL.g2, DL.g3, DL.s1, DL.s2, DL.zc, dPar, dChain, DL.e1, DL.e2, DL.e3, DL.e4, DL.e5, DL.e6, DL.e7, DL.e8, DL.e9, DL.e10, DL.e11, DL.e12, DL.e13, DL.e14, DL.a1, DL.a2, DL.a3, DL.a4, DL.a5, DL.a6, DL.a7, DL.a8, DL.a9, DL.a10, DL.a11, DL.t1, DL.t2, DL.t3, DL.x1, DL.x2, DL.x3, DL.x4, DL.x5, DL.x6, DL.x7, DL.x8, DL.x9, DL.x10, DL.x11, DL.x12, DL.y1, DL.y2, DL.eq_ii, DL.ne_ii, DL.k1, DL.k2, DL.k3, DL.k4, DL.k5, DL.k6, DL.z0, DL.z1, DL.z2, DL.z3, DL.z4, DL.z5, DL.z6, DL.z7, DL.z8, DL.z9, DL.z10, DL.z11, DL.z12, DL.z13, DL.z14, DL.z15, DL.z16, DL.z17, DL.z18, DL.z19, DL.z20, DL.z21, DL.z22, DL.z23, DL.z24, DL.z25, DL.z26, DL.z27, DL.z28, DL.z29, DL.ic1, DL.ic2, dPar3, dIs2, dDic0, dCallD, dFld, dProp, dNew, dTkSet, dTkInt, dIter, DL.w0, DL.w1, DL.w2, DL.w3, DL.w4, DL.w5, phi_is_between, t_is_between, D.num, sp_is_number h, btw]
    by_cases h1 : a ≤ i <;> simp [h1]
  | _ => simp [phi, startA, dSeq, dNext, dAsg, dAsgG, dIf, dRet, dRetV, dRetN, dDrop, dRaise, dRaiseI, dFz, dFzS, dVar, dC, dBin, dUn, dTest, isB, dAndT, dOrT, dNotT, dAndV, dOrV, dNotV, dIfE, dTruth, dCons, dNil, dTupE, dLstE, dCB, dIs, dCall, gNm, dPart, dNoPart, DL.f0, DL.fc, DL.g1, DL.g2, DL.g3, DL.s1, DL.s2, DL.zc, dPar, dChain, DL.e1, DL.e2, DL.e3, DL.e4, DL.e5, DL.e6, DL.e7, DL.e8, DL.e9, DL.e10, DL.e11, DL.e12, DL.e13, DL.e14, DL.a1, DL.a2, DL.a3, DL.a4, DL.a5, DL.a6, DL.a7, DL.a8, DL.a9, DL.a10, DL.a11, DL.t1, DL.t2, DL.t3, DL.x1, DL.x2, DL.x3, DL.x4, DL.x5, DL.x6, DL.x7, DL.x8, DL.x9, DL.x10, DL.x11, DL.x12, DL.y1, DL.y2, DL.eq_ii, DL.ne_ii, DL.k1, DL.k2, DL.k3, DL.k4, DL.k5, DL.k6, DL.z0, DL.z1, DL.z2, DL.z3, DL.z4, DL.z5, DL.z6, DL.z7, DL.z8, DL.z9, DL.z10, DL.z11, DL.z12, DL.z13, DL.z14, DL.z15, DL.z16, DL.z17, DL.z18, DL.z19, DL.z20, DL.z21, DL.z22, DL.z23, DL.z24, DL.z25, DL.z26, DL.z27, DL.z28, DL.z29, DL.ic1, DL.ic2, dPar3, dIs2, dDic0, dCallD, dFld, dProp, dNew, dTkSet, dTkInt, dIter, DL.w0, DL.w1, DL.w2, DL.w3, DL.w4, DL.w5, phi_is_between, t_is_between, D.num, sp_is_number h, btw]
theorem blend_in {m : Int} (h : m.natAbs < 2 ^ 4100) : PowOk m 5 := pow_okN 4100 (by omega) h (by omega)
theorem blend_small {m t p : Int} (m0 : 0 ≤ m) (m1 : m ≤ 48271 * t + p) (ht : t ≤ (tLim : Int)) (p1 : p < 2 ^ 32) : m.natAbs < 2 ^ 4100 := by
  have e : (2 : Nat) ^ 4100 = 2 ^ 100 * tLim := by
    unfold tLim
    rw [← Nat.pow_add]
  have l1 : 0 < tLim := by
    unfold tLim
    exact Nat.pow_pos (by omega)
  rw [e]
  generalize tLim = L at *
  omega
theorem sp__law_blended (q : ∀ m : Int, 0 ≤ m → Q (.fr (.int m))) : phi__law_blended [.tk] Q E := by
  simp [phi, startA, dSeq, dNext, dAsg, dAsgG, dIf, dRet, dRetV, dRetN, dDrop, dRaise, dRaiseI, dFz, dFzS, dVar, dC, dBin, dUn, dTest, isB, dAndT, dOrT, dNotT, dAndV, dOrV, dNotV, dIfE, dTruth, dCons, dNil, dTupE, dLstE, dCB, dIs, dCall, gNm, dPart, dNoPart, DL.f0, DL.fc, DL.g1, DL.g2, DL.g3, DL.s1, DL.s2, DL.zc, dPar, dChain, DL.e1, DL.e2, DL.e3, DL.e4, DL.e5, DL.e6, DL.e7, DL.e8, DL.e9, DL.e10, DL.e11, DL.e12, DL.e13, DL.e14, DL.a1, DL.a2, DL.a3, DL.a4, DL.a5, DL.a6, DL.a7, DL.a8, DL.a9, DL.a10, DL.a11, DL.t1, DL.t2, DL.t3, DL.x1, DL.x2, DL.x3, DL.x4, DL.x5, DL.x6, DL.x7, DL.x8, DL.x9, DL.x10, DL.x11, DL.x12, DL.y1, DL.y2, DL.eq_ii, DL.ne_ii, DL.k1, DL.k2, DL.k3, DL.k4, DL.k5, DL.k6, DL.z0, DL.z1, DL.z2, DL.z3, DL.z4, DL.z5, DL.z6, DL.z7, DL.z8, DL.z9, DL.z10, DL.z11, DL.z12, DL.z13, DL.z14, DL.z15, DL.z16, DL.z17, DL.z18, DL.z19, DL.z20, DL.z21, DL.z22, DL.z23, DL.z24, DL.z25, DL.z26, DL.z27, DL.z28, DL.z29, DL.ic1, DL.ic2, dPar3, dIs2, dDic0, dCallD, dFld, dProp, dNew, dTkSet, dTkInt, dIter, DL.w0, DL.w1, DL.w2, DL.w3, DL.w4, DL.w5, phi__law_blended, t__law_blended, dTkTurn, dFor, dTkCells]
  intro t ht0 ht
  refine ⟨lsz (by omega), ?_⟩
  refine for_inv (fun α => ∃ f : Int, 0 ≤ f ∧ ∃ s3 s4 s5 : Option S, α = [some .tk, some (.fr (.int t)), some (.fr (.int f)), s3, s4, s5]) (fun d hd α hα nxt hn => ?_) ⟨0, Int.le_refl _, none, none, none, rfl⟩ (fun α hα => ?_)
  · obtain ⟨f, hf, s3, s4, s5, rfl⟩ := hα
    have hp : ∃ p : Int, 0 < p ∧ p < 2 ^ 32 ∧ d = .int p := by
      simp only [List.mem_cons, List.not_mem_nil, or_false] at hd
      rcases hd with rfl | rfl | rfl <;> exact ⟨_, by omega, by omega, rfl⟩
    obtain ⟨p, p0, p1, rfl⟩ := hp
    simp [phi, startA, dSeq, dNext, dAsg, dAsgG, dIf, dRet, dRetV, dRetN, dDrop, dRaise, dRaiseI, dFz, dFzS, dVar, dC, dBin, dUn, dTest, isB, dAndT, dOrT, dNotT, dAndV, dOrV, dNotV, dIfE, dTruth, dCons, dNil, dTupE, dLstE, dCB, dIs, dCall, gNm, dPart, dNoPart, DL.f0, DL.fc, DL.g1, DL.g2, DL.g3, DL.s1, DL.s2, DL.zc, dPar, dChain, DL.e1, DL.e2, DL.e3, DL.e4, DL.e5, DL.e6, DL.e7, DL.e8, DL.e9, DL.e10, DL.e11, DL.e12, DL.e13, DL.e14, DL.a1, DL.a2, DL.a3, DL.a4, DL.a5, DL.a6, DL.a7, DL.a8, DL.a9, DL.a10, DL.a11, DL.t1, DL.t2, DL.t3, DL.x1, DL.x2, DL.x3, DL.x4, DL.x5, DL.x6, DL.x7, DL.x8, DL.x9, DL.x10, DL.x11, DL.x12, DL.y1, DL.y2, DL.eq_ii, DL.ne_ii, DL.k1, DL.k2, DL.k3, DL.k4, DL.k5, DL.k6, DL.z0, DL.z1, DL.z2, DL.z3, DL.z4, DL.z5, DL.z6, DL.z7, DL.z8, DL.z9, DL.z10, DL.z11, DL.z12, DL.z13, DL.z14, DL.z15, DL.z16, DL.z17, DL.z18, DL.z19, DL.z20, DL.z21, DL.z22, DL.z23, DL.z24, DL.z25, DL.z26, DL.z27, DL.z28, DL.z29, DL.ic1, DL.ic2, dPar3, dIs2, dDic0, dCallD, dFld, dProp, dNew, dTkSet, dTkInt, dIter, DL.w0, DL.w1, DL.w2, DL.w3, DL.w4, DL.w5, dFor, dTkCells]
    refine ⟨mul_l (by omega) (by omega), div_ok' (by omega) (by omega), fun ns hns => ?_⟩
    have b0 : 0 ≤ 48271 * t + p / 53 := by
      have := Int.ediv_nonneg (show 0 ≤ p by omega) (show (0 : Int) ≤ 53 by omega)
      omega
    refine for_inv (fun α => ∃ m : Int, 0 ≤ m ∧ m ≤ 48271 * t + p ∧ ∃ s5 : Option S, α = [some .tk, some (.fr (.int t)), some (.fr (.int f)), some (.fr (.int p)), some (.fr (.int m)), s5]) (fun d hd α hα nxt2 hn2 => ?_) ⟨_, b0, by omega, s5, rfl⟩ (fun α hα => ?_)
    · obtain ⟨m, m0, m1, s5, rfl⟩ := hα
      obtain ⟨c, _, rfl⟩ := List.mem_map.mp hd
      simp [phi, startA, dSeq, dNext, dAsg, dAsgG, dIf, dRet, dRetV, dRetN, dDrop, dRaise, dRaiseI, dFz, dFzS, dVar, dC, dBin, dUn, dTest, isB, dAndT, dOrT, dNotT, dAndV, dOrV, dNotV, dIfE, dTruth, dCons, dNil, dTupE, dLstE, dCB, dIs, dCall, gNm, dPart, dNoPart, DL.f0, DL.fc, DL.g1, DL.g2, DL.g3, DL.s1, DL.s2, DL.zc, dPar, dChain, DL.e1, DL.e2, DL.e3, DL.e4, DL.e5, DL.e6, DL.e7, DL.e8, DL.e9, DL.e10, DL.e11, DL.e12, DL.e13, DL.e14, DL.a1, DL.a2, DL.a3, DL.a4, DL.a5, DL.a6, DL.a7, DL.a8, DL.a9, DL.a10, DL.a11, DL.t1, DL.t2, DL.t3, DL.x1, DL.x2, DL.x3, DL.x4, DL.x5, DL.x6, DL.x7, DL.x8, DL.x9, DL.x10, DL.x11, DL.x12, DL.y1, DL.y2, DL.eq_ii, DL.ne_ii, DL.k1, DL.k2, DL.k3, DL.k4, DL.k5, DL.k6, DL.z0, DL.z1, DL.z2, DL.z3, DL.z4, DL.z5, DL.z6, DL.z7, DL.z8, DL.z9, DL.z10, DL.z11, DL.z12, DL.z13, DL.z14, DL.z15, DL.z16, DL.z17, DL.z18, DL.z19, DL.z20, DL.z21, DL.z22, DL.z23, DL.z24, DL.z25, DL.z26, DL.z27, DL.z28, DL.z29, DL.ic1, DL.ic2, dPar3, dIs2, dDic0, dCallD, dFld, dProp, dNew, dTkSet, dTkInt, dIter, DL.w0, DL.w1, DL.w2, DL.w3, DL.w4, DL.w5]
      refine ⟨mul_r (by omega) (by omega), p0, hn2 _ ⟨_, Int.emod_nonneg _ (by omega), ?_, _, rfl⟩⟩
      have := Int.emod_lt_of_pos (m * 69621 + c + t) p0
      omega
    · obtain ⟨m, m0, m1, s5, rfl⟩ := hα
      simp [phi, startA, dSeq, dNext, dAsg, dAsgG, dIf, dRet, dRetV, dRetN, dDrop, dRaise, dRaiseI, dFz, dFzS, dVar, dC, dBin, dUn, dTest, isB, dAndT, dOrT, dNotT, dAndV, dOrV, dNotV, dIfE, dTruth, dCons, dNil, dTupE, dLstE, dCB, dIs, dCall, gNm, dPart, dNoPart, DL.f0, DL.fc, DL.g1, DL.g2, DL.g3, DL.s1, DL.s2, DL.zc, dPar, dChain, DL.e1, DL.e2, DL.e3, DL.e4, DL.e5, DL.e6, DL.e7, DL.e8, DL.e9, DL.e10, DL.e11, DL.e12, DL.e13, DL.e14, DL.a1, DL.a2, DL.a3, DL.a4, DL.a5, DL.a6, DL.a7, DL.a8, DL.a9, DL.a10, DL.a11, DL.t1, DL.t2, DL.t3, DL.x1, DL.x2, DL.x3, DL.x4, DL.x5, DL.x6, DL.x7, DL.x8, DL.x9, DL.x10, DL.x11, DL.x12, DL.y1, DL.y2, DL.eq_ii, DL.ne_ii, DL.k1, DL.k2, DL.k3, DL.k4, DL.k5, DL.k6, DL.z0, DL.z1, DL.z2, DL.z3, DL.z4, DL.z5, DL.z6, DL.z7, DL.z8, DL.z9, DL.z10, DL.z11, DL.z12, DL.z13, DL.z14, DL.z15, DL.z16, DL.z17, DL.z18, DL.z19, DL.z20, DL.z21, DL.z22, DL.z23, DL.z24, DL.z25, DL.z26, DL.z27, DL.z28, DL.z29, DL.ic1, DL.ic2, dPar3, dIs2, dDic0, dCallD, dFld, dProp, dNew, dTkSet, dTkInt, dIter, DL.w0, DL.w1, DL.w2, DL.w3, DL.w4, DL.w5]
      refine ⟨mul_r (by omega) (by omega), blend_in ?_, p0, hn _ ⟨_, ?_, _, _, _, rfl⟩⟩
      · exact blend_small m0 m1 ht p1
      · have := Int.emod_nonneg (m ^ 5) (show p ≠ 0 by omega)
        have h2 : 0 ≤ f * 2147483647 := Int.mul_nonneg hf (by omega)
        omega
  · obtain ⟨f, hf, s3, s4, s5, rfl⟩ := hα
    exact ⟨_, rfl, q f hf⟩
theorem sp__law_draw {n : Int} (h : 0 < n) (h' : n ≤ 10 ^ 40) (q : ∀ m : Int, 0 ≤ m → m < n → Q (.fr (.int m))) : phi__law_draw [.tk, .fr (.int n)] Q E := by
  simp [phi, startA, dSeq, dNext, dAsg, dAsgG, dIf, dRet, dRetV, dRetN, dDrop, dRaise, dRaiseI, dFz, dFzS, dVar, dC, dBin, dUn, dTest, isB, dAndT, dOrT, dNotT, dAndV, dOrV, dNotV, dIfE, dTruth, dCons, dNil, dTupE, dLstE, dCB, dIs, dCall, gNm, dPart, dNoPart, DL.f0, DL.fc, DL.g1, DL.g2, DL.g3, DL.s1, DL.s2, DL.zc, dPar, dChain, DL.e1, DL.e2, DL.e3, DL.e4, DL.e5, DL.e6, DL.e7, DL.e8, DL.e9, DL.e10, DL.e11, DL.e12, DL.e13, DL.e14, DL.a1, DL.a2, DL.a3, DL.a4, DL.a5, DL.a6, DL.a7, DL.a8, DL.a9, DL.a10, DL.a11, DL.t1, DL.t2, DL.t3, DL.x1, DL.x2, DL.x3, DL.x4, DL.x5, DL.x6, DL.x7, DL.x8, DL.x9, DL.x10, DL.x11, DL.x12, DL.y1, DL.y2, DL.eq_ii, DL.ne_ii, DL.k1, DL.k2, DL.k3, DL.k4, DL.k5, DL.k6, DL.z0, DL.z1, DL.z2, DL.z3, DL.z4, DL.z5, DL.z6, DL.z7, DL.z8, DL.z9, DL.z10, DL.z11, DL.z12, DL.z13, DL.z14, DL.z15, DL.z16, DL.z17, DL.z18, DL.z19, DL.z20, DL.z21, DL.z22, DL.z23, DL.z24, DL.z25, DL.z26, DL.z27, DL.z28, DL.z29, DL.ic1, DL.ic2, dPar3, dIs2, dDic0, dCallD, dFld, dProp, dNew, dTkSet, dTkInt, dIter, DL.w0, DL.w1, DL.w2, DL.w3, DL.w4, DL.w5, phi__law_draw, t__law_draw, dTkPop]
  intro m hm
  have fin : ∀ (m : Int), 0 ≤ m → 0 < n ∧ ∀ (m_1 : Int), 0 ≤ m_1 → DivOk m_1 n ∧ ∃ m_2, 0 ≤ m_2 ∧ m_1 / n = m_2 ∧ Q (S.fr (D.int (m % n))) := fun m hm =>
    ⟨h, fun m1 h1 => ⟨div_ok' h h', _, Int.ediv_nonneg h1 (by omega), rfl, q _ (Int.emod_nonneg _ (by omega)) (Int.emod_lt_of_pos _ h)⟩⟩
  split
  · refine ⟨fun m hm => ⟨m, hm, rfl, fin⟩, sp__law_blended fun m hm => ⟨m, hm, rfl, fin⟩⟩
  · exact fin
theorem sp__law_pick {ds : List D} (h : ds ≠ []) (hl : ds.length ≤ 1000000) (q : ∀ d ∈ ds, Q (.fr d)) : phi__law_pick [.tk, .fr (.lst ds)] Q E := by
  simp [phi, startA, dSeq, dNext, dAsg, dAsgG, dIf, dRet, dRetV, dRetN, dDrop, dRaise, dRaiseI, dFz, dFzS, dVar, dC, dBin, dUn, dTest, isB, dAndT, dOrT, dNotT, dAndV, dOrV, dNotV, dIfE, dTruth, dCons, dNil, dTupE, dLstE, dCB, dIs, dCall, gNm, dPart, dNoPart, DL.f0, DL.fc, DL.g1, DL.g2, DL.g3, DL.s1, DL.s2, DL.zc, dPar, dChain, DL.e1, DL.e2, DL.e3, DL.e4, DL.e5, DL.e6, DL.e7, DL.e8, DL.e9, DL.e10, DL.e11, DL.e12, DL.e13, DL.e14, DL.a1, DL.a2, DL.a3, DL.a4, DL.a5, DL.a6, DL.a7, DL.a8, DL.a9, DL.a10, DL.a11, DL.t1, DL.t2, DL.t3, DL.x1, DL.x2, DL.x3, DL.x4, DL.x5, DL.x6, DL.x7, DL.x8, DL.x9, DL.x10, DL.x11, DL.x12, DL.y1, DL.y2, DL.eq_ii, DL.ne_ii, DL.k1, DL.k2, DL.k3, DL.k4, DL.k5, DL.k6, DL.z0, DL.z1, DL.z2, DL.z3, DL.z4, DL.z5, DL.z6, DL.z7, DL.z8, DL.z9, DL.z10, DL.z11, DL.z12, DL.z13, DL.z14, DL.z15, DL.z16, DL.z17, DL.z18, DL.z19, DL.z20, DL.z21, DL.z22, DL.z23, DL.z24, DL.z25, DL.z26, DL.z27, DL.z28, DL.z29, DL.ic1, DL.ic2, dPar3, dIs2, dDic0, dCallD, dFld, dProp, dNew, dTkSet, dTkInt, dIter, DL.w0, DL.w1, DL.w2, DL.w3, DL.w4, DL.w5, phi__law_pick, t__law_pick]
  have hp : 0 < ds.length := by
    cases ds with
    | nil => exact absurd rfl h
    | cons d r => rw [List.length_cons]; omega
  refine sp__law_draw (by omega) (by omega) fun m m0 m1 => ?_
  simp [phi, startA, dSeq, dNext, dAsg, dAsgG, dIf, dRet, dRetV, dRetN, dDrop, dRaise, dRaiseI, dFz, dFzS, dVar, dC, dBin, dUn, dTest, isB, dAndT, dOrT, dNotT, dAndV, dOrV, dNotV, dIfE, dTruth, dCons, dNil, dTupE, dLstE, dCB, dIs, dCall, gNm, dPart, dNoPart, DL.f0, DL.fc, DL.g1, DL.g2, DL.g3, DL.s1, DL.s2, DL.zc, dPar, dChain, DL.e1, DL.e2, DL.e3, DL.e4, DL.e5, DL.e6, DL.e7, DL.e8, DL.e9, DL.e10, DL.e11, DL.e12, DL.e13, DL.e14, DL.a1, DL.a2, DL.a3, DL.a4, DL.a5, DL.a6, DL.a7, DL.a8, DL.a9, DL.a10, DL.a11, DL.t1, DL.t2, DL.t3, DL.x1, DL.x2, DL.x3, DL.x4, DL.x5, DL.x6, DL.x7, DL.x8, DL.x9, DL.x10, DL.x11, DL.x12, DL.y1, DL.y2, DL.eq_ii, DL.ne_ii, DL.k1, DL.k2, DL.k3, DL.k4, DL.k5, DL.k6, DL.z0, DL.z1, DL.z2, DL.z3, DL.z4, DL.z5, DL.z6, DL.z7, DL.z8, DL.z9, DL.z10, DL.z11, DL.z12, DL.z13, DL.z14, DL.z15, DL.z16, DL.z17, DL.z18, DL.z19, DL.z20, DL.z21, DL.z22, DL.z23, DL.z24, DL.z25, DL.z26, DL.z27, DL.z28, DL.z29, DL.ic1, DL.ic2, dPar3, dIs2, dDic0, dCallD, dFld, dProp, dNew, dTkSet, dTkInt, dIter, DL.w0, DL.w1, DL.w2, DL.w3, DL.w4, DL.w5]
  have e : m.toNat < ds.length := by omega
  refine ⟨ds[m.toNat], ?_, q _ (List.getElem_mem _)⟩
  unfold atI ixN
  rw [if_pos m0, if_pos m1]
  exact List.getElem?_eq_getElem e
theorem sp_is_list {ds : List D} : phi_is_list [.fr (.lst ds)] Q E ↔ Q (.fr (.bl true)) := by
  simp [phi, startA, dSeq, dNext, dAsg, dAsgG, dIf, dRet, dRetV, dRetN, dDrop, dRaise, dRaiseI, dFz, dFzS, dVar, dC, dBin, dUn, dTest, isB, dAndT, dOrT, dNotT, dAndV, dOrV, dNotV, dIfE, dTruth, dCons, dNil, dTupE, dLstE, dCB, dIs, dCall, gNm, dPart, dNoPart, DL.f0, DL.fc, DL.g1, DL.g2, DL.g3, DL.s1, DL.s2, DL.zc, dPar, dChain, DL.e1, DL.e2, DL.e3, DL.e4, DL.e5, DL.e6, DL.e7, DL.e8, DL.e9, DL.e10, DL.e11, DL.e12, DL.e13, DL.e14, DL.a1, DL.a2, DL.a3, DL.a4, DL.a5, DL.a6, DL.a7, DL.a8, DL.a9, DL.a10, DL.a11, DL.t1, DL.t2, DL.t3, DL.x1, DL.x2, DL.x3, DL.x4, DL.x5, DL.x6, DL.x7, DL.x8, DL.x9, DL.x10, DL.x11, DL.x12, DL.y1, DL.y2, DL.eq_ii, DL.ne_ii, DL.k1, DL.k2, DL.k3, DL.k4, DL.k5, DL.k6, DL.z0, DL.z1, DL.z2, DL.z3, DL.z4, DL.z5, DL.z6, DL.z7, DL.z8, DL.z9, DL.z10, DL.z11, DL.z12, DL.z13, DL.z14, DL.z15, DL.z16, DL.z17, DL.z18, DL.z19, DL.z20, DL.z21, DL.z22, DL.z23, DL.z24, DL.z25, DL.z26, DL.z27, DL.z28, DL.z29, DL.ic1, DL.ic2, dPar3, dIs2, dDic0, dCallD, dFld, dProp, dNew, dTkSet, dTkInt, dIter, DL.w0, DL.w1, DL.w2, DL.w3, DL.w4, DL.w5, phi_is_list, t_is_list]
def over : Str := Str.ofString "over"
def under : Str := Str.ofString "under"
inductive AlOk : D → Prop where
  | o3 (w m : Int) (h1 : 1 ≤ w) (h2 : w ≤ 8) (h3 : -1000 ≤ m) (h4 : m ≤ 1000) : AlOk (.tup [.str over, .int w, .int m])
  | u3 (w m : Int) (h1 : 1 ≤ w) (h2 : w ≤ 8) (h3 : -1000 ≤ m) (h4 : m ≤ 1000) : AlOk (.tup [.str under, .int w, .int m])
  | o4 (w m n : Int) (h1 : 1 ≤ w) (h2 : w ≤ 8) (h3 : -1000 ≤ m) (h4 : m ≤ 1000) (h5 : -1000 ≤ n) (h6 : n < m) : AlOk (.tup [.str over, .int w, .int m, .int n])
  | u4 (w m n : Int) (h1 : 1 ≤ w) (h2 : w ≤ 8) (h3 : -1000 ≤ m) (h4 : m < n) (h5 : n ≤ 1000) : AlOk (.tup [.str under, .int w, .int m, .int n])
theorem sp_alarm_right {d : D} (h : AlOk d) (q : Q (.fr (.bl true))) : phi_alarm_right [.fr d] Q E := by
  have lc : ∀ {ds : List D} {R : List D → Prop} {α : AE}, (∀ d ∈ ds, d.pl = true) → ds.length ≤ 10 → R (ds.map fun d => .bl (btw d (-1000) 1000)) → lcD (gNm 1) dYes (dCall 3 phi_is_between (dCons (dVar 1) (dCons (dUn fNeg (dC (D.int 1000))) (dCons (dC (D.int 1000)) dNil)))) R [some (.fr d), none] ds [] := fun {ds R α} hp hl hr => by
    refine lc_map (fun d => .bl (btw d (-1000) 1000)) (fun x hx P k0 hp' => ?_) (lsz (by omega)) hr
    simp [phi, startA, dSeq, dNext, dAsg, dAsgG, dIf, dRet, dRetV, dRetN, dDrop, dRaise, dRaiseI, dFz, dFzS, dVar, dC, dBin, dUn, dTest, isB, dAndT, dOrT, dNotT, dAndV, dOrV, dNotV, dIfE, dTruth, dCons, dNil, dTupE, dLstE, dCB, dIs, dCall, gNm, dPart, dNoPart, DL.f0, DL.fc, DL.g1, DL.g2, DL.g3, DL.s1, DL.s2, DL.zc, dPar, dChain, DL.e1, DL.e2, DL.e3, DL.e4, DL.e5, DL.e6, DL.e7, DL.e8, DL.e9, DL.e10, DL.e11, DL.e12, DL.e13, DL.e14, DL.a1, DL.a2, DL.a3, DL.a4, DL.a5, DL.a6, DL.a7, DL.a8, DL.a9, DL.a10, DL.a11, DL.t1, DL.t2, DL.t3, DL.x1, DL.x2, DL.x3, DL.x4, DL.x5, DL.x6, DL.x7, DL.x8, DL.x9, DL.x10, DL.x11, DL.x12, DL.y1, DL.y2, DL.eq_ii, DL.ne_ii, DL.k1, DL.k2, DL.k3, DL.k4, DL.k5, DL.k6, DL.z0, DL.z1, DL.z2, DL.z3, DL.z4, DL.z5, DL.z6, DL.z7, DL.z8, DL.z9, DL.z10, DL.z11, DL.z12, DL.z13, DL.z14, DL.z15, DL.z16, DL.z17, DL.z18, DL.z19, DL.z20, DL.z21, DL.z22, DL.z23, DL.z24, DL.z25, DL.z26, DL.z27, DL.z28, DL.z29, DL.ic1, DL.ic2, dPar3, dIs2, dDic0, dCallD, dFld, dProp, dNew, dTkSet, dTkInt, dIter, DL.w0, DL.w1, DL.w2, DL.w3, DL.w4, DL.w5, dYes]
    exact (sp_is_between (hp x hx)).mpr (by simpa [phi, startA, dSeq, dNext, dAsg, dAsgG, dIf, dRet, dRetV, dRetN, dDrop, dRaise, dRaiseI, dFz, dFzS, dVar, dC, dBin, dUn, dTest, isB, dAndT, dOrT, dNotT, dAndV, dOrV, dNotV, dIfE, dTruth, dCons, dNil, dTupE, dLstE, dCB, dIs, dCall, gNm, dPart, dNoPart, DL.f0, DL.fc, DL.g1, DL.g2, DL.g3, DL.s1, DL.s2, DL.zc, dPar, dChain, DL.e1, DL.e2, DL.e3, DL.e4, DL.e5, DL.e6, DL.e7, DL.e8, DL.e9, DL.e10, DL.e11, DL.e12, DL.e13, DL.e14, DL.a1, DL.a2, DL.a3, DL.a4, DL.a5, DL.a6, DL.a7, DL.a8, DL.a9, DL.a10, DL.a11, DL.t1, DL.t2, DL.t3, DL.x1, DL.x2, DL.x3, DL.x4, DL.x5, DL.x6, DL.x7, DL.x8, DL.x9, DL.x10, DL.x11, DL.x12, DL.y1, DL.y2, DL.eq_ii, DL.ne_ii, DL.k1, DL.k2, DL.k3, DL.k4, DL.k5, DL.k6, DL.z0, DL.z1, DL.z2, DL.z3, DL.z4, DL.z5, DL.z6, DL.z7, DL.z8, DL.z9, DL.z10, DL.z11, DL.z12, DL.z13, DL.z14, DL.z15, DL.z16, DL.z17, DL.z18, DL.z19, DL.z20, DL.z21, DL.z22, DL.z23, DL.z24, DL.z25, DL.z26, DL.z27, DL.z28, DL.z29, DL.ic1, DL.ic2, dPar3, dIs2, dDic0, dCallD, dFld, dProp, dNew, dTkSet, dTkInt, dIter, DL.w0, DL.w1, DL.w2, DL.w3, DL.w4, DL.w5] using hp')
  cases h with
  | o3 w m h1 h2 h3 h4 =>
    simp [phi, startA, dSeq, dNext, dAsg, dAsgG, dIf, dRet, dRetV, dRetN, dDrop, dRaise, dRaiseI, dFz, dFzS, dVar, dC, dBin, dUn, dTest, isB, dAndT, dOrT, dNotT, dAndV, dOrV, dNotV, dIfE, dTruth, dCons, dNil, dTupE, dLstE, dCB, dIs, dCall, gNm, dPart, dNoPart, DL.f0, DL.fc, DL.g1, DL.g2, DL.g3, DL.s1, DL.s2, DL.zc, dPar, dChain, DL.e1, DL.e2, DL.e3, DL.e4, DL.e5, DL.e6, DL.e7, DL.e8, DL.e9, DL.e10, DL.e11, DL.e12, DL.e13, DL.e14, DL.a1, DL.a2, DL.a3, DL.a4, DL.a5, DL.a6, DL.a7, DL.a8, DL.a9, DL.a10, DL.a11, DL.t1, DL.t2, DL.t3, DL.x1, DL.x2, DL.x3, DL.x4, DL.x5, DL.x6, DL.x7, DL.x8, DL.x9, DL.x10, DL.x11, DL.x12, DL.y1, DL.y2, DL.eq_ii, DL.ne_ii, DL.k1, DL.k2, DL.k3, DL.k4, DL.k5, DL.k6, DL.z0, DL.z1, DL.z2, DL.z3, DL.z4, DL.z5, DL.z6, DL.z7, DL.z8, DL.z9, DL.z10, DL.z11, DL.z12, DL.z13, DL.z14, DL.z15, DL.z16, DL.z17, DL.z18, DL.z19, DL.z20, DL.z21, DL.z22, DL.z23, DL.z24, DL.z25, DL.z26, DL.z27, DL.z28, DL.z29, DL.ic1, DL.ic2, dPar3, dIs2, dDic0, dCallD, dFld, dProp, dNew, dTkSet, dTkInt, dIter, DL.w0, DL.w1, DL.w2, DL.w3, DL.w4, DL.w5, phi_alarm_right, t_alarm_right]
    refine ⟨lsz (by omega), in_t (b := true) rfl rfl (by decide +kernel) ?_⟩
    simp [phi, startA, dSeq, dNext, dAsg, dAsgG, dIf, dRet, dRetV, dRetN, dDrop, dRaise, dRaiseI, dFz, dFzS, dVar, dC, dBin, dUn, dTest, isB, dAndT, dOrT, dNotT, dAndV, dOrV, dNotV, dIfE, dTruth, dCons, dNil, dTupE, dLstE, dCB, dIs, dCall, gNm, dPart, dNoPart, DL.f0, DL.fc, DL.g1, DL.g2, DL.g3, DL.s1, DL.s2, DL.zc, dPar, dChain, DL.e1, DL.e2, DL.e3, DL.e4, DL.e5, DL.e6, DL.e7, DL.e8, DL.e9, DL.e10, DL.e11, DL.e12, DL.e13, DL.e14, DL.a1, DL.a2, DL.a3, DL.a4, DL.a5, DL.a6, DL.a7, DL.a8, DL.a9, DL.a10, DL.a11, DL.t1, DL.t2, DL.t3, DL.x1, DL.x2, DL.x3, DL.x4, DL.x5, DL.x6, DL.x7, DL.x8, DL.x9, DL.x10, DL.x11, DL.x12, DL.y1, DL.y2, DL.eq_ii, DL.ne_ii, DL.k1, DL.k2, DL.k3, DL.k4, DL.k5, DL.k6, DL.z0, DL.z1, DL.z2, DL.z3, DL.z4, DL.z5, DL.z6, DL.z7, DL.z8, DL.z9, DL.z10, DL.z11, DL.z12, DL.z13, DL.z14, DL.z15, DL.z16, DL.z17, DL.z18, DL.z19, DL.z20, DL.z21, DL.z22, DL.z23, DL.z24, DL.z25, DL.z26, DL.z27, DL.z28, DL.z29, DL.ic1, DL.ic2, dPar3, dIs2, dDic0, dCallD, dFld, dProp, dNew, dTkSet, dTkInt, dIter, DL.w0, DL.w1, DL.w2, DL.w3, DL.w4, DL.w5]
    refine in_t (b := true) rfl (by decide +kernel) (by decide +kernel) ?_
    simp [phi, startA, dSeq, dNext, dAsg, dAsgG, dIf, dRet, dRetV, dRetN, dDrop, dRaise, dRaiseI, dFz, dFzS, dVar, dC, dBin, dUn, dTest, isB, dAndT, dOrT, dNotT, dAndV, dOrV, dNotV, dIfE, dTruth, dCons, dNil, dTupE, dLstE, dCB, dIs, dCall, gNm, dPart, dNoPart, DL.f0, DL.fc, DL.g1, DL.g2, DL.g3, DL.s1, DL.s2, DL.zc, dPar, dChain, DL.e1, DL.e2, DL.e3, DL.e4, DL.e5, DL.e6, DL.e7, DL.e8, DL.e9, DL.e10, DL.e11, DL.e12, DL.e13, DL.e14, DL.a1, DL.a2, DL.a3, DL.a4, DL.a5, DL.a6, DL.a7, DL.a8, DL.a9, DL.a10, DL.a11, DL.t1, DL.t2, DL.t3, DL.x1, DL.x2, DL.x3, DL.x4, DL.x5, DL.x6, DL.x7, DL.x8, DL.x9, DL.x10, DL.x11, DL.x12, DL.y1, DL.y2, DL.eq_ii, DL.ne_ii, DL.k1, DL.k2, DL.k3, DL.k4, DL.k5, DL.k6, DL.z0, DL.z1, DL.z2, DL.z3, DL.z4, DL.z5, DL.z6, DL.z7, DL.z8, DL.z9, DL.z10, DL.z11, DL.z12, DL.z13, DL.z14, DL.z15, DL.z16, DL.z17, DL.z18, DL.z19, DL.z20, DL.z21, DL.z22, DL.z23, DL.z24, DL.z25, DL.z26, DL.z27, DL.z28, DL.z29, DL.ic1, DL.ic2, dPar3, dIs2, dDic0, dCallD, dFld, dProp, dNew, dTkSet, dTkInt, dIter, DL.w0, DL.w1, DL.w2, DL.w3, DL.w4, DL.w5]
    refine (sp_is_between rfl).mpr ?_
    simp [phi, startA, dSeq, dNext, dAsg, dAsgG, dIf, dRet, dRetV, dRetN, dDrop, dRaise, dRaiseI, dFz, dFzS, dVar, dC, dBin, dUn, dTest, isB, dAndT, dOrT, dNotT, dAndV, dOrV, dNotV, dIfE, dTruth, dCons, dNil, dTupE, dLstE, dCB, dIs, dCall, gNm, dPart, dNoPart, DL.f0, DL.fc, DL.g1, DL.g2, DL.g3, DL.s1, DL.s2, DL.zc, dPar, dChain, DL.e1, DL.e2, DL.e3, DL.e4, DL.e5, DL.e6, DL.e7, DL.e8, DL.e9, DL.e10, DL.e11, DL.e12, DL.e13, DL.e14, DL.a1, DL.a2, DL.a3, DL.a4, DL.a5, DL.a6, DL.a7, DL.a8, DL.a9, DL.a10, DL.a11, DL.t1, DL.t2, DL.t3, DL.x1, DL.x2, DL.x3, DL.x4, DL.x5, DL.x6, DL.x7, DL.x8, DL.x9, DL.x10, DL.x11, DL.x12, DL.y1, DL.y2, DL.eq_ii, DL.ne_ii, DL.k1, DL.k2, DL.k3, DL.k4, DL.k5, DL.k6, DL.z0, DL.z1, DL.z2, DL.z3, DL.z4, DL.z5, DL.z6, DL.z7, DL.z8, DL.z9, DL.z10, DL.z11, DL.z12, DL.z13, DL.z14, DL.z15, DL.z16, DL.z17, DL.z18, DL.z19, DL.z20, DL.z21, DL.z22, DL.z23, DL.z24, DL.z25, DL.z26, DL.z27, DL.z28, DL.z29, DL.ic1, DL.ic2, dPar3, dIs2, dDic0, dCallD, dFld, dProp, dNew, dTkSet, dTkInt, dIter, DL.w0, DL.w1, DL.w2, DL.w3, DL.w4, DL.w5, btw, h1, h2, dLc, dSl, wipeA]
    rw [show (2 : Int) = ((2 : Nat) : Int) from rfl, cut_from]
    refine lc (α := []) (by simp [D.pl]) (by simp) ?_
    refine all_map ?_
    simp [phi, startA, dSeq, dNext, dAsg, dAsgG, dIf, dRet, dRetV, dRetN, dDrop, dRaise, dRaiseI, dFz, dFzS, dVar, dC, dBin, dUn, dTest, isB, dAndT, dOrT, dNotT, dAndV, dOrV, dNotV, dIfE, dTruth, dCons, dNil, dTupE, dLstE, dCB, dIs, dCall, gNm, dPart, dNoPart, DL.f0, DL.fc, DL.g1, DL.g2, DL.g3, DL.s1, DL.s2, DL.zc, dPar, dChain, DL.e1, DL.e2, DL.e3, DL.e4, DL.e5, DL.e6, DL.e7, DL.e8, DL.e9, DL.e10, DL.e11, DL.e12, DL.e13, DL.e14, DL.a1, DL.a2, DL.a3, DL.a4, DL.a5, DL.a6, DL.a7, DL.a8, DL.a9, DL.a10, DL.a11, DL.t1, DL.t2, DL.t3, DL.x1, DL.x2, DL.x3, DL.x4, DL.x5, DL.x6, DL.x7, DL.x8, DL.x9, DL.x10, DL.x11, DL.x12, DL.y1, DL.y2, DL.eq_ii, DL.ne_ii, DL.k1, DL.k2, DL.k3, DL.k4, DL.k5, DL.k6, DL.z0, DL.z1, DL.z2, DL.z3, DL.z4, DL.z5, DL.z6, DL.z7, DL.z8, DL.z9, DL.z10, DL.z11, DL.z12, DL.z13, DL.z14, DL.z15, DL.z16, DL.z17, DL.z18, DL.z19, DL.z20, DL.z21, DL.z22, DL.z23, DL.z24, DL.z25, DL.z26, DL.z27, DL.z28, DL.z29, DL.ic1, DL.ic2, dPar3, dIs2, dDic0, dCallD, dFld, dProp, dNew, dTkSet, dTkInt, dIter, DL.w0, DL.w1, DL.w2, DL.w3, DL.w4, DL.w5, btw, h3, h4, q]
  | u3 w m h1 h2 h3 h4 =>
    simp [phi, startA, dSeq, dNext, dAsg, dAsgG, dIf, dRet, dRetV, dRetN, dDrop, dRaise, dRaiseI, dFz, dFzS, dVar, dC, dBin, dUn, dTest, isB, dAndT, dOrT, dNotT, dAndV, dOrV, dNotV, dIfE, dTruth, dCons, dNil, dTupE, dLstE, dCB, dIs, dCall, gNm, dPart, dNoPart, DL.f0, DL.fc, DL.g1, DL.g2, DL.g3, DL.s1, DL.s2, DL.zc, dPar, dChain, DL.e1, DL.e2, DL.e3, DL.e4, DL.e5, DL.e6, DL.e7, DL.e8, DL.e9, DL.e10, DL.e11, DL.e12, DL.e13, DL.e14, DL.a1, DL.a2, DL.a3, DL.a4, DL.a5, DL.a6, DL.a7, DL.a8, DL.a9, DL.a10, DL.a11, DL.t1, DL.t2, DL.t3, DL.x1, DL.x2, DL.x3, DL.x4, DL.x5, DL.x6, DL.x7, DL.x8, DL.x9, DL.x10, DL.x11, DL.x12, DL.y1, DL.y2, DL.eq_ii, DL.ne_ii, DL.k1, DL.k2, DL.k3, DL.k4, DL.k5, DL.k6, DL.z0, DL.z1, DL.z2, DL.z3, DL.z4, DL.z5, DL.z6, DL.z7, DL.z8, DL.z9, DL.z10, DL.z11, DL.z12, DL.z13, DL.z14, DL.z15, DL.z16, DL.z17, DL.z18, DL.z19, DL.z20, DL.z21, DL.z22, DL.z23, DL.z24, DL.z25, DL.z26, DL.z27, DL.z28, DL.z29, DL.ic1, DL.ic2, dPar3, dIs2, dDic0, dCallD, dFld, dProp, dNew, dTkSet, dTkInt, dIter, DL.w0, DL.w1, DL.w2, DL.w3, DL.w4, DL.w5, phi_alarm_right, t_alarm_right]
    refine ⟨lsz (by omega), in_t (b := true) rfl rfl (by decide +kernel) ?_⟩
    simp [phi, startA, dSeq, dNext, dAsg, dAsgG, dIf, dRet, dRetV, dRetN, dDrop, dRaise, dRaiseI, dFz, dFzS, dVar, dC, dBin, dUn, dTest, isB, dAndT, dOrT, dNotT, dAndV, dOrV, dNotV, dIfE, dTruth, dCons, dNil, dTupE, dLstE, dCB, dIs, dCall, gNm, dPart, dNoPart, DL.f0, DL.fc, DL.g1, DL.g2, DL.g3, DL.s1, DL.s2, DL.zc, dPar, dChain, DL.e1, DL.e2, DL.e3, DL.e4, DL.e5, DL.e6, DL.e7, DL.e8, DL.e9, DL.e10, DL.e11, DL.e12, DL.e13, DL.e14, DL.a1, DL.a2, DL.a3, DL.a4, DL.a5, DL.a6, DL.a7, DL.a8, DL.a9, DL.a10, DL.a11, DL.t1, DL.t2, DL.t3, DL.x1, DL.x2, DL.x3, DL.x4, DL.x5, DL.x6, DL.x7, DL.x8, DL.x9, DL.x10, DL.x11, DL.x12, DL.y1, DL.y2, DL.eq_ii, DL.ne_ii, DL.k1, DL.k2, DL.k3, DL.k4, DL.k5, DL.k6, DL.z0, DL.z1, DL.z2, DL.z3, DL.z4, DL.z5, DL.z6, DL.z7, DL.z8, DL.z9, DL.z10, DL.z11, DL.z12, DL.z13, DL.z14, DL.z15, DL.z16, DL.z17, DL.z18, DL.z19, DL.z20, DL.z21, DL.z22, DL.z23, DL.z24, DL.z25, DL.z26, DL.z27, DL.z28, DL.z29, DL.ic1, DL.ic2, dPar3, dIs2, dDic0, dCallD, dFld, dProp, dNew, dTkSet, dTkInt, dIter, DL.w0, DL.w1, DL.w2, DL.w3, DL.w4, DL.w5]
    refine in_t (b := true) rfl (by decide +kernel) (by decide +kernel) ?_
    simp [phi, startA, dSeq, dNext, dAsg, dAsgG, dIf, dRet, dRetV, dRetN, dDrop, dRaise, dRaiseI, dFz, dFzS, dVar, dC, dBin, dUn, dTest, isB, dAndT, dOrT, dNotT, dAndV, dOrV, dNotV, dIfE, dTruth, dCons, dNil, dTupE, dLstE, dCB, dIs, dCall, gNm, dPart, dNoPart, DL.f0, DL.fc, DL.g1, DL.g2, DL.g3, DL.s1, DL.s2, DL.zc, dPar, dChain, DL.e1, DL.e2, DL.e3, DL.e4, DL.e5, DL.e6, DL.e7, DL.e8, DL.e9, DL.e10, DL.e11, DL.e12, DL.e13, DL.e14, DL.a1, DL.a2, DL.a3, DL.a4, DL.a5, DL.a6, DL.a7, DL.a8, DL.a9, DL.a10, DL.a11, DL.t1, DL.t2, DL.t3, DL.x1, DL.x2, DL.x3, DL.x4, DL.x5, DL.x6, DL.x7, DL.x8, DL.x9, DL.x10, DL.x11, DL.x12, DL.y1, DL.y2, DL.eq_ii, DL.ne_ii, DL.k1, DL.k2, DL.k3, DL.k4, DL.k5, DL.k6, DL.z0, DL.z1, DL.z2, DL.z3, DL.z4, DL.z5, DL.z6, DL.z7, DL.z8, DL.z9, DL.z10, DL.z11, DL.z12, DL.z13, DL.z14, DL.z15, DL.z16, DL.z17, DL.z18, DL.z19, DL.z20, DL.z21, DL.z22, DL.z23, DL.z24, DL.z25, DL.z26, DL.z27, DL.z28, DL.z29, DL.ic1, DL.ic2, dPar3, dIs2, dDic0, dCallD, dFld, dProp, dNew, dTkSet, dTkInt, dIter, DL.w0, DL.w1, DL.w2, DL.w3, DL.w4, DL.w5]
    refine (sp_is_between rfl).mpr ?_
    simp [phi, startA, dSeq, dNext, dAsg, dAsgG, dIf, dRet, dRetV, dRetN, dDrop, dRaise, dRaiseI, dFz, dFzS, dVar, dC, dBin, dUn, dTest, isB, dAndT, dOrT, dNotT, dAndV, dOrV, dNotV, dIfE, dTruth, dCons, dNil, dTupE, dLstE, dCB, dIs, dCall, gNm, dPart, dNoPart, DL.f0, DL.fc, DL.g1, DL.g2, DL.g3, DL.s1, DL.s2, DL.zc, dPar, dChain, DL.e1, DL.e2, DL.e3, DL.e4, DL.e5, DL.e6, DL.e7, DL.e8, DL.e9, DL.e10, DL.e11, DL.e12, DL.e13, DL.e14, DL.a1, DL.a2, DL.a3, DL.a4, DL.a5, DL.a6, DL.a7, DL.a8, DL.a9, DL.a10, DL.a11, DL.t1, DL.t2, DL.t3, DL.x1, DL.x2, DL.x3, DL.x4, DL.x5, DL.x6, DL.x7, DL.x8, DL.x9, DL.x10, DL.x11, DL.x12, DL.y1, DL.y2, DL.eq_ii, DL.ne_ii, DL.k1, DL.k2, DL.k3, DL.k4, DL.k5, DL.k6, DL.z0, DL.z1, DL.z2, DL.z3, DL.z4, DL.z5, DL.z6, DL.z7, DL.z8, DL.z9, DL.z10, DL.z11, DL.z12, DL.z13, DL.z14, DL.z15, DL.z16, DL.z17, DL.z18, DL.z19, DL.z20, DL.z21, DL.z22, DL.z23, DL.z24, DL.z25, DL.z26, DL.z27, DL.z28, DL.z29, DL.ic1, DL.ic2, dPar3, dIs2, dDic0, dCallD, dFld, dProp, dNew, dTkSet, dTkInt, dIter, DL.w0, DL.w1, DL.w2, DL.w3, DL.w4, DL.w5, btw, h1, h2, dLc, dSl, wipeA]
    rw [show (2 : Int) = ((2 : Nat) : Int) from rfl, cut_from]
    refine lc (α := []) (by simp [D.pl]) (by simp) ?_
    refine all_map ?_
    simp [phi, startA, dSeq, dNext, dAsg, dAsgG, dIf, dRet, dRetV, dRetN, dDrop, dRaise, dRaiseI, dFz, dFzS, dVar, dC, dBin, dUn, dTest, isB, dAndT, dOrT, dNotT, dAndV, dOrV, dNotV, dIfE, dTruth, dCons, dNil, dTupE, dLstE, dCB, dIs, dCall, gNm, dPart, dNoPart, DL.f0, DL.fc, DL.g1, DL.g2, DL.g3, DL.s1, DL.s2, DL.zc, dPar, dChain, DL.e1, DL.e2, DL.e3, DL.e4, DL.e5, DL.e6, DL.e7, DL.e8, DL.e9, DL.e10, DL.e11, DL.e12, DL.e13, DL.e14, DL.a1, DL.a2, DL.a3, DL.a4, DL.a5, DL.a6, DL.a7, DL.a8, DL.a9, DL.a10, DL.a11, DL.t1, DL.t2, DL.t3, DL.x1, DL.x2, DL.x3, DL.x4, DL.x5, DL.x6, DL.x7, DL.x8, DL.x9, DL.x10, DL.x11, DL.x12, DL.y1, DL.y2, DL.eq_ii, DL.ne_ii, DL.k1, DL.k2, DL.k3, DL.k4, DL.k5, DL.k6, DL.z0, DL.z1, DL.z2, DL.z3, DL.z4, DL.z5, DL.z6, DL.z7, DL.z8, DL.z9, DL.z10, DL.z11, DL.z12, DL.z13, DL.z14, DL.z15, DL.z16, DL.z17, DL.z18, DL.z19, DL.z20, DL.z21, DL.z22, DL.z23, DL.z24, DL.z25, DL.z26, DL.z27, DL.z28, DL.z29, DL.ic1, DL.ic2, dPar3, dIs2, dDic0, dCallD, dFld, dProp, dNew, dTkSet, dTkInt, dIter, DL.w0, DL.w1, DL.w2, DL.w3, DL.w4, DL.w5, btw, h3, h4, q]
  | o4 w m n h1 h2 h3 h4 h5 h6 =>
    simp [phi, startA, dSeq, dNext, dAsg, dAsgG, dIf, dRet, dRetV, dRetN, dDrop, dRaise, dRaiseI, dFz, dFzS, dVar, dC, dBin, dUn, dTest, isB, dAndT, dOrT, dNotT, dAndV, dOrV, dNotV, dIfE, dTruth, dCons, dNil, dTupE, dLstE, dCB, dIs, dCall, gNm, dPart, dNoPart, DL.f0, DL.fc, DL.g1, DL.g2, DL.g3, DL.s1, DL.s2, DL.zc, dPar, dChain, DL.e1, DL.e2, DL.e3, DL.e4, DL.e5, DL.e6, DL.e7, DL.e8, DL.e9, DL.e10, DL.e11, DL.e12, DL.e13, DL.e14, DL.a1, DL.a2, DL.a3, DL.a4, DL.a5, DL.a6, DL.a7, DL.a8, DL.a9, DL.a10, DL.a11, DL.t1, DL.t2, DL.t3, DL.x1, DL.x2, DL.x3, DL.x4, DL.x5, DL.x6, DL.x7, DL.x8, DL.x9, DL.x10, DL.x11, DL.x12, DL.y1, DL.y2, DL.eq_ii, DL.ne_ii, DL.k1, DL.k2, DL.k3, DL.k4, DL.k5, DL.k6, DL.z0, DL.z1, DL.z2, DL.z3, DL.z4, DL.z5, DL.z6, DL.z7, DL.z8, DL.z9, DL.z10, DL.z11, DL.z12, DL.z13, DL.z14, DL.z15, DL.z16, DL.z17, DL.z18, DL.z19, DL.z20, DL.z21, DL.z22, DL.z23, DL.z24, DL.z25, DL.z26, DL.z27, DL.z28, DL.z29, DL.ic1, DL.ic2, dPar3, dIs2, dDic0, dCallD, dFld, dProp, dNew, dTkSet, dTkInt, dIter, DL.w0, DL.w1, DL.w2, DL.w3, DL.w4, DL.w5, phi_alarm_right, t_alarm_right]
    refine ⟨lsz (by omega), in_t (b := true) rfl rfl (by decide +kernel) ?_⟩
    simp [phi, startA, dSeq, dNext, dAsg, dAsgG, dIf, dRet, dRetV, dRetN, dDrop, dRaise, dRaiseI, dFz, dFzS, dVar, dC, dBin, dUn, dTest, isB, dAndT, dOrT, dNotT, dAndV, dOrV, dNotV, dIfE, dTruth, dCons, dNil, dTupE, dLstE, dCB, dIs, dCall, gNm, dPart, dNoPart, DL.f0, DL.fc, DL.g1, DL.g2, DL.g3, DL.s1, DL.s2, DL.zc, dPar, dChain, DL.e1, DL.e2, DL.e3, DL.e4, DL.e5, DL.e6, DL.e7, DL.e8, DL.e9, DL.e10, DL.e11, DL.e12, DL.e13, DL.e14, DL.a1, DL.a2, DL.a3, DL.a4, DL.a5, DL.a6, DL.a7, DL.a8, DL.a9, DL.a10, DL.a11, DL.t1, DL.t2, DL.t3, DL.x1, DL.x2, DL.x3, DL.x4, DL.x5, DL.x6, DL.x7, DL.x8, DL.x9, DL.x10, DL.x11, DL.x12, DL.y1, DL.y2, DL.eq_ii, DL.ne_ii, DL.k1, DL.k2, DL.k3, DL.k4, DL.k5, DL.k6, DL.z0, DL.z1, DL.z2, DL.z3, DL.z4, DL.z5, DL.z6, DL.z7, DL.z8, DL.z9, DL.z10, DL.z11, DL.z12, DL.z13, DL.z14, DL.z15, DL.z16, DL.z17, DL.z18, DL.z19, DL.z20, DL.z21, DL.z22, DL.z23, DL.z24, DL.z25, DL.z26, DL.z27, DL.z28, DL.z29, DL.ic1, DL.ic2, dPar3, dIs2, dDic0, dCallD, dFld, dProp, dNew, dTkSet, dTkInt, dIter, DL.w0, DL.w1, DL.w2, DL.w3, DL.w4, DL.w5]
    refine in_t (b := true) rfl (by decide +kernel) (by decide +kernel) ?_
    simp [phi, startA, dSeq, dNext, dAsg, dAsgG, dIf, dRet, dRetV, dRetN, dDrop, dRaise, dRaiseI, dFz, dFzS, dVar, dC, dBin, dUn, dTest, isB, dAndT, dOrT, dNotT, dAndV, dOrV, dNotV, dIfE, dTruth, dCons, dNil, dTupE, dLstE, dCB, dIs, dCall, gNm, dPart, dNoPart, DL.f0, DL.fc, DL.g1, DL.g2, DL.g3, DL.s1, DL.s2, DL.zc, dPar, dChain, DL.e1, DL.e2, DL.e3, DL.e4, DL.e5, DL.e6, DL.e7, DL.e8, DL.e9, DL.e10, DL.e11, DL.e12, DL.e13, DL.e14, DL.a1, DL.a2, DL.a3, DL.a4, DL.a5, DL.a6, DL.a7, DL.a8, DL.a9, DL.a10, DL.a11, DL.t1, DL.t2, DL.t3, DL.x1, DL.x2, DL.x3, DL.x4, DL.x5, DL.x6, DL.x7, DL.x8, DL.x9, DL.x10, DL.x11, DL.x12, DL.y1, DL.y2, DL.eq_ii, DL.ne_ii, DL.k1, DL.k2, DL.k3, DL.k4, DL.k5, DL.k6, DL.z0, DL.z1, DL.z2, DL.z3, DL.z4, DL.z5, DL.z6, DL.z7, DL.z8, DL.z9, DL.z10, DL.z11, DL.z12, DL.z13, DL.z14, DL.z15, DL.z16, DL.z17, DL.z18, DL.z19, DL.z20, DL.z21, DL.z22, DL.z23, DL.z24, DL.z25, DL.z26, DL.z27, DL.z28, DL.z29, DL.ic1, DL.ic2, dPar3, dIs2, dDic0, dCallD, dFld, dProp, dNew, dTkSet, dTkInt, dIter, DL.w0, DL.w1, DL.w2, DL.w3, DL.w4, DL.w5]
    refine (sp_is_between rfl).mpr ?_
    simp [phi, startA, dSeq, dNext, dAsg, dAsgG, dIf, dRet, dRetV, dRetN, dDrop, dRaise, dRaiseI, dFz, dFzS, dVar, dC, dBin, dUn, dTest, isB, dAndT, dOrT, dNotT, dAndV, dOrV, dNotV, dIfE, dTruth, dCons, dNil, dTupE, dLstE, dCB, dIs, dCall, gNm, dPart, dNoPart, DL.f0, DL.fc, DL.g1, DL.g2, DL.g3, DL.s1, DL.s2, DL.zc, dPar, dChain, DL.e1, DL.e2, DL.e3, DL.e4, DL.e5, DL.e6, DL.e7, DL.e8, DL.e9, DL.e10, DL.e11, DL.e12, DL.e13, DL.e14, DL.a1, DL.a2, DL.a3, DL.a4, DL.a5, DL.a6, DL.a7, DL.a8, DL.a9, DL.a10, DL.a11, DL.t1, DL.t2, DL.t3, DL.x1, DL.x2, DL.x3, DL.x4, DL.x5, DL.x6, DL.x7, DL.x8, DL.x9, DL.x10, DL.x11, DL.x12, DL.y1, DL.y2, DL.eq_ii, DL.ne_ii, DL.k1, DL.k2, DL.k3, DL.k4, DL.k5, DL.k6, DL.z0, DL.z1, DL.z2, DL.z3, DL.z4, DL.z5, DL.z6, DL.z7, DL.z8, DL.z9, DL.z10, DL.z11, DL.z12, DL.z13, DL.z14, DL.z15, DL.z16, DL.z17, DL.z18, DL.z19, DL.z20, DL.z21, DL.z22, DL.z23, DL.z24, DL.z25, DL.z26, DL.z27, DL.z28, DL.z29, DL.ic1, DL.ic2, dPar3, dIs2, dDic0, dCallD, dFld, dProp, dNew, dTkSet, dTkInt, dIter, DL.w0, DL.w1, DL.w2, DL.w3, DL.w4, DL.w5, btw, h1, h2, dLc, dSl, wipeA]
    rw [show (2 : Int) = ((2 : Nat) : Int) from rfl, cut_from]
    refine lc (α := []) (by simp [D.pl]) (by simp) ?_
    refine all_map ?_
    simp [phi, startA, dSeq, dNext, dAsg, dAsgG, dIf, dRet, dRetV, dRetN, dDrop, dRaise, dRaiseI, dFz, dFzS, dVar, dC, dBin, dUn, dTest, isB, dAndT, dOrT, dNotT, dAndV, dOrV, dNotV, dIfE, dTruth, dCons, dNil, dTupE, dLstE, dCB, dIs, dCall, gNm, dPart, dNoPart, DL.f0, DL.fc, DL.g1, DL.g2, DL.g3, DL.s1, DL.s2, DL.zc, dPar, dChain, DL.e1, DL.e2, DL.e3, DL.e4, DL.e5, DL.e6, DL.e7, DL.e8, DL.e9, DL.e10, DL.e11, DL.e12, DL.e13, DL.e14, DL.a1, DL.a2, DL.a3, DL.a4, DL.a5, DL.a6, DL.a7, DL.a8, DL.a9, DL.a10, DL.a11, DL.t1, DL.t2, DL.t3, DL.x1, DL.x2, DL.x3, DL.x4, DL.x5, DL.x6, DL.x7, DL.x8, DL.x9, DL.x10, DL.x11, DL.x12, DL.y1, DL.y2, DL.eq_ii, DL.ne_ii, DL.k1, DL.k2, DL.k3, DL.k4, DL.k5, DL.k6, DL.z0, DL.z1, DL.z2, DL.z3, DL.z4, DL.z5, DL.z6, DL.z7, DL.z8, DL.z9, DL.z10, DL.z11, DL.z12, DL.z13, DL.z14, DL.z15, DL.z16, DL.z17, DL.z18, DL.z19, DL.z20, DL.z21, DL.z22, DL.z23, DL.z24, DL.z25, DL.z26, DL.z27, DL.z28, DL.z29, DL.ic1, DL.ic2, dPar3, dIs2, dDic0, dCallD, dFld, dProp, dNew, dTkSet, dTkInt, dIter, DL.w0, DL.w1, DL.w2, DL.w3, DL.w4, DL.w5, btw, h3, h4, h5, show n ≤ 1000 by omega]
    refine eq_str (by decide +kernel) (by decide +kernel) ?_
    rw [show PyData.eqv (.str over) (.str (Str.ofString "over")) = true by decide +kernel]
    simp [phi, startA, dSeq, dNext, dAsg, dAsgG, dIf, dRet, dRetV, dRetN, dDrop, dRaise, dRaiseI, dFz, dFzS, dVar, dC, dBin, dUn, dTest, isB, dAndT, dOrT, dNotT, dAndV, dOrV, dNotV, dIfE, dTruth, dCons, dNil, dTupE, dLstE, dCB, dIs, dCall, gNm, dPart, dNoPart, DL.f0, DL.fc, DL.g1, DL.g2, DL.g3, DL.s1, DL.s2, DL.zc, dPar, dChain, DL.e1, DL.e2, DL.e3, DL.e4, DL.e5, DL.e6, DL.e7, DL.e8, DL.e9, DL.e10, DL.e11, DL.e12, DL.e13, DL.e14, DL.a1, DL.a2, DL.a3, DL.a4, DL.a5, DL.a6, DL.a7, DL.a8, DL.a9, DL.a10, DL.a11, DL.t1, DL.t2, DL.t3, DL.x1, DL.x2, DL.x3, DL.x4, DL.x5, DL.x6, DL.x7, DL.x8, DL.x9, DL.x10, DL.x11, DL.x12, DL.y1, DL.y2, DL.eq_ii, DL.ne_ii, DL.k1, DL.k2, DL.k3, DL.k4, DL.k5, DL.k6, DL.z0, DL.z1, DL.z2, DL.z3, DL.z4, DL.z5, DL.z6, DL.z7, DL.z8, DL.z9, DL.z10, DL.z11, DL.z12, DL.z13, DL.z14, DL.z15, DL.z16, DL.z17, DL.z18, DL.z19, DL.z20, DL.z21, DL.z22, DL.z23, DL.z24, DL.z25, DL.z26, DL.z27, DL.z28, DL.z29, DL.ic1, DL.ic2, dPar3, dIs2, dDic0, dCallD, dFld, dProp, dNew, dTkSet, dTkInt, dIter, DL.w0, DL.w1, DL.w2, DL.w3, DL.w4, DL.w5, atI, ixN, h6, q]
  | u4 w m n h1 h2 h3 h4 h5 =>
    simp [phi, startA, dSeq, dNext, dAsg, dAsgG, dIf, dRet, dRetV, dRetN, dDrop, dRaise, dRaiseI, dFz, dFzS, dVar, dC, dBin, dUn, dTest, isB, dAndT, dOrT, dNotT, dAndV, dOrV, dNotV, dIfE, dTruth, dCons, dNil, dTupE, dLstE, dCB, dIs, dCall, gNm, dPart, dNoPart, DL.f0, DL.fc, DL.g1, DL.g2, DL.g3, DL.s1, DL.s2, DL.zc, dPar, dChain, DL.e1, DL.e2, DL.e3, DL.e4, DL.e5, DL.e6, DL.e7, DL.e8, DL.e9, DL.e10, DL.e11, DL.e12, DL.e13, DL.e14, DL.a1, DL.a2, DL.a3, DL.a4, DL.a5, DL.a6, DL.a7, DL.a8, DL.a9, DL.a10, DL.a11, DL.t1, DL.t2, DL.t3, DL.x1, DL.x2, DL.x3, DL.x4, DL.x5, DL.x6, DL.x7, DL.x8, DL.x9, DL.x10, DL.x11, DL.x12, DL.y1, DL.y2, DL.eq_ii, DL.ne_ii, DL.k1, DL.k2, DL.k3, DL.k4, DL.k5, DL.k6, DL.z0, DL.z1, DL.z2, DL.z3, DL.z4, DL.z5, DL.z6, DL.z7, DL.z8, DL.z9, DL.z10, DL.z11, DL.z12, DL.z13, DL.z14, DL.z15, DL.z16, DL.z17, DL.z18, DL.z19, DL.z20, DL.z21, DL.z22, DL.z23, DL.z24, DL.z25, DL.z26, DL.z27, DL.z28, DL.z29, DL.ic1, DL.ic2, dPar3, dIs2, dDic0, dCallD, dFld, dProp, dNew, dTkSet, dTkInt, dIter, DL.w0, DL.w1, DL.w2, DL.w3, DL.w4, DL.w5, phi_alarm_right, t_alarm_right]
    refine ⟨lsz (by omega), in_t (b := true) rfl rfl (by decide +kernel) ?_⟩
    simp [phi, startA, dSeq, dNext, dAsg, dAsgG, dIf, dRet, dRetV, dRetN, dDrop, dRaise, dRaiseI, dFz, dFzS, dVar, dC, dBin, dUn, dTest, isB, dAndT, dOrT, dNotT, dAndV, dOrV, dNotV, dIfE, dTruth, dCons, dNil, dTupE, dLstE, dCB, dIs, dCall, gNm, dPart, dNoPart, DL.f0, DL.fc, DL.g1, DL.g2, DL.g3, DL.s1, DL.s2, DL.zc, dPar, dChain, DL.e1, DL.e2, DL.e3, DL.e4, DL.e5, DL.e6, DL.e7, DL.e8, DL.e9, DL.e10, DL.e11, DL.e12, DL.e13, DL.e14, DL.a1, DL.a2, DL.a3, DL.a4, DL.a5, DL.a6, DL.a7, DL.a8, DL.a9, DL.a10, DL.a11, DL.t1, DL.t2, DL.t3, DL.x1, DL.x2, DL.x3, DL.x4, DL.x5, DL.x6, DL.x7, DL.x8, DL.x9, DL.x10, DL.x11, DL.x12, DL.y1, DL.y2, DL.eq_ii, DL.ne_ii, DL.k1, DL.k2, DL.k3, DL.k4, DL.k5, DL.k6, DL.z0, DL.z1, DL.z2, DL.z3, DL.z4, DL.z5, DL.z6, DL.z7, DL.z8, DL.z9, DL.z10, DL.z11, DL.z12, DL.z13, DL.z14, DL.z15, DL.z16, DL.z17, DL.z18, DL.z19, DL.z20, DL.z21, DL.z22, DL.z23, DL.z24, DL.z25, DL.z26, DL.z27, DL.z28, DL.z29, DL.ic1, DL.ic2, dPar3, dIs2, dDic0, dCallD, dFld, dProp, dNew, dTkSet, dTkInt, dIter, DL.w0, DL.w1, DL.w2, DL.w3, DL.w4, DL.w5]
    refine in_t (b := true) rfl (by decide +kernel) (by decide +kernel) ?_
    simp [phi, startA, dSeq, dNext, dAsg, dAsgG, dIf, dRet, dRetV, dRetN, dDrop, dRaise, dRaiseI, dFz, dFzS, dVar, dC, dBin, dUn, dTest, isB, dAndT, dOrT, dNotT, dAndV, dOrV, dNotV, dIfE, dTruth, dCons, dNil, dTupE, dLstE, dCB, dIs, dCall, gNm, dPart, dNoPart, DL.f0, DL.fc, DL.g1, DL.g2, DL.g3, DL.s1, DL.s2, DL.zc, dPar, dChain, DL.e1, DL.e2, DL.e3, DL.e4, DL.e5, DL.e6, DL.e7, DL.e8, DL.e9, DL.e10, DL.e11, DL.e12, DL.e13, DL.e14, DL.a1, DL.a2, DL.a3, DL.a4, DL.a5, DL.a6, DL.a7, DL.a8, DL.a9, DL.a10, DL.a11, DL.t1, DL.t2, DL.t3, DL.x1, DL.x2, DL.x3, DL.x4, DL.x5, DL.x6, DL.x7, DL.x8, DL.x9, DL.x10, DL.x11, DL.x12, DL.y1, DL.y2, DL.eq_ii, DL.ne_ii, DL.k1, DL.k2, DL.k3, DL.k4, DL.k5, DL.k6, DL.z0, DL.z1, DL.z2, DL.z3, DL.z4, DL.z5, DL.z6, DL.z7, DL.z8, DL.z9, DL.z10, DL.z11, DL.z12, DL.z13, DL.z14, DL.z15, DL.z16, DL.z17, DL.z18, DL.z19, DL.z20, DL.z21, DL.z22, DL.z23, DL.z24, DL.z25, DL.z26, DL.z27, DL.z28, DL.z29, DL.ic1, DL.ic2, dPar3, dIs2, dDic0, dCallD, dFld, dProp, dNew, dTkSet, dTkInt, dIter, DL.w0, DL.w1, DL.w2, DL.w3, DL.w4, DL.w5]
    refine (sp_is_between rfl).mpr ?_
    simp [phi, startA, dSeq, dNext, dAsg, dAsgG, dIf, dRet, dRetV, dRetN, dDrop, dRaise, dRaiseI, dFz, dFzS, dVar, dC, dBin, dUn, dTest, isB, dAndT, dOrT, dNotT, dAndV, dOrV, dNotV, dIfE, dTruth, dCons, dNil, dTupE, dLstE, dCB, dIs, dCall, gNm, dPart, dNoPart, DL.f0, DL.fc, DL.g1, DL.g2, DL.g3, DL.s1, DL.s2, DL.zc, dPar, dChain, DL.e1, DL.e2, DL.e3, DL.e4, DL.e5, DL.e6, DL.e7, DL.e8, DL.e9, DL.e10, DL.e11, DL.e12, DL.e13, DL.e14, DL.a1, DL.a2, DL.a3, DL.a4, DL.a5, DL.a6, DL.a7, DL.a8, DL.a9, DL.a10, DL.a11, DL.t1, DL.t2, DL.t3, DL.x1, DL.x2, DL.x3, DL.x4, DL.x5, DL.x6, DL.x7, DL.x8, DL.x9, DL.x10, DL.x11, DL.x12, DL.y1, DL.y2, DL.eq_ii, DL.ne_ii, DL.k1, DL.k2, DL.k3, DL.k4, DL.k5, DL.k6, DL.z0, DL.z1, DL.z2, DL.z3, DL.z4, DL.z5, DL.z6, DL.z7, DL.z8, DL.z9, DL.z10, DL.z11, DL.z12, DL.z13, DL.z14, DL.z15, DL.z16, DL.z17, DL.z18, DL.z19, DL.z20, DL.z21, DL.z22, DL.z23, DL.z24, DL.z25, DL.z26, DL.z27, DL.z28, DL.z29, DL.ic1, DL.ic2, dPar3, dIs2, dDic0, dCallD, dFld, dProp, dNew, dTkSet, dTkInt, dIter, DL.w0, DL.w1, DL.w2, DL.w3, DL.w4, DL.w5, btw, h1, h2, dLc, dSl, wipeA]
    rw [show (2 : Int) = ((2 : Nat) : Int) from rfl, cut_from]
    refine lc (α := []) (by simp [D.pl]) (by simp) ?_
    refine all_map ?_
    simp [phi, startA, dSeq, dNext, dAsg, dAsgG, dIf, dRet, dRetV, dRetN, dDrop, dRaise, dRaiseI, dFz, dFzS, dVar, dC, dBin, dUn, dTest, isB, dAndT, dOrT, dNotT, dAndV, dOrV, dNotV, dIfE, dTruth, dCons, dNil, dTupE, dLstE, dCB, dIs, dCall, gNm, dPart, dNoPart, DL.f0, DL.fc, DL.g1, DL.g2, DL.g3, DL.s1, DL.s2, DL.zc, dPar, dChain, DL.e1, DL.e2, DL.e3, DL.e4, DL.e5, DL.e6, DL.e7, DL.e8, DL.e9, DL.e10, DL.e11, DL.e12, DL.e13, DL.e14, DL.a1, DL.a2, DL.a3, DL.a4, DL.a5, DL.a6, DL.a7, DL.a8, DL.a9, DL.a10, DL.a11, DL.t1, DL.t2, DL.t3, DL.x1, DL.x2, DL.x3, DL.x4, DL.x5, DL.x6, DL.x7, DL.x8, DL.x9, DL.x10, DL.x11, DL.x12, DL.y1, DL.y2, DL.eq_ii, DL.ne_ii, DL.k1, DL.k2, DL.k3, DL.k4, DL.k5, DL.k6, DL.z0, DL.z1, DL.z2, DL.z3, DL.z4, DL.z5, DL.z6, DL.z7, DL.z8, DL.z9, DL.z10, DL.z11, DL.z12, DL.z13, DL.z14, DL.z15, DL.z16, DL.z17, DL.z18, DL.z19, DL.z20, DL.z21, DL.z22, DL.z23, DL.z24, DL.z25, DL.z26, DL.z27, DL.z28, DL.z29, DL.ic1, DL.ic2, dPar3, dIs2, dDic0, dCallD, dFld, dProp, dNew, dTkSet, dTkInt, dIter, DL.w0, DL.w1, DL.w2, DL.w3, DL.w4, DL.w5, btw, h3, h4, h5, show m ≤ 1000 by omega, show -1000 ≤ n by omega]
    refine eq_str (by decide +kernel) (by decide +kernel) ?_
    rw [show PyData.eqv (.str under) (.str (Str.ofString "over")) = false by decide +kernel]
    simp [phi, startA, dSeq, dNext, dAsg, dAsgG, dIf, dRet, dRetV, dRetN, dDrop, dRaise, dRaiseI, dFz, dFzS, dVar, dC, dBin, dUn, dTest, isB, dAndT, dOrT, dNotT, dAndV, dOrV, dNotV, dIfE, dTruth, dCons, dNil, dTupE, dLstE, dCB, dIs, dCall, gNm, dPart, dNoPart, DL.f0, DL.fc, DL.g1, DL.g2, DL.g3, DL.s1, DL.s2, DL.zc, dPar, dChain, DL.e1, DL.e2, DL.e3, DL.e4, DL.e5, DL.e6, DL.e7, DL.e8, DL.e9, DL.e10, DL.e11, DL.e12, DL.e13, DL.e14, DL.a1, DL.a2, DL.a3, DL.a4, DL.a5, DL.a6, DL.a7, DL.a8, DL.a9, DL.a10, DL.a11, DL.t1, DL.t2, DL.t3, DL.x1, DL.x2, DL.x3, DL.x4, DL.x5, DL.x6, DL.x7, DL.x8, DL.x9, DL.x10, DL.x11, DL.x12, DL.y1, DL.y2, DL.eq_ii, DL.ne_ii, DL.k1, DL.k2, DL.k3, DL.k4, DL.k5, DL.k6, DL.z0, DL.z1, DL.z2, DL.z3, DL.z4, DL.z5, DL.z6, DL.z7, DL.z8, DL.z9, DL.z10, DL.z11, DL.z12, DL.z13, DL.z14, DL.z15, DL.z16, DL.z17, DL.z18, DL.z19, DL.z20, DL.z21, DL.z22, DL.z23, DL.z24, DL.z25, DL.z26, DL.z27, DL.z28, DL.z29, DL.ic1, DL.ic2, dPar3, dIs2, dDic0, dCallD, dFld, dProp, dNew, dTkSet, dTkInt, dIter, DL.w0, DL.w1, DL.w2, DL.w3, DL.w4, DL.w5, atI, ixN, h4, q]
theorem sp_need_values {a b : Int} (h1 : -100 ≤ a) (h2 : a ≤ b) (h3 : b ≤ 100) (q : Q (.fr .non)) : phi_need_values [.fr (.int a), .fr (.int b)] Q E := by
  simp [phi, startA, dSeq, dNext, dAsg, dAsgG, dIf, dRet, dRetV, dRetN, dDrop, dRaise, dRaiseI, dFz, dFzS, dVar, dC, dBin, dUn, dTest, isB, dAndT, dOrT, dNotT, dAndV, dOrV, dNotV, dIfE, dTruth, dCons, dNil, dTupE, dLstE, dCB, dIs, dCall, gNm, dPart, dNoPart, DL.f0, DL.fc, DL.g1, DL.g2, DL.g3, DL.s1, DL.s2, DL.zc, dPar, dChain, DL.e1, DL.e2, DL.e3, DL.e4, DL.e5, DL.e6, DL.e7, DL.e8, DL.e9, DL.e10, DL.e11, DL.e12, DL.e13, DL.e14, DL.a1, DL.a2, DL.a3, DL.a4, DL.a5, DL.a6, DL.a7, DL.a8, DL.a9, DL.a10, DL.a11, DL.t1, DL.t2, DL.t3, DL.x1, DL.x2, DL.x3, DL.x4, DL.x5, DL.x6, DL.x7, DL.x8, DL.x9, DL.x10, DL.x11, DL.x12, DL.y1, DL.y2, DL.eq_ii, DL.ne_ii, DL.k1, DL.k2, DL.k3, DL.k4, DL.k5, DL.k6, DL.z0, DL.z1, DL.z2, DL.z3, DL.z4, DL.z5, DL.z6, DL.z7, DL.z8, DL.z9, DL.z10, DL.z11, DL.z12, DL.z13, DL.z14, DL.z15, DL.z16, DL.z17, DL.z18, DL.z19, DL.z20, DL.z21, DL.z22, DL.z23, DL.z24, DL.z25, DL.z26, DL.z27, DL.z28, DL.z29, DL.ic1, DL.ic2, dPar3, dIs2, dDic0, dCallD, dFld, dProp, dNew, dTkSet, dTkInt, dIter, DL.w0, DL.w1, DL.w2, DL.w3, DL.w4, DL.w5, phi_need_values, t_need_values]
  refine (sp_is_between rfl).mpr ?_
  simp [phi, startA, dSeq, dNext, dAsg, dAsgG, dIf, dRet, dRetV, dRetN, dDrop, dRaise, dRaiseI, dFz, dFzS, dVar, dC, dBin, dUn, dTest, isB, dAndT, dOrT, dNotT, dAndV, dOrV, dNotV, dIfE, dTruth, dCons, dNil, dTupE, dLstE, dCB, dIs, dCall, gNm, dPart, dNoPart, DL.f0, DL.fc, DL.g1, DL.g2, DL.g3, DL.s1, DL.s2, DL.zc, dPar, dChain, DL.e1, DL.e2, DL.e3, DL.e4, DL.e5, DL.e6, DL.e7, DL.e8, DL.e9, DL.e10, DL.e11, DL.e12, DL.e13, DL.e14, DL.a1, DL.a2, DL.a3, DL.a4, DL.a5, DL.a6, DL.a7, DL.a8, DL.a9, DL.a10, DL.a11, DL.t1, DL.t2, DL.t3, DL.x1, DL.x2, DL.x3, DL.x4, DL.x5, DL.x6, DL.x7, DL.x8, DL.x9, DL.x10, DL.x11, DL.x12, DL.y1, DL.y2, DL.eq_ii, DL.ne_ii, DL.k1, DL.k2, DL.k3, DL.k4, DL.k5, DL.k6, DL.z0, DL.z1, DL.z2, DL.z3, DL.z4, DL.z5, DL.z6, DL.z7, DL.z8, DL.z9, DL.z10, DL.z11, DL.z12, DL.z13, DL.z14, DL.z15, DL.z16, DL.z17, DL.z18, DL.z19, DL.z20, DL.z21, DL.z22, DL.z23, DL.z24, DL.z25, DL.z26, DL.z27, DL.z28, DL.z29, DL.ic1, DL.ic2, dPar3, dIs2, dDic0, dCallD, dFld, dProp, dNew, dTkSet, dTkInt, dIter, DL.w0, DL.w1, DL.w2, DL.w3, DL.w4, DL.w5, btw, h1, show a ≤ 100 by omega]
  refine (sp_is_between rfl).mpr ?_
  simp [phi, startA, dSeq, dNext, dAsg, dAsgG, dIf, dRet, dRetV, dRetN, dDrop, dRaise, dRaiseI, dFz, dFzS, dVar, dC, dBin, dUn, dTest, isB, dAndT, dOrT, dNotT, dAndV, dOrV, dNotV, dIfE, dTruth, dCons, dNil, dTupE, dLstE, dCB, dIs, dCall, gNm, dPart, dNoPart, DL.f0, DL.fc, DL.g1, DL.g2, DL.g3, DL.s1, DL.s2, DL.zc, dPar, dChain, DL.e1, DL.e2, DL.e3, DL.e4, DL.e5, DL.e6, DL.e7, DL.e8, DL.e9, DL.e10, DL.e11, DL.e12, DL.e13, DL.e14, DL.a1, DL.a2, DL.a3, DL.a4, DL.a5, DL.a6, DL.a7, DL.a8, DL.a9, DL.a10, DL.a11, DL.t1, DL.t2, DL.t3, DL.x1, DL.x2, DL.x3, DL.x4, DL.x5, DL.x6, DL.x7, DL.x8, DL.x9, DL.x10, DL.x11, DL.x12, DL.y1, DL.y2, DL.eq_ii, DL.ne_ii, DL.k1, DL.k2, DL.k3, DL.k4, DL.k5, DL.k6, DL.z0, DL.z1, DL.z2, DL.z3, DL.z4, DL.z5, DL.z6, DL.z7, DL.z8, DL.z9, DL.z10, DL.z11, DL.z12, DL.z13, DL.z14, DL.z15, DL.z16, DL.z17, DL.z18, DL.z19, DL.z20, DL.z21, DL.z22, DL.z23, DL.z24, DL.z25, DL.z26, DL.z27, DL.z28, DL.z29, DL.ic1, DL.ic2, dPar3, dIs2, dDic0, dCallD, dFld, dProp, dNew, dTkSet, dTkInt, dIter, DL.w0, DL.w1, DL.w2, DL.w3, DL.w4, DL.w5, btw, h2, h3, q]
/-- an Alarms -/
def al (a b : Int) (as : List D) : D := .ins 6 ["own_low", "own_high", "own_alarms"] [.int a, .int b, .tup as]
theorem sp_Alarms {a b : Int} {as : List D} (h1 : -100 ≤ a) (h2 : a ≤ b) (h3 : b ≤ 100) (l1 : 1 ≤ as.length) (l2 : as.length ≤ 4) (ha : ∀ d ∈ as, AlOk d) (q : Q (.fr (al a b as))) : phi_Alarms_dot_init [.fr (.int a), .fr (.int b), .fr (.lst as)] Q E := by
  unfold phi_Alarms_dot_init phiJ
  intro x
  unfold t_Alarms_dot_init dJChk
  refine ⟨rfl, ?_⟩
  simp [phi, startA, dSeq, dNext, dAsg, dAsgG, dIf, dRet, dRetV, dRetN, dDrop, dRaise, dRaiseI, dFz, dFzS, dVar, dC, dBin, dUn, dTest, isB, dAndT, dOrT, dNotT, dAndV, dOrV, dNotV, dIfE, dTruth, dCons, dNil, dTupE, dLstE, dCB, dIs, dCall, gNm, dPart, dNoPart, DL.f0, DL.fc, DL.g1, DL.g2, DL.g3, DL.s1, DL.s2, DL.zc, dPar, dChain, DL.e1, DL.e2, DL.e3, DL.e4, DL.e5, DL.e6, DL.e7, DL.e8, DL.e9, DL.e10, DL.e11, DL.e12, DL.e13, DL.e14, DL.a1, DL.a2, DL.a3, DL.a4, DL.a5, DL.a6, DL.a7, DL.a8, DL.a9, DL.a10, DL.a11, DL.t1, DL.t2, DL.t3, DL.x1, DL.x2, DL.x3, DL.x4, DL.x5, DL.x6, DL.x7, DL.x8, DL.x9, DL.x10, DL.x11, DL.x12, DL.y1, DL.y2, DL.eq_ii, DL.ne_ii, DL.k1, DL.k2, DL.k3, DL.k4, DL.k5, DL.k6, DL.z0, DL.z1, DL.z2, DL.z3, DL.z4, DL.z5, DL.z6, DL.z7, DL.z8, DL.z9, DL.z10, DL.z11, DL.z12, DL.z13, DL.z14, DL.z15, DL.z16, DL.z17, DL.z18, DL.z19, DL.z20, DL.z21, DL.z22, DL.z23, DL.z24, DL.z25, DL.z26, DL.z27, DL.z28, DL.z29, DL.ic1, DL.ic2, dPar3, dIs2, dDic0, dCallD, dFld, dProp, dNew, dTkSet, dTkInt, dIter, DL.w0, DL.w1, DL.w2, DL.w3, DL.w4, DL.w5, S.noOwn]
  refine sp_need_values h1 h2 h3 ?_
  try simp [phi, startA, dSeq, dNext, dAsg, dAsgG, dIf, dRet, dRetV, dRetN, dDrop, dRaise, dRaiseI, dFz, dFzS, dVar, dC, dBin, dUn, dTest, isB, dAndT, dOrT, dNotT, dAndV, dOrV, dNotV, dIfE, dTruth, dCons, dNil, dTupE, dLstE, dCB, dIs, dCall, gNm, dPart, dNoPart, DL.f0, DL.fc, DL.g1, DL.g2, DL.g3, DL.s1, DL.s2, DL.zc, dPar, dChain, DL.e1, DL.e2, DL.e3, DL.e4, DL.e5, DL.e6, DL.e7, DL.e8, DL.e9, DL.e10, DL.e11, DL.e12, DL.e13, DL.e14, DL.a1, DL.a2, DL.a3, DL.a4, DL.a5, DL.a6, DL.a7, DL.a8, DL.a9, DL.a10, DL.a11, DL.t1, DL.t2, DL.t3, DL.x1, DL.x2, DL.x3, DL.x4, DL.x5, DL.x6, DL.x7, DL.x8, DL.x9, DL.x10, DL.x11, DL.x12, DL.y1, DL.y2, DL.eq_ii, DL.ne_ii, DL.k1, DL.k2, DL.k3, DL.k4, DL.k5, DL.k6, DL.z0, DL.z1, DL.z2, DL.z3, DL.z4, DL.z5, DL.z6, DL.z7, DL.z8, DL.z9, DL.z10, DL.z11, DL.z12, DL.z13, DL.z14, DL.z15, DL.z16, DL.z17, DL.z18, DL.z19, DL.z20, DL.z21, DL.z22, DL.z23, DL.z24, DL.z25, DL.z26, DL.z27, DL.z28, DL.z29, DL.ic1, DL.ic2, dPar3, dIs2, dDic0, dCallD, dFld, dProp, dNew, dTkSet, dTkInt, dIter, DL.w0, DL.w1, DL.w2, DL.w3, DL.w4, DL.w5, S.noOwn]
  refine sp_is_list.mpr ?_
  simp [phi, startA, dSeq, dNext, dAsg, dAsgG, dIf, dRet, dRetV, dRetN, dDrop, dRaise, dRaiseI, dFz, dFzS, dVar, dC, dBin, dUn, dTest, isB, dAndT, dOrT, dNotT, dAndV, dOrV, dNotV, dIfE, dTruth, dCons, dNil, dTupE, dLstE, dCB, dIs, dCall, gNm, dPart, dNoPart, DL.f0, DL.fc, DL.g1, DL.g2, DL.g3, DL.s1, DL.s2, DL.zc, dPar, dChain, DL.e1, DL.e2, DL.e3, DL.e4, DL.e5, DL.e6, DL.e7, DL.e8, DL.e9, DL.e10, DL.e11, DL.e12, DL.e13, DL.e14, DL.a1, DL.a2, DL.a3, DL.a4, DL.a5, DL.a6, DL.a7, DL.a8, DL.a9, DL.a10, DL.a11, DL.t1, DL.t2, DL.t3, DL.x1, DL.x2, DL.x3, DL.x4, DL.x5, DL.x6, DL.x7, DL.x8, DL.x9, DL.x10, DL.x11, DL.x12, DL.y1, DL.y2, DL.eq_ii, DL.ne_ii, DL.k1, DL.k2, DL.k3, DL.k4, DL.k5, DL.k6, DL.z0, DL.z1, DL.z2, DL.z3, DL.z4, DL.z5, DL.z6, DL.z7, DL.z8, DL.z9, DL.z10, DL.z11, DL.z12, DL.z13, DL.z14, DL.z15, DL.z16, DL.z17, DL.z18, DL.z19, DL.z20, DL.z21, DL.z22, DL.z23, DL.z24, DL.z25, DL.z26, DL.z27, DL.z28, DL.z29, DL.ic1, DL.ic2, dPar3, dIs2, dDic0, dCallD, dFld, dProp, dNew, dTkSet, dTkInt, dIter, DL.w0, DL.w1, DL.w2, DL.w3, DL.w4, DL.w5, S.noOwn, dFor, dEnum]
  rw [if_pos (by omega), if_pos (by omega)]
  refine for_inv (fun α => ∃ s4 s5 : Option S, S.noOwn s4 = true ∧ S.noOwn s5 = true ∧ α = [some (S.fr (D.raw (V.ref x))), some (S.fr (D.int a)), some (S.fr (D.int b)), some (S.fr (D.lst as)), s4, s5]) (fun d hd α hα nxt hn => ?_) ⟨none, none, rfl, rfl, rfl⟩ (fun α hα => ?_)
  · obtain ⟨s4, s5, n4, n5, rfl⟩ := hα
    obtain ⟨i, y, hi, hy, rfl⟩ := enum_mem hd
    simp [phi, startA, dSeq, dNext, dAsg, dAsgG, dIf, dRet, dRetV, dRetN, dDrop, dRaise, dRaiseI, dFz, dFzS, dVar, dC, dBin, dUn, dTest, isB, dAndT, dOrT, dNotT, dAndV, dOrV, dNotV, dIfE, dTruth, dCons, dNil, dTupE, dLstE, dCB, dIs, dCall, gNm, dPart, dNoPart, DL.f0, DL.fc, DL.g1, DL.g2, DL.g3, DL.s1, DL.s2, DL.zc, dPar, dChain, DL.e1, DL.e2, DL.e3, DL.e4, DL.e5, DL.e6, DL.e7, DL.e8, DL.e9, DL.e10, DL.e11, DL.e12, DL.e13, DL.e14, DL.a1, DL.a2, DL.a3, DL.a4, DL.a5, DL.a6, DL.a7, DL.a8, DL.a9, DL.a10, DL.a11, DL.t1, DL.t2, DL.t3, DL.x1, DL.x2, DL.x3, DL.x4, DL.x5, DL.x6, DL.x7, DL.x8, DL.x9, DL.x10, DL.x11, DL.x12, DL.y1, DL.y2, DL.eq_ii, DL.ne_ii, DL.k1, DL.k2, DL.k3, DL.k4, DL.k5, DL.k6, DL.z0, DL.z1, DL.z2, DL.z3, DL.z4, DL.z5, DL.z6, DL.z7, DL.z8, DL.z9, DL.z10, DL.z11, DL.z12, DL.z13, DL.z14, DL.z15, DL.z16, DL.z17, DL.z18, DL.z19, DL.z20, DL.z21, DL.z22, DL.z23, DL.z24, DL.z25, DL.z26, DL.z27, DL.z28, DL.z29, DL.ic1, DL.ic2, dPar3, dIs2, dDic0, dCallD, dFld, dProp, dNew, dTkSet, dTkInt, dIter, DL.w0, DL.w1, DL.w2, DL.w3, DL.w4, DL.w5]
    refine sp_alarm_right (ha y (List.mem_of_getElem? hy)) ?_
    simp [phi, startA, dSeq, dNext, dAsg, dAsgG, dIf, dRet, dRetV, dRetN, dDrop, dRaise, dRaiseI, dFz, dFzS, dVar, dC, dBin, dUn, dTest, isB, dAndT, dOrT, dNotT, dAndV, dOrV, dNotV, dIfE, dTruth, dCons, dNil, dTupE, dLstE, dCB, dIs, dCall, gNm, dPart, dNoPart, DL.f0, DL.fc, DL.g1, DL.g2, DL.g3, DL.s1, DL.s2, DL.zc, dPar, dChain, DL.e1, DL.e2, DL.e3, DL.e4, DL.e5, DL.e6, DL.e7, DL.e8, DL.e9, DL.e10, DL.e11, DL.e12, DL.e13, DL.e14, DL.a1, DL.a2, DL.a3, DL.a4, DL.a5, DL.a6, DL.a7, DL.a8, DL.a9, DL.a10, DL.a11, DL.t1, DL.t2, DL.t3, DL.x1, DL.x2, DL.x3, DL.x4, DL.x5, DL.x6, DL.x7, DL.x8, DL.x9, DL.x10, DL.x11, DL.x12, DL.y1, DL.y2, DL.eq_ii, DL.ne_ii, DL.k1, DL.k2, DL.k3, DL.k4, DL.k5, DL.k6, DL.z0, DL.z1, DL.z2, DL.z3, DL.z4, DL.z5, DL.z6, DL.z7, DL.z8, DL.z9, DL.z10, DL.z11, DL.z12, DL.z13, DL.z14, DL.z15, DL.z16, DL.z17, DL.z18, DL.z19, DL.z20, DL.z21, DL.z22, DL.z23, DL.z24, DL.z25, DL.z26, DL.z27, DL.z28, DL.z29, DL.ic1, DL.ic2, dPar3, dIs2, dDic0, dCallD, dFld, dProp, dNew, dTkSet, dTkInt, dIter, DL.w0, DL.w1, DL.w2, DL.w3, DL.w4, DL.w5]
    exact hn _ ⟨_, _, rfl, rfl, rfl⟩
  · obtain ⟨s4, s5, n4, n5, rfl⟩ := hα
    simp [phi, startA, dSeq, dNext, dAsg, dAsgG, dIf, dRet, dRetV, dRetN, dDrop, dRaise, dRaiseI, dFz, dFzS, dVar, dC, dBin, dUn, dTest, isB, dAndT, dOrT, dNotT, dAndV, dOrV, dNotV, dIfE, dTruth, dCons, dNil, dTupE, dLstE, dCB, dIs, dCall, gNm, dPart, dNoPart, DL.f0, DL.fc, DL.g1, DL.g2, DL.g3, DL.s1, DL.s2, DL.zc, dPar, dChain, DL.e1, DL.e2, DL.e3, DL.e4, DL.e5, DL.e6, DL.e7, DL.e8, DL.e9, DL.e10, DL.e11, DL.e12, DL.e13, DL.e14, DL.a1, DL.a2, DL.a3, DL.a4, DL.a5, DL.a6, DL.a7, DL.a8, DL.a9, DL.a10, DL.a11, DL.t1, DL.t2, DL.t3, DL.x1, DL.x2, DL.x3, DL.x4, DL.x5, DL.x6, DL.x7, DL.x8, DL.x9, DL.x10, DL.x11, DL.x12, DL.y1, DL.y2, DL.eq_ii, DL.ne_ii, DL.k1, DL.k2, DL.k3, DL.k4, DL.k5, DL.k6, DL.z0, DL.z1, DL.z2, DL.z3, DL.z4, DL.z5, DL.z6, DL.z7, DL.z8, DL.z9, DL.z10, DL.z11, DL.z12, DL.z13, DL.z14, DL.z15, DL.z16, DL.z17, DL.z18, DL.z19, DL.z20, DL.z21, DL.z22, DL.z23, DL.z24, DL.z25, DL.z26, DL.z27, DL.z28, DL.z29, DL.ic1, DL.ic2, dPar3, dIs2, dDic0, dCallD, dFld, dProp, dNew, dTkSet, dTkInt, dIter, DL.w0, DL.w1, DL.w2, DL.w3, DL.w4, DL.w5, dJPut, dJEnd, nofr, n4, n5]
    exact ⟨by decide +kernel, ⟨by decide +kernel, by decide +kernel⟩, q⟩
theorem sp_low {a b : Int} {as : List D} (q : Q (.fr (.int a))) : phi_Alarms_dot_low [.fr (al a b as)] Q E := by
  simp [phi, startA, dSeq, dNext, dAsg, dAsgG, dIf, dRet, dRetV, dRetN, dDrop, dRaise, dRaiseI, dFz, dFzS, dVar, dC, dBin, dUn, dTest, isB, dAndT, dOrT, dNotT, dAndV, dOrV, dNotV, dIfE, dTruth, dCons, dNil, dTupE, dLstE, dCB, dIs, dCall, gNm, dPart, dNoPart, DL.f0, DL.fc, DL.g1, DL.g2, DL.g3, DL.s1, DL.s2, DL.zc, dPar, dChain, DL.e1, DL.e2, DL.e3, DL.e4, DL.e5, DL.e6, DL.e7, DL.e8, DL.e9, DL.e10, DL.e11, DL.e12, DL.e13, DL.e14, DL.a1, DL.a2, DL.a3, DL.a4, DL.a5, DL.a6, DL.a7, DL.a8, DL.a9, DL.a10, DL.a11, DL.t1, DL.t2, DL.t3, DL.x1, DL.x2, DL.x3, DL.x4, DL.x5, DL.x6, DL.x7, DL.x8, DL.x9, DL.x10, DL.x11, DL.x12, DL.y1, DL.y2, DL.eq_ii, DL.ne_ii, DL.k1, DL.k2, DL.k3, DL.k4, DL.k5, DL.k6, DL.z0, DL.z1, DL.z2, DL.z3, DL.z4, DL.z5, DL.z6, DL.z7, DL.z8, DL.z9, DL.z10, DL.z11, DL.z12, DL.z13, DL.z14, DL.z15, DL.z16, DL.z17, DL.z18, DL.z19, DL.z20, DL.z21, DL.z22, DL.z23, DL.z24, DL.z25, DL.z26, DL.z27, DL.z28, DL.z29, DL.ic1, DL.ic2, dPar3, dIs2, dDic0, dCallD, dFld, dProp, dNew, dTkSet, dTkInt, dIter, DL.w0, DL.w1, DL.w2, DL.w3, DL.w4, DL.w5, phi_Alarms_dot_low, t_Alarms_dot_low]
  exact ⟨6, _, _, rfl, rfl, _, rfl, q⟩
theorem sp_high {a b : Int} {as : List D} (q : Q (.fr (.int b))) : phi_Alarms_dot_high [.fr (al a b as)] Q E := by
  simp [phi, startA, dSeq, dNext, dAsg, dAsgG, dIf, dRet, dRetV, dRetN, dDrop, dRaise, dRaiseI, dFz, dFzS, dVar, dC, dBin, dUn, dTest, isB, dAndT, dOrT, dNotT, dAndV, dOrV, dNotV, dIfE, dTruth, dCons, dNil, dTupE, dLstE, dCB, dIs, dCall, gNm, dPart, dNoPart, DL.f0, DL.fc, DL.g1, DL.g2, DL.g3, DL.s1, DL.s2, DL.zc, dPar, dChain, DL.e1, DL.e2, DL.e3, DL.e4, DL.e5, DL.e6, DL.e7, DL.e8, DL.e9, DL.e10, DL.e11, DL.e12, DL.e13, DL.e14, DL.a1, DL.a2, DL.a3, DL.a4, DL.a5, DL.a6, DL.a7, DL.a8, DL.a9, DL.a10, DL.a11, DL.t1, DL.t2, DL.t3, DL.x1, DL.x2, DL.x3, DL.x4, DL.x5, DL.x6, DL.x7, DL.x8, DL.x9, DL.x10, DL.x11, DL.x12, DL.y1, DL.y2, DL.eq_ii, DL.ne_ii, DL.k1, DL.k2, DL.k3, DL.k4, DL.k5, DL.k6, DL.z0, DL.z1, DL.z2, DL.z3, DL.z4, DL.z5, DL.z6, DL.z7, DL.z8, DL.z9, DL.z10, DL.z11, DL.z12, DL.z13, DL.z14, DL.z15, DL.z16, DL.z17, DL.z18, DL.z19, DL.z20, DL.z21, DL.z22, DL.z23, DL.z24, DL.z25, DL.z26, DL.z27, DL.z28, DL.z29, DL.ic1, DL.ic2, dPar3, dIs2, dDic0, dCallD, dFld, dProp, dNew, dTkSet, dTkInt, dIter, DL.w0, DL.w1, DL.w2, DL.w3, DL.w4, DL.w5, phi_Alarms_dot_high, t_Alarms_dot_high]
  exact ⟨6, _, _, rfl, rfl, _, rfl, q⟩
/-- a stream, judged -/
def strB (a b : Int) : D → Bool
  | .tup ds => decide (ds.length ≤ 200) && ds.all fun d => btw d a b
  | _ => false
/-- what is tried: of built-in types -/
def okv : D → Bool
  | .tup ds => ds.all D.pl
  | d => d.pl
theorem sp_stream_right {a b : Int} {as : List D} {v : D} (h : okv v = true) (q : Q (.fr (.bl (strB a b v)))) : phi_stream_right [.fr (al a b as), .fr v] Q E := by
  cases v with
  | tup ds =>
    simp [phi, startA, dSeq, dNext, dAsg, dAsgG, dIf, dRet, dRetV, dRetN, dDrop, dRaise, dRaiseI, dFz, dFzS, dVar, dC, dBin, dUn, dTest, isB, dAndT, dOrT, dNotT, dAndV, dOrV, dNotV, dIfE, dTruth, dCons, dNil, dTupE, dLstE, dCB, dIs, dCall, gNm, dPart, dNoPart, DL.f0, DL.fc, DL.g1, DL.g2, DL.g3, DL.s1, DL.s2, DL.zc, dPar, dChain, DL.e1, DL.e2, DL.e3, DL.e4, DL.e5, DL.e6, DL.e7, DL.e8, DL.e9, DL.e10, DL.e11, DL.e12, DL.e13, DL.e14, DL.a1, DL.a2, DL.a3, DL.a4, DL.a5, DL.a6, DL.a7, DL.a8, DL.a9, DL.a10, DL.a11, DL.t1, DL.t2, DL.t3, DL.x1, DL.x2, DL.x3, DL.x4, DL.x5, DL.x6, DL.x7, DL.x8, DL.x9, DL.x10, DL.x11, DL.x12, DL.y1, DL.y2, DL.eq_ii, DL.ne_ii, DL.k1, DL.k2, DL.k3, DL.k4, DL.k5, DL.k6, DL.z0, DL.z1, DL.z2, DL.z3, DL.z4, DL.z5, DL.z6, DL.z7, DL.z8, DL.z9, DL.z10, DL.z11, DL.z12, DL.z13, DL.z14, DL.z15, DL.z16, DL.z17, DL.z18, DL.z19, DL.z20, DL.z21, DL.z22, DL.z23, DL.z24, DL.z25, DL.z26, DL.z27, DL.z28, DL.z29, DL.ic1, DL.ic2, dPar3, dIs2, dDic0, dCallD, dFld, dProp, dNew, dTkSet, dTkInt, dIter, DL.w0, DL.w1, DL.w2, DL.w3, DL.w4, DL.w5, phi_stream_right, t_stream_right]
    by_cases hl : (200 : Int) < ds.length
    · simp [hl]
      simpa [strB, show ¬ ds.length ≤ 200 by omega] using q
    · simp [phi, startA, dSeq, dNext, dAsg, dAsgG, dIf, dRet, dRetV, dRetN, dDrop, dRaise, dRaiseI, dFz, dFzS, dVar, dC, dBin, dUn, dTest, isB, dAndT, dOrT, dNotT, dAndV, dOrV, dNotV, dIfE, dTruth, dCons, dNil, dTupE, dLstE, dCB, dIs, dCall, gNm, dPart, dNoPart, DL.f0, DL.fc, DL.g1, DL.g2, DL.g3, DL.s1, DL.s2, DL.zc, dPar, dChain, DL.e1, DL.e2, DL.e3, DL.e4, DL.e5, DL.e6, DL.e7, DL.e8, DL.e9, DL.e10, DL.e11, DL.e12, DL.e13, DL.e14, DL.a1, DL.a2, DL.a3, DL.a4, DL.a5, DL.a6, DL.a7, DL.a8, DL.a9, DL.a10, DL.a11, DL.t1, DL.t2, DL.t3, DL.x1, DL.x2, DL.x3, DL.x4, DL.x5, DL.x6, DL.x7, DL.x8, DL.x9, DL.x10, DL.x11, DL.x12, DL.y1, DL.y2, DL.eq_ii, DL.ne_ii, DL.k1, DL.k2, DL.k3, DL.k4, DL.k5, DL.k6, DL.z0, DL.z1, DL.z2, DL.z3, DL.z4, DL.z5, DL.z6, DL.z7, DL.z8, DL.z9, DL.z10, DL.z11, DL.z12, DL.z13, DL.z14, DL.z15, DL.z16, DL.z17, DL.z18, DL.z19, DL.z20, DL.z21, DL.z22, DL.z23, DL.z24, DL.z25, DL.z26, DL.z27, DL.z28, DL.z29, DL.ic1, DL.ic2, dPar3, dIs2, dDic0, dCallD, dFld, dProp, dNew, dTkSet, dTkInt, dIter, DL.w0, DL.w1, DL.w2, DL.w3, DL.w4, DL.w5, hl, dLc, wipeA]
      refine lc_map (fun d => .bl (btw d a b)) (fun x hx P k0 hp => ?_) (lsz (by omega)) ?_
      · have hx' : x.pl = true := List.all_eq_true.mp h x hx
        simp [phi, startA, dSeq, dNext, dAsg, dAsgG, dIf, dRet, dRetV, dRetN, dDrop, dRaise, dRaiseI, dFz, dFzS, dVar, dC, dBin, dUn, dTest, isB, dAndT, dOrT, dNotT, dAndV, dOrV, dNotV, dIfE, dTruth, dCons, dNil, dTupE, dLstE, dCB, dIs, dCall, gNm, dPart, dNoPart, DL.f0, DL.fc, DL.g1, DL.g2, DL.g3, DL.s1, DL.s2, DL.zc, dPar, dChain, DL.e1, DL.e2, DL.e3, DL.e4, DL.e5, DL.e6, DL.e7, DL.e8, DL.e9, DL.e10, DL.e11, DL.e12, DL.e13, DL.e14, DL.a1, DL.a2, DL.a3, DL.a4, DL.a5, DL.a6, DL.a7, DL.a8, DL.a9, DL.a10, DL.a11, DL.t1, DL.t2, DL.t3, DL.x1, DL.x2, DL.x3, DL.x4, DL.x5, DL.x6, DL.x7, DL.x8, DL.x9, DL.x10, DL.x11, DL.x12, DL.y1, DL.y2, DL.eq_ii, DL.ne_ii, DL.k1, DL.k2, DL.k3, DL.k4, DL.k5, DL.k6, DL.z0, DL.z1, DL.z2, DL.z3, DL.z4, DL.z5, DL.z6, DL.z7, DL.z8, DL.z9, DL.z10, DL.z11, DL.z12, DL.z13, DL.z14, DL.z15, DL.z16, DL.z17, DL.z18, DL.z19, DL.z20, DL.z21, DL.z22, DL.z23, DL.z24, DL.z25, DL.z26, DL.z27, DL.z28, DL.z29, DL.ic1, DL.ic2, dPar3, dIs2, dDic0, dCallD, dFld, dProp, dNew, dTkSet, dTkInt, dIter, DL.w0, DL.w1, DL.w2, DL.w3, DL.w4, DL.w5, dYes]
        exact ⟨_, _, rfl, sp_low ⟨_, _, rfl, sp_high ⟨⟨rfl, rfl⟩, (sp_is_between hx').mpr ⟨_, rfl, hp⟩⟩⟩⟩
      · refine all_map ?_
        simpa [strB, show ds.length ≤ 200 by omega] using q
  | _ => first | (simpa [phi, startA, dSeq, dNext, dAsg, dAsgG, dIf, dRet, dRetV, dRetN, dDrop, dRaise, dRaiseI, dFz, dFzS, dVar, dC, dBin, dUn, dTest, isB, dAndT, dOrT, dNotT, dAndV, dOrV, dNotV, dIfE, dTruth, dCons, dNil, dTupE, dLstE, dCB, dIs, dCall, gNm, dPart, dNoPart, DL.f0, DL.fc, DL.g1, DL.g2, DL.g3, DL.s1, DL.s2, DL.zc, dPar, dChain, DL.e1, DL.e2, DL.e3, DL.e4, DL.e5, DL.e6, DL.e7, DL.e8, DL.e9, DL.e10, DL.e11, DL.e12, DL.e13, DL.e14, DL.a1, DL.a2, DL.a3, DL.a4, DL.a5, DL.a6, DL.a7, DL.a8, DL.a9, DL.a10, DL.a11, DL.t1, DL.t2, DL.t3, DL.x1, DL.x2, DL.x3, DL.x4, DL.x5, DL.x6, DL.x7, DL.x8, DL.x9, DL.x10, DL.x11, DL.x12, DL.y1, DL.y2, DL.eq_ii, DL.ne_ii, DL.k1, DL.k2, DL.k3, DL.k4, DL.k5, DL.k6, DL.z0, DL.z1, DL.z2, DL.z3, DL.z4, DL.z5, DL.z6, DL.z7, DL.z8, DL.z9, DL.z10, DL.z11, DL.z12, DL.z13, DL.z14, DL.z15, DL.z16, DL.z17, DL.z18, DL.z19, DL.z20, DL.z21, DL.z22, DL.z23, DL.z24, DL.z25, DL.z26, DL.z27, DL.z28, DL.z29, DL.ic1, DL.ic2, dPar3, dIs2, dDic0, dCallD, dFld, dProp, dNew, dTkSet, dTkInt, dIter, DL.w0, DL.w1, DL.w2, DL.w3, DL.w4, DL.w5, phi_stream_right, t_stream_right, strB] using q) | cases h
theorem sp_need_alarms {a b : Int} {as : List D} (q : Q (.fr .non)) : phi_need_alarms [.fr (al a b as), .fr .non] Q E := by
  simp [phi, startA, dSeq, dNext, dAsg, dAsgG, dIf, dRet, dRetV, dRetN, dDrop, dRaise, dRaiseI, dFz, dFzS, dVar, dC, dBin, dUn, dTest, isB, dAndT, dOrT, dNotT, dAndV, dOrV, dNotV, dIfE, dTruth, dCons, dNil, dTupE, dLstE, dCB, dIs, dCall, gNm, dPart, dNoPart, DL.f0, DL.fc, DL.g1, DL.g2, DL.g3, DL.s1, DL.s2, DL.zc, dPar, dChain, DL.e1, DL.e2, DL.e3, DL.e4, DL.e5, DL.e6, DL.e7, DL.e8, DL.e9, DL.e10, DL.e11, DL.e12, DL.e13, DL.e14, DL.a1, DL.a2, DL.a3, DL.a4, DL.a5, DL.a6, DL.a7, DL.a8, DL.a9, DL.a10, DL.a11, DL.t1, DL.t2, DL.t3, DL.x1, DL.x2, DL.x3, DL.x4, DL.x5, DL.x6, DL.x7, DL.x8, DL.x9, DL.x10, DL.x11, DL.x12, DL.y1, DL.y2, DL.eq_ii, DL.ne_ii, DL.k1, DL.k2, DL.k3, DL.k4, DL.k5, DL.k6, DL.z0, DL.z1, DL.z2, DL.z3, DL.z4, DL.z5, DL.z6, DL.z7, DL.z8, DL.z9, DL.z10, DL.z11, DL.z12, DL.z13, DL.z14, DL.z15, DL.z16, DL.z17, DL.z18, DL.z19, DL.z20, DL.z21, DL.z22, DL.z23, DL.z24, DL.z25, DL.z26, DL.z27, DL.z28, DL.z29, DL.ic1, DL.ic2, dPar3, dIs2, dDic0, dCallD, dFld, dProp, dNew, dTkSet, dTkInt, dIter, DL.w0, DL.w1, DL.w2, DL.w3, DL.w4, DL.w5, phi_need_alarms, t_need_alarms]
  exact ⟨(by decide : (6 : Nat) < 7), fun c ns ds z => (nomatch (show D.ins 6 _ _ = D.exc c ns ds from z)), fun c ns ds z => by (have z' : D.ins 6 _ _ = D.ins c ns ds := z; cases z'; rfl), .inr ⟨rfl, q⟩⟩
theorem sp_is_stream {a b : Int} {as : List D} {v : D} (h : okv v = true) (q : Q (.fr (.bl (strB a b v)))) : phi_is_stream [.fr (al a b as), .fr v] Q E := by
  simp [phi, startA, dSeq, dNext, dAsg, dAsgG, dIf, dRet, dRetV, dRetN, dDrop, dRaise, dRaiseI, dFz, dFzS, dVar, dC, dBin, dUn, dTest, isB, dAndT, dOrT, dNotT, dAndV, dOrV, dNotV, dIfE, dTruth, dCons, dNil, dTupE, dLstE, dCB, dIs, dCall, gNm, dPart, dNoPart, DL.f0, DL.fc, DL.g1, DL.g2, DL.g3, DL.s1, DL.s2, DL.zc, dPar, dChain, DL.e1, DL.e2, DL.e3, DL.e4, DL.e5, DL.e6, DL.e7, DL.e8, DL.e9, DL.e10, DL.e11, DL.e12, DL.e13, DL.e14, DL.a1, DL.a2, DL.a3, DL.a4, DL.a5, DL.a6, DL.a7, DL.a8, DL.a9, DL.a10, DL.a11, DL.t1, DL.t2, DL.t3, DL.x1, DL.x2, DL.x3, DL.x4, DL.x5, DL.x6, DL.x7, DL.x8, DL.x9, DL.x10, DL.x11, DL.x12, DL.y1, DL.y2, DL.eq_ii, DL.ne_ii, DL.k1, DL.k2, DL.k3, DL.k4, DL.k5, DL.k6, DL.z0, DL.z1, DL.z2, DL.z3, DL.z4, DL.z5, DL.z6, DL.z7, DL.z8, DL.z9, DL.z10, DL.z11, DL.z12, DL.z13, DL.z14, DL.z15, DL.z16, DL.z17, DL.z18, DL.z19, DL.z20, DL.z21, DL.z22, DL.z23, DL.z24, DL.z25, DL.z26, DL.z27, DL.z28, DL.z29, DL.ic1, DL.ic2, dPar3, dIs2, dDic0, dCallD, dFld, dProp, dNew, dTkSet, dTkInt, dIter, DL.w0, DL.w1, DL.w2, DL.w3, DL.w4, DL.w5, phi_is_stream, t_is_stream]
  refine sp_need_alarms ?_
  refine sp_stream_right h ?_
  simpa [phi, startA, dSeq, dNext, dAsg, dAsgG, dIf, dRet, dRetV, dRetN, dDrop, dRaise, dRaiseI, dFz, dFzS, dVar, dC, dBin, dUn, dTest, isB, dAndT, dOrT, dNotT, dAndV, dOrV, dNotV, dIfE, dTruth, dCons, dNil, dTupE, dLstE, dCB, dIs, dCall, gNm, dPart, dNoPart, DL.f0, DL.fc, DL.g1, DL.g2, DL.g3, DL.s1, DL.s2, DL.zc, dPar, dChain, DL.e1, DL.e2, DL.e3, DL.e4, DL.e5, DL.e6, DL.e7, DL.e8, DL.e9, DL.e10, DL.e11, DL.e12, DL.e13, DL.e14, DL.a1, DL.a2, DL.a3, DL.a4, DL.a5, DL.a6, DL.a7, DL.a8, DL.a9, DL.a10, DL.a11, DL.t1, DL.t2, DL.t3, DL.x1, DL.x2, DL.x3, DL.x4, DL.x5, DL.x6, DL.x7, DL.x8, DL.x9, DL.x10, DL.x11, DL.x12, DL.y1, DL.y2, DL.eq_ii, DL.ne_ii, DL.k1, DL.k2, DL.k3, DL.k4, DL.k5, DL.k6, DL.z0, DL.z1, DL.z2, DL.z3, DL.z4, DL.z5, DL.z6, DL.z7, DL.z8, DL.z9, DL.z10, DL.z11, DL.z12, DL.z13, DL.z14, DL.z15, DL.z16, DL.z17, DL.z18, DL.z19, DL.z20, DL.z21, DL.z22, DL.z23, DL.z24, DL.z25, DL.z26, DL.z27, DL.z28, DL.z29, DL.ic1, DL.ic2, dPar3, dIs2, dDic0, dCallD, dFld, dProp, dNew, dTkSet, dTkInt, dIter, DL.w0, DL.w1, DL.w2, DL.w3, DL.w4, DL.w5] using q
theorem sp_is_stream_bad {d v : D} (hd : d.pl = true) (q : E (5, ["part"], [.non])) : phi_is_stream [.fr d, .fr v] Q E := by
  simp [phi, startA, dSeq, dNext, dAsg, dAsgG, dIf, dRet, dRetV, dRetN, dDrop, dRaise, dRaiseI, dFz, dFzS, dVar, dC, dBin, dUn, dTest, isB, dAndT, dOrT, dNotT, dAndV, dOrV, dNotV, dIfE, dTruth, dCons, dNil, dTupE, dLstE, dCB, dIs, dCall, gNm, dPart, dNoPart, DL.f0, DL.fc, DL.g1, DL.g2, DL.g3, DL.s1, DL.s2, DL.zc, dPar, dChain, DL.e1, DL.e2, DL.e3, DL.e4, DL.e5, DL.e6, DL.e7, DL.e8, DL.e9, DL.e10, DL.e11, DL.e12, DL.e13, DL.e14, DL.a1, DL.a2, DL.a3, DL.a4, DL.a5, DL.a6, DL.a7, DL.a8, DL.a9, DL.a10, DL.a11, DL.t1, DL.t2, DL.t3, DL.x1, DL.x2, DL.x3, DL.x4, DL.x5, DL.x6, DL.x7, DL.x8, DL.x9, DL.x10, DL.x11, DL.x12, DL.y1, DL.y2, DL.eq_ii, DL.ne_ii, DL.k1, DL.k2, DL.k3, DL.k4, DL.k5, DL.k6, DL.z0, DL.z1, DL.z2, DL.z3, DL.z4, DL.z5, DL.z6, DL.z7, DL.z8, DL.z9, DL.z10, DL.z11, DL.z12, DL.z13, DL.z14, DL.z15, DL.z16, DL.z17, DL.z18, DL.z19, DL.z20, DL.z21, DL.z22, DL.z23, DL.z24, DL.z25, DL.z26, DL.z27, DL.z28, DL.z29, DL.ic1, DL.ic2, dPar3, dIs2, dDic0, dCallD, dFld, dProp, dNew, dTkSet, dTkInt, dIter, DL.w0, DL.w1, DL.w2, DL.w3, DL.w4, DL.w5, phi_is_stream, t_is_stream, phi_need_alarms, t_need_alarms]
  refine ⟨?_, fun c ns ds z => by (subst z; cases hd), fun c ns ds z => by (subst z; cases hd), .inl ⟨?_, q⟩⟩
  · cases d <;> first | trivial | cases hd
  · cases d <;> first | rfl | cases hd
theorem sp__law_is_truth {d c : Bool} (q : Q (.fr (.bl (d == c)))) : phi__law_is_truth [.fr (.bl d), .fr (.bl c)] Q E := by
  simp [phi, startA, dSeq, dNext, dAsg, dAsgG, dIf, dRet, dRetV, dRetN, dDrop, dRaise, dRaiseI, dFz, dFzS, dVar, dC, dBin, dUn, dTest, isB, dAndT, dOrT, dNotT, dAndV, dOrV, dNotV, dIfE, dTruth, dCons, dNil, dTupE, dLstE, dCB, dIs, dCall, gNm, dPart, dNoPart, DL.f0, DL.fc, DL.g1, DL.g2, DL.g3, DL.s1, DL.s2, DL.zc, dPar, dChain, DL.e1, DL.e2, DL.e3, DL.e4, DL.e5, DL.e6, DL.e7, DL.e8, DL.e9, DL.e10, DL.e11, DL.e12, DL.e13, DL.e14, DL.a1, DL.a2, DL.a3, DL.a4, DL.a5, DL.a6, DL.a7, DL.a8, DL.a9, DL.a10, DL.a11, DL.t1, DL.t2, DL.t3, DL.x1, DL.x2, DL.x3, DL.x4, DL.x5, DL.x6, DL.x7, DL.x8, DL.x9, DL.x10, DL.x11, DL.x12, DL.y1, DL.y2, DL.eq_ii, DL.ne_ii, DL.k1, DL.k2, DL.k3, DL.k4, DL.k5, DL.k6, DL.z0, DL.z1, DL.z2, DL.z3, DL.z4, DL.z5, DL.z6, DL.z7, DL.z8, DL.z9, DL.z10, DL.z11, DL.z12, DL.z13, DL.z14, DL.z15, DL.z16, DL.z17, DL.z18, DL.z19, DL.z20, DL.z21, DL.z22, DL.z23, DL.z24, DL.z25, DL.z26, DL.z27, DL.z28, DL.z29, DL.ic1, DL.ic2, dPar3, dIs2, dDic0, dCallD, dFld, dProp, dNew, dTkSet, dTkInt, dIter, DL.w0, DL.w1, DL.w2, DL.w3, DL.w4, DL.w5, phi__law_is_truth, t__law_is_truth]
  cases d <;> cases c <;> simp [phi, startA, dSeq, dNext, dAsg, dAsgG, dIf, dRet, dRetV, dRetN, dDrop, dRaise, dRaiseI, dFz, dFzS, dVar, dC, dBin, dUn, dTest, isB, dAndT, dOrT, dNotT, dAndV, dOrV, dNotV, dIfE, dTruth, dCons, dNil, dTupE, dLstE, dCB, dIs, dCall, gNm, dPart, dNoPart, DL.f0, DL.fc, DL.g1, DL.g2, DL.g3, DL.s1, DL.s2, DL.zc, dPar, dChain, DL.e1, DL.e2, DL.e3, DL.e4, DL.e5, DL.e6, DL.e7, DL.e8, DL.e9, DL.e10, DL.e11, DL.e12, DL.e13, DL.e14, DL.a1, DL.a2, DL.a3, DL.a4, DL.a5, DL.a6, DL.a7, DL.a8, DL.a9, DL.a10, DL.a11, DL.t1, DL.t2, DL.t3, DL.x1, DL.x2, DL.x3, DL.x4, DL.x5, DL.x6, DL.x7, DL.x8, DL.x9, DL.x10, DL.x11, DL.x12, DL.y1, DL.y2, DL.eq_ii, DL.ne_ii, DL.k1, DL.k2, DL.k3, DL.k4, DL.k5, DL.k6, DL.z0, DL.z1, DL.z2, DL.z3, DL.z4, DL.z5, DL.z6, DL.z7, DL.z8, DL.z9, DL.z10, DL.z11, DL.z12, DL.z13, DL.z14, DL.z15, DL.z16, DL.z17, DL.z18, DL.z19, DL.z20, DL.z21, DL.z22, DL.z23, DL.z24, DL.z25, DL.z26, DL.z27, DL.z28, DL.z29, DL.ic1, DL.ic2, dPar3, dIs2, dDic0, dCallD, dFld, dProp, dNew, dTkSet, dTkInt, dIter, DL.w0, DL.w1, DL.w2, DL.w3, DL.w4, DL.w5, fIsB, D.isRaw, D.isBl] <;> exact q
theorem sp__law_al_is_stream {a b : Int} {v : D} (h : okv v = true) (q : Q (.fr (.bl (strB a b v)))) : phi__law_al_is_stream [.fr (.int a), .fr (.int b), .fr v] Q E := by
  cases v with
  | tup ds =>
    simp [phi, startA, dSeq, dNext, dAsg, dAsgG, dIf, dRet, dRetV, dRetN, dDrop, dRaise, dRaiseI, dFz, dFzS, dVar, dC, dBin, dUn, dTest, isB, dAndT, dOrT, dNotT, dAndV, dOrV, dNotV, dIfE, dTruth, dCons, dNil, dTupE, dLstE, dCB, dIs, dCall, gNm, dPart, dNoPart, DL.f0, DL.fc, DL.g1, DL.g2, DL.g3, DL.s1, DL.s2, DL.zc, dPar, dChain, DL.e1, DL.e2, DL.e3, DL.e4, DL.e5, DL.e6, DL.e7, DL.e8, DL.e9, DL.e10, DL.e11, DL.e12, DL.e13, DL.e14, DL.a1, DL.a2, DL.a3, DL.a4, DL.a5, DL.a6, DL.a7, DL.a8, DL.a9, DL.a10, DL.a11, DL.t1, DL.t2, DL.t3, DL.x1, DL.x2, DL.x3, DL.x4, DL.x5, DL.x6, DL.x7, DL.x8, DL.x9, DL.x10, DL.x11, DL.x12, DL.y1, DL.y2, DL.eq_ii, DL.ne_ii, DL.k1, DL.k2, DL.k3, DL.k4, DL.k5, DL.k6, DL.z0, DL.z1, DL.z2, DL.z3, DL.z4, DL.z5, DL.z6, DL.z7, DL.z8, DL.z9, DL.z10, DL.z11, DL.z12, DL.z13, DL.z14, DL.z15, DL.z16, DL.z17, DL.z18, DL.z19, DL.z20, DL.z21, DL.z22, DL.z23, DL.z24, DL.z25, DL.z26, DL.z27, DL.z28, DL.z29, DL.ic1, DL.ic2, dPar3, dIs2, dDic0, dCallD, dFld, dProp, dNew, dTkSet, dTkInt, dIter, DL.w0, DL.w1, DL.w2, DL.w3, DL.w4, DL.w5, phi__law_al_is_stream, t__law_al_is_stream]
    by_cases hl : (200 : Int) < ds.length
    · simp [hl]
      simpa [strB, show ¬ ds.length ≤ 200 by omega] using q
    · simp [phi, startA, dSeq, dNext, dAsg, dAsgG, dIf, dRet, dRetV, dRetN, dDrop, dRaise, dRaiseI, dFz, dFzS, dVar, dC, dBin, dUn, dTest, isB, dAndT, dOrT, dNotT, dAndV, dOrV, dNotV, dIfE, dTruth, dCons, dNil, dTupE, dLstE, dCB, dIs, dCall, gNm, dPart, dNoPart, DL.f0, DL.fc, DL.g1, DL.g2, DL.g3, DL.s1, DL.s2, DL.zc, dPar, dChain, DL.e1, DL.e2, DL.e3, DL.e4, DL.e5, DL.e6, DL.e7, DL.e8, DL.e9, DL.e10, DL.e11, DL.e12, DL.e13, DL.e14, DL.a1, DL.a2, DL.a3, DL.a4, DL.a5, DL.a6, DL.a7, DL.a8, DL.a9, DL.a10, DL.a11, DL.t1, DL.t2, DL.t3, DL.x1, DL.x2, DL.x3, DL.x4, DL.x5, DL.x6, DL.x7, DL.x8, DL.x9, DL.x10, DL.x11, DL.x12, DL.y1, DL.y2, DL.eq_ii, DL.ne_ii, DL.k1, DL.k2, DL.k3, DL.k4, DL.k5, DL.k6, DL.z0, DL.z1, DL.z2, DL.z3, DL.z4, DL.z5, DL.z6, DL.z7, DL.z8, DL.z9, DL.z10, DL.z11, DL.z12, DL.z13, DL.z14, DL.z15, DL.z16, DL.z17, DL.z18, DL.z19, DL.z20, DL.z21, DL.z22, DL.z23, DL.z24, DL.z25, DL.z26, DL.z27, DL.z28, DL.z29, DL.ic1, DL.ic2, dPar3, dIs2, dDic0, dCallD, dFld, dProp, dNew, dTkSet, dTkInt, dIter, DL.w0, DL.w1, DL.w2, DL.w3, DL.w4, DL.w5, hl, dLc, wipeA]
      refine lc_of (fun d => (if btw d a b = true then none else some (1 : Int)).map D.int) ds [] (fun x hx P k0 hp => ?_) (lsz (by simp; omega)) ?_
      · have hx' : x.pl = true := List.all_eq_true.mp h x hx
        simp [phi, startA, dSeq, dNext, dAsg, dAsgG, dIf, dRet, dRetV, dRetN, dDrop, dRaise, dRaiseI, dFz, dFzS, dVar, dC, dBin, dUn, dTest, isB, dAndT, dOrT, dNotT, dAndV, dOrV, dNotV, dIfE, dTruth, dCons, dNil, dTupE, dLstE, dCB, dIs, dCall, gNm, dPart, dNoPart, DL.f0, DL.fc, DL.g1, DL.g2, DL.g3, DL.s1, DL.s2, DL.zc, dPar, dChain, DL.e1, DL.e2, DL.e3, DL.e4, DL.e5, DL.e6, DL.e7, DL.e8, DL.e9, DL.e10, DL.e11, DL.e12, DL.e13, DL.e14, DL.a1, DL.a2, DL.a3, DL.a4, DL.a5, DL.a6, DL.a7, DL.a8, DL.a9, DL.a10, DL.a11, DL.t1, DL.t2, DL.t3, DL.x1, DL.x2, DL.x3, DL.x4, DL.x5, DL.x6, DL.x7, DL.x8, DL.x9, DL.x10, DL.x11, DL.x12, DL.y1, DL.y2, DL.eq_ii, DL.ne_ii, DL.k1, DL.k2, DL.k3, DL.k4, DL.k5, DL.k6, DL.z0, DL.z1, DL.z2, DL.z3, DL.z4, DL.z5, DL.z6, DL.z7, DL.z8, DL.z9, DL.z10, DL.z11, DL.z12, DL.z13, DL.z14, DL.z15, DL.z16, DL.z17, DL.z18, DL.z19, DL.z20, DL.z21, DL.z22, DL.z23, DL.z24, DL.z25, DL.z26, DL.z27, DL.z28, DL.z29, DL.ic1, DL.ic2, dPar3, dIs2, dDic0, dCallD, dFld, dProp, dNew, dTkSet, dTkInt, dIter, DL.w0, DL.w1, DL.w2, DL.w3, DL.w4, DL.w5]
        refine (sp__law_is_number hx').mpr ?_
        cases x with
        | int i =>
          simp [phi, startA, dSeq, dNext, dAsg, dAsgG, dIf, dRet, dRetV, dRetN, dDrop, dRaise, dRaiseI, dFz, dFzS, dVar, dC, dBin, dUn, dTest, isB, dAndT, dOrT, dNotT, dAndV, dOrV, dNotV, dIfE, dTruth, dCons, dNil, dTupE, dLstE, dCB, dIs, dCall, gNm, dPart, dNoPart, DL.f0, DL.fc, DL.g1, DL.g2, DL.g3, DL.s1, DL.s2, DL.zc, dPar, dChain, DL.e1, DL.e2, DL.e3, DL.e4, DL.e5, DL.e6, DL.e7, DL.e8, DL.e9, DL.e10, DL.e11, DL.e12, DL.e13, DL.e14, DL.a1, DL.a2, DL.a3, DL.a4, DL.a5, DL.a6, DL.a7, DL.a8, DL.a9, DL.a10, DL.a11, DL.t1, DL.t2, DL.t3, DL.x1, DL.x2, DL.x3, DL.x4, DL.x5, DL.x6, DL.x7, DL.x8, DL.x9, DL.x10, DL.x11, DL.x12, DL.y1, DL.y2, DL.eq_ii, DL.ne_ii, DL.k1, DL.k2, DL.k3, DL.k4, DL.k5, DL.k6, DL.z0, DL.z1, DL.z2, DL.z3, DL.z4, DL.z5, DL.z6, DL.z7, DL.z8, DL.z9, DL.z10, DL.z11, DL.z12, DL.z13, DL.z14, DL.z15, DL.z16, DL.z17, DL.z18, DL.z19, DL.z20, DL.z21, DL.z22, DL.z23, DL.z24, DL.z25, DL.z26, DL.z27, DL.z28, DL.z29, DL.ic1, DL.ic2, dPar3, dIs2, dDic0, dCallD, dFld, dProp, dNew, dTkSet, dTkInt, dIter, DL.w0, DL.w1, DL.w2, DL.w3, DL.w4, DL.w5, D.num]
          simp only [btw] at hp
          by_cases h1 : a ≤ i
          · by_cases h2 : i ≤ b <;> simpa [h1, h2] using hp
          · simpa [h1] using hp
        | _ => first | (simpa [phi, startA, dSeq, dNext, dAsg, dAsgG, dIf, dRet, dRetV, dRetN, dDrop, dRaise, dRaiseI, dFz, dFzS, dVar, dC, dBin, dUn, dTest, isB, dAndT, dOrT, dNotT, dAndV, dOrV, dNotV, dIfE, dTruth, dCons, dNil, dTupE, dLstE, dCB, dIs, dCall, gNm, dPart, dNoPart, DL.f0, DL.fc, DL.g1, DL.g2, DL.g3, DL.s1, DL.s2, DL.zc, dPar, dChain, DL.e1, DL.e2, DL.e3, DL.e4, DL.e5, DL.e6, DL.e7, DL.e8, DL.e9, DL.e10, DL.e11, DL.e12, DL.e13, DL.e14, DL.a1, DL.a2, DL.a3, DL.a4, DL.a5, DL.a6, DL.a7, DL.a8, DL.a9, DL.a10, DL.a11, DL.t1, DL.t2, DL.t3, DL.x1, DL.x2, DL.x3, DL.x4, DL.x5, DL.x6, DL.x7, DL.x8, DL.x9, DL.x10, DL.x11, DL.x12, DL.y1, DL.y2, DL.eq_ii, DL.ne_ii, DL.k1, DL.k2, DL.k3, DL.k4, DL.k5, DL.k6, DL.z0, DL.z1, DL.z2, DL.z3, DL.z4, DL.z5, DL.z6, DL.z7, DL.z8, DL.z9, DL.z10, DL.z11, DL.z12, DL.z13, DL.z14, DL.z15, DL.z16, DL.z17, DL.z18, DL.z19, DL.z20, DL.z21, DL.z22, DL.z23, DL.z24, DL.z25, DL.z26, DL.z27, DL.z28, DL.z29, DL.ic1, DL.ic2, dPar3, dIs2, dDic0, dCallD, dFld, dProp, dNew, dTkSet, dTkInt, dIter, DL.w0, DL.w1, DL.w2, DL.w3, DL.w4, DL.w5, D.num, btw] using hp) | cases hx'
      · rw [List.nil_append, ← List.map_filterMap]
        refine eq_nil ?_
        simp [phi, startA, dSeq, dNext, dAsg, dAsgG, dIf, dRet, dRetV, dRetN, dDrop, dRaise, dRaiseI, dFz, dFzS, dVar, dC, dBin, dUn, dTest, isB, dAndT, dOrT, dNotT, dAndV, dOrV, dNotV, dIfE, dTruth, dCons, dNil, dTupE, dLstE, dCB, dIs, dCall, gNm, dPart, dNoPart, DL.f0, DL.fc, DL.g1, DL.g2, DL.g3, DL.s1, DL.s2, DL.zc, dPar, dChain, DL.e1, DL.e2, DL.e3, DL.e4, DL.e5, DL.e6, DL.e7, DL.e8, DL.e9, DL.e10, DL.e11, DL.e12, DL.e13, DL.e14, DL.a1, DL.a2, DL.a3, DL.a4, DL.a5, DL.a6, DL.a7, DL.a8, DL.a9, DL.a10, DL.a11, DL.t1, DL.t2, DL.t3, DL.x1, DL.x2, DL.x3, DL.x4, DL.x5, DL.x6, DL.x7, DL.x8, DL.x9, DL.x10, DL.x11, DL.x12, DL.y1, DL.y2, DL.eq_ii, DL.ne_ii, DL.k1, DL.k2, DL.k3, DL.k4, DL.k5, DL.k6, DL.z0, DL.z1, DL.z2, DL.z3, DL.z4, DL.z5, DL.z6, DL.z7, DL.z8, DL.z9, DL.z10, DL.z11, DL.z12, DL.z13, DL.z14, DL.z15, DL.z16, DL.z17, DL.z18, DL.z19, DL.z20, DL.z21, DL.z22, DL.z23, DL.z24, DL.z25, DL.z26, DL.z27, DL.z28, DL.z29, DL.ic1, DL.ic2, dPar3, dIs2, dDic0, dCallD, dFld, dProp, dNew, dTkSet, dTkInt, dIter, DL.w0, DL.w1, DL.w2, DL.w3, DL.w4, DL.w5]
        have e : (ds.filterMap fun d => if btw d a b = true then none else some (1 : Int)).isEmpty = ds.all fun d => btw d a b := by
          clear h q hl
          induction ds with
          | nil => rfl
          | cons x ds ih =>
            rw [List.filterMap_cons, List.all_cons]
            cases btw x a b <;> simp [ih]
        rw [e]
        simpa [strB, show ds.length ≤ 200 by omega] using q
  | _ => first | (simpa [phi, startA, dSeq, dNext, dAsg, dAsgG, dIf, dRet, dRetV, dRetN, dDrop, dRaise, dRaiseI, dFz, dFzS, dVar, dC, dBin, dUn, dTest, isB, dAndT, dOrT, dNotT, dAndV, dOrV, dNotV, dIfE, dTruth, dCons, dNil, dTupE, dLstE, dCB, dIs, dCall, gNm, dPart, dNoPart, DL.f0, DL.fc, DL.g1, DL.g2, DL.g3, DL.s1, DL.s2, DL.zc, dPar, dChain, DL.e1, DL.e2, DL.e3, DL.e4, DL.e5, DL.e6, DL.e7, DL.e8, DL.e9, DL.e10, DL.e11, DL.e12, DL.e13, DL.e14, DL.a1, DL.a2, DL.a3, DL.a4, DL.a5, DL.a6, DL.a7, DL.a8, DL.a9, DL.a10, DL.a11, DL.t1, DL.t2, DL.t3, DL.x1, DL.x2, DL.x3, DL.x4, DL.x5, DL.x6, DL.x7, DL.x8, DL.x9, DL.x10, DL.x11, DL.x12, DL.y1, DL.y2, DL.eq_ii, DL.ne_ii, DL.k1, DL.k2, DL.k3, DL.k4, DL.k5, DL.k6, DL.z0, DL.z1, DL.z2, DL.z3, DL.z4, DL.z5, DL.z6, DL.z7, DL.z8, DL.z9, DL.z10, DL.z11, DL.z12, DL.z13, DL.z14, DL.z15, DL.z16, DL.z17, DL.z18, DL.z19, DL.z20, DL.z21, DL.z22, DL.z23, DL.z24, DL.z25, DL.z26, DL.z27, DL.z28, DL.z29, DL.ic1, DL.ic2, dPar3, dIs2, dDic0, dCallD, dFld, dProp, dNew, dTkSet, dTkInt, dIter, DL.w0, DL.w1, DL.w2, DL.w3, DL.w4, DL.w5, phi__law_al_is_stream, t__law_al_is_stream, strB] using q) | cases h
theorem sp__law_al_values (q : ∀ a b : Int, -100 ≤ a → a ≤ b → b ≤ 100 → Q (.fr (.tup [.int a, .int b]))) : phi__law_al_values [.tk] Q E := by
  simp [phi, startA, dSeq, dNext, dAsg, dAsgG, dIf, dRet, dRetV, dRetN, dDrop, dRaise, dRaiseI, dFz, dFzS, dVar, dC, dBin, dUn, dTest, isB, dAndT, dOrT, dNotT, dAndV, dOrV, dNotV, dIfE, dTruth, dCons, dNil, dTupE, dLstE, dCB, dIs, dCall, gNm, dPart, dNoPart, DL.f0, DL.fc, DL.g1, DL.g2, DL.g3, DL.s1, DL.s2, DL.zc, dPar, dChain, DL.e1, DL.e2, DL.e3, DL.e4, DL.e5, DL.e6, DL.e7, DL.e8, DL.e9, DL.e10, DL.e11, DL.e12, DL.e13, DL.e14, DL.a1, DL.a2, DL.a3, DL.a4, DL.a5, DL.a6, DL.a7, DL.a8, DL.a9, DL.a10, DL.a11, DL.t1, DL.t2, DL.t3, DL.x1, DL.x2, DL.x3, DL.x4, DL.x5, DL.x6, DL.x7, DL.x8, DL.x9, DL.x10, DL.x11, DL.x12, DL.y1, DL.y2, DL.eq_ii, DL.ne_ii, DL.k1, DL.k2, DL.k3, DL.k4, DL.k5, DL.k6, DL.z0, DL.z1, DL.z2, DL.z3, DL.z4, DL.z5, DL.z6, DL.z7, DL.z8, DL.z9, DL.z10, DL.z11, DL.z12, DL.z13, DL.z14, DL.z15, DL.z16, DL.z17, DL.z18, DL.z19, DL.z20, DL.z21, DL.z22, DL.z23, DL.z24, DL.z25, DL.z26, DL.z27, DL.z28, DL.z29, DL.ic1, DL.ic2, dPar3, dIs2, dDic0, dCallD, dFld, dProp, dNew, dTkSet, dTkInt, dIter, DL.w0, DL.w1, DL.w2, DL.w3, DL.w4, DL.w5, phi__law_al_values, t__law_al_values]
  refine sp__law_draw (by omega) (by omega) fun m m0 m1 => ?_
  simp [phi, startA, dSeq, dNext, dAsg, dAsgG, dIf, dRet, dRetV, dRetN, dDrop, dRaise, dRaiseI, dFz, dFzS, dVar, dC, dBin, dUn, dTest, isB, dAndT, dOrT, dNotT, dAndV, dOrV, dNotV, dIfE, dTruth, dCons, dNil, dTupE, dLstE, dCB, dIs, dCall, gNm, dPart, dNoPart, DL.f0, DL.fc, DL.g1, DL.g2, DL.g3, DL.s1, DL.s2, DL.zc, dPar, dChain, DL.e1, DL.e2, DL.e3, DL.e4, DL.e5, DL.e6, DL.e7, DL.e8, DL.e9, DL.e10, DL.e11, DL.e12, DL.e13, DL.e14, DL.a1, DL.a2, DL.a3, DL.a4, DL.a5, DL.a6, DL.a7, DL.a8, DL.a9, DL.a10, DL.a11, DL.t1, DL.t2, DL.t3, DL.x1, DL.x2, DL.x3, DL.x4, DL.x5, DL.x6, DL.x7, DL.x8, DL.x9, DL.x10, DL.x11, DL.x12, DL.y1, DL.y2, DL.eq_ii, DL.ne_ii, DL.k1, DL.k2, DL.k3, DL.k4, DL.k5, DL.k6, DL.z0, DL.z1, DL.z2, DL.z3, DL.z4, DL.z5, DL.z6, DL.z7, DL.z8, DL.z9, DL.z10, DL.z11, DL.z12, DL.z13, DL.z14, DL.z15, DL.z16, DL.z17, DL.z18, DL.z19, DL.z20, DL.z21, DL.z22, DL.z23, DL.z24, DL.z25, DL.z26, DL.z27, DL.z28, DL.z29, DL.ic1, DL.ic2, dPar3, dIs2, dDic0, dCallD, dFld, dProp, dNew, dTkSet, dTkInt, dIter, DL.w0, DL.w1, DL.w2, DL.w3, DL.w4, DL.w5]
  refine ⟨lsz (by omega), sp__law_pick (by simp) (by simp) fun d hd => ?_⟩
  have ha : ∃ a : Int, -100 ≤ a ∧ a ≤ 100 ∧ d = .int a := by
    simp only [List.mem_cons, List.not_mem_nil, or_false] at hd
    rcases hd with rfl | rfl | rfl | rfl | rfl <;> exact ⟨_, by omega, by omega, rfl⟩
  obtain ⟨a, a0, a1, rfl⟩ := ha
  simp [phi, startA, dSeq, dNext, dAsg, dAsgG, dIf, dRet, dRetV, dRetN, dDrop, dRaise, dRaiseI, dFz, dFzS, dVar, dC, dBin, dUn, dTest, isB, dAndT, dOrT, dNotT, dAndV, dOrV, dNotV, dIfE, dTruth, dCons, dNil, dTupE, dLstE, dCB, dIs, dCall, gNm, dPart, dNoPart, DL.f0, DL.fc, DL.g1, DL.g2, DL.g3, DL.s1, DL.s2, DL.zc, dPar, dChain, DL.e1, DL.e2, DL.e3, DL.e4, DL.e5, DL.e6, DL.e7, DL.e8, DL.e9, DL.e10, DL.e11, DL.e12, DL.e13, DL.e14, DL.a1, DL.a2, DL.a3, DL.a4, DL.a5, DL.a6, DL.a7, DL.a8, DL.a9, DL.a10, DL.a11, DL.t1, DL.t2, DL.t3, DL.x1, DL.x2, DL.x3, DL.x4, DL.x5, DL.x6, DL.x7, DL.x8, DL.x9, DL.x10, DL.x11, DL.x12, DL.y1, DL.y2, DL.eq_ii, DL.ne_ii, DL.k1, DL.k2, DL.k3, DL.k4, DL.k5, DL.k6, DL.z0, DL.z1, DL.z2, DL.z3, DL.z4, DL.z5, DL.z6, DL.z7, DL.z8, DL.z9, DL.z10, DL.z11, DL.z12, DL.z13, DL.z14, DL.z15, DL.z16, DL.z17, DL.z18, DL.z19, DL.z20, DL.z21, DL.z22, DL.z23, DL.z24, DL.z25, DL.z26, DL.z27, DL.z28, DL.z29, DL.ic1, DL.ic2, dPar3, dIs2, dDic0, dCallD, dFld, dProp, dNew, dTkSet, dTkInt, dIter, DL.w0, DL.w1, DL.w2, DL.w3, DL.w4, DL.w5]
  refine ⟨lsz (by omega), sp__law_pick (by simp) (by simp) fun d hd => ?_⟩
  have hb : ∃ c : Int, 0 ≤ c ∧ c ≤ 200 ∧ d = .int c := by
    simp only [List.mem_cons, List.not_mem_nil, or_false] at hd
    rcases hd with rfl | rfl | rfl | rfl | rfl | rfl <;> exact ⟨_, by omega, by omega, rfl⟩
  obtain ⟨c, c0, c1, rfl⟩ := hb
  simp [phi, startA, dSeq, dNext, dAsg, dAsgG, dIf, dRet, dRetV, dRetN, dDrop, dRaise, dRaiseI, dFz, dFzS, dVar, dC, dBin, dUn, dTest, isB, dAndT, dOrT, dNotT, dAndV, dOrV, dNotV, dIfE, dTruth, dCons, dNil, dTupE, dLstE, dCB, dIs, dCall, gNm, dPart, dNoPart, DL.f0, DL.fc, DL.g1, DL.g2, DL.g3, DL.s1, DL.s2, DL.zc, dPar, dChain, DL.e1, DL.e2, DL.e3, DL.e4, DL.e5, DL.e6, DL.e7, DL.e8, DL.e9, DL.e10, DL.e11, DL.e12, DL.e13, DL.e14, DL.a1, DL.a2, DL.a3, DL.a4, DL.a5, DL.a6, DL.a7, DL.a8, DL.a9, DL.a10, DL.a11, DL.t1, DL.t2, DL.t3, DL.x1, DL.x2, DL.x3, DL.x4, DL.x5, DL.x6, DL.x7, DL.x8, DL.x9, DL.x10, DL.x11, DL.x12, DL.y1, DL.y2, DL.eq_ii, DL.ne_ii, DL.k1, DL.k2, DL.k3, DL.k4, DL.k5, DL.k6, DL.z0, DL.z1, DL.z2, DL.z3, DL.z4, DL.z5, DL.z6, DL.z7, DL.z8, DL.z9, DL.z10, DL.z11, DL.z12, DL.z13, DL.z14, DL.z15, DL.z16, DL.z17, DL.z18, DL.z19, DL.z20, DL.z21, DL.z22, DL.z23, DL.z24, DL.z25, DL.z26, DL.z27, DL.z28, DL.z29, DL.ic1, DL.ic2, dPar3, dIs2, dDic0, dCallD, dFld, dProp, dNew, dTkSet, dTkInt, dIter, DL.w0, DL.w1, DL.w2, DL.w3, DL.w4, DL.w5]
  refine ⟨lsz (by omega), q _ _ a0 ?_ ?_⟩ <;> split <;> omega
theorem win_in {w a b : Int} (w0 : 0 ≤ w) (w1 : w < 8) (h1 : -100 ≤ a) (h2 : a ≤ b) (h3 : b ≤ 100) : -800 ≤ (1 + w) * a ∧ 0 ≤ (1 + w) * (b - a) ∧ (1 + w) * a + (1 + w) * (b - a) ≤ 800 := by
  have h : w = 0 ∨ w = 1 ∨ w = 2 ∨ w = 3 ∨ w = 4 ∨ w = 5 ∨ w = 6 ∨ w = 7 := by omega
  rcases h with rfl | rfl | rfl | rfl | rfl | rfl | rfl | rfl <;> omega
theorem eq_over : fEq (.str (Str.ofString "over")) (.str (Str.ofString "over")) Q = Q (.fr (.bl true)) := by
  apply propext
  have e : PyData.eqv (D.str (Str.ofString "over")).py (D.str (Str.ofString "over")).py = true := by decide +kernel
  exact ⟨fun ⟨_, _, q⟩ => by rw [e] at q; exact q, fun q => ⟨ok_str (by decide +kernel), ok_str (by decide +kernel), by rw [e]; exact q⟩⟩
theorem eq_under : fEq (.str (Str.ofString "under")) (.str (Str.ofString "over")) Q = Q (.fr (.bl false)) := by
  apply propext
  have e : PyData.eqv (D.str (Str.ofString "under")).py (D.str (Str.ofString "over")).py = false := by decide +kernel
  exact ⟨fun ⟨_, _, q⟩ => by rw [e] at q; exact q, fun q => ⟨ok_str (by decide +kernel), ok_str (by decide +kernel), by rw [e]; exact q⟩⟩
theorem sp__law_al_alarm {a b : Int} (h1 : -100 ≤ a) (h2 : a ≤ b) (h3 : b ≤ 100) (q : ∀ d, AlOk d → Q (.fr d)) : phi__law_al_alarm [.tk, .fr (.int a), .fr (.int b), .fr (.int 8)] Q E := by
  simp [phi, startA, dSeq, dNext, dAsg, dAsgG, dIf, dRet, dRetV, dRetN, dDrop, dRaise, dRaiseI, dFz, dFzS, dVar, dC, dBin, dUn, dTest, isB, dAndT, dOrT, dNotT, dAndV, dOrV, dNotV, dIfE, dTruth, dCons, dNil, dTupE, dLstE, dCB, dIs, dCall, gNm, dPart, dNoPart, DL.f0, DL.fc, DL.g1, DL.g2, DL.g3, DL.s1, DL.s2, DL.zc, dPar, dChain, DL.e1, DL.e2, DL.e3, DL.e4, DL.e5, DL.e6, DL.e7, DL.e8, DL.e9, DL.e10, DL.e11, DL.e12, DL.e13, DL.e14, DL.a1, DL.a2, DL.a3, DL.a4, DL.a5, DL.a6, DL.a7, DL.a8, DL.a9, DL.a10, DL.a11, DL.t1, DL.t2, DL.t3, DL.x1, DL.x2, DL.x3, DL.x4, DL.x5, DL.x6, DL.x7, DL.x8, DL.x9, DL.x10, DL.x11, DL.x12, DL.y1, DL.y2, DL.eq_ii, DL.ne_ii, DL.k1, DL.k2, DL.k3, DL.k4, DL.k5, DL.k6, DL.z0, DL.z1, DL.z2, DL.z3, DL.z4, DL.z5, DL.z6, DL.z7, DL.z8, DL.z9, DL.z10, DL.z11, DL.z12, DL.z13, DL.z14, DL.z15, DL.z16, DL.z17, DL.z18, DL.z19, DL.z20, DL.z21, DL.z22, DL.z23, DL.z24, DL.z25, DL.z26, DL.z27, DL.z28, DL.z29, DL.ic1, DL.ic2, dPar3, dIs2, dDic0, dCallD, dFld, dProp, dNew, dTkSet, dTkInt, dIter, DL.w0, DL.w1, DL.w2, DL.w3, DL.w4, DL.w5, phi__law_al_alarm, t__law_al_alarm]
  refine ⟨lsz (by omega), sp__law_pick (by simp) (by simp) fun k hk => ?_⟩
  simp [phi, startA, dSeq, dNext, dAsg, dAsgG, dIf, dRet, dRetV, dRetN, dDrop, dRaise, dRaiseI, dFz, dFzS, dVar, dC, dBin, dUn, dTest, isB, dAndT, dOrT, dNotT, dAndV, dOrV, dNotV, dIfE, dTruth, dCons, dNil, dTupE, dLstE, dCB, dIs, dCall, gNm, dPart, dNoPart, DL.f0, DL.fc, DL.g1, DL.g2, DL.g3, DL.s1, DL.s2, DL.zc, dPar, dChain, DL.e1, DL.e2, DL.e3, DL.e4, DL.e5, DL.e6, DL.e7, DL.e8, DL.e9, DL.e10, DL.e11, DL.e12, DL.e13, DL.e14, DL.a1, DL.a2, DL.a3, DL.a4, DL.a5, DL.a6, DL.a7, DL.a8, DL.a9, DL.a10, DL.a11, DL.t1, DL.t2, DL.t3, DL.x1, DL.x2, DL.x3, DL.x4, DL.x5, DL.x6, DL.x7, DL.x8, DL.x9, DL.x10, DL.x11, DL.x12, DL.y1, DL.y2, DL.eq_ii, DL.ne_ii, DL.k1, DL.k2, DL.k3, DL.k4, DL.k5, DL.k6, DL.z0, DL.z1, DL.z2, DL.z3, DL.z4, DL.z5, DL.z6, DL.z7, DL.z8, DL.z9, DL.z10, DL.z11, DL.z12, DL.z13, DL.z14, DL.z15, DL.z16, DL.z17, DL.z18, DL.z19, DL.z20, DL.z21, DL.z22, DL.z23, DL.z24, DL.z25, DL.z26, DL.z27, DL.z28, DL.z29, DL.ic1, DL.ic2, dPar3, dIs2, dDic0, dCallD, dFld, dProp, dNew, dTkSet, dTkInt, dIter, DL.w0, DL.w1, DL.w2, DL.w3, DL.w4, DL.w5]
  refine sp__law_draw (by omega) (by omega) fun w w0 w1 => ?_
  simp [phi, startA, dSeq, dNext, dAsg, dAsgG, dIf, dRet, dRetV, dRetN, dDrop, dRaise, dRaiseI, dFz, dFzS, dVar, dC, dBin, dUn, dTest, isB, dAndT, dOrT, dNotT, dAndV, dOrV, dNotV, dIfE, dTruth, dCons, dNil, dTupE, dLstE, dCB, dIs, dCall, gNm, dPart, dNoPart, DL.f0, DL.fc, DL.g1, DL.g2, DL.g3, DL.s1, DL.s2, DL.zc, dPar, dChain, DL.e1, DL.e2, DL.e3, DL.e4, DL.e5, DL.e6, DL.e7, DL.e8, DL.e9, DL.e10, DL.e11, DL.e12, DL.e13, DL.e14, DL.a1, DL.a2, DL.a3, DL.a4, DL.a5, DL.a6, DL.a7, DL.a8, DL.a9, DL.a10, DL.a11, DL.t1, DL.t2, DL.t3, DL.x1, DL.x2, DL.x3, DL.x4, DL.x5, DL.x6, DL.x7, DL.x8, DL.x9, DL.x10, DL.x11, DL.x12, DL.y1, DL.y2, DL.eq_ii, DL.ne_ii, DL.k1, DL.k2, DL.k3, DL.k4, DL.k5, DL.k6, DL.z0, DL.z1, DL.z2, DL.z3, DL.z4, DL.z5, DL.z6, DL.z7, DL.z8, DL.z9, DL.z10, DL.z11, DL.z12, DL.z13, DL.z14, DL.z15, DL.z16, DL.z17, DL.z18, DL.z19, DL.z20, DL.z21, DL.z22, DL.z23, DL.z24, DL.z25, DL.z26, DL.z27, DL.z28, DL.z29, DL.ic1, DL.ic2, dPar3, dIs2, dDic0, dCallD, dFld, dProp, dNew, dTkSet, dTkInt, dIter, DL.w0, DL.w1, DL.w2, DL.w3, DL.w4, DL.w5]
  obtain ⟨f1, f2, f3⟩ := win_in w0 w1 h1 h2 h3
  refine ⟨mul_l (by omega) (by omega), mul_l (by omega) (by omega), ?_⟩
  generalize (1 + w) * a = X at *
  generalize (1 + w) * (b - a) = Y at *
  refine sp__law_draw (by omega) (by omega) fun m m0 m1 => ?_
  simp [phi, startA, dSeq, dNext, dAsg, dAsgG, dIf, dRet, dRetV, dRetN, dDrop, dRaise, dRaiseI, dFz, dFzS, dVar, dC, dBin, dUn, dTest, isB, dAndT, dOrT, dNotT, dAndV, dOrV, dNotV, dIfE, dTruth, dCons, dNil, dTupE, dLstE, dCB, dIs, dCall, gNm, dPart, dNoPart, DL.f0, DL.fc, DL.g1, DL.g2, DL.g3, DL.s1, DL.s2, DL.zc, dPar, dChain, DL.e1, DL.e2, DL.e3, DL.e4, DL.e5, DL.e6, DL.e7, DL.e8, DL.e9, DL.e10, DL.e11, DL.e12, DL.e13, DL.e14, DL.a1, DL.a2, DL.a3, DL.a4, DL.a5, DL.a6, DL.a7, DL.a8, DL.a9, DL.a10, DL.a11, DL.t1, DL.t2, DL.t3, DL.x1, DL.x2, DL.x3, DL.x4, DL.x5, DL.x6, DL.x7, DL.x8, DL.x9, DL.x10, DL.x11, DL.x12, DL.y1, DL.y2, DL.eq_ii, DL.ne_ii, DL.k1, DL.k2, DL.k3, DL.k4, DL.k5, DL.k6, DL.z0, DL.z1, DL.z2, DL.z3, DL.z4, DL.z5, DL.z6, DL.z7, DL.z8, DL.z9, DL.z10, DL.z11, DL.z12, DL.z13, DL.z14, DL.z15, DL.z16, DL.z17, DL.z18, DL.z19, DL.z20, DL.z21, DL.z22, DL.z23, DL.z24, DL.z25, DL.z26, DL.z27, DL.z28, DL.z29, DL.ic1, DL.ic2, dPar3, dIs2, dDic0, dCallD, dFld, dProp, dNew, dTkSet, dTkInt, dIter, DL.w0, DL.w1, DL.w2, DL.w3, DL.w4, DL.w5]
  refine ⟨lsz (by omega), sp__law_pick (by simp) (by simp) fun d hd => ?_⟩
  have hc : ∃ c : Int, 1 ≤ c ∧ c ≤ 9 ∧ d = .int c := by
    simp only [List.mem_cons, List.not_mem_nil, or_false] at hd
    rcases hd with rfl | rfl | rfl <;> exact ⟨_, by omega, by omega, rfl⟩
  obtain ⟨c, c0, c1, rfl⟩ := hc
  simp [phi, startA, dSeq, dNext, dAsg, dAsgG, dIf, dRet, dRetV, dRetN, dDrop, dRaise, dRaiseI, dFz, dFzS, dVar, dC, dBin, dUn, dTest, isB, dAndT, dOrT, dNotT, dAndV, dOrV, dNotV, dIfE, dTruth, dCons, dNil, dTupE, dLstE, dCB, dIs, dCall, gNm, dPart, dNoPart, DL.f0, DL.fc, DL.g1, DL.g2, DL.g3, DL.s1, DL.s2, DL.zc, dPar, dChain, DL.e1, DL.e2, DL.e3, DL.e4, DL.e5, DL.e6, DL.e7, DL.e8, DL.e9, DL.e10, DL.e11, DL.e12, DL.e13, DL.e14, DL.a1, DL.a2, DL.a3, DL.a4, DL.a5, DL.a6, DL.a7, DL.a8, DL.a9, DL.a10, DL.a11, DL.t1, DL.t2, DL.t3, DL.x1, DL.x2, DL.x3, DL.x4, DL.x5, DL.x6, DL.x7, DL.x8, DL.x9, DL.x10, DL.x11, DL.x12, DL.y1, DL.y2, DL.eq_ii, DL.ne_ii, DL.k1, DL.k2, DL.k3, DL.k4, DL.k5, DL.k6, DL.z0, DL.z1, DL.z2, DL.z3, DL.z4, DL.z5, DL.z6, DL.z7, DL.z8, DL.z9, DL.z10, DL.z11, DL.z12, DL.z13, DL.z14, DL.z15, DL.z16, DL.z17, DL.z18, DL.z19, DL.z20, DL.z21, DL.z22, DL.z23, DL.z24, DL.z25, DL.z26, DL.z27, DL.z28, DL.z29, DL.ic1, DL.ic2, dPar3, dIs2, dDic0, dCallD, dFld, dProp, dNew, dTkSet, dTkInt, dIter, DL.w0, DL.w1, DL.w2, DL.w3, DL.w4, DL.w5]
  refine sp__law_draw (by omega) (by omega) fun p p0 p1 => ?_
  simp [phi, startA, dSeq, dNext, dAsg, dAsgG, dIf, dRet, dRetV, dRetN, dDrop, dRaise, dRaiseI, dFz, dFzS, dVar, dC, dBin, dUn, dTest, isB, dAndT, dOrT, dNotT, dAndV, dOrV, dNotV, dIfE, dTruth, dCons, dNil, dTupE, dLstE, dCB, dIs, dCall, gNm, dPart, dNoPart, DL.f0, DL.fc, DL.g1, DL.g2, DL.g3, DL.s1, DL.s2, DL.zc, dPar, dChain, DL.e1, DL.e2, DL.e3, DL.e4, DL.e5, DL.e6, DL.e7, DL.e8, DL.e9, DL.e10, DL.e11, DL.e12, DL.e13, DL.e14, DL.a1, DL.a2, DL.a3, DL.a4, DL.a5, DL.a6, DL.a7, DL.a8, DL.a9, DL.a10, DL.a11, DL.t1, DL.t2, DL.t3, DL.x1, DL.x2, DL.x3, DL.x4, DL.x5, DL.x6, DL.x7, DL.x8, DL.x9, DL.x10, DL.x11, DL.x12, DL.y1, DL.y2, DL.eq_ii, DL.ne_ii, DL.k1, DL.k2, DL.k3, DL.k4, DL.k5, DL.k6, DL.z0, DL.z1, DL.z2, DL.z3, DL.z4, DL.z5, DL.z6, DL.z7, DL.z8, DL.z9, DL.z10, DL.z11, DL.z12, DL.z13, DL.z14, DL.z15, DL.z16, DL.z17, DL.z18, DL.z19, DL.z20, DL.z21, DL.z22, DL.z23, DL.z24, DL.z25, DL.z26, DL.z27, DL.z28, DL.z29, DL.ic1, DL.ic2, dPar3, dIs2, dDic0, dCallD, dFld, dProp, dNew, dTkSet, dTkInt, dIter, DL.w0, DL.w1, DL.w2, DL.w3, DL.w4, DL.w5]
  refine sp__law_draw (by omega) (by omega) fun r r0 r1 => ?_
  simp [phi, startA, dSeq, dNext, dAsg, dAsgG, dIf, dRet, dRetV, dRetN, dDrop, dRaise, dRaiseI, dFz, dFzS, dVar, dC, dBin, dUn, dTest, isB, dAndT, dOrT, dNotT, dAndV, dOrV, dNotV, dIfE, dTruth, dCons, dNil, dTupE, dLstE, dCB, dIs, dCall, gNm, dPart, dNoPart, DL.f0, DL.fc, DL.g1, DL.g2, DL.g3, DL.s1, DL.s2, DL.zc, dPar, dChain, DL.e1, DL.e2, DL.e3, DL.e4, DL.e5, DL.e6, DL.e7, DL.e8, DL.e9, DL.e10, DL.e11, DL.e12, DL.e13, DL.e14, DL.a1, DL.a2, DL.a3, DL.a4, DL.a5, DL.a6, DL.a7, DL.a8, DL.a9, DL.a10, DL.a11, DL.t1, DL.t2, DL.t3, DL.x1, DL.x2, DL.x3, DL.x4, DL.x5, DL.x6, DL.x7, DL.x8, DL.x9, DL.x10, DL.x11, DL.x12, DL.y1, DL.y2, DL.eq_ii, DL.ne_ii, DL.k1, DL.k2, DL.k3, DL.k4, DL.k5, DL.k6, DL.z0, DL.z1, DL.z2, DL.z3, DL.z4, DL.z5, DL.z6, DL.z7, DL.z8, DL.z9, DL.z10, DL.z11, DL.z12, DL.z13, DL.z14, DL.z15, DL.z16, DL.z17, DL.z18, DL.z19, DL.z20, DL.z21, DL.z22, DL.z23, DL.z24, DL.z25, DL.z26, DL.z27, DL.z28, DL.z29, DL.ic1, DL.ic2, dPar3, dIs2, dDic0, dCallD, dFld, dProp, dNew, dTkSet, dTkInt, dIter, DL.w0, DL.w1, DL.w2, DL.w3, DL.w4, DL.w5]
  have hk' : k = .str over ∨ k = .str under := by
    simp only [List.mem_cons, List.not_mem_nil, or_false] at hk
    exact hk
  by_cases hr : r = 0
  · rw [if_pos hr]
    refine ⟨lsz (by omega), q _ ?_⟩
    rcases hk' with rfl | rfl
    · exact .o3 _ _ (by omega) (by omega) (by omega) (by omega)
    · exact .u3 _ _ (by omega) (by omega) (by omega) (by omega)
  · rw [if_neg hr]
    rcases hk' with rfl | rfl
    · unfold over
      rw [eq_over]
      simp [phi, startA, dSeq, dNext, dAsg, dAsgG, dIf, dRet, dRetV, dRetN, dDrop, dRaise, dRaiseI, dFz, dFzS, dVar, dC, dBin, dUn, dTest, isB, dAndT, dOrT, dNotT, dAndV, dOrV, dNotV, dIfE, dTruth, dCons, dNil, dTupE, dLstE, dCB, dIs, dCall, gNm, dPart, dNoPart, DL.f0, DL.fc, DL.g1, DL.g2, DL.g3, DL.s1, DL.s2, DL.zc, dPar, dChain, DL.e1, DL.e2, DL.e3, DL.e4, DL.e5, DL.e6, DL.e7, DL.e8, DL.e9, DL.e10, DL.e11, DL.e12, DL.e13, DL.e14, DL.a1, DL.a2, DL.a3, DL.a4, DL.a5, DL.a6, DL.a7, DL.a8, DL.a9, DL.a10, DL.a11, DL.t1, DL.t2, DL.t3, DL.x1, DL.x2, DL.x3, DL.x4, DL.x5, DL.x6, DL.x7, DL.x8, DL.x9, DL.x10, DL.x11, DL.x12, DL.y1, DL.y2, DL.eq_ii, DL.ne_ii, DL.k1, DL.k2, DL.k3, DL.k4, DL.k5, DL.k6, DL.z0, DL.z1, DL.z2, DL.z3, DL.z4, DL.z5, DL.z6, DL.z7, DL.z8, DL.z9, DL.z10, DL.z11, DL.z12, DL.z13, DL.z14, DL.z15, DL.z16, DL.z17, DL.z18, DL.z19, DL.z20, DL.z21, DL.z22, DL.z23, DL.z24, DL.z25, DL.z26, DL.z27, DL.z28, DL.z29, DL.ic1, DL.ic2, dPar3, dIs2, dDic0, dCallD, dFld, dProp, dNew, dTkSet, dTkInt, dIter, DL.w0, DL.w1, DL.w2, DL.w3, DL.w4, DL.w5]
      exact ⟨lsz (by omega), q _ (.o4 _ _ _ (by omega) (by omega) (by omega) (by omega) (by omega) (by omega))⟩
    · unfold under
      rw [eq_under]
      simp [phi, startA, dSeq, dNext, dAsg, dAsgG, dIf, dRet, dRetV, dRetN, dDrop, dRaise, dRaiseI, dFz, dFzS, dVar, dC, dBin, dUn, dTest, isB, dAndT, dOrT, dNotT, dAndV, dOrV, dNotV, dIfE, dTruth, dCons, dNil, dTupE, dLstE, dCB, dIs, dCall, gNm, dPart, dNoPart, DL.f0, DL.fc, DL.g1, DL.g2, DL.g3, DL.s1, DL.s2, DL.zc, dPar, dChain, DL.e1, DL.e2, DL.e3, DL.e4, DL.e5, DL.e6, DL.e7, DL.e8, DL.e9, DL.e10, DL.e11, DL.e12, DL.e13, DL.e14, DL.a1, DL.a2, DL.a3, DL.a4, DL.a5, DL.a6, DL.a7, DL.a8, DL.a9, DL.a10, DL.a11, DL.t1, DL.t2, DL.t3, DL.x1, DL.x2, DL.x3, DL.x4, DL.x5, DL.x6, DL.x7, DL.x8, DL.x9, DL.x10, DL.x11, DL.x12, DL.y1, DL.y2, DL.eq_ii, DL.ne_ii, DL.k1, DL.k2, DL.k3, DL.k4, DL.k5, DL.k6, DL.z0, DL.z1, DL.z2, DL.z3, DL.z4, DL.z5, DL.z6, DL.z7, DL.z8, DL.z9, DL.z10, DL.z11, DL.z12, DL.z13, DL.z14, DL.z15, DL.z16, DL.z17, DL.z18, DL.z19, DL.z20, DL.z21, DL.z22, DL.z23, DL.z24, DL.z25, DL.z26, DL.z27, DL.z28, DL.z29, DL.ic1, DL.ic2, dPar3, dIs2, dDic0, dCallD, dFld, dProp, dNew, dTkSet, dTkInt, dIter, DL.w0, DL.w1, DL.w2, DL.w3, DL.w4, DL.w5]
      exact ⟨lsz (by omega), q _ (.u4 _ _ _ (by omega) (by omega) (by omega) (by omega) (by omega))⟩
theorem sp__law_al_several {a b : Int} (h1 : -100 ≤ a) (h2 : a ≤ b) (h3 : b ≤ 100) (q : ∀ as : List D, 1 ≤ as.length → as.length ≤ 4 → (∀ d ∈ as, AlOk d) → Q (.nw (.lst as))) : phi__law_al_several [.tk, .fr (.int a), .fr (.int b), .fr (.int 8)] Q E := by
  simp [phi, startA, dSeq, dNext, dAsg, dAsgG, dIf, dRet, dRetV, dRetN, dDrop, dRaise, dRaiseI, dFz, dFzS, dVar, dC, dBin, dUn, dTest, isB, dAndT, dOrT, dNotT, dAndV, dOrV, dNotV, dIfE, dTruth, dCons, dNil, dTupE, dLstE, dCB, dIs, dCall, gNm, dPart, dNoPart, DL.f0, DL.fc, DL.g1, DL.g2, DL.g3, DL.s1, DL.s2, DL.zc, dPar, dChain, DL.e1, DL.e2, DL.e3, DL.e4, DL.e5, DL.e6, DL.e7, DL.e8, DL.e9, DL.e10, DL.e11, DL.e12, DL.e13, DL.e14, DL.a1, DL.a2, DL.a3, DL.a4, DL.a5, DL.a6, DL.a7, DL.a8, DL.a9, DL.a10, DL.a11, DL.t1, DL.t2, DL.t3, DL.x1, DL.x2, DL.x3, DL.x4, DL.x5, DL.x6, DL.x7, DL.x8, DL.x9, DL.x10, DL.x11, DL.x12, DL.y1, DL.y2, DL.eq_ii, DL.ne_ii, DL.k1, DL.k2, DL.k3, DL.k4, DL.k5, DL.k6, DL.z0, DL.z1, DL.z2, DL.z3, DL.z4, DL.z5, DL.z6, DL.z7, DL.z8, DL.z9, DL.z10, DL.z11, DL.z12, DL.z13, DL.z14, DL.z15, DL.z16, DL.z17, DL.z18, DL.z19, DL.z20, DL.z21, DL.z22, DL.z23, DL.z24, DL.z25, DL.z26, DL.z27, DL.z28, DL.z29, DL.ic1, DL.ic2, dPar3, dIs2, dDic0, dCallD, dFld, dProp, dNew, dTkSet, dTkInt, dIter, DL.w0, DL.w1, DL.w2, DL.w3, DL.w4, DL.w5, phi__law_al_several, t__law_al_several, dLcC, dLcP, dRng1, wipeA]
  refine sp__law_draw (by omega) (by omega) fun n n0 n1 => ?_
  simp [phi, startA, dSeq, dNext, dAsg, dAsgG, dIf, dRet, dRetV, dRetN, dDrop, dRaise, dRaiseI, dFz, dFzS, dVar, dC, dBin, dUn, dTest, isB, dAndT, dOrT, dNotT, dAndV, dOrV, dNotV, dIfE, dTruth, dCons, dNil, dTupE, dLstE, dCB, dIs, dCall, gNm, dPart, dNoPart, DL.f0, DL.fc, DL.g1, DL.g2, DL.g3, DL.s1, DL.s2, DL.zc, dPar, dChain, DL.e1, DL.e2, DL.e3, DL.e4, DL.e5, DL.e6, DL.e7, DL.e8, DL.e9, DL.e10, DL.e11, DL.e12, DL.e13, DL.e14, DL.a1, DL.a2, DL.a3, DL.a4, DL.a5, DL.a6, DL.a7, DL.a8, DL.a9, DL.a10, DL.a11, DL.t1, DL.t2, DL.t3, DL.x1, DL.x2, DL.x3, DL.x4, DL.x5, DL.x6, DL.x7, DL.x8, DL.x9, DL.x10, DL.x11, DL.x12, DL.y1, DL.y2, DL.eq_ii, DL.ne_ii, DL.k1, DL.k2, DL.k3, DL.k4, DL.k5, DL.k6, DL.z0, DL.z1, DL.z2, DL.z3, DL.z4, DL.z5, DL.z6, DL.z7, DL.z8, DL.z9, DL.z10, DL.z11, DL.z12, DL.z13, DL.z14, DL.z15, DL.z16, DL.z17, DL.z18, DL.z19, DL.z20, DL.z21, DL.z22, DL.z23, DL.z24, DL.z25, DL.z26, DL.z27, DL.z28, DL.z29, DL.ic1, DL.ic2, dPar3, dIs2, dDic0, dCallD, dFld, dProp, dNew, dTkSet, dTkInt, dIter, DL.w0, DL.w1, DL.w2, DL.w3, DL.w4, DL.w5]
  refine ⟨by omega, by omega, fl (by rw [rangeD_len]; omega), ?_⟩
  refine lc_any AlOk _ _ (fun d hd P k0 hp => ?_) (lsz (by rw [rangeD_len]; simp; omega)) fun as l1 l2 => ?_
  · simp [phi, startA, dSeq, dNext, dAsg, dAsgG, dIf, dRet, dRetV, dRetN, dDrop, dRaise, dRaiseI, dFz, dFzS, dVar, dC, dBin, dUn, dTest, isB, dAndT, dOrT, dNotT, dAndV, dOrV, dNotV, dIfE, dTruth, dCons, dNil, dTupE, dLstE, dCB, dIs, dCall, gNm, dPart, dNoPart, DL.f0, DL.fc, DL.g1, DL.g2, DL.g3, DL.s1, DL.s2, DL.zc, dPar, dChain, DL.e1, DL.e2, DL.e3, DL.e4, DL.e5, DL.e6, DL.e7, DL.e8, DL.e9, DL.e10, DL.e11, DL.e12, DL.e13, DL.e14, DL.a1, DL.a2, DL.a3, DL.a4, DL.a5, DL.a6, DL.a7, DL.a8, DL.a9, DL.a10, DL.a11, DL.t1, DL.t2, DL.t3, DL.x1, DL.x2, DL.x3, DL.x4, DL.x5, DL.x6, DL.x7, DL.x8, DL.x9, DL.x10, DL.x11, DL.x12, DL.y1, DL.y2, DL.eq_ii, DL.ne_ii, DL.k1, DL.k2, DL.k3, DL.k4, DL.k5, DL.k6, DL.z0, DL.z1, DL.z2, DL.z3, DL.z4, DL.z5, DL.z6, DL.z7, DL.z8, DL.z9, DL.z10, DL.z11, DL.z12, DL.z13, DL.z14, DL.z15, DL.z16, DL.z17, DL.z18, DL.z19, DL.z20, DL.z21, DL.z22, DL.z23, DL.z24, DL.z25, DL.z26, DL.z27, DL.z28, DL.z29, DL.ic1, DL.ic2, dPar3, dIs2, dDic0, dCallD, dFld, dProp, dNew, dTkSet, dTkInt, dIter, DL.w0, DL.w1, DL.w2, DL.w3, DL.w4, DL.w5, dYes]
    refine sp__law_al_alarm h1 h2 h3 fun x hx => ?_
    exact ⟨x, rfl, hp x hx⟩
  · rw [rangeD_len] at l1
    exact q _ (by rw [List.nil_append]; omega) (by rw [List.nil_append]; omega) l2
theorem sp__law_al_stream {a b : Int} {n : Nat} (hn : n ≤ 200) (h2 : a ≤ b) (h1 : -100 ≤ a) (h3 : b ≤ 100) (q : ∀ l : List Int, l.length = n → (∀ x ∈ l, a ≤ x ∧ x ≤ b) → Q (.fr (.tup (l.map D.int)))) : phi__law_al_stream [.tk, .fr (.int a), .fr (.int b), .fr (.int n)] Q E := by
  simp [phi, startA, dSeq, dNext, dAsg, dAsgG, dIf, dRet, dRetV, dRetN, dDrop, dRaise, dRaiseI, dFz, dFzS, dVar, dC, dBin, dUn, dTest, isB, dAndT, dOrT, dNotT, dAndV, dOrV, dNotV, dIfE, dTruth, dCons, dNil, dTupE, dLstE, dCB, dIs, dCall, gNm, dPart, dNoPart, DL.f0, DL.fc, DL.g1, DL.g2, DL.g3, DL.s1, DL.s2, DL.zc, dPar, dChain, DL.e1, DL.e2, DL.e3, DL.e4, DL.e5, DL.e6, DL.e7, DL.e8, DL.e9, DL.e10, DL.e11, DL.e12, DL.e13, DL.e14, DL.a1, DL.a2, DL.a3, DL.a4, DL.a5, DL.a6, DL.a7, DL.a8, DL.a9, DL.a10, DL.a11, DL.t1, DL.t2, DL.t3, DL.x1, DL.x2, DL.x3, DL.x4, DL.x5, DL.x6, DL.x7, DL.x8, DL.x9, DL.x10, DL.x11, DL.x12, DL.y1, DL.y2, DL.eq_ii, DL.ne_ii, DL.k1, DL.k2, DL.k3, DL.k4, DL.k5, DL.k6, DL.z0, DL.z1, DL.z2, DL.z3, DL.z4, DL.z5, DL.z6, DL.z7, DL.z8, DL.z9, DL.z10, DL.z11, DL.z12, DL.z13, DL.z14, DL.z15, DL.z16, DL.z17, DL.z18, DL.z19, DL.z20, DL.z21, DL.z22, DL.z23, DL.z24, DL.z25, DL.z26, DL.z27, DL.z28, DL.z29, DL.ic1, DL.ic2, dPar3, dIs2, dDic0, dCallD, dFld, dProp, dNew, dTkSet, dTkInt, dIter, DL.w0, DL.w1, DL.w2, DL.w3, DL.w4, DL.w5, phi__law_al_stream, t__law_al_stream, dForC, dForP, dRng1]
  refine sp__law_draw (by omega) (by omega) fun w w0 w1 => ?_
  simp [phi, startA, dSeq, dNext, dAsg, dAsgG, dIf, dRet, dRetV, dRetN, dDrop, dRaise, dRaiseI, dFz, dFzS, dVar, dC, dBin, dUn, dTest, isB, dAndT, dOrT, dNotT, dAndV, dOrV, dNotV, dIfE, dTruth, dCons, dNil, dTupE, dLstE, dCB, dIs, dCall, gNm, dPart, dNoPart, DL.f0, DL.fc, DL.g1, DL.g2, DL.g3, DL.s1, DL.s2, DL.zc, dPar, dChain, DL.e1, DL.e2, DL.e3, DL.e4, DL.e5, DL.e6, DL.e7, DL.e8, DL.e9, DL.e10, DL.e11, DL.e12, DL.e13, DL.e14, DL.a1, DL.a2, DL.a3, DL.a4, DL.a5, DL.a6, DL.a7, DL.a8, DL.a9, DL.a10, DL.a11, DL.t1, DL.t2, DL.t3, DL.x1, DL.x2, DL.x3, DL.x4, DL.x5, DL.x6, DL.x7, DL.x8, DL.x9, DL.x10, DL.x11, DL.x12, DL.y1, DL.y2, DL.eq_ii, DL.ne_ii, DL.k1, DL.k2, DL.k3, DL.k4, DL.k5, DL.k6, DL.z0, DL.z1, DL.z2, DL.z3, DL.z4, DL.z5, DL.z6, DL.z7, DL.z8, DL.z9, DL.z10, DL.z11, DL.z12, DL.z13, DL.z14, DL.z15, DL.z16, DL.z17, DL.z18, DL.z19, DL.z20, DL.z21, DL.z22, DL.z23, DL.z24, DL.z25, DL.z26, DL.z27, DL.z28, DL.z29, DL.ic1, DL.ic2, dPar3, dIs2, dDic0, dCallD, dFld, dProp, dNew, dTkSet, dTkInt, dIter, DL.w0, DL.w1, DL.w2, DL.w3, DL.w4, DL.w5]
  refine ⟨by omega, fl (by rw [rangeD_len]; omega), ?_⟩
  refine for_invN (fun i α => ∃ (l : List Int) (h : Int) (s7 : Option S), l.length = i ∧ (∀ x ∈ l, a ≤ x ∧ x ≤ b) ∧ a ≤ h ∧ h ≤ b ∧ α = [some .tk, some (.fr (.int a)), some (.fr (.int b)), some (.fr (.int n)), some (.fr (.int w)), some (.nw (.lst (l.map D.int))), some (.fr (.int h)), s7]) 0 (fun j d hd α hα nxt hx => ?_) ⟨[], a, none, rfl, (by intro x h; cases h), by omega, by omega, rfl⟩ (fun α hα => ?_)
  · obtain ⟨l, h, s7, hl, hb, ha0, ha1, rfl⟩ := hα
    obtain ⟨hj, rfl⟩ := in_range hd
    simp [phi, startA, dSeq, dNext, dAsg, dAsgG, dIf, dRet, dRetV, dRetN, dDrop, dRaise, dRaiseI, dFz, dFzS, dVar, dC, dBin, dUn, dTest, isB, dAndT, dOrT, dNotT, dAndV, dOrV, dNotV, dIfE, dTruth, dCons, dNil, dTupE, dLstE, dCB, dIs, dCall, gNm, dPart, dNoPart, DL.f0, DL.fc, DL.g1, DL.g2, DL.g3, DL.s1, DL.s2, DL.zc, dPar, dChain, DL.e1, DL.e2, DL.e3, DL.e4, DL.e5, DL.e6, DL.e7, DL.e8, DL.e9, DL.e10, DL.e11, DL.e12, DL.e13, DL.e14, DL.a1, DL.a2, DL.a3, DL.a4, DL.a5, DL.a6, DL.a7, DL.a8, DL.a9, DL.a10, DL.a11, DL.t1, DL.t2, DL.t3, DL.x1, DL.x2, DL.x3, DL.x4, DL.x5, DL.x6, DL.x7, DL.x8, DL.x9, DL.x10, DL.x11, DL.x12, DL.y1, DL.y2, DL.eq_ii, DL.ne_ii, DL.k1, DL.k2, DL.k3, DL.k4, DL.k5, DL.k6, DL.z0, DL.z1, DL.z2, DL.z3, DL.z4, DL.z5, DL.z6, DL.z7, DL.z8, DL.z9, DL.z10, DL.z11, DL.z12, DL.z13, DL.z14, DL.z15, DL.z16, DL.z17, DL.z18, DL.z19, DL.z20, DL.z21, DL.z22, DL.z23, DL.z24, DL.z25, DL.z26, DL.z27, DL.z28, DL.z29, DL.ic1, DL.ic2, dPar3, dIs2, dDic0, dCallD, dFld, dProp, dNew, dTkSet, dTkInt, dIter, DL.w0, DL.w1, DL.w2, DL.w3, DL.w4, DL.w5]
    have ap : ∀ (De : DEnds) (h : Int), a ≤ h → h ≤ b → De.nx = nxt → dApp 5 (dCons (dVar 6) dNil) De [some .tk, some (.fr (.int a)), some (.fr (.int b)), some (.fr (.int n)), some (.fr (.int w)), some (.nw (.lst (l.map D.int))), some (.fr (.int h)), some (.fr (.int j))] E := fun De h p1 p2 e => by
      simp [phi, startA, dSeq, dNext, dAsg, dAsgG, dIf, dRet, dRetV, dRetN, dDrop, dRaise, dRaiseI, dFz, dFzS, dVar, dC, dBin, dUn, dTest, isB, dAndT, dOrT, dNotT, dAndV, dOrV, dNotV, dIfE, dTruth, dCons, dNil, dTupE, dLstE, dCB, dIs, dCall, gNm, dPart, dNoPart, DL.f0, DL.fc, DL.g1, DL.g2, DL.g3, DL.s1, DL.s2, DL.zc, dPar, dChain, DL.e1, DL.e2, DL.e3, DL.e4, DL.e5, DL.e6, DL.e7, DL.e8, DL.e9, DL.e10, DL.e11, DL.e12, DL.e13, DL.e14, DL.a1, DL.a2, DL.a3, DL.a4, DL.a5, DL.a6, DL.a7, DL.a8, DL.a9, DL.a10, DL.a11, DL.t1, DL.t2, DL.t3, DL.x1, DL.x2, DL.x3, DL.x4, DL.x5, DL.x6, DL.x7, DL.x8, DL.x9, DL.x10, DL.x11, DL.x12, DL.y1, DL.y2, DL.eq_ii, DL.ne_ii, DL.k1, DL.k2, DL.k3, DL.k4, DL.k5, DL.k6, DL.z0, DL.z1, DL.z2, DL.z3, DL.z4, DL.z5, DL.z6, DL.z7, DL.z8, DL.z9, DL.z10, DL.z11, DL.z12, DL.z13, DL.z14, DL.z15, DL.z16, DL.z17, DL.z18, DL.z19, DL.z20, DL.z21, DL.z22, DL.z23, DL.z24, DL.z25, DL.z26, DL.z27, DL.z28, DL.z29, DL.ic1, DL.ic2, dPar3, dIs2, dDic0, dCallD, dFld, dProp, dNew, dTkSet, dTkInt, dIter, DL.w0, DL.w1, DL.w2, DL.w3, DL.w4, DL.w5, dApp]
      rw [e]
      refine ⟨by have := line_big; omega, hx _ ⟨l ++ [h], h, _, by rw [List.length_append, List.length_singleton]; omega, fun x hx => ?_, p1, p2, by rw [List.map_append]; rfl⟩⟩
      rcases List.mem_append.mp hx with z | z
      · exact hb x z
      · rw [List.mem_singleton.mp z]
        exact ⟨p1, p2⟩
    have dr : ∀ De : DEnds, De.nx = nxt → phi__law_draw [S.tk, S.fr (D.int (b - a + 1))] (fun y => fAdd (D.int a) y.view fun r => (∀ (d : D), ¬r.fz = S.bw d) ∧ dApp 5 (dCons (dVar 6) dNil) De [some .tk, some (.fr (.int a)), some (.fr (.int b)), some (.fr (.int n)), some (.fr (.int w)), some (.nw (.lst (l.map D.int))), some r.fz, some (.fr (.int j))] E) E := fun De e => by
      refine sp__law_draw (by omega) (by omega) fun m m0 m1 => ?_
      simp [phi, startA, dSeq, dNext, dAsg, dAsgG, dIf, dRet, dRetV, dRetN, dDrop, dRaise, dRaiseI, dFz, dFzS, dVar, dC, dBin, dUn, dTest, isB, dAndT, dOrT, dNotT, dAndV, dOrV, dNotV, dIfE, dTruth, dCons, dNil, dTupE, dLstE, dCB, dIs, dCall, gNm, dPart, dNoPart, DL.f0, DL.fc, DL.g1, DL.g2, DL.g3, DL.s1, DL.s2, DL.zc, dPar, dChain, DL.e1, DL.e2, DL.e3, DL.e4, DL.e5, DL.e6, DL.e7, DL.e8, DL.e9, DL.e10, DL.e11, DL.e12, DL.e13, DL.e14, DL.a1, DL.a2, DL.a3, DL.a4, DL.a5, DL.a6, DL.a7, DL.a8, DL.a9, DL.a10, DL.a11, DL.t1, DL.t2, DL.t3, DL.x1, DL.x2, DL.x3, DL.x4, DL.x5, DL.x6, DL.x7, DL.x8, DL.x9, DL.x10, DL.x11, DL.x12, DL.y1, DL.y2, DL.eq_ii, DL.ne_ii, DL.k1, DL.k2, DL.k3, DL.k4, DL.k5, DL.k6, DL.z0, DL.z1, DL.z2, DL.z3, DL.z4, DL.z5, DL.z6, DL.z7, DL.z8, DL.z9, DL.z10, DL.z11, DL.z12, DL.z13, DL.z14, DL.z15, DL.z16, DL.z17, DL.z18, DL.z19, DL.z20, DL.z21, DL.z22, DL.z23, DL.z24, DL.z25, DL.z26, DL.z27, DL.z28, DL.z29, DL.ic1, DL.ic2, dPar3, dIs2, dDic0, dCallD, dFld, dProp, dNew, dTkSet, dTkInt, dIter, DL.w0, DL.w1, DL.w2, DL.w3, DL.w4, DL.w5]
      exact ap De _ (by omega) (by omega) e
    have pk : ∀ De : DEnds, De.nx = nxt → phi__law_pick [S.tk, S.fr (D.lst [D.int a, D.int b])] (fun r => (∀ (d : D), ¬r.fz = S.bw d) ∧ dApp 5 (dCons (dVar 6) dNil) De [some .tk, some (.fr (.int a)), some (.fr (.int b)), some (.fr (.int n)), some (.fr (.int w)), some (.nw (.lst (l.map D.int))), some r.fz, some (.fr (.int j))] E) E := fun De e => by
      refine sp__law_pick (by simp) (by simp) fun d hd => ?_
      simp only [List.mem_cons, List.not_mem_nil, or_false] at hd
      rcases hd with rfl | rfl
      · simp [phi, startA, dSeq, dNext, dAsg, dAsgG, dIf, dRet, dRetV, dRetN, dDrop, dRaise, dRaiseI, dFz, dFzS, dVar, dC, dBin, dUn, dTest, isB, dAndT, dOrT, dNotT, dAndV, dOrV, dNotV, dIfE, dTruth, dCons, dNil, dTupE, dLstE, dCB, dIs, dCall, gNm, dPart, dNoPart, DL.f0, DL.fc, DL.g1, DL.g2, DL.g3, DL.s1, DL.s2, DL.zc, dPar, dChain, DL.e1, DL.e2, DL.e3, DL.e4, DL.e5, DL.e6, DL.e7, DL.e8, DL.e9, DL.e10, DL.e11, DL.e12, DL.e13, DL.e14, DL.a1, DL.a2, DL.a3, DL.a4, DL.a5, DL.a6, DL.a7, DL.a8, DL.a9, DL.a10, DL.a11, DL.t1, DL.t2, DL.t3, DL.x1, DL.x2, DL.x3, DL.x4, DL.x5, DL.x6, DL.x7, DL.x8, DL.x9, DL.x10, DL.x11, DL.x12, DL.y1, DL.y2, DL.eq_ii, DL.ne_ii, DL.k1, DL.k2, DL.k3, DL.k4, DL.k5, DL.k6, DL.z0, DL.z1, DL.z2, DL.z3, DL.z4, DL.z5, DL.z6, DL.z7, DL.z8, DL.z9, DL.z10, DL.z11, DL.z12, DL.z13, DL.z14, DL.z15, DL.z16, DL.z17, DL.z18, DL.z19, DL.z20, DL.z21, DL.z22, DL.z23, DL.z24, DL.z25, DL.z26, DL.z27, DL.z28, DL.z29, DL.ic1, DL.ic2, dPar3, dIs2, dDic0, dCallD, dFld, dProp, dNew, dTkSet, dTkInt, dIter, DL.w0, DL.w1, DL.w2, DL.w3, DL.w4, DL.w5]
        exact ap De _ (by omega) (by omega) e
      · simp [phi, startA, dSeq, dNext, dAsg, dAsgG, dIf, dRet, dRetV, dRetN, dDrop, dRaise, dRaiseI, dFz, dFzS, dVar, dC, dBin, dUn, dTest, isB, dAndT, dOrT, dNotT, dAndV, dOrV, dNotV, dIfE, dTruth, dCons, dNil, dTupE, dLstE, dCB, dIs, dCall, gNm, dPart, dNoPart, DL.f0, DL.fc, DL.g1, DL.g2, DL.g3, DL.s1, DL.s2, DL.zc, dPar, dChain, DL.e1, DL.e2, DL.e3, DL.e4, DL.e5, DL.e6, DL.e7, DL.e8, DL.e9, DL.e10, DL.e11, DL.e12, DL.e13, DL.e14, DL.a1, DL.a2, DL.a3, DL.a4, DL.a5, DL.a6, DL.a7, DL.a8, DL.a9, DL.a10, DL.a11, DL.t1, DL.t2, DL.t3, DL.x1, DL.x2, DL.x3, DL.x4, DL.x5, DL.x6, DL.x7, DL.x8, DL.x9, DL.x10, DL.x11, DL.x12, DL.y1, DL.y2, DL.eq_ii, DL.ne_ii, DL.k1, DL.k2, DL.k3, DL.k4, DL.k5, DL.k6, DL.z0, DL.z1, DL.z2, DL.z3, DL.z4, DL.z5, DL.z6, DL.z7, DL.z8, DL.z9, DL.z10, DL.z11, DL.z12, DL.z13, DL.z14, DL.z15, DL.z16, DL.z17, DL.z18, DL.z19, DL.z20, DL.z21, DL.z22, DL.z23, DL.z24, DL.z25, DL.z26, DL.z27, DL.z28, DL.z29, DL.ic1, DL.ic2, dPar3, dIs2, dDic0, dCallD, dFld, dProp, dNew, dTkSet, dTkInt, dIter, DL.w0, DL.w1, DL.w2, DL.w3, DL.w4, DL.w5]
        exact ap De _ (by omega) (by omega) e
    split
    · exact dr _ rfl
    · split
      · refine sp__law_draw (by omega) (by omega) fun m m0 m1 => ?_
        simp [phi, startA, dSeq, dNext, dAsg, dAsgG, dIf, dRet, dRetV, dRetN, dDrop, dRaise, dRaiseI, dFz, dFzS, dVar, dC, dBin, dUn, dTest, isB, dAndT, dOrT, dNotT, dAndV, dOrV, dNotV, dIfE, dTruth, dCons, dNil, dTupE, dLstE, dCB, dIs, dCall, gNm, dPart, dNoPart, DL.f0, DL.fc, DL.g1, DL.g2, DL.g3, DL.s1, DL.s2, DL.zc, dPar, dChain, DL.e1, DL.e2, DL.e3, DL.e4, DL.e5, DL.e6, DL.e7, DL.e8, DL.e9, DL.e10, DL.e11, DL.e12, DL.e13, DL.e14, DL.a1, DL.a2, DL.a3, DL.a4, DL.a5, DL.a6, DL.a7, DL.a8, DL.a9, DL.a10, DL.a11, DL.t1, DL.t2, DL.t3, DL.x1, DL.x2, DL.x3, DL.x4, DL.x5, DL.x6, DL.x7, DL.x8, DL.x9, DL.x10, DL.x11, DL.x12, DL.y1, DL.y2, DL.eq_ii, DL.ne_ii, DL.k1, DL.k2, DL.k3, DL.k4, DL.k5, DL.k6, DL.z0, DL.z1, DL.z2, DL.z3, DL.z4, DL.z5, DL.z6, DL.z7, DL.z8, DL.z9, DL.z10, DL.z11, DL.z12, DL.z13, DL.z14, DL.z15, DL.z16, DL.z17, DL.z18, DL.z19, DL.z20, DL.z21, DL.z22, DL.z23, DL.z24, DL.z25, DL.z26, DL.z27, DL.z28, DL.z29, DL.ic1, DL.ic2, dPar3, dIs2, dDic0, dCallD, dFld, dProp, dNew, dTkSet, dTkInt, dIter, DL.w0, DL.w1, DL.w2, DL.w3, DL.w4, DL.w5]
        split
        · exact dr _ rfl
        · split
          · exact dr _ rfl
          · split
            · exact ⟨lsz (by omega), pk _ rfl⟩
            · exact ap _ _ ha0 ha1 rfl
      · split
        · exact dr _ rfl
        · split
          · exact ⟨lsz (by omega), pk _ rfl⟩
          · exact ap _ _ ha0 ha1 rfl
  · obtain ⟨l, h, s7, hl, hb, ha0, ha1, rfl⟩ := hα
    rw [rangeD_len] at hl
    simp [phi, startA, dSeq, dNext, dAsg, dAsgG, dIf, dRet, dRetV, dRetN, dDrop, dRaise, dRaiseI, dFz, dFzS, dVar, dC, dBin, dUn, dTest, isB, dAndT, dOrT, dNotT, dAndV, dOrV, dNotV, dIfE, dTruth, dCons, dNil, dTupE, dLstE, dCB, dIs, dCall, gNm, dPart, dNoPart, DL.f0, DL.fc, DL.g1, DL.g2, DL.g3, DL.s1, DL.s2, DL.zc, dPar, dChain, DL.e1, DL.e2, DL.e3, DL.e4, DL.e5, DL.e6, DL.e7, DL.e8, DL.e9, DL.e10, DL.e11, DL.e12, DL.e13, DL.e14, DL.a1, DL.a2, DL.a3, DL.a4, DL.a5, DL.a6, DL.a7, DL.a8, DL.a9, DL.a10, DL.a11, DL.t1, DL.t2, DL.t3, DL.x1, DL.x2, DL.x3, DL.x4, DL.x5, DL.x6, DL.x7, DL.x8, DL.x9, DL.x10, DL.x11, DL.x12, DL.y1, DL.y2, DL.eq_ii, DL.ne_ii, DL.k1, DL.k2, DL.k3, DL.k4, DL.k5, DL.k6, DL.z0, DL.z1, DL.z2, DL.z3, DL.z4, DL.z5, DL.z6, DL.z7, DL.z8, DL.z9, DL.z10, DL.z11, DL.z12, DL.z13, DL.z14, DL.z15, DL.z16, DL.z17, DL.z18, DL.z19, DL.z20, DL.z21, DL.z22, DL.z23, DL.z24, DL.z25, DL.z26, DL.z27, DL.z28, DL.z29, DL.ic1, DL.ic2, dPar3, dIs2, dDic0, dCallD, dFld, dProp, dNew, dTkSet, dTkInt, dIter, DL.w0, DL.w1, DL.w2, DL.w3, DL.w4, DL.w5]
    exact q l (by omega) hb
theorem sp__law_al_no_alarms (q : ∀ d : D, d.pl = true → Q (.fr d)) : phi__law_al_no_alarms [.tk] Q E := by
  simp [phi, startA, dSeq, dNext, dAsg, dAsgG, dIf, dRet, dRetV, dRetN, dDrop, dRaise, dRaiseI, dFz, dFzS, dVar, dC, dBin, dUn, dTest, isB, dAndT, dOrT, dNotT, dAndV, dOrV, dNotV, dIfE, dTruth, dCons, dNil, dTupE, dLstE, dCB, dIs, dCall, gNm, dPart, dNoPart, DL.f0, DL.fc, DL.g1, DL.g2, DL.g3, DL.s1, DL.s2, DL.zc, dPar, dChain, DL.e1, DL.e2, DL.e3, DL.e4, DL.e5, DL.e6, DL.e7, DL.e8, DL.e9, DL.e10, DL.e11, DL.e12, DL.e13, DL.e14, DL.a1, DL.a2, DL.a3, DL.a4, DL.a5, DL.a6, DL.a7, DL.a8, DL.a9, DL.a10, DL.a11, DL.t1, DL.t2, DL.t3, DL.x1, DL.x2, DL.x3, DL.x4, DL.x5, DL.x6, DL.x7, DL.x8, DL.x9, DL.x10, DL.x11, DL.x12, DL.y1, DL.y2, DL.eq_ii, DL.ne_ii, DL.k1, DL.k2, DL.k3, DL.k4, DL.k5, DL.k6, DL.z0, DL.z1, DL.z2, DL.z3, DL.z4, DL.z5, DL.z6, DL.z7, DL.z8, DL.z9, DL.z10, DL.z11, DL.z12, DL.z13, DL.z14, DL.z15, DL.z16, DL.z17, DL.z18, DL.z19, DL.z20, DL.z21, DL.z22, DL.z23, DL.z24, DL.z25, DL.z26, DL.z27, DL.z28, DL.z29, DL.ic1, DL.ic2, dPar3, dIs2, dDic0, dCallD, dFld, dProp, dNew, dTkSet, dTkInt, dIter, DL.w0, DL.w1, DL.w2, DL.w3, DL.w4, DL.w5, phi__law_al_no_alarms, t__law_al_no_alarms]
  refine ⟨lsz (by omega), lsz (by omega), lsz (by omega), lsz (by omega), lsz (by omega), sp__law_pick (by simp) (by simp) fun d hd => ?_⟩
  simp [phi, startA, dSeq, dNext, dAsg, dAsgG, dIf, dRet, dRetV, dRetN, dDrop, dRaise, dRaiseI, dFz, dFzS, dVar, dC, dBin, dUn, dTest, isB, dAndT, dOrT, dNotT, dAndV, dOrV, dNotV, dIfE, dTruth, dCons, dNil, dTupE, dLstE, dCB, dIs, dCall, gNm, dPart, dNoPart, DL.f0, DL.fc, DL.g1, DL.g2, DL.g3, DL.s1, DL.s2, DL.zc, dPar, dChain, DL.e1, DL.e2, DL.e3, DL.e4, DL.e5, DL.e6, DL.e7, DL.e8, DL.e9, DL.e10, DL.e11, DL.e12, DL.e13, DL.e14, DL.a1, DL.a2, DL.a3, DL.a4, DL.a5, DL.a6, DL.a7, DL.a8, DL.a9, DL.a10, DL.a11, DL.t1, DL.t2, DL.t3, DL.x1, DL.x2, DL.x3, DL.x4, DL.x5, DL.x6, DL.x7, DL.x8, DL.x9, DL.x10, DL.x11, DL.x12, DL.y1, DL.y2, DL.eq_ii, DL.ne_ii, DL.k1, DL.k2, DL.k3, DL.k4, DL.k5, DL.k6, DL.z0, DL.z1, DL.z2, DL.z3, DL.z4, DL.z5, DL.z6, DL.z7, DL.z8, DL.z9, DL.z10, DL.z11, DL.z12, DL.z13, DL.z14, DL.z15, DL.z16, DL.z17, DL.z18, DL.z19, DL.z20, DL.z21, DL.z22, DL.z23, DL.z24, DL.z25, DL.z26, DL.z27, DL.z28, DL.z29, DL.ic1, DL.ic2, dPar3, dIs2, dDic0, dCallD, dFld, dProp, dNew, dTkSet, dTkInt, dIter, DL.w0, DL.w1, DL.w2, DL.w3, DL.w4, DL.w5]
  refine q d ?_
  simp only [List.mem_cons, List.not_mem_nil, or_false] at hd
  rcases hd with rfl | rfl | rfl | rfl | rfl | rfl <;> rfl
abbrev NB : List Str := ["draws", "value", "at", "way", "items"]
theorem bent_int {n : Nat} {v : Int} (q : ∀ d : D, d.pl = true → Q (.fr d)) : phiR NB t__law_al_bent (n + 1) [.tk, .fr (.int v)] Q E := by
  unfold phiR
  simp [phi, startA, dSeq, dNext, dAsg, dAsgG, dIf, dRet, dRetV, dRetN, dDrop, dRaise, dRaiseI, dFz, dFzS, dVar, dC, dBin, dUn, dTest, isB, dAndT, dOrT, dNotT, dAndV, dOrV, dNotV, dIfE, dTruth, dCons, dNil, dTupE, dLstE, dCB, dIs, dCall, gNm, dPart, dNoPart, DL.f0, DL.fc, DL.g1, DL.g2, DL.g3, DL.s1, DL.s2, DL.zc, dPar, dChain, DL.e1, DL.e2, DL.e3, DL.e4, DL.e5, DL.e6, DL.e7, DL.e8, DL.e9, DL.e10, DL.e11, DL.e12, DL.e13, DL.e14, DL.a1, DL.a2, DL.a3, DL.a4, DL.a5, DL.a6, DL.a7, DL.a8, DL.a9, DL.a10, DL.a11, DL.t1, DL.t2, DL.t3, DL.x1, DL.x2, DL.x3, DL.x4, DL.x5, DL.x6, DL.x7, DL.x8, DL.x9, DL.x10, DL.x11, DL.x12, DL.y1, DL.y2, DL.eq_ii, DL.ne_ii, DL.k1, DL.k2, DL.k3, DL.k4, DL.k5, DL.k6, DL.z0, DL.z1, DL.z2, DL.z3, DL.z4, DL.z5, DL.z6, DL.z7, DL.z8, DL.z9, DL.z10, DL.z11, DL.z12, DL.z13, DL.z14, DL.z15, DL.z16, DL.z17, DL.z18, DL.z19, DL.z20, DL.z21, DL.z22, DL.z23, DL.z24, DL.z25, DL.z26, DL.z27, DL.z28, DL.z29, DL.ic1, DL.ic2, dPar3, dIs2, dDic0, dCallD, dFld, dProp, dNew, dTkSet, dTkInt, dIter, DL.w0, DL.w1, DL.w2, DL.w3, DL.w4, DL.w5, t__law_al_bent]
  refine (sp__law_is_number rfl).mpr ?_
  simp [phi, startA, dSeq, dNext, dAsg, dAsgG, dIf, dRet, dRetV, dRetN, dDrop, dRaise, dRaiseI, dFz, dFzS, dVar, dC, dBin, dUn, dTest, isB, dAndT, dOrT, dNotT, dAndV, dOrV, dNotV, dIfE, dTruth, dCons, dNil, dTupE, dLstE, dCB, dIs, dCall, gNm, dPart, dNoPart, DL.f0, DL.fc, DL.g1, DL.g2, DL.g3, DL.s1, DL.s2, DL.zc, dPar, dChain, DL.e1, DL.e2, DL.e3, DL.e4, DL.e5, DL.e6, DL.e7, DL.e8, DL.e9, DL.e10, DL.e11, DL.e12, DL.e13, DL.e14, DL.a1, DL.a2, DL.a3, DL.a4, DL.a5, DL.a6, DL.a7, DL.a8, DL.a9, DL.a10, DL.a11, DL.t1, DL.t2, DL.t3, DL.x1, DL.x2, DL.x3, DL.x4, DL.x5, DL.x6, DL.x7, DL.x8, DL.x9, DL.x10, DL.x11, DL.x12, DL.y1, DL.y2, DL.eq_ii, DL.ne_ii, DL.k1, DL.k2, DL.k3, DL.k4, DL.k5, DL.k6, DL.z0, DL.z1, DL.z2, DL.z3, DL.z4, DL.z5, DL.z6, DL.z7, DL.z8, DL.z9, DL.z10, DL.z11, DL.z12, DL.z13, DL.z14, DL.z15, DL.z16, DL.z17, DL.z18, DL.z19, DL.z20, DL.z21, DL.z22, DL.z23, DL.z24, DL.z25, DL.z26, DL.z27, DL.z28, DL.z29, DL.ic1, DL.ic2, dPar3, dIs2, dDic0, dCallD, dFld, dProp, dNew, dTkSet, dTkInt, dIter, DL.w0, DL.w1, DL.w2, DL.w3, DL.w4, DL.w5, D.num]
  refine ⟨lsz (by omega), sp__law_pick (by simp) (by simp) fun d hd => ?_⟩
  simp [phi, startA, dSeq, dNext, dAsg, dAsgG, dIf, dRet, dRetV, dRetN, dDrop, dRaise, dRaiseI, dFz, dFzS, dVar, dC, dBin, dUn, dTest, isB, dAndT, dOrT, dNotT, dAndV, dOrV, dNotV, dIfE, dTruth, dCons, dNil, dTupE, dLstE, dCB, dIs, dCall, gNm, dPart, dNoPart, DL.f0, DL.fc, DL.g1, DL.g2, DL.g3, DL.s1, DL.s2, DL.zc, dPar, dChain, DL.e1, DL.e2, DL.e3, DL.e4, DL.e5, DL.e6, DL.e7, DL.e8, DL.e9, DL.e10, DL.e11, DL.e12, DL.e13, DL.e14, DL.a1, DL.a2, DL.a3, DL.a4, DL.a5, DL.a6, DL.a7, DL.a8, DL.a9, DL.a10, DL.a11, DL.t1, DL.t2, DL.t3, DL.x1, DL.x2, DL.x3, DL.x4, DL.x5, DL.x6, DL.x7, DL.x8, DL.x9, DL.x10, DL.x11, DL.x12, DL.y1, DL.y2, DL.eq_ii, DL.ne_ii, DL.k1, DL.k2, DL.k3, DL.k4, DL.k5, DL.k6, DL.z0, DL.z1, DL.z2, DL.z3, DL.z4, DL.z5, DL.z6, DL.z7, DL.z8, DL.z9, DL.z10, DL.z11, DL.z12, DL.z13, DL.z14, DL.z15, DL.z16, DL.z17, DL.z18, DL.z19, DL.z20, DL.z21, DL.z22, DL.z23, DL.z24, DL.z25, DL.z26, DL.z27, DL.z28, DL.z29, DL.ic1, DL.ic2, dPar3, dIs2, dDic0, dCallD, dFld, dProp, dNew, dTkSet, dTkInt, dIter, DL.w0, DL.w1, DL.w2, DL.w3, DL.w4, DL.w5]
  refine q d ?_
  simp only [List.mem_cons, List.not_mem_nil, or_false] at hd
  rcases hd with rfl | rfl | rfl | rfl | rfl | rfl | rfl | rfl | rfl <;> rfl
theorem last_pick (q : ∀ d : D, okv d = true → Q (.fr d)) : phi__law_pick [S.tk, S.fr (D.lst [D.non, D.tup [], D.lst [], D.int 0, D.int 1, D.bl true, D.str (Str.ofString "over"), D.str (Str.ofString "under"), D.str (Str.ofString "x"), D.tup [D.int 0], D.tup [D.non]])] Q E := by
  refine sp__law_pick (by simp) (by simp) fun d hd => q d ?_
  simp only [List.mem_cons, List.not_mem_nil, or_false] at hd
  rcases hd with rfl | rfl | rfl | rfl | rfl | rfl | rfl | rfl | rfl | rfl | rfl <;> rfl
def bTail : DS := (dSeq (dIf (dTruth (dCall 1 phi__law_is_number (dCons (dVar 1) dNil))) (dRet (dCall 2 phi__law_pick (dCons (dVar 0) (dCons (dLstE (dCons (dBin fAdd (dVar 1) (dC (.int 1))) (dCons (dBin fSub (dVar 1) (dC (.int 1))) (dCons (dBin fAdd (dVar 1) (dC (.int 2))) (dCons (dC .non) (dCons (dBin fEq (dVar 1) (dC (.int 1))) (dCons (dC (.int 0)) (dCons (dC (.int 1)) (dCons (dC (.str "1")) (dCons (dUn fNeg (dVar 1)) dNil)))))))))) dNil)))) dNext) (dRet (dCall 2 phi__law_pick (dCons (dVar 0) (dCons (dLstE (dCons (dC .non) (dCons (dTupE dNil) (dCons (dLstE dNil) (dCons (dC (.int 0)) (dCons (dC (.int 1)) (dCons (dC (.bl true)) (dCons (dC (.str "over")) (dCons (dC (.str "under")) (dCons (dC (.str "x")) (dCons (dTupE (dCons (dC (.int 0)) dNil)) (dCons (dTupE (dCons (dC .non) dNil)) dNil)))))))))))) dNil)))))
def bMid (Φ : DF) : DS := (dIf (dTest (dBin fEq (dVar 3) (dC (.int 0)))) (dPopAt 4 (dCons (dVar 2) dNil)) (dIf (dTest (dBin fEq (dVar 3) (dC (.int 1)))) (dIns 4 (dCons (dVar 2) (dCons (dBin fIx (dVar 4) (dVar 2)) dNil))) (dIf (dAndT (dTest (dBin fEq (dVar 3) (dC (.int 2)))) (dTest (dBin fGt (dVar 2) (dC (.int 0))))) (dAsg 4 (dBin fAdd (dBin fAdd (dSl (dVar 4) dNoPart (dPart (dBin fSub (dVar 2) (dC (.int 1))))) (dLstE (dCons (dBin fIx (dVar 4) (dVar 2)) (dCons (dBin fIx (dVar 4) (dBin fSub (dVar 2) (dC (.int 1)))) dNil)))) (dSl (dVar 4) (dPart (dBin fAdd (dVar 2) (dC (.int 1)))) dNoPart))) (dSetI 4 (dCall 2 Φ (dCons (dVar 0) (dCons (dBin fIx (dVar 4) (dVar 2)) dNil))) (dVar 2)))))
def bRet : DS := (dRet (dIfE (dTruth (dIs nCls exB (isT "tuple") (dVar 1))) (dCB (one fTuple) (dCons (dVar 4) dNil)) (dVar 4)))
theorem cut_bent (Φ : DF) : t__law_al_bent Φ = dSeq (dIf (dAndT (dTruth (dIs2 nCls exB "tuple" "list" (dVar 1))) (dAndT (dTest (dBin fGt (dCB (one fLen) (dCons (dVar 1) dNil)) (dC (.int 0)))) (dTest (dBin fGt (dCall 2 phi__law_draw (dCons (dVar 0) (dCons (dC (.int 6)) dNil))) (dC (.int 0)))))) (dSeq (dPar3 2 3 4 (dFz (dCall 2 phi__law_draw (dCons (dVar 0) (dCons (dCB (one fLen) (dCons (dVar 1) dNil)) dNil)))) (dFz (dCall 2 phi__law_draw (dCons (dVar 0) (dCons (dC (.int 9)) dNil)))) (dCB (one fList) (dCons (dVar 1) dNil))) (dSeq (bMid Φ) bRet)) dNext) bTail := rfl
theorem tail_ok {De : DEnds} {ds : List D} {s2 s3 s4 : Option S} (hq : ∀ d, okv d = true → De.rt (.fr d)) : bTail De [some .tk, some (.fr (.tup ds)), s2, s3, s4] E := by
  unfold bTail
  simp [phi, startA, dSeq, dNext, dAsg, dAsgG, dIf, dRet, dRetV, dRetN, dDrop, dRaise, dRaiseI, dFz, dFzS, dVar, dC, dBin, dUn, dTest, isB, dAndT, dOrT, dNotT, dAndV, dOrV, dNotV, dIfE, dTruth, dCons, dNil, dTupE, dLstE, dCB, dIs, dCall, gNm, dPart, dNoPart, DL.f0, DL.fc, DL.g1, DL.g2, DL.g3, DL.s1, DL.s2, DL.zc, dPar, dChain, DL.e1, DL.e2, DL.e3, DL.e4, DL.e5, DL.e6, DL.e7, DL.e8, DL.e9, DL.e10, DL.e11, DL.e12, DL.e13, DL.e14, DL.a1, DL.a2, DL.a3, DL.a4, DL.a5, DL.a6, DL.a7, DL.a8, DL.a9, DL.a10, DL.a11, DL.t1, DL.t2, DL.t3, DL.x1, DL.x2, DL.x3, DL.x4, DL.x5, DL.x6, DL.x7, DL.x8, DL.x9, DL.x10, DL.x11, DL.x12, DL.y1, DL.y2, DL.eq_ii, DL.ne_ii, DL.k1, DL.k2, DL.k3, DL.k4, DL.k5, DL.k6, DL.z0, DL.z1, DL.z2, DL.z3, DL.z4, DL.z5, DL.z6, DL.z7, DL.z8, DL.z9, DL.z10, DL.z11, DL.z12, DL.z13, DL.z14, DL.z15, DL.z16, DL.z17, DL.z18, DL.z19, DL.z20, DL.z21, DL.z22, DL.z23, DL.z24, DL.z25, DL.z26, DL.z27, DL.z28, DL.z29, DL.ic1, DL.ic2, dPar3, dIs2, dDic0, dCallD, dFld, dProp, dNew, dTkSet, dTkInt, dIter, DL.w0, DL.w1, DL.w2, DL.w3, DL.w4, DL.w5]
  refine (sp__law_is_number rfl).mpr ?_
  simp [phi, startA, dSeq, dNext, dAsg, dAsgG, dIf, dRet, dRetV, dRetN, dDrop, dRaise, dRaiseI, dFz, dFzS, dVar, dC, dBin, dUn, dTest, isB, dAndT, dOrT, dNotT, dAndV, dOrV, dNotV, dIfE, dTruth, dCons, dNil, dTupE, dLstE, dCB, dIs, dCall, gNm, dPart, dNoPart, DL.f0, DL.fc, DL.g1, DL.g2, DL.g3, DL.s1, DL.s2, DL.zc, dPar, dChain, DL.e1, DL.e2, DL.e3, DL.e4, DL.e5, DL.e6, DL.e7, DL.e8, DL.e9, DL.e10, DL.e11, DL.e12, DL.e13, DL.e14, DL.a1, DL.a2, DL.a3, DL.a4, DL.a5, DL.a6, DL.a7, DL.a8, DL.a9, DL.a10, DL.a11, DL.t1, DL.t2, DL.t3, DL.x1, DL.x2, DL.x3, DL.x4, DL.x5, DL.x6, DL.x7, DL.x8, DL.x9, DL.x10, DL.x11, DL.x12, DL.y1, DL.y2, DL.eq_ii, DL.ne_ii, DL.k1, DL.k2, DL.k3, DL.k4, DL.k5, DL.k6, DL.z0, DL.z1, DL.z2, DL.z3, DL.z4, DL.z5, DL.z6, DL.z7, DL.z8, DL.z9, DL.z10, DL.z11, DL.z12, DL.z13, DL.z14, DL.z15, DL.z16, DL.z17, DL.z18, DL.z19, DL.z20, DL.z21, DL.z22, DL.z23, DL.z24, DL.z25, DL.z26, DL.z27, DL.z28, DL.z29, DL.ic1, DL.ic2, dPar3, dIs2, dDic0, dCallD, dFld, dProp, dNew, dTkSet, dTkInt, dIter, DL.w0, DL.w1, DL.w2, DL.w3, DL.w4, DL.w5, D.num]
  refine ⟨lsz (by omega), lsz (by omega), last_pick fun d hd => ?_⟩
  simp [phi, startA, dSeq, dNext, dAsg, dAsgG, dIf, dRet, dRetV, dRetN, dDrop, dRaise, dRaiseI, dFz, dFzS, dVar, dC, dBin, dUn, dTest, isB, dAndT, dOrT, dNotT, dAndV, dOrV, dNotV, dIfE, dTruth, dCons, dNil, dTupE, dLstE, dCB, dIs, dCall, gNm, dPart, dNoPart, DL.f0, DL.fc, DL.g1, DL.g2, DL.g3, DL.s1, DL.s2, DL.zc, dPar, dChain, DL.e1, DL.e2, DL.e3, DL.e4, DL.e5, DL.e6, DL.e7, DL.e8, DL.e9, DL.e10, DL.e11, DL.e12, DL.e13, DL.e14, DL.a1, DL.a2, DL.a3, DL.a4, DL.a5, DL.a6, DL.a7, DL.a8, DL.a9, DL.a10, DL.a11, DL.t1, DL.t2, DL.t3, DL.x1, DL.x2, DL.x3, DL.x4, DL.x5, DL.x6, DL.x7, DL.x8, DL.x9, DL.x10, DL.x11, DL.x12, DL.y1, DL.y2, DL.eq_ii, DL.ne_ii, DL.k1, DL.k2, DL.k3, DL.k4, DL.k5, DL.k6, DL.z0, DL.z1, DL.z2, DL.z3, DL.z4, DL.z5, DL.z6, DL.z7, DL.z8, DL.z9, DL.z10, DL.z11, DL.z12, DL.z13, DL.z14, DL.z15, DL.z16, DL.z17, DL.z18, DL.z19, DL.z20, DL.z21, DL.z22, DL.z23, DL.z24, DL.z25, DL.z26, DL.z27, DL.z28, DL.z29, DL.ic1, DL.ic2, dPar3, dIs2, dDic0, dCallD, dFld, dProp, dNew, dTkSet, dTkInt, dIter, DL.w0, DL.w1, DL.w2, DL.w3, DL.w4, DL.w5]
  exact hq d hd
theorem ret_ok {De : DEnds} {ds items : List D} {s2 s3 : Option S} (hp : items.all D.pl = true) (hq : ∀ d, okv d = true → De.rt (.fr d)) : bRet De [some .tk, some (.fr (.tup ds)), s2, s3, some (.nw (.lst items))] E := by
  unfold bRet
  simp [phi, startA, dSeq, dNext, dAsg, dAsgG, dIf, dRet, dRetV, dRetN, dDrop, dRaise, dRaiseI, dFz, dFzS, dVar, dC, dBin, dUn, dTest, isB, dAndT, dOrT, dNotT, dAndV, dOrV, dNotV, dIfE, dTruth, dCons, dNil, dTupE, dLstE, dCB, dIs, dCall, gNm, dPart, dNoPart, DL.f0, DL.fc, DL.g1, DL.g2, DL.g3, DL.s1, DL.s2, DL.zc, dPar, dChain, DL.e1, DL.e2, DL.e3, DL.e4, DL.e5, DL.e6, DL.e7, DL.e8, DL.e9, DL.e10, DL.e11, DL.e12, DL.e13, DL.e14, DL.a1, DL.a2, DL.a3, DL.a4, DL.a5, DL.a6, DL.a7, DL.a8, DL.a9, DL.a10, DL.a11, DL.t1, DL.t2, DL.t3, DL.x1, DL.x2, DL.x3, DL.x4, DL.x5, DL.x6, DL.x7, DL.x8, DL.x9, DL.x10, DL.x11, DL.x12, DL.y1, DL.y2, DL.eq_ii, DL.ne_ii, DL.k1, DL.k2, DL.k3, DL.k4, DL.k5, DL.k6, DL.z0, DL.z1, DL.z2, DL.z3, DL.z4, DL.z5, DL.z6, DL.z7, DL.z8, DL.z9, DL.z10, DL.z11, DL.z12, DL.z13, DL.z14, DL.z15, DL.z16, DL.z17, DL.z18, DL.z19, DL.z20, DL.z21, DL.z22, DL.z23, DL.z24, DL.z25, DL.z26, DL.z27, DL.z28, DL.z29, DL.ic1, DL.ic2, dPar3, dIs2, dDic0, dCallD, dFld, dProp, dNew, dTkSet, dTkInt, dIter, DL.w0, DL.w1, DL.w2, DL.w3, DL.w4, DL.w5]
  exact hq _ hp
theorem pl_ints (l : List Int) : (l.map D.int).all D.pl = true := by
  rw [List.all_map]
  exact List.all_eq_true.mpr fun x _ => rfl
theorem mid_ok {De : DEnds} {Φ : DF} {l : List Int} {i : Nat} {w : Int} {s1 : Option S} (hl : l.length ≤ 200) (hi : i < l.length) (hΦ : ∀ (v : Int) (Q : S → Prop) (E : XD → Prop), (∀ d : D, d.pl = true → Q (.fr d)) → Φ [.tk, .fr (.int v)] Q E)
    (hn : ∀ items : List D, items.all D.pl = true → De.nx [some .tk, s1, some (.fr (.int i)), some (.fr (.int w)), some (.nw (.lst items))]) : bMid Φ De [some .tk, s1, some (.fr (.int i)), some (.fr (.int w)), some (.nw (.lst (l.map D.int)))] E := by
  have hll : (l.map D.int).length = l.length := List.length_map ..
  have at_ : ∀ j : Nat, j < l.length → ∃ v : Int, (l.map D.int)[j]? = some (.int v) := fun j hj => ⟨l[j], by rw [List.getElem?_map, List.getElem?_eq_getElem hj]; rfl⟩
  obtain ⟨v, hv⟩ := at_ i hi
  have hs : ∀ d : D, d.pl = true → ((l.map D.int).set i d).all D.pl = true := fun d hd => by
    refine List.all_eq_true.mpr fun x hx => ?_
    rcases List.mem_or_eq_of_mem_set hx with h | h
    · exact List.all_eq_true.mp (pl_ints l) x h
    · rw [h]
      exact hd
  have se : dSetI 4 (dCall 2 Φ (dCons (dVar 0) (dCons (dBin fIx (dVar 4) (dVar 2)) dNil))) (dVar 2) De [some .tk, s1, some (.fr (.int i)), some (.fr (.int w)), some (.nw (.lst (l.map D.int)))] E := by
    simp [phi, startA, dSeq, dNext, dAsg, dAsgG, dIf, dRet, dRetV, dRetN, dDrop, dRaise, dRaiseI, dFz, dFzS, dVar, dC, dBin, dUn, dTest, isB, dAndT, dOrT, dNotT, dAndV, dOrV, dNotV, dIfE, dTruth, dCons, dNil, dTupE, dLstE, dCB, dIs, dCall, gNm, dPart, dNoPart, DL.f0, DL.fc, DL.g1, DL.g2, DL.g3, DL.s1, DL.s2, DL.zc, dPar, dChain, DL.e1, DL.e2, DL.e3, DL.e4, DL.e5, DL.e6, DL.e7, DL.e8, DL.e9, DL.e10, DL.e11, DL.e12, DL.e13, DL.e14, DL.a1, DL.a2, DL.a3, DL.a4, DL.a5, DL.a6, DL.a7, DL.a8, DL.a9, DL.a10, DL.a11, DL.t1, DL.t2, DL.t3, DL.x1, DL.x2, DL.x3, DL.x4, DL.x5, DL.x6, DL.x7, DL.x8, DL.x9, DL.x10, DL.x11, DL.x12, DL.y1, DL.y2, DL.eq_ii, DL.ne_ii, DL.k1, DL.k2, DL.k3, DL.k4, DL.k5, DL.k6, DL.z0, DL.z1, DL.z2, DL.z3, DL.z4, DL.z5, DL.z6, DL.z7, DL.z8, DL.z9, DL.z10, DL.z11, DL.z12, DL.z13, DL.z14, DL.z15, DL.z16, DL.z17, DL.z18, DL.z19, DL.z20, DL.z21, DL.z22, DL.z23, DL.z24, DL.z25, DL.z26, DL.z27, DL.z28, DL.z29, DL.ic1, DL.ic2, dPar3, dIs2, dDic0, dCallD, dFld, dProp, dNew, dTkSet, dTkInt, dIter, DL.w0, DL.w1, DL.w2, DL.w3, DL.w4, DL.w5, dSetI]
    refine ⟨.int v, at_nat hv, ?_⟩
    try simp [phi, startA, dSeq, dNext, dAsg, dAsgG, dIf, dRet, dRetV, dRetN, dDrop, dRaise, dRaiseI, dFz, dFzS, dVar, dC, dBin, dUn, dTest, isB, dAndT, dOrT, dNotT, dAndV, dOrV, dNotV, dIfE, dTruth, dCons, dNil, dTupE, dLstE, dCB, dIs, dCall, gNm, dPart, dNoPart, DL.f0, DL.fc, DL.g1, DL.g2, DL.g3, DL.s1, DL.s2, DL.zc, dPar, dChain, DL.e1, DL.e2, DL.e3, DL.e4, DL.e5, DL.e6, DL.e7, DL.e8, DL.e9, DL.e10, DL.e11, DL.e12, DL.e13, DL.e14, DL.a1, DL.a2, DL.a3, DL.a4, DL.a5, DL.a6, DL.a7, DL.a8, DL.a9, DL.a10, DL.a11, DL.t1, DL.t2, DL.t3, DL.x1, DL.x2, DL.x3, DL.x4, DL.x5, DL.x6, DL.x7, DL.x8, DL.x9, DL.x10, DL.x11, DL.x12, DL.y1, DL.y2, DL.eq_ii, DL.ne_ii, DL.k1, DL.k2, DL.k3, DL.k4, DL.k5, DL.k6, DL.z0, DL.z1, DL.z2, DL.z3, DL.z4, DL.z5, DL.z6, DL.z7, DL.z8, DL.z9, DL.z10, DL.z11, DL.z12, DL.z13, DL.z14, DL.z15, DL.z16, DL.z17, DL.z18, DL.z19, DL.z20, DL.z21, DL.z22, DL.z23, DL.z24, DL.z25, DL.z26, DL.z27, DL.z28, DL.z29, DL.ic1, DL.ic2, dPar3, dIs2, dDic0, dCallD, dFld, dProp, dNew, dTkSet, dTkInt, dIter, DL.w0, DL.w1, DL.w2, DL.w3, DL.w4, DL.w5]
    refine hΦ v _ _ fun d hd => ?_
    try simp [phi, startA, dSeq, dNext, dAsg, dAsgG, dIf, dRet, dRetV, dRetN, dDrop, dRaise, dRaiseI, dFz, dFzS, dVar, dC, dBin, dUn, dTest, isB, dAndT, dOrT, dNotT, dAndV, dOrV, dNotV, dIfE, dTruth, dCons, dNil, dTupE, dLstE, dCB, dIs, dCall, gNm, dPart, dNoPart, DL.f0, DL.fc, DL.g1, DL.g2, DL.g3, DL.s1, DL.s2, DL.zc, dPar, dChain, DL.e1, DL.e2, DL.e3, DL.e4, DL.e5, DL.e6, DL.e7, DL.e8, DL.e9, DL.e10, DL.e11, DL.e12, DL.e13, DL.e14, DL.a1, DL.a2, DL.a3, DL.a4, DL.a5, DL.a6, DL.a7, DL.a8, DL.a9, DL.a10, DL.a11, DL.t1, DL.t2, DL.t3, DL.x1, DL.x2, DL.x3, DL.x4, DL.x5, DL.x6, DL.x7, DL.x8, DL.x9, DL.x10, DL.x11, DL.x12, DL.y1, DL.y2, DL.eq_ii, DL.ne_ii, DL.k1, DL.k2, DL.k3, DL.k4, DL.k5, DL.k6, DL.z0, DL.z1, DL.z2, DL.z3, DL.z4, DL.z5, DL.z6, DL.z7, DL.z8, DL.z9, DL.z10, DL.z11, DL.z12, DL.z13, DL.z14, DL.z15, DL.z16, DL.z17, DL.z18, DL.z19, DL.z20, DL.z21, DL.z22, DL.z23, DL.z24, DL.z25, DL.z26, DL.z27, DL.z28, DL.z29, DL.ic1, DL.ic2, dPar3, dIs2, dDic0, dCallD, dFld, dProp, dNew, dTkSet, dTkInt, dIter, DL.w0, DL.w1, DL.w2, DL.w3, DL.w4, DL.w5]
    exact ⟨i, ix_nat hi, hn _ (hs d hd)⟩
  unfold bMid
  simp [phi, startA, dSeq, dNext, dAsg, dAsgG, dIf, dRet, dRetV, dRetN, dDrop, dRaise, dRaiseI, dFz, dFzS, dVar, dC, dBin, dUn, dTest, isB, dAndT, dOrT, dNotT, dAndV, dOrV, dNotV, dIfE, dTruth, dCons, dNil, dTupE, dLstE, dCB, dIs, dCall, gNm, dPart, dNoPart, DL.f0, DL.fc, DL.g1, DL.g2, DL.g3, DL.s1, DL.s2, DL.zc, dPar, dChain, DL.e1, DL.e2, DL.e3, DL.e4, DL.e5, DL.e6, DL.e7, DL.e8, DL.e9, DL.e10, DL.e11, DL.e12, DL.e13, DL.e14, DL.a1, DL.a2, DL.a3, DL.a4, DL.a5, DL.a6, DL.a7, DL.a8, DL.a9, DL.a10, DL.a11, DL.t1, DL.t2, DL.t3, DL.x1, DL.x2, DL.x3, DL.x4, DL.x5, DL.x6, DL.x7, DL.x8, DL.x9, DL.x10, DL.x11, DL.x12, DL.y1, DL.y2, DL.eq_ii, DL.ne_ii, DL.k1, DL.k2, DL.k3, DL.k4, DL.k5, DL.k6, DL.z0, DL.z1, DL.z2, DL.z3, DL.z4, DL.z5, DL.z6, DL.z7, DL.z8, DL.z9, DL.z10, DL.z11, DL.z12, DL.z13, DL.z14, DL.z15, DL.z16, DL.z17, DL.z18, DL.z19, DL.z20, DL.z21, DL.z22, DL.z23, DL.z24, DL.z25, DL.z26, DL.z27, DL.z28, DL.z29, DL.ic1, DL.ic2, dPar3, dIs2, dDic0, dCallD, dFld, dProp, dNew, dTkSet, dTkInt, dIter, DL.w0, DL.w1, DL.w2, DL.w3, DL.w4, DL.w5]
  split
  · simp [phi, startA, dSeq, dNext, dAsg, dAsgG, dIf, dRet, dRetV, dRetN, dDrop, dRaise, dRaiseI, dFz, dFzS, dVar, dC, dBin, dUn, dTest, isB, dAndT, dOrT, dNotT, dAndV, dOrV, dNotV, dIfE, dTruth, dCons, dNil, dTupE, dLstE, dCB, dIs, dCall, gNm, dPart, dNoPart, DL.f0, DL.fc, DL.g1, DL.g2, DL.g3, DL.s1, DL.s2, DL.zc, dPar, dChain, DL.e1, DL.e2, DL.e3, DL.e4, DL.e5, DL.e6, DL.e7, DL.e8, DL.e9, DL.e10, DL.e11, DL.e12, DL.e13, DL.e14, DL.a1, DL.a2, DL.a3, DL.a4, DL.a5, DL.a6, DL.a7, DL.a8, DL.a9, DL.a10, DL.a11, DL.t1, DL.t2, DL.t3, DL.x1, DL.x2, DL.x3, DL.x4, DL.x5, DL.x6, DL.x7, DL.x8, DL.x9, DL.x10, DL.x11, DL.x12, DL.y1, DL.y2, DL.eq_ii, DL.ne_ii, DL.k1, DL.k2, DL.k3, DL.k4, DL.k5, DL.k6, DL.z0, DL.z1, DL.z2, DL.z3, DL.z4, DL.z5, DL.z6, DL.z7, DL.z8, DL.z9, DL.z10, DL.z11, DL.z12, DL.z13, DL.z14, DL.z15, DL.z16, DL.z17, DL.z18, DL.z19, DL.z20, DL.z21, DL.z22, DL.z23, DL.z24, DL.z25, DL.z26, DL.z27, DL.z28, DL.z29, DL.ic1, DL.ic2, dPar3, dIs2, dDic0, dCallD, dFld, dProp, dNew, dTkSet, dTkInt, dIter, DL.w0, DL.w1, DL.w2, DL.w3, DL.w4, DL.w5, dPopAt]
    refine ⟨by omega, i, ?_, hi, hn _ ?_⟩
    · unfold seqIndex?
      simp only [show ¬ ((i : Int) < 0) by omega, if_false]
      rw [if_pos (by simp; omega)]
      rfl
    · exact List.all_eq_true.mpr fun x hx => List.all_eq_true.mp (pl_ints l) x (List.mem_of_mem_eraseIdx hx)
  · split
    · simp [phi, startA, dSeq, dNext, dAsg, dAsgG, dIf, dRet, dRetV, dRetN, dDrop, dRaise, dRaiseI, dFz, dFzS, dVar, dC, dBin, dUn, dTest, isB, dAndT, dOrT, dNotT, dAndV, dOrV, dNotV, dIfE, dTruth, dCons, dNil, dTupE, dLstE, dCB, dIs, dCall, gNm, dPart, dNoPart, DL.f0, DL.fc, DL.g1, DL.g2, DL.g3, DL.s1, DL.s2, DL.zc, dPar, dChain, DL.e1, DL.e2, DL.e3, DL.e4, DL.e5, DL.e6, DL.e7, DL.e8, DL.e9, DL.e10, DL.e11, DL.e12, DL.e13, DL.e14, DL.a1, DL.a2, DL.a3, DL.a4, DL.a5, DL.a6, DL.a7, DL.a8, DL.a9, DL.a10, DL.a11, DL.t1, DL.t2, DL.t3, DL.x1, DL.x2, DL.x3, DL.x4, DL.x5, DL.x6, DL.x7, DL.x8, DL.x9, DL.x10, DL.x11, DL.x12, DL.y1, DL.y2, DL.eq_ii, DL.ne_ii, DL.k1, DL.k2, DL.k3, DL.k4, DL.k5, DL.k6, DL.z0, DL.z1, DL.z2, DL.z3, DL.z4, DL.z5, DL.z6, DL.z7, DL.z8, DL.z9, DL.z10, DL.z11, DL.z12, DL.z13, DL.z14, DL.z15, DL.z16, DL.z17, DL.z18, DL.z19, DL.z20, DL.z21, DL.z22, DL.z23, DL.z24, DL.z25, DL.z26, DL.z27, DL.z28, DL.z29, DL.ic1, DL.ic2, dPar3, dIs2, dDic0, dCallD, dFld, dProp, dNew, dTkSet, dTkInt, dIter, DL.w0, DL.w1, DL.w2, DL.w3, DL.w4, DL.w5, dIns]
      refine ⟨_, at_nat hv, _, _, ⟨rfl, rfl⟩, by omega, by omega, by have := line_big; omega, hn _ ?_⟩
      have pi := pl_ints l
      rw [List.all_append, List.all_cons]
      have t1 : (List.take (i : Int).toNat (l.map D.int)).all D.pl = true := List.all_eq_true.mpr fun x hx => List.all_eq_true.mp pi x (List.mem_of_mem_take hx)
      have t2 : (List.drop (i : Int).toNat (l.map D.int)).all D.pl = true := List.all_eq_true.mpr fun x hx => List.all_eq_true.mp pi x (List.mem_of_mem_drop hx)
      rw [t1, t2]
      rfl
    · split
      · split
        · rename_i h0
          have h0' : 0 < i := by omega
          obtain ⟨u, hu⟩ := at_ (i - 1) (by omega)
          simp [phi, startA, dSeq, dNext, dAsg, dAsgG, dIf, dRet, dRetV, dRetN, dDrop, dRaise, dRaiseI, dFz, dFzS, dVar, dC, dBin, dUn, dTest, isB, dAndT, dOrT, dNotT, dAndV, dOrV, dNotV, dIfE, dTruth, dCons, dNil, dTupE, dLstE, dCB, dIs, dCall, gNm, dPart, dNoPart, DL.f0, DL.fc, DL.g1, DL.g2, DL.g3, DL.s1, DL.s2, DL.zc, dPar, dChain, DL.e1, DL.e2, DL.e3, DL.e4, DL.e5, DL.e6, DL.e7, DL.e8, DL.e9, DL.e10, DL.e11, DL.e12, DL.e13, DL.e14, DL.a1, DL.a2, DL.a3, DL.a4, DL.a5, DL.a6, DL.a7, DL.a8, DL.a9, DL.a10, DL.a11, DL.t1, DL.t2, DL.t3, DL.x1, DL.x2, DL.x3, DL.x4, DL.x5, DL.x6, DL.x7, DL.x8, DL.x9, DL.x10, DL.x11, DL.x12, DL.y1, DL.y2, DL.eq_ii, DL.ne_ii, DL.k1, DL.k2, DL.k3, DL.k4, DL.k5, DL.k6, DL.z0, DL.z1, DL.z2, DL.z3, DL.z4, DL.z5, DL.z6, DL.z7, DL.z8, DL.z9, DL.z10, DL.z11, DL.z12, DL.z13, DL.z14, DL.z15, DL.z16, DL.z17, DL.z18, DL.z19, DL.z20, DL.z21, DL.z22, DL.z23, DL.z24, DL.z25, DL.z26, DL.z27, DL.z28, DL.z29, DL.ic1, DL.ic2, dPar3, dIs2, dDic0, dCallD, dFld, dProp, dNew, dTkSet, dTkInt, dIter, DL.w0, DL.w1, DL.w2, DL.w3, DL.w4, DL.w5, dSl]
          refine ⟨_, at_nat hv, .int u, by rw [show (i : Int) - 1 = ((i - 1 : Nat) : Int) by omega]; exact at_nat hu, lsz (by omega), ?_⟩
          rw [show (i : Int) - 1 = ((i - 1 : Nat) : Int) by omega, cut_to, show (i : Int) + 1 = ((i + 1 : Nat) : Int) by omega, cut_from]
          have pi := pl_ints l
          have t1 : (List.take (i - 1) (l.map D.int)).all D.pl = true := List.all_eq_true.mpr fun x hx => List.all_eq_true.mp pi x (List.mem_of_mem_take hx)
          have t2 : (List.drop (i + 1) (l.map D.int)).all D.pl = true := List.all_eq_true.mpr fun x hx => List.all_eq_true.mp pi x (List.mem_of_mem_drop hx)
          refine ⟨lsz ?_, lsz ?_, fun d z => (nomatch z), hn _ ?_⟩
          · rw [List.length_take, hll]
            simp
            omega
          · simp
            omega
          · rw [List.all_append, List.all_append, t1, t2]
            rfl
        · exact se
      · exact se
theorem bent_tup {n : Nat} {l : List Int} (hl : l.length ≤ 200) (q : ∀ d : D, okv d = true → Q (.fr d)) : phiR NB t__law_al_bent (n + 2) [.tk, .fr (.tup (l.map D.int))] Q E := by
  unfold phiR
  rw [cut_bent]
  simp [phi, startA, dSeq, dNext, dAsg, dAsgG, dIf, dRet, dRetV, dRetN, dDrop, dRaise, dRaiseI, dFz, dFzS, dVar, dC, dBin, dUn, dTest, isB, dAndT, dOrT, dNotT, dAndV, dOrV, dNotV, dIfE, dTruth, dCons, dNil, dTupE, dLstE, dCB, dIs, dCall, gNm, dPart, dNoPart, DL.f0, DL.fc, DL.g1, DL.g2, DL.g3, DL.s1, DL.s2, DL.zc, dPar, dChain, DL.e1, DL.e2, DL.e3, DL.e4, DL.e5, DL.e6, DL.e7, DL.e8, DL.e9, DL.e10, DL.e11, DL.e12, DL.e13, DL.e14, DL.a1, DL.a2, DL.a3, DL.a4, DL.a5, DL.a6, DL.a7, DL.a8, DL.a9, DL.a10, DL.a11, DL.t1, DL.t2, DL.t3, DL.x1, DL.x2, DL.x3, DL.x4, DL.x5, DL.x6, DL.x7, DL.x8, DL.x9, DL.x10, DL.x11, DL.x12, DL.y1, DL.y2, DL.eq_ii, DL.ne_ii, DL.k1, DL.k2, DL.k3, DL.k4, DL.k5, DL.k6, DL.z0, DL.z1, DL.z2, DL.z3, DL.z4, DL.z5, DL.z6, DL.z7, DL.z8, DL.z9, DL.z10, DL.z11, DL.z12, DL.z13, DL.z14, DL.z15, DL.z16, DL.z17, DL.z18, DL.z19, DL.z20, DL.z21, DL.z22, DL.z23, DL.z24, DL.z25, DL.z26, DL.z27, DL.z28, DL.z29, DL.ic1, DL.ic2, dPar3, dIs2, dDic0, dCallD, dFld, dProp, dNew, dTkSet, dTkInt, dIter, DL.w0, DL.w1, DL.w2, DL.w3, DL.w4, DL.w5]
  have tl : bTail { nx := fun x => Q (S.fr D.non), rt := Q } [some S.tk, some (S.fr (D.tup (List.map D.int l))), none, none, none] E := tail_ok q
  split
  · refine sp__law_draw (by omega) (by omega) fun m m0 m1 => ?_
    simp [phi, startA, dSeq, dNext, dAsg, dAsgG, dIf, dRet, dRetV, dRetN, dDrop, dRaise, dRaiseI, dFz, dFzS, dVar, dC, dBin, dUn, dTest, isB, dAndT, dOrT, dNotT, dAndV, dOrV, dNotV, dIfE, dTruth, dCons, dNil, dTupE, dLstE, dCB, dIs, dCall, gNm, dPart, dNoPart, DL.f0, DL.fc, DL.g1, DL.g2, DL.g3, DL.s1, DL.s2, DL.zc, dPar, dChain, DL.e1, DL.e2, DL.e3, DL.e4, DL.e5, DL.e6, DL.e7, DL.e8, DL.e9, DL.e10, DL.e11, DL.e12, DL.e13, DL.e14, DL.a1, DL.a2, DL.a3, DL.a4, DL.a5, DL.a6, DL.a7, DL.a8, DL.a9, DL.a10, DL.a11, DL.t1, DL.t2, DL.t3, DL.x1, DL.x2, DL.x3, DL.x4, DL.x5, DL.x6, DL.x7, DL.x8, DL.x9, DL.x10, DL.x11, DL.x12, DL.y1, DL.y2, DL.eq_ii, DL.ne_ii, DL.k1, DL.k2, DL.k3, DL.k4, DL.k5, DL.k6, DL.z0, DL.z1, DL.z2, DL.z3, DL.z4, DL.z5, DL.z6, DL.z7, DL.z8, DL.z9, DL.z10, DL.z11, DL.z12, DL.z13, DL.z14, DL.z15, DL.z16, DL.z17, DL.z18, DL.z19, DL.z20, DL.z21, DL.z22, DL.z23, DL.z24, DL.z25, DL.z26, DL.z27, DL.z28, DL.z29, DL.ic1, DL.ic2, dPar3, dIs2, dDic0, dCallD, dFld, dProp, dNew, dTkSet, dTkInt, dIter, DL.w0, DL.w1, DL.w2, DL.w3, DL.w4, DL.w5]
    split
    · refine sp__law_draw (by omega) (by omega) fun i i0 i1 => ?_
      simp [phi, startA, dSeq, dNext, dAsg, dAsgG, dIf, dRet, dRetV, dRetN, dDrop, dRaise, dRaiseI, dFz, dFzS, dVar, dC, dBin, dUn, dTest, isB, dAndT, dOrT, dNotT, dAndV, dOrV, dNotV, dIfE, dTruth, dCons, dNil, dTupE, dLstE, dCB, dIs, dCall, gNm, dPart, dNoPart, DL.f0, DL.fc, DL.g1, DL.g2, DL.g3, DL.s1, DL.s2, DL.zc, dPar, dChain, DL.e1, DL.e2, DL.e3, DL.e4, DL.e5, DL.e6, DL.e7, DL.e8, DL.e9, DL.e10, DL.e11, DL.e12, DL.e13, DL.e14, DL.a1, DL.a2, DL.a3, DL.a4, DL.a5, DL.a6, DL.a7, DL.a8, DL.a9, DL.a10, DL.a11, DL.t1, DL.t2, DL.t3, DL.x1, DL.x2, DL.x3, DL.x4, DL.x5, DL.x6, DL.x7, DL.x8, DL.x9, DL.x10, DL.x11, DL.x12, DL.y1, DL.y2, DL.eq_ii, DL.ne_ii, DL.k1, DL.k2, DL.k3, DL.k4, DL.k5, DL.k6, DL.z0, DL.z1, DL.z2, DL.z3, DL.z4, DL.z5, DL.z6, DL.z7, DL.z8, DL.z9, DL.z10, DL.z11, DL.z12, DL.z13, DL.z14, DL.z15, DL.z16, DL.z17, DL.z18, DL.z19, DL.z20, DL.z21, DL.z22, DL.z23, DL.z24, DL.z25, DL.z26, DL.z27, DL.z28, DL.z29, DL.ic1, DL.ic2, dPar3, dIs2, dDic0, dCallD, dFld, dProp, dNew, dTkSet, dTkInt, dIter, DL.w0, DL.w1, DL.w2, DL.w3, DL.w4, DL.w5]
      refine sp__law_draw (by omega) (by omega) fun w w0 w1 => ?_
      simp [phi, startA, dSeq, dNext, dAsg, dAsgG, dIf, dRet, dRetV, dRetN, dDrop, dRaise, dRaiseI, dFz, dFzS, dVar, dC, dBin, dUn, dTest, isB, dAndT, dOrT, dNotT, dAndV, dOrV, dNotV, dIfE, dTruth, dCons, dNil, dTupE, dLstE, dCB, dIs, dCall, gNm, dPart, dNoPart, DL.f0, DL.fc, DL.g1, DL.g2, DL.g3, DL.s1, DL.s2, DL.zc, dPar, dChain, DL.e1, DL.e2, DL.e3, DL.e4, DL.e5, DL.e6, DL.e7, DL.e8, DL.e9, DL.e10, DL.e11, DL.e12, DL.e13, DL.e14, DL.a1, DL.a2, DL.a3, DL.a4, DL.a5, DL.a6, DL.a7, DL.a8, DL.a9, DL.a10, DL.a11, DL.t1, DL.t2, DL.t3, DL.x1, DL.x2, DL.x3, DL.x4, DL.x5, DL.x6, DL.x7, DL.x8, DL.x9, DL.x10, DL.x11, DL.x12, DL.y1, DL.y2, DL.eq_ii, DL.ne_ii, DL.k1, DL.k2, DL.k3, DL.k4, DL.k5, DL.k6, DL.z0, DL.z1, DL.z2, DL.z3, DL.z4, DL.z5, DL.z6, DL.z7, DL.z8, DL.z9, DL.z10, DL.z11, DL.z12, DL.z13, DL.z14, DL.z15, DL.z16, DL.z17, DL.z18, DL.z19, DL.z20, DL.z21, DL.z22, DL.z23, DL.z24, DL.z25, DL.z26, DL.z27, DL.z28, DL.z29, DL.ic1, DL.ic2, dPar3, dIs2, dDic0, dCallD, dFld, dProp, dNew, dTkSet, dTkInt, dIter, DL.w0, DL.w1, DL.w2, DL.w3, DL.w4, DL.w5]
      unfold fList
      refine ⟨fun d z => (nomatch z), ?_⟩
      obtain ⟨j, rfl⟩ : ∃ j : Nat, i = j := ⟨i.toNat, by omega⟩
      refine mid_ok hl (by omega) (fun v Q E h => bent_int h) fun items hp => ?_
      exact ret_ok hp q
    · exact tl
  · exact tl
end
end LW

set_option linter.all false
set_option maxRecDepth 100000
set_option maxHeartbeats 4000000
namespace LW
open PySem PySem.Spec L2 DL
def e18 : Int := 10 ^ 18
def dP18 : DE := (dBin fPow (dC (.int 10)) (dC (.int 18)))
theorem dP18_ {α : AE} {Q : S → Prop} {E : XD → Prop} (q : Q (.fr (.int e18))) : dP18 α Q E := ⟨pow_ok (by omega) (by omega) (by omega), q⟩
theorem cut_begun : t1__law_begun = (dAsg 1 (dLc (dIter (dVar 0)) (gNm 2) (dTest (dBin fGe (dCB (one fAbs) (dCons (dVar 2) dNil)) dP18)) (dBin fSub (dCB (one fAbs) (dCons (dVar 2) dNil)) dP18) [2])) := rfl
def fBig (z : Int) : Option Int := if e18 ≤ (z.natAbs : Int) then some ((z.natAbs : Int) - e18) else none
def fBigD : D → Option D
  | .int z => (fBig z).map D.int
  | _ => none
theorem begun_plain : ∀ ns : List Int, ns.length ≤ 63 → t1__law_begun { nx := fun α => u__law_begun α (tapeSs tn k__law_begun) (fun _ => False), rt := fun _ => False } (startA ["script", "great", "cell"] [.fr (.scr ns)]) (fun _ => False) := by
  intro ns hl
  rw [cut_begun]
  unfold u__law_begun tapeSs
  simp [phi, startA, dSeq, dNext, dAsg, dAsgG, dIf, dRet, dRetV, dRetN, dDrop, dRaise, dRaiseI, dFz, dFzS, dVar, dC, dBin, dUn, dTest, isB, dAndT, dOrT, dNotT, dAndV, dOrV, dNotV, dIfE, dTruth, dCons, dNil, dTupE, dLstE, dCB, dIs, dCall, gNm, dPart, dNoPart, DL.f0, DL.fc, DL.g1, DL.g2, DL.g3, DL.s1, DL.s2, DL.zc, dPar, dChain, DL.e1, DL.e2, DL.e3, DL.e4, DL.e5, DL.e6, DL.e7, DL.e8, DL.e9, DL.e10, DL.e11, DL.e12, DL.e13, DL.e14, DL.a1, DL.a2, DL.a3, DL.a4, DL.a5, DL.a6, DL.a7, DL.a8, DL.a9, DL.a10, DL.a11, DL.t1, DL.t2, DL.t3, DL.x1, DL.x2, DL.x3, DL.x4, DL.x5, DL.x6, DL.x7, DL.x8, DL.x9, DL.x10, DL.x11, DL.x12, DL.y1, DL.y2, DL.eq_ii, DL.ne_ii, DL.k1, DL.k2, DL.k3, DL.k4, DL.k5, DL.k6, DL.z0, DL.z1, DL.z2, DL.z3, DL.z4, DL.z5, DL.z6, DL.z7, DL.z8, DL.z9, DL.z10, DL.z11, DL.z12, DL.z13, DL.z14, DL.z15, DL.z16, DL.z17, DL.z18, DL.z19, DL.z20, DL.z21, DL.z22, DL.z23, DL.z24, DL.z25, DL.z26, DL.z27, DL.z28, DL.z29, DL.ic1, DL.ic2, dPar3, dIs2, dDic0, dCallD, dFld, dProp, dNew, dTkSet, dTkInt, dIter, DL.w0, DL.w1, DL.w2, DL.w3, DL.w4, DL.w5, dLc, wipeA, tn, k__law_begun]
  refine lc_of fBigD _ _ (fun d hd P k0 hp => ?_) (lsz (by simp; omega)) ?_
  · obtain ⟨z, hz, rfl⟩ := List.mem_map.mp hd
    simp [phi, startA, dSeq, dNext, dAsg, dAsgG, dIf, dRet, dRetV, dRetN, dDrop, dRaise, dRaiseI, dFz, dFzS, dVar, dC, dBin, dUn, dTest, isB, dAndT, dOrT, dNotT, dAndV, dOrV, dNotV, dIfE, dTruth, dCons, dNil, dTupE, dLstE, dCB, dIs, dCall, gNm, dPart, dNoPart, DL.f0, DL.fc, DL.g1, DL.g2, DL.g3, DL.s1, DL.s2, DL.zc, dPar, dChain, DL.e1, DL.e2, DL.e3, DL.e4, DL.e5, DL.e6, DL.e7, DL.e8, DL.e9, DL.e10, DL.e11, DL.e12, DL.e13, DL.e14, DL.a1, DL.a2, DL.a3, DL.a4, DL.a5, DL.a6, DL.a7, DL.a8, DL.a9, DL.a10, DL.a11, DL.t1, DL.t2, DL.t3, DL.x1, DL.x2, DL.x3, DL.x4, DL.x5, DL.x6, DL.x7, DL.x8, DL.x9, DL.x10, DL.x11, DL.x12, DL.y1, DL.y2, DL.eq_ii, DL.ne_ii, DL.k1, DL.k2, DL.k3, DL.k4, DL.k5, DL.k6, DL.z0, DL.z1, DL.z2, DL.z3, DL.z4, DL.z5, DL.z6, DL.z7, DL.z8, DL.z9, DL.z10, DL.z11, DL.z12, DL.z13, DL.z14, DL.z15, DL.z16, DL.z17, DL.z18, DL.z19, DL.z20, DL.z21, DL.z22, DL.z23, DL.z24, DL.z25, DL.z26, DL.z27, DL.z28, DL.z29, DL.ic1, DL.ic2, dPar3, dIs2, dDic0, dCallD, dFld, dProp, dNew, dTkSet, dTkInt, dIter, DL.w0, DL.w1, DL.w2, DL.w3, DL.w4, DL.w5]
    refine dP18_ ?_
    simp only [DL.e1, DL.a11, abs_eq]
    refine ⟨_, rfl, ?_⟩
    simp only [fBigD, fBig] at hp
    by_cases h : e18 ≤ (z.natAbs : Int)
    · rw [decide_eq_true h]
      refine (if_pos rfl).mpr ?_
      rw [if_pos h] at hp
      refine dP18_ ?_
      exact ⟨_, rfl, hp⟩
    · rw [decide_eq_false h]
      refine (if_neg (by simp)).mpr ?_
      rw [if_neg h] at hp
      exact hp
  · refine lc_map (fun d => match d with | .int z => .int (z.natAbs : Int) | d => d) (fun d hd P k0 hp => ?_) (lsz (by simp; omega)) ?_
    · obtain ⟨z, hz, rfl⟩ := List.mem_map.mp hd
      simp [phi, startA, dSeq, dNext, dAsg, dAsgG, dIf, dRet, dRetV, dRetN, dDrop, dRaise, dRaiseI, dFz, dFzS, dVar, dC, dBin, dUn, dTest, isB, dAndT, dOrT, dNotT, dAndV, dOrV, dNotV, dIfE, dTruth, dCons, dNil, dTupE, dLstE, dCB, dIs, dCall, gNm, dPart, dNoPart, DL.f0, DL.fc, DL.g1, DL.g2, DL.g3, DL.s1, DL.s2, DL.zc, dPar, dChain, DL.e1, DL.e2, DL.e3, DL.e4, DL.e5, DL.e6, DL.e7, DL.e8, DL.e9, DL.e10, DL.e11, DL.e12, DL.e13, DL.e14, DL.a1, DL.a2, DL.a3, DL.a4, DL.a5, DL.a6, DL.a7, DL.a8, DL.a9, DL.a10, DL.a11, DL.t1, DL.t2, DL.t3, DL.x1, DL.x2, DL.x3, DL.x4, DL.x5, DL.x6, DL.x7, DL.x8, DL.x9, DL.x10, DL.x11, DL.x12, DL.y1, DL.y2, DL.eq_ii, DL.ne_ii, DL.k1, DL.k2, DL.k3, DL.k4, DL.k5, DL.k6, DL.z0, DL.z1, DL.z2, DL.z3, DL.z4, DL.z5, DL.z6, DL.z7, DL.z8, DL.z9, DL.z10, DL.z11, DL.z12, DL.z13, DL.z14, DL.z15, DL.z16, DL.z17, DL.z18, DL.z19, DL.z20, DL.z21, DL.z22, DL.z23, DL.z24, DL.z25, DL.z26, DL.z27, DL.z28, DL.z29, DL.ic1, DL.ic2, dPar3, dIs2, dDic0, dCallD, dFld, dProp, dNew, dTkSet, dTkInt, dIter, DL.w0, DL.w1, DL.w2, DL.w3, DL.w4, DL.w5, dYes, abs_eq]
      simpa [abs_eq] using hp
    · refine ⟨ns.filterMap fBig, fun x hx => ?_, ns.map fun z => (z.natAbs : Int), fun x hx => ?_, ?_, ?_⟩
      · obtain ⟨z, _, e⟩ := List.mem_filterMap.mp hx
        unfold fBig at e
        split at e
        · cases e
          omega
        · cases e
      · obtain ⟨z, _, rfl⟩ := List.mem_map.mp hx
        omega
      · rw [List.nil_append, List.filterMap_map, List.map_filterMap]
        rfl
      · rw [List.map_map, List.map_map]
        rfl
end LW

set_option linter.all false
set_option maxRecDepth 100000
set_option maxHeartbeats 4000000
namespace LW
open PySem PySem.Spec L2 DL
def e40 : Int := 10 ^ 40
def dP40 : DE := (dBin fPow (dC (.int 10)) (dC (.int 40)))
section
variable {Q : S → Prop} {E : XD → Prop} {De : DEnds} {a b : Int} {as vs : List D} {l : List Int} {i : Nat} {s0 s2 s9 s10 s11 s12 s13 s14 : Option S}
theorem dP40_ {α : AE} (q : Q (.fr (.int e40))) : dP40 α Q E := ⟨pow_ok (by omega) (by omega) (by omega), q⟩
def l1 : DS := (dFor (dIter (dLstE (dCons (dC .non) (dCons (dC (.bl true)) (dCons (dC (.bl false)) (dCons (dC (.str "1")) (dCons (dTupE (dCons (dVar 3) dNil)) (dCons (dLstE (dCons (dVar 3) dNil)) (dCons (dBin fPow (dC (.int 10)) (dC (.int 40))) (dCons (dUn fNeg (dBin fPow (dC (.int 10)) (dC (.int 40)))) (dCons (dC (.int 0)) (dCons (dC (.int 1)) dNil)))))))))))) (gNm 9) (dApp 8 (dCons (dBin fAdd (dBin fAdd (dSl (dVar 6) dNoPart (dPart (dVar 7))) (dTupE (dCons (dVar 9) dNil))) (dSl (dVar 6) (dPart (dVar 7)) dNoPart)) dNil)))
def l2 : DS := (dFor (dIter (dBin fAdd (dVar 8) (dLcC (dRng1 (dCons (dC (.int 6)) dNil)) (gNm 11) dYes (dCall 2 phi__law_al_bent (dCons (dVar 1) (dCons (dVar 6) dNil))) [11]))) (gNm 10) (dSeq (dAsg 12 (dFz (dCall 3 phi__law_al_is_stream (dCons (dVar 3) (dCons (dVar 4) (dCons (dVar 10) dNil)))))) (dIf (dOrT (dNotT (dTruth (dCall 2 phi__law_is_truth (dCons (dCall 2 phi_is_stream (dCons (dVar 5) (dCons (dVar 10) dNil))) (dCons (dVar 12) dNil))))) (dNotT (dTruth (dCall 2 phi__law_is_truth (dCons (dCallK 2 2 [1, 0] phi_is_stream (dCons (dVar 10) (dCons (dVar 5) dNil))) (dCons (dVar 12) dNil)))))) (dRet (dC (.bl false))) dNext)))
def l3 : DS := (dFzS 8 (dSeq (dAsg 13 (dFz (dCaught okc (dCall 2 phi_is_stream (dCons (dCall 1 phi__law_al_no_alarms (dCons (dVar 1) dNil)) (dCons (dVar 6) dNil)))))) (dIf (dOrT (dNotT (dTruth (dIs nCls exB (isC subB 5) (dVar 13)))) (dTest (dBin fNotN (dXt "part" 0 okf_part (dVar 13)) (dC .non)))) (dRet (dC (.bl false))) dNext)))
def lEnd : DS := (dSeq (dAsg 14 (dFz (dNew 3 phi_Alarms_dot_init (dCons (dUn fNeg (dC (.int 100))) (dCons (dC (.int 100)) (dCons (dLstE (dCons (dTupE (dCons (dC (.str "over")) (dCons (dC (.int 1)) (dCons (dC (.int 0)) dNil)))) dNil)) dNil)))))) (dRet (dAndV (dBin fIsB (dCall 2 phi_is_stream (dCons (dVar 14) (dCons (dTupE (dCons (dUn fNeg (dC (.int 100))) (dCons (dC (.int 100)) dNil))) dNil))) (dC (.bl true))) (dAndV (dBin fIsB (dCall 2 phi_is_stream (dCons (dVar 14) (dCons (dTupE (dCons (dUn fNeg (dC (.int 101))) dNil)) dNil))) (dC (.bl false))) (dAndV (dBin fIsB (dCall 2 phi_is_stream (dCons (dVar 14) (dCons (dTupE (dCons (dC (.int 101)) dNil)) dNil))) (dC (.bl false))) (dBin fIsB (dCall 2 phi_is_stream (dCons (dVar 14) (dCons (dTupE (dCons (dC (.bl true)) dNil)) dNil))) (dC (.bl false))))))))
theorem cut_law : t_law = dSeq (dForC (dRng1 (dCons (dBin fAdd (dC (.int 5)) (dCB (two fMin2) (dCons (dCB (one fLen) (dCons (dVar 0) dNil)) (dCons (dC (.int 9)) dNil)))) dNil)) (gNm 2) (dSeq (dAsgG (dCall 1 phi__law_al_values (dCons (dVar 1) dNil)) (gTp 2 (gsCons (gNm 3) (gsCons (gNm 4) gsNil)))) (dSeq (dAsg 5 (dFz (dNew 3 phi_Alarms_dot_init (dCons (dVar 3) (dCons (dVar 4) (dCons (dCall 4 phi__law_al_several (dCons (dVar 1) (dCons (dVar 3) (dCons (dVar 4) (dCons (dC (.int 8)) dNil))))) dNil)))))) (dSeq (dAsg 6 (dFz (dCall 4 phi__law_al_stream (dCons (dVar 1) (dCons (dVar 3) (dCons (dVar 4) (dCons (dCall 2 phi__law_pick (dCons (dVar 1) (dCons (dLstE (dCons (dC (.int 0)) (dCons (dC (.int 1)) (dCons (dC (.int 5)) (dCons (dC (.int 30)) (dCons (dC (.int 199)) dNil)))))) dNil))) dNil))))))) (dSeq (dAsg 7 (dFz (dCall 2 phi__law_draw (dCons (dVar 1) (dCons (dBin fAdd (dCB (one fLen) (dCons (dVar 6) dNil)) (dC (.int 1))) dNil))))) (dSeq (dAsg 8 (dLstE (dCons (dVar 6) (dCons (dCB (one fList) (dCons (dVar 6) dNil)) (dCons (dBin fAdd (dVar 6) (dTupE (dCons (dVar 3) dNil))) (dCons (dBin fAdd (dVar 6) (dTupE (dCons (dVar 4) dNil))) (dCons (dBin fAdd (dVar 6) (dTupE (dCons (dBin fSub (dVar 3) (dC (.int 1))) dNil))) (dCons (dBin fAdd (dTupE (dCons (dBin fAdd (dVar 4) (dC (.int 1))) dNil)) (dVar 6)) (dCons (dTupE dNil) (dCons (dLstE dNil) (dCons (dC .non) (dCons (dC (.int 5)) (dCons (dC (.str "0")) (dCons dDic0 (dCons (dDic [.inl 0] (dCons (dVar 3) dNil)) (dCons (dBin fAdd (dVar 6) (dVar 6)) dNil)))))))))))))))) (dSeq (dAsg 8 (dBin fAdd (dVar 8) (dLstE (dCons (dBin fRep (dTupE (dCons (dVar 3) dNil)) (dC (.int 200))) (dCons (dBin fRep (dTupE (dCons (dVar 3) dNil)) (dC (.int 201))) (dCons (dBin fRep (dTupE (dCons (dVar 4) dNil)) (dC (.int 201))) dNil)))))) (dSeq l1 (dSeq l2 l3))))))))) lEnd := rfl
theorem cut_l1 : l1 = dFor (dIter (dLstE (dCons (dC .non) (dCons (dC (.bl true)) (dCons (dC (.bl false)) (dCons (dC (.str "1")) (dCons (dTupE (dCons (dVar 3) dNil)) (dCons (dLstE (dCons (dVar 3) dNil)) (dCons dP40 (dCons (dUn fNeg dP40) (dCons (dC (.int 0)) (dCons (dC (.int 1)) dNil)))))))))))) (gNm 9) (dApp 8 (dCons (dBin fAdd (dBin fAdd (dSl (dVar 6) dNoPart (dPart (dVar 7))) (dTupE (dCons (dVar 9) dNil))) (dSl (dVar 6) (dPart (dVar 7)) dNoPart)) dNil)) := rfl
theorem pl_take {l : List D} {n : Nat} (h : l.all D.pl = true) : (l.take n).all D.pl = true := List.all_eq_true.mpr fun x hx => List.all_eq_true.mp h x (List.mem_of_mem_take hx)
theorem pl_drop {l : List D} {n : Nat} (h : l.all D.pl = true) : (l.drop n).all D.pl = true := List.all_eq_true.mpr fun x hx => List.all_eq_true.mp h x (List.mem_of_mem_drop hx)
theorem l1_ok (hl : l.length ≤ 200) (hvl : vs.length ≤ 100) (hv : ∀ v ∈ vs, okv v = true) (h9 : S.noOwn s9 = true)
    (hn : ∀ (ws : List D) (s9 : Option S), ws.length ≤ 120 → (∀ v ∈ ws, okv v = true) → S.noOwn s9 = true → De.nx [s0, some .tk, s2, some (.fr (.int a)), some (.fr (.int b)), some (.fr (al a b as)), some (.fr (.tup (l.map D.int))), some (.fr (.int i)), some (.nw (.lst ws)), s9, s10, s11, s12, s13, s14]) :
    l1 De [s0, some .tk, s2, some (.fr (.int a)), some (.fr (.int b)), some (.fr (al a b as)), some (.fr (.tup (l.map D.int))), some (.fr (.int i)), some (.nw (.lst vs)), s9, s10, s11, s12, s13, s14] E := by
  rw [cut_l1]
  simp [phi, startA, dSeq, dNext, dAsg, dAsgG, dIf, dRet, dRetV, dRetN, dDrop, dRaise, dRaiseI, dFz, dFzS, dVar, dC, dBin, dUn, dTest, isB, dAndT, dOrT, dNotT, dAndV, dOrV, dNotV, dIfE, dTruth, dCons, dNil, dTupE, dLstE, dCB, dIs, dCall, gNm, dPart, dNoPart, DL.f0, DL.fc, DL.g1, DL.g2, DL.g3, DL.s1, DL.s2, DL.zc, dPar, dChain, DL.e1, DL.e2, DL.e3, DL.e4, DL.e5, DL.e6, DL.e7, DL.e8, DL.e9, DL.e10, DL.e11, DL.e12, DL.e13, DL.e14, DL.a1, DL.a2, DL.a3, DL.a4, DL.a5, DL.a6, DL.a7, DL.a8, DL.a9, DL.a10, DL.a11, DL.t1, DL.t2, DL.t3, DL.x1, DL.x2, DL.x3, DL.x4, DL.x5, DL.x6, DL.x7, DL.x8, DL.x9, DL.x10, DL.x11, DL.x12, DL.y1, DL.y2, DL.eq_ii, DL.ne_ii, DL.k1, DL.k2, DL.k3, DL.k4, DL.k5, DL.k6, DL.z0, DL.z1, DL.z2, DL.z3, DL.z4, DL.z5, DL.z6, DL.z7, DL.z8, DL.z9, DL.z10, DL.z11, DL.z12, DL.z13, DL.z14, DL.z15, DL.z16, DL.z17, DL.z18, DL.z19, DL.z20, DL.z21, DL.z22, DL.z23, DL.z24, DL.z25, DL.z26, DL.z27, DL.z28, DL.z29, DL.ic1, DL.ic2, dPar3, dIs2, dDic0, dCallD, dFld, dProp, dNew, dTkSet, dTkInt, dIter, DL.w0, DL.w1, DL.w2, DL.w3, DL.w4, DL.w5, dFor]
  refine ⟨lsz (by omega), dP40_ (dP40_ ?_)⟩
  simp only [DL.e1, DL.a7, DL.e4]
  refine ⟨[.int e40, .int (-e40), .int 0, .int 1], rfl, lsz (by simp), ?_⟩
  refine for_invN (fun j α => ∃ (ws : List D) (s9 : Option S), ws.length = vs.length + j ∧ (∀ v ∈ ws, okv v = true) ∧ S.noOwn s9 = true ∧ α = [s0, some .tk, s2, some (.fr (.int a)), some (.fr (.int b)), some (.fr (al a b as)), some (.fr (.tup (l.map D.int))), some (.fr (.int i)), some (.nw (.lst ws)), s9, s10, s11, s12, s13, s14]) 0 (fun j d hd α hα nxt hx => ?_) ⟨vs, s9, rfl, hv, h9, rfl⟩ (fun α hα => ?_)
  · obtain ⟨ws, s9, e1, e2, e3, rfl⟩ := hα
    have hj : j < 10 := by
      cases Nat.lt_or_ge j 10 with
      | inl h => exact h
      | inr h =>
        rw [List.getElem?_eq_none (by simpa using h)] at hd
        cases hd
    have hp : d.pl = true := by
      have m := List.mem_of_getElem? hd
      simp only [List.mem_cons, List.not_mem_nil, or_false] at m
      rcases m with rfl | rfl | rfl | rfl | rfl | rfl | rfl | rfl | rfl | rfl <;> rfl
    simp [phi, startA, dSeq, dNext, dAsg, dAsgG, dIf, dRet, dRetV, dRetN, dDrop, dRaise, dRaiseI, dFz, dFzS, dVar, dC, dBin, dUn, dTest, isB, dAndT, dOrT, dNotT, dAndV, dOrV, dNotV, dIfE, dTruth, dCons, dNil, dTupE, dLstE, dCB, dIs, dCall, gNm, dPart, dNoPart, DL.f0, DL.fc, DL.g1, DL.g2, DL.g3, DL.s1, DL.s2, DL.zc, dPar, dChain, DL.e1, DL.e2, DL.e3, DL.e4, DL.e5, DL.e6, DL.e7, DL.e8, DL.e9, DL.e10, DL.e11, DL.e12, DL.e13, DL.e14, DL.a1, DL.a2, DL.a3, DL.a4, DL.a5, DL.a6, DL.a7, DL.a8, DL.a9, DL.a10, DL.a11, DL.t1, DL.t2, DL.t3, DL.x1, DL.x2, DL.x3, DL.x4, DL.x5, DL.x6, DL.x7, DL.x8, DL.x9, DL.x10, DL.x11, DL.x12, DL.y1, DL.y2, DL.eq_ii, DL.ne_ii, DL.k1, DL.k2, DL.k3, DL.k4, DL.k5, DL.k6, DL.z0, DL.z1, DL.z2, DL.z3, DL.z4, DL.z5, DL.z6, DL.z7, DL.z8, DL.z9, DL.z10, DL.z11, DL.z12, DL.z13, DL.z14, DL.z15, DL.z16, DL.z17, DL.z18, DL.z19, DL.z20, DL.z21, DL.z22, DL.z23, DL.z24, DL.z25, DL.z26, DL.z27, DL.z28, DL.z29, DL.ic1, DL.ic2, dPar3, dIs2, dDic0, dCallD, dFld, dProp, dNew, dTkSet, dTkInt, dIter, DL.w0, DL.w1, DL.w2, DL.w3, DL.w4, DL.w5, dApp, dSl]
    rw [cut_to, cut_from]
    refine ⟨lsz (by omega), lsz ?_, lsz ?_, _, rfl, by have := line_big; omega, hx _ ⟨_, _, ?_, ?_, rfl, rfl⟩⟩
    · rw [List.length_take, List.length_map]
      simp
      omega
    · simp
      omega
    · rw [List.length_append, List.length_singleton]
      omega
    · intro v hv
      rcases List.mem_append.mp hv with h | h
      · exact e2 v h
      · rw [List.mem_singleton.mp h]
        show List.all _ D.pl = true
        rw [List.all_append, List.all_append, List.all_cons, pl_take (pl_ints l), pl_drop (pl_ints l), hp]
        rfl
  · obtain ⟨ws, s9, e1, e2, e3, rfl⟩ := hα
    exact hn ws s9 (by simp at e1; omega) e2 e3
theorem l2_ok (hl : l.length ≤ 200) (hvl : vs.length ≤ 120) (hv : ∀ v ∈ vs, okv v = true) (h10 : S.noOwn s10 = true) (h12 : S.noOwn s12 = true)
    (hn : ∀ (s10 s12 : Option S), S.noOwn s10 = true → S.noOwn s12 = true → De.nx [s0, some .tk, s2, some (.fr (.int a)), some (.fr (.int b)), some (.fr (al a b as)), some (.fr (.tup (l.map D.int))), some (.fr (.int i)), some (.nw (.lst vs)), s9, s10, s11, s12, s13, s14]) :
    l2 De [s0, some .tk, s2, some (.fr (.int a)), some (.fr (.int b)), some (.fr (al a b as)), some (.fr (.tup (l.map D.int))), some (.fr (.int i)), some (.nw (.lst vs)), s9, s10, s11, s12, s13, s14] E := by
  unfold l2
  simp [phi, startA, dSeq, dNext, dAsg, dAsgG, dIf, dRet, dRetV, dRetN, dDrop, dRaise, dRaiseI, dFz, dFzS, dVar, dC, dBin, dUn, dTest, isB, dAndT, dOrT, dNotT, dAndV, dOrV, dNotV, dIfE, dTruth, dCons, dNil, dTupE, dLstE, dCB, dIs, dCall, gNm, dPart, dNoPart, DL.f0, DL.fc, DL.g1, DL.g2, DL.g3, DL.s1, DL.s2, DL.zc, dPar, dChain, DL.e1, DL.e2, DL.e3, DL.e4, DL.e5, DL.e6, DL.e7, DL.e8, DL.e9, DL.e10, DL.e11, DL.e12, DL.e13, DL.e14, DL.a1, DL.a2, DL.a3, DL.a4, DL.a5, DL.a6, DL.a7, DL.a8, DL.a9, DL.a10, DL.a11, DL.t1, DL.t2, DL.t3, DL.x1, DL.x2, DL.x3, DL.x4, DL.x5, DL.x6, DL.x7, DL.x8, DL.x9, DL.x10, DL.x11, DL.x12, DL.y1, DL.y2, DL.eq_ii, DL.ne_ii, DL.k1, DL.k2, DL.k3, DL.k4, DL.k5, DL.k6, DL.z0, DL.z1, DL.z2, DL.z3, DL.z4, DL.z5, DL.z6, DL.z7, DL.z8, DL.z9, DL.z10, DL.z11, DL.z12, DL.z13, DL.z14, DL.z15, DL.z16, DL.z17, DL.z18, DL.z19, DL.z20, DL.z21, DL.z22, DL.z23, DL.z24, DL.z25, DL.z26, DL.z27, DL.z28, DL.z29, DL.ic1, DL.ic2, dPar3, dIs2, dDic0, dCallD, dFld, dProp, dNew, dTkSet, dTkInt, dIter, DL.w0, DL.w1, DL.w2, DL.w3, DL.w4, DL.w5, dFor, dLcC, dLcP, dRng1, wipeA]
  refine ⟨fl (by rw [rangeD_len]; omega), ?_⟩
  refine lc_any (fun d => okv d = true) _ _ (fun d hd P k0 hp => ?_) (lsz (by rw [rangeD_len]; simp)) fun bs n1 n2 => ?_
  · simp [phi, startA, dSeq, dNext, dAsg, dAsgG, dIf, dRet, dRetV, dRetN, dDrop, dRaise, dRaiseI, dFz, dFzS, dVar, dC, dBin, dUn, dTest, isB, dAndT, dOrT, dNotT, dAndV, dOrV, dNotV, dIfE, dTruth, dCons, dNil, dTupE, dLstE, dCB, dIs, dCall, gNm, dPart, dNoPart, DL.f0, DL.fc, DL.g1, DL.g2, DL.g3, DL.s1, DL.s2, DL.zc, dPar, dChain, DL.e1, DL.e2, DL.e3, DL.e4, DL.e5, DL.e6, DL.e7, DL.e8, DL.e9, DL.e10, DL.e11, DL.e12, DL.e13, DL.e14, DL.a1, DL.a2, DL.a3, DL.a4, DL.a5, DL.a6, DL.a7, DL.a8, DL.a9, DL.a10, DL.a11, DL.t1, DL.t2, DL.t3, DL.x1, DL.x2, DL.x3, DL.x4, DL.x5, DL.x6, DL.x7, DL.x8, DL.x9, DL.x10, DL.x11, DL.x12, DL.y1, DL.y2, DL.eq_ii, DL.ne_ii, DL.k1, DL.k2, DL.k3, DL.k4, DL.k5, DL.k6, DL.z0, DL.z1, DL.z2, DL.z3, DL.z4, DL.z5, DL.z6, DL.z7, DL.z8, DL.z9, DL.z10, DL.z11, DL.z12, DL.z13, DL.z14, DL.z15, DL.z16, DL.z17, DL.z18, DL.z19, DL.z20, DL.z21, DL.z22, DL.z23, DL.z24, DL.z25, DL.z26, DL.z27, DL.z28, DL.z29, DL.ic1, DL.ic2, dPar3, dIs2, dDic0, dCallD, dFld, dProp, dNew, dTkSet, dTkInt, dIter, DL.w0, DL.w1, DL.w2, DL.w3, DL.w4, DL.w5, dYes]
    refine bent_tup (n := 6) hl fun x hx => ?_
    exact ⟨x, rfl, hp x hx⟩
  · rw [rangeD_len] at n1
    simp [phi, startA, dSeq, dNext, dAsg, dAsgG, dIf, dRet, dRetV, dRetN, dDrop, dRaise, dRaiseI, dFz, dFzS, dVar, dC, dBin, dUn, dTest, isB, dAndT, dOrT, dNotT, dAndV, dOrV, dNotV, dIfE, dTruth, dCons, dNil, dTupE, dLstE, dCB, dIs, dCall, gNm, dPart, dNoPart, DL.f0, DL.fc, DL.g1, DL.g2, DL.g3, DL.s1, DL.s2, DL.zc, dPar, dChain, DL.e1, DL.e2, DL.e3, DL.e4, DL.e5, DL.e6, DL.e7, DL.e8, DL.e9, DL.e10, DL.e11, DL.e12, DL.e13, DL.e14, DL.a1, DL.a2, DL.a3, DL.a4, DL.a5, DL.a6, DL.a7, DL.a8, DL.a9, DL.a10, DL.a11, DL.t1, DL.t2, DL.t3, DL.x1, DL.x2, DL.x3, DL.x4, DL.x5, DL.x6, DL.x7, DL.x8, DL.x9, DL.x10, DL.x11, DL.x12, DL.y1, DL.y2, DL.eq_ii, DL.ne_ii, DL.k1, DL.k2, DL.k3, DL.k4, DL.k5, DL.k6, DL.z0, DL.z1, DL.z2, DL.z3, DL.z4, DL.z5, DL.z6, DL.z7, DL.z8, DL.z9, DL.z10, DL.z11, DL.z12, DL.z13, DL.z14, DL.z15, DL.z16, DL.z17, DL.z18, DL.z19, DL.z20, DL.z21, DL.z22, DL.z23, DL.z24, DL.z25, DL.z26, DL.z27, DL.z28, DL.z29, DL.ic1, DL.ic2, dPar3, dIs2, dDic0, dCallD, dFld, dProp, dNew, dTkSet, dTkInt, dIter, DL.w0, DL.w1, DL.w2, DL.w3, DL.w4, DL.w5]
    refine ⟨lsz (by omega), .inl ⟨_, rfl, ?_⟩⟩
    refine for_inv (fun α => ∃ s10 s12 : Option S, S.noOwn s10 = true ∧ S.noOwn s12 = true ∧ α = [s0, some .tk, s2, some (.fr (.int a)), some (.fr (.int b)), some (.fr (al a b as)), some (.fr (.tup (l.map D.int))), some (.fr (.int i)), some (.nw (.lst vs)), s9, s10, s11, s12, s13, s14]) (fun v hv' α hα nxt hx => ?_) ⟨_, _, h10, h12, rfl⟩ (fun α hα => ?_)
    · obtain ⟨s10, s12, e1, e2, rfl⟩ := hα
      have ho : okv v = true := by
        rcases List.mem_append.mp hv' with h | h
        · exact hv v h
        · exact n2 v h
      simp [phi, startA, dSeq, dNext, dAsg, dAsgG, dIf, dRet, dRetV, dRetN, dDrop, dRaise, dRaiseI, dFz, dFzS, dVar, dC, dBin, dUn, dTest, isB, dAndT, dOrT, dNotT, dAndV, dOrV, dNotV, dIfE, dTruth, dCons, dNil, dTupE, dLstE, dCB, dIs, dCall, gNm, dPart, dNoPart, DL.f0, DL.fc, DL.g1, DL.g2, DL.g3, DL.s1, DL.s2, DL.zc, dPar, dChain, DL.e1, DL.e2, DL.e3, DL.e4, DL.e5, DL.e6, DL.e7, DL.e8, DL.e9, DL.e10, DL.e11, DL.e12, DL.e13, DL.e14, DL.a1, DL.a2, DL.a3, DL.a4, DL.a5, DL.a6, DL.a7, DL.a8, DL.a9, DL.a10, DL.a11, DL.t1, DL.t2, DL.t3, DL.x1, DL.x2, DL.x3, DL.x4, DL.x5, DL.x6, DL.x7, DL.x8, DL.x9, DL.x10, DL.x11, DL.x12, DL.y1, DL.y2, DL.eq_ii, DL.ne_ii, DL.k1, DL.k2, DL.k3, DL.k4, DL.k5, DL.k6, DL.z0, DL.z1, DL.z2, DL.z3, DL.z4, DL.z5, DL.z6, DL.z7, DL.z8, DL.z9, DL.z10, DL.z11, DL.z12, DL.z13, DL.z14, DL.z15, DL.z16, DL.z17, DL.z18, DL.z19, DL.z20, DL.z21, DL.z22, DL.z23, DL.z24, DL.z25, DL.z26, DL.z27, DL.z28, DL.z29, DL.ic1, DL.ic2, dPar3, dIs2, dDic0, dCallD, dFld, dProp, dNew, dTkSet, dTkInt, dIter, DL.w0, DL.w1, DL.w2, DL.w3, DL.w4, DL.w5]
      refine sp__law_al_is_stream ho ?_
      simp [phi, startA, dSeq, dNext, dAsg, dAsgG, dIf, dRet, dRetV, dRetN, dDrop, dRaise, dRaiseI, dFz, dFzS, dVar, dC, dBin, dUn, dTest, isB, dAndT, dOrT, dNotT, dAndV, dOrV, dNotV, dIfE, dTruth, dCons, dNil, dTupE, dLstE, dCB, dIs, dCall, gNm, dPart, dNoPart, DL.f0, DL.fc, DL.g1, DL.g2, DL.g3, DL.s1, DL.s2, DL.zc, dPar, dChain, DL.e1, DL.e2, DL.e3, DL.e4, DL.e5, DL.e6, DL.e7, DL.e8, DL.e9, DL.e10, DL.e11, DL.e12, DL.e13, DL.e14, DL.a1, DL.a2, DL.a3, DL.a4, DL.a5, DL.a6, DL.a7, DL.a8, DL.a9, DL.a10, DL.a11, DL.t1, DL.t2, DL.t3, DL.x1, DL.x2, DL.x3, DL.x4, DL.x5, DL.x6, DL.x7, DL.x8, DL.x9, DL.x10, DL.x11, DL.x12, DL.y1, DL.y2, DL.eq_ii, DL.ne_ii, DL.k1, DL.k2, DL.k3, DL.k4, DL.k5, DL.k6, DL.z0, DL.z1, DL.z2, DL.z3, DL.z4, DL.z5, DL.z6, DL.z7, DL.z8, DL.z9, DL.z10, DL.z11, DL.z12, DL.z13, DL.z14, DL.z15, DL.z16, DL.z17, DL.z18, DL.z19, DL.z20, DL.z21, DL.z22, DL.z23, DL.z24, DL.z25, DL.z26, DL.z27, DL.z28, DL.z29, DL.ic1, DL.ic2, dPar3, dIs2, dDic0, dCallD, dFld, dProp, dNew, dTkSet, dTkInt, dIter, DL.w0, DL.w1, DL.w2, DL.w3, DL.w4, DL.w5]
      refine sp_is_stream ho ?_
      simp [phi, startA, dSeq, dNext, dAsg, dAsgG, dIf, dRet, dRetV, dRetN, dDrop, dRaise, dRaiseI, dFz, dFzS, dVar, dC, dBin, dUn, dTest, isB, dAndT, dOrT, dNotT, dAndV, dOrV, dNotV, dIfE, dTruth, dCons, dNil, dTupE, dLstE, dCB, dIs, dCall, gNm, dPart, dNoPart, DL.f0, DL.fc, DL.g1, DL.g2, DL.g3, DL.s1, DL.s2, DL.zc, dPar, dChain, DL.e1, DL.e2, DL.e3, DL.e4, DL.e5, DL.e6, DL.e7, DL.e8, DL.e9, DL.e10, DL.e11, DL.e12, DL.e13, DL.e14, DL.a1, DL.a2, DL.a3, DL.a4, DL.a5, DL.a6, DL.a7, DL.a8, DL.a9, DL.a10, DL.a11, DL.t1, DL.t2, DL.t3, DL.x1, DL.x2, DL.x3, DL.x4, DL.x5, DL.x6, DL.x7, DL.x8, DL.x9, DL.x10, DL.x11, DL.x12, DL.y1, DL.y2, DL.eq_ii, DL.ne_ii, DL.k1, DL.k2, DL.k3, DL.k4, DL.k5, DL.k6, DL.z0, DL.z1, DL.z2, DL.z3, DL.z4, DL.z5, DL.z6, DL.z7, DL.z8, DL.z9, DL.z10, DL.z11, DL.z12, DL.z13, DL.z14, DL.z15, DL.z16, DL.z17, DL.z18, DL.z19, DL.z20, DL.z21, DL.z22, DL.z23, DL.z24, DL.z25, DL.z26, DL.z27, DL.z28, DL.z29, DL.ic1, DL.ic2, dPar3, dIs2, dDic0, dCallD, dFld, dProp, dNew, dTkSet, dTkInt, dIter, DL.w0, DL.w1, DL.w2, DL.w3, DL.w4, DL.w5]
      refine sp__law_is_truth ?_
      simp [phi, startA, dSeq, dNext, dAsg, dAsgG, dIf, dRet, dRetV, dRetN, dDrop, dRaise, dRaiseI, dFz, dFzS, dVar, dC, dBin, dUn, dTest, isB, dAndT, dOrT, dNotT, dAndV, dOrV, dNotV, dIfE, dTruth, dCons, dNil, dTupE, dLstE, dCB, dIs, dCall, gNm, dPart, dNoPart, DL.f0, DL.fc, DL.g1, DL.g2, DL.g3, DL.s1, DL.s2, DL.zc, dPar, dChain, DL.e1, DL.e2, DL.e3, DL.e4, DL.e5, DL.e6, DL.e7, DL.e8, DL.e9, DL.e10, DL.e11, DL.e12, DL.e13, DL.e14, DL.a1, DL.a2, DL.a3, DL.a4, DL.a5, DL.a6, DL.a7, DL.a8, DL.a9, DL.a10, DL.a11, DL.t1, DL.t2, DL.t3, DL.x1, DL.x2, DL.x3, DL.x4, DL.x5, DL.x6, DL.x7, DL.x8, DL.x9, DL.x10, DL.x11, DL.x12, DL.y1, DL.y2, DL.eq_ii, DL.ne_ii, DL.k1, DL.k2, DL.k3, DL.k4, DL.k5, DL.k6, DL.z0, DL.z1, DL.z2, DL.z3, DL.z4, DL.z5, DL.z6, DL.z7, DL.z8, DL.z9, DL.z10, DL.z11, DL.z12, DL.z13, DL.z14, DL.z15, DL.z16, DL.z17, DL.z18, DL.z19, DL.z20, DL.z21, DL.z22, DL.z23, DL.z24, DL.z25, DL.z26, DL.z27, DL.z28, DL.z29, DL.ic1, DL.ic2, dPar3, dIs2, dDic0, dCallD, dFld, dProp, dNew, dTkSet, dTkInt, dIter, DL.w0, DL.w1, DL.w2, DL.w3, DL.w4, DL.w5, dCallK, perm]
      refine sp_is_stream ho ?_
      simp [phi, startA, dSeq, dNext, dAsg, dAsgG, dIf, dRet, dRetV, dRetN, dDrop, dRaise, dRaiseI, dFz, dFzS, dVar, dC, dBin, dUn, dTest, isB, dAndT, dOrT, dNotT, dAndV, dOrV, dNotV, dIfE, dTruth, dCons, dNil, dTupE, dLstE, dCB, dIs, dCall, gNm, dPart, dNoPart, DL.f0, DL.fc, DL.g1, DL.g2, DL.g3, DL.s1, DL.s2, DL.zc, dPar, dChain, DL.e1, DL.e2, DL.e3, DL.e4, DL.e5, DL.e6, DL.e7, DL.e8, DL.e9, DL.e10, DL.e11, DL.e12, DL.e13, DL.e14, DL.a1, DL.a2, DL.a3, DL.a4, DL.a5, DL.a6, DL.a7, DL.a8, DL.a9, DL.a10, DL.a11, DL.t1, DL.t2, DL.t3, DL.x1, DL.x2, DL.x3, DL.x4, DL.x5, DL.x6, DL.x7, DL.x8, DL.x9, DL.x10, DL.x11, DL.x12, DL.y1, DL.y2, DL.eq_ii, DL.ne_ii, DL.k1, DL.k2, DL.k3, DL.k4, DL.k5, DL.k6, DL.z0, DL.z1, DL.z2, DL.z3, DL.z4, DL.z5, DL.z6, DL.z7, DL.z8, DL.z9, DL.z10, DL.z11, DL.z12, DL.z13, DL.z14, DL.z15, DL.z16, DL.z17, DL.z18, DL.z19, DL.z20, DL.z21, DL.z22, DL.z23, DL.z24, DL.z25, DL.z26, DL.z27, DL.z28, DL.z29, DL.ic1, DL.ic2, dPar3, dIs2, dDic0, dCallD, dFld, dProp, dNew, dTkSet, dTkInt, dIter, DL.w0, DL.w1, DL.w2, DL.w3, DL.w4, DL.w5]
      refine sp__law_is_truth ?_
      simp [phi, startA, dSeq, dNext, dAsg, dAsgG, dIf, dRet, dRetV, dRetN, dDrop, dRaise, dRaiseI, dFz, dFzS, dVar, dC, dBin, dUn, dTest, isB, dAndT, dOrT, dNotT, dAndV, dOrV, dNotV, dIfE, dTruth, dCons, dNil, dTupE, dLstE, dCB, dIs, dCall, gNm, dPart, dNoPart, DL.f0, DL.fc, DL.g1, DL.g2, DL.g3, DL.s1, DL.s2, DL.zc, dPar, dChain, DL.e1, DL.e2, DL.e3, DL.e4, DL.e5, DL.e6, DL.e7, DL.e8, DL.e9, DL.e10, DL.e11, DL.e12, DL.e13, DL.e14, DL.a1, DL.a2, DL.a3, DL.a4, DL.a5, DL.a6, DL.a7, DL.a8, DL.a9, DL.a10, DL.a11, DL.t1, DL.t2, DL.t3, DL.x1, DL.x2, DL.x3, DL.x4, DL.x5, DL.x6, DL.x7, DL.x8, DL.x9, DL.x10, DL.x11, DL.x12, DL.y1, DL.y2, DL.eq_ii, DL.ne_ii, DL.k1, DL.k2, DL.k3, DL.k4, DL.k5, DL.k6, DL.z0, DL.z1, DL.z2, DL.z3, DL.z4, DL.z5, DL.z6, DL.z7, DL.z8, DL.z9, DL.z10, DL.z11, DL.z12, DL.z13, DL.z14, DL.z15, DL.z16, DL.z17, DL.z18, DL.z19, DL.z20, DL.z21, DL.z22, DL.z23, DL.z24, DL.z25, DL.z26, DL.z27, DL.z28, DL.z29, DL.ic1, DL.ic2, dPar3, dIs2, dDic0, dCallD, dFld, dProp, dNew, dTkSet, dTkInt, dIter, DL.w0, DL.w1, DL.w2, DL.w3, DL.w4, DL.w5]
      exact hx _ ⟨_, _, rfl, rfl, rfl⟩
    · obtain ⟨s10, s12, e1, e2, rfl⟩ := hα
      exact hn _ _ e1 e2
theorem l3_ok (n0 : S.noOwn s0 = true) (n2 : S.noOwn s2 = true) (n9 : S.noOwn s9 = true) (n10 : S.noOwn s10 = true) (n11 : S.noOwn s11 = true) (n12 : S.noOwn s12 = true) (n13 : S.noOwn s13 = true) (n14 : S.noOwn s14 = true)
    (hn : ∀ s8 s13 : Option S, S.noOwn s8 = true → S.noOwn s13 = true → De.nx [s0, some .tk, s2, some (.fr (.int a)), some (.fr (.int b)), some (.fr (al a b as)), some (.fr (.tup (l.map D.int))), some (.fr (.int i)), s8, s9, s10, s11, s12, s13, s14]) :
    l3 De [s0, some .tk, s2, some (.fr (.int a)), some (.fr (.int b)), some (.fr (al a b as)), some (.fr (.tup (l.map D.int))), some (.fr (.int i)), some (.nw (.lst vs)), s9, s10, s11, s12, s13, s14] E := by
  unfold l3
  simp only [dFzS, dSeq, dAsg, dFz, List.getElem?_cons_succ, List.getElem?_cons_zero, List.set_cons_succ, List.set_cons_zero]
  refine ⟨?_, ?_⟩
  · simp [n0, n2, n9, n10, n11, n12, n13, n14, nofr, notk]
  · simp [phi, startA, dSeq, dNext, dAsg, dAsgG, dIf, dRet, dRetV, dRetN, dDrop, dRaise, dRaiseI, dFz, dFzS, dVar, dC, dBin, dUn, dTest, isB, dAndT, dOrT, dNotT, dAndV, dOrV, dNotV, dIfE, dTruth, dCons, dNil, dTupE, dLstE, dCB, dIs, dCall, gNm, dPart, dNoPart, DL.f0, DL.fc, DL.g1, DL.g2, DL.g3, DL.s1, DL.s2, DL.zc, dPar, dChain, DL.e1, DL.e2, DL.e3, DL.e4, DL.e5, DL.e6, DL.e7, DL.e8, DL.e9, DL.e10, DL.e11, DL.e12, DL.e13, DL.e14, DL.a1, DL.a2, DL.a3, DL.a4, DL.a5, DL.a6, DL.a7, DL.a8, DL.a9, DL.a10, DL.a11, DL.t1, DL.t2, DL.t3, DL.x1, DL.x2, DL.x3, DL.x4, DL.x5, DL.x6, DL.x7, DL.x8, DL.x9, DL.x10, DL.x11, DL.x12, DL.y1, DL.y2, DL.eq_ii, DL.ne_ii, DL.k1, DL.k2, DL.k3, DL.k4, DL.k5, DL.k6, DL.z0, DL.z1, DL.z2, DL.z3, DL.z4, DL.z5, DL.z6, DL.z7, DL.z8, DL.z9, DL.z10, DL.z11, DL.z12, DL.z13, DL.z14, DL.z15, DL.z16, DL.z17, DL.z18, DL.z19, DL.z20, DL.z21, DL.z22, DL.z23, DL.z24, DL.z25, DL.z26, DL.z27, DL.z28, DL.z29, DL.ic1, DL.ic2, dPar3, dIs2, dDic0, dCallD, dFld, dProp, dNew, dTkSet, dTkInt, dIter, DL.w0, DL.w1, DL.w2, DL.w3, DL.w4, DL.w5]
    refine sp__law_al_no_alarms fun d hd => ?_
    simp [phi, startA, dSeq, dNext, dAsg, dAsgG, dIf, dRet, dRetV, dRetN, dDrop, dRaise, dRaiseI, dFz, dFzS, dVar, dC, dBin, dUn, dTest, isB, dAndT, dOrT, dNotT, dAndV, dOrV, dNotV, dIfE, dTruth, dCons, dNil, dTupE, dLstE, dCB, dIs, dCall, gNm, dPart, dNoPart, DL.f0, DL.fc, DL.g1, DL.g2, DL.g3, DL.s1, DL.s2, DL.zc, dPar, dChain, DL.e1, DL.e2, DL.e3, DL.e4, DL.e5, DL.e6, DL.e7, DL.e8, DL.e9, DL.e10, DL.e11, DL.e12, DL.e13, DL.e14, DL.a1, DL.a2, DL.a3, DL.a4, DL.a5, DL.a6, DL.a7, DL.a8, DL.a9, DL.a10, DL.a11, DL.t1, DL.t2, DL.t3, DL.x1, DL.x2, DL.x3, DL.x4, DL.x5, DL.x6, DL.x7, DL.x8, DL.x9, DL.x10, DL.x11, DL.x12, DL.y1, DL.y2, DL.eq_ii, DL.ne_ii, DL.k1, DL.k2, DL.k3, DL.k4, DL.k5, DL.k6, DL.z0, DL.z1, DL.z2, DL.z3, DL.z4, DL.z5, DL.z6, DL.z7, DL.z8, DL.z9, DL.z10, DL.z11, DL.z12, DL.z13, DL.z14, DL.z15, DL.z16, DL.z17, DL.z18, DL.z19, DL.z20, DL.z21, DL.z22, DL.z23, DL.z24, DL.z25, DL.z26, DL.z27, DL.z28, DL.z29, DL.ic1, DL.ic2, dPar3, dIs2, dDic0, dCallD, dFld, dProp, dNew, dTkSet, dTkInt, dIter, DL.w0, DL.w1, DL.w2, DL.w3, DL.w4, DL.w5]
    refine sp_is_stream_bad hd ⟨rfl, ?_⟩
    simp [phi, startA, dSeq, dNext, dAsg, dAsgG, dIf, dRet, dRetV, dRetN, dDrop, dRaise, dRaiseI, dFz, dFzS, dVar, dC, dBin, dUn, dTest, isB, dAndT, dOrT, dNotT, dAndV, dOrV, dNotV, dIfE, dTruth, dCons, dNil, dTupE, dLstE, dCB, dIs, dCall, gNm, dPart, dNoPart, DL.f0, DL.fc, DL.g1, DL.g2, DL.g3, DL.s1, DL.s2, DL.zc, dPar, dChain, DL.e1, DL.e2, DL.e3, DL.e4, DL.e5, DL.e6, DL.e7, DL.e8, DL.e9, DL.e10, DL.e11, DL.e12, DL.e13, DL.e14, DL.a1, DL.a2, DL.a3, DL.a4, DL.a5, DL.a6, DL.a7, DL.a8, DL.a9, DL.a10, DL.a11, DL.t1, DL.t2, DL.t3, DL.x1, DL.x2, DL.x3, DL.x4, DL.x5, DL.x6, DL.x7, DL.x8, DL.x9, DL.x10, DL.x11, DL.x12, DL.y1, DL.y2, DL.eq_ii, DL.ne_ii, DL.k1, DL.k2, DL.k3, DL.k4, DL.k5, DL.k6, DL.z0, DL.z1, DL.z2, DL.z3, DL.z4, DL.z5, DL.z6, DL.z7, DL.z8, DL.z9, DL.z10, DL.z11, DL.z12, DL.z13, DL.z14, DL.z15, DL.z16, DL.z17, DL.z18, DL.z19, DL.z20, DL.z21, DL.z22, DL.z23, DL.z24, DL.z25, DL.z26, DL.z27, DL.z28, DL.z29, DL.ic1, DL.ic2, dPar3, dIs2, dDic0, dCallD, dFld, dProp, dNew, dTkSet, dTkInt, dIter, DL.w0, DL.w1, DL.w2, DL.w3, DL.w4, DL.w5]
    refine ⟨(by decide : (5 : Nat) < 7), rfl, .inr ⟨rfl, ?_⟩⟩
    unfold dXt
    simp [phi, startA, dSeq, dNext, dAsg, dAsgG, dIf, dRet, dRetV, dRetN, dDrop, dRaise, dRaiseI, dFz, dFzS, dVar, dC, dBin, dUn, dTest, isB, dAndT, dOrT, dNotT, dAndV, dOrV, dNotV, dIfE, dTruth, dCons, dNil, dTupE, dLstE, dCB, dIs, dCall, gNm, dPart, dNoPart, DL.f0, DL.fc, DL.g1, DL.g2, DL.g3, DL.s1, DL.s2, DL.zc, dPar, dChain, DL.e1, DL.e2, DL.e3, DL.e4, DL.e5, DL.e6, DL.e7, DL.e8, DL.e9, DL.e10, DL.e11, DL.e12, DL.e13, DL.e14, DL.a1, DL.a2, DL.a3, DL.a4, DL.a5, DL.a6, DL.a7, DL.a8, DL.a9, DL.a10, DL.a11, DL.t1, DL.t2, DL.t3, DL.x1, DL.x2, DL.x3, DL.x4, DL.x5, DL.x6, DL.x7, DL.x8, DL.x9, DL.x10, DL.x11, DL.x12, DL.y1, DL.y2, DL.eq_ii, DL.ne_ii, DL.k1, DL.k2, DL.k3, DL.k4, DL.k5, DL.k6, DL.z0, DL.z1, DL.z2, DL.z3, DL.z4, DL.z5, DL.z6, DL.z7, DL.z8, DL.z9, DL.z10, DL.z11, DL.z12, DL.z13, DL.z14, DL.z15, DL.z16, DL.z17, DL.z18, DL.z19, DL.z20, DL.z21, DL.z22, DL.z23, DL.z24, DL.z25, DL.z26, DL.z27, DL.z28, DL.z29, DL.ic1, DL.ic2, dPar3, dIs2, dDic0, dCallD, dFld, dProp, dNew, dTkSet, dTkInt, dIter, DL.w0, DL.w1, DL.w2, DL.w3, DL.w4, DL.w5]
    refine ⟨5, [Str.ofString "part"], [.non], ⟨rfl, rfl, rfl⟩, rfl, .non, by simp [List.lookup], ?_⟩
    simp [phi, startA, dSeq, dNext, dAsg, dAsgG, dIf, dRet, dRetV, dRetN, dDrop, dRaise, dRaiseI, dFz, dFzS, dVar, dC, dBin, dUn, dTest, isB, dAndT, dOrT, dNotT, dAndV, dOrV, dNotV, dIfE, dTruth, dCons, dNil, dTupE, dLstE, dCB, dIs, dCall, gNm, dPart, dNoPart, DL.f0, DL.fc, DL.g1, DL.g2, DL.g3, DL.s1, DL.s2, DL.zc, dPar, dChain, DL.e1, DL.e2, DL.e3, DL.e4, DL.e5, DL.e6, DL.e7, DL.e8, DL.e9, DL.e10, DL.e11, DL.e12, DL.e13, DL.e14, DL.a1, DL.a2, DL.a3, DL.a4, DL.a5, DL.a6, DL.a7, DL.a8, DL.a9, DL.a10, DL.a11, DL.t1, DL.t2, DL.t3, DL.x1, DL.x2, DL.x3, DL.x4, DL.x5, DL.x6, DL.x7, DL.x8, DL.x9, DL.x10, DL.x11, DL.x12, DL.y1, DL.y2, DL.eq_ii, DL.ne_ii, DL.k1, DL.k2, DL.k3, DL.k4, DL.k5, DL.k6, DL.z0, DL.z1, DL.z2, DL.z3, DL.z4, DL.z5, DL.z6, DL.z7, DL.z8, DL.z9, DL.z10, DL.z11, DL.z12, DL.z13, DL.z14, DL.z15, DL.z16, DL.z17, DL.z18, DL.z19, DL.z20, DL.z21, DL.z22, DL.z23, DL.z24, DL.z25, DL.z26, DL.z27, DL.z28, DL.z29, DL.ic1, DL.ic2, dPar3, dIs2, dDic0, dCallD, dFld, dProp, dNew, dTkSet, dTkInt, dIter, DL.w0, DL.w1, DL.w2, DL.w3, DL.w4, DL.w5, fNotN, D.isRaw, D.isNon]
    exact hn _ _ rfl rfl
theorem lEnd_ok {s3 s4 s5 s6 s7 s8 : Option S} (hq : De.rt (.fr (.bl true))) : lEnd De [s0, some .tk, s2, s3, s4, s5, s6, s7, s8, s9, s10, s11, s12, s13, s14] E := by
  unfold lEnd
  simp [phi, startA, dSeq, dNext, dAsg, dAsgG, dIf, dRet, dRetV, dRetN, dDrop, dRaise, dRaiseI, dFz, dFzS, dVar, dC, dBin, dUn, dTest, isB, dAndT, dOrT, dNotT, dAndV, dOrV, dNotV, dIfE, dTruth, dCons, dNil, dTupE, dLstE, dCB, dIs, dCall, gNm, dPart, dNoPart, DL.f0, DL.fc, DL.g1, DL.g2, DL.g3, DL.s1, DL.s2, DL.zc, dPar, dChain, DL.e1, DL.e2, DL.e3, DL.e4, DL.e5, DL.e6, DL.e7, DL.e8, DL.e9, DL.e10, DL.e11, DL.e12, DL.e13, DL.e14, DL.a1, DL.a2, DL.a3, DL.a4, DL.a5, DL.a6, DL.a7, DL.a8, DL.a9, DL.a10, DL.a11, DL.t1, DL.t2, DL.t3, DL.x1, DL.x2, DL.x3, DL.x4, DL.x5, DL.x6, DL.x7, DL.x8, DL.x9, DL.x10, DL.x11, DL.x12, DL.y1, DL.y2, DL.eq_ii, DL.ne_ii, DL.k1, DL.k2, DL.k3, DL.k4, DL.k5, DL.k6, DL.z0, DL.z1, DL.z2, DL.z3, DL.z4, DL.z5, DL.z6, DL.z7, DL.z8, DL.z9, DL.z10, DL.z11, DL.z12, DL.z13, DL.z14, DL.z15, DL.z16, DL.z17, DL.z18, DL.z19, DL.z20, DL.z21, DL.z22, DL.z23, DL.z24, DL.z25, DL.z26, DL.z27, DL.z28, DL.z29, DL.ic1, DL.ic2, dPar3, dIs2, dDic0, dCallD, dFld, dProp, dNew, dTkSet, dTkInt, dIter, DL.w0, DL.w1, DL.w2, DL.w3, DL.w4, DL.w5]
  refine ⟨lsz (by omega), lsz (by omega), sp_Alarms (by omega) (by omega) (by omega) (by simp) (by simp) (fun d hd => ?_) ?_⟩
  · rw [List.mem_singleton.mp hd]
    exact .o3 1 0 (by omega) (by omega) (by omega) (by omega)
  · simp [phi, startA, dSeq, dNext, dAsg, dAsgG, dIf, dRet, dRetV, dRetN, dDrop, dRaise, dRaiseI, dFz, dFzS, dVar, dC, dBin, dUn, dTest, isB, dAndT, dOrT, dNotT, dAndV, dOrV, dNotV, dIfE, dTruth, dCons, dNil, dTupE, dLstE, dCB, dIs, dCall, gNm, dPart, dNoPart, DL.f0, DL.fc, DL.g1, DL.g2, DL.g3, DL.s1, DL.s2, DL.zc, dPar, dChain, DL.e1, DL.e2, DL.e3, DL.e4, DL.e5, DL.e6, DL.e7, DL.e8, DL.e9, DL.e10, DL.e11, DL.e12, DL.e13, DL.e14, DL.a1, DL.a2, DL.a3, DL.a4, DL.a5, DL.a6, DL.a7, DL.a8, DL.a9, DL.a10, DL.a11, DL.t1, DL.t2, DL.t3, DL.x1, DL.x2, DL.x3, DL.x4, DL.x5, DL.x6, DL.x7, DL.x8, DL.x9, DL.x10, DL.x11, DL.x12, DL.y1, DL.y2, DL.eq_ii, DL.ne_ii, DL.k1, DL.k2, DL.k3, DL.k4, DL.k5, DL.k6, DL.z0, DL.z1, DL.z2, DL.z3, DL.z4, DL.z5, DL.z6, DL.z7, DL.z8, DL.z9, DL.z10, DL.z11, DL.z12, DL.z13, DL.z14, DL.z15, DL.z16, DL.z17, DL.z18, DL.z19, DL.z20, DL.z21, DL.z22, DL.z23, DL.z24, DL.z25, DL.z26, DL.z27, DL.z28, DL.z29, DL.ic1, DL.ic2, dPar3, dIs2, dDic0, dCallD, dFld, dProp, dNew, dTkSet, dTkInt, dIter, DL.w0, DL.w1, DL.w2, DL.w3, DL.w4, DL.w5]
    refine ⟨lsz (by omega), sp_is_stream rfl ?_⟩
    simp [phi, startA, dSeq, dNext, dAsg, dAsgG, dIf, dRet, dRetV, dRetN, dDrop, dRaise, dRaiseI, dFz, dFzS, dVar, dC, dBin, dUn, dTest, isB, dAndT, dOrT, dNotT, dAndV, dOrV, dNotV, dIfE, dTruth, dCons, dNil, dTupE, dLstE, dCB, dIs, dCall, gNm, dPart, dNoPart, DL.f0, DL.fc, DL.g1, DL.g2, DL.g3, DL.s1, DL.s2, DL.zc, dPar, dChain, DL.e1, DL.e2, DL.e3, DL.e4, DL.e5, DL.e6, DL.e7, DL.e8, DL.e9, DL.e10, DL.e11, DL.e12, DL.e13, DL.e14, DL.a1, DL.a2, DL.a3, DL.a4, DL.a5, DL.a6, DL.a7, DL.a8, DL.a9, DL.a10, DL.a11, DL.t1, DL.t2, DL.t3, DL.x1, DL.x2, DL.x3, DL.x4, DL.x5, DL.x6, DL.x7, DL.x8, DL.x9, DL.x10, DL.x11, DL.x12, DL.y1, DL.y2, DL.eq_ii, DL.ne_ii, DL.k1, DL.k2, DL.k3, DL.k4, DL.k5, DL.k6, DL.z0, DL.z1, DL.z2, DL.z3, DL.z4, DL.z5, DL.z6, DL.z7, DL.z8, DL.z9, DL.z10, DL.z11, DL.z12, DL.z13, DL.z14, DL.z15, DL.z16, DL.z17, DL.z18, DL.z19, DL.z20, DL.z21, DL.z22, DL.z23, DL.z24, DL.z25, DL.z26, DL.z27, DL.z28, DL.z29, DL.ic1, DL.ic2, dPar3, dIs2, dDic0, dCallD, dFld, dProp, dNew, dTkSet, dTkInt, dIter, DL.w0, DL.w1, DL.w2, DL.w3, DL.w4, DL.w5, fIsB, D.isRaw, D.isBl, strB, btw, S.plain]
    refine ⟨lsz (by omega), sp_is_stream rfl ?_⟩
    simp [phi, startA, dSeq, dNext, dAsg, dAsgG, dIf, dRet, dRetV, dRetN, dDrop, dRaise, dRaiseI, dFz, dFzS, dVar, dC, dBin, dUn, dTest, isB, dAndT, dOrT, dNotT, dAndV, dOrV, dNotV, dIfE, dTruth, dCons, dNil, dTupE, dLstE, dCB, dIs, dCall, gNm, dPart, dNoPart, DL.f0, DL.fc, DL.g1, DL.g2, DL.g3, DL.s1, DL.s2, DL.zc, dPar, dChain, DL.e1, DL.e2, DL.e3, DL.e4, DL.e5, DL.e6, DL.e7, DL.e8, DL.e9, DL.e10, DL.e11, DL.e12, DL.e13, DL.e14, DL.a1, DL.a2, DL.a3, DL.a4, DL.a5, DL.a6, DL.a7, DL.a8, DL.a9, DL.a10, DL.a11, DL.t1, DL.t2, DL.t3, DL.x1, DL.x2, DL.x3, DL.x4, DL.x5, DL.x6, DL.x7, DL.x8, DL.x9, DL.x10, DL.x11, DL.x12, DL.y1, DL.y2, DL.eq_ii, DL.ne_ii, DL.k1, DL.k2, DL.k3, DL.k4, DL.k5, DL.k6, DL.z0, DL.z1, DL.z2, DL.z3, DL.z4, DL.z5, DL.z6, DL.z7, DL.z8, DL.z9, DL.z10, DL.z11, DL.z12, DL.z13, DL.z14, DL.z15, DL.z16, DL.z17, DL.z18, DL.z19, DL.z20, DL.z21, DL.z22, DL.z23, DL.z24, DL.z25, DL.z26, DL.z27, DL.z28, DL.z29, DL.ic1, DL.ic2, dPar3, dIs2, dDic0, dCallD, dFld, dProp, dNew, dTkSet, dTkInt, dIter, DL.w0, DL.w1, DL.w2, DL.w3, DL.w4, DL.w5, fIsB, D.isRaw, D.isBl, strB, btw, S.plain]
    refine ⟨lsz (by omega), sp_is_stream rfl ?_⟩
    simp [phi, startA, dSeq, dNext, dAsg, dAsgG, dIf, dRet, dRetV, dRetN, dDrop, dRaise, dRaiseI, dFz, dFzS, dVar, dC, dBin, dUn, dTest, isB, dAndT, dOrT, dNotT, dAndV, dOrV, dNotV, dIfE, dTruth, dCons, dNil, dTupE, dLstE, dCB, dIs, dCall, gNm, dPart, dNoPart, DL.f0, DL.fc, DL.g1, DL.g2, DL.g3, DL.s1, DL.s2, DL.zc, dPar, dChain, DL.e1, DL.e2, DL.e3, DL.e4, DL.e5, DL.e6, DL.e7, DL.e8, DL.e9, DL.e10, DL.e11, DL.e12, DL.e13, DL.e14, DL.a1, DL.a2, DL.a3, DL.a4, DL.a5, DL.a6, DL.a7, DL.a8, DL.a9, DL.a10, DL.a11, DL.t1, DL.t2, DL.t3, DL.x1, DL.x2, DL.x3, DL.x4, DL.x5, DL.x6, DL.x7, DL.x8, DL.x9, DL.x10, DL.x11, DL.x12, DL.y1, DL.y2, DL.eq_ii, DL.ne_ii, DL.k1, DL.k2, DL.k3, DL.k4, DL.k5, DL.k6, DL.z0, DL.z1, DL.z2, DL.z3, DL.z4, DL.z5, DL.z6, DL.z7, DL.z8, DL.z9, DL.z10, DL.z11, DL.z12, DL.z13, DL.z14, DL.z15, DL.z16, DL.z17, DL.z18, DL.z19, DL.z20, DL.z21, DL.z22, DL.z23, DL.z24, DL.z25, DL.z26, DL.z27, DL.z28, DL.z29, DL.ic1, DL.ic2, dPar3, dIs2, dDic0, dCallD, dFld, dProp, dNew, dTkSet, dTkInt, dIter, DL.w0, DL.w1, DL.w2, DL.w3, DL.w4, DL.w5, fIsB, D.isRaw, D.isBl, strB, btw, S.plain]
    refine ⟨lsz (by omega), sp_is_stream rfl ?_⟩
    simp [phi, startA, dSeq, dNext, dAsg, dAsgG, dIf, dRet, dRetV, dRetN, dDrop, dRaise, dRaiseI, dFz, dFzS, dVar, dC, dBin, dUn, dTest, isB, dAndT, dOrT, dNotT, dAndV, dOrV, dNotV, dIfE, dTruth, dCons, dNil, dTupE, dLstE, dCB, dIs, dCall, gNm, dPart, dNoPart, DL.f0, DL.fc, DL.g1, DL.g2, DL.g3, DL.s1, DL.s2, DL.zc, dPar, dChain, DL.e1, DL.e2, DL.e3, DL.e4, DL.e5, DL.e6, DL.e7, DL.e8, DL.e9, DL.e10, DL.e11, DL.e12, DL.e13, DL.e14, DL.a1, DL.a2, DL.a3, DL.a4, DL.a5, DL.a6, DL.a7, DL.a8, DL.a9, DL.a10, DL.a11, DL.t1, DL.t2, DL.t3, DL.x1, DL.x2, DL.x3, DL.x4, DL.x5, DL.x6, DL.x7, DL.x8, DL.x9, DL.x10, DL.x11, DL.x12, DL.y1, DL.y2, DL.eq_ii, DL.ne_ii, DL.k1, DL.k2, DL.k3, DL.k4, DL.k5, DL.k6, DL.z0, DL.z1, DL.z2, DL.z3, DL.z4, DL.z5, DL.z6, DL.z7, DL.z8, DL.z9, DL.z10, DL.z11, DL.z12, DL.z13, DL.z14, DL.z15, DL.z16, DL.z17, DL.z18, DL.z19, DL.z20, DL.z21, DL.z22, DL.z23, DL.z24, DL.z25, DL.z26, DL.z27, DL.z28, DL.z29, DL.ic1, DL.ic2, dPar3, dIs2, dDic0, dCallD, dFld, dProp, dNew, dTkSet, dTkInt, dIter, DL.w0, DL.w1, DL.w2, DL.w3, DL.w4, DL.w5, fIsB, D.isRaw, D.isBl, strB, btw, S.plain]
    exact hq
end
theorem law_plain : ∀ ns : List Int, ns.length ≤ 63 → (∀ z ∈ ns, Builtin.Int.intBits z ≤ 1048576) → t_law { nx := fun _ => False, rt := fun s => s = .fr (.bl true) } ((startA ["script", "draws", "turn", "low", "high", "one", "stream", "at", "some", "part", "value", "lap", "due", "caught", "wide"] [.fr (.scr ns)]).set 1 (some .tk)) (fun _ => False) := by
  intro ns hl hz
  rw [cut_law]
  simp [phi, startA, dSeq, dNext, dAsg, dAsgG, dIf, dRet, dRetV, dRetN, dDrop, dRaise, dRaiseI, dFz, dFzS, dVar, dC, dBin, dUn, dTest, isB, dAndT, dOrT, dNotT, dAndV, dOrV, dNotV, dIfE, dTruth, dCons, dNil, dTupE, dLstE, dCB, dIs, dCall, gNm, dPart, dNoPart, DL.f0, DL.fc, DL.g1, DL.g2, DL.g3, DL.s1, DL.s2, DL.zc, dPar, dChain, DL.e1, DL.e2, DL.e3, DL.e4, DL.e5, DL.e6, DL.e7, DL.e8, DL.e9, DL.e10, DL.e11, DL.e12, DL.e13, DL.e14, DL.a1, DL.a2, DL.a3, DL.a4, DL.a5, DL.a6, DL.a7, DL.a8, DL.a9, DL.a10, DL.a11, DL.t1, DL.t2, DL.t3, DL.x1, DL.x2, DL.x3, DL.x4, DL.x5, DL.x6, DL.x7, DL.x8, DL.x9, DL.x10, DL.x11, DL.x12, DL.y1, DL.y2, DL.eq_ii, DL.ne_ii, DL.k1, DL.k2, DL.k3, DL.k4, DL.k5, DL.k6, DL.z0, DL.z1, DL.z2, DL.z3, DL.z4, DL.z5, DL.z6, DL.z7, DL.z8, DL.z9, DL.z10, DL.z11, DL.z12, DL.z13, DL.z14, DL.z15, DL.z16, DL.z17, DL.z18, DL.z19, DL.z20, DL.z21, DL.z22, DL.z23, DL.z24, DL.z25, DL.z26, DL.z27, DL.z28, DL.z29, DL.ic1, DL.ic2, dPar3, dIs2, dDic0, dCallD, dFld, dProp, dNew, dTkSet, dTkInt, dIter, DL.w0, DL.w1, DL.w2, DL.w3, DL.w4, DL.w5, dForC, dForP, dRng1]
  refine ⟨by split <;> omega, by split <;> omega, fl (by rw [rangeD_len]; split <;> omega), ?_⟩
  refine for_inv (fun α => ∃ s2 s3 s4 s5 s6 s7 s8 s9 s10 s11 s12 s13 s14 : Option S, S.noOwn s9 = true ∧ S.noOwn s10 = true ∧ S.noOwn s11 = true ∧ S.noOwn s12 = true ∧ S.noOwn s13 = true ∧ S.noOwn s14 = true ∧ α = [some (.fr (.scr ns)), some .tk, s2, s3, s4, s5, s6, s7, s8, s9, s10, s11, s12, s13, s14]) (fun d hd α hα nxt hn => ?_) ⟨_, _, _, _, _, _, _, _, _, _, _, _, _, rfl, rfl, rfl, rfl, rfl, rfl, rfl⟩ (fun α hα => ?_)
  · obtain ⟨s2, s3, s4, s5, s6, s7, s8, s9, s10, s11, s12, s13, s14, n9, n10, n11, n12, n13, n14, rfl⟩ := hα
    obtain ⟨i, hi, rfl⟩ := rangeD_mem hd
    simp [phi, startA, dSeq, dNext, dAsg, dAsgG, dIf, dRet, dRetV, dRetN, dDrop, dRaise, dRaiseI, dFz, dFzS, dVar, dC, dBin, dUn, dTest, isB, dAndT, dOrT, dNotT, dAndV, dOrV, dNotV, dIfE, dTruth, dCons, dNil, dTupE, dLstE, dCB, dIs, dCall, gNm, dPart, dNoPart, DL.f0, DL.fc, DL.g1, DL.g2, DL.g3, DL.s1, DL.s2, DL.zc, dPar, dChain, DL.e1, DL.e2, DL.e3, DL.e4, DL.e5, DL.e6, DL.e7, DL.e8, DL.e9, DL.e10, DL.e11, DL.e12, DL.e13, DL.e14, DL.a1, DL.a2, DL.a3, DL.a4, DL.a5, DL.a6, DL.a7, DL.a8, DL.a9, DL.a10, DL.a11, DL.t1, DL.t2, DL.t3, DL.x1, DL.x2, DL.x3, DL.x4, DL.x5, DL.x6, DL.x7, DL.x8, DL.x9, DL.x10, DL.x11, DL.x12, DL.y1, DL.y2, DL.eq_ii, DL.ne_ii, DL.k1, DL.k2, DL.k3, DL.k4, DL.k5, DL.k6, DL.z0, DL.z1, DL.z2, DL.z3, DL.z4, DL.z5, DL.z6, DL.z7, DL.z8, DL.z9, DL.z10, DL.z11, DL.z12, DL.z13, DL.z14, DL.z15, DL.z16, DL.z17, DL.z18, DL.z19, DL.z20, DL.z21, DL.z22, DL.z23, DL.z24, DL.z25, DL.z26, DL.z27, DL.z28, DL.z29, DL.ic1, DL.ic2, dPar3, dIs2, dDic0, dCallD, dFld, dProp, dNew, dTkSet, dTkInt, dIter, DL.w0, DL.w1, DL.w2, DL.w3, DL.w4, DL.w5]
    refine sp__law_al_values fun a b h1 h2 h3 => ?_
    simp [phi, startA, dSeq, dNext, dAsg, dAsgG, dIf, dRet, dRetV, dRetN, dDrop, dRaise, dRaiseI, dFz, dFzS, dVar, dC, dBin, dUn, dTest, isB, dAndT, dOrT, dNotT, dAndV, dOrV, dNotV, dIfE, dTruth, dCons, dNil, dTupE, dLstE, dCB, dIs, dCall, gNm, dPart, dNoPart, DL.f0, DL.fc, DL.g1, DL.g2, DL.g3, DL.s1, DL.s2, DL.zc, dPar, dChain, DL.e1, DL.e2, DL.e3, DL.e4, DL.e5, DL.e6, DL.e7, DL.e8, DL.e9, DL.e10, DL.e11, DL.e12, DL.e13, DL.e14, DL.a1, DL.a2, DL.a3, DL.a4, DL.a5, DL.a6, DL.a7, DL.a8, DL.a9, DL.a10, DL.a11, DL.t1, DL.t2, DL.t3, DL.x1, DL.x2, DL.x3, DL.x4, DL.x5, DL.x6, DL.x7, DL.x8, DL.x9, DL.x10, DL.x11, DL.x12, DL.y1, DL.y2, DL.eq_ii, DL.ne_ii, DL.k1, DL.k2, DL.k3, DL.k4, DL.k5, DL.k6, DL.z0, DL.z1, DL.z2, DL.z3, DL.z4, DL.z5, DL.z6, DL.z7, DL.z8, DL.z9, DL.z10, DL.z11, DL.z12, DL.z13, DL.z14, DL.z15, DL.z16, DL.z17, DL.z18, DL.z19, DL.z20, DL.z21, DL.z22, DL.z23, DL.z24, DL.z25, DL.z26, DL.z27, DL.z28, DL.z29, DL.ic1, DL.ic2, dPar3, dIs2, dDic0, dCallD, dFld, dProp, dNew, dTkSet, dTkInt, dIter, DL.w0, DL.w1, DL.w2, DL.w3, DL.w4, DL.w5]
    refine sp__law_al_several h1 h2 h3 fun as l1 l2 ha => ?_
    simp [phi, startA, dSeq, dNext, dAsg, dAsgG, dIf, dRet, dRetV, dRetN, dDrop, dRaise, dRaiseI, dFz, dFzS, dVar, dC, dBin, dUn, dTest, isB, dAndT, dOrT, dNotT, dAndV, dOrV, dNotV, dIfE, dTruth, dCons, dNil, dTupE, dLstE, dCB, dIs, dCall, gNm, dPart, dNoPart, DL.f0, DL.fc, DL.g1, DL.g2, DL.g3, DL.s1, DL.s2, DL.zc, dPar, dChain, DL.e1, DL.e2, DL.e3, DL.e4, DL.e5, DL.e6, DL.e7, DL.e8, DL.e9, DL.e10, DL.e11, DL.e12, DL.e13, DL.e14, DL.a1, DL.a2, DL.a3, DL.a4, DL.a5, DL.a6, DL.a7, DL.a8, DL.a9, DL.a10, DL.a11, DL.t1, DL.t2, DL.t3, DL.x1, DL.x2, DL.x3, DL.x4, DL.x5, DL.x6, DL.x7, DL.x8, DL.x9, DL.x10, DL.x11, DL.x12, DL.y1, DL.y2, DL.eq_ii, DL.ne_ii, DL.k1, DL.k2, DL.k3, DL.k4, DL.k5, DL.k6, DL.z0, DL.z1, DL.z2, DL.z3, DL.z4, DL.z5, DL.z6, DL.z7, DL.z8, DL.z9, DL.z10, DL.z11, DL.z12, DL.z13, DL.z14, DL.z15, DL.z16, DL.z17, DL.z18, DL.z19, DL.z20, DL.z21, DL.z22, DL.z23, DL.z24, DL.z25, DL.z26, DL.z27, DL.z28, DL.z29, DL.ic1, DL.ic2, dPar3, dIs2, dDic0, dCallD, dFld, dProp, dNew, dTkSet, dTkInt, dIter, DL.w0, DL.w1, DL.w2, DL.w3, DL.w4, DL.w5]
    refine sp_Alarms h1 h2 h3 l1 l2 ha ?_
    simp [phi, startA, dSeq, dNext, dAsg, dAsgG, dIf, dRet, dRetV, dRetN, dDrop, dRaise, dRaiseI, dFz, dFzS, dVar, dC, dBin, dUn, dTest, isB, dAndT, dOrT, dNotT, dAndV, dOrV, dNotV, dIfE, dTruth, dCons, dNil, dTupE, dLstE, dCB, dIs, dCall, gNm, dPart, dNoPart, DL.f0, DL.fc, DL.g1, DL.g2, DL.g3, DL.s1, DL.s2, DL.zc, dPar, dChain, DL.e1, DL.e2, DL.e3, DL.e4, DL.e5, DL.e6, DL.e7, DL.e8, DL.e9, DL.e10, DL.e11, DL.e12, DL.e13, DL.e14, DL.a1, DL.a2, DL.a3, DL.a4, DL.a5, DL.a6, DL.a7, DL.a8, DL.a9, DL.a10, DL.a11, DL.t1, DL.t2, DL.t3, DL.x1, DL.x2, DL.x3, DL.x4, DL.x5, DL.x6, DL.x7, DL.x8, DL.x9, DL.x10, DL.x11, DL.x12, DL.y1, DL.y2, DL.eq_ii, DL.ne_ii, DL.k1, DL.k2, DL.k3, DL.k4, DL.k5, DL.k6, DL.z0, DL.z1, DL.z2, DL.z3, DL.z4, DL.z5, DL.z6, DL.z7, DL.z8, DL.z9, DL.z10, DL.z11, DL.z12, DL.z13, DL.z14, DL.z15, DL.z16, DL.z17, DL.z18, DL.z19, DL.z20, DL.z21, DL.z22, DL.z23, DL.z24, DL.z25, DL.z26, DL.z27, DL.z28, DL.z29, DL.ic1, DL.ic2, dPar3, dIs2, dDic0, dCallD, dFld, dProp, dNew, dTkSet, dTkInt, dIter, DL.w0, DL.w1, DL.w2, DL.w3, DL.w4, DL.w5]
    refine ⟨lsz (by omega), sp__law_pick (by simp) (by simp) fun d hd => ?_⟩
    have hk : ∃ k : Nat, k ≤ 199 ∧ d = .int k := by
      simp only [List.mem_cons, List.not_mem_nil, or_false] at hd
      rcases hd with rfl | rfl | rfl | rfl | rfl
      · exact ⟨0, by omega, rfl⟩
      · exact ⟨1, by omega, rfl⟩
      · exact ⟨5, by omega, rfl⟩
      · exact ⟨30, by omega, rfl⟩
      · exact ⟨199, by omega, rfl⟩
    obtain ⟨k, hk, rfl⟩ := hk
    simp [phi, startA, dSeq, dNext, dAsg, dAsgG, dIf, dRet, dRetV, dRetN, dDrop, dRaise, dRaiseI, dFz, dFzS, dVar, dC, dBin, dUn, dTest, isB, dAndT, dOrT, dNotT, dAndV, dOrV, dNotV, dIfE, dTruth, dCons, dNil, dTupE, dLstE, dCB, dIs, dCall, gNm, dPart, dNoPart, DL.f0, DL.fc, DL.g1, DL.g2, DL.g3, DL.s1, DL.s2, DL.zc, dPar, dChain, DL.e1, DL.e2, DL.e3, DL.e4, DL.e5, DL.e6, DL.e7, DL.e8, DL.e9, DL.e10, DL.e11, DL.e12, DL.e13, DL.e14, DL.a1, DL.a2, DL.a3, DL.a4, DL.a5, DL.a6, DL.a7, DL.a8, DL.a9, DL.a10, DL.a11, DL.t1, DL.t2, DL.t3, DL.x1, DL.x2, DL.x3, DL.x4, DL.x5, DL.x6, DL.x7, DL.x8, DL.x9, DL.x10, DL.x11, DL.x12, DL.y1, DL.y2, DL.eq_ii, DL.ne_ii, DL.k1, DL.k2, DL.k3, DL.k4, DL.k5, DL.k6, DL.z0, DL.z1, DL.z2, DL.z3, DL.z4, DL.z5, DL.z6, DL.z7, DL.z8, DL.z9, DL.z10, DL.z11, DL.z12, DL.z13, DL.z14, DL.z15, DL.z16, DL.z17, DL.z18, DL.z19, DL.z20, DL.z21, DL.z22, DL.z23, DL.z24, DL.z25, DL.z26, DL.z27, DL.z28, DL.z29, DL.ic1, DL.ic2, dPar3, dIs2, dDic0, dCallD, dFld, dProp, dNew, dTkSet, dTkInt, dIter, DL.w0, DL.w1, DL.w2, DL.w3, DL.w4, DL.w5]
    refine sp__law_al_stream (by omega) h2 h1 h3 fun l hl hb => ?_
    simp [phi, startA, dSeq, dNext, dAsg, dAsgG, dIf, dRet, dRetV, dRetN, dDrop, dRaise, dRaiseI, dFz, dFzS, dVar, dC, dBin, dUn, dTest, isB, dAndT, dOrT, dNotT, dAndV, dOrV, dNotV, dIfE, dTruth, dCons, dNil, dTupE, dLstE, dCB, dIs, dCall, gNm, dPart, dNoPart, DL.f0, DL.fc, DL.g1, DL.g2, DL.g3, DL.s1, DL.s2, DL.zc, dPar, dChain, DL.e1, DL.e2, DL.e3, DL.e4, DL.e5, DL.e6, DL.e7, DL.e8, DL.e9, DL.e10, DL.e11, DL.e12, DL.e13, DL.e14, DL.a1, DL.a2, DL.a3, DL.a4, DL.a5, DL.a6, DL.a7, DL.a8, DL.a9, DL.a10, DL.a11, DL.t1, DL.t2, DL.t3, DL.x1, DL.x2, DL.x3, DL.x4, DL.x5, DL.x6, DL.x7, DL.x8, DL.x9, DL.x10, DL.x11, DL.x12, DL.y1, DL.y2, DL.eq_ii, DL.ne_ii, DL.k1, DL.k2, DL.k3, DL.k4, DL.k5, DL.k6, DL.z0, DL.z1, DL.z2, DL.z3, DL.z4, DL.z5, DL.z6, DL.z7, DL.z8, DL.z9, DL.z10, DL.z11, DL.z12, DL.z13, DL.z14, DL.z15, DL.z16, DL.z17, DL.z18, DL.z19, DL.z20, DL.z21, DL.z22, DL.z23, DL.z24, DL.z25, DL.z26, DL.z27, DL.z28, DL.z29, DL.ic1, DL.ic2, dPar3, dIs2, dDic0, dCallD, dFld, dProp, dNew, dTkSet, dTkInt, dIter, DL.w0, DL.w1, DL.w2, DL.w3, DL.w4, DL.w5]
    refine sp__law_draw (by omega) (by omega) fun j j0 j1 => ?_
    obtain ⟨j, rfl⟩ : ∃ t : Nat, j = t := ⟨j.toNat, by omega⟩
    simp [phi, startA, dSeq, dNext, dAsg, dAsgG, dIf, dRet, dRetV, dRetN, dDrop, dRaise, dRaiseI, dFz, dFzS, dVar, dC, dBin, dUn, dTest, isB, dAndT, dOrT, dNotT, dAndV, dOrV, dNotV, dIfE, dTruth, dCons, dNil, dTupE, dLstE, dCB, dIs, dCall, gNm, dPart, dNoPart, DL.f0, DL.fc, DL.g1, DL.g2, DL.g3, DL.s1, DL.s2, DL.zc, dPar, dChain, DL.e1, DL.e2, DL.e3, DL.e4, DL.e5, DL.e6, DL.e7, DL.e8, DL.e9, DL.e10, DL.e11, DL.e12, DL.e13, DL.e14, DL.a1, DL.a2, DL.a3, DL.a4, DL.a5, DL.a6, DL.a7, DL.a8, DL.a9, DL.a10, DL.a11, DL.t1, DL.t2, DL.t3, DL.x1, DL.x2, DL.x3, DL.x4, DL.x5, DL.x6, DL.x7, DL.x8, DL.x9, DL.x10, DL.x11, DL.x12, DL.y1, DL.y2, DL.eq_ii, DL.ne_ii, DL.k1, DL.k2, DL.k3, DL.k4, DL.k5, DL.k6, DL.z0, DL.z1, DL.z2, DL.z3, DL.z4, DL.z5, DL.z6, DL.z7, DL.z8, DL.z9, DL.z10, DL.z11, DL.z12, DL.z13, DL.z14, DL.z15, DL.z16, DL.z17, DL.z18, DL.z19, DL.z20, DL.z21, DL.z22, DL.z23, DL.z24, DL.z25, DL.z26, DL.z27, DL.z28, DL.z29, DL.ic1, DL.ic2, dPar3, dIs2, dDic0, dCallD, dFld, dProp, dNew, dTkSet, dTkInt, dIter, DL.w0, DL.w1, DL.w2, DL.w3, DL.w4, DL.w5]
    have sz : (l.map D.int).length ≤ 200 := by rw [List.length_map]; omega
    refine ⟨lsz (by omega), lsz (by simp; omega), lsz (by omega), lsz (by simp; omega), lsz (by omega), lsz (by simp; omega), lsz (by omega), lsz (by simp; omega), ?_⟩
    simp [phi, startA, dSeq, dNext, dAsg, dAsgG, dIf, dRet, dRetV, dRetN, dDrop, dRaise, dRaiseI, dFz, dFzS, dVar, dC, dBin, dUn, dTest, isB, dAndT, dOrT, dNotT, dAndV, dOrV, dNotV, dIfE, dTruth, dCons, dNil, dTupE, dLstE, dCB, dIs, dCall, gNm, dPart, dNoPart, DL.f0, DL.fc, DL.g1, DL.g2, DL.g3, DL.s1, DL.s2, DL.zc, dPar, dChain, DL.e1, DL.e2, DL.e3, DL.e4, DL.e5, DL.e6, DL.e7, DL.e8, DL.e9, DL.e10, DL.e11, DL.e12, DL.e13, DL.e14, DL.a1, DL.a2, DL.a3, DL.a4, DL.a5, DL.a6, DL.a7, DL.a8, DL.a9, DL.a10, DL.a11, DL.t1, DL.t2, DL.t3, DL.x1, DL.x2, DL.x3, DL.x4, DL.x5, DL.x6, DL.x7, DL.x8, DL.x9, DL.x10, DL.x11, DL.x12, DL.y1, DL.y2, DL.eq_ii, DL.ne_ii, DL.k1, DL.k2, DL.k3, DL.k4, DL.k5, DL.k6, DL.z0, DL.z1, DL.z2, DL.z3, DL.z4, DL.z5, DL.z6, DL.z7, DL.z8, DL.z9, DL.z10, DL.z11, DL.z12, DL.z13, DL.z14, DL.z15, DL.z16, DL.z17, DL.z18, DL.z19, DL.z20, DL.z21, DL.z22, DL.z23, DL.z24, DL.z25, DL.z26, DL.z27, DL.z28, DL.z29, DL.ic1, DL.ic2, dPar3, dIs2, dDic0, dCallD, dFld, dProp, dNew, dTkSet, dTkInt, dIter, DL.w0, DL.w1, DL.w2, DL.w3, DL.w4, DL.w5, dDic]
    refine ⟨lsz (by simp; omega), [.tup (l.map D.int ++ l.map D.int)], rfl, lsz (by simp), lsz (by omega), [.int a], 200, rfl, rfl, by simp, by omega, by omega, by simp, lsz (by omega), [.int a], 201, rfl, rfl, by simp, by omega, by omega, by simp, lsz (by omega), [.int b], 201, rfl, rfl, by simp, by omega, by omega, by simp, [.tup (List.replicate (200 : Int).toNat [D.int a]).flatten, .tup (List.replicate (201 : Int).toNat [D.int a]).flatten, .tup (List.replicate (201 : Int).toNat [D.int b]).flatten], rfl, lsz (by simp), lsz (by simp), fun d z => (nomatch z), ?_⟩
    have pi := pl_ints l
    have rep : ∀ (n : Nat) (x : Int), (List.replicate n [D.int x]).flatten.all D.pl = true := fun n x => List.all_eq_true.mpr fun y hy => by
      obtain ⟨z, hz1, hz2⟩ := List.mem_flatten.mp hy
      rw [(List.mem_replicate.mp hz1).2] at hz2
      rw [List.mem_singleton.mp hz2]
      rfl
    have pe : ∀ x : Int, (l.map D.int ++ [D.int x]).all D.pl = true := fun x => by rw [List.all_append, pi]; rfl
    refine l1_ok (by omega) (by simp) (fun v hv => ?_) n9 fun ws s9 q1 q2 q3 => l2_ok (by omega) q1 q2 n10 n12 fun s10 s12 q4 q5 => l3_ok rfl rfl q3 q4 n11 q5 n13 n14 fun s8 s13 q6 q7 => hn _ ⟨_, _, _, _, _, _, _, _, _, _, _, _, _, q3, q4, n11, q5, q7, n14, rfl⟩
    rcases List.mem_append.mp hv with h | h
    · simp only [List.mem_cons, List.not_mem_nil, or_false] at h
      rcases h with rfl | rfl | rfl | rfl | rfl | rfl | rfl | rfl | rfl | rfl | rfl | rfl | rfl | rfl
      · exact pi
      · rfl
      · exact pe a
      · exact pe b
      · exact pe (a - 1)
      · show (D.int (b + 1) :: l.map D.int).all D.pl = true
        rw [List.all_cons, pi]
        rfl
      · rfl
      · rfl
      · rfl
      · rfl
      · rfl
      · rfl
      · rfl
      · show (l.map D.int ++ l.map D.int).all D.pl = true
        rw [List.all_append, pi]
        rfl
    · simp only [List.mem_cons, List.not_mem_nil, or_false] at h
      rcases h with rfl | rfl | rfl
      · exact rep _ _
      · exact rep _ _
      · exact rep _ _
  · obtain ⟨s2, s3, s4, s5, s6, s7, s8, s9, s10, s11, s12, s13, s14, n9, n10, n11, n12, n13, n14, rfl⟩ := hα
    exact lEnd_ok rfl
end LW

set_option Elab.async false
set_option linter.all false
set_option maxRecDepth 100000
set_option maxHeartbeats 4000000
namespace LW
open PySem PySem.Spec L2 DL
section
variable {w : World} {K : PySem.W.Frag} {mg : Str → Option Value} {base h h2 : Heap}
theorem facts_of (X : K.In h) (G : h.Ns mainGlobals mg) (c : DLH.SaysZ fa fn tf ex ini prs w h2 K) (TB : ∀ p ∈ tf.map (He.cT K), LamX.TabB base mg p.1 p.2) : Facts PySem.Challenge.pw_sumalarms_k02_streams_judged w K mg base (gOf (CA K) (TT K) tn) := by
  have D : He.SaysD fa fn K := c.y.x.t.d
  have e0 : ex K = true := c.y.x.more
  unfold ex at e0
  obtain ⟨x0, y0⟩ := DLH.ba2 e0
  obtain ⟨x1, y1⟩ := DLH.ba2 y0
  obtain ⟨x2, y2⟩ := DLH.ba2 y1
  obtain ⟨x3, y3⟩ := DLH.ba2 y2
  obtain ⟨x4, y4⟩ := DLH.ba2 y3
  obtain ⟨x5, y5⟩ := DLH.ba2 y4
  obtain ⟨x6, y6⟩ := DLH.ba2 y5
  obtain ⟨x7, y7⟩ := DLH.ba2 y6
  obtain ⟨x8, y8⟩ := DLH.ba2 y7
  obtain ⟨x9, y9⟩ := DLH.ba2 y8
  obtain ⟨x10, y10⟩ := DLH.ba2 y9
  obtain ⟨x11, y11⟩ := DLH.ba2 y10
  obtain ⟨x12, y12⟩ := DLH.ba2 y11
  obtain ⟨x13, y13⟩ := DLH.ba2 y12
  obtain ⟨x14, y14⟩ := DLH.ba2 y13
  obtain ⟨x15, y15⟩ := DLH.ba2 y14
  obtain ⟨x16, y16⟩ := DLH.ba2 y15
  obtain ⟨x17, y17⟩ := DLH.ba2 y16
  have x18 := y17
  have kd : Kinds K (gOf (CA K) (TT K) tn) nCls subB exB := DLH.kinds_of (g := gOf (CA K) (TT K) tn) x0
  obtain ⟨oc_ItemError, od_ItemError, os_ItemError, fd_ItemError, lk_ItemError, hp_ItemError, hd_ItemError, T_ItemError⟩ := DLH.iniF_of (d := d_ItemError_dot_init) (f := "index") x4 (c.y.ini (by first | exact List.mem_cons_self | simp [ini])) rfl rfl rfl (by decide +kernel) (by decide +kernel) rfl rfl rfl rfl ⟨_, rfl, rfl⟩ (by kernel_rfl)
  have B_ItemError : Binds K fd_ItemError ["self", "index"] [] := by
    obtain ⟨n1, n2, n3, n4, n5, n6, n7, n8, n9, n10, n11, n12, n13, n14, n15⟩ := fd_ItemError
    dsimp only at hp_ItemError hd_ItemError
    subst hp_ItemError hd_ItemError
    exact .all fun us hl => match us, hl with | [_, _], _ => rfl
  have K_ItemError : FnOk PySem.Challenge.pw_sumalarms_k02_streams_judged w K mg base (L2.CX PySem.Challenge.pw_sumalarms_k02_streams_judged w) 1 (He.fAd K ("ItemError", some "__init__")) fd_ItemError ["self", "index"] (spIni K (CA K 2) "index") := ini_ok T_ItemError lk_ItemError (by decide) (He.free_ok X G (D.fact 42 (f := .free "super") rfl)) (by decide) (by decide) (fun _ => rfl)
  obtain ⟨oc_PartError, od_PartError, os_PartError, fd_PartError, lk_PartError, hp_PartError, hd_PartError, T_PartError⟩ := DLH.iniF_of (d := d_PartError_dot_init) (f := "part") x5 (c.y.ini (by first | exact List.mem_cons_self | simp [ini])) rfl rfl rfl (by decide +kernel) (by decide +kernel) rfl rfl rfl rfl ⟨_, rfl, rfl⟩ (by kernel_rfl)
  have B_PartError : Binds K fd_PartError ["self", "part"] [] := by
    obtain ⟨n1, n2, n3, n4, n5, n6, n7, n8, n9, n10, n11, n12, n13, n14, n15⟩ := fd_PartError
    dsimp only at hp_PartError hd_PartError
    subst hp_PartError hd_PartError
    exact .all fun us hl => match us, hl with | [_, _], _ => rfl
  have K_PartError : FnOk PySem.Challenge.pw_sumalarms_k02_streams_judged w K mg base (L2.CX PySem.Challenge.pw_sumalarms_k02_streams_judged w) 1 (He.fAd K ("PartError", some "__init__")) fd_PartError ["self", "part"] (spIni K (CA K 1) "part") := ini_ok T_PartError lk_PartError (by decide) (He.free_ok X G (D.fact 42 (f := .free "super") rfl)) (by decide) (by decide) (fun _ => rfl)
  exact { toFacts0 := ⟨He.free_ok X G (D.fact 31 (f := .free "abs") rfl),
    He.free_ok X G (D.fact 32 (f := .free "all") rfl),
    He.free_ok X G (D.fact 33 (f := .free "bool") rfl),
    He.free_ok X G (D.fact 34 (f := .free "enumerate") rfl),
    He.free_ok X G (D.fact 35 (f := .free "int") rfl),
    He.free_ok X G (D.fact 36 (f := .free "isinstance") rfl),
    He.free_ok X G (D.fact 37 (f := .free "len") rfl),
    He.free_ok X G (D.fact 38 (f := .free "list") rfl),
    He.free_ok X G (D.fact 39 (f := .free "min") rfl),
    He.free_ok X G (D.fact 40 (f := .free "range") rfl),
    He.free_ok X G (D.fact 41 (f := .free "str") rfl),
    He.free_ok X G (D.fact 42 (f := .free "super") rfl),
    He.free_ok X G (D.fact 43 (f := .free "tuple") rfl),
    He.int_ok X G (D.fact 44 (f := .int "MOST_ALARMS" 4) rfl),
    He.int_ok X G (D.fact 45 (f := .int "MOST_MARK" 1000) rfl),
    He.int_ok X G (D.fact 46 (f := .int "MOST_VALUE" 100) rfl),
    He.int_ok X G (D.fact 47 (f := .int "MOST_WINDOW" 8) rfl),
    He.int_ok X G (D.fact 48 (f := .int "MOST_TICKS" 200) rfl),
    He.glo_ok X G (D.fact 0 (f := .glo "_wall") rfl),
    D.def_ 0 (d := d__wall) rfl,
    He.glo_ok X G (D.fact 1 (f := .glo "is_number") rfl),
    D.def_ 1 (d := d_is_number) rfl,
    He.glo_ok X G (D.fact 2 (f := .glo "is_between") rfl),
    D.def_ 2 (d := d_is_between) rfl,
    He.glo_ok X G (D.fact 3 (f := .glo "is_list") rfl),
    D.def_ 3 (d := d_is_list) rfl,
    He.glo_ok X G (D.fact 4 (f := .glo "alarm_right") rfl),
    D.def_ 4 (d := d_alarm_right) rfl,
    He.glo_ok X G (D.fact 5 (f := .glo "need_values") rfl),
    D.def_ 5 (d := d_need_values) rfl,
    He.glo_ok X G (D.fact 6 (f := .glo "need_alarms") rfl),
    D.def_ 6 (d := d_need_alarms) rfl,
    He.glo_ok X G (D.fact 7 (f := .glo "stream_right") rfl),
    D.def_ 7 (d := d_stream_right) rfl,
    He.glo_ok X G (D.fact 8 (f := .glo "is_stream") rfl),
    D.def_ 8 (d := d_is_stream) rfl,
    He.glo_ok X G (D.fact 9 (f := .glo "_law_begun") rfl),
    D.def_ 9 (d := d__law_begun) rfl,
    He.glo_ok X G (D.fact 10 (f := .glo "_law_blended") rfl),
    D.def_ 10 (d := d__law_blended) rfl,
    He.glo_ok X G (D.fact 11 (f := .glo "_law_draw") rfl),
    D.def_ 11 (d := d__law_draw) rfl,
    He.glo_ok X G (D.fact 12 (f := .glo "_law_pick") rfl),
    D.def_ 12 (d := d__law_pick) rfl,
    He.glo_ok X G (D.fact 13 (f := .glo "_law_caught") rfl),
    D.def_ 13 (d := d__law_caught) rfl,
    He.glo_ok X G (D.fact 14 (f := .glo "_law_is_truth") rfl),
    D.def_ 14 (d := d__law_is_truth) rfl,
    He.glo_ok X G (D.fact 15 (f := .glo "_law_is_number") rfl),
    D.def_ 15 (d := d__law_is_number) rfl,
    He.glo_ok X G (D.fact 16 (f := .glo "_law_al_alarm") rfl),
    D.def_ 16 (d := d__law_al_alarm) rfl,
    He.glo_ok X G (D.fact 17 (f := .glo "_law_al_several") rfl),
    D.def_ 17 (d := d__law_al_several) rfl,
    He.glo_ok X G (D.fact 18 (f := .glo "_law_al_values") rfl),
    D.def_ 18 (d := d__law_al_values) rfl,
    He.glo_ok X G (D.fact 19 (f := .glo "_law_al_stream") rfl),
    D.def_ 19 (d := d__law_al_stream) rfl,
    He.glo_ok X G (D.fact 20 (f := .glo "_law_al_is_stream") rfl),
    D.def_ 20 (d := d__law_al_is_stream) rfl,
    He.glo_ok X G (D.fact 21 (f := .glo "_law_al_no_alarms") rfl),
    D.def_ 21 (d := d__law_al_no_alarms) rfl,
    He.glo_ok X G (D.fact 22 (f := .glo "_law_al_bent") rfl),
    D.def_ 22 (d := d__law_al_bent) rfl,
    He.glo_ok X G (D.fact 23 (f := .glo "law") rfl),
    D.def_ 23 (d := d_law) rfl,
    D.def_ 24 (d := d_Alarms_dot_init) rfl,
    He.glo_ok X G (D.fact 49 (f := .glo "KINDS") rfl)⟩
          kinds := kd
          g_AlarmError := He.glo_ok X G (D.fact 24 (f := .glo "AlarmError") rfl)
          g_PartError := He.glo_ok X G (D.fact 25 (f := .glo "PartError") rfl)
          g_ItemError := He.glo_ok X G (D.fact 26 (f := .glo "ItemError") rfl)
          g_BadAlarm := He.glo_ok X G (D.fact 27 (f := .glo "BadAlarm") rfl)
          g_BadAlarms := He.glo_ok X G (D.fact 28 (f := .glo "BadAlarms") rfl)
          g_NoAlarms := He.glo_ok X G (D.fact 29 (f := .glo "NoAlarms") rfl)
          g_Alarms := He.glo_ok X G (D.fact 30 (f := .glo "Alarms") rfl)
          i_BadAlarm := ⟨⟨CA K 2, _, fd_ItemError, K_ItemError, B_ItemError, (DLH.iniC_of x1).2.1, (DLH.iniC_of x1).2.2, (DLH.iniC_of x1).1⟩⟩
          i_BadAlarms := ⟨⟨CA K 1, _, fd_PartError, K_PartError, B_PartError, (DLH.iniC_of x2).2.1, (DLH.iniC_of x2).2.2, (DLH.iniC_of x2).1⟩⟩
          i_NoAlarms := ⟨⟨CA K 1, _, fd_PartError, K_PartError, B_PartError, (DLH.iniC_of x3).2.1, (DLH.iniC_of x3).2.2, (DLH.iniC_of x3).1⟩⟩
          xf_index := fun c hc => let z := DLH.ba2 (DLH.all_of x7 (fun c h => DLH.getD_out _ c h) c hc); ⟨xfB_ok z.1, He.eqO_ok z.2⟩
          xf_part := fun c hc => let z := DLH.ba2 (DLH.all_of x8 (fun c h => DLH.getD_out _ c h) c hc); ⟨xfB_ok z.1, He.eqO_ok z.2⟩
          okc := fun c hc => of_decide_eq_true (DLH.all_of x6 (fun c h => DLH.getD_out _ c h) c hc)
          cl_Alarms := (DLH.mk_of x9).1
          k_Alarms := (DLH.mk_of x9).2
          d_Alarms_dot_low := DLH.pr_of x10 (c.pr (by first | exact List.mem_cons_self | simp [prs]))
          d_Alarms_dot_high := DLH.pr_of x11 (c.pr (by first | exact List.mem_cons_self | simp [prs]))
          d_Alarms_dot_alarms := DLH.pr_of x12 (c.pr (by first | exact List.mem_cons_self | simp [prs]))
          d_Alarms_dot_span := DLH.pr_of x13 (c.pr (by first | exact List.mem_cons_self | simp [prs]))
          fl_own_alarms := fun c hc => let z := DLH.ba2 (DLH.all_of x14 (fun c h => DLH.getD_out _ c h) c hc); ⟨(DLH.insC_of z.1).1, DLH.no_of z.2⟩
          fl_own_high := fun c hc => let z := DLH.ba2 (DLH.all_of x15 (fun c h => DLH.getD_out _ c h) c hc); ⟨(DLH.insC_of z.1).1, DLH.no_of z.2⟩
          fl_own_low := fun c hc => let z := DLH.ba2 (DLH.all_of x16 (fun c h => DLH.getD_out _ c h) c hc); ⟨(DLH.insC_of z.1).1, DLH.no_of z.2⟩
          tabs := of_decide_eq_true x17
          t_KINDS := x18
          tape := gOf_tape
          lam := lamT_of gOf_tape
          tab_law := TB _ (by first | exact List.mem_cons_self | simp [tf])
          }
theorem law_at {fa_ : Addr} (X : K.In h) (G : h.Ns mainGlobals mg) (c : DLH.SaysZ fa fn tf ex ini prs w h K) (hl : mg "law" = some (.ref fa_)) : LamX.LawAtS PySem.Challenge.rw_sumalarms_k02_streams_judged w K (L2.CX PySem.Challenge.pw_sumalarms_k02_streams_judged w) 13 63 "script" mg fa_ h := by
  have D : He.SaysD fa fn K := c.y.x.t.d
  obtain ⟨fd, F⟩ := D.def_ 23 (d := d_law) rfl
  have e := hl.symm.trans (He.glo_ok X G (D.fact 23 (f := .glo "law") rfl))
  cases e
  have mem : ∀ p ∈ tf.map (He.cT K), ∃ d ∈ tf, p = He.cT K d := fun p hp => by
    obtain ⟨d, hd, e⟩ := List.mem_map.mp hp
    exact ⟨d, hd, e.symm⟩
  refine ⟨fd, tf.map (He.cT K), spLaw (TT K) K, fun p hp => ?_, fun p hp => ?_, fun p hp => ?_, fun s u => ?_, fun H a ns h1 h2 h3 h4 => ⟨a, ns, rfl, h4, h1, h2, DLH.tabs_new fun p hp => ?_, fun _ => rfl⟩, fun base hb hg hT => ?_⟩
  · obtain ⟨d, hd, rfl⟩ := mem p hp
    exact c.y.x.empty d hd
  · obtain ⟨d, hd, rfl⟩ := mem p hp
    exact c.y.x.out d hd
  · obtain ⟨d, hd, rfl⟩ := mem p hp
    exact PySem.W.codeHd_of_K X (c.y.x.hd d hd)
  · exact FunD.bindsA (ps := ["script"]) F (fun _ _ _ _ _ _ us hl => match us, hl with | [_], _ => rfl) s [u] rfl
  · have z : ∃ d ∈ tf, p.1 = (He.cT K d).2 := by
      unfold TT at hp
      revert hp
      simp only [List.mem_cons, List.not_mem_nil, or_false]
      intro hp; subst hp; exact ⟨_, by simp [tf], rfl⟩
    obtain ⟨d, hd, e⟩ := z
    rw [e]
    exact h3 _ (List.mem_map.mpr ⟨d, hd, rfl⟩)
  · exact okf_law (facts_of hb hg c hT) F begun_plain law_plain
end
end LW
open PySem PySem.W PySem.Calls PyProof.Rows
theorem PySem.Challenge.cw_sumalarms_k02_streams_judged_holds : PySem.Challenge.rw_sumalarms_k02_streams_judged.Holds := by
  w_on; o_law
  refine HandSHeadRun.head_any (r := OpenLaw.row PySem.Challenge.rw_sumalarms_k02_streams_judged) (q := view (OpenLaw.row PySem.Challenge.rw_sumalarms_k02_streams_judged).prog [41]) (H := LW.hk) (ob := LW.ob) (M := 4000) (loose := LW.loose) (d := HandSHeadRun.topDef (OpenLaw.row PySem.Challenge.rw_sumalarms_k02_streams_judged).prog 41) (kwd := []) LW.ob_eq
    (by kernel_rfl) (fun s => by kernel_rfl) LW.run (by kernel_rfl) (by kernel_rfl) (by kernel_rfl) (by rfl) (by first | assumption | decide +kernel) (by decide +kernel) ⟨rfl, rfl, rfl, rfl, rfl, by decide +kernel⟩ ?hw ?hc
  case hw => w_witness2
  case hc =>
    refine LamX.walk_ofTsE (l := PySem.Challenge.rw_sumalarms_k02_streams_judged) (n := 63) (k := 13) (x := "script") (CX := fun w => L2.CX PySem.Challenge.pw_sumalarms_k02_streams_judged w) rfl (by decide) (by kernel_rfl) ⟨rfl, by decide, by decide⟩ ?F ?E
    case F =>
      intro w mg fa h Y G hmg0
      obtain ⟨K, KX, c⟩ := Y
      have hmg : mg ("law" : PySem.Str) = some (.ref fa) := by
        have e : (HandSHeadRun.topDef (OpenLaw.row PySem.Challenge.rw_sumalarms_k02_streams_judged).prog 41).name = ("law" : PySem.Str) := by kernel_rfl
        rw [← e]
        exact hmg0
      exact ⟨K, KX, LW.law_at KX G c hmg⟩
    case E =>
      intro w H s e s' z
      obtain ⟨_, _, _, _, _, _, _, _, _, _, _, _, z⟩ := z
      exact z
