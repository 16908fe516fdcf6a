import PyProof.Rows.All
import Wide.All
import OpenK.AllK
import Wide.FinOn
import HandS.ForMost
import HandS.ForExc
import HandS.Wide
import HandS.IsInst
import HandS.StrMore
import HandS.TupAny
import PyProof.StrOps2
import PyProof.Rows.StrPadFill
import HandS.EndBits
import KE.IntTextLaws
import HandS.Codes
import PyProof.Rows.StrCase
import PySem.Challenge.RW_heldlevels_k07_texts_of_nodes
set_option Elab.async false
set_option linter.all false
set_option maxRecDepth 100000
set_option maxHeartbeats 4000000
/-! G: programs read over plain data. -/
namespace G
open PySem PySem.Spec L2

/-- plain data: a flat value, a tuple, a list that nobody changes any more -/
inductive D where
  | v (x : V)
  | tup (ds : List D)
  | lst (ds : List D)
  /-- the script -/
  | scr (ns : List Int)
abbrev Reg := Addr → Prop
/-- an object that may change -/
inductive MO where
  | lst (ds : List D)
  | ins (C dx : Addr) (fs : List (Str × D))
  | dK (kvs : List (Key × D))
abbrev Wd := Addr → Option MO
/-- what a slot of the frame holds: shared data, or a list of its own -/
inductive Sl where
  | sh (d : D)
  | ol (ds : List D)
abbrev Env := List (Option Sl)

abbrev D.int (i : Int) : D := .v (.int i)
abbrev D.str (s : Str) : D := .v (.str s)
abbrev D.bl (b : Bool) : D := .v (.bl b)
abbrev D.non : D := .v .non
abbrev D.ref (a : Addr) : D := .v (.ref a)

def emp : Hp := fun _ => none
def ImL (S : Reg) (H : Hp) (a : Addr) (xs : List V) : Prop := H a = some (.lst xs) ∧ ¬ S a
def ImS (K : PySem.W.Frag) (S : Reg) (H : Hp) (a : Addr) (xs : List V) : Prop := (Rd H a (.lst xs) ∧ ¬ S a) ∨ SqL K emp a xs
def ImT (K : PySem.W.Frag) (S : Reg) (H : Hp) (a : Addr) (xs : List V) : Prop := (H a = some (.tup xs) ∧ ¬ S a) ∨ SqT K emp a xs
mutual
def Rep (K : PySem.W.Frag) (S : Reg) (H : Hp) : D → V → Prop
  | .v x, y => y = x
  | .tup ds, y => ∃ a xs, y = .ref a ∧ ImT K S H a xs ∧ Reps K S H ds xs
  | .lst ds, y => ∃ a xs, y = .ref a ∧ ImL S H a xs ∧ Reps K S H ds xs
  | .scr ns, y => ∃ a, y = .ref a ∧ ImS K S H a (ns.map V.int)
def Reps (K : PySem.W.Frag) (S : Reg) (H : Hp) : List D → List V → Prop
  | [], xs => xs = []
  | d :: ds, xs => ∃ x r, xs = x :: r ∧ Rep K S H d x ∧ Reps K S H ds r
end

/-- from one moment to a later one: F is not touched, what is no region of change stands -/
structure Stp (F : Reg) (S : Reg) (H : Hp) (S' : Reg) (H' : Hp) : Prop where
  keep : ∀ a o, ¬ S a → H a = some o → H' a = some o
  new : ∀ a, S' a → ¬ S a → H a = none
  dom : ∀ a, H' a = none → H a = none
  frn : ∀ a, F a → H' a = H a
theorem Stp.refl {F S : Reg} {H : Hp} : Stp F S H S H := ⟨fun _ _ _ e => e, fun _ a b => absurd a b, fun _ e => e, fun _ _ => rfl⟩
theorem Stp.trans {F S S1 S2 : Reg} {H H1 H2 : Hp} (a : Stp F S H S1 H1) (b : Stp F S1 H1 S2 H2) : Stp F S H S2 H2 where
  keep := fun x o hs e => by
    have e1 := a.keep x o hs e
    refine b.keep x o (fun hs1 => ?_) e1
    have := a.new x hs1 hs
    rw [this] at e; cases e
  new := fun x h2 hs => by
    by_cases h1 : S1 x
    · exact a.new x h1 hs
    · exact a.dom x (b.new x h2 h1)
  dom := fun x e => a.dom x (b.dom x e)
  frn := fun x hx => (b.frn x hx).trans (a.frn x hx)
theorem Stp.mono {F F' S S' : Reg} {H H' : Hp} (a : Stp F S H S' H') (h : ∀ x, F' x → F x) : Stp F' S H S' H' := ⟨a.keep, a.new, a.dom, fun x hx => a.frn x (h x hx)⟩
theorem Stp.rd {F S S' : Reg} {H H' : Hp} {a : Addr} {u : HO} (e : Stp F S H S' H') (h : Rd H a u ∧ ¬ S a) : Rd H' a u ∧ ¬ S' a := by
  obtain ⟨h, hs⟩ := h
  have hn : H a ≠ none := by
    rcases h with h | ⟨o, h⟩ <;> rw [h] <;> simp
  refine ⟨?_, fun hs' => hn (e.new a hs' hs)⟩
  rcases h with h | ⟨o, h⟩
  · exact .inl (e.keep a _ hs h)
  · exact .inr ⟨o, e.keep a _ hs h⟩
theorem Stp.imS {K : PySem.W.Frag} {F S S' : Reg} {H H' : Hp} {a : Addr} {xs : List V} (e : Stp F S H S' H') (h : ImS K S H a xs) : ImS K S' H' a xs := by
  rcases h with h | h
  · exact .inl (e.rd h)
  · exact .inr h
theorem Stp.imL {F S S' : Reg} {H H' : Hp} {a : Addr} {xs : List V} (e : Stp F S H S' H') (h : ImL S H a xs) : ImL S' H' a xs :=
  ⟨e.keep a _ h.2 h.1, fun hs' => by
    have := e.new a hs' h.2
    rw [h.1] at this; cases this⟩
theorem Stp.imT {K : PySem.W.Frag} {F S S' : Reg} {H H' : Hp} {a : Addr} {xs : List V} (e : Stp F S H S' H') (h : ImT K S H a xs) : ImT K S' H' a xs := by
  rcases h with ⟨h, hs⟩ | h
  · refine .inl ⟨e.keep a _ hs h, fun hs' => ?_⟩
    have := e.new a hs' hs
    rw [h] at this; cases this
  · exact .inr h
mutual
theorem Rep.up {K : PySem.W.Frag} {F S S' : Reg} {H H' : Hp} (e : Stp F S H S' H') : ∀ {d : D} {v : V}, Rep K S H d v → Rep K S' H' d v
  | .v _, _, h => by simp only [Rep] at h ⊢; exact h
  | .tup ds, v, h => by
    simp only [Rep] at h ⊢
    obtain ⟨a, xs, e1, h1, h2⟩ := h
    exact ⟨a, xs, e1, e.imT h1, Reps.up e h2⟩
  | .lst ds, v, h => by
    simp only [Rep] at h ⊢
    obtain ⟨a, xs, e1, h1, h2⟩ := h
    exact ⟨a, xs, e1, e.imL h1, Reps.up e h2⟩
  | .scr ns, v, h => by
    simp only [Rep] at h ⊢
    obtain ⟨a, e1, h1⟩ := h
    exact ⟨a, e1, e.imS h1⟩
theorem Reps.up {K : PySem.W.Frag} {F S S' : Reg} {H H' : Hp} (e : Stp F S H S' H') : ∀ {ds : List D} {vs : List V}, Reps K S H ds vs → Reps K S' H' ds vs
  | [], _, h => by simp only [Reps] at h ⊢; exact h
  | d :: ds, vs, h => by
    simp only [Reps] at h ⊢
    obtain ⟨x, r, e1, h1, h2⟩ := h
    exact ⟨x, r, e1, Rep.up e h1, Reps.up e h2⟩
end
theorem emp_l {K : PySem.W.Frag} {H : Hp} {a : Addr} {xs : List V} (h : SqL K emp a xs) : SqL K H a xs := by
  rcases h with (h | ⟨_, h⟩) | h
  · cases h
  · cases h
  · exact .inr h
theorem emp_t {K : PySem.W.Frag} {H : Hp} {a : Addr} {xs : List V} (h : SqT K emp a xs) : SqT K H a xs := by
  rcases h with (h | ⟨_, h⟩) | h
  · cases h
  · cases h
  · exact .inr h
theorem ImS.sq {K : PySem.W.Frag} {S : Reg} {H : Hp} {a : Addr} {xs : List V} (h : ImS K S H a xs) : SqL K H a xs := by
  rcases h with h | h
  · exact .inl h.1
  · exact emp_l h
theorem ImL.sq {K : PySem.W.Frag} {S : Reg} {H : Hp} {a : Addr} {xs : List V} (h : ImL S H a xs) : SqL K H a xs := SqL.of h.1
theorem ImT.sq {K : PySem.W.Frag} {S : Reg} {H : Hp} {a : Addr} {xs : List V} (h : ImT K S H a xs) : SqT K H a xs := by
  rcases h with h | h
  · exact SqT.of h.1
  · exact emp_t h
section
variable {K : PySem.W.Frag} {S : Reg} {H : Hp} {d : D} {ds : List D} {v : V} {vs : List V}
theorem Rep.v_iff {x : V} : Rep K S H (.v x) v ↔ v = x := by simp only [Rep]
theorem Rep.tup_iff : Rep K S H (.tup ds) v ↔ ∃ a xs, v = .ref a ∧ ImT K S H a xs ∧ Reps K S H ds xs := by simp only [Rep]
theorem Rep.lst_iff : Rep K S H (.lst ds) v ↔ ∃ a xs, v = .ref a ∧ ImL S H a xs ∧ Reps K S H ds xs := by simp only [Rep]
theorem Rep.scr_iff {ns : List Int} : Rep K S H (.scr ns) v ↔ ∃ a, v = .ref a ∧ ImS K S H a (ns.map V.int) := by simp only [Rep]
theorem Reps.nil_iff : Reps K S H [] vs ↔ vs = [] := by simp only [Reps]
theorem Reps.cons_iff : Reps K S H (d :: ds) vs ↔ ∃ x r, vs = x :: r ∧ Rep K S H d x ∧ Reps K S H ds r := by simp only [Reps]
theorem Reps.nil : Reps K S H [] [] := Reps.nil_iff.mpr rfl
theorem Reps.cons (h : Rep K S H d v) (r : Reps K S H ds vs) : Reps K S H (d :: ds) (v :: vs) := Reps.cons_iff.mpr ⟨_, _, rfl, h, r⟩
theorem Reps.length : ∀ {ds : List D} {vs : List V}, Reps K S H ds vs → vs.length = ds.length
  | [], vs, h => by rw [Reps.nil_iff.mp h] <;> rfl
  | d :: ds, vs, h => by
    obtain ⟨x, r, rfl, _, h2⟩ := Reps.cons_iff.mp h
    simp [Reps.length h2]
theorem Reps.append : ∀ {ds es : List D} {vs ws : List V}, Reps K S H ds vs → Reps K S H es ws → Reps K S H (ds ++ es) (vs ++ ws)
  | [], _, _, _, h, h2 => by rw [Reps.nil_iff.mp h]; exact h2
  | d :: ds, _, _, _, h, h2 => by
    obtain ⟨x, r, rfl, h1, h3⟩ := Reps.cons_iff.mp h
    exact Reps.cons h1 (Reps.append h3 h2)
theorem Reps.get : ∀ {ds : List D} {vs : List V} {i : Nat} {d : D}, Reps K S H ds vs → ds[i]? = some d → ∃ v, vs[i]? = some v ∧ Rep K S H d v
  | [], _, i, _, _, e => by simp at e
  | d :: ds, _, 0, d', h, e => by
    obtain ⟨x, r, rfl, h1, _⟩ := Reps.cons_iff.mp h
    simp at e; subst e
    exact ⟨x, rfl, h1⟩
  | d :: ds, _, i + 1, d', h, e => by
    obtain ⟨x, r, rfl, _, h2⟩ := Reps.cons_iff.mp h
    obtain ⟨v, e1, h3⟩ := Reps.get (i := i) h2 (by simpa using e)
    exact ⟨v, by simpa using e1, h3⟩
theorem Reps.get' : ∀ {ds : List D} {vs : List V} {i : Nat} {v : V}, Reps K S H ds vs → vs[i]? = some v → ∃ d, ds[i]? = some d ∧ Rep K S H d v := fun {ds vs i v} h e => by
  have hl := h.length
  have hi : i < vs.length := (List.getElem?_eq_some_iff.mp e).1
  have hd : ds[i]? = some ds[i] := List.getElem?_eq_getElem (by omega)
  obtain ⟨v', e1, h1⟩ := h.get hd
  rw [e] at e1; cases e1
  exact ⟨_, hd, h1⟩
theorem Reps.take (n : Nat) : ∀ {ds : List D} {vs : List V}, Reps K S H ds vs → Reps K S H (ds.take n) (vs.take n) := by
  induction n with
  | zero => intro ds vs _; exact Reps.nil
  | succ n ih =>
    intro ds vs h
    cases ds with
    | nil => rw [Reps.nil_iff.mp h]; exact Reps.nil
    | cons d ds =>
      obtain ⟨x, r, rfl, h1, h2⟩ := Reps.cons_iff.mp h
      exact Reps.cons h1 (ih h2)
theorem Reps.drop (n : Nat) : ∀ {ds : List D} {vs : List V}, Reps K S H ds vs → Reps K S H (ds.drop n) (vs.drop n) := by
  induction n with
  | zero => intro ds vs h; exact h
  | succ n ih =>
    intro ds vs h
    cases ds with
    | nil => rw [Reps.nil_iff.mp h]; exact Reps.nil
    | cons d ds =>
      obtain ⟨x, r, rfl, h1, h2⟩ := Reps.cons_iff.mp h
      exact ih h2
theorem Reps.set {d : D} {v : V} (hd : Rep K S H d v) : ∀ (n : Nat) {ds : List D} {vs : List V}, Reps K S H ds vs → Reps K S H (ds.set n d) (vs.set n v)
  | n, [], _, h => by rw [Reps.nil_iff.mp h]; exact Reps.nil
  | 0, d' :: ds, _, h => by
    obtain ⟨x, r, rfl, h1, h2⟩ := Reps.cons_iff.mp h
    exact Reps.cons hd h2
  | n + 1, d' :: ds, _, h => by
    obtain ⟨x, r, rfl, h1, h2⟩ := Reps.cons_iff.mp h
    exact Reps.cons h1 (Reps.set hd n h2)
theorem Reps.map_v (xs : List V) : Reps K S H (xs.map D.v) xs := by
  induction xs with
  | nil => exact Reps.nil
  | cons x xs ih => exact Reps.cons (Rep.v_iff.mpr rfl) ih
theorem Reps.of_map_v : ∀ {xs vs : List V}, Reps K S H (xs.map D.v) vs → vs = xs
  | [], vs, h => Reps.nil_iff.mp h
  | x :: xs, vs, h => by
    obtain ⟨y, r, rfl, h1, h2⟩ := Reps.cons_iff.mp h
    rw [Rep.v_iff.mp h1, Reps.of_map_v h2]
end

/-! ### the state -/
def MRep (K : PySem.W.Frag) (S : Reg) (H : Hp) (p : Addr) : MO → Prop
  | .lst ds => ∃ xs, H p = some (.lst xs) ∧ Reps K S H ds xs
  | .ins C dx fs => ∃ vs, H p = some (.ins C dx vs) ∧ vs.map (·.1) = fs.map (·.1) ∧ Reps K S H (fs.map (·.2)) (vs.map (·.2))
  | .dK kvs => ∃ vs, H p = some (.dK vs) ∧ vs.map (·.1) = kvs.map (·.1) ∧ Reps K S H (kvs.map (·.2)) (vs.map (·.2))
/-- without the frame -/
structure Cb (K : PySem.W.Frag) (F S : Reg) (H : Hp) (W : Wd) : Prop where
  sd : ∀ a, S a → H a ≠ none
  fs : ∀ a, F a → S a
  w : ∀ p o, W p = some o → S p ∧ ¬ F p ∧ MRep K S H p o
def Own (σ : St) (ρ : Env) (i : Nat) (p : Addr) : Prop := ∃ ds, ρ[i]? = some (some (.ol ds)) ∧ σ[i]? = some (some (.ref p))
def OwnSet (σ : St) (ρ : Env) : Reg := fun p => ∃ i, Own σ ρ i p
structure Cf (K : PySem.W.Frag) (F S : Reg) (H : Hp) (σ : St) (ρ : Env) (W : Wd) : Prop where
  cb : Cb K F S H W
  len : σ.length = ρ.length
  sh : ∀ (i : Nat) d, ρ[i]? = some (some (.sh d)) → ∃ v, σ[i]? = some (some v) ∧ Rep K S H d v
  ol : ∀ (i : Nat) ds, ρ[i]? = some (some (.ol ds)) → ∃ p xs, σ[i]? = some (some (.ref p)) ∧ H p = some (.lst xs) ∧ Reps K S H ds xs ∧ S p ∧ ¬ F p ∧ W p = none
  dis : ∀ i j p, Own σ ρ i p → Own σ ρ j p → i = j
theorem MRep.up {K : PySem.W.Frag} {F S S' : Reg} {H H' : Hp} (e : Stp F S H S' H') {p : Addr} {o : MO} (hp : H' p = H p) (h : MRep K S H p o) : MRep K S' H' p o := by
  cases o with
  | lst ds => obtain ⟨xs, h1, h2⟩ := h; exact ⟨xs, hp.trans h1, h2.up e⟩
  | ins C dx fs => obtain ⟨xs, h1, h2, h3⟩ := h; exact ⟨xs, hp.trans h1, h2, h3.up e⟩
  | dK fs => obtain ⟨xs, h1, h2, h3⟩ := h; exact ⟨xs, hp.trans h1, h2, h3.up e⟩
section
variable {K : PySem.W.Frag} {F S S' : Reg} {H H' : Hp} {σ : St} {ρ : Env} {W W' : Wd}
/-- the heap has grown alone -/
theorem stp_same (c : Cb K F S H W) (e : Same H H') : Stp F S H S H' where
  keep := fun a o _ h => e a o h
  new := fun a h1 h2 => absurd h1 h2
  dom := fun a h => by
    cases q : H a with
    | none => rfl
    | some o => rw [e a o q] at h; cases h
  frn := fun a hf => by
    cases q : H a with
    | none => exact absurd q (c.sd a (c.fs a hf))
    | some o => exact e a o q
theorem Cb.same (c : Cb K F S H W) (e : Same H H') : Cb K F S H' W where
  sd := fun a hs q => c.sd a hs ((stp_same c e).dom a q)
  fs := c.fs
  w := fun p o hw => by
    obtain ⟨h1, h2, h3⟩ := c.w p o hw
    refine ⟨h1, h2, h3.up (stp_same c e) ?_⟩
    cases q : H p with
    | none => exact absurd q (c.sd p h1)
    | some o => exact e p o q
theorem Cf.same (c : Cf K F S H σ ρ W) (e : Same H H') : Cf K F S H' σ ρ W where
  cb := c.cb.same e
  len := c.len
  sh := fun i d h => by
    obtain ⟨v, h1, h2⟩ := c.sh i d h
    exact ⟨v, h1, h2.up (stp_same c.cb e)⟩
  ol := fun i ds h => by
    obtain ⟨p, xs, h1, h2, h3, h4⟩ := c.ol i ds h
    exact ⟨p, xs, h1, e p _ h2, h3.up (stp_same c.cb e), h4⟩
  dis := c.dis
/-- what a callee sees: the frame's own lists are foreign to it -/
theorem Cf.below (c : Cf K F S H σ ρ W) : Cb K (fun a => F a ∨ OwnSet σ ρ a) S H W where
  sd := c.cb.sd
  fs := fun a h => by
    rcases h with h | ⟨i, ds, h1, h2⟩
    · exact c.cb.fs a h
    · obtain ⟨p, xs, e1, _, _, hs, _⟩ := c.ol i ds h1
      rw [h2] at e1; cases e1; exact hs
  w := fun p o hw => by
    obtain ⟨h1, h2, h3⟩ := c.cb.w p o hw
    refine ⟨h1, fun h => ?_, h3⟩
    rcases h with h | ⟨i, ds, q1, q2⟩
    · exact h2 h
    · obtain ⟨p', xs, e1, _, _, _, _, hw'⟩ := c.ol i ds q1
      rw [q2] at e1; cases e1
      rw [hw] at hw'; cases hw'
theorem Cf.back (c : Cf K F S H σ ρ W) (e : Stp (fun a => F a ∨ OwnSet σ ρ a) S H S' H') (b : Cb K (fun a => F a ∨ OwnSet σ ρ a) S' H' W') : Cf K F S' H' σ ρ W' where
  cb := ⟨b.sd, fun a h => b.fs a (.inl h), fun p o hw => by
    obtain ⟨h1, h2, h3⟩ := b.w p o hw
    exact ⟨h1, fun h => h2 (.inl h), h3⟩⟩
  len := c.len
  sh := fun i d h => by
    obtain ⟨v, h1, h2⟩ := c.sh i d h
    exact ⟨v, h1, h2.up e⟩
  ol := fun i ds h => by
    obtain ⟨p, xs, h1, h2, h3, h4, h5, h6⟩ := c.ol i ds h
    have ho : OwnSet σ ρ p := ⟨i, ds, h, h1⟩
    refine ⟨p, xs, h1, (e.frn p (.inr ho)).trans h2, h3.up e, b.fs p (.inr ho), h5, ?_⟩
    cases q : W' p with
    | none => rfl
    | some o => exact absurd (.inr ho) (b.w p o q).2.1
  dis := c.dis
end

/-! ### readings over data -/
abbrev KD := D → Env → Wd → Prop
abbrev KB := Bool → Env → Wd → Prop
abbrev KL := List D → Env → Wd → Prop
/-- a wish about exceptions: the class, its fields -/
abbrev KX := Value → Option (List (Str × D)) → Env → Wd → Prop
abbrev TD := Env → Wd → KD → KX → Prop
abbrev TB := Env → Wd → KB → KX → Prop
abbrev TL := Env → Wd → KL → KX → Prop
def XRep (K : PySem.W.Frag) (S : Reg) (H : Hp) : Option (List (Str × D)) → Option Addr → Prop
  | none, d => d = none
  | some fs, d => ∃ a vs, d = some a ∧ H a = some (.xd vs) ∧ ¬ S a ∧ vs.map (·.1) = fs.map (·.1) ∧ Reps K S H (fs.map (·.2)) (vs.map (·.2))
/-- how a wish of exceptions over data lies in one over the heap -/
def LkX (K : PySem.W.Frag) (F S : Reg) (H : Hp) (Wx : WX) (Qx : KX) : Prop :=
  ∀ S' H' σ' ρ' W' cls x od, Stp F S H S' H' → Cf K F S' H' σ' ρ' W' → XRep K S' H' x od → Qx cls x ρ' W' → Wx cls od σ' H'
theorem LkX.up {K : PySem.W.Frag} {F S S1 : Reg} {H H1 : Hp} {Wx : WX} {Qx : KX} (h : LkX K F S H Wx Qx) (e : Stp F S H S1 H1) : LkX K F S1 H1 Wx Qx :=
  fun S' H' σ' ρ' W' cls x od e' c xr q => h S' H' σ' ρ' W' cls x od (e.trans e') c xr q
def EndE (K : PySem.W.Frag) (F S : Reg) (H : Hp) (σ : St) (Q : KD) (R : VK) : Prop :=
  ∀ S' H' ρ' W' d v, Stp F S H S' H' → Cf K F S' H' σ ρ' W' → Rep K S' H' d v → Q d ρ' W' → R v H'
def EndB (K : PySem.W.Frag) (F S : Reg) (H : Hp) (σ : St) (Q : KB) (R : Bool → Hp → Prop) : Prop :=
  ∀ S' H' ρ' W' b, Stp F S H S' H' → Cf K F S' H' σ ρ' W' → Q b ρ' W' → R b H'
def EndL (K : PySem.W.Frag) (F S : Reg) (H : Hp) (σ : St) (Q : KL) (R : List V → Hp → Prop) : Prop :=
  ∀ S' H' ρ' W' ds vs, Stp F S H S' H' → Cf K F S' H' σ ρ' W' → Reps K S' H' ds vs → Q ds ρ' W' → R vs H'
def Snd (K : PySem.W.Frag) (Wx : WX) (te : TE) (f : TD) : Prop :=
  ∀ F S H σ ρ W Q Qx R, Cf K F S H σ ρ W → f ρ W Q Qx → LkX K F S H Wx Qx → EndE K F S H σ Q R → te σ H R
def SndB (K : PySem.W.Frag) (Wx : WX) (te : TT) (f : TB) : Prop :=
  ∀ F S H σ ρ W Q Qx R, Cf K F S H σ ρ W → f ρ W Q Qx → LkX K F S H Wx Qx → EndB K F S H σ Q R → te σ H R
def SndL (K : PySem.W.Frag) (Wx : WX) (te : TA) (f : TL) : Prop :=
  ∀ F S H σ ρ W Q Qx R, Cf K F S H σ ρ W → f ρ W Q Qx → LkX K F S H Wx Qx → EndL K F S H σ Q R → te σ H R
def GE (X : Cx) (Wx : WX) (e : Expr) (f : TD) : Prop := ∃ te, PE X e te ∧ Snd X.K Wx te f
def GT (X : Cx) (Wx : WX) (e : Expr) (f : TB) : Prop := ∃ te, PT X e te ∧ SndB X.K Wx te f
def GW (X : Cx) (Wx : WX) (e : Expr) (f : TB) : Prop := ∃ te, PW X e te ∧ SndB X.K Wx te f
def GA (X : Cx) (Wx : WX) (es : List Expr) (f : TL) : Prop := ∃ te, PA X es te ∧ SndL X.K Wx te f
section
variable {X : Cx} {Wx : WX} {a b c e : Expr} {es : List Expr} {f g h : TD} {fb gb : TB} {fl : TL} {pos : Pos}

def dVar (i : Nat) : TD := fun ρ W Q _ => match ρ[i]? with
  | some (some (.sh d)) => Q d ρ W
  | _ => False
theorem gv (i : Nat) {x : Str} {pos : Pos} (hN : X.N[i]? = some x := by rfl) (hv : Vis X.env.scope x := by first | exact Or.inl rfl | exact Or.inr (Or.inl rfl) | exact Or.inr (Or.inr rfl)) (hd : (x == ("__debug__" : Str)) = false := by decide)
    (hcd : (x == ("__classdict__" : Str)) = false := by decide) : GE X Wx (.Name x pos) (dVar i) := by
  refine ⟨_, pe_var hN hv hd hcd, fun F S H σ ρ W Q Qx R cf hf _ hE => ?_⟩
  unfold dVar at hf
  split at hf
  · rename_i d e
    obtain ⟨v, e1, h1⟩ := cf.sh i d e
    exact ⟨v, e1, hE S H ρ W d v .refl cf h1 hf⟩
  · exact hf.elim
def dC (x : V) : TD := fun ρ W Q _ => Q (.v x) ρ W
theorem snd_c {K : PySem.W.Frag} {x : V} : Snd K Wx (tC x) (dC x) := fun F S H σ ρ W Q Qx R cf hf _ hE => hE S H ρ W (.v x) x .refl cf (Rep.v_iff.mpr rfl) hf
theorem ge_int {i j pos} : GE X Wx (.Constant (.int i) j pos) (dC (.int i)) := ⟨_, pe_int, snd_c⟩
theorem ge_bl {i j pos} : GE X Wx (.Constant (.bool i) j pos) (dC (.bl i)) := ⟨_, pe_bl, snd_c⟩
theorem ge_non {j pos} : GE X Wx (.Constant .none j pos) (dC .non) := ⟨_, pe_non, snd_c⟩
theorem ge_str {x j pos} : GE X Wx (.Constant (.str x) j pos) (dC (.str x)) := ⟨_, pe_str, snd_c⟩
theorem ge_glob {x : Str} {v : V} {u : Value} {pos : Pos} (hg : Gl X x) (hm : X.mg x = some u) (r : RelV v u) (hd : (x == ("__debug__" : Str)) = false := by decide) : GE X Wx (.Name x pos) (dC v) := ⟨_, pe_glob hg hm r hd, snd_c⟩

/-- a two-place rule over data: pure, the heap grows alone -/
def RSnd (K : PySem.W.Frag) (r : R2) (g : D → D → (D → Prop) → Prop) : Prop :=
  ∀ F S H W d e x y (P : D → Prop) (R : VK), Cb K F S H W → Rep K S H d x → Rep K S H e y → g d e P → (∀ d' v H', Same H H' → Rep K S H' d' v → P d' → R v H') → r x y H R
def dOp (g : D → D → (D → Prop) → Prop) (fa fb : TD) : TD := fun ρ W Q Qx => fa ρ W (fun d ρ1 W1 => fb ρ1 W1 (fun e ρ2 W2 => g d e fun z => Q z ρ2 W2) Qx) Qx
theorem snd_op {K : PySem.W.Frag} {r : R2} {k : D → D → (D → Prop) → Prop} {ta tb : TE} (hr : RSnd K r k) (ha : Snd K Wx ta f) (hb : Snd K Wx tb g) : Snd K Wx (tOp r ta tb) (dOp k f g) := by
  intro F S H σ ρ W Q Qx R cf hf hx hE
  refine ha F S H σ ρ W _ Qx _ cf hf hx fun S1 H1 ρ1 W1 d v e1 c1 r1 q1 => ?_
  refine hb F S1 H1 σ ρ1 W1 _ Qx _ c1 q1 (hx.up e1) fun S2 H2 ρ2 W2 d2 v2 e2 c2 r2 q2 => ?_
  refine hr F S2 H2 W2 d d2 v v2 _ _ c2.cb (r1.up e2) r2 q2 fun d3 v3 H3 s3 r3 q3 => ?_
  exact hE S2 H3 ρ2 W2 d3 v3 ((e1.trans e2).trans (stp_same c2.cb s3)) (c2.same s3) r3 q3
theorem ge_op {op : Operator} {r : R2} {k : D → D → (D → Prop) → Prop} (ho : OpR X (binaryOp op) r) (hr : RSnd X.K r k) (ha : GE X Wx a f) (hb : GE X Wx b g) : GE X Wx (.BinOp a op b pos) (dOp k f g) := by
  obtain ⟨ta, pa, sa⟩ := ha
  obtain ⟨tb, pb, sb⟩ := hb
  exact ⟨_, pe_op ho pa pb, snd_op hr sa sb⟩
theorem ge_cmp {op : CmpOp} {r : R2} {k : D → D → (D → Prop) → Prop} (ho : OpR X (compareOp op) r) (hr : RSnd X.K r k) (ha : GE X Wx a f) (hb : GE X Wx b g) (hm : behindInMarks op b = false) : GE X Wx (.Compare a [op] [b] pos) (dOp k f g) := by
  obtain ⟨ta, pa, sa⟩ := ha
  obtain ⟨tb, pb, sb⟩ := hb
  exact ⟨_, pe_cmpR ho pa pb hm, snd_op hr sa sb⟩
/-- an expression whose value is a Boolean, as a test -/
def dBool (f : TD) : TB := fun ρ W Q Qx => f ρ W (fun d ρ' W' => match d with | .v (.bl b) => Q b ρ' W' | _ => False) Qx
theorem snd_tB {K : PySem.W.Frag} {te : TE} (ha : Snd K Wx te f) : SndB K Wx (tB te) (dBool f) := by
  intro F S H σ ρ W Q Qx R cf hf hx hE
  refine ha F S H σ ρ W _ Qx _ cf hf hx fun S1 H1 ρ1 W1 d v e1 c1 r1 q1 => ?_
  split at q1
  · rename_i b
    rw [Rep.v_iff] at r1
    exact ⟨b, r1, hE S1 H1 ρ1 W1 b e1 c1 q1⟩
  · exact q1.elim
theorem gt_val (ha : GE X Wx e f) (he : ∀ whole, isTrue e X.env whole = (do let v ← whole; standAt e.pos; holding [v] (truthy v)) := by intro _; rfl) : GT X Wx e (dBool f) := by
  obtain ⟨ta, pa, sa⟩ := ha
  exact ⟨_, pt_val pa he, snd_tB sa⟩
theorem gt_cmp {op : CmpOp} {r : R2} {k : D → D → (D → Prop) → Prop} (ho : OpR X (compareOp op) r) (hr : RSnd X.K r k) (ha : GE X Wx a f) (hb : GE X Wx b g) (hm : behindInMarks op b = false) : GT X Wx (.Compare a [op] [b] pos) (dBool (dOp k f g)) := by
  obtain ⟨ta, pa, sa⟩ := ha
  obtain ⟨tb, pb, sb⟩ := hb
  exact ⟨_, pt_cmpR ho pa pb hm, snd_tB (snd_op hr sa sb)⟩
/-- a < b < c -/
def dChain (k k' : D → D → (D → Prop) → Prop) (fa fb fc : TD) : TD := fun ρ W Q Qx => fa ρ W (fun d ρ1 W1 => fb ρ1 W1 (fun e ρ2 W2 => k d e fun z =>
  match z with | .v (.bl true) => fc ρ2 W2 (fun c ρ3 W3 => k' e c fun z' => Q z' ρ3 W3) Qx | .v (.bl false) => Q (.bl false) ρ2 W2 | _ => False) Qx) Qx
theorem snd_chain {K : PySem.W.Frag} {r r' : R2} {k k' : D → D → (D → Prop) → Prop} {ta tb tc : TE} (hr : RSnd K r k) (hr' : RSnd K r' k') (ha : Snd K Wx ta f) (hb : Snd K Wx tb g) (hc : Snd K Wx tc h) : Snd K Wx (tChain r r' ta tb tc) (dChain k k' f g h) := by
  intro F S H σ ρ W Q Qx R cf hf hx hE
  refine ha F S H σ ρ W _ Qx _ cf hf hx fun S1 H1 ρ1 W1 d v e1 c1 r1 q1 => ?_
  refine hb F S1 H1 σ ρ1 W1 _ Qx _ c1 q1 (hx.up e1) fun S2 H2 ρ2 W2 d2 v2 e2 c2 r2 q2 => ?_
  refine hr F S2 H2 W2 d d2 v v2 _ _ c2.cb (r1.up e2) r2 q2 fun d3 v3 H3 s3 r3 q3 => ?_
  have e3 := (e1.trans e2).trans (stp_same c2.cb s3)
  split at q3
  · rw [Rep.v_iff] at r3
    refine ⟨true, r3, ?_⟩
    show tc σ H3 _
    refine hc F S2 H3 σ ρ2 W2 _ Qx _ (c2.same s3) q3 (hx.up e3) fun S4 H4 ρ4 W4 d4 v4 e4 c4 r4 q4 => ?_
    refine hr' F S4 H4 W4 d2 d4 v2 v4 _ _ c4.cb ((r2.up (stp_same c2.cb s3)).up e4) r4 q4 fun d5 v5 H5 s5 r5 q5 => ?_
    exact hE S4 H5 ρ4 W4 d5 v5 ((e3.trans e4).trans (stp_same c4.cb s5)) (c4.same s5) r5 q5
  · rw [Rep.v_iff] at r3
    refine ⟨false, r3, ?_⟩
    show R (.bl false) H3
    exact hE S2 H3 ρ2 W2 (.bl false) _ e3 (c2.same s3) (Rep.v_iff.mpr rfl) q3
  · exact q3.elim
theorem ge_chain {op op' : CmpOp} {r r' : R2} {k k' : D → D → (D → Prop) → Prop} (ho : OpR X (compareOp op) r) (ho' : OpR X (compareOp op') r') (hr : RSnd X.K r k) (hr' : RSnd X.K r' k') (ha : GE X Wx a f) (hb : GE X Wx b g) (hc : GE X Wx c h)
    (hm : lastMarks [op, op'] [b, c] = false := by with_unfolding_all rfl) : GE X Wx (.Compare a [op, op'] [b, c] pos) (dChain k k' f g h) := by
  obtain ⟨ta, pa, sa⟩ := ha
  obtain ⟨tb, pb, sb⟩ := hb
  obtain ⟨tc, pc, sc⟩ := hc
  exact ⟨_, pe_chain ho ho' pa pb pc hm, snd_chain hr hr' sa sb sc⟩
/-! ### and, or, not, if -/
def dNotB (f : TB) : TB := fun ρ W Q Qx => f ρ W (fun b ρ' W' => Q (!b) ρ' W') Qx
theorem gt_not (ha : GT X Wx a fb) : GT X Wx (.UnaryOp .Not a pos) (dNotB fb) := by
  obtain ⟨ta, pa, sa⟩ := ha
  refine ⟨_, pt_not pa, fun F S H σ ρ W Q Qx R cf hf hx hE => ?_⟩
  exact sa F S H σ ρ W _ Qx _ cf hf hx fun S1 H1 ρ1 W1 b e1 c1 q1 => hE S1 H1 ρ1 W1 _ e1 c1 q1
def dAndB (f g : TB) : TB := fun ρ W Q Qx => f ρ W (fun b ρ' W' => if b = true then g ρ' W' Q Qx else Q false ρ' W') Qx
def dOrB (f g : TB) : TB := fun ρ W Q Qx => f ρ W (fun b ρ' W' => if b = true then Q true ρ' W' else g ρ' W' Q Qx) Qx
theorem gw_and1 (ha : GT X Wx a fb) : GW X Wx (.BoolOp .And [a] pos) fb := by
  obtain ⟨ta, pa, sa⟩ := ha
  exact ⟨_, pw_and1 pa, sa⟩
theorem gw_or1 (ha : GT X Wx a fb) : GW X Wx (.BoolOp .Or [a] pos) fb := by
  obtain ⟨ta, pa, sa⟩ := ha
  exact ⟨_, pw_or1 pa, sa⟩
theorem snd_and {K : PySem.W.Frag} {t u : TT} (ha : SndB K Wx t fb) (hb : SndB K Wx u gb) : SndB K Wx (tAnd t u) (dAndB fb gb) := by
  intro F S H σ ρ W Q Qx R cf hf hx hE
  refine ha F S H σ ρ W _ Qx _ cf hf hx fun S1 H1 ρ1 W1 b e1 c1 q1 => ?_
  cases b with
  | true => exact hb F S1 H1 σ ρ1 W1 Q Qx R c1 q1 (hx.up e1) fun S2 H2 ρ2 W2 b e2 c2 q2 => hE S2 H2 ρ2 W2 b (e1.trans e2) c2 q2
  | false => exact hE S1 H1 ρ1 W1 false e1 c1 q1
theorem snd_or {K : PySem.W.Frag} {t u : TT} (ha : SndB K Wx t fb) (hb : SndB K Wx u gb) : SndB K Wx (tOr t u) (dOrB fb gb) := by
  intro F S H σ ρ W Q Qx R cf hf hx hE
  refine ha F S H σ ρ W _ Qx _ cf hf hx fun S1 H1 ρ1 W1 b e1 c1 q1 => ?_
  cases b with
  | false => exact hb F S1 H1 σ ρ1 W1 Q Qx R c1 q1 (hx.up e1) fun S2 H2 ρ2 W2 b e2 c2 q2 => hE S2 H2 ρ2 W2 b (e1.trans e2) c2 q2
  | true => exact hE S1 H1 ρ1 W1 true e1 c1 q1
theorem gw_and {rest : List Expr} (ha : GT X Wx a fb) (hb : GW X Wx (.BoolOp .And (b :: rest) pos) gb) : GW X Wx (.BoolOp .And (a :: b :: rest) pos) (dAndB fb gb) := by
  obtain ⟨ta, pa, sa⟩ := ha
  obtain ⟨tb, pb, sb⟩ := hb
  exact ⟨_, pw_and pa pb, snd_and sa sb⟩
theorem gw_or {rest : List Expr} (ha : GT X Wx a fb) (hb : GW X Wx (.BoolOp .Or (b :: rest) pos) gb) : GW X Wx (.BoolOp .Or (a :: b :: rest) pos) (dOrB fb gb) := by
  obtain ⟨ta, pa, sa⟩ := ha
  obtain ⟨tb, pb, sb⟩ := hb
  exact ⟨_, pw_or pa pb, snd_or sa sb⟩
theorem GW.gt (h : GW X Wx a fb) : GT X Wx a fb := by
  obtain ⟨ta, pa, sa⟩ := h
  exact ⟨_, pa.pt, sa⟩
/-- .. as values -/
def dAnd (f g : TD) : TD := fun ρ W Q Qx => f ρ W (fun d ρ' W' => match d with | .v (.bl true) => g ρ' W' Q Qx | .v (.bl false) => Q (.bl false) ρ' W' | _ => False) Qx
def dOr (f g : TD) : TD := fun ρ W Q Qx => f ρ W (fun d ρ' W' => match d with | .v (.bl true) => Q (.bl true) ρ' W' | .v (.bl false) => g ρ' W' Q Qx | _ => False) Qx
def dNot (f : TD) : TD := fun ρ W Q Qx => f ρ W (fun d ρ' W' => match d with | .v (.bl b) => Q (.bl (!b)) ρ' W' | _ => False) Qx
theorem ge_one {op} (ha : GE X Wx a f) : GE X Wx (.BoolOp op [a] pos) f := by
  obtain ⟨ta, pa, sa⟩ := ha
  exact ⟨_, pe_one pa, sa⟩
theorem ge_and {rest : List Expr} (ha : GE X Wx a f) (hb : GE X Wx (.BoolOp .And (b :: rest) pos) g) : GE X Wx (.BoolOp .And (a :: b :: rest) pos) (dAnd f g) := by
  obtain ⟨ta, pa, sa⟩ := ha
  obtain ⟨tb, pb, sb⟩ := hb
  refine ⟨_, pe_and pa pb, fun F S H σ ρ W Q Qx R cf hf hx hE => ?_⟩
  refine sa F S H σ ρ W _ Qx _ cf hf hx fun S1 H1 ρ1 W1 d v e1 c1 r1 q1 => ?_
  split at q1
  · exact ⟨true, Rep.v_iff.mp r1, sb F S1 H1 σ ρ1 W1 Q Qx R c1 q1 (hx.up e1) fun S2 H2 ρ2 W2 d2 v2 e2 c2 r2 q2 => hE S2 H2 ρ2 W2 d2 v2 (e1.trans e2) c2 r2 q2⟩
  · exact ⟨false, Rep.v_iff.mp r1, hE S1 H1 ρ1 W1 _ _ e1 c1 (Rep.v_iff.mpr rfl) q1⟩
  · exact q1.elim
theorem ge_or {rest : List Expr} (ha : GE X Wx a f) (hb : GE X Wx (.BoolOp .Or (b :: rest) pos) g) : GE X Wx (.BoolOp .Or (a :: b :: rest) pos) (dOr f g) := by
  obtain ⟨ta, pa, sa⟩ := ha
  obtain ⟨tb, pb, sb⟩ := hb
  refine ⟨_, pe_or pa pb, fun F S H σ ρ W Q Qx R cf hf hx hE => ?_⟩
  refine sa F S H σ ρ W _ Qx _ cf hf hx fun S1 H1 ρ1 W1 d v e1 c1 r1 q1 => ?_
  split at q1
  · exact ⟨true, Rep.v_iff.mp r1, hE S1 H1 ρ1 W1 _ _ e1 c1 (Rep.v_iff.mpr rfl) q1⟩
  · exact ⟨false, Rep.v_iff.mp r1, sb F S1 H1 σ ρ1 W1 Q Qx R c1 q1 (hx.up e1) fun S2 H2 ρ2 W2 d2 v2 e2 c2 r2 q2 => hE S2 H2 ρ2 W2 d2 v2 (e1.trans e2) c2 r2 q2⟩
  · exact q1.elim
theorem ge_not (ha : GE X Wx a f) : GE X Wx (.UnaryOp .Not a pos) (dNot f) := by
  obtain ⟨ta, pa, sa⟩ := ha
  refine ⟨_, pe_not pa, fun F S H σ ρ W Q Qx R cf hf hx hE => ?_⟩
  refine sa F S H σ ρ W _ Qx _ cf hf hx fun S1 H1 ρ1 W1 d v e1 c1 r1 q1 => ?_
  split at q1
  · rename_i b
    exact ⟨b, Rep.v_iff.mp r1, hE S1 H1 ρ1 W1 _ _ e1 c1 (Rep.v_iff.mpr rfl) q1⟩
  · exact q1.elim
def dIf (t : TB) (f g : TD) : TD := fun ρ W Q Qx => t ρ W (fun b ρ' W' => if b = true then f ρ' W' Q Qx else g ρ' W' Q Qx) Qx
theorem ge_if (hc : GT X Wx c fb) (ha : GE X Wx a f) (hb : GE X Wx b g) : GE X Wx (.IfExp c a b pos) (dIf fb f g) := by
  obtain ⟨tc, pc, sc⟩ := hc
  obtain ⟨ta, pa, sa⟩ := ha
  obtain ⟨tb, pb, sb⟩ := hb
  refine ⟨_, pe_ifExp pc pa pb, fun F S H σ ρ W Q Qx R cf hf hx hE => ?_⟩
  refine sc F S H σ ρ W _ Qx _ cf hf hx fun S1 H1 ρ1 W1 k e1 c1 q1 => ?_
  cases k with
  | true => exact sa F S1 H1 σ ρ1 W1 Q Qx R c1 q1 (hx.up e1) fun S2 H2 ρ2 W2 d2 v2 e2 c2 r2 q2 => hE S2 H2 ρ2 W2 d2 v2 (e1.trans e2) c2 r2 q2
  | false => exact sb F S1 H1 σ ρ1 W1 Q Qx R c1 q1 (hx.up e1) fun S2 H2 ρ2 W2 d2 v2 e2 c2 r2 q2 => hE S2 H2 ρ2 W2 d2 v2 (e1.trans e2) c2 r2 q2
/-! ### arguments, displays -/
def dNil : TL := fun ρ W Q _ => Q [] ρ W
def dCons (f : TD) (g : TL) : TL := fun ρ W Q Qx => f ρ W (fun d ρ1 W1 => g ρ1 W1 (fun ds ρ2 W2 => Q (d :: ds) ρ2 W2) Qx) Qx
theorem ga_nil : GA X Wx [] dNil := ⟨_, pa_nil, fun F S H σ ρ W Q Qx R cf hf hx hE => hE S H ρ W [] [] .refl cf Reps.nil hf⟩
theorem snd_cons {K : PySem.W.Frag} {te : TE} {ta : TA} (he : Snd K Wx te f) (ha : SndL K Wx ta fl) : SndL K Wx (tCons te ta) (dCons f fl) := by
  intro F S H σ ρ W Q Qx R cf hf hx hE
  refine he F S H σ ρ W _ Qx _ cf hf hx fun S1 H1 ρ1 W1 d v e1 c1 r1 q1 => ?_
  refine ha F S1 H1 σ ρ1 W1 _ Qx _ c1 q1 (hx.up e1) fun S2 H2 ρ2 W2 ds vs e2 c2 r2 q2 => ?_
  exact hE S2 H2 ρ2 W2 _ _ (e1.trans e2) c2 (Reps.cons (r1.up e2) r2) q2
theorem ga_cons (he : GE X Wx e f) (ha : GA X Wx es fl) (hs : starEach (e :: es) X.env = (false, eval e X.env) :: starEach es X.env := by rfl) : GA X Wx (e :: es) (dCons f fl) := by
  obtain ⟨te, pe, se⟩ := he
  obtain ⟨ta, pa, sa⟩ := ha
  exact ⟨_, pa_cons pe pa hs, snd_cons se sa⟩
theorem same_new {H : Hp} {p : Addr} {o : HO} (h : H p = none) : Same H (upd H p o) := fun b u e => by
  rw [upd_ne (ne_of_none e h)]; exact e
def dTup (fl : TL) : TD := fun ρ W Q Qx => fl ρ W (fun ds ρ' W' => ds.length ≤ sizeLine ∧ Q (.tup ds) ρ' W') Qx
def dLst (fl : TL) : TD := fun ρ W Q Qx => fl ρ W (fun ds ρ' W' => ds.length ≤ sizeLine ∧ Q (.lst ds) ρ' W') Qx
theorem not_s {K : PySem.W.Frag} {F S : Reg} {H : Hp} {W : Wd} {p : Addr} (c : Cb K F S H W) (h : H p = none) : ¬ S p := fun hs => c.sd p hs h
theorem rep_newT {K : PySem.W.Frag} {F S : Reg} {H : Hp} {W : Wd} {p : Addr} {ds : List D} {vs : List V} (c : Cb K F S H W) (h : H p = none) (r : Reps K S H ds vs) : Rep K S (upd H p (.tup vs)) (.tup ds) (.ref p) :=
  Rep.tup_iff.mpr ⟨p, vs, rfl, .inl ⟨upd_same, not_s c h⟩, r.up (stp_same c (same_new h))⟩
theorem rep_newL {K : PySem.W.Frag} {F S : Reg} {H : Hp} {W : Wd} {p : Addr} {ds : List D} {vs : List V} (c : Cb K F S H W) (h : H p = none) (r : Reps K S H ds vs) : Rep K S (upd H p (.lst vs)) (.lst ds) (.ref p) :=
  Rep.lst_iff.mpr ⟨p, vs, rfl, ⟨upd_same, not_s c h⟩, r.up (stp_same c (same_new h))⟩
theorem ge_tup {x1} (ha : GA X Wx es fl) : GE X Wx (.Tuple es x1 pos) (dTup fl) := by
  obtain ⟨ta, pa, sa⟩ := ha
  refine ⟨_, pe_tup pa, fun F S H σ ρ W Q Qx R cf hf hx hE => ?_⟩
  refine sa F S H σ ρ W _ Qx _ cf hf hx fun S1 H1 ρ1 W1 ds vs e1 c1 r1 q1 => ?_
  refine ⟨by rw [r1.length]; exact q1.1, fun p hp => ?_⟩
  exact hE S1 _ ρ1 W1 _ _ (e1.trans (stp_same c1.cb (same_new hp))) (c1.same (same_new hp)) (rep_newT c1.cb hp r1) q1.2
theorem ge_lst (ha : GA X Wx es fl) : GE X Wx (.List es pos) (dLst fl) := by
  obtain ⟨ta, pa, sa⟩ := ha
  refine ⟨_, pe_lst pa, fun F S H σ ρ W Q Qx R cf hf hx hE => ?_⟩
  refine sa F S H σ ρ W _ Qx _ cf hf hx fun S1 H1 ρ1 W1 ds vs e1 c1 r1 q1 => ?_
  refine ⟨by rw [r1.length]; exact q1.1, fun p hp => ?_⟩
  exact hE S1 _ ρ1 W1 _ _ (e1.trans (stp_same c1.cb (same_new hp))) (c1.same (same_new hp)) (rep_newL c1.cb hp r1) q1.2
/-! ### calls of built-ins by values -/
def CSnd (K : PySem.W.Frag) (r : List V → Hp → VK → Prop) (g : List D → (D → Prop) → Prop) : Prop :=
  ∀ F S H W ds xs (P : D → Prop) (R : VK), Cb K F S H W → Reps K S H ds xs → g ds P → (∀ d' v H', Same H H' → Rep K S H' d' v → P d' → R v H') → r xs H R
def dCB (g : List D → (D → Prop) → Prop) (fl : TL) : TD := fun ρ W Q Qx => fl ρ W (fun ds ρ' W' => g ds fun z => Q z ρ' W') Qx
theorem snd_cb {K : PySem.W.Frag} {r : List V → Hp → VK → Prop} {k : List D → (D → Prop) → Prop} {ta : TA} (hr : CSnd K r k) (ha : SndL K Wx ta fl) : Snd K Wx (tCB r ta) (dCB k fl) := by
  intro F S H σ ρ W Q Qx R cf hf hx hE
  refine ha F S H σ ρ W _ Qx _ cf hf hx fun S1 H1 ρ1 W1 ds vs e1 c1 r1 q1 => ?_
  refine hr F S1 H1 W1 ds vs _ _ c1.cb r1 q1 fun d3 v3 H3 s3 r3 q3 => ?_
  exact hE S1 H3 ρ1 W1 d3 v3 (e1.trans (stp_same c1.cb s3)) (c1.same s3) r3 q3
theorem ge_callB {x : Str} {id : String} {p : Pos} {r : List V → Hp → VK → Prop} {k : List D → (D → Prop) → Prop} (hc : CallR X (.builtin id) r) (hr : CSnd X.K r k) (hg : Gl X x) (hm : X.mg x = none) (hv : bootBuiltins x = some (.builtin id)) (ha : GA X Wx (e :: es) fl) (hn : x ≠ "__name__" := by decide) (hdb : (x == ("__debug__" : Str)) = false := by decide)
    (he : starEach (e :: es) X.env = (false, eval e X.env) :: starEach es X.env := by rfl) (hpl : (backTo pos (starEach es X.env)).any (·.1) = false := by rfl) : GE X Wx (.Call (.Name x p) (e :: es) [] pos) (dCB k fl) := by
  obtain ⟨ta, pa, sa⟩ := ha
  exact ⟨_, pe_callB hc hg hm hv pa hn hdb he hpl, snd_cb hr sa⟩
theorem ge_callTy {x : Str} {id : String} {p : Pos} {r : List V → Hp → VK → Prop} {k : List D → (D → Prop) → Prop} (hc : CallR X (.type id) r) (hr : CSnd X.K r k) (hg : Gl X x) (hm : X.mg x = none) (hv : bootBuiltins x = some (.type id)) (ha : GA X Wx (e :: es) fl) (hn : x ≠ "__name__" := by decide) (hdb : (x == ("__debug__" : Str)) = false := by decide)
    (he : starEach (e :: es) X.env = (false, eval e X.env) :: starEach es X.env := by rfl) (hpl : (backTo pos (starEach es X.env)).any (·.1) = false := by rfl) : GE X Wx (.Call (.Name x p) (e :: es) [] pos) (dCB k fl) := by
  obtain ⟨ta, pa, sa⟩ := ha
  exact ⟨_, pe_callTy hc hg hm hv pa hn hdb he hpl, snd_cb hr sa⟩
end
end G

namespace G
open PySem PySem.Spec L2

/-! ### statements -/
abbrev KS := Env → Wd → Prop
structure EndsD where
  nx : KS
  rt : D → Wd → Prop
  bk : KS := fun _ _ => False
  ct : KS := fun _ _ => False
  ex : KX := fun _ _ _ _ => False
abbrev TSD := EndsD → Env → Wd → Prop
structure Lnk (K : PySem.W.Frag) (Wx : WX) (F S : Reg) (H : Hp) (De : EndsD) (Dh : Ends) : Prop where
  nx : ∀ S' H' σ' ρ' W', Stp F S H S' H' → Cf K F S' H' σ' ρ' W' → De.nx ρ' W' → Dh.nx σ' H'
  rt : ∀ S' H' σ' ρ' W' d v, Stp F S H S' H' → Cf K F S' H' σ' ρ' W' → Rep K S' H' d v → De.rt d W' → Dh.rt v H'
  bk : ∀ S' H' σ' ρ' W', Stp F S H S' H' → Cf K F S' H' σ' ρ' W' → De.bk ρ' W' → Dh.bk σ' H'
  ct : ∀ S' H' σ' ρ' W', Stp F S H S' H' → Cf K F S' H' σ' ρ' W' → De.ct ρ' W' → Dh.ct σ' H'
  ex : LkX K F S H Wx De.ex
theorem Lnk.up {K : PySem.W.Frag} {Wx : WX} {F S S1 : Reg} {H H1 : Hp} {De : EndsD} {Dh : Ends} (l : Lnk K Wx F S H De Dh) (e : Stp F S H S1 H1) : Lnk K Wx F S1 H1 De Dh where
  nx := fun S' H' σ' ρ' W' e' c q => l.nx S' H' σ' ρ' W' (e.trans e') c q
  rt := fun S' H' σ' ρ' W' d v e' c r q => l.rt S' H' σ' ρ' W' d v (e.trans e') c r q
  bk := fun S' H' σ' ρ' W' e' c q => l.bk S' H' σ' ρ' W' (e.trans e') c q
  ct := fun S' H' σ' ρ' W' e' c q => l.ct S' H' σ' ρ' W' (e.trans e') c q
  ex := l.ex.up e
def SndS (K : PySem.W.Frag) (Wx : WX) (t : TS) (f : TSD) : Prop :=
  ∀ F S H σ ρ W De Dh, Cf K F S H σ ρ W → f De ρ W → Lnk K Wx F S H De Dh → t Dh σ H
def GS (X : Cx) (Wx : WX) (st : Stmt) (f : TSD) : Prop := ∃ t, PS X st t ∧ SndS X.K Wx t f
def GSs (X : Cx) (Wx : WX) (st : List Stmt) (f : TSD) : Prop := ∃ t, PSs X st t ∧ SndS X.K Wx t f
section
variable {X : Cx} {Wx : WX} {st : Stmt} {rest : List Stmt} {f g : TSD} {e : Expr} {fe : TD} {pos : Pos}
def dNext : TSD := fun De ρ W => De.nx ρ W
def dSeq (f g : TSD) : TSD := fun De ρ W => f { De with nx := g De } ρ W
theorem gss_nil : GSs X Wx [] dNext := ⟨_, pss_nil, fun F S H σ ρ W De Dh cf hf l => l.nx S H σ ρ W .refl cf hf⟩
theorem snd_seq {K : PySem.W.Frag} {t u : TS} (ha : SndS K Wx t f) (hb : SndS K Wx u g) : SndS K Wx (tSeq t u) (dSeq f g) := fun F S H σ ρ W De Dh cf hf l =>
  ha F S H σ ρ W { De with nx := g De } { Dh with nx := u Dh } cf hf ⟨fun S' H' σ' ρ' W' e' c q => hb F S' H' σ' ρ' W' De Dh c q (l.up e'), l.rt, l.bk, l.ct, l.ex⟩
theorem gss_cons (h1 : GS X Wx st f) (h2 : GSs X Wx rest g) : GSs X Wx (st :: rest) (dSeq f g) := by
  obtain ⟨ta, pa, sa⟩ := h1
  obtain ⟨tb, pb, sb⟩ := h2
  exact ⟨_, pss_cons pa pb, snd_seq sa sb⟩
theorem gss_one (h1 : GS X Wx st f) : GSs X Wx [st] f := by
  obtain ⟨ta, pa, sa⟩ := h1
  exact ⟨_, pss_one pa, sa⟩
def dNever : TSD := fun _ _ _ => False
theorem gs_never : GS X Wx st dNever := ⟨_, ps_never, fun F S H σ ρ W De Dh cf hf l => hf.elim⟩
theorem gss_never : GSs X Wx rest dNever := ⟨_, pss_never, fun F S H σ ρ W De Dh cf hf l => hf.elim⟩
theorem gs_pass : GS X Wx (.Pass pos) dNext := ⟨_, ps_pass, fun F S H σ ρ W De Dh cf hf l => l.nx S H σ ρ W .refl cf hf⟩
def dBreak : TSD := fun De ρ W => De.bk ρ W
def dCont : TSD := fun De ρ W => De.ct ρ W
theorem gs_break : GS X Wx (.Break pos) dBreak := ⟨_, ps_break, fun F S H σ ρ W De Dh cf hf l => l.bk S H σ ρ W .refl cf hf⟩
theorem gs_cont : GS X Wx (.Continue pos) dCont := ⟨_, ps_continue, fun F S H σ ρ W De Dh cf hf l => l.ct S H σ ρ W .refl cf hf⟩
theorem gs_doc {x j pos pos'} : GS X Wx (.Expr (.Constant (.str x) j pos) pos') dNext := ⟨_, ps_doc, fun F S H σ ρ W De Dh cf hf l => l.nx S H σ ρ W .refl cf hf⟩
def dDrop (fe : TD) : TSD := fun De ρ W => fe ρ W (fun _ ρ' W' => De.nx ρ' W') De.ex
theorem gs_expr (he : GE X Wx e fe) (hs : swapsWith e none pos.line X.env = pure false := by rfl) : GS X Wx (.Expr e pos) (dDrop fe) := by
  obtain ⟨te, pe, se⟩ := he
  exact ⟨_, ps_expr pe hs, fun F S H σ ρ W De Dh cf hf l => se F S H σ ρ W _ De.ex _ cf hf l.ex fun S' H' ρ' W' d v e' c r q => l.nx S' H' σ ρ' W' e' c q⟩
def dRet (fe : TD) : TSD := fun De ρ W => fe ρ W (fun d _ W' => De.rt d W') De.ex
theorem gs_ret (he : GE X Wx e fe) : GS X Wx (.Return (some e) pos) (dRet fe) := by
  obtain ⟨te, pe, se⟩ := he
  exact ⟨_, ps_ret pe, fun F S H σ ρ W De Dh cf hf l => se F S H σ ρ W _ De.ex _ cf hf l.ex fun S' H' ρ' W' d v e' c r q => l.rt S' H' σ ρ' W' d v e' c r q⟩
def dRetN : TSD := fun De ρ W => De.rt .non W
theorem gs_retN : GS X Wx (.Return none pos) dRetN := ⟨_, ps_retN, fun F S H σ ρ W De Dh cf hf l => l.rt S H σ ρ W _ _ .refl cf (Rep.v_iff.mpr rfl) hf⟩
def dIfS (t : TB) (f g : TSD) : TSD := fun De ρ W => t ρ W (fun b ρ' W' => if b = true then f De ρ' W' else g De ρ' W') De.ex
theorem gs_if {c : Expr} {a b : List Stmt} {fc : TB} (hc : GT X Wx c fc) (ha : GSs X Wx a f) (hb : GSs X Wx b g) : GS X Wx (.If c a b pos) (dIfS fc f g) := by
  obtain ⟨tc, pc, sc⟩ := hc
  obtain ⟨ta, pa, sa⟩ := ha
  obtain ⟨tb, pb, sb⟩ := hb
  refine ⟨_, ps_if pc pa pb, fun F S H σ ρ W De Dh cf hf l => ?_⟩
  refine sc F S H σ ρ W _ De.ex _ cf hf l.ex fun S' H' ρ' W' b e' c q => ?_
  cases b with
  | true => exact sa F S' H' σ ρ' W' De Dh c q (l.up e')
  | false => exact sb F S' H' σ ρ' W' De Dh c q (l.up e')

/-! ### targets -/
abbrev TGD := D → Env → Wd → KS → Prop
abbrev TGLD := List D → Env → Wd → KS → Prop
/-- other slots than these are as they were -/
def Off {α : Type} (ts : List Nat) (l l' : List α) : Prop := l'.length = l.length ∧ ∀ j, j ∉ ts → l'[j]? = l[j]?
theorem Off.refl {α : Type} {ts : List Nat} {l : List α} : Off ts l l := ⟨rfl, fun _ _ => rfl⟩
theorem Off.set {α : Type} {l : List α} {i : Nat} {x : α} : Off [i] l (l.set i x) := ⟨by simp, fun j hj => by rw [List.getElem?_set_ne (by simpa [eq_comm] using hj)]⟩
theorem Off.trans {α : Type} {ts us : List Nat} {l l' l'' : List α} (a : Off ts l l') (b : Off us l' l'') : Off (ts ++ us) l l'' := ⟨b.1.trans a.1, fun j hj => by
  rw [List.mem_append, not_or] at hj
  exact (b.2 j hj.2).trans (a.2 j hj.1)⟩
def SndG (K : PySem.W.Frag) (t : TG) (g : TGD) (ts : List Nat) : Prop :=
  ∀ F S H σ ρ W d v (P : KS) (R : St → Hp → Prop), Cf K F S H σ ρ W → Rep K S H d v → g d ρ W P → (∀ S' H' σ' ρ' W', Stp F S H S' H' → Cf K F S' H' σ' ρ' W' → Off ts σ σ' → Off ts ρ ρ' → P ρ' W' → R σ' H') → t v σ H R
def SndGL (K : PySem.W.Frag) (t : TGs) (g : TGLD) (ts : List Nat) : Prop :=
  ∀ F S H σ ρ W ds vs (P : KS) (R : St → Hp → Prop), Cf K F S H σ ρ W → Reps K S H ds vs → g ds ρ W P → (∀ S' H' σ' ρ' W', Stp F S H S' H' → Cf K F S' H' σ' ρ' W' → Off ts σ σ' → Off ts ρ ρ' → P ρ' W' → R σ' H') → t vs σ H R
def GG (X : Cx) (target : Expr) (g : TGD) (us : List Nat) : Prop := ∃ t, PG X target t ∧ SndG X.K t g us
def GGs (X : Cx) (ts : List Expr) (g : TGLD) (us : List Nat) : Prop := ∃ t, PGs X ts t ∧ SndGL X.K t g us
end
/-- shared data into a slot -/
theorem Cf.setSh {K : PySem.W.Frag} {F S : Reg} {H : Hp} {σ : St} {ρ : Env} {W : Wd} (c : Cf K F S H σ ρ W) (i : Nat) {d : D} {v : V} (r : Rep K S H d v) : Cf K F S H (σ.set i (some v)) (ρ.set i (some (.sh d))) W where
  cb := c.cb
  len := by simp [c.len]
  sh := fun j d' h => by
    by_cases hj : i = j
    · subst hj
      have hl : i < ρ.length := by
        have := (List.getElem?_eq_some_iff.mp h).1
        simpa using this
      rw [List.getElem?_set_self hl] at h
      cases h
      exact ⟨v, by rw [List.getElem?_set_self (by rw [c.len]; exact hl)], r⟩
    · rw [List.getElem?_set_ne hj] at h
      obtain ⟨w, h1, h2⟩ := c.sh j d' h
      exact ⟨w, by rw [List.getElem?_set_ne hj]; exact h1, h2⟩
  ol := fun j ds h => by
    by_cases hj : i = j
    · subst hj
      have hl : i < ρ.length := by
        have := (List.getElem?_eq_some_iff.mp h).1
        simpa using this
      rw [List.getElem?_set_self hl] at h
      cases h
    · rw [List.getElem?_set_ne hj] at h
      obtain ⟨p, xs, h1, h2⟩ := c.ol j ds h
      exact ⟨p, xs, by rw [List.getElem?_set_ne hj]; exact h1, h2⟩
  dis := fun j k p h1 h2 => by
    have go : ∀ j, Own (σ.set i (some v)) (ρ.set i (some (.sh d))) j p → Own σ ρ j p := fun j ⟨ds, q1, q2⟩ => by
      by_cases hj : i = j
      · subst hj
        have hl : i < ρ.length := by
          have := (List.getElem?_eq_some_iff.mp q1).1
          simpa using this
        rw [List.getElem?_set_self hl] at q1
        cases q1
      · rw [List.getElem?_set_ne hj] at q1 q2
        exact ⟨ds, q1, q2⟩
    exact c.dis j k p (go j h1) (go k h2)
section
variable {X : Cx} {Wx : WX} {st : Stmt} {rest : List Stmt} {f g : TSD} {e : Expr} {fe : TD} {pos : Pos}
def gdName (i : Nat) : TGD := fun d ρ W P => P (ρ.set i (some (.sh d))) W
theorem snd_gName {K : PySem.W.Frag} {i : Nat} : SndG K (gName i) (gdName i) [i] := fun F S H σ ρ W d v P R cf r hp k => k S H _ _ W .refl (cf.setSh i r) .set .set hp
theorem gg_name {i : Nat} {x : Str} (hN : X.N.Nodup) (hi : X.N[i]? = some x) (hx : Loc X.env.scope x) (hf : X.fn x = true ∨ X.env.scope.names.lookup x = some .local := by first | exact .inl rfl | exact .inr rfl | assumption) : GG X (.Name x pos) (gdName i) [i] :=
  ⟨_, pg_name hN hi hx hf, snd_gName⟩
def gdNil : TGLD := fun ds ρ W P => match ds with | [] => P ρ W | _ => False
def gdCons (g : TGD) (h : TGLD) : TGLD := fun ds ρ W P => match ds with | d :: r => g d ρ W (fun ρ' W' => h r ρ' W' P) | _ => False
theorem ggs_nil : GGs X [] gdNil [] := ⟨_, pgs_nil, fun F S H σ ρ W ds vs P R cf r hp k => by
  unfold gdNil at hp
  split at hp
  · exact ⟨Reps.nil_iff.mp r, k S H _ _ W .refl cf .refl .refl hp⟩
  · exact hp.elim⟩
theorem ggs_cons {es : List Expr} {g : TGD} {h : TGLD} {ts us : List Nat} (h1 : GG X e g ts) (h2 : GGs X es h us) (hs : (assignEach (e :: es) X.env).map (·.2) = assign e X.env :: (assignEach es X.env).map (·.2) := by rfl) : GGs X (e :: es) (gdCons g h) (ts ++ us) := by
  obtain ⟨ta, pa, sa⟩ := h1
  obtain ⟨tb, pb, sb⟩ := h2
  refine ⟨_, pgs_cons pa pb hs, fun F S H σ ρ W ds vs P R cf r hp k => ?_⟩
  unfold gdCons at hp
  split at hp
  · rename_i d rd
    obtain ⟨x, rx, rfl, r1, r2⟩ := Reps.cons_iff.mp r
    refine ⟨x, rx, rfl, ?_⟩
    refine sa F S H σ ρ W d x _ _ cf r1 hp fun S' H' σ' ρ' W' e' c o1 o2 q => ?_
    exact sb F S' H' σ' ρ' W' rd rx P R c (r2.up e') q fun S2 H2 σ2 ρ2 W2 e2 c2 o3 o4 q2 => k S2 H2 σ2 ρ2 W2 (e'.trans e2) c2 (o1.trans o3) (o2.trans o4) q2
  · exact hp.elim
def gdTup (n : Nat) (g : TGLD) : TGD := fun d ρ W P => match d with | .tup ds => ds.length = n ∧ g ds ρ W P | _ => False
theorem gg_tup {es : List Expr} {k : Nat} {g : TGLD} {n : Nat} {ts : List Nat} (hc : X.calm = true) (h : GGs X es g ts) (hn : (assignEach es X.env).length = n := by rfl) (hst : (assignEach es X.env).findIdx? (·.1) = none := by rfl) : GG X (.Tuple es k pos) (gdTup n g) ts := by
  obtain ⟨ta, pa, sa⟩ := h
  refine ⟨_, pg_tup hc pa hn hst, fun F S H σ ρ W d v P R cf r hp k => ?_⟩
  unfold gdTup at hp
  split at hp
  · rename_i ds
    obtain ⟨a, xs, rfl, h1, h2⟩ := Rep.tup_iff.mp r
    exact ⟨a, xs, rfl, h1.sq, by rw [h2.length]; exact hp.1, sa F S H σ ρ W ds xs P R cf h2 hp.2 k⟩
  · exact hp.elim
/-- target = e -/
def dAsg (fe : TD) (g : TGD) : TSD := fun De ρ W => fe ρ W (fun d ρ' W' => g d ρ' W' De.nx) De.ex
theorem snd_asg {K : PySem.W.Frag} {te : TE} {t : TG} {g : TGD} {ts : List Nat} (se : Snd K Wx te fe) (sg : SndG K t g ts) : SndS K Wx (tAsg te t) (dAsg fe g) := fun F S H σ ρ W De Dh cf hf l =>
  se F S H σ ρ W _ De.ex _ cf hf l.ex fun S' H' ρ' W' d v e' c r q => sg F S' H' σ ρ' W' d v _ _ c r q fun S2 H2 σ2 ρ2 W2 e2 c2 _ _ q2 => l.nx S2 H2 σ2 ρ2 W2 (e'.trans e2) c2 q2
theorem gs_asg {tg : Expr} {g : TGD} {ts : List Nat} (he : GE X Wx e fe) (hg : GG X tg g ts) (hs : swapsWithSole [tg] e pos.line X.env = pure false := by rfl) (hw : swappedStores [tg] e X.env = pure none := by rfl) (h1 : (assignEach [tg] X.env).map (·.2) = [assign tg X.env] := by rfl) : GS X Wx (.Assign [tg] e pos) (dAsg fe g) := by
  obtain ⟨te, pe, se⟩ := he
  obtain ⟨tg', pg, sg⟩ := hg
  exact ⟨_, ps_asg pe pg hs hw h1, snd_asg se sg⟩
theorem gs_set {i : Nat} {x : Str} {pos' : Pos} (hN : X.N.Nodup) (hi : X.N[i]? = some x) (hx : Loc X.env.scope x) (he : GE X Wx e fe) (hs : swapsWith e (some (.Name x pos')) pos.line X.env = pure false := by rfl) (hf : X.fn x = true ∨ X.env.scope.names.lookup x = some .local := by first | exact .inl rfl | exact .inr rfl | assumption) :
    GS X Wx (.Assign [.Name x pos'] e pos) (dAsg fe (gdName i)) := by
  obtain ⟨te, pe, se⟩ := he
  exact ⟨_, ps_set hN hi hx pe hs hf, snd_asg se snd_gName⟩
/-- a, b = e1, e2 with two local names -/
def dPar (i j : Nat) (fl : TL) : TSD := fun De ρ W => fl ρ W (fun ds ρ' W' => match ds with | [d, d'] => De.nx ((ρ'.set i (some (.sh d))).set j (some (.sh d'))) W' | _ => False) De.ex
theorem gs_par {i j : Nat} {x y : Str} {a b : Expr} {fl : TL} {px py pt : Pos} {kt k2 pt2} (hc : X.calm = true) (hN : X.N.Nodup) (hi : X.N[i]? = some x) (hj : X.N[j]? = some y) (hij : i ≠ j)
    (hx : X.env.scope.names.lookup x = some .local) (hy : X.env.scope.names.lookup y = some .local) (ha : GA X Wx [a, b] fl)
    (hw : swappedStores [.Tuple [.Name x px, .Name y py] kt pt] (.Tuple [a, b] k2 pt2) X.env = pure (some [x, y]))
    (hs : swapsWithSole [.Tuple [.Name x px, .Name y py] kt pt] (.Tuple [a, b] k2 pt2) pos.line X.env = pure false := by rfl) :
    GS X Wx (.Assign [.Tuple [.Name x px, .Name y py] kt pt] (.Tuple [a, b] k2 pt2) pos) (dPar i j fl) := by
  obtain ⟨ta, pa, sa⟩ := ha
  refine ⟨_, ps_par hc hN hi hj hij hx hy pa hw hs, fun F S H σ ρ W De Dh cf hf l => ?_⟩
  refine sa F S H σ ρ W _ De.ex _ cf hf l.ex fun S' H' ρ' W' ds vs e' c r q => ?_
  split at q
  · rename_i d d'
    obtain ⟨v, rv, rfl, r1, r2⟩ := Reps.cons_iff.mp r
    obtain ⟨w, rw', rfl, r3, r4⟩ := Reps.cons_iff.mp r2
    rw [Reps.nil_iff.mp r4]
    exact ⟨v, w, rfl, l.nx S' H' _ _ W' e' ((c.setSh i r1).setSh j r3) q⟩
  · exact q.elim
/-- x op= e -/
def IpSnd (K : PySem.W.Frag) (r : TIp) (g : D → D → (D → Prop) → Prop) : Prop := RSnd K r g
def dAug (i : Nat) (k : D → D → (D → Prop) → Prop) (fe : TD) : TSD := fun De ρ W => match ρ[i]? with
  | some (some (.sh d)) => fe ρ W (fun e ρ' W' => k d e fun z => De.nx (ρ'.set i (some (.sh z))) W') De.ex
  | _ => False
theorem gs_aug {i : Nat} {x : Str} {op : Operator} {r : TIp} {k : D → D → (D → Prop) → Prop} {pos' : Pos} (hN : X.N.Nodup) (hi : X.N[i]? = some x) (hx : Loc X.env.scope x) (he : GE X Wx e fe) (ho : PIp X op r) (hr : RSnd X.K r k) (hf : X.fn x = true ∨ X.env.scope.names.lookup x = some .local := by first | exact .inl rfl | exact .inr rfl | assumption) :
    GS X Wx (.AugAssign (.Name x pos') op e pos) (dAug i k fe) := by
  obtain ⟨te, pe, se⟩ := he
  refine ⟨_, ps_aug hN hi hx pe ho hf, fun F S H σ ρ W De Dh cf hf l => ?_⟩
  unfold dAug at hf
  split at hf
  · rename_i d e1
    obtain ⟨v, h1, h2⟩ := cf.sh i d e1
    refine ⟨v, h1, ?_⟩
    refine se F S H σ ρ W _ De.ex _ cf hf l.ex fun S' H' ρ' W' d2 v2 e' c r2 q => ?_
    refine hr F S' H' W' d d2 v v2 _ _ c.cb (h2.up e') r2 q fun d3 v3 H3 s3 r3 q3 => ?_
    exact l.nx S' H3 _ _ W' (e'.trans (stp_same c.cb s3)) ((c.same s3).setSh i r3) q3
  · exact hf.elim
end

/-! ### a list of the frame's own -/
theorem own_set {σ : St} {ρ : Env} {i j : Nat} {v : Option V} {d : Option Sl} {p : Addr} (h : Own (σ.set i v) (ρ.set i d) j p) : i = j ∨ Own σ ρ j p := by
  by_cases hj : i = j
  · exact .inl hj
  · obtain ⟨ds, q1, q2⟩ := h
    rw [List.getElem?_set_ne hj] at q1 q2
    exact .inr ⟨ds, q1, q2⟩
/-- a fresh list into a slot -/
theorem Cf.newOl {K : PySem.W.Frag} {F S : Reg} {H : Hp} {σ : St} {ρ : Env} {W : Wd} (c : Cf K F S H σ ρ W) (i : Nat) {p : Addr} {xs : List V} {ds : List D} (hp : H p = none) (r : Reps K S H ds xs) :
    Stp F S H (fun a => S a ∨ a = p) (upd H p (.lst xs)) ∧ Cf K F (fun a => S a ∨ a = p) (upd H p (.lst xs)) (σ.set i (some (.ref p))) (ρ.set i (some (.ol ds))) W := by
  have st : Stp F S H (fun a => S a ∨ a = p) (upd H p (.lst xs)) :=
    ⟨fun a o _ h => same_new hp a o h, fun a h1 h2 => by
      rcases h1 with h1 | h1
      · exact absurd h1 h2
      · rw [h1]; exact hp, fun a h => by
      by_cases ha : a = p
      · rw [ha]; exact hp
      · rw [upd_ne ha] at h; exact h, fun a hf => by
      have : a ≠ p := fun q => by
        rw [q] at hf
        exact c.cb.sd p (c.cb.fs p hf) hp
      rw [upd_ne this]⟩
  have np : ∀ a, S a → a ≠ p := fun a hs q => c.cb.sd a hs (by rw [q]; exact hp)
  refine ⟨st, ⟨fun a h => ?_, fun a h => .inl (c.cb.fs a h), fun q o hw => ?_⟩, by simp [c.len], fun j d' h => ?_, fun j ds' h => ?_, fun j k q h1 h2 => ?_⟩
  · rcases h with h | h
    · rw [upd_ne (np a h)]; exact c.cb.sd a h
    · rw [h, upd_same]; simp
  · obtain ⟨h1, h2, h3⟩ := c.cb.w q o hw
    exact ⟨.inl h1, h2, h3.up st (upd_ne (np q h1))⟩
  · by_cases hj : i = j
    · subst hj
      have hl : i < ρ.length := by
        have := (List.getElem?_eq_some_iff.mp h).1
        simpa using this
      rw [List.getElem?_set_self hl] at h
      cases h
    · rw [List.getElem?_set_ne hj] at h
      obtain ⟨w, h1, h2⟩ := c.sh j d' h
      exact ⟨w, by rw [List.getElem?_set_ne hj]; exact h1, h2.up st⟩
  · by_cases hj : i = j
    · subst hj
      have hl : i < ρ.length := by
        have := (List.getElem?_eq_some_iff.mp h).1
        simpa using this
      rw [List.getElem?_set_self hl] at h
      cases h
      refine ⟨p, xs, by rw [List.getElem?_set_self (by rw [c.len]; exact hl)], upd_same, r.up st, .inr rfl, fun hf => c.cb.sd p (c.cb.fs p hf) hp, ?_⟩
      cases q : W p with
      | none => rfl
      | some o => exact absurd hp (c.cb.sd p (c.cb.w p o q).1)
    · rw [List.getElem?_set_ne hj] at h
      obtain ⟨q, ys, h1, h2, h3, h4, h5⟩ := c.ol j ds' h
      exact ⟨q, ys, by rw [List.getElem?_set_ne hj]; exact h1, by rw [upd_ne (np q h4)]; exact h2, h3.up st, .inl h4, h5⟩
  · have own_s : ∀ j, Own σ ρ j q → S q := fun j ⟨ds, q1, q2⟩ => by
      obtain ⟨p', ys, e1, _, _, hs, _⟩ := c.ol j ds q1
      rw [q2] at e1; cases e1; exact hs
    have at_i : ∀ {j}, i = j → Own (σ.set i (some (.ref p))) (ρ.set i (some (.ol ds))) j q → q = p := fun {j} e ⟨ds', q1, q2⟩ => by
      subst e
      have hl : i < σ.length := by
        have := (List.getElem?_eq_some_iff.mp q2).1
        simpa using this
      rw [List.getElem?_set_self hl] at q2
      cases q2; rfl
    rcases own_set h1 with e1 | o1
    · rcases own_set h2 with e2 | o2
      · exact e1.symm.trans e2
      · exact absurd (at_i e1 h1) (np q (own_s k o2))
    · rcases own_set h2 with e2 | o2
      · exact absurd (at_i e2 h2) (np q (own_s j o1))
      · exact c.dis j k q o1 o2
/-- the own list's content changes -/
theorem Cf.chOl {K : PySem.W.Frag} {F S : Reg} {H : Hp} {σ : St} {ρ : Env} {W : Wd} (c : Cf K F S H σ ρ W) {i : Nat} {p : Addr} {ds : List D} {xs : List V} {ds0 : List D} (h0 : ρ[i]? = some (some (.ol ds0))) (hp : σ[i]? = some (some (.ref p))) (r : Reps K S H ds xs) :
    Stp F S H S (upd H p (.lst xs)) ∧ Cf K F S (upd H p (.lst xs)) σ (ρ.set i (some (.ol ds))) W := by
  obtain ⟨p', xs0, e1, hH, r0, hs, hf, hw⟩ := c.ol i ds0 h0
  rw [hp] at e1; cases e1
  have st : Stp F S H S (upd H p (.lst xs)) :=
    ⟨fun a o h e => by
      have : a ≠ p := fun q => h (q ▸ hs)
      rw [upd_ne this]; exact e, fun a h1 h2 => absurd h1 h2, fun a h => by
      by_cases ha : a = p
      · rw [ha, upd_same] at h; cases h
      · rw [upd_ne ha] at h; exact h, fun a h => by
      have : a ≠ p := fun q => hf (q ▸ h)
      rw [upd_ne this]⟩
  have hl : i < ρ.length := (List.getElem?_eq_some_iff.mp h0).1
  refine ⟨st, ⟨fun a h => ?_, c.cb.fs, fun q o hq => ?_⟩, by simp [c.len], fun j d' h => ?_, fun j ds' h => ?_, fun j k q h1 h2 => ?_⟩
  · intro q; exact c.cb.sd a h (st.dom a q)
  · obtain ⟨h1, h2, h3⟩ := c.cb.w q o hq
    have : q ≠ p := fun z => by rw [z, hw] at hq; cases hq
    exact ⟨h1, h2, h3.up st (upd_ne this)⟩
  · by_cases hj : i = j
    · subst hj
      rw [List.getElem?_set_self hl] at h
      cases h
    · rw [List.getElem?_set_ne hj] at h
      obtain ⟨w, h1, h2⟩ := c.sh j d' h
      exact ⟨w, h1, h2.up st⟩
  · by_cases hj : i = j
    · subst hj
      rw [List.getElem?_set_self hl] at h
      cases h
      exact ⟨p, xs, hp, upd_same, r.up st, hs, hf, hw⟩
    · rw [List.getElem?_set_ne hj] at h
      obtain ⟨q, ys, h1, h2, h3, h4, h5⟩ := c.ol j ds' h
      have : q ≠ p := fun z => hj (c.dis i j p ⟨ds0, h0, hp⟩ ⟨ds', h, z ▸ h1⟩)
      exact ⟨q, ys, h1, by rw [upd_ne this]; exact h2, h3.up st, h4, h5⟩
  · have go : ∀ j, Own σ (ρ.set i (some (.ol ds))) j q → Own σ ρ j q := fun j ⟨ds', q1, q2⟩ => by
      by_cases hj : i = j
      · subst hj
        exact ⟨ds0, h0, q2⟩
      · rw [List.getElem?_set_ne hj] at q1
        exact ⟨ds', q1, q2⟩
    exact c.dis j k q (go j h1) (go k h2)
/-- nobody changes it any more -/
theorem Cf.freeze {K : PySem.W.Frag} {F S : Reg} {H : Hp} {σ : St} {ρ : Env} {W : Wd} (c : Cf K F S H σ ρ W) {i : Nat} {ds : List D} (h0 : ρ[i]? = some (some (.ol ds))) :
    ∃ S', Stp F S H S' H ∧ Cf K F S' H σ (ρ.set i (some (.sh (.lst ds)))) W := by
  obtain ⟨p, xs, hp, hH, r0, hs, hf, hw⟩ := c.ol i ds h0
  have st : Stp F S H (fun a => S a ∧ a ≠ p) H := ⟨fun a o _ e => e, fun a h1 h2 => absurd h1.1 h2, fun a h => h, fun a _ => rfl⟩
  have hl : i < ρ.length := (List.getElem?_eq_some_iff.mp h0).1
  refine ⟨_, st, ⟨fun a h => c.cb.sd a h.1, fun a h => ⟨c.cb.fs a h, fun z => hf (z ▸ h)⟩, fun q o hq => ?_⟩, by simp [c.len], fun j d' h => ?_, fun j ds' h => ?_, fun j k q h1 h2 => ?_⟩
  · obtain ⟨h1, h2, h3⟩ := c.cb.w q o hq
    exact ⟨⟨h1, fun z => by rw [z, hw] at hq; cases hq⟩, h2, h3.up st rfl⟩
  · by_cases hj : i = j
    · subst hj
      rw [List.getElem?_set_self hl] at h
      cases h
      exact ⟨_, hp, Rep.lst_iff.mpr ⟨p, xs, rfl, ⟨hH, fun z => z.2 rfl⟩, r0.up st⟩⟩
    · rw [List.getElem?_set_ne hj] at h
      obtain ⟨w, h1, h2⟩ := c.sh j d' h
      exact ⟨w, h1, h2.up st⟩
  · by_cases hj : i = j
    · subst hj
      rw [List.getElem?_set_self hl] at h
      cases h
    · rw [List.getElem?_set_ne hj] at h
      obtain ⟨q, ys, h1, h2, h3, h4, h5⟩ := c.ol j ds' h
      exact ⟨q, ys, h1, h2, h3.up st, ⟨h4, fun z => hj (c.dis i j p ⟨ds, h0, hp⟩ ⟨ds', h, z ▸ h1⟩)⟩, h5⟩
  · have go : ∀ j, Own σ (ρ.set i (some (.sh (.lst ds)))) j q → Own σ ρ j q := fun j ⟨ds', q1, q2⟩ => by
      by_cases hj : i = j
      · subst hj
        rw [List.getElem?_set_self hl] at q1
        cases q1
      · rw [List.getElem?_set_ne hj] at q1
        exact ⟨ds', q1, q2⟩
    exact c.dis j k q (go j h1) (go k h2)

/-- an expression that makes a new list, last of all -/
def EndN (K : PySem.W.Frag) (F S : Reg) (H : Hp) (σ : St) (Q : KL) (R : VK) : Prop :=
  ∀ S' H' ρ' W' ds xs p, Stp F S H S' H' → Cf K F S' H' σ ρ' W' → Reps K S' H' ds xs → H' p = none → Q ds ρ' W' → R (.ref p) (upd H' p (.lst xs))
def SndN (K : PySem.W.Frag) (Wx : WX) (te : TE) (f : TL) : Prop :=
  ∀ F S H σ ρ W Q Qx R, Cf K F S H σ ρ W → f ρ W Q Qx → LkX K F S H Wx Qx → EndN K F S H σ Q R → te σ H R
def GN (X : Cx) (Wx : WX) (e : Expr) (f : TL) : Prop := ∃ te, PE X e te ∧ SndN X.K Wx te f
section
variable {X : Cx} {Wx : WX} {st : Stmt} {rest : List Stmt} {f g : TSD} {e : Expr} {es : List Expr} {fe : TD} {fl : TL} {pos : Pos}
def dFresh (fl : TL) : TD := fun ρ W Q Qx => fl ρ W (fun ds ρ' W' => Q (.lst ds) ρ' W') Qx
theorem snd_fresh {K : PySem.W.Frag} {te : TE} (se : SndN K Wx te fl) : Snd K Wx te (dFresh fl) := by
  intro F S H σ ρ W Q Qx R cf hf hx hE
  refine se F S H σ ρ W _ Qx _ cf hf hx fun S1 H1 ρ1 W1 ds xs p e1 c1 r1 hp q1 => ?_
  exact hE S1 _ ρ1 W1 _ _ (e1.trans (stp_same c1.cb (same_new hp))) (c1.same (same_new hp)) (rep_newL c1.cb hp r1) q1
theorem GN.ge (h : GN X Wx e fl) : GE X Wx e (dFresh fl) := by
  obtain ⟨te, pe, se⟩ := h
  exact ⟨_, pe, snd_fresh se⟩
def dLstN (fl : TL) : TL := fun ρ W Q Qx => fl ρ W (fun ds ρ' W' => ds.length ≤ sizeLine ∧ Q ds ρ' W') Qx
theorem gn_lst (ha : GA X Wx es fl) : GN X Wx (.List es pos) (dLstN fl) := by
  obtain ⟨ta, pa, sa⟩ := ha
  refine ⟨_, pe_lst pa, fun F S H σ ρ W Q Qx R cf hf hx hE => ?_⟩
  refine sa F S H σ ρ W _ Qx _ cf hf hx fun S1 H1 ρ1 W1 ds vs e1 c1 r1 q1 => ?_
  exact ⟨by rw [r1.length]; exact q1.1, fun p hp => hE S1 H1 ρ1 W1 ds vs p e1 c1 r1 hp q1.2⟩
/-- x = [..], the list the frame's own -/
def dAsgO (i : Nat) (fl : TL) : TSD := fun De ρ W => fl ρ W (fun ds ρ' W' => De.nx (ρ'.set i (some (.ol ds))) W') De.ex
theorem snd_asgO {K : PySem.W.Frag} {te : TE} {i : Nat} (se : SndN K Wx te fl) : SndS K Wx (tAsg te (gName i)) (dAsgO i fl) := fun F S H σ ρ W De Dh cf hf l => by
  refine se F S H σ ρ W _ De.ex _ cf hf l.ex fun S' H' ρ' W' ds xs p e' c r hp q => ?_
  obtain ⟨st, c2⟩ := c.newOl i hp r
  exact l.nx _ _ _ _ W' (e'.trans st) c2 q
theorem gs_setO {i : Nat} {x : Str} {pos' : Pos} (hN : X.N.Nodup) (hi : X.N[i]? = some x) (hx : Loc X.env.scope x) (he : GN X Wx e fl) (hs : swapsWith e (some (.Name x pos')) pos.line X.env = pure false := by rfl) (hf : X.fn x = true ∨ X.env.scope.names.lookup x = some .local := by first | exact .inl rfl | exact .inr rfl | assumption) :
    GS X Wx (.Assign [.Name x pos'] e pos) (dAsgO i fl) := by
  obtain ⟨te, pe, se⟩ := he
  exact ⟨_, ps_set hN hi hx pe hs hf, snd_asgO se⟩
/-- x.append(e) -/
def dApp0 (i : Nat) (ρ : Env) : Prop := ∃ ds, ρ[i]? = some (some (.ol ds))
def dApp (i : Nat) (fe : TD) : TSD := fun De ρ W => dApp0 i ρ ∧ fe ρ W (fun d ρ' W' => match ρ'[i]? with
  | some (some (.ol ds)) => ds.length < sizeLine ∧ De.nx (ρ'.set i (some (.ol (ds ++ [d])))) W'
  | _ => False) De.ex
theorem gs_app {i : Nat} {x : Str} {px apos cpos : Pos} (he : GE X Wx e fe) (hN : X.N[i]? = some x := by rfl) (hv : Vis X.env.scope x := by first | exact Or.inl rfl | exact Or.inr (Or.inl rfl) | exact Or.inr (Or.inr rfl)) (hd : (x == ("__debug__" : Str)) = false := by decide) (hcd : (x == ("__classdict__" : Str)) = false := by decide)
    (hbase : attributeBase (.Name x px) "append" X.env (eval (.Name x px) X.env) = eval (.Name x px) X.env := by rfl)
    (hfew : ((backTo cpos (starEach (e :: []) X.env)).all (fun x => !x.1) && (backToKw cpos (keywordEach [] X.env)).all (fun x => x.1.isSome) && decide ((e :: ([] : List Expr)).length + ([] : List Keyword).length + (if ([] : List Keyword).isEmpty then 0 else 1) < 30)) = true := by rfl)
    (hline : (apos.endLine == cpos.line) = true := by rfl) (hse : starEach (e :: []) X.env = (false, eval e X.env) :: starEach [] X.env := by rfl) (hplain : (backTo cpos (starEach [] X.env)).any (·.1) = false := by rfl)
    (hs : swapsWith (.Call (.Attribute (.Name x px) "append" apos) [e] [] cpos) none pos.line X.env = pure false := by rfl) :
    GS X Wx (.Expr (.Call (.Attribute (.Name x px) "append" apos) [e] [] cpos) pos) (dApp i fe) := by
  obtain ⟨te, pe, se⟩ := he
  refine ⟨_, ps_expr (pe_bm PySem.F.plainAttrs_list PySem.F.slot_list_append PySem.F.type_list_append mt_append (pe_var hN hv hd hcd) (pa_cons pe pa_nil hse) hbase hfew hline hse hplain) hs, fun F S H σ ρ W De Dh cf hf l => ?_⟩
  have pre : ∃ p xs, σ[i]? = some (some (.ref p)) ∧ H p = some (.lst xs) := by
    unfold dApp0 at hf
    obtain ⟨⟨ds, h0⟩, hf⟩ := hf
    obtain ⟨p, xs, h1, h2, _⟩ := cf.ol i ds h0
    exact ⟨p, xs, h1, h2⟩
  obtain ⟨p, xs, hp, hH⟩ := pre
  refine ⟨_, hp, .inl ⟨rfl, xs, SqL.of hH⟩, ?_⟩
  refine se F S H σ ρ W _ De.ex _ cf hf.2 l.ex fun S' H' ρ' W' d v e' c r q => ?_
  split at q
  · rename_i ds1 h1
    obtain ⟨p', xs1, e1, h2, h3, _⟩ := c.ol i ds1 h1
    rw [hp] at e1; cases e1
    refine ⟨p, xs1, v, rfl, rfl, h2, by rw [h3.length]; exact q.1, ?_⟩
    obtain ⟨st, c2⟩ := c.chOl h1 hp (h3.append (Reps.cons r Reps.nil))
    exact l.nx _ _ _ _ W' (e'.trans st) c2 q.2
  · exact q.elim
end

section
variable {X : Cx} {Wx : WX} {st : Stmt} {rest : List Stmt} {f g : TSD} {e o : Expr} {es : List Expr} {fe fo : TD} {fl : TL} {pos : Pos}
/-- nobody changes the list of slot i from here on -/
def dFrz (i : Nat) (f : TSD) : TSD := fun De ρ W => match ρ[i]? with
  | some (some (.ol ds)) => f De (ρ.set i (some (.sh (.lst ds)))) W
  | _ => f De ρ W
theorem gss_frz (i : Nat) (h : GSs X Wx rest f) : GSs X Wx rest (dFrz i f) := by
  obtain ⟨t, p, s⟩ := h
  refine ⟨t, p, fun F S H σ ρ W De Dh cf hf l => ?_⟩
  unfold dFrz at hf
  split at hf
  · rename_i ds h0
    obtain ⟨S', st, c2⟩ := cf.freeze h0
    exact s F S' H σ _ W De Dh c2 hf (l.up st)
  · exact s F S H σ ρ W De Dh cf hf l
/-- a method of a text -/
def MSnd (K : PySem.W.Frag) (r : V → List V → Hp → VK → Prop) (g : D → List D → (D → Prop) → Prop) : Prop :=
  ∀ F S H W d ds x xs (P : D → Prop) (R : VK), Cb K F S H W → Rep K S H d x → Reps K S H ds xs → g d ds P → (∀ d' v H', Same H H' → Rep K S H' d' v → P d' → R v H') → r x xs H R
def dM (k : D → List D → (D → Prop) → Prop) (fo : TD) (fl : TL) : TD := fun ρ W Q Qx => fo ρ W (fun d ρ1 W1 => (∃ s, d = .str s) ∧ fl ρ1 W1 (fun ds ρ2 W2 => k d ds fun z => Q z ρ2 W2) Qx) Qx
theorem ge_strM {name : Str} {id : String} {apos cpos : Pos} {r : V → List V → Hp → VK → Prop} {k : D → List D → (D → Prop) → Prop} (slot : Slot "str" name id) (hty : typeOf (.builtin id) = pure (.type "method_descriptor")) (hm : MtR X id r) (hr : MSnd X.K r k) (ho : GE X Wx o fo) (ha : GA X Wx (e :: es) fl)
    (hbase : attributeBase o name X.env (eval o X.env) = eval o X.env := by rfl)
    (hfew : ((backTo cpos (starEach (e :: es) X.env)).all (fun x => !x.1) && (backToKw cpos (keywordEach [] X.env)).all (fun x => x.1.isSome) && decide ((e :: es).length + ([] : List Keyword).length + (if ([] : List Keyword).isEmpty then 0 else 1) < 30)) = true := by rfl)
    (hline : (apos.endLine == cpos.line) = true := by rfl) (hs : starEach (e :: es) X.env = (false, eval e X.env) :: starEach es X.env := by rfl) (hplain : (backTo cpos (starEach es X.env)).any (·.1) = false := by rfl) :
    GE X Wx (.Call (.Attribute o name apos) (e :: es) [] cpos) (dM k fo fl) := by
  obtain ⟨ta, pa, sa⟩ := ha
  obtain ⟨to, po, so⟩ := ho
  refine ⟨_, pe_bm PySem.F.plainAttrs_str slot hty hm po pa hbase hfew hline hs hplain, fun F S H σ ρ W Q Qx R cf hf hx hE => ?_⟩
  refine so F S H σ ρ W _ Qx _ cf hf hx fun S1 H1 ρ1 W1 d v e1 c1 r1 q1 => ?_
  obtain ⟨⟨s, rfl⟩, q1⟩ := q1
  cases Rep.v_iff.mp r1
  refine ⟨rfl, ?_⟩
  refine sa F S1 H1 σ ρ1 W1 _ Qx _ c1 q1 (hx.up e1) fun S2 H2 ρ2 W2 ds vs e2 c2 r2 q2 => ?_
  refine hr F S2 H2 W2 _ ds _ vs _ _ c2.cb (r1.up e2) r2 q2 fun d3 v3 H3 s3 r3 q3 => ?_
  exact hE S2 H3 ρ2 W2 d3 v3 ((e1.trans e2).trans (stp_same c2.cb s3)) (c2.same s3) r3 q3
theorem ge_strM0 {name : Str} {id : String} {apos cpos : Pos} {r : V → List V → Hp → VK → Prop} {k : D → List D → (D → Prop) → Prop} (slot : Slot "str" name id) (hty : typeOf (.builtin id) = pure (.type "method_descriptor")) (hm : MtR X id r) (hr : MSnd X.K r k) (ho : GE X Wx o fo)
    (hbase : attributeBase o name X.env (eval o X.env) = eval o X.env := by rfl) (hline : (apos.endLine == cpos.line) = true := by rfl) : GE X Wx (.Call (.Attribute o name apos) [] [] cpos) (dM k fo dNil) := by
  obtain ⟨to, po, so⟩ := ho
  refine ⟨_, pe_bm0 PySem.F.plainAttrs_str slot hty hm po hbase hline, fun F S H σ ρ W Q Qx R cf hf hx hE => ?_⟩
  refine so F S H σ ρ W _ Qx _ cf hf hx fun S1 H1 ρ1 W1 d v e1 c1 r1 q1 => ?_
  obtain ⟨⟨s, rfl⟩, q1⟩ := q1
  cases Rep.v_iff.mp r1
  refine ⟨rfl, ?_⟩
  refine hr F S1 H1 W1 _ [] _ [] _ _ c1.cb r1 Reps.nil q1 fun d3 v3 H3 s3 r3 q3 => ?_
  exact hE S1 H3 ρ1 W1 d3 v3 (e1.trans (stp_same c1.cb s3)) (c1.same s3) r3 q3
/-- a subscript -/
theorem ge_ix {a b : Expr} {fa fb : TD} {r : R2} {k : D → D → (D → Prop) → Prop} (hr : IxR X r) (hk : RSnd X.K r k) (ha : GE X Wx a fa) (hb : GE X Wx b fb) (hs : PlainIx b) : GE X Wx (.Subscript a b pos) (dOp k fa fb) := by
  obtain ⟨ta, pa, sa⟩ := ha
  obtain ⟨tb, pb, sb⟩ := hb
  exact ⟨_, pe_ix hr pa pb hs, snd_op hk sa sb⟩
/-- a slice -/
abbrev TOD := Env → Wd → (Option Int → Env → Wd → Prop) → KX → Prop
def SndO (K : PySem.W.Frag) (Wx : WX) (te : TO) (f : TOD) : Prop :=
  ∀ F S H σ ρ W (Q : Option Int → Env → Wd → Prop) Qx (R : Option Int → Hp → Prop), Cf K F S H σ ρ W → f ρ W Q Qx → LkX K F S H Wx Qx → (∀ S' H' ρ' W' o, Stp F S H S' H' → Cf K F S' H' σ ρ' W' → Q o ρ' W' → R o H') → te σ H R
def GO (X : Cx) (Wx : WX) (e : Option Expr) (f : TOD) : Prop := ∃ te, PO X e te ∧ SndO X.K Wx te f
def dNoP : TOD := fun ρ W Q _ => Q none ρ W
def dPart (fe : TD) : TOD := fun ρ W Q Qx => fe ρ W (fun d ρ' W' => match d with | .v (.int i) => Q (some i) ρ' W' | _ => False) Qx
theorem go_none : GO X Wx none dNoP := ⟨_, po_none, fun F S H σ ρ W Q Qx R cf hf hx hE => hE S H ρ W none .refl cf hf⟩
theorem go_some (he : GE X Wx e fe) : GO X Wx (some e) (dPart fe) := by
  obtain ⟨te, pe, se⟩ := he
  refine ⟨_, po_some pe, fun F S H σ ρ W Q Qx R cf hf hx hE => ?_⟩
  refine se F S H σ ρ W _ Qx _ cf hf hx fun S1 H1 ρ1 W1 d v e1 c1 r1 q1 => ?_
  split at q1
  · rename_i i
    exact ⟨i, Rep.v_iff.mp r1, hE S1 H1 ρ1 W1 _ e1 c1 q1⟩
  · exact q1.elim
def SlSnd (K : PySem.W.Frag) (r : V → Option Int → Option Int → Hp → VK → Prop) (g : D → Option Int → Option Int → (D → Prop) → Prop) : Prop :=
  ∀ F S H W d x lo hi (P : D → Prop) (R : VK), Cb K F S H W → Rep K S H d x → g d lo hi P → (∀ d' v H', Same H H' → Rep K S H' d' v → P d' → R v H') → r x lo hi H R
def dSl (k : D → Option Int → Option Int → (D → Prop) → Prop) (fe : TD) (fl fh : TOD) : TD := fun ρ W Q Qx => fe ρ W (fun d ρ1 W1 => fl ρ1 W1 (fun lo ρ2 W2 => fh ρ2 W2 (fun hi ρ3 W3 => k d lo hi fun z => Q z ρ3 W3) Qx) Qx) Qx
theorem ge_sl {lo hi : Option Expr} {p2 : Pos} {flo fhi : TOD} {r : V → Option Int → Option Int → Hp → VK → Prop} {k : D → Option Int → Option Int → (D → Prop) → Prop} (hr : SlR X r) (hk : SlSnd X.K r k) (he : GE X Wx e fe) (hl : GO X Wx lo flo) (hu : GO X Wx hi fhi) :
    GE X Wx (.Subscript e (.Slice lo hi none p2) pos) (dSl k fe flo fhi) := by
  obtain ⟨te, pe, se⟩ := he
  obtain ⟨tl, pl, sl⟩ := hl
  obtain ⟨tu, pu, su⟩ := hu
  refine ⟨_, pe_slice hr pe pl pu, fun F S H σ ρ W Q Qx R cf hf hx hE => ?_⟩
  refine se F S H σ ρ W _ Qx _ cf hf hx fun S1 H1 ρ1 W1 d v e1 c1 r1 q1 => ?_
  refine sl F S1 H1 σ ρ1 W1 _ Qx _ c1 q1 (hx.up e1) fun S2 H2 ρ2 W2 o2 e2 c2 q2 => ?_
  refine su F S2 H2 σ ρ2 W2 _ Qx _ c2 q2 (hx.up (e1.trans e2)) fun S3 H3 ρ3 W3 o3 e3 c3 q3 => ?_
  refine hk F S3 H3 W3 d v o2 o3 _ _ c3.cb ((r1.up e2).up e3) q3 fun d4 v4 H4 s4 r4 q4 => ?_
  exact hE S3 H4 ρ3 W3 d4 v4 (((e1.trans e2).trans e3).trans (stp_same c3.cb s4)) (c3.same s4) r4 q4

/-! ### calls of defs -/
/-- a promise over data -/
abbrev KDW := D → Wd → Prop
abbrev KXW := Value → Option (List (Str × D)) → Wd → Prop
abbrev SpD := List D → Wd → KDW → KXW → Prop
def toSp (K : PySem.W.Frag) (n : Nat) (sp : SpD) : Sp := fun vs H Q E => ∃ F S W ds Qd Qx, Cb K F S H W ∧ Reps K S H ds vs ∧ ds.length = n ∧ sp ds W Qd Qx ∧
  (∀ S' H' W' d v, Stp F S H S' H' → Cb K F S' H' W' → Rep K S' H' d v → Qd d W' → Q v H') ∧
  (∀ S' H' W' cls x od, Stp F S H S' H' → Cb K F S' H' W' → XRep K S' H' x od → Qx cls x W' → E cls od H')
def dCall (sp : SpD) (n : Nat) (fl : TL) : TD := fun ρ W Q Qx => fl ρ W (fun ds ρ' W' => ds.length = n ∧ sp ds W' (fun d W2 => Q d ρ' W2) (fun cls x W2 => Qx cls x ρ' W2)) Qx
theorem snd_call {K : PySem.W.Frag} {n : Nat} {sp : SpD} {ta : TA} (ha : SndL K Wx ta fl) : Snd K Wx (tCallS (toSp K n sp) (WE Wx) ta) (dCall sp n fl) := by
  intro F S H σ ρ W Q Qx R cf hf hx hE
  refine ha F S H σ ρ W _ Qx _ cf hf hx fun S1 H1 ρ1 W1 ds vs e1 c1 r1 q1 => ?_
  refine ⟨_, S1, W1, ds, _, _, c1.below, r1, q1.1, q1.2, fun S' H' W' d v e' b r q => ?_, fun S' H' W' cls x od e' b xr q => ?_⟩
  · exact hE S' H' ρ1 W' d v (e1.trans (e'.mono fun _ h => .inl h)) (c1.back e' b) r q
  · exact hx S' H' σ ρ1 W' cls x od (e1.trans (e'.mono fun _ h => .inl h)) (c1.back e' b) xr q
theorem ge_call {f : Addr} {fd : FuncData} {ps : List Str} {k n : Nat} {sp : SpD} {x : Str} {p : Pos} (tk : Takes X Wx) (GF : FnOk X.prog X.w X.K X.mg X.base (L2.CX X.prog X.w) k f fd ps (toSp X.K n sp)) (hr : Room k X.A) (hg : Gl X x) (hm : X.mg x = some (.ref f)) (hk : PySem.W.keepIn X.K (.ref f) = true) (hb : Binds X.K fd ps [])
    (ha : GA X Wx (e :: es) fl) (hdb : (x == ("__debug__" : Str)) = false := by decide) (he : starEach (e :: es) X.env = (false, eval e X.env) :: starEach es X.env := by rfl) (hpl : (backTo pos (starEach es X.env)).any (·.1) = false := by rfl) :
    GE X Wx (.Call (.Name x p) (e :: es) [] pos) (dCall sp n fl) := by
  obtain ⟨ta, pa, sa⟩ := ha
  exact ⟨_, pe_callS GF hr hg hm hk hb (fun σ => passAt tk σ) pa hdb he hpl, snd_call sa⟩
end
/-- THE RULE for a def -/
theorem okD {P : Program} {w : World} {K : PySem.W.Frag} {mg : Str → Option Value} {base : Heap} {x qual : Str} {st : Stmt} {f : Addr} {fd : FuncData} {N ps : List Str} {k : Nat} {sp : SpD} (F : Fun K x qual st f fd) (Sc : FnScope N ps (defScope st))
    (hbody : ∀ (cdv : Value) (A : Around) (outer : List PySem.Env) (s : Shared) (H : Hp) (E : XK), Room k (A.deeper (PyProof.Rows.envOfC qual (defScope st) s.heap.objs.size f cdv)) →
      ∃ g, GSs (cxOf (L2.CX P w) P w K mg base N qual (defScope st) f cdv A outer s H E) (fun cls d _ H => E cls d H) (defBody st) g ∧
        ∀ ds W Qd Qx, ds.length = ps.length → sp ds W Qd Qx → g { nx := fun _ W' => Qd .non W', rt := Qd, ex := fun cls x _ W' => Qx cls x W' } (ds.map (fun d => some (Sl.sh d)) ++ List.replicate (N.length - ds.length) none) W) :
    FnOk P w K mg base (L2.CX P w) (k + 1) f fd ps (toSp K ps.length sp) := by
  refine F.okX Sc (fun vs H Q E h => ?_) (fun cdv A outer s H vs Q E hr h => ?_)
  · obtain ⟨_, _, _, ds, _, _, _, h1, h2, _⟩ := h
    rw [h1.length, h2]
  · obtain ⟨g, ⟨t, pt, sg⟩, hg⟩ := hbody cdv A outer s H E hr
    obtain ⟨Fr, S, W, ds, Qd, Qx, cb, rs, hl, hsp, hQ, hE⟩ := h
    refine ⟨t, pt, ?_⟩
    have hvl : vs.length = ps.length := by rw [rs.length, hl]
    refine sg Fr S H (L2.start N vs) _ W _ _ ?_ (hg ds W Qd Qx hl hsp) ?_
    · have shp : ∀ (i : Nat) (sl : Sl), (ds.map (fun d => some (Sl.sh d)) ++ List.replicate (N.length - ds.length) none)[i]? = some (some sl) → ∃ d, ds[i]? = some d ∧ sl = .sh d := fun i sl h => by
        rw [List.getElem?_append] at h
        split at h
        · rename_i hi
          rw [List.getElem?_map] at h
          cases e : ds[i]? with
          | none => rw [e] at h; cases h
          | some d => rw [e] at h; cases h; exact ⟨d, rfl, rfl⟩
        · rw [List.getElem?_replicate] at h
          split at h <;> cases h
      refine ⟨cb, ?_, fun i d h => ?_, fun i ds' h => ?_, fun i j p h1 h2 => ?_⟩
      · unfold L2.start
        simp [rs.length]
      · obtain ⟨d', e1, e2⟩ := shp i _ h
        cases e2
        obtain ⟨v, e3, r⟩ := rs.get e1
        refine ⟨v, ?_, r⟩
        unfold L2.start
        have hi : i < vs.length := (List.getElem?_eq_some_iff.mp e3).1
        rw [List.getElem?_append_left (by simpa using hi), List.getElem?_map, e3]
        rfl
      · obtain ⟨d', e1, e2⟩ := shp i _ h
        cases e2
      · obtain ⟨ds', h1, _⟩ := h1
        obtain ⟨d', e1, e2⟩ := shp i _ h1
        cases e2
    · exact ⟨fun S' H' σ' ρ' W' e c q => hQ S' H' W' _ _ e c.cb (Rep.v_iff.mpr rfl) q, fun S' H' σ' ρ' W' d v e c r q => hQ S' H' W' d v e c.cb r q,
        fun S' H' σ' ρ' W' e c q => q.elim, fun S' H' σ' ρ' W' e c q => q.elim, fun S' H' σ' ρ' W' cls x od e c xr q => hE S' H' W' cls x od e c.cb xr q⟩
/-- a weaker promise -/
theorem toSp_imp {K : PySem.W.Frag} {n : Nat} {sp sp' : SpD} (h : ∀ ds W Q Qx, sp' ds W Q Qx → sp ds W Q Qx) : ∀ vs H Q E, toSp K n sp' vs H Q E → toSp K n sp vs H Q E := fun vs H Q E ⟨F, S, W, ds, Qd, Qx, a, b, c, d, e, f⟩ => ⟨F, S, W, ds, Qd, Qx, a, b, c, h _ _ _ _ d, e, f⟩
end G

namespace G
open PySem PySem.Spec L2

/-! ### what is walked -/
/-- J yields the data ds, whatever happens outside of them meanwhile -/
def ItOk (K : PySem.W.Frag) (F S : Reg) (H : Hp) (J : It) (ds : List D) : Prop :=
  ∀ S' H', Stp F S H S' H' → (∀ (i : Nat) d, ds[i]? = some d → J.go i H' ∧ ∀ x H3, J.yld i H' x H3 → Same H' H3 ∧ ((∀ a, S' a → H' a ≠ none) → Rep K S' H3 d x)) ∧ J.stop ds.length H'
theorem ItOk.up {K : PySem.W.Frag} {F S S1 : Reg} {H H1 : Hp} {J : It} {ds : List D} (h : ItOk K F S H J ds) (e : Stp F S H S1 H1) : ItOk K F S1 H1 J ds := fun S' H' e' => h S' H' (e.trans e')
abbrev TID := Env → Wd → KL → KX → Prop
def SndI (K : PySem.W.Frag) (Wx : WX) (wi : TI) (f : TID) : Prop :=
  ∀ F S H σ ρ W Q Qx (R : It → Hp → Prop), Cf K F S H σ ρ W → f ρ W Q Qx → LkX K F S H Wx Qx → (∀ S' H' ρ' W' ds J, Stp F S H S' H' → Cf K F S' H' σ ρ' W' → ItOk K F S' H' J ds → Q ds ρ' W' → R J H') → wi σ H R
def GI (X : Cx) (Wx : WX) (tg iter : Expr) (f : TID) : Prop := ∃ wi, PI X tg iter wi ∧ SndI X.K Wx wi f
section
variable {X : Cx} {Wx : WX} {e tg a b c : Expr} {es : List Expr} {fe : TD} {fl : TL} {p pos : Pos}
theorem itok_l {K : PySem.W.Frag} {F S : Reg} {H : Hp} {a : Addr} {xs : List V} {ds : List D} (h : ImL S H a xs) (r : Reps K S H ds xs) : ItOk K F S H (Itl K a) ds := fun S' H' e => by
  have h' : SqL K H' a xs := (e.imL h).sq
  have r' := r.up e
  refine ⟨fun i d hd => ?_, ⟨xs, h', by rw [r'.length]; exact Nat.le_refl _⟩⟩
  obtain ⟨v, hv, rv⟩ := r'.get hd
  exact ⟨⟨xs, v, h', hv⟩, fun x H3 ⟨e3, y⟩ => by
    subst e3
    have := y xs h'
    rw [hv] at this; cases this
    exact ⟨Same.refl _, fun _ => rv⟩⟩
theorem itok_t {K : PySem.W.Frag} {F S : Reg} {H : Hp} {a : Addr} {xs : List V} {ds : List D} (h : ImT K S H a xs) (r : Reps K S H ds xs) : ItOk K F S H (Itt K a) ds := fun S' H' e => by
  have h' := (e.imT h).sq
  have r' := r.up e
  refine ⟨fun i d hd => ?_, ⟨xs, h', by rw [r'.length]; exact Nat.le_refl _⟩⟩
  obtain ⟨v, hv, rv⟩ := r'.get hd
  exact ⟨⟨xs, v, h', hv⟩, fun x H3 ⟨e3, y⟩ => by
    subst e3
    have := y xs h'
    rw [hv] at this; cases this
    exact ⟨Same.refl _, fun _ => rv⟩⟩
def iSeq (fe : TD) : TID := fun ρ W Q Qx => fe ρ W (fun d ρ' W' => match d with | .lst ds => Q ds ρ' W' | _ => False) Qx
def iTupD (fe : TD) : TID := fun ρ W Q Qx => fe ρ W (fun d ρ' W' => match d with | .tup ds => Q ds ρ' W' | _ => False) Qx
theorem gi_list (he : GE X Wx e fe) : GI X Wx tg e (iSeq fe) := by
  obtain ⟨te, pe, se⟩ := he
  refine ⟨_, pi_list pe, fun F S H σ ρ W Q Qx R cf hf hx hE => ?_⟩
  refine se F S H σ ρ W _ Qx _ cf hf hx fun S1 H1 ρ1 W1 d v e1 c1 r1 q1 => ?_
  split at q1
  · rename_i ds
    obtain ⟨a, xs, rfl, h1, h2⟩ := Rep.lst_iff.mp r1
    exact ⟨a, rfl, ⟨xs, h1.sq⟩, hE S1 H1 ρ1 W1 ds _ e1 c1 (itok_l h1 h2) q1⟩
  · exact q1.elim
theorem gi_tup (he : GE X Wx e fe) : GI X Wx tg e (iTupD fe) := by
  obtain ⟨te, pe, se⟩ := he
  refine ⟨_, pi_tup pe, fun F S H σ ρ W Q Qx R cf hf hx hE => ?_⟩
  refine se F S H σ ρ W _ Qx _ cf hf hx fun S1 H1 ρ1 W1 d v e1 c1 r1 q1 => ?_
  split at q1
  · rename_i ds
    obtain ⟨a, xs, rfl, h1, h2⟩ := Rep.tup_iff.mp r1
    exact ⟨a, rfl, ⟨xs, h1.sq⟩, hE S1 H1 ρ1 W1 ds _ e1 c1 (itok_t h1 h2) q1⟩
  · exact q1.elim
/-- the script -/
def iScr (fe : TD) : TID := fun ρ W Q Qx => fe ρ W (fun d ρ' W' => match d with | .scr ns => Q (ns.map D.int) ρ' W' | _ => False) Qx
theorem gi_scr (he : GE X Wx e fe) : GI X Wx tg e (iScr fe) := by
  obtain ⟨te, pe, se⟩ := he
  refine ⟨_, pi_list pe, fun F S H σ ρ W Q Qx R cf hf hx hE => ?_⟩
  refine se F S H σ ρ W _ Qx _ cf hf hx fun S1 H1 ρ1 W1 d v e1 c1 r1 q1 => ?_
  split at q1
  · rename_i ns
    obtain ⟨a, rfl, h1⟩ := Rep.scr_iff.mp r1
    refine ⟨a, rfl, ⟨_, h1.sq⟩, hE S1 H1 ρ1 W1 _ _ e1 c1 (fun S' H' e' => ?_) q1⟩
    have h' := (e'.imS h1).sq
    refine ⟨fun i d hd => ?_, ⟨_, h', by simp⟩⟩
    rw [List.getElem?_map] at hd
    cases hn : ns[i]? with
    | none => rw [hn] at hd; cases hd
    | some n =>
      rw [hn] at hd; cases hd
      have hv : (ns.map V.int)[i]? = some (V.int n) := by rw [List.getElem?_map, hn]; rfl
      exact ⟨⟨_, _, h', hv⟩, fun x H3 ⟨e3, y⟩ => by
        subst e3
        have := y _ h'
        rw [hv] at this; cases this
        exact ⟨Same.refl _, fun _ => Rep.v_iff.mpr rfl⟩⟩
  · exact q1.elim
/-- the signs of a text -/
def signs (s : Str) : List D := s.cps.toList.map fun c => D.str ⟨#[c]⟩
def iStrD (fe : TD) : TID := fun ρ W Q Qx => fe ρ W (fun d ρ' W' => match d with | .v (.str s) => Q (signs s) ρ' W' | _ => False) Qx
theorem gi_str (he : GE X Wx e fe) : GI X Wx tg e (iStrD fe) := by
  obtain ⟨te, pe, se⟩ := he
  refine ⟨_, pi_str pe, fun F S H σ ρ W Q Qx R cf hf hx hE => ?_⟩
  refine se F S H σ ρ W _ Qx _ cf hf hx fun S1 H1 ρ1 W1 d v e1 c1 r1 q1 => ?_
  split at q1
  · rename_i s
    cases Rep.v_iff.mp r1
    refine ⟨s, rfl, hE S1 H1 ρ1 W1 _ _ e1 c1 (fun S' H' e' => ⟨fun i d hd => ?_, ?_⟩) q1⟩
    · unfold signs at hd
      rw [List.getElem?_map] at hd
      cases hc : s.cps.toList[i]? with
      | none => rw [hc] at hd; cases hd
      | some c =>
        rw [hc] at hd; cases hd
        have hi : i < s.cps.size := by
          have := (List.getElem?_eq_some_iff.mp hc).1
          simpa using this
        refine ⟨hi, fun x H3 ⟨e3, c', h1, h2⟩ => ?_⟩
        subst e3 h2
        have : c' = c := by
          rw [← Array.getElem?_toList] at h1
          rw [hc] at h1; cases h1; rfl
        subst this
        exact ⟨Same.refl _, fun _ => Rep.v_iff.mpr rfl⟩
    · show s.cps.size ≤ (signs s).length
      unfold signs
      simp
  · exact q1.elim
/-- lo, lo + 1, .. -/
def rng (lo : Int) (n : Nat) : List D := (List.range n).map fun (i : Nat) => D.int (lo + (i : Int))
theorem rng_length {lo : Int} {n : Nat} : (rng lo n).length = n := by unfold rng; simp
theorem itok_r {K : PySem.W.Frag} {F S : Reg} {H : Hp} {lo : Int} {n : Nat} : ItOk K F S H (Itr lo n) (rng lo n) := fun S' H' e => by
  refine ⟨fun i d hd => ?_, ?_⟩
  · unfold rng at hd
    rw [List.getElem?_map] at hd
    cases hc : (List.range n)[i]? with
    | none => rw [hc] at hd; cases hd
    | some c =>
      rw [hc] at hd; cases hd
      rw [List.getElem?_eq_some_iff] at hc
      obtain ⟨hi, e1⟩ := hc
      rw [List.getElem_range] at e1
      subst e1
      refine ⟨(show i < n by simpa using hi), fun x H3 ⟨e3, h2⟩ => ?_⟩
      subst e3 h2
      exact ⟨Same.refl _, fun _ => Rep.v_iff.mpr rfl⟩
  · show n ≤ _
    rw [rng_length]; exact Nat.le_refl _
def iRngD1 (fl : TL) : TID := fun ρ W Q Qx => fl ρ W (fun ds ρ' W' => match ds with | [.v (.int j)] => -(2 ^ 62) ≤ j ∧ j < 2 ^ 62 ∧ Q (rng 0 j.toNat) ρ' W' | _ => False) Qx
def iRngD2 (fl : TL) : TID := fun ρ W Q Qx => fl ρ W (fun ds ρ' W' => match ds with | [.v (.int i), .v (.int j)] => (-(2 ^ 62) ≤ i ∧ i < 2 ^ 62 ∧ -(2 ^ 62) ≤ j ∧ j < 2 ^ 62) ∧ Q (rng i (j - i).toNat) ρ' W' | _ => False) Qx
theorem gi_range1 (hg : Gl X "range") (hm : X.mg "range" = none) (ha : GA X Wx [a] fl) (hs : starEach [a] X.env = [(false, eval a X.env)] := by rfl) : GI X Wx tg (.Call (.Name "range" p) [a] [] pos) (iRngD1 fl) := by
  obtain ⟨ta, pa, sa⟩ := ha
  refine ⟨_, pi_range1 hg hm pa hs, fun F S H σ ρ W Q Qx R cf hf hx hE => ?_⟩
  refine sa F S H σ ρ W _ Qx _ cf hf hx fun S1 H1 ρ1 W1 ds vs e1 c1 r1 q1 => ?_
  split at q1
  · rename_i j
    obtain ⟨v, r, rfl, h1, h2⟩ := Reps.cons_iff.mp r1
    cases Rep.v_iff.mp h1
    rw [Reps.nil_iff.mp h2]
    exact ⟨j, rfl, q1.1, q1.2.1, hE S1 H1 ρ1 W1 _ _ e1 c1 itok_r q1.2.2⟩
  · exact q1.elim
theorem gi_range2 (hg : Gl X "range") (hm : X.mg "range" = none) (ha : GA X Wx [a, b] fl) (hs : starEach [a, b] X.env = [(false, eval a X.env), (false, eval b X.env)] := by rfl) (hs2 : starEach [b] X.env = [(false, eval b X.env)] := by rfl) : GI X Wx tg (.Call (.Name "range" p) [a, b] [] pos) (iRngD2 fl) := by
  obtain ⟨ta, pa, sa⟩ := ha
  refine ⟨_, pi_range2 hg hm pa hs hs2, fun F S H σ ρ W Q Qx R cf hf hx hE => ?_⟩
  refine sa F S H σ ρ W _ Qx _ cf hf hx fun S1 H1 ρ1 W1 ds vs e1 c1 r1 q1 => ?_
  split at q1
  · rename_i i j
    obtain ⟨v, r, rfl, h1, h2⟩ := Reps.cons_iff.mp r1
    obtain ⟨v', r', rfl, h3, h4⟩ := Reps.cons_iff.mp h2
    cases Rep.v_iff.mp h1
    cases Rep.v_iff.mp h3
    rw [Reps.nil_iff.mp h4]
    exact ⟨i, j, rfl, q1.1, hE S1 H1 ρ1 W1 _ _ e1 c1 itok_r q1.2⟩
  · exact q1.elim
/-- lo, lo + c, .. -/
def steps (lo c : Int) (n : Nat) : List D := (List.range n).map fun (i : Nat) => D.int (lo + (i : Int) * c)
def iRngD3 (fl : TL) : TID := fun ρ W Q Qx => fl ρ W (fun ds ρ' W' => match ds with | [.v (.int i), .v (.int j), .v (.int c)] => ∃ n, RgC i j c n ∧ Q (steps i c n) ρ' W' | _ => False) Qx
theorem itok_c {K : PySem.W.Frag} {F S : Reg} {H : Hp} {lo c : Int} {n : Nat} : ItOk K F S H (Itc lo c n) (steps lo c n) := fun S' H' e => by
  refine ⟨fun i d hd => ?_, ?_⟩
  · unfold steps at hd
    rw [List.getElem?_map] at hd
    cases hc : (List.range n)[i]? with
    | none => rw [hc] at hd; cases hd
    | some k =>
      rw [hc] at hd; cases hd
      rw [List.getElem?_eq_some_iff] at hc
      obtain ⟨hi, e1⟩ := hc
      rw [List.getElem_range] at e1
      subst e1
      refine ⟨(show i < n by simpa using hi), fun x H3 ⟨e3, h2⟩ => ?_⟩
      subst e3 h2
      exact ⟨Same.refl _, fun _ => Rep.v_iff.mpr rfl⟩
  · show n ≤ _
    unfold steps; simp
theorem gi_range3 (hg : Gl X "range") (hm : X.mg "range" = none) (ha : GA X Wx [a, b, c] fl) (hs : starEach [a, b, c] X.env = (false, eval a X.env) :: starEach [b, c] X.env := by rfl) (hpl : (backTo pos (starEach [b, c] X.env)).any (·.1) = false := by rfl) : GI X Wx tg (.Call (.Name "range" p) [a, b, c] [] pos) (iRngD3 fl) := by
  obtain ⟨ta, pa, sa⟩ := ha
  refine ⟨_, pi_range3 hg hm pa hs hpl, fun F S H σ ρ W Q Qx R cf hf hx hE => ?_⟩
  refine sa F S H σ ρ W _ Qx _ cf hf hx fun S1 H1 ρ1 W1 ds vs e1 c1 r1 q1 => ?_
  split at q1
  · rename_i i j c
    obtain ⟨v, r, rfl, h1, h2⟩ := Reps.cons_iff.mp r1
    obtain ⟨v', r', rfl, h3, h4⟩ := Reps.cons_iff.mp h2
    obtain ⟨v'', r'', rfl, h5, h6⟩ := Reps.cons_iff.mp h4
    cases Rep.v_iff.mp h1
    cases Rep.v_iff.mp h3
    cases Rep.v_iff.mp h5
    rw [Reps.nil_iff.mp h6]
    obtain ⟨n, hr, q⟩ := q1
    exact ⟨i, j, c, n, rfl, hr, hE S1 H1 ρ1 W1 _ _ e1 c1 itok_c q⟩
  · exact q1.elim
end

/-! ### for -/
section
variable {X : Cx} {Wx : WX} {st : Stmt} {f g : TSD} {e tg iter : Expr} {fi : TID} {gd : TGD} {pos : Pos}
/-- I: what holds ahead of the i-th turn -/
@[irreducible] def dFor (fi : TID) (gd : TGD) (fb : TSD) : TSD := fun De ρ W => fi ρ W (fun ds ρ0 W0 => ∃ I : Nat → Env → Wd → Prop, I 0 ρ0 W0 ∧
  (∀ (i : Nat) d ρ W, ds[i]? = some d → I i ρ W → gd d ρ W fun ρ' W' => fb { De with nx := I (i + 1), ct := I (i + 1), bk := De.nx } ρ' W') ∧ ∀ ρ W, I ds.length ρ W → De.nx ρ W) De.ex
theorem gs_for {body : List Stmt} (hp : PassesOwn (model X.prog X.w) X.A X.env X.xe) (hc : X.calm = true) {ts : List Nat} (hi : GI X Wx tg iter fi) (hg : GG X tg gd ts) (hb : GSs X Wx body f)
    (hs : ∀ x, foldedSetIterable iter X.env x = pure x := by intro _; rfl) : GS X Wx (.For tg iter body [] pos) (dFor fi gd f) := by
  obtain ⟨wi, pi, si⟩ := hi
  obtain ⟨tgt, pg, sg⟩ := hg
  obtain ⟨tb, pb, sb⟩ := hb
  refine ⟨_, ps_for hp hc pi pg pb hs, fun F S H σ ρ W De Dh cf hf l => ?_⟩
  unfold dFor at hf
  refine si F S H σ ρ W _ De.ex _ cf hf l.ex fun S1 H1 ρ1 W1 ds J e1 c1 ok q1 => ?_
  obtain ⟨I, h0, hturn, hend⟩ := q1
  let Inv' : Nat → L2.St → Hp → Prop := fun i σ' H' => ∃ S' ρ' W', Stp F S1 H1 S' H' ∧ Cf X.K F S' H' σ' ρ' W' ∧ I i ρ' W'
  refine ⟨fun i m σ' H' => m = ds.length - i ∧ i ≤ ds.length ∧ Inv' i σ' H', ⟨ds.length, by simp, Nat.zero_le _, S1, ρ1, W1, .refl, c1, h0⟩, ?_⟩
  rintro i m σ2 H2 ⟨rfl, hi, S2, ρ2, W2, e2, c2, q2⟩
  obtain ⟨okg, oks⟩ := ok S2 H2 e2
  by_cases hlt : i < ds.length
  · have hd : ds[i]? = some ds[i] := List.getElem?_eq_getElem hlt
    obtain ⟨hgo, hy⟩ := okg i _ hd
    refine .inr ⟨hgo, Inv' (i + 1), fun σ' H' p' => ⟨_, by omega, rfl, hlt, p'⟩, fun x H3 y => ?_⟩
    obtain ⟨s3, r3⟩ := hy x H3 y
    refine sg F S2 H3 σ2 ρ2 W2 _ x _ _ (c2.same s3) (r3 c2.cb.sd) (hturn i _ ρ2 W2 hd q2) fun S4 H4 σ4 ρ4 W4 e4 c4 _ _ q4 => ?_
    have e34 := (e2.trans (stp_same c2.cb s3)).trans e4
    refine sb F S4 H4 σ4 ρ4 W4 _ _ c4 q4 ⟨fun S' H' σ' ρ' W' e' c q => ⟨S', ρ', W', e34.trans e', c, q⟩, fun S' H' σ' ρ' W' d v e' c r q => l.rt S' H' σ' ρ' W' d v ((e1.trans e34).trans e') c r q,
      fun S' H' σ' ρ' W' e' c q => l.nx S' H' σ' ρ' W' ((e1.trans e34).trans e') c q, fun S' H' σ' ρ' W' e' c q => ⟨S', ρ', W', e34.trans e', c, q⟩, (l.ex.up e1).up e34⟩
  · have e : i = ds.length := by omega
    subst e
    exact .inl ⟨oks, l.nx S2 H2 σ2 ρ2 W2 (e1.trans e2) c2 (hend ρ2 W2 q2)⟩
/-- while: I with its measure -/
@[irreducible] def dWhile (fc : TB) (fb : TSD) : TSD := fun De ρ W => ∃ I : Nat → Env → Wd → Prop, (∃ m, I m ρ W) ∧ ∀ m ρ W, I m ρ W → fc ρ W (fun b ρ' W' => if b = true then
  fb { De with nx := fun ρ2 W2 => ∃ m', m' < m ∧ I m' ρ2 W2, ct := fun ρ2 W2 => ∃ m', m' < m ∧ I m' ρ2 W2, bk := De.nx } ρ' W' else De.nx ρ' W') De.ex
theorem gs_while {c : Expr} {body : List Stmt} {fc : TB} (hp : PassesOwn (model X.prog X.w) X.A X.env X.xe) (hc : GT X Wx c fc) (hb : GSs X Wx body f) : GS X Wx (.While c body [] pos) (dWhile fc f) := by
  obtain ⟨tc, pc, sc⟩ := hc
  obtain ⟨tb, pb, sb⟩ := hb
  refine ⟨_, ps_while hp pc pb, fun F S H σ ρ W De Dh cf hf l => ?_⟩
  unfold dWhile at hf
  obtain ⟨I, ⟨m0, h0⟩, hturn⟩ := hf
  let Inv' : Nat → L2.St → Hp → Prop := fun m σ' H' => ∃ S' ρ' W', Stp F S H S' H' ∧ Cf X.K F S' H' σ' ρ' W' ∧ I m ρ' W'
  refine ⟨Inv', ⟨m0, S, ρ, W, .refl, cf, h0⟩, ?_⟩
  rintro m σ1 H1 ⟨S1, ρ1, W1, e1, c1, q1⟩
  refine sc F S1 H1 σ1 ρ1 W1 _ De.ex _ c1 (hturn m ρ1 W1 q1) (l.ex.up e1) fun S2 H2 ρ2 W2 b e2 c2 q2 => ?_
  cases b with
  | true =>
    refine ⟨fun σ' H' => ∃ m', m' < m ∧ Inv' m' σ' H', fun _ _ h => h, ?_⟩
    have e12 := e1.trans e2
    exact sb F S2 H2 σ1 ρ2 W2 _ _ c2 q2 ⟨fun S' H' σ' ρ' W' e' c ⟨m', hm, q⟩ => ⟨m', hm, S', ρ', W', e12.trans e', c, q⟩, fun S' H' σ' ρ' W' d v e' c r q => l.rt S' H' σ' ρ' W' d v (e12.trans e') c r q,
      fun S' H' σ' ρ' W' e' c q => l.nx S' H' σ' ρ' W' (e12.trans e') c q, fun S' H' σ' ρ' W' e' c ⟨m', hm, q⟩ => ⟨m', hm, S', ρ', W', e12.trans e', c, q⟩, l.ex.up e12⟩
  | false => exact l.nx S2 H2 σ1 ρ2 W2 (e1.trans e2) c2 q2
end

/-! ### comprehensions -/
def wipeD (ρ : Env) : List Nat → Env
  | [] => ρ
  | v :: vs => (wipeD ρ vs).set v none
theorem wipeD_length (ρ : Env) : ∀ vs : List Nat, (wipeD ρ vs).length = ρ.length
  | [] => rfl
  | v :: vs => by unfold wipeD; rw [List.length_set, wipeD_length ρ vs]
def noOwn (ρ : Env) (vs : List Nat) : Prop := ∀ i ∈ vs, ∀ ds, ρ[i]? ≠ some (some (.ol ds))
theorem Cf.setNone {K : PySem.W.Frag} {F S : Reg} {H : Hp} {σ : St} {ρ : Env} {W : Wd} (c : Cf K F S H σ ρ W) (i : Nat) : Cf K F S H (σ.set i none) (ρ.set i none) W where
  cb := c.cb
  len := by simp [c.len]
  sh := fun j d' h => by
    by_cases hj : i = j
    · subst hj
      have hl : i < ρ.length := by
        have := (List.getElem?_eq_some_iff.mp h).1
        simpa using this
      rw [List.getElem?_set_self hl] at h
      cases h
    · rw [List.getElem?_set_ne hj] at h
      obtain ⟨w, h1, h2⟩ := c.sh j d' h
      exact ⟨w, by rw [List.getElem?_set_ne hj]; exact h1, h2⟩
  ol := fun j ds h => by
    by_cases hj : i = j
    · subst hj
      have hl : i < ρ.length := by
        have := (List.getElem?_eq_some_iff.mp h).1
        simpa using this
      rw [List.getElem?_set_self hl] at h
      cases h
    · rw [List.getElem?_set_ne hj] at h
      obtain ⟨p, xs, h1, h2⟩ := c.ol j ds h
      exact ⟨p, xs, by rw [List.getElem?_set_ne hj]; exact h1, h2⟩
  dis := fun j k p h1 h2 => by
    have go : ∀ j, Own (σ.set i none) (ρ.set i none) j p → Own σ ρ j p := fun j ⟨ds, q1, q2⟩ => by
      by_cases hj : i = j
      · subst hj
        have hl : i < ρ.length := by
          have := (List.getElem?_eq_some_iff.mp q1).1
          simpa using this
        rw [List.getElem?_set_self hl] at q1
        cases q1
      · rw [List.getElem?_set_ne hj] at q1 q2
        exact ⟨ds, q1, q2⟩
    exact c.dis j k p (go j h1) (go k h2)
theorem Cf.wiped {K : PySem.W.Frag} {F S : Reg} {H : Hp} {σ : St} {ρ : Env} {W : Wd} (c : Cf K F S H σ ρ W) : ∀ vs : List Nat, Cf K F S H (wipe σ vs) (wipeD ρ vs) W
  | [] => c
  | v :: vs => by unfold wipe wipeD; exact (c.wiped vs).setNone v
/-- tests of a comprehension -/
def GTs (X : Cx) (Wx : WX) (ifs : List Expr) (f : TB) : Prop := ∃ te, PTs X ifs te ∧ SndB X.K Wx te f
def dYes : TB := fun ρ W Q _ => Q true ρ W
section
variable {X : Cx} {Wx : WX} {c e : Expr} {fb : TB}
theorem gts_nil : GTs X Wx [] dYes := ⟨_, pts_nil, fun F S H σ ρ W Q Qx R cf hf hx hE => hE S H ρ W true .refl cf hf⟩
theorem gts_one (h : GT X Wx c fb) : GTs X Wx [c] fb := by
  obtain ⟨t, p, s⟩ := h
  exact ⟨_, pts_one p, s⟩
end
/-- W0: within a block nothing may be raised -/
abbrev WX0 : WX := fun _ _ _ _ => False

def canE (K : PySem.W.Frag) (Wx : WX) (f : TD) : TE := fun σ H R => ∃ F S ρ W Q Qx, Cf K F S H σ ρ W ∧ f ρ W Q Qx ∧ LkX K F S H Wx Qx ∧ EndE K F S H σ Q R
def canB (K : PySem.W.Frag) (Wx : WX) (f : TB) : TT := fun σ H R => ∃ F S ρ W Q Qx, Cf K F S H σ ρ W ∧ f ρ W Q Qx ∧ LkX K F S H Wx Qx ∧ EndB K F S H σ Q R
def canG (K : PySem.W.Frag) (ts : List Nat) (g : TGD) : TG := fun v σ H R => ∃ F S ρ W d P, Cf K F S H σ ρ W ∧ Rep K S H d v ∧ g d ρ W P ∧
  ∀ S' H' σ' ρ' W', Stp F S H S' H' → Cf K F S' H' σ' ρ' W' → Off ts σ σ' → Off ts ρ ρ' → P ρ' W' → R σ' H'
section
variable {X : Cx} {Wx : WX} {c e tg : Expr} {ifs : List Expr} {f : TD} {fb : TB} {g : TGD} {ts : List Nat}
theorem GE.can (h : GE X Wx e f) : PE X e (canE X.K Wx f) := by
  obtain ⟨te, pe, se⟩ := h
  exact ⟨fun pins s σ H Q I ⟨F, S, ρ, W, Qd, Qx, cf, hf, hx, hE⟩ => pe.run pins s σ H Q I (se F S H σ ρ W Qd Qx Q cf hf hx hE)⟩
theorem GTs.can (h : GTs X Wx ifs fb) : PTs X ifs (canB X.K Wx fb) := by
  obtain ⟨te, pe, se⟩ := h
  exact ⟨fun pins s σ H Q I ⟨F, S, ρ, W, Qd, Qx, cf, hf, hx, hE⟩ => pe.run pins s σ H Q I (se F S H σ ρ W Qd Qx Q cf hf hx hE)⟩
theorem GG.can (h : GG X tg g ts) : PG X tg (canG X.K ts g) := by
  obtain ⟨te, pe, se⟩ := h
  exact ⟨fun pins s σ H v u Q I r ⟨F, S, ρ, W, d, P, cf, rd, hg, hE⟩ => pe.run pins s σ H v u Q I r (se F S H σ ρ W d v P Q cf rd hg hE)⟩
end
/-- the heap without p -/
def del (H : Hp) (p : Addr) : Hp := fun a => if a = p then none else H a
theorem del_ne {H : Hp} {a p : Addr} (h : a ≠ p) : del H p a = H a := if_neg h
theorem del_same {H : Hp} {p : Addr} : del H p p = none := if_pos rfl
theorem upd_del {H : Hp} {p : Addr} {o : HO} (h : H p = some o) : upd (del H p) p o = H := by
  funext a
  by_cases ha : a = p
  · rw [ha, upd_same, h]
  · rw [upd_ne ha, del_ne ha]
abbrev Add (S : Reg) (p : Addr) : Reg := fun a => S a ∨ a = p
abbrev Rem (S : Reg) (p : Addr) : Reg := fun a => S a ∧ a ≠ p
mutual
theorem Rep.del {K : PySem.W.Frag} {S : Reg} {H : Hp} {p : Addr} (hp : S p) : ∀ {d : D} {v : V}, Rep K S H d v → Rep K (Rem S p) (del H p) d v
  | .v _, _, h => by simp only [Rep] at h ⊢; exact h
  | .tup ds, v, h => by
    simp only [Rep] at h ⊢
    obtain ⟨a, xs, e1, h1, h2⟩ := h
    refine ⟨a, xs, e1, ?_, Reps.del hp h2⟩
    rcases h1 with ⟨h1, hs⟩ | h1
    · have na : a ≠ p := fun q => hs (q ▸ hp)
      exact .inl ⟨by rw [del_ne na]; exact h1, fun z => hs z.1⟩
    · exact .inr h1
  | .lst ds, v, h => by
    simp only [Rep] at h ⊢
    obtain ⟨a, xs, e1, ⟨h1, hs⟩, h2⟩ := h
    have na : a ≠ p := fun q => hs (q ▸ hp)
    exact ⟨a, xs, e1, ⟨by rw [del_ne na]; exact h1, fun z => hs z.1⟩, Reps.del hp h2⟩
  | .scr ns, v, h => by
    simp only [Rep] at h ⊢
    obtain ⟨a, e1, h1⟩ := h
    refine ⟨a, e1, ?_⟩
    rcases h1 with ⟨h1, hs⟩ | h1
    · have na : a ≠ p := fun q => hs (q ▸ hp)
      refine .inl ⟨?_, fun z => hs z.1⟩
      rcases h1 with h1 | ⟨o, h1⟩
      · exact .inl (by rw [del_ne na]; exact h1)
      · exact .inr ⟨o, by rw [del_ne na]; exact h1⟩
    · exact .inr h1
theorem Reps.del {K : PySem.W.Frag} {S : Reg} {H : Hp} {p : Addr} (hp : S p) : ∀ {ds : List D} {vs : List V}, Reps K S H ds vs → Reps K (Rem S p) (del H p) ds vs
  | [], _, h => by simp only [Reps] at h ⊢; exact h
  | d :: ds, vs, h => by
    simp only [Reps] at h ⊢
    obtain ⟨x, r, e1, h1, h2⟩ := h
    exact ⟨x, r, e1, Rep.del hp h1, Reps.del hp h2⟩
end
section
variable {K : PySem.W.Frag} {F S S' : Reg} {H H' : Hp} {σ σ2 : St} {ρ ρ2 : Env} {W W' : Wd}
/-- a foreign object comes -/
theorem Cf.alien (c : Cf K F S H σ ρ W) {p : Addr} {o : HO} (hp : H p = none) : Stp F S H (Add S p) (upd H p o) ∧ Cf K (Add F p) (Add S p) (upd H p o) σ ρ W := by
  have np : ∀ a, S a → a ≠ p := fun a hs q => c.cb.sd a hs (by rw [q]; exact hp)
  have st : Stp F S H (Add S p) (upd H p o) :=
    ⟨fun a u _ h => same_new hp a u h, fun a h1 h2 => by
      rcases h1 with h1 | h1
      · exact absurd h1 h2
      · rw [h1]; exact hp, fun a h => by
      by_cases ha : a = p
      · rw [ha]; exact hp
      · rw [upd_ne ha] at h; exact h, fun a hf => upd_ne (np a (c.cb.fs a hf))⟩
  refine ⟨st, ⟨fun a h => ?_, fun a h => ?_, fun q u hw => ?_⟩, c.len, fun j d' h => ?_, fun j ds' h => ?_, c.dis⟩
  · rcases h with h | h
    · rw [upd_ne (np a h)]; exact c.cb.sd a h
    · rw [h, upd_same]; simp
  · rcases h with h | h
    · exact .inl (c.cb.fs a h)
    · exact .inr h
  · obtain ⟨h1, h2, h3⟩ := c.cb.w q u hw
    exact ⟨.inl h1, fun z => z.elim h2 (np q h1), h3.up st (upd_ne (np q h1))⟩
  · obtain ⟨w, h1, h2⟩ := c.sh j d' h
    exact ⟨w, h1, h2.up st⟩
  · obtain ⟨q, ys, h1, h2, h3, h4, h5, h6⟩ := c.ol j ds' h
    exact ⟨q, ys, h1, by rw [upd_ne (np q h4)]; exact h2, h3.up st, .inl h4, fun z => z.elim h5 (np q h4), h6⟩
/-- it changes -/
theorem Cf.alienCh (c : Cf K (Add F p) S H σ ρ W) {o : HO} : Stp F (Rem S p) (del H p) (Rem S p) (del H p) ∧ Cf K (Add F p) S (upd H p o) σ ρ W := by
  have sp : S p := c.cb.fs p (.inr rfl)
  have hn := c.cb.sd p sp
  refine ⟨.refl, ⟨fun a h => ?_, c.cb.fs, fun q u hw => ?_⟩, c.len, fun j d' h => ?_, fun j ds' h => ?_, c.dis⟩
  · by_cases ha : a = p
    · rw [ha, upd_same]; simp
    · rw [upd_ne ha]; exact c.cb.sd a h
  all_goals
    have st : Stp (fun _ => False) S H S (upd H p o) := ⟨fun a u h e => by
      have : a ≠ p := fun q => h (q ▸ sp)
      rw [upd_ne this]; exact e, fun a h1 h2 => absurd h1 h2, fun a h => by
      by_cases ha : a = p
      · rw [ha, upd_same] at h; cases h
      · rw [upd_ne ha] at h; exact h, fun a h => h.elim⟩
  · obtain ⟨h1, h2, h3⟩ := c.cb.w q u hw
    exact ⟨h1, h2, h3.up st (upd_ne fun z => h2 (.inr z))⟩
  · obtain ⟨w, h1, h2⟩ := c.sh j d' h
    exact ⟨w, h1, h2.up st⟩
  · obtain ⟨q, ys, h1, h2, h3, h4, h5, h6⟩ := c.ol j ds' h
    exact ⟨q, ys, h1, by rw [upd_ne fun z => h5 (.inr z)]; exact h2, h3.up st, h4, h5, h6⟩
/-- it goes -/
theorem Cf.unalien {p : Addr} (c : Cf K (Add F p) S H σ ρ W) (hF : ¬ F p) : Cf K F (Rem S p) (del H p) σ ρ W := by
  have sp : S p := c.cb.fs p (.inr rfl)
  refine ⟨⟨fun a h => by rw [del_ne h.2]; exact c.cb.sd a h.1, fun a h => ⟨c.cb.fs a (.inl h), fun z => hF (z ▸ h)⟩, fun q u hw => ?_⟩, c.len, fun j d' h => ?_, fun j ds' h => ?_, c.dis⟩
  · obtain ⟨h1, h2, h3⟩ := c.cb.w q u hw
    have nq : q ≠ p := fun z => h2 (.inr z)
    refine ⟨⟨h1, nq⟩, fun z => h2 (.inl z), ?_⟩
    cases u with
    | lst ds => obtain ⟨xs, h4, h5⟩ := h3; exact ⟨xs, (del_ne nq).trans h4, h5.del sp⟩
    | ins C dx fs => obtain ⟨xs, h4, h5, h6⟩ := h3; exact ⟨xs, (del_ne nq).trans h4, h5, h6.del sp⟩
    | dK kvs => obtain ⟨xs, h4, h5, h6⟩ := h3; exact ⟨xs, (del_ne nq).trans h4, h5, h6.del sp⟩
  · obtain ⟨w, h1, h2⟩ := c.sh j d' h
    exact ⟨w, h1, h2.del sp⟩
  · obtain ⟨q, ys, h1, h2, h3, h4, h5, h6⟩ := c.ol j ds' h
    have nq : q ≠ p := fun z => h5 (.inr z)
    exact ⟨q, ys, h1, (del_ne nq).trans h2, h3.del sp, ⟨h4, nq⟩, fun z => h5 (.inl z), h6⟩
theorem Off.get {α : Type} {ts : List Nat} {l l' : List α} (h : Off ts l l') {j : Nat} (hj : j ∉ ts) : l'[j]? = l[j]? := h.2 j hj
/-- the slots are as before -/
theorem Cf.restore (c0 : Cf K F S H σ ρ W) (e : Stp F S H S' H') (c : Cf K F S' H' σ2 ρ2 W') {vs : List Nat} (o1 : ∀ j, j ∉ vs → σ2[j]? = σ[j]?) (o2 : ∀ j, j ∉ vs → ρ2[j]? = ρ[j]?) (hn : noOwn ρ vs) : Cf K F S' H' σ ρ W' where
  cb := c.cb
  len := c0.len
  sh := fun i d h => by
    obtain ⟨v, h1, h2⟩ := c0.sh i d h
    exact ⟨v, h1, h2.up e⟩
  ol := fun i ds h => by
    have hi : i ∉ vs := fun z => hn i z ds h
    obtain ⟨q, ys, h1, h2⟩ := c.ol i ds ((o2 i hi).trans h)
    exact ⟨q, ys, (o1 i hi).symm.trans h1, h2⟩
  dis := c0.dis
end
theorem wipe_off (σ : St) : ∀ (vs : List Nat) (j : Nat), j ∉ vs → (wipe σ vs)[j]? = σ[j]?
  | [], _, _ => rfl
  | v :: vs, j, h => by
    unfold wipe
    rw [List.getElem?_set_ne (fun e => h (by simp [e]))]
    exact wipe_off σ vs j fun z => h (by simp [z])
theorem wipeD_off (σ : Env) : ∀ (vs : List Nat) (j : Nat), j ∉ vs → (wipeD σ vs)[j]? = σ[j]?
  | [], _, _ => rfl
  | v :: vs, j, h => by
    unfold wipeD
    rw [List.getElem?_set_ne (fun e => h (by simp [e]))]
    exact wipeD_off σ vs j fun z => h (by simp [z])
theorem wipe_on (σ : St) : ∀ (vs : List Nat) (j : Nat), j ∈ vs → j < σ.length → (wipe σ vs)[j]? = some none
  | v :: vs, j, h, hl => by
    unfold wipe
    by_cases e : v = j
    · subst e
      rw [List.getElem?_set_self (by rw [wipe_length]; exact hl)]
    · rw [List.getElem?_set_ne e]
      exact wipe_on σ vs j (by simpa [Ne.symm e] using h) hl
theorem wipe_eq {σ σ2 : St} {vs : List Nat} (hl : σ2.length = σ.length) (h : ∀ j, j ∉ vs → σ2[j]? = σ[j]?) : wipe σ2 vs = wipe σ vs := by
  refine List.ext_getElem? fun j => ?_
  by_cases hj : j ∈ vs
  · by_cases hb : j < σ.length
    · rw [wipe_on σ vs j hj hb, wipe_on σ2 vs j hj (by rw [hl]; exact hb)]
    · rw [List.getElem?_eq_none (by rw [wipe_length, hl]; omega), List.getElem?_eq_none (by rw [wipe_length]; omega)]
  · rw [wipe_off σ2 vs j hj, wipe_off σ vs j hj, h j hj]
/-- I: what holds of the list so far and the state ahead of the i-th turn; the slots are as they were -/
@[irreducible] def dLc (fi : TID) (gd : TGD) (ft : TB) (fe : TD) (vs : List Nat) : TL := fun ρ W Q Qx => noOwn ρ vs ∧ fi ρ W (fun ds ρ0 W0 => ρ0 = ρ ∧ ds.length ≤ sizeLine ∧ ∃ I : Nat → List D → Wd → Prop, I 0 [] W0 ∧
  (∀ (i : Nat) d acc W, ds[i]? = some d → acc.length ≤ i → I i acc W → gd d (wipeD ρ vs) W fun ρ1 W1 => ft ρ1 W1 (fun b ρ2 W2 => ρ2 = ρ1 ∧ if b = true then
    fe ρ1 W2 (fun y ρ3 W3 => ρ3 = ρ1 ∧ I (i + 1) (acc ++ [y]) W3) (fun _ _ _ _ => False) else I (i + 1) acc W2) (fun _ _ _ _ => False)) ∧ ∀ acc W, acc.length ≤ ds.length → I ds.length acc W → Q acc ρ W) Qx
theorem lkx_none {K : PySem.W.Frag} {F S : Reg} {H : Hp} {Wx : WX} : LkX K F S H Wx (fun _ _ _ _ => False) := fun _ _ _ _ _ _ _ _ _ _ _ q => q.elim
theorem snd_lc {K : PySem.W.Frag} {Wx : WX} {wi : TI} {fi : TID} {gd : TGD} {ft : TB} {fe : TD} {vs ts : List Nat} (hts : ∀ j ∈ ts, j ∈ vs) (si : SndI K Wx wi fi) : SndN K Wx (tLc wi (canG K ts gd) (canB K WX0 ft) (canE K WX0 fe) vs) (dLc fi gd ft fe vs) := by
  intro F S H σ ρ W Q Qx R cf hf hx hE
  unfold dLc at hf
  obtain ⟨hno, hf⟩ := hf
  refine si F S H σ ρ W _ Qx _ cf hf hx fun S1 H1 ρ1 W1 ds J e1 c1 ok q1 => ?_
  obtain ⟨rfl, hlen, I, h0, hturn, hend⟩ := q1
  intro p hp
  have nF : ¬ F p := fun z => c1.cb.sd p (c1.cb.fs p z) hp
  have nS : ¬ S1 p := fun z => c1.cb.sd p z hp
  obtain ⟨ea, ca⟩ := c1.alien (o := .lst []) hp
  let Iv : Nat → Hp → Prop := fun i H' => ∃ S' W' acc xs, Stp F S1 H1 S' H' ∧ Cf K (Add F p) S' H' σ ρ1 W' ∧ Reps K S' H' acc xs ∧ H' p = some (.lst xs) ∧ acc.length ≤ i ∧ I i acc W'
  refine ⟨fun i m H' => m = ds.length - i ∧ i ≤ ds.length ∧ Iv i H', ⟨ds.length, by simp, Nat.zero_le _, Add S1 p, W1, [], [], ea, ca, Reps.nil, upd_same, Nat.le_refl _, h0⟩, ?_⟩
  rintro i m H2 ⟨rfl, hi, S2, W2, acc, xs, e2, c2, r2, hp2, hacc, q2⟩
  have nFp : Stp F S1 H1 S2 H2 := e2
  obtain ⟨okg, oks⟩ := ok S2 H2 e2
  by_cases hlt : i < ds.length
  · have hd : ds[i]? = some ds[i] := List.getElem?_eq_getElem hlt
    obtain ⟨hgo, hy⟩ := okg i _ hd
    refine .inr ⟨hgo, Iv (i + 1), fun H' p' => ⟨_, by omega, rfl, hlt, p'⟩, fun x H3 y => ?_⟩
    obtain ⟨s3, r3⟩ := hy x H3 y
    have e3 : Stp F S2 H2 S2 H3 := (stp_same c2.cb s3).mono fun _ h => .inl h
    refine ⟨Add F p, S2, wipeD ρ1 vs, W2, ds[i], _, (c2.same s3).wiped vs, r3 c2.cb.sd, hturn i _ acc W2 hd hacc q2, fun S4 H4 σ4 ρ4 W4 e4 c4 o1 o2 q4 => ?_⟩
    have off1 : ∀ j, j ∉ vs → σ4[j]? = σ[j]? := fun j hj => (o1.2 j fun z => hj (hts j z)).trans (wipe_off σ vs j hj)
    have off2 : ∀ j, j ∉ vs → ρ4[j]? = ρ1[j]? := fun j hj => (o2.2 j fun z => hj (hts j z)).trans (wipeD_off ρ1 vs j hj)
    refine ⟨wipe_eq (by rw [o1.1, wipe_length]) off1, ?_⟩
    refine ⟨Add F p, S4, ρ4, W4, _, _, c4, q4, lkx_none, fun S5 H5 ρ5 W5 b e5 c5 q5 => ?_⟩
    obtain ⟨rfl, q5⟩ := q5
    have e45 := (e4.mono (F' := F) fun _ h => .inl h).trans (e5.mono (F' := F) fun _ h => .inl h)
    have e35 := e3.trans e45
    have r5 := r2.up e35
    have hp5 : H5 p = some (.lst xs) := (e5.frn p (.inr rfl)).trans ((e4.frn p (.inr rfl)).trans (s3 p _ hp2))
    have full : Stp (Add F p) S2 H2 S5 H5 := (stp_same c2.cb s3).trans (e4.trans e5)
    cases b with
    | true =>
      refine ⟨Add F p, S5, ρ5, W5, _, _, c5, q5, lkx_none, fun S6 H6 ρ6 W6 y' v6 e6 c6 r6 q6 => ?_⟩
      obtain ⟨rfl, q6⟩ := q6
      have hp6 : H6 p = some (.lst xs) := (e6.frn p (.inr rfl)).trans hp5
      refine ⟨xs, hp6, by rw [r2.length]; omega, ?_⟩
      have c7 := c2.restore (full.trans e6) c6 off1 off2 hno
      have sp : S6 p := c7.cb.fs p (.inr rfl)
      have e67 : Stp F S6 H6 S6 (upd H6 p (.lst (xs ++ [v6]))) := ⟨fun a u h e => by
        have : a ≠ p := fun q => h (q ▸ sp)
        rw [upd_ne this]; exact e, fun a h1 h2 => absurd h1 h2, fun a h => by
        by_cases ha : a = p
        · rw [ha, upd_same] at h; cases h
        · rw [upd_ne ha] at h; exact h, fun a h => upd_ne fun z => nF (z ▸ h)⟩
      have e6' := e6.mono (F' := F) fun _ h => .inl h
      refine ⟨S6, W6, acc ++ [y'], xs ++ [v6], ((e2.trans e35).trans e6').trans e67, c7.alienCh.2, ((r5.up e6').append (Reps.cons r6 Reps.nil)).up e67, upd_same, by simp; omega, q6⟩
    | false =>
      have c7 := c2.restore full c5 off1 off2 hno
      exact ⟨S5, W5, acc, xs, e2.trans e35, c7, r5, hp5, by omega, q5⟩
  · have e : i = ds.length := by omega
    subst e
    refine .inl ⟨oks, ?_⟩
    have sp : S2 p := c2.cb.fs p (.inr rfl)
    have := hE (Rem S2 p) (del H2 p) ρ1 W2 acc xs p (e1.trans ⟨fun a o h1 h2 => ?_, fun a h1 h2 => e2.new a h1.1 h2, fun a h => ?_, fun a h => ?_⟩) (c2.unalien nF) (r2.del sp) del_same (hend acc W2 hacc q2)
    · rw [upd_del hp2] at this; exact this
    · have : a ≠ p := fun z => by rw [z, hp] at h2; cases h2
      rw [del_ne this]; exact e2.keep a o h1 h2
    · by_cases ha : a = p
      · rw [ha]; exact hp
      · rw [del_ne ha] at h; exact e2.dom a h
    · rw [del_ne (fun (z : a = p) => nF (z ▸ h))]; exact e2.frn a h
section
variable {X : Cx} {Wx : WX} {elt tg iter : Expr} {ifs : List Expr} {scope : Scope} {own : List (Str × Nat)} {pos : Pos} {fi : TID} {gd : TGD} {ft : TB} {fe : TD} {ts : List Nat}
theorem gn_lc (own : List (Str × Nat)) (hc : X.calm = true) (hN : X.N.Nodup) (hi : GI X Wx tg iter fi) (ok : BlkOk X.N X.env.scope scope own) (hts : ∀ j ∈ ts, j ∈ own.map (·.2))
    (hg : ∀ (s : Shared) (H : Hp) (C : Addr) (cl : List (Str × Addr)) (fp : List Addr), GG (X.blk s H scope (PySem.compEnvC scope cl C X.env) fp) tg gd ts) (ht : ∀ (s : Shared) (H : Hp) (C : Addr) (cl : List (Str × Addr)) (fp : List Addr), GTs (X.blk s H scope (PySem.compEnvC scope cl C X.env) fp) WX0 ifs ft)
    (he : ∀ (s : Shared) (H : Hp) (C : Addr) (cl : List (Str × Addr)) (fp : List Addr), GE (X.blk s H scope (PySem.compEnvC scope cl C X.env) fp) WX0 elt fe) (hs : ∀ x, foldedSetIterable iter X.env x = pure x := by intro _; rfl) :
    GN X Wx (.ListComp elt [⟨tg, iter, ifs, 0⟩] scope pos) (dLc fi gd ft fe (own.map (·.2))) := by
  obtain ⟨wi, pi, si⟩ := hi
  exact ⟨_, pe_lc hc hN pi ok (fun s H C cl fp => (hg s H C cl fp).can) (fun s H C cl fp => (ht s H C cl fp).can) (fun s H C cl fp => (he s H C cl fp).can) hs, snd_lc hts si⟩
end
end G

namespace G
open PySem PySem.Spec L2

/-! ### data for == -/
mutual
def D.py : D → PyData
  | .v .non => .none
  | .v (.bl b) => .bool b
  | .v (.int i) => .int i
  | .v (.str s) => .str s
  | .v _ => .dict []
  | .tup ds => .tuple (pys ds)
  | .lst ds => .list (pys ds)
  | .scr ns => .list (ns.map PyData.int)
def pys : List D → List PyData
  | [] => []
  | d :: ds => D.py d :: pys ds
end
mutual
/-- None, truths, ints, texts and what is made of them, n deep at most -/
def D.good : Nat → D → Bool
  | _, .v .non => true
  | _, .v (.bl _) => true
  | _, .v (.int _) => true
  | _, .v (.str s) => PyData.strOk s
  | _, .v _ => false
  | 0, _ => false
  | n + 1, .tup ds => goods n ds
  | n + 1, .lst ds => goods n ds
  | _ + 1, .scr _ => true
def goods : Nat → List D → Bool
  | _, [] => true
  | n, d :: ds => D.good n d && goods n ds
end
section
variable {K : PySem.W.Frag} {S : Reg} {H : Hp}
mutual
theorem dp_of : ∀ {n : Nat} {d : D} {v : V}, D.good n d = true → Rep K S H d v → Dp K H v d.py
  | _, .v .non, v, _, h => by rw [Rep.v_iff.mp h]; simp only [D.py]; exact .non
  | _, .v (.bl b), v, _, h => by rw [Rep.v_iff.mp h]; simp only [D.py]; exact .bl b
  | _, .v (.int b), v, _, h => by rw [Rep.v_iff.mp h]; simp only [D.py]; exact .int b
  | _, .v (.str b), v, _, h => by rw [Rep.v_iff.mp h]; simp only [D.py]; exact .str b
  | _, .v (.byt _), _, h, _ => by simp [D.good] at h
  | _, .v (.flt _), _, h, _ => by simp [D.good] at h
  | _, .v (.ref _), _, h, _ => by simp [D.good] at h
  | _, .v (.ty _), _, h, _ => by simp [D.good] at h
  | 0, .tup _, _, h, _ => by simp [D.good] at h
  | 0, .lst _, _, h, _ => by simp [D.good] at h
  | 0, .scr _, _, h, _ => by simp [D.good] at h
  | n + 1, .tup ds, v, g, h => by
    obtain ⟨a, xs, rfl, h1, h2⟩ := Rep.tup_iff.mp h
    simp only [D.py]
    exact .tup h1.sq (dps_of (by simpa [D.good] using g) h2)
  | n + 1, .lst ds, v, g, h => by
    obtain ⟨a, xs, rfl, h1, h2⟩ := Rep.lst_iff.mp h
    simp only [D.py]
    exact .lst h1.sq (dps_of (by simpa [D.good] using g) h2)
  | n + 1, .scr ns, v, g, h => by
    obtain ⟨a, rfl, h1⟩ := Rep.scr_iff.mp h
    simp only [D.py]
    refine .lst h1.sq ?_
    clear h h1
    induction ns with
    | nil => exact .nil
    | cons n ns ih => exact .cons (.int n) (ih (by simpa [D.good] using g))
theorem dps_of : ∀ {n : Nat} {ds : List D} {vs : List V}, goods n ds = true → Reps K S H ds vs → DpAll K H vs (pys ds)
  | _, [], _, _, h => by rw [Reps.nil_iff.mp h]; simp only [pys]; exact .nil
  | n, d :: ds, vs, g, h => by
    obtain ⟨x, r, rfl, h1, h2⟩ := Reps.cons_iff.mp h
    simp only [goods, Bool.and_eq_true] at g
    simp only [pys]
    exact .cons (dp_of g.1 h1) (dps_of g.2 h2)
end
end
mutual
theorem lay_of : ∀ {n : Nat} {d : D}, D.good n d = true → d.py.canLay0 = true ∧ d.py.depth ≤ n
  | _, .v .non, _ => by simp [D.py, PyData.canLay0, PyData.depth]
  | _, .v (.bl b), _ => by simp [D.py, PyData.canLay0, PyData.depth]
  | _, .v (.int b), _ => by simp [D.py, PyData.canLay0, PyData.depth]
  | _, .v (.str b), h => by
    simp only [D.good] at h
    simp [D.py, PyData.canLay0, PyData.depth, h]
  | _, .v (.byt _), h => by simp [D.good] at h
  | _, .v (.flt _), h => by simp [D.good] at h
  | _, .v (.ref _), h => by simp [D.good] at h
  | _, .v (.ty _), h => by simp [D.good] at h
  | 0, .tup _, h => by simp [D.good] at h
  | 0, .lst _, h => by simp [D.good] at h
  | 0, .scr _, h => by simp [D.good] at h
  | n + 1, .tup ds, g => by
    have := lays_of (n := n) (ds := ds) (by simpa [D.good] using g)
    simp only [D.py, PyData.canLay0, PyData.depth]
    exact ⟨this.1, by omega⟩
  | n + 1, .lst ds, g => by
    have := lays_of (n := n) (ds := ds) (by simpa [D.good] using g)
    simp only [D.py, PyData.canLay0, PyData.depth]
    exact ⟨this.1, by omega⟩
  | n + 1, .scr ns, g => by
    simp only [D.py, PyData.canLay0, PyData.depth]
    have : PyData.canLayAll0 (ns.map PyData.int) = true ∧ PyData.depthAll (ns.map PyData.int) = 0 := by
      clear g
      induction ns with
      | nil => simp [PyData.canLayAll0, PyData.depthAll]
      | cons a r ih => simp [PyData.canLayAll0, PyData.depthAll, PyData.canLay0, PyData.depth, ih]
    exact ⟨this.1, by omega⟩
theorem lays_of : ∀ {n : Nat} {ds : List D}, goods n ds = true → PyData.canLayAll0 (pys ds) = true ∧ PyData.depthAll (pys ds) ≤ n
  | _, [], _ => by simp [pys, PyData.canLayAll0, PyData.depthAll]
  | n, d :: ds, g => by
    simp only [goods, Bool.and_eq_true] at g
    have h1 := lay_of g.1
    have h2 := lays_of g.2
    simp only [pys, PyData.canLayAll0, PyData.depthAll, Bool.and_eq_true]
    exact ⟨⟨h1.1, h2.1⟩, by omega⟩
end
theorem shaped_of {d : D} (g : D.good 64 d = true) : SeqAt.shaped d.py = true := by
  have := lay_of g
  unfold SeqAt.shaped
  simp [this.1, this.2]
def eqD (d e : D) : Bool := PyData.eqv d.py e.py
def dEqN : D → D → (D → Prop) → Prop := fun d e Q => D.good 64 d = true ∧ D.good 64 e = true ∧ Q (.bl (eqD d e))
def dNeN : D → D → (D → Prop) → Prop := fun d e Q => D.good 64 d = true ∧ D.good 64 e = true ∧ Q (.bl (!eqD d e))
def dEqS : D → D → (D → Prop) → Prop := fun d e Q => match d, e with | .v x, .v y => scal x y = true ∧ Q (.bl (decide (x = y))) | _, _ => False
def dNeS : D → D → (D → Prop) → Prop := fun d e Q => match d, e with | .v x, .v y => scal x y = true ∧ Q (.bl (!decide (x = y))) | _, _ => False
/-- == of flat values by worth, of others by their data -/
@[irreducible] def dEq : D → D → (D → Prop) → Prop := fun d e Q => match d, e with | .v x, .v y => (if scal x y = true then Q (.bl (decide (x = y))) else dEqN (.v x) (.v y) Q) | d, e => dEqN d e Q
@[irreducible] def dNe : D → D → (D → Prop) → Prop := fun d e Q => match d, e with | .v x, .v y => (if scal x y = true then Q (.bl (!decide (x = y))) else dNeN (.v x) (.v y) Q) | d, e => dNeN d e Q
section
variable {K : PySem.W.Frag}
theorem rs_eqN : RSnd K (rEqD K) dEqN := fun F S H W d e x y P R cb rd re hp k =>
  ⟨_, _, dp_of hp.1 rd, dp_of hp.2.1 re, shaped_of hp.1, shaped_of hp.2.1, k _ _ H (Same.refl H) (Rep.v_iff.mpr rfl) hp.2.2⟩
theorem rs_neN : RSnd K (rNeD K) dNeN := fun F S H W d e x y P R cb rd re hp k =>
  ⟨_, _, dp_of hp.1 rd, dp_of hp.2.1 re, shaped_of hp.1, shaped_of hp.2.1, k _ _ H (Same.refl H) (Rep.v_iff.mpr rfl) hp.2.2⟩
theorem rs_eqS : RSnd K rEq dEqS := fun F S H W d e x y P R cb rd re hp k => by
  unfold dEqS at hp
  split at hp
  · rw [Rep.v_iff] at rd re
    subst rd re
    exact ⟨hp.1, k _ _ H (Same.refl H) (Rep.v_iff.mpr rfl) hp.2⟩
  · exact hp.elim
theorem rs_neS : RSnd K rNe dNeS := fun F S H W d e x y P R cb rd re hp k => by
  unfold dNeS at hp
  split at hp
  · rw [Rep.v_iff] at rd re
    subst rd re
    exact ⟨hp.1, k _ _ H (Same.refl H) (Rep.v_iff.mpr rfl) hp.2⟩
  · exact hp.elim
theorem rs_or {r r' : R2} {g g' : D → D → (D → Prop) → Prop} (h : RSnd K r g) (h' : RSnd K r' g') : RSnd K (fun x y H Q => r x y H Q ∨ r' x y H Q) (fun d e Q => g d e Q ∨ g' d e Q) := fun F S H W d e x y P R cb rd re hp k => by
  rcases hp with hp | hp
  · exact .inl (h F S H W d e x y P R cb rd re hp k)
  · exact .inr (h' F S H W d e x y P R cb rd re hp k)
theorem rs_imp {r : R2} {g g' : D → D → (D → Prop) → Prop} (h : RSnd K r g) (hg : ∀ d e Q, g' d e Q → g d e Q) : RSnd K r g' := fun F S H W d e x y P R cb rd re hp k => h F S H W d e x y P R cb rd re (hg d e P hp) k
theorem rs_eq : RSnd K (fun x y H Q => rEq x y H Q ∨ rEqD K x y H Q) dEq := rs_imp (rs_or rs_eqS rs_eqN) fun d e Q h => by
  unfold dEq at h
  split at h
  · split at h
    · rename_i c
      exact .inl ⟨c, h⟩
    · exact .inr h
  · exact .inr h
theorem rs_ne : RSnd K (fun x y H Q => rNe x y H Q ∨ rNeD K x y H Q) dNe := rs_imp (rs_or rs_neS rs_neN) fun d e Q h => by
  unfold dNe at h
  split at h
  · split at h
    · rename_i c
      exact .inl ⟨c, h⟩
    · exact .inr h
  · exact .inr h
theorem op_eqA {X : Cx} (hu : X.A.units + 64 < cLine) : OpR X (compareOp .Eq) (fun x y H Q => rEq x y H Q ∨ rEqD X.K x y H Q) := op_eq.or (op_eqD hu)
theorem op_neA {X : Cx} (hu : X.A.units + 64 < cLine) : OpR X (compareOp .NotEq) (fun x y H Q => rNe x y H Q ∨ rNeD X.K x y H Q) := op_ne.or (op_neD hu)
/-! ### ints -/
/-- two ints in, a value out -/
def d2I (C : Int → Int → Prop) (g : Int → Int → V) : D → D → (D → Prop) → Prop := fun d e Q => match d, e with | .v (.int i), .v (.int j) => C i j ∧ Q (.v (g i j)) | _, _ => False
theorem rs_I {C : Int → Int → Prop} {g : Int → Int → V} : RSnd K (rI C g) (d2I C g) := fun F S H W d e x y P R cb rd re hp k => by
  unfold d2I at hp
  split at hp
  · rename_i i j
    rw [Rep.v_iff] at rd re
    exact ⟨i, j, rd, re, hp.1, k _ _ H (Same.refl H) (Rep.v_iff.mpr rfl) hp.2⟩
  · exact hp.elim
def d2J (g : Int → Int → V) : D → D → (D → Prop) → Prop := fun d e Q => match d, e with | .v (.int i), .v (.int j) => Q (.v (g i j)) | _, _ => False
theorem rs_J {g : Int → Int → V} : RSnd K (rI0 g) (d2J g) := fun F S H W d e x y P R cb rd re hp k => by
  unfold d2J at hp
  split at hp
  · rename_i i j
    rw [Rep.v_iff] at rd re
    exact ⟨i, j, rd, re, k _ _ H (Same.refl H) (Rep.v_iff.mpr rfl) hp⟩
  · exact hp.elim
/-- two texts in -/
def d2S (g : Str → Str → V) : D → D → (D → Prop) → Prop := fun d e Q => match d, e with | .v (.str i), .v (.str j) => Q (.v (g i j)) | _, _ => False
theorem rs_S {g : Str → Str → V} : RSnd K (fun x y H Q => ∃ i j, x = .str i ∧ y = .str j ∧ Q (g i j) H) (d2S g) := fun F S H W d e x y P R cb rd re hp k => by
  unfold d2S at hp
  split at hp
  · rename_i i j
    rw [Rep.v_iff] at rd re
    exact ⟨i, j, rd, re, k _ _ H (Same.refl H) (Rep.v_iff.mpr rfl) hp⟩
  · exact hp.elim
/-! ### + -/
def rAddS : R2 := fun x y H Q => ∃ i j, x = .str i ∧ y = .str j ∧ i.length + j.length ≤ sizeLine ∧ Q (.str (i ++ j)) H
def dAddS : D → D → (D → Prop) → Prop := fun d e Q => match d, e with | .v (.str i), .v (.str j) => i.length + j.length ≤ sizeLine ∧ Q (.str (i ++ j)) | _, _ => False
theorem rs_addS : RSnd K rAddS dAddS := fun F S H W d e x y P R cb rd re hp k => by
  unfold dAddS at hp
  split at hp
  · rename_i i j
    rw [Rep.v_iff] at rd re
    exact ⟨i, j, rd, re, hp.1, k _ _ H (Same.refl H) (Rep.v_iff.mpr rfl) hp.2⟩
  · exact hp.elim
def dAddL : D → D → (D → Prop) → Prop := fun d e Q => match d, e with | .lst i, .lst j => i.length + j.length ≤ sizeLine ∧ Q (.lst (i ++ j)) | _, _ => False
theorem rs_addL : RSnd K rCat dAddL := fun F S H W d e x y P R cb rd re hp k => by
  unfold dAddL at hp
  split at hp
  · rename_i i j
    obtain ⟨a, xs, rfl, h1, h2⟩ := Rep.lst_iff.mp rd
    obtain ⟨b, ys, rfl, h3, h4⟩ := Rep.lst_iff.mp re
    exact ⟨a, b, xs, ys, rfl, rfl, h1.1, h3.1, by rw [h2.length, h4.length]; exact hp.1, fun p hn => k _ _ _ (same_new hn) (rep_newL cb hn (h2.append h4)) hp.2⟩
  · exact hp.elim
def dAddT : D → D → (D → Prop) → Prop := fun d e Q => match d, e with | .tup i, .tup j => i.length + j.length ≤ sizeLine ∧ Q (.tup (i ++ j)) | _, _ => False
theorem rs_addT : RSnd K (rCatA K) dAddT := fun F S H W d e x y P R cb rd re hp k => by
  unfold dAddT at hp
  split at hp
  · rename_i i j
    obtain ⟨a, xs, rfl, h1, h2⟩ := Rep.tup_iff.mp rd
    obtain ⟨b, ys, rfl, h3, h4⟩ := Rep.tup_iff.mp re
    refine ⟨a, b, xs, ys, rfl, rfl, h1.sq, h3.sq, by rw [h2.length, h4.length]; exact hp.1, fun e1 => ?_, fun _ e1 => ?_, fun _ _ p hn => k _ _ _ (same_new hn) (rep_newT cb hn (h2.append h4)) hp.2⟩
    · refine k _ _ H (Same.refl H) ?_ hp.2
      have := h2.length
      rw [e1] at this
      have e0 : i = [] := List.eq_nil_of_length_eq_zero this.symm
      rw [e0]
      exact re
    · refine k _ _ H (Same.refl H) ?_ hp.2
      have := h4.length
      rw [e1] at this
      have e0 : j = [] := List.eq_nil_of_length_eq_zero this.symm
      rw [e0, List.append_nil]
      exact rd
  · exact hp.elim
def dAdd : D → D → (D → Prop) → Prop := fun d e Q => match d, e with
  | .v (.int i), .v (.int j) => Q (.int (i + j))
  | .v (.str i), .v (.str j) => i.length + j.length ≤ sizeLine ∧ Q (.str (i ++ j))
  | .lst i, .lst j => i.length + j.length ≤ sizeLine ∧ Q (.lst (i ++ j))
  | .tup i, .tup j => i.length + j.length ≤ sizeLine ∧ Q (.tup (i ++ j))
  | _, _ => False
def rAddA (K : PySem.W.Frag) : R2 := fun x y H Q => rI0 (fun i j => .int (i + j)) x y H Q ∨ (rAddS x y H Q ∨ (rCat x y H Q ∨ rCatA K x y H Q))
theorem rs_add : RSnd K (rAddA K) dAdd := rs_imp (rs_or (rs_J (g := fun i j => .int (i + j))) (rs_or rs_addS (rs_or rs_addL rs_addT))) fun d e Q h => by
  unfold dAdd at h
  split at h
  · exact .inl h
  · exact .inr (.inl h)
  · exact .inr (.inr (.inl h))
  · exact .inr (.inr (.inr h))
  · exact h.elim
theorem op_addA {X : Cx} : OpR X (binaryOp .Add) (rAddA X.K) := op_add.or (OpR.or (r := rAddS) op_add_str (op_cat.or op_catA))
/-! ### * -/
/-- two factors of together less than 2 ^ 26 bits -/
def CMulX (i j : Int) : Prop := i.natAbs.log2 + j.natAbs.log2 < 60000000
theorem CMulX.ok {i j : Int} (h : CMulX i j) : PySem.IntMulOk i j := by
  have b : ∀ x : Int, Builtin.Int.intBits x ≤ x.natAbs.log2 + 1 := fun x => by
    unfold Builtin.Int.intBits
    split <;> omega
  have h1 := b i
  have h2 := b j
  have h3 : i.natAbs.log2 + j.natAbs.log2 < 60000000 := h
  have e : bitsLine = 134217728 := by decide
  unfold PySem.IntMulOk
  intro z
  rw [Bool.and_eq_true] at z
  have z2 := z.2
  unfold Builtin.Int.intTooBig at z2
  have z3 := of_decide_eq_true z2
  rw [e] at z3
  omega
theorem op_mulX {X : Cx} : OpR X (binaryOp .Mult) (rI CMulX fun i j => .int (i * j)) := opI fun _ _ _ _ _ _ _ hc q => PyProof.Rows.mul_int q (CMulX.ok hc)
/-- a text again and again -/
def dMul : D → D → (D → Prop) → Prop := fun d e Q => match d, e with
  | .v (.int i), .v (.int j) => CMulX i j ∧ Q (.int (i * j))
  | .lst i, .v (.int j) => -(2 ^ 63) ≤ j ∧ j < 2 ^ 63 ∧ i.length * j.toNat ≤ sizeLine ∧ Q (.lst (List.replicate j.toNat i).flatten)
  | _, _ => False
def dRepL : D → D → (D → Prop) → Prop := fun d e Q => match d, e with
  | .lst i, .v (.int j) => -(2 ^ 63) ≤ j ∧ j < 2 ^ 63 ∧ i.length * j.toNat ≤ sizeLine ∧ Q (.lst (List.replicate j.toNat i).flatten)
  | _, _ => False
theorem Reps.rep {S : Reg} {H : Hp} {ds : List D} {vs : List V} (h : Reps K S H ds vs) : ∀ n : Nat, Reps K S H (List.replicate n ds).flatten (List.replicate n vs).flatten
  | 0 => Reps.nil
  | n + 1 => by
    rw [List.replicate_succ, List.replicate_succ, List.flatten_cons, List.flatten_cons]
    exact h.append (Reps.rep h n)
theorem rs_repL : RSnd K rRep dRepL := fun F S H W d e x y P R cb rd re hp k => by
  unfold dRepL at hp
  split at hp
  · rename_i i j
    obtain ⟨a, xs, rfl, h1, h2⟩ := Rep.lst_iff.mp rd
    rw [Rep.v_iff] at re
    exact ⟨a, j, xs, rfl, re, h1.1, hp.1, hp.2.1, by rw [h2.length]; exact hp.2.2.1, fun p hn => k _ _ _ (same_new hn) (rep_newL cb hn (h2.rep _)) hp.2.2.2⟩
  · exact hp.elim
theorem rs_mul : RSnd K (fun x y H Q => rI CMulX (fun i j => .int (i * j)) x y H Q ∨ rRep x y H Q) dMul := rs_imp (rs_or rs_I rs_repL) fun d e Q h => by
  unfold dMul at h
  split at h
  · exact .inl h
  · exact .inr h
  · exact h.elim
theorem op_mulA {X : Cx} : OpR X (binaryOp .Mult) (fun x y H Q => rI CMulX (fun i j => .int (i * j)) x y H Q ∨ rRep x y H Q) := op_mulX.or op_rep
/-! ### subscripts -/
def dIx : D → D → (D → Prop) → Prop := fun d e Q => match d, e with
  | .lst ds, .v (.int i) => ∃ z, atI ds i = some z ∧ Q z
  | .tup ds, .v (.int i) => ∃ z, atI ds i = some z ∧ Q z
  | .v (.str s), .v (.int i) => s.length ≤ sizeLine ∧ ∃ c, atI s.cps.toList i = some c ∧ Q (.str ⟨#[c]⟩)
  | .scr ns, .v (.int i) => ∃ z, atI ns i = some z ∧ Q (.int z)
  | _, _ => False
theorem reps_at {S : Reg} {H : Hp} {ds : List D} {vs : List V} {i : Int} {z : D} (r : Reps K S H ds vs) (h : atI ds i = some z) : ∃ v, atI vs i = some v ∧ Rep K S H z v := by
  unfold atI at h ⊢
  rw [r.length]
  cases e : ixN ds.length i with
  | none => rw [e] at h; cases h
  | some j =>
    rw [e] at h
    obtain ⟨v, h1, h2⟩ := r.get (i := j) h
    exact ⟨v, h1, h2⟩
theorem rs_ix : RSnd K (rIx K) dIx := fun F S H W d e x y P R cb rd re hp k => by
  unfold dIx at hp
  split at hp
  · rename_i ds i
    obtain ⟨z, hz, hp⟩ := hp
    obtain ⟨a, xs, rfl, h1, h2⟩ := Rep.lst_iff.mp rd
    rw [Rep.v_iff] at re
    obtain ⟨v, h3, h4⟩ := reps_at h2 hz
    exact .inl ⟨a, xs, i, v, rfl, re, h1.sq, h3, k _ _ H (Same.refl H) h4 hp⟩
  · rename_i ds i
    obtain ⟨z, hz, hp⟩ := hp
    obtain ⟨a, xs, rfl, h1, h2⟩ := Rep.tup_iff.mp rd
    rw [Rep.v_iff] at re
    obtain ⟨v, h3, h4⟩ := reps_at h2 hz
    exact .inr (.inl ⟨a, xs, i, v, rfl, re, h1.sq, h3, k _ _ H (Same.refl H) h4 hp⟩)
  · rename_i s i
    obtain ⟨hl, c, hc, hp⟩ := hp
    rw [Rep.v_iff] at rd re
    exact .inr (.inr ⟨s, i, c, rd, re, hl, hc, k _ _ H (Same.refl H) (Rep.v_iff.mpr rfl) hp⟩)
  · rename_i ns i
    obtain ⟨z, hz, hp⟩ := hp
    obtain ⟨a, rfl, h1⟩ := Rep.scr_iff.mp rd
    rw [Rep.v_iff] at re
    refine .inl ⟨a, _, i, .int z, rfl, re, h1.sq, ?_, k _ _ H (Same.refl H) (Rep.v_iff.mpr rfl) hp⟩
    unfold atI at hz ⊢
    rw [List.length_map]
    cases e : ixN ns.length i with
    | none => rw [e] at hz; cases hz
    | some j =>
      rw [e] at hz
      show (ns.map V.int)[j]? = _
      have hz' : ns[j]? = some z := hz
      rw [List.getElem?_map, hz']; rfl
  · exact hp.elim
/-! ### slices -/
def cutD (ds : List D) (lo hi : Option Int) : List D := (ds.drop (HT.sIx ds.length 0 lo)).take (HT.sIx ds.length ds.length hi - HT.sIx ds.length 0 lo)
def dCut : D → Option Int → Option Int → (D → Prop) → Prop := fun d lo hi Q => match d with
  | .lst ds => Q (.lst (cutD ds lo hi))
  | .tup ds => Q (.tup (cutD ds lo hi))
  | .v (.str s) => s.length ≤ sizeLine ∧ Q (.str (cutS s lo hi))
  | .scr ns => Q (.lst ((ns.drop (HT.sIx ns.length 0 lo)).take (HT.sIx ns.length ns.length hi - HT.sIx ns.length 0 lo) |>.map D.int))
  | _ => False
def rSlAny (K : PySem.W.Frag) : V → Option Int → Option Int → Hp → VK → Prop := fun x lo hi H Q => rSlL K x lo hi H Q ∨ (rSlA K x lo hi H Q ∨ rSlS x lo hi H Q)
theorem sl_any {X : Cx} : SlR X (rSlAny X.K) := sl_list.or (sl_tupA.or sl_str)
theorem reps_cut {S : Reg} {H : Hp} {ds : List D} {vs : List V} (r : Reps K S H ds vs) (lo hi : Option Int) : Reps K S H (cutD ds lo hi) (cutV vs lo hi) := by
  unfold cutD cutV
  rw [r.length]
  exact (r.drop _).take _
theorem ss_cut : SlSnd K (rSlAny K) dCut := fun F S H W d x lo hi P R cb rd hp k => by
  unfold dCut at hp
  split at hp
  · rename_i ds
    obtain ⟨a, xs, rfl, h1, h2⟩ := Rep.lst_iff.mp rd
    exact .inl ⟨a, xs, rfl, h1.sq, fun p hn => k _ _ _ (same_new hn) (rep_newL cb hn (reps_cut h2 lo hi)) hp⟩
  · rename_i ds
    obtain ⟨a, xs, rfl, h1, h2⟩ := Rep.tup_iff.mp rd
    refine .inr (.inl ⟨a, xs, rfl, h1.sq, fun hw => k _ _ H (Same.refl H) ?_ hp, fun _ p hn => k _ _ _ (same_new hn) (rep_newT cb hn (reps_cut h2 lo hi)) hp⟩)
    have : cutD ds lo hi = ds := by
      unfold cutD
      rw [h2.length] at hw
      rw [hw.1, hw.2, List.drop_zero, Nat.sub_zero, List.take_length]
    rw [this]; exact rd
  · rename_i s
    rw [Rep.v_iff] at rd
    exact .inr (.inr ⟨s, rd, hp.1, k _ _ H (Same.refl H) (Rep.v_iff.mpr rfl) hp.2⟩)
  · rename_i ns
    obtain ⟨a, rfl, h1⟩ := Rep.scr_iff.mp rd
    refine .inl ⟨a, _, rfl, h1.sq, fun p hn => k _ _ _ (same_new hn) ?_ hp⟩
    have e : cutV (ns.map V.int) lo hi = ((ns.drop (HT.sIx ns.length 0 lo)).take (HT.sIx ns.length ns.length hi - HT.sIx ns.length 0 lo)).map V.int := by
      unfold cutV
      rw [List.length_map, ← List.map_drop, ← List.map_take]
    rw [e]
    refine rep_newL cb hn ?_
    have := Reps.map_v (K := K) (S := S) (H := H) (((ns.drop (HT.sIx ns.length 0 lo)).take (HT.sIx ns.length ns.length hi - HT.sIx ns.length 0 lo)).map V.int)
    rw [List.map_map] at this
    exact this
  · exact hp.elim
end
end G

namespace G
open PySem PySem.Spec L2
/-! ### a text again and again -/
def repS (s : Str) (n : Int) : Str := ⟨(List.replicate n.toNat s.cps.toList).flatten.toArray⟩
theorem foldl_app (a : Array Nat) : ∀ (k : Nat) (acc : Array Nat), (List.replicate k a).foldl (· ++ ·) acc = acc ++ (List.replicate k a.toList).flatten.toArray
  | 0, acc => by simp
  | k + 1, acc => by
    rw [List.replicate_succ, List.foldl_cons, foldl_app a k, List.replicate_succ, List.flatten_cons]
    apply Array.ext'
    simp
def rRepS : R2 := fun x y H Q => ∃ s n, x = .str s ∧ y = .int n ∧ -(2 ^ 63) ≤ n ∧ n < 2 ^ 63 ∧ s.length * n.toNat ≤ sizeLine ∧ Q (.str (repS s n)) H
theorem op_repS {X : Cx} : OpR X (binaryOp .Mult) rRepS := by
  intro pins s σ H x y v u Q I rx ry h
  obtain ⟨a, n, rfl, rfl, h1, h2, h3, q⟩ := h
  obtain ⟨t, rfl⟩ := rx
  obtain ⟨t', rfl⟩ := ry
  have hr : (decide (n < -(2 ^ 63 : Int)) || decide (n ≥ 2 ^ 63)) = false := by
    rw [decide_eq_false (by omega), decide_eq_false (by omega)]; rfl
  have done : ∀ (z : Str) (tk : Tok) (k : Nat), z = repS a n → EP X pins σ Q (.str z tk) { s with toks := k } := fun z tk k e => by
    subst e
    exact ⟨.str _, H, I.tok _, ⟨_, rfl⟩, q⟩
  have hl : ¬ n < 1 → (n == 1 || a.length == 0) = false → Builtin.Str.tooLong (a.length * n.toNat) = false := fun _ _ => by
    unfold Builtin.Str.tooLong
    exact decide_eq_false (by omega)
  refine PySem.P.mul_str hr (fun h4 h5 => ?_) hl ?_
  · have hs : (sizeLine : Nat) = 16777216 := sizeLine_eq
    have hb : (a.length : Int) * n ≤ 16777216 := by
      have : ((a.length * n.toNat : Nat) : Int) ≤ 16777216 := by omega
      rw [Int.natCast_mul, Int.toNat_of_nonneg (by omega)] at this
      exact this
    intro h6
    have h7 : (2 ^ 63 - 1) / n < (a.length : Int) := h6
    have h8 : (2 ^ 63 - 1 : Int) < a.length * n := (Int.ediv_lt_iff_lt_mul (by omega)).mp h7
    omega
  · split
    · rename_i h4
      refine ⟨by decide, done _ _ _ ?_⟩
      unfold repS
      have : n.toNat = 0 := by omega
      rw [this]; rfl
    · rename_i h4
      split
      · rename_i h5
        show EP X pins σ Q (.str a t) s
        refine ⟨.str a, H, I, ⟨t, rfl⟩, ?_⟩
        have : repS a n = a := by
          unfold repS
          rw [Bool.or_eq_true] at h5
          rcases h5 with h5 | h5
          · have e : n = 1 := by simpa using h5
            subst e
            simp
          · have e : a.cps.toList = [] := by
              have : a.length = 0 := by simpa using h5
              unfold Str.length at this
              exact List.eq_nil_of_length_eq_zero (by simpa using this)
            rw [e]
            have : (List.replicate n.toNat ([] : List Nat)).flatten = [] := by simp
            rw [this]
            cases a with
            | mk c => simp at e; simp [e]
        rw [this] at q
        exact q
      · refine ⟨?_, done _ _ _ ?_⟩
        · show (List.foldl (· ++ ·) #[] (List.replicate n.toNat a.cps)).size ≤ sizeLine
          rw [foldl_app]
          have e : (#[] ++ (List.replicate n.toNat a.cps.toList).flatten.toArray).size = n.toNat * a.length := by
            simp [List.length_flatten, Str.length]
          rw [e, Nat.mul_comm]
          exact h3
        · unfold repS
          rw [foldl_app]; simp
section
variable {K : PySem.W.Frag}
def dRepS : D → D → (D → Prop) → Prop := fun d e Q => match d, e with
  | .v (.str s), .v (.int n) => -(2 ^ 63) ≤ n ∧ n < 2 ^ 63 ∧ s.length * n.toNat ≤ sizeLine ∧ Q (.str (repS s n))
  | _, _ => False
theorem rs_repS : RSnd K rRepS dRepS := fun F S H W d e x y P R cb rd re hp k => by
  unfold dRepS at hp
  split at hp
  · rename_i i j
    rw [Rep.v_iff] at rd re
    exact ⟨i, j, rd, re, hp.1, hp.2.1, hp.2.2.1, k _ _ H (Same.refl H) (Rep.v_iff.mpr rfl) hp.2.2.2⟩
  · exact hp.elim
/-! ### calls -/
theorem cs_imp {r : List V → Hp → VK → Prop} {g g' : List D → (D → Prop) → Prop} (h : CSnd K r g) (hg : ∀ ds Q, g' ds Q → g ds Q) : CSnd K r g' := fun F S H W ds xs P R cb rd hp k => h F S H W ds xs P R cb rd (hg ds P hp) k
/-- one value in -/
theorem reps1 {S : Reg} {H : Hp} {d : D} {xs : List V} (r : Reps K S H [d] xs) : ∃ x, xs = [x] ∧ Rep K S H d x := by
  obtain ⟨x, r', rfl, h1, h2⟩ := Reps.cons_iff.mp r
  rw [Reps.nil_iff.mp h2]
  exact ⟨x, rfl, h1⟩
theorem reps2 {S : Reg} {H : Hp} {d e : D} {xs : List V} (r : Reps K S H [d, e] xs) : ∃ x y, xs = [x, y] ∧ Rep K S H d x ∧ Rep K S H e y := by
  obtain ⟨x, r', rfl, h1, h2⟩ := Reps.cons_iff.mp r
  obtain ⟨y, rfl, h3⟩ := reps1 h2
  exact ⟨x, y, rfl, h1, h3⟩
def dLen : List D → (D → Prop) → Prop := fun ds Q => match ds with
  | [.v (.str s)] => s.length ≤ sizeLine ∧ Q (.int s.length)
  | [.lst xs] => Q (.int xs.length)
  | [.tup xs] => Q (.int xs.length)
  | [.scr xs] => Q (.int xs.length)
  | _ => False
theorem cs_len : CSnd K (fun xs H Q => ∃ x n, xs = [x] ∧ LenV K x H n ∧ Q (.int (n : Nat)) H) dLen := fun F S H W ds xs P R cb rd hp k => by
  unfold dLen at hp
  split at hp
  · obtain ⟨x, rfl, h⟩ := reps1 rd
    cases Rep.v_iff.mp h
    exact ⟨_, _, rfl, ⟨hp.1, rfl⟩, k _ _ H (Same.refl H) (Rep.v_iff.mpr rfl) hp.2⟩
  · obtain ⟨x, rfl, h⟩ := reps1 rd
    obtain ⟨a, ys, rfl, h1, h2⟩ := Rep.lst_iff.mp h
    exact ⟨_, _, rfl, .inl ⟨ys, h1.sq, rfl⟩, k _ _ H (Same.refl H) (Rep.v_iff.mpr (by rw [h2.length])) hp⟩
  · obtain ⟨x, rfl, h⟩ := reps1 rd
    obtain ⟨a, ys, rfl, h1, h2⟩ := Rep.tup_iff.mp h
    exact ⟨_, _, rfl, .inr ⟨ys, h1.sq, rfl⟩, k _ _ H (Same.refl H) (Rep.v_iff.mpr (by rw [h2.length])) hp⟩
  · obtain ⟨x, rfl, h⟩ := reps1 rd
    obtain ⟨a, rfl, h1⟩ := Rep.scr_iff.mp h
    exact ⟨_, _, rfl, .inl ⟨_, h1.sq, rfl⟩, k _ _ H (Same.refl H) (Rep.v_iff.mpr (by simp)) hp⟩
  · exact hp.elim
/-- two ints in -/
def dC2 (g : Int → Int → Int) : List D → (D → Prop) → Prop := fun ds Q => match ds with
  | [.v (.int i), .v (.int j)] => Q (.int (g i j))
  | _ => False
theorem cs_2 {g : Int → Int → Int} : CSnd K (fun xs H Q => ∃ i j, xs = [.int i, .int j] ∧ Q (.int (g i j)) H) (dC2 g) := fun F S H W ds xs P R cb rd hp k => by
  unfold dC2 at hp
  split at hp
  · obtain ⟨x, y, rfl, h1, h2⟩ := reps2 rd
    cases Rep.v_iff.mp h1
    cases Rep.v_iff.mp h2
    exact ⟨_, _, rfl, k _ _ H (Same.refl H) (Rep.v_iff.mpr rfl) hp⟩
  · exact hp.elim
def dAbs : List D → (D → Prop) → Prop := fun ds Q => match ds with
  | [.v (.int i)] => Q (.int (if i < 0 then -i else i))
  | _ => False
theorem cs_abs : CSnd K (fun xs H Q => ∃ i, xs = [.int i] ∧ Q (.int (if i < 0 then -i else i)) H) dAbs := fun F S H W ds xs P R cb rd hp k => by
  unfold dAbs at hp
  split at hp
  · obtain ⟨x, rfl, h⟩ := reps1 rd
    cases Rep.v_iff.mp h
    exact ⟨_, rfl, k _ _ H (Same.refl H) (Rep.v_iff.mpr rfl) hp⟩
  · exact hp.elim
def dIntC : List D → (D → Prop) → Prop := fun ds Q => match ds with
  | [.v (.int i)] => Q (.int i)
  | [.v (.bl b)] => Q (.int (if b then 1 else 0))
  | [.v (.str s)] => s.length ≤ 640 ∧ ∃ n, PySem.intText? s = some n ∧ Q (.int n)
  | _ => False
theorem cs_int : CSnd K (fun xs H Q => ((∃ i, xs = [.int i] ∧ Q (.int i) H) ∨ ∃ k, xs = [.bl k] ∧ Q (.int (if k then 1 else 0)) H) ∨ ∃ a n, xs = [.str a] ∧ PySem.intText? a = some n ∧ a.length ≤ 640 ∧ Q (.int n) H) dIntC := fun F S H W ds xs P R cb rd hp k => by
  unfold dIntC at hp
  split at hp
  · obtain ⟨x, rfl, h⟩ := reps1 rd
    cases Rep.v_iff.mp h
    exact .inl (.inl ⟨_, rfl, k _ _ H (Same.refl H) (Rep.v_iff.mpr rfl) hp⟩)
  · obtain ⟨x, rfl, h⟩ := reps1 rd
    cases Rep.v_iff.mp h
    exact .inl (.inr ⟨_, rfl, k _ _ H (Same.refl H) (Rep.v_iff.mpr rfl) hp⟩)
  · obtain ⟨x, rfl, h⟩ := reps1 rd
    cases Rep.v_iff.mp h
    obtain ⟨hl, n, hn, hp⟩ := hp
    exact .inr ⟨_, n, rfl, hn, hl, k _ _ H (Same.refl H) (Rep.v_iff.mpr rfl) hp⟩
  · exact hp.elim
theorem call_intA {X : Cx} : CallR X (.type "int") (fun xs H Q => ((∃ i, xs = [.int i] ∧ Q (.int i) H) ∨ ∃ k, xs = [.bl k] ∧ Q (.int (if k then 1 else 0)) H) ∨ ∃ a n, xs = [.str a] ∧ PySem.intText? a = some n ∧ a.length ≤ 640 ∧ Q (.int n) H) := CallR.or call_int1 call_int_str
def dStrC : List D → (D → Prop) → Prop := fun ds Q => match ds with
  | [.v (.int i)] => i.natAbs.log2 < 1920 ∧ Q (.str (toString i))
  | _ => False
theorem cs_str : CSnd K (fun xs H Q => ∃ i, xs = [.int i] ∧ i.natAbs.log2 < 1920 ∧ Q (.str (toString i)) H) dStrC := fun F S H W ds xs P R cb rd hp k => by
  unfold dStrC at hp
  split at hp
  · obtain ⟨x, rfl, h⟩ := reps1 rd
    cases Rep.v_iff.mp h
    exact ⟨_, rfl, hp.1, k _ _ H (Same.refl H) (Rep.v_iff.mpr rfl) hp.2⟩
  · exact hp.elim
/-- all, any of a list of truths -/
def blsOf : List D → Option (List Bool)
  | [] => some []
  | .v (.bl b) :: r => (blsOf r).map (b :: ·)
  | _ => none
theorem reps_bls {S : Reg} {H : Hp} : ∀ {ds : List D} {bs : List Bool} {vs : List V}, blsOf ds = some bs → Reps K S H ds vs → vs = bs.map V.bl
  | [], bs, vs, h, r => by
    cases h
    exact Reps.nil_iff.mp r
  | .v (.bl b) :: ds, bs, vs, h, r => by
    unfold blsOf at h
    obtain ⟨x, r', rfl, h1, h2⟩ := Reps.cons_iff.mp r
    cases hb : blsOf ds with
    | none => rw [hb] at h; cases h
    | some bs' =>
      rw [hb] at h; cases h
      cases Rep.v_iff.mp h1
      rw [reps_bls hb h2]; rfl
  | .v .non :: _, _, _, h, _ => by simp [blsOf] at h
  | .v (.int _) :: _, _, _, h, _ => by simp [blsOf] at h
  | .v (.str _) :: _, _, _, h, _ => by simp [blsOf] at h
  | .v (.byt _) :: _, _, _, h, _ => by simp [blsOf] at h
  | .v (.flt _) :: _, _, _, h, _ => by simp [blsOf] at h
  | .v (.ref _) :: _, _, _, h, _ => by simp [blsOf] at h
  | .v (.ty _) :: _, _, _, h, _ => by simp [blsOf] at h
  | .tup _ :: _, _, _, h, _ => by simp [blsOf] at h
  | .lst _ :: _, _, _, h, _ => by simp [blsOf] at h
  | .scr _ :: _, _, _, h, _ => by simp [blsOf] at h
theorem blsOf_map (bs : List Bool) : blsOf (bs.map D.bl) = some bs := by
  induction bs with
  | nil => rfl
  | cons b r ih => simp [blsOf, ih]
def dAll : List D → (D → Prop) → Prop := fun ds Q => match ds with
  | [.lst xs] => ∃ bs, blsOf xs = some bs ∧ Q (.bl (bs.all id))
  | _ => False
def dAny : List D → (D → Prop) → Prop := fun ds Q => match ds with
  | [.lst xs] => ∃ bs, blsOf xs = some bs ∧ Q (.bl (bs.any id))
  | _ => False
theorem cs_all : CSnd K (rAll K) dAll := fun F S H W ds xs P R cb rd hp k => by
  unfold dAll at hp
  split at hp
  · obtain ⟨x, rfl, h⟩ := reps1 rd
    obtain ⟨a, ys, rfl, h1, h2⟩ := Rep.lst_iff.mp h
    obtain ⟨bs, hb, hp⟩ := hp
    rw [reps_bls hb h2] at h1
    exact ⟨a, bs, rfl, h1.sq, k _ _ H (Same.refl H) (Rep.v_iff.mpr rfl) hp⟩
  · exact hp.elim
theorem cs_any : CSnd K (rAny K) dAny := fun F S H W ds xs P R cb rd hp k => by
  unfold dAny at hp
  split at hp
  · obtain ⟨x, rfl, h⟩ := reps1 rd
    obtain ⟨a, ys, rfl, h1, h2⟩ := Rep.lst_iff.mp h
    obtain ⟨bs, hb, hp⟩ := hp
    rw [reps_bls hb h2] at h1
    exact ⟨a, bs, rfl, h1.sq, k _ _ H (Same.refl H) (Rep.v_iff.mpr rfl) hp⟩
  · exact hp.elim
/-- ints of a list -/
def intsOf : List D → Option (List Int)
  | [] => some []
  | .v (.int b) :: r => (intsOf r).map (b :: ·)
  | _ => none
theorem reps_ints {S : Reg} {H : Hp} : ∀ {ds : List D} {bs : List Int} {vs : List V}, intsOf ds = some bs → Reps K S H ds vs → vs = bs.map V.int
  | [], bs, vs, h, r => by
    cases h
    exact Reps.nil_iff.mp r
  | .v (.int b) :: ds, bs, vs, h, r => by
    unfold intsOf at h
    obtain ⟨x, r', rfl, h1, h2⟩ := Reps.cons_iff.mp r
    cases hb : intsOf ds with
    | none => rw [hb] at h; cases h
    | some bs' =>
      rw [hb] at h; cases h
      cases Rep.v_iff.mp h1
      rw [reps_ints hb h2]; rfl
  | .v .non :: _, _, _, h, _ => by simp [intsOf] at h
  | .v (.bl _) :: _, _, _, h, _ => by simp [intsOf] at h
  | .v (.str _) :: _, _, _, h, _ => by simp [intsOf] at h
  | .v (.byt _) :: _, _, _, h, _ => by simp [intsOf] at h
  | .v (.flt _) :: _, _, _, h, _ => by simp [intsOf] at h
  | .v (.ref _) :: _, _, _, h, _ => by simp [intsOf] at h
  | .v (.ty _) :: _, _, _, h, _ => by simp [intsOf] at h
  | .tup _ :: _, _, _, h, _ => by simp [intsOf] at h
  | .lst _ :: _, _, _, h, _ => by simp [intsOf] at h
  | .scr _ :: _, _, _, h, _ => by simp [intsOf] at h
theorem intsOf_map (bs : List Int) : intsOf (bs.map D.int) = some bs := by
  induction bs with
  | nil => rfl
  | cons b r ih => simp [intsOf, ih]
def dMin1 : List D → (D → Prop) → Prop := fun ds Q => match ds with
  | [.lst xs] => ∃ ns, intsOf xs = some ns ∧ 0 < ns.length ∧ ∀ m, m ∈ ns → (∀ y, y ∈ ns → m ≤ y) → Q (.int m)
  | _ => False
def dMax1 : List D → (D → Prop) → Prop := fun ds Q => match ds with
  | [.lst xs] => ∃ ns, intsOf xs = some ns ∧ 0 < ns.length ∧ ∀ m, m ∈ ns → (∀ y, y ∈ ns → y ≤ m) → Q (.int m)
  | _ => False
theorem cs_min1 : CSnd K (rMin K) dMin1 := fun F S H W ds xs P R cb rd hp k => by
  unfold dMin1 at hp
  split at hp
  · obtain ⟨x, rfl, h⟩ := reps1 rd
    obtain ⟨a, ys, rfl, h1, h2⟩ := Rep.lst_iff.mp h
    obtain ⟨bs, hb, hl, hp⟩ := hp
    rw [reps_ints hb h2] at h1
    exact ⟨a, bs, rfl, h1.sq, hl, fun m m1 m2 => k _ _ H (Same.refl H) (Rep.v_iff.mpr rfl) (hp m m1 m2)⟩
  · exact hp.elim
theorem cs_max1 : CSnd K (rMax K) dMax1 := fun F S H W ds xs P R cb rd hp k => by
  unfold dMax1 at hp
  split at hp
  · obtain ⟨x, rfl, h⟩ := reps1 rd
    obtain ⟨a, ys, rfl, h1, h2⟩ := Rep.lst_iff.mp h
    obtain ⟨bs, hb, hl, hp⟩ := hp
    rw [reps_ints hb h2] at h1
    exact ⟨a, bs, rfl, h1.sq, hl, fun m m1 m2 => k _ _ H (Same.refl H) (Rep.v_iff.mpr rfl) (hp m m1 m2)⟩
  · exact hp.elim
/-- tuple(xs), list(xs) -/
def dTupC : List D → (D → Prop) → Prop := fun ds Q => match ds with
  | [.lst xs] => Q (.tup xs)
  | [.tup xs] => Q (.tup xs)
  | _ => False
theorem cs_tup : CSnd K (fun xs H Q => ∃ p ys, xs = [.ref p] ∧ ((SqL K H p ys ∧ ∀ l, H l = none → Q (.ref l) (upd H l (.tup ys))) ∨ (SqT K H p ys ∧ Q (.ref p) H))) dTupC := fun F S H W ds xs P R cb rd hp k => by
  unfold dTupC at hp
  split at hp
  · obtain ⟨x, rfl, h⟩ := reps1 rd
    obtain ⟨a, ys, rfl, h1, h2⟩ := Rep.lst_iff.mp h
    exact ⟨a, ys, rfl, .inl ⟨h1.sq, fun p hn => k _ _ _ (same_new hn) (rep_newT cb hn h2) hp⟩⟩
  · obtain ⟨x, rfl, h⟩ := reps1 rd
    obtain ⟨a, ys, rfl, h1, h2⟩ := Rep.tup_iff.mp h
    exact ⟨a, ys, rfl, .inr ⟨h1.sq, k _ _ H (Same.refl H) h hp⟩⟩
  · exact hp.elim
def dListC : List D → (D → Prop) → Prop := fun ds Q => match ds with
  | [.lst xs] => Q (.lst xs)
  | [.tup xs] => Q (.lst xs)
  | [.scr ns] => Q (.lst (ns.map D.int))
  | _ => False
theorem cs_list : CSnd K (fun xs H Q => ∃ p ys, xs = [.ref p] ∧ (SqL K H p ys ∨ SqT K H p ys) ∧ ∀ l, H l = none → Q (.ref l) (upd H l (.lst ys))) dListC := fun F S H W ds xs P R cb rd hp k => by
  unfold dListC at hp
  split at hp
  · obtain ⟨x, rfl, h⟩ := reps1 rd
    obtain ⟨a, ys, rfl, h1, h2⟩ := Rep.lst_iff.mp h
    exact ⟨a, ys, rfl, .inl h1.sq, fun p hn => k _ _ _ (same_new hn) (rep_newL cb hn h2) hp⟩
  · obtain ⟨x, rfl, h⟩ := reps1 rd
    obtain ⟨a, ys, rfl, h1, h2⟩ := Rep.tup_iff.mp h
    exact ⟨a, ys, rfl, .inr h1.sq, fun p hn => k _ _ _ (same_new hn) (rep_newL cb hn h2) hp⟩
  · rename_i ns
    obtain ⟨x, rfl, h⟩ := reps1 rd
    obtain ⟨a, rfl, h1⟩ := Rep.scr_iff.mp h
    refine ⟨a, _, rfl, .inl h1.sq, fun p hn => k _ _ _ (same_new hn) (rep_newL cb hn ?_) hp⟩
    have := Reps.map_v (K := K) (S := S) (H := H) (ns.map V.int)
    rw [List.map_map] at this
    exact this
  · exact hp.elim
/-! ### isinstance -/
def tyD : D → Option String
  | .v .non => some "NoneType"
  | .v (.bl _) => some "bool"
  | .v (.int _) => some "int"
  | .v (.str _) => some "str"
  | .v _ => none
  | .tup _ => some "tuple"
  | .lst _ => some "list"
  | .scr _ => none
theorem tyx_of {S : Reg} {H : Hp} {d : D} {x : V} {t : String} (h : Rep K S H d x) (e : tyD d = some t) : TyX K H x (.type t) := by
  cases d with
  | v y =>
    have hx := Rep.v_iff.mp h
    subst hx
    cases x <;> simp only [tyD, Option.some.injEq] at e <;> first | (subst e; exact .base (by constructor)) | cases e
  | tup ds =>
    obtain ⟨a, xs, rfl, h1, _⟩ := Rep.tup_iff.mp h
    simp only [tyD, Option.some.injEq] at e
    subst e
    rcases h1 with ⟨h1, _⟩ | h1
    · exact .base (.tup h1)
    · rcases h1 with (h1 | ⟨_, h1⟩) | ⟨o, its, n, h1, h2, _⟩
      · cases h1
      · cases h1
      · exact .kTuple h1 h2
  | lst ds =>
    obtain ⟨a, xs, rfl, h1, _⟩ := Rep.lst_iff.mp h
    simp only [tyD, Option.some.injEq] at e
    subst e
    exact .base (.lst h1.1)
  | scr ns => simp [tyD] at e
def dIsi : List D → (D → Prop) → Prop := fun ds Q => match ds with
  | [d, .v (.ty c)] => ∃ t b, tyD d = some t ∧ kitB t c = some b ∧ Q (.bl b)
  | _ => False
theorem cs_isi : CSnd K (rIsi K) dIsi := fun F S H W ds xs P R cb rd hp k => by
  unfold dIsi at hp
  split at hp
  · rename_i d c
    obtain ⟨x, y, rfl, h1, h2⟩ := reps2 rd
    cases Rep.v_iff.mp h2
    obtain ⟨t, b, e1, e2, hp⟩ := hp
    exact ⟨x, _, _, _, b, rfl, .ty c, tyx_of h1 e1, kit_ty e2, k _ _ H (Same.refl H) (Rep.v_iff.mpr rfl) hp⟩
  · exact hp.elim
theorem kitAny_tys (t : String) : ∀ (cs : List String) (bs : List Bool), cs.map (kitB t) = bs.map some → PySem.W.kitAny K (.type t) (cs.map Value.type) = some (bs.any id)
  | [], [], _ => kitAny_nil
  | c :: cs, b :: bs, h => by
    rw [List.map_cons, List.map_cons, List.cons.injEq] at h
    have ih := kitAny_tys t cs bs h.2
    rw [List.map_cons]
    refine kitAny_cons (b := b) (kit_ty h.1) (fun e => ?_) (fun e => ?_)
    · rw [ih, e]; simp
    · rw [e]; simp
/-- isinstance(x, (T1, T2)) -/
def tysOf : List D → Option (List String)
  | [] => some []
  | .v (.ty b) :: r => (tysOf r).map (b :: ·)
  | _ => none
def dIsiT : List D → (D → Prop) → Prop := fun ds Q => match ds with
  | [d, .tup cs] => ∃ (t : String) (ts : List String) (bs : List Bool), tyD d = some t ∧ tysOf cs = some ts ∧ ts.map (kitB t) = bs.map some ∧ Q (.bl (bs.any id))
  | _ => False
theorem reps_tys {S : Reg} {H : Hp} : ∀ {ds : List D} {bs : List String} {vs : List V}, tysOf ds = some bs → Reps K S H ds vs → vs = bs.map V.ty
  | [], bs, vs, h, r => by
    cases h
    exact Reps.nil_iff.mp r
  | .v (.ty b) :: ds, bs, vs, h, r => by
    unfold tysOf at h
    obtain ⟨x, r', rfl, h1, h2⟩ := Reps.cons_iff.mp r
    cases hb : tysOf ds with
    | none => rw [hb] at h; cases h
    | some bs' =>
      rw [hb] at h; cases h
      cases Rep.v_iff.mp h1
      rw [reps_tys hb h2]; rfl
  | .v .non :: _, _, _, h, _ => by simp [tysOf] at h
  | .v (.bl _) :: _, _, _, h, _ => by simp [tysOf] at h
  | .v (.str _) :: _, _, _, h, _ => by simp [tysOf] at h
  | .v (.byt _) :: _, _, _, h, _ => by simp [tysOf] at h
  | .v (.flt _) :: _, _, _, h, _ => by simp [tysOf] at h
  | .v (.ref _) :: _, _, _, h, _ => by simp [tysOf] at h
  | .v (.int _) :: _, _, _, h, _ => by simp [tysOf] at h
  | .tup _ :: _, _, _, h, _ => by simp [tysOf] at h
  | .lst _ :: _, _, _, h, _ => by simp [tysOf] at h
  | .scr _ :: _, _, _, h, _ => by simp [tysOf] at h
theorem clsv_map : ∀ ts : List String, Paired ClsV (ts.map V.ty) (ts.map Value.type)
  | [] => .nil
  | t :: ts => .cons (.ty t) (clsv_map ts)
theorem cs_isiT : CSnd K (fun xs H Q => rIsiT K xs H Q ∨ rIsiK K xs H Q) dIsiT := fun F S H W ds xs P R cb rd hp k => by
  unfold dIsiT at hp
  split at hp
  · rename_i d cs
    obtain ⟨x, y, rfl, h1, h2⟩ := reps2 rd
    obtain ⟨t, ts, bs, e1, e2, e3, hp⟩ := hp
    obtain ⟨a, ys, rfl, h3, h4⟩ := Rep.tup_iff.mp h2
    rw [reps_tys e2 h4] at h3
    have fin := k _ _ H (Same.refl H) (Rep.v_iff.mpr rfl) hp
    rcases h3 with ⟨h3, _⟩ | h3
    · exact .inl ⟨x, a, _, _, ts.map Value.type, _, rfl, h3, clsv_map ts, tyx_of h1 e1, kitAny_tys t ts bs e3, fin⟩
    · rcases h3 with (h3 | ⟨_, h3⟩) | ⟨o, its, n, q1, q2, q3, q4, q5⟩
      · cases h3
      · cases h3
      · obtain ⟨oc, od, odt, osl⟩ := o
        cases q2
        cases q3
        have e : its.toList = ts.map Value.type := ClsV.all (clsv_map ts) q5
        have e' : its = (ts.map Value.type).toArray := by rw [← e]
        subst e'
        exact .inr ⟨x, a, _, ts.map Value.type, n, _, _, _, rfl, q1, tyx_of h1 e1, kitAny_tys t ts bs e3, fin⟩
  · exact hp.elim
theorem call_isiA {X : Cx} : CallR X (.builtin "isinstance") (fun xs H Q => rIsiT X.K xs H Q ∨ rIsiK X.K xs H Q) := CallR.or call_isiT call_isiK
/-! ### methods of texts -/
/-- one text in -/
def dM1 (g : Str → Str → V) : D → List D → (D → Prop) → Prop := fun d ds Q => match d, ds with
  | .v (.str a), [.v (.str b)] => Q (.v (g a b))
  | _, _ => False
theorem ms_1 {g : Str → Str → V} : MSnd K (fun x xs H Q => ∃ a b, x = .str a ∧ xs = [.str b] ∧ Q (g a b) H) (dM1 g) := fun F S H W d ds x xs P R cb rd re hp k => by
  unfold dM1 at hp
  split at hp
  · obtain ⟨y, rfl, h⟩ := reps1 re
    cases Rep.v_iff.mp h
    cases Rep.v_iff.mp rd
    exact ⟨_, _, rfl, rfl, k _ _ H (Same.refl H) (Rep.v_iff.mpr rfl) hp⟩
  · exact hp.elim
/-- an int in -/
def dMI (C : Str → Int → Prop) (g : Str → Int → V) : D → List D → (D → Prop) → Prop := fun d ds Q => match d, ds with
  | .v (.str a), [.v (.int b)] => C a b ∧ Q (.v (g a b))
  | _, _ => False
theorem ms_I {C : Str → Int → Prop} {g : Str → Int → V} : MSnd K (fun x xs H Q => ∃ (a : Str) (i : Int), x = .str a ∧ xs = [.int i] ∧ C a i ∧ Q (g a i) H) (dMI C g) := fun F S H W d ds x xs P R cb rd re hp k => by
  unfold dMI at hp
  split at hp
  · obtain ⟨y, rfl, h⟩ := reps1 re
    cases Rep.v_iff.mp h
    cases Rep.v_iff.mp rd
    exact ⟨_, _, rfl, rfl, hp.1, k _ _ H (Same.refl H) (Rep.v_iff.mpr rfl) hp.2⟩
  · exact hp.elim
/-- nothing in -/
def dM0 (C : Str → Prop) (g : Str → V) : D → List D → (D → Prop) → Prop := fun d ds Q => match d, ds with
  | .v (.str a), [] => C a ∧ Q (.v (g a))
  | _, _ => False
theorem ms_0 {C : Str → Prop} {g : Str → V} : MSnd K (fun x xs H Q => ∃ (a : Str), x = .str a ∧ xs = [] ∧ C a ∧ Q (g a) H) (dM0 C g) := fun F S H W d ds x xs P R cb rd re hp k => by
  unfold dM0 at hp
  split at hp
  · cases Rep.v_iff.mp rd
    exact ⟨_, rfl, Reps.nil_iff.mp re, hp.1, k _ _ H (Same.refl H) (Rep.v_iff.mpr rfl) hp.2⟩
  · exact hp.elim
/-- s.rjust(n, c) -/
def rRjust : V → List V → Hp → VK → Prop := fun x xs H Q => ∃ (a f : Str) (i : Int), x = .str a ∧ xs = [.int i, .str f] ∧ PySem.PadOk i = true ∧ f.length = 1 ∧ Q (.str (Txt.rjustF a i (f.cps.getD 0 0))) H
theorem mt_rjust2 {X : Cx} : MtR X "str.rjust" rRjust := by
  intro pins s σ H x xs v us Q I rx rs h
  obtain ⟨a, f, i, rfl, rfl, h1, h2, q⟩ := h
  obtain ⟨t, rfl⟩ := rx
  obtain ⟨u1, u2, rfl, r1, r2⟩ := vals2 rs
  obtain ⟨t1, rfl⟩ := r1
  obtain ⟨t2, rfl⟩ := r2
  exact PyProof.Rows.rjust_fill h1 h2 fun t' k => ⟨.str _, H, I.tok _, ⟨_, rfl⟩, q⟩
def dRjust : D → List D → (D → Prop) → Prop := fun d ds Q => match d, ds with
  | .v (.str a), [.v (.int i), .v (.str f)] => PySem.PadOk i = true ∧ f.length = 1 ∧ Q (.str (Txt.rjustF a i (f.cps.getD 0 0)))
  | _, _ => False
theorem ms_rjust : MSnd K rRjust dRjust := fun F S H W d ds x xs P R cb rd re hp k => by
  unfold dRjust at hp
  split at hp
  · obtain ⟨y, z, rfl, h, h'⟩ := reps2 re
    cases Rep.v_iff.mp h
    cases Rep.v_iff.mp h'
    cases Rep.v_iff.mp rd
    exact ⟨_, _, _, rfl, rfl, hp.1, hp.2.1, k _ _ H (Same.refl H) (Rep.v_iff.mpr rfl) hp.2.2⟩
  · exact hp.elim
/-- texts of a list -/
def strsOf : List D → Option (List Str)
  | [] => some []
  | .v (.str b) :: r => (strsOf r).map (b :: ·)
  | _ => none
theorem reps_strs {S : Reg} {H : Hp} : ∀ {ds : List D} {bs : List Str} {vs : List V}, strsOf ds = some bs → Reps K S H ds vs → vs = bs.map V.str
  | [], bs, vs, h, r => by
    cases h
    exact Reps.nil_iff.mp r
  | .v (.str b) :: ds, bs, vs, h, r => by
    unfold strsOf at h
    obtain ⟨x, r', rfl, h1, h2⟩ := Reps.cons_iff.mp r
    cases hb : strsOf ds with
    | none => rw [hb] at h; cases h
    | some bs' =>
      rw [hb] at h; cases h
      cases Rep.v_iff.mp h1
      rw [reps_strs hb h2]; rfl
  | .v .non :: _, _, _, h, _ => by simp [strsOf] at h
  | .v (.bl _) :: _, _, _, h, _ => by simp [strsOf] at h
  | .v (.int _) :: _, _, _, h, _ => by simp [strsOf] at h
  | .v (.byt _) :: _, _, _, h, _ => by simp [strsOf] at h
  | .v (.flt _) :: _, _, _, h, _ => by simp [strsOf] at h
  | .v (.ref _) :: _, _, _, h, _ => by simp [strsOf] at h
  | .v (.ty _) :: _, _, _, h, _ => by simp [strsOf] at h
  | .tup _ :: _, _, _, h, _ => by simp [strsOf] at h
  | .lst _ :: _, _, _, h, _ => by simp [strsOf] at h
  | .scr _ :: _, _, _, h, _ => by simp [strsOf] at h
theorem strsOf_map (bs : List Str) : strsOf (bs.map D.str) = some bs := by
  induction bs with
  | nil => rfl
  | cons b r ih => simp [strsOf, ih]
def rJoin (K : PySem.W.Frag) : V → List V → Hp → VK → Prop := fun x xs H Q => ∃ a p, ∃ ys : List Str, x = .str a ∧ xs = [.ref p] ∧ (SqL K H p (ys.map V.str) ∨ SqT K H p (ys.map V.str)) ∧
  (ys.map (·.length)).sum + ys.length * a.length ≤ 16777216 ∧ Q (.str (Txt.join a ys)) H
theorem mt_joinA {X : Cx} : MtR X "str.join" (rJoin X.K) := mt_join
def dJoin : D → List D → (D → Prop) → Prop := fun d ds Q => match d, ds with
  | .v (.str a), [.lst xs] => ∃ ys, strsOf xs = some ys ∧ (ys.map (·.length)).sum + ys.length * a.length ≤ 16777216 ∧ Q (.str (Txt.join a ys))
  | .v (.str a), [.tup xs] => ∃ ys, strsOf xs = some ys ∧ (ys.map (·.length)).sum + ys.length * a.length ≤ 16777216 ∧ Q (.str (Txt.join a ys))
  | _, _ => False
theorem ms_join : MSnd K (rJoin K) dJoin := fun F S H W d ds x xs P R cb rd re hp k => by
  unfold dJoin at hp
  split at hp
  · obtain ⟨y, rfl, h⟩ := reps1 re
    cases Rep.v_iff.mp rd
    obtain ⟨ys, h1, h2, hp⟩ := hp
    obtain ⟨p, zs, rfl, h3, h4⟩ := Rep.lst_iff.mp h
    rw [reps_strs h1 h4] at h3
    exact ⟨_, p, ys, rfl, rfl, .inl h3.sq, h2, k _ _ H (Same.refl H) (Rep.v_iff.mpr rfl) hp⟩
  · obtain ⟨y, rfl, h⟩ := reps1 re
    cases Rep.v_iff.mp rd
    obtain ⟨ys, h1, h2, hp⟩ := hp
    obtain ⟨p, zs, rfl, h3, h4⟩ := Rep.tup_iff.mp h
    rw [reps_strs h1 h4] at h3
    exact ⟨_, p, ys, rfl, rfl, .inr h3.sq, h2, k _ _ H (Same.refl H) (Rep.v_iff.mpr rfl) hp⟩
  · exact hp.elim
/-! ### in, is -/
def flatOf : List D → Option (List V)
  | [] => some []
  | .v x :: r => (flatOf r).map (x :: ·)
  | _ => none
theorem reps_flat {S : Reg} {H : Hp} : ∀ {ds : List D} {bs : List V} {vs : List V}, flatOf ds = some bs → Reps K S H ds vs → vs = bs
  | [], bs, vs, h, r => by
    cases h
    exact Reps.nil_iff.mp r
  | .v b :: ds, bs, vs, h, r => by
    unfold flatOf at h
    obtain ⟨x, r', rfl, h1, h2⟩ := Reps.cons_iff.mp r
    cases hb : flatOf ds with
    | none => rw [hb] at h; cases h
    | some bs' =>
      rw [hb] at h; cases h
      cases Rep.v_iff.mp h1
      rw [reps_flat hb h2]
  | .tup _ :: _, _, _, h, _ => by simp [flatOf] at h
  | .lst _ :: _, _, _, h, _ => by simp [flatOf] at h
  | .scr _ :: _, _, _, h, _ => by simp [flatOf] at h
def inS (a b : Str) : Bool := !(Builtin.Str.occurrences b a 0 b.length 1).isEmpty
def dIn (neg : Bool) : D → D → (D → Prop) → Prop := fun d e Q => match d, e with
  | .v (.str a), .v (.str b) => Q (.bl (if neg then !inS a b else inS a b))
  | .v x, .lst ys => ∃ vs, flatOf ys = some vs ∧ flatV x = true ∧ vs.all flatV = true ∧ Q (.bl (if neg then !inV x vs else inV x vs))
  | .v x, .tup ys => ∃ vs, flatOf ys = some vs ∧ flatV x = true ∧ vs.all flatV = true ∧ Q (.bl (if neg then !inV x vs else inV x vs))
  | _, _ => False
def rInA (K : PySem.W.Frag) (neg : Bool) : R2 := fun x y H Q => (∃ i j, x = .str i ∧ y = .str j ∧ Q (.bl (if neg then !inS i j else inS i j)) H) ∨ rIn K neg x y H Q
theorem rs_in {neg : Bool} : RSnd K (rInA K neg) (dIn neg) := fun F S H W d e x y P R cb rd re hp k => by
  unfold dIn at hp
  split at hp
  · rw [Rep.v_iff] at rd re
    exact .inl ⟨_, _, rd, re, k _ _ H (Same.refl H) (Rep.v_iff.mpr rfl) hp⟩
  · obtain ⟨vs, h1, h2, h3, hp⟩ := hp
    obtain ⟨p, zs, rfl, h4, h5⟩ := Rep.lst_iff.mp re
    cases Rep.v_iff.mp rd
    rw [reps_flat h1 h5] at h4
    exact .inr ⟨p, vs, rfl, .inl h4.sq, h2, h3, k _ _ H (Same.refl H) (Rep.v_iff.mpr rfl) hp⟩
  · obtain ⟨vs, h1, h2, h3, hp⟩ := hp
    obtain ⟨p, zs, rfl, h4, h5⟩ := Rep.tup_iff.mp re
    cases Rep.v_iff.mp rd
    rw [reps_flat h1 h5] at h4
    exact .inr ⟨p, vs, rfl, .inr h4.sq, h2, h3, k _ _ H (Same.refl H) (Rep.v_iff.mpr rfl) hp⟩
  · exact hp.elim
theorem op_inA {X : Cx} : OpR X (compareOp .In) (rInA X.K false) := OpR.or (r := fun x y H Q => ∃ i j, x = .str i ∧ y = .str j ∧ Q (.bl (inS i j)) H) op_in_str op_in_seq
theorem op_niA {X : Cx} : OpR X (compareOp .NotIn) (rInA X.K true) := OpR.or (r := fun x y H Q => ∃ i j, x = .str i ∧ y = .str j ∧ Q (.bl (!inS i j)) H) op_notin_str op_notIn_seq
def D.isNon : D → Bool
  | .v .non => true
  | _ => false
def dIsN : D → D → (D → Prop) → Prop := fun d e Q => match e with
  | .v .non => Q (.bl d.isNon)
  | _ => False
def dNotN : D → D → (D → Prop) → Prop := fun d e Q => match e with
  | .v .non => Q (.bl (!d.isNon))
  | _ => False
theorem rep_non {S : Reg} {H : Hp} {d : D} {x : V} (r : Rep K S H d x) : decide (x = .non) = d.isNon := by
  cases d with
  | v y =>
    rw [Rep.v_iff.mp r]
    cases y <;> rfl
  | tup ds => obtain ⟨a, xs, rfl, _⟩ := Rep.tup_iff.mp r; rfl
  | lst ds => obtain ⟨a, xs, rfl, _⟩ := Rep.lst_iff.mp r; rfl
  | scr ds => obtain ⟨a, rfl, _⟩ := Rep.scr_iff.mp r; rfl
theorem rs_isN : RSnd K (fun x y H Q => y = .non ∧ Q (.bl (decide (x = .non))) H) dIsN := fun F S H W d e x y P R cb rd re hp k => by
  unfold dIsN at hp
  split at hp
  · refine ⟨Rep.v_iff.mp re, ?_⟩
    rw [rep_non rd]
    exact k _ _ H (Same.refl H) (Rep.v_iff.mpr rfl) hp
  · exact hp.elim
theorem rs_notN : RSnd K (fun x y H Q => y = .non ∧ Q (.bl (!decide (x = .non))) H) dNotN := fun F S H W d e x y P R cb rd re hp k => by
  unfold dNotN at hp
  split at hp
  · refine ⟨Rep.v_iff.mp re, ?_⟩
    rw [rep_non rd]
    exact k _ _ H (Same.refl H) (Rep.v_iff.mpr rfl) hp
  · exact hp.elim
end
end G

namespace G
open PySem PySem.Spec L2

def updW (W : Wd) (p : Addr) (o : MO) : Wd := fun q => if q = p then some o else W q
theorem updW_same {W : Wd} {p : Addr} {o : MO} : updW W p o p = some o := if_pos rfl
theorem updW_ne {W : Wd} {p q : Addr} {o : MO} (h : q ≠ p) : updW W p o q = W q := if_neg h
section
variable {K : PySem.W.Frag} {F S : Reg} {H : Hp} {σ : St} {ρ : Env} {W : Wd}
/-- a changeable object changes -/
theorem Cf.chW (c : Cf K F S H σ ρ W) {p : Addr} {o0 o : MO} {u : HO} (hw : W p = some o0) (ho : ∀ S' H', Stp (fun _ => False) S H S' H' → H' p = some u → MRep K S' H' p o) : Stp F S H S (upd H p u) ∧ Cf K F S (upd H p u) σ ρ (updW W p o) := by
  obtain ⟨sp, nf, _⟩ := c.cb.w p o0 hw
  have st : ∀ F', (∀ a, F' a → a ≠ p) → Stp F' S H S (upd H p u) := fun F' hF => ⟨fun a v h e => by
      have : a ≠ p := fun q => h (q ▸ sp)
      rw [upd_ne this]; exact e, fun a h1 h2 => absurd h1 h2, fun a h => by
      by_cases ha : a = p
      · rw [ha, upd_same] at h; cases h
      · rw [upd_ne ha] at h; exact h, fun a h => upd_ne (hF a h)⟩
  have st1 := st F fun a h z => nf (z ▸ h)
  refine ⟨st1, ⟨fun a h => ?_, c.cb.fs, fun q o' hq => ?_⟩, c.len, fun j d' h => ?_, fun j ds' h => ?_, c.dis⟩
  · intro q; exact c.cb.sd a h (st1.dom a q)
  · by_cases hp : q = p
    · subst hp
      rw [updW_same] at hq
      cases hq
      exact ⟨sp, nf, ho _ _ (st _ fun _ h => h.elim) upd_same⟩
    · rw [updW_ne hp] at hq
      obtain ⟨h1, h2, h3⟩ := c.cb.w q o' hq
      exact ⟨h1, h2, h3.up st1 (upd_ne hp)⟩
  · obtain ⟨w, h1, h2⟩ := c.sh j d' h
    exact ⟨w, h1, h2.up st1⟩
  · obtain ⟨q, ys, h1, h2, h3, h4, h5, h6⟩ := c.ol j ds' h
    have hp : q ≠ p := fun z => by rw [z, hw] at h6; cases h6
    exact ⟨q, ys, h1, by rw [upd_ne hp]; exact h2, h3.up st1, h4, h5, by rw [updW_ne hp]; exact h6⟩
/-- a new changeable list -/
theorem Cf.newW (c : Cf K F S H σ ρ W) {p : Addr} {xs : List V} {ds : List D} (hp : H p = none) (r : Reps K S H ds xs) :
    W p = none ∧ Stp F S H (Add S p) (upd H p (.lst xs)) ∧ Cf K F (Add S p) (upd H p (.lst xs)) σ ρ (updW W p (.lst ds)) := by
  have hw : W p = none := by
    cases q : W p with
    | none => rfl
    | some o => exact absurd hp (c.cb.sd p (c.cb.w p o q).1)
  have np : ∀ a, S a → a ≠ p := fun a hs q => c.cb.sd a hs (by rw [q]; exact hp)
  have st : Stp F S H (Add S p) (upd H p (.lst xs)) := (c.alien (o := .lst xs) hp).1
  refine ⟨hw, st, ⟨fun a h => ?_, fun a h => .inl (c.cb.fs a h), fun q o' hq => ?_⟩, c.len, fun j d' h => ?_, fun j ds' h => ?_, c.dis⟩
  · rcases h with h | h
    · rw [upd_ne (np a h)]; exact c.cb.sd a h
    · rw [h, upd_same]; simp
  · by_cases hq' : q = p
    · subst hq'
      rw [updW_same] at hq
      cases hq
      exact ⟨.inr rfl, fun hf => c.cb.sd _ (c.cb.fs _ hf) hp, xs, upd_same, r.up st⟩
    · rw [updW_ne hq'] at hq
      obtain ⟨h1, h2, h3⟩ := c.cb.w q o' hq
      exact ⟨.inl h1, h2, h3.up st (upd_ne hq')⟩
  · obtain ⟨w, h1, h2⟩ := c.sh j d' h
    exact ⟨w, h1, h2.up st⟩
  · obtain ⟨q, ys, h1, h2, h3, h4, h5, h6⟩ := c.ol j ds' h
    have hq : q ≠ p := np q h4
    exact ⟨q, ys, h1, by rw [upd_ne hq]; exact h2, h3.up st, .inl h4, h5, by rw [updW_ne hq]; exact h6⟩
/-- the own list becomes one that others may hold -/
theorem Cf.olW (c : Cf K F S H σ ρ W) {i : Nat} {ds : List D} (h0 : ρ[i]? = some (some (.ol ds))) :
    ∃ p, W p = none ∧ Cf K F S H σ (ρ.set i (some (.sh (.ref p)))) (updW W p (.lst ds)) := by
  obtain ⟨p, xs, hp, hH, r0, hs, hf, hw⟩ := c.ol i ds h0
  have hl : i < ρ.length := (List.getElem?_eq_some_iff.mp h0).1
  refine ⟨p, hw, ⟨c.cb.sd, c.cb.fs, fun q o hq => ?_⟩, by simp [c.len], fun j d' h => ?_, fun j ds' h => ?_, fun j k q h1 h2 => ?_⟩
  · by_cases hq' : q = p
    · subst hq'
      rw [updW_same] at hq
      cases hq
      exact ⟨hs, hf, xs, hH, r0⟩
    · rw [updW_ne hq'] at hq
      exact c.cb.w q o hq
  · by_cases hj : i = j
    · subst hj
      rw [List.getElem?_set_self hl] at h
      cases h
      exact ⟨_, hp, Rep.v_iff.mpr rfl⟩
    · rw [List.getElem?_set_ne hj] at h
      exact c.sh j d' h
  · by_cases hj : i = j
    · subst hj
      rw [List.getElem?_set_self hl] at h
      cases h
    · rw [List.getElem?_set_ne hj] at h
      obtain ⟨q, ys, h1, h2, h3, h4, h5, h6⟩ := c.ol j ds' h
      have : q ≠ p := fun z => hj (c.dis i j p ⟨ds, h0, hp⟩ ⟨ds', h, z ▸ h1⟩)
      exact ⟨q, ys, h1, h2, h3, h4, h5, by rw [updW_ne this]; exact h6⟩
  · have go : ∀ j, Own σ (ρ.set i (some (.sh (.ref p)))) j q → Own σ ρ j q := fun j ⟨ds', q1, q2⟩ => by
      by_cases hj : i = j
      · subst hj
        rw [List.getElem?_set_self hl] at q1
        cases q1
      · rw [List.getElem?_set_ne hj] at q1
        exact ⟨ds', q1, q2⟩
    exact c.dis j k q (go j h1) (go k h2)
end
section
variable {X : Cx} {Wx : WX} {st : Stmt} {rest : List Stmt} {f g : TSD} {e o a b c i : Expr} {es : List Expr} {fe fo fa fb fc : TD} {fl : TL} {pos : Pos}
/-- slot i's own list is given to the world -/
def dOlW (i : Nat) (f : TSD) : TSD := fun De ρ W => match ρ[i]? with
  | some (some (.ol ds)) => ∀ p, W p = none → f De (ρ.set i (some (.sh (.ref p)))) (updW W p (.lst ds))
  | _ => False
theorem gss_olW (i : Nat) (h : GSs X Wx rest f) : GSs X Wx rest (dOlW i f) := by
  obtain ⟨t, p, s⟩ := h
  refine ⟨t, p, fun F S H σ ρ W De Dh cf hf l => ?_⟩
  unfold dOlW at hf
  split at hf
  · rename_i ds h0
    obtain ⟨q, hq, c2⟩ := cf.olW h0
    exact s F S H σ _ _ De Dh c2 (hf q hq) l
  · exact hf.elim
/-- return [..], a list that its owner may change -/
def dRetW (fl : TL) : TSD := fun De ρ W => fl ρ W (fun ds _ W' => ∀ p, W' p = none → De.rt (.ref p) (updW W' p (.lst ds))) De.ex
theorem gs_retW (he : GN X Wx e fl) : GS X Wx (.Return (some e) pos) (dRetW fl) := by
  obtain ⟨te, pe, se⟩ := he
  refine ⟨_, ps_ret pe, fun F S H σ ρ W De Dh cf hf l => ?_⟩
  refine se F S H σ ρ W _ De.ex _ cf hf l.ex fun S' H' ρ' W' ds xs p e' c r hp q => ?_
  obtain ⟨hw, st, c2⟩ := c.newW hp r
  exact l.rt _ _ σ ρ' _ _ _ (e'.trans st) c2 (Rep.v_iff.mpr rfl) (q p hw)
/-- x = [..], a list that others may hold and change -/
def dAsgW (i : Nat) (fl : TL) : TSD := fun De ρ W => fl ρ W (fun ds ρ' W' => ∀ p, W' p = none → De.nx (ρ'.set i (some (.sh (.ref p)))) (updW W' p (.lst ds))) De.ex
theorem snd_asgW {K : PySem.W.Frag} {te : TE} {i : Nat} (se : SndN K Wx te fl) : SndS K Wx (tAsg te (gName i)) (dAsgW i fl) := fun F S H σ ρ W De Dh cf hf l => by
  refine se F S H σ ρ W _ De.ex _ cf hf l.ex fun S' H' ρ' W' ds xs p e' c r hp q => ?_
  obtain ⟨hw, st, c2⟩ := c.newW hp r
  exact l.nx _ _ _ _ _ (e'.trans st) (c2.setSh i (Rep.v_iff.mpr rfl)) (q p hw)
/-- p[i] of a changeable list -/
def dIxW (fa fb : TD) : TD := fun ρ W Q Qx => fa ρ W (fun d ρ1 W1 => fb ρ1 W1 (fun e ρ2 W2 => match d, e with
  | .v (.ref p), .v (.int i) => ∃ ds z, W2 p = some (.lst ds) ∧ atI ds i = some z ∧ Q z ρ2 W2
  | _, _ => False) Qx) Qx
theorem ge_ixW (ha : GE X Wx a fa) (hb : GE X Wx b fb) (hs : PlainIx b) : GE X Wx (.Subscript a b pos) (dIxW fa fb) := by
  obtain ⟨ta, pa, sa⟩ := ha
  obtain ⟨tb, pb, sb⟩ := hb
  refine ⟨_, pe_ix ix_list pa pb hs, fun F S H σ ρ W Q Qx R cf hf hx hE => ?_⟩
  refine sa F S H σ ρ W _ Qx _ cf hf hx fun S1 H1 ρ1 W1 d v e1 c1 r1 q1 => ?_
  refine sb F S1 H1 σ ρ1 W1 _ Qx _ c1 q1 (hx.up e1) fun S2 H2 ρ2 W2 d2 v2 e2 c2 r2 q2 => ?_
  split at q2
  · rename_i p i
    obtain ⟨ds, z, hw, hz, q⟩ := q2
    obtain ⟨_, _, xs, h1, h2⟩ := c2.cb.w p _ hw
    obtain ⟨w, h3, h4⟩ := reps_at h2 hz
    exact ⟨p, xs, i, w, Rep.v_iff.mp r1, Rep.v_iff.mp r2, SqL.of h1, h3, hE S2 H2 ρ2 W2 z w (e1.trans e2) c2 h4 q⟩
  · exact q2.elim
/-- p[i] = e -/
def dSetW (fe fo fi : TD) : TSD := fun De ρ W => fe ρ W (fun d ρ1 W1 => fo ρ1 W1 (fun x ρ2 W2 => fi ρ2 W2 (fun y ρ3 W3 => match x, y with
  | .v (.ref p), .v (.int k) => ∃ ds j, W3 p = some (.lst ds) ∧ ixN ds.length k = some j ∧ De.nx ρ3 (updW W3 p (.lst (ds.set j d)))
  | _, _ => False) De.ex) De.ex) De.ex
theorem gs_setW {fi : TD} {tpos : Pos} (he : GE X Wx e fe) (ho : GE X Wx o fo) (hi : GE X Wx i fi) (ha : ∀ v, assign (.Subscript o i tpos) X.env v = (do
      let ov ← holding [v] (eval o X.env)
      let iv ← holding [v, ov] (eval i X.env)
      standAt tpos
      holding [v, ov, iv] (setItem ov iv v)
      release [v, ov, iv] []) := by intro _; rfl) (hs : swapsWithSole [.Subscript o i tpos] e pos.line X.env = pure false := by rfl) (hw : swappedStores [.Subscript o i tpos] e X.env = pure none := by rfl) (h1 : (assignEach [.Subscript o i tpos] X.env).map (·.2) = [assign (.Subscript o i tpos) X.env] := by rfl) :
    GS X Wx (.Assign [.Subscript o i tpos] e pos) (dSetW fe fo fi) := by
  obtain ⟨te, pe, se⟩ := he
  obtain ⟨to, po, so⟩ := ho
  obtain ⟨ti, pi, si⟩ := hi
  refine ⟨_, ps_asg pe (pg_sub po pi set_list ha) hs hw h1, fun F S H σ ρ W De Dh cf hf l => ?_⟩
  refine se F S H σ ρ W _ De.ex _ cf hf l.ex fun S1 H1 ρ1 W1 d v e1 c1 r1 q1 => ?_
  refine so F S1 H1 σ ρ1 W1 _ De.ex _ c1 q1 (l.ex.up e1) fun S2 H2 ρ2 W2 d2 v2 e2 c2 r2 q2 => ?_
  refine si F S2 H2 σ ρ2 W2 _ De.ex _ c2 q2 (l.ex.up (e1.trans e2)) fun S3 H3 ρ3 W3 d3 v3 e3 c3 r3 q3 => ?_
  split at q3
  · rename_i p k
    obtain ⟨ds, j, hw, hj, q⟩ := q3
    obtain ⟨_, _, xs, h1, h2⟩ := c3.cb.w p _ hw
    refine ⟨p, xs, k, j, Rep.v_iff.mp r2, Rep.v_iff.mp r3, h1, by rw [h2.length]; exact hj, ?_⟩
    have r1' := (r1.up e2).up e3
    obtain ⟨st, c4⟩ := c3.chW (o := .lst (ds.set j d)) (u := .lst (xs.set j v)) hw fun S' H' e' hp => ⟨_, hp, (Reps.set r1' j h2).up e'⟩
    exact l.nx _ _ _ _ _ (((e1.trans e2).trans e3).trans st) c4 q
  · exact q3.elim
/-- p.pop(i), dropped -/
def dPopW (fo fi : TD) : TSD := fun De ρ W => fo ρ W (fun x ρ1 W1 => (∃ p ds, x = .ref p ∧ W1 p = some (.lst ds)) ∧ fi ρ1 W1 (fun y ρ2 W2 => match x, y with
  | .v (.ref p), .v (.int k) => ∃ ds j, W2 p = some (.lst ds) ∧ -(2 ^ 63) ≤ k ∧ k < 2 ^ 63 ∧ seqIndex? k ds.length = some j ∧ j < ds.length ∧ De.nx ρ2 (updW W2 p (.lst (ds.eraseIdx j)))
  | _, _ => False) De.ex) De.ex
theorem Reps.erase {K : PySem.W.Frag} {S : Reg} {H : Hp} : ∀ (n : Nat) {ds : List D} {vs : List V}, Reps K S H ds vs → Reps K S H (ds.eraseIdx n) (vs.eraseIdx n)
  | n, [], _, h => by rw [Reps.nil_iff.mp h]; exact Reps.nil
  | 0, d' :: ds, _, h => by
    obtain ⟨x, r, rfl, h1, h2⟩ := Reps.cons_iff.mp h
    exact h2
  | n + 1, d' :: ds, _, h => by
    obtain ⟨x, r, rfl, h1, h2⟩ := Reps.cons_iff.mp h
    exact Reps.cons h1 (Reps.erase n h2)
theorem gs_popW {fi : TD} {apos cpos : Pos} (ho : GE X Wx o fo) (hi : GE X Wx i fi) (hbase : attributeBase o "pop" X.env (eval o X.env) = eval o X.env := by rfl)
    (hfew : ((backTo cpos (starEach (i :: []) X.env)).all (fun x => !x.1) && (backToKw cpos (keywordEach [] X.env)).all (fun x => x.1.isSome) && decide ((i :: ([] : List Expr)).length + ([] : List Keyword).length + (if ([] : List Keyword).isEmpty then 0 else 1) < 30)) = true := by rfl)
    (hline : (apos.endLine == cpos.line) = true := by rfl) (hse : starEach (i :: []) X.env = (false, eval i X.env) :: starEach [] X.env := by rfl) (hplain : (backTo cpos (starEach [] X.env)).any (·.1) = false := by rfl)
    (hs : swapsWith (.Call (.Attribute o "pop" apos) [i] [] cpos) none pos.line X.env = pure false := by rfl) : GS X Wx (.Expr (.Call (.Attribute o "pop" apos) [i] [] cpos) pos) (dPopW fo fi) := by
  obtain ⟨to, po, so⟩ := ho
  obtain ⟨ti, pi, si⟩ := hi
  refine ⟨_, ps_expr (pe_bm PySem.F.plainAttrs_list PySem.F.slot_list_pop PySem.F.type_list_pop mt_popAt po (pa_cons pi pa_nil hse) hbase hfew hline hse hplain) hs, fun F S H σ ρ W De Dh cf hf l => ?_⟩
  refine so F S H σ ρ W _ De.ex _ cf hf l.ex fun S1 H1 ρ1 W1 d v e1 c1 r1 q1 => ?_
  obtain ⟨⟨p0, ds0, rfl, hw0⟩, q1⟩ := q1
  obtain ⟨_, _, xs0, h0, _⟩ := c1.cb.w p0 _ hw0
  have ev := Rep.v_iff.mp r1
  subst ev
  refine ⟨.inl ⟨rfl, xs0, SqL.of h0⟩, ?_⟩
  refine si F S1 H1 σ ρ1 W1 _ De.ex _ c1 q1 (l.ex.up e1) fun S2 H2 ρ2 W2 d2 v2 e2 c2 r2 q2 => ?_
  split at q2
  · rename_i p k he
    cases he
    obtain ⟨ds, j, hw, hk1, hk2, hj, hjl, q⟩ := q2
    obtain ⟨_, _, xs, h1, h2⟩ := c2.cb.w p0 _ hw
    have hv : xs[j]? = some (xs[j]'(by rw [h2.length]; exact hjl)) := List.getElem?_eq_getElem _
    refine ⟨p0, xs, k, j, _, rfl, by rw [Rep.v_iff.mp r2], h1, hk1, hk2, by rw [h2.length]; exact hj, hv, ?_⟩
    obtain ⟨st, c4⟩ := c2.chW (o := .lst (ds.eraseIdx j)) (u := .lst (xs.eraseIdx j)) hw fun S' H' e' hp => ⟨_, hp, (Reps.erase j h2).up e'⟩
    exact l.nx _ _ _ _ _ ((e1.trans e2).trans st) c4 q
  · exact q2.elim
/-- p != [], p a changeable list -/
def dNeW (fa fb : TD) : TB := fun ρ W Q Qx => fa ρ W (fun d ρ1 W1 => fb ρ1 W1 (fun e ρ2 W2 => match d, e with
  | .v (.ref p), .lst [] => ∃ ds, W2 p = some (.lst ds) ∧ goods 63 ds = true ∧ Q (!ds.isEmpty) ρ2 W2
  | _, _ => False) Qx) Qx
theorem gt_neW (hu : X.A.units + 64 < cLine) (ha : GE X Wx a fa) (hb : GE X Wx b fb) (hm : behindInMarks .NotEq b = false) : GT X Wx (.Compare a [.NotEq] [b] pos) (dNeW fa fb) := by
  obtain ⟨ta, pa, sa⟩ := ha
  obtain ⟨tb, pb, sb⟩ := hb
  refine ⟨_, pt_cmpR (op_neD hu) pa pb hm, fun F S H σ ρ W Q Qx R cf hf hx hE => ?_⟩
  refine sa F S H σ ρ W _ Qx _ cf hf hx fun S1 H1 ρ1 W1 d v e1 c1 r1 q1 => ?_
  refine sb F S1 H1 σ ρ1 W1 _ Qx _ c1 q1 (hx.up e1) fun S2 H2 ρ2 W2 d2 v2 e2 c2 r2 q2 => ?_
  split at q2
  · rename_i p
    obtain ⟨ds, hw, hg, q⟩ := q2
    obtain ⟨_, _, xs, h1, h2⟩ := c2.cb.w p _ hw
    have ev := Rep.v_iff.mp r1
    subst ev
    obtain ⟨a, ys, rfl, h3, h4⟩ := Rep.lst_iff.mp r2
    have gl : D.good 64 (.lst ds) = true := by simpa [D.good] using hg
    have gn : D.good 64 (.lst []) = true := by simp [D.good, goods]
    have dp1 : Dp X.K H2 (.ref p) (D.lst ds).py := by
      simp only [D.py]
      exact .lst (SqL.of h1) (dps_of hg h2)
    refine ⟨_, _, dp1, dp_of gn r2, shaped_of gl, shaped_of gn, !ds.isEmpty, ?_, hE S2 H2 ρ2 W2 _ (e1.trans e2) c2 q⟩
    cases ds with
    | nil => simp [D.py, pys, PyData.eqv, PyData.eqvAll]
    | cons d ds => simp [D.py, pys, PyData.eqv, PyData.eqvAll]
  · exact q2.elim
/-! ### more statements, more expressions -/
/-- xs[i] = e, the frame's own list -/
def dSetO (k : Nat) (fe fi : TD) : TSD := fun De ρ W => fe ρ W (fun d ρ1 W1 => (∃ ds, ρ1[k]? = some (some (.ol ds))) ∧ fi ρ1 W1 (fun y ρ2 W2 => match ρ2[k]?, y with
  | some (some (.ol ds)), .v (.int z) => ∃ j, ixN ds.length z = some j ∧ De.nx (ρ2.set k (some (.ol (ds.set j d)))) W2
  | _, _ => False) De.ex) De.ex
theorem gs_setO2 {k : Nat} {x : Str} {fi : TD} {px tpos : Pos} (he : GE X Wx e fe) (hi : GE X Wx i fi) (hN : X.N[k]? = some x := by rfl) (hv : Vis X.env.scope x := by first | exact Or.inl rfl | exact Or.inr (Or.inl rfl) | exact Or.inr (Or.inr rfl)) (hd : (x == ("__debug__" : Str)) = false := by decide) (hcd : (x == ("__classdict__" : Str)) = false := by decide)
    (ha : ∀ v, assign (.Subscript (.Name x px) i tpos) X.env v = (do
      let ov ← holding [v] (eval (.Name x px) X.env)
      let iv ← holding [v, ov] (eval i X.env)
      standAt tpos
      holding [v, ov, iv] (setItem ov iv v)
      release [v, ov, iv] []) := by intro _; rfl) (hs : swapsWithSole [.Subscript (.Name x px) i tpos] e pos.line X.env = pure false := by rfl) (hw : swappedStores [.Subscript (.Name x px) i tpos] e X.env = pure none := by rfl) (h1 : (assignEach [.Subscript (.Name x px) i tpos] X.env).map (·.2) = [assign (.Subscript (.Name x px) i tpos) X.env] := by rfl) :
    GS X Wx (.Assign [.Subscript (.Name x px) i tpos] e pos) (dSetO k fe fi) := by
  obtain ⟨te, pe, se⟩ := he
  obtain ⟨ti, pi, si⟩ := hi
  refine ⟨_, ps_asg pe (pg_sub (pe_var hN hv hd hcd) pi set_list ha) hs hw h1, fun F S H σ ρ W De Dh cf hf l => ?_⟩
  refine se F S H σ ρ W _ De.ex _ cf hf l.ex fun S1 H1 ρ1 W1 d v e1 c1 r1 q1 => ?_
  obtain ⟨⟨ds0, h0⟩, q1⟩ := q1
  obtain ⟨p, xs0, hp, _⟩ := c1.ol k ds0 h0
  refine ⟨_, hp, ?_⟩
  refine si F S1 H1 σ ρ1 W1 _ De.ex _ c1 q1 (l.ex.up e1) fun S2 H2 ρ2 W2 d2 v2 e2 c2 r2 q2 => ?_
  split at q2
  · rename_i ds z hk
    obtain ⟨j, hj, q⟩ := q2
    obtain ⟨p', xs, hp', h2, h3, _⟩ := c2.ol k ds hk
    rw [hp] at hp'; cases hp'
    refine ⟨p, xs, z, j, rfl, Rep.v_iff.mp r2, h2, by rw [h3.length]; exact hj, ?_⟩
    obtain ⟨st, c3⟩ := c2.chOl hk hp (Reps.set (r1.up e2) j h3)
    exact l.nx _ _ _ _ W2 ((e1.trans e2).trans st) c3 q
  · exact q2.elim
/-- xs[i], the frame's own list -/
def dIxO (k : Nat) (fi : TD) : TD := fun ρ W Q Qx => (∃ ds, ρ[k]? = some (some (.ol ds))) ∧ fi ρ W (fun y ρ2 W2 => match ρ2[k]?, y with
  | some (some (.ol ds)), .v (.int z) => ∃ d, atI ds z = some d ∧ Q d ρ2 W2
  | _, _ => False) Qx
theorem ge_ixO (k : Nat) {x : Str} {fi : TD} {px : Pos} (hi : GE X Wx i fi) (hpi : PlainIx i) (hN : X.N[k]? = some x := by rfl) (hv : Vis X.env.scope x := by first | exact Or.inl rfl | exact Or.inr (Or.inl rfl) | exact Or.inr (Or.inr rfl)) (hd : (x == ("__debug__" : Str)) = false := by decide) (hcd : (x == ("__classdict__" : Str)) = false := by decide) :
    GE X Wx (.Subscript (.Name x px) i pos) (dIxO k fi) := by
  obtain ⟨ti, pi, si⟩ := hi
  refine ⟨_, pe_ix ix_list (pe_var hN hv hd hcd) pi hpi, fun F S H σ ρ W Q Qx R cf hf hx hE => ?_⟩
  obtain ⟨⟨ds0, h0⟩, hf⟩ := hf
  obtain ⟨p, xs0, hp, _⟩ := cf.ol k ds0 h0
  refine ⟨_, hp, ?_⟩
  refine si F S H σ ρ W _ Qx _ cf hf hx fun S2 H2 ρ2 W2 d2 v2 e2 c2 r2 q2 => ?_
  split at q2
  · rename_i ds z hk
    obtain ⟨d, hd, q⟩ := q2
    obtain ⟨p', xs, hp', h2, h3, _⟩ := c2.ol k ds hk
    rw [hp] at hp'; cases hp'
    obtain ⟨w, h4, h5⟩ := reps_at h3 hd
    exact ⟨p, xs, z, w, rfl, Rep.v_iff.mp r2, SqL.of h2, h4, hE S2 H2 ρ2 W2 d w e2 c2 h5 q⟩
  · exact q2.elim
/-- len of the frame's own list -/
def dLenO (k : Nat) : TD := fun ρ W Q _ => match ρ[k]? with
  | some (some (.ol ds)) => Q (.int ds.length) ρ W
  | _ => False
/-- -e -/
def dNeg (fe : TD) : TD := fun ρ W Q Qx => fe ρ W (fun d ρ' W' => match d with | .v (.int i) => Q (.int (-i)) ρ' W' | _ => False) Qx
theorem ge_neg (he : GE X Wx e fe) : GE X Wx (.UnaryOp .USub e pos) (dNeg fe) := by
  obtain ⟨te, pe, se⟩ := he
  refine ⟨_, pe_un un_neg pe, fun F S H σ ρ W Q Qx R cf hf hx hE => ?_⟩
  refine se F S H σ ρ W _ Qx _ cf hf hx fun S1 H1 ρ1 W1 d v e1 c1 r1 q1 => ?_
  split at q1
  · rename_i i
    exact ⟨i, Rep.v_iff.mp r1, hE S1 H1 ρ1 W1 _ _ e1 c1 (Rep.v_iff.mpr rfl) q1⟩
  · exact q1.elim
theorem ge_gc {x : Str} {v : V} {pos : Pos} (h : ∃ u, X.mg x = some u ∧ RelV v u) (hg : Gl X x := by rfl) (hd : (x == ("__debug__" : Str)) = false := by decide) : GE X Wx (.Name x pos) (dC v) := by
  obtain ⟨u, h1, h2⟩ := h
  exact ge_glob hg h1 h2 hd
/-- a built-in class as a value -/
theorem ge_ty {x : Str} {n : String} {pos : Pos} (hm : X.mg x = none) (hv : bootBuiltins x = some (.type n)) (hg : Gl X x := by rfl) (hn : x ≠ "__name__" := by decide) (hd : (x == ("__debug__" : Str)) = false := by decide) : GE X Wx (.Name x pos) (dC (.ty n)) :=
  ⟨_, pe_bltn (v := .ty n) hg hm hv rfl hn hd, snd_c⟩
theorem gt_chain {op op' : CmpOp} {r r' : R2} {k k' : D → D → (D → Prop) → Prop} (ho : OpR X (compareOp op) r) (ho' : OpR X (compareOp op') r') (hr : RSnd X.K r k) (hr' : RSnd X.K r' k') (ha : GE X Wx a fa) (hb : GE X Wx b fb) (hc : GE X Wx c fc)
    (hm : lastMarks [op, op'] [b, c] = false := by with_unfolding_all rfl) : GT X Wx (.Compare a [op, op'] [b, c] pos) (dBool (dChain k k' fa fb fc)) := by
  obtain ⟨ta, pa, sa⟩ := ha
  obtain ⟨tb, pb, sb⟩ := hb
  obtain ⟨tc, pc, sc⟩ := hc
  refine ⟨_, pt_chain ho ho' pa pb pc hm, fun F S H σ ρ W Q Qx R cf hf hx hE => ?_⟩
  have := snd_tB (snd_chain hr hr' sa sb sc) F S H σ ρ W Q Qx R cf hf hx hE
  exact this
/-- x = [.. for ..] -/
theorem gs_setLc {y : Str} {py : Pos} {k : Nat} {elt tg iter : Expr} {ifs : List Expr} {scope : Scope} {spos : Pos} {fi : TID} {gd : TGD} {ft : TB} {fe : TD} {ts : List Nat} (own : List (Str × Nat)) (hc : X.calm = true) (hN : X.N.Nodup) (hy : X.N[k]? = some y) (hyl : X.env.scope.names.lookup y = some .local)
    (hsw : swapsWith (.ListComp elt [⟨tg, iter, ifs, 0⟩] scope pos) (some (.Name y py)) spos.line X.env = pure true) (hi : GI X Wx tg iter fi) (ok : BlkOk X.N X.env.scope scope own) (hts : ∀ j ∈ ts, j ∈ own.map (·.2))
    (hg : ∀ (s : Shared) (H : Hp) (C : Addr) (cl : List (Str × Addr)) (fp : List Addr), GG (X.blk s H scope (PySem.compEnvC scope cl C X.env) fp) tg gd ts) (ht : ∀ (s : Shared) (H : Hp) (C : Addr) (cl : List (Str × Addr)) (fp : List Addr), GTs (X.blk s H scope (PySem.compEnvC scope cl C X.env) fp) WX0 ifs ft)
    (he : ∀ (s : Shared) (H : Hp) (C : Addr) (cl : List (Str × Addr)) (fp : List Addr), GE (X.blk s H scope (PySem.compEnvC scope cl C X.env) fp) WX0 elt fe) (hs : ∀ x, foldedSetIterable iter X.env x = pure x := by intro _; rfl) :
    GS X Wx (.Assign [.Name y py] (.ListComp elt [⟨tg, iter, ifs, 0⟩] scope pos) spos) (dAsg (dFresh (dLc fi gd ft fe (own.map (·.2)))) (gdName k)) := by
  obtain ⟨wi, pi, si⟩ := hi
  exact ⟨_, ps_setLc hc hN hy hyl hsw pi ok (fun s H C cl fp => (hg s H C cl fp).can) (fun s H C cl fp => (ht s H C cl fp).can) (fun s H C cl fp => (he s H C cl fp).can) hs, snd_asg (snd_fresh (snd_lc hts si)) snd_gName⟩
theorem gs_setLcO {y : Str} {py : Pos} {k : Nat} {elt tg iter : Expr} {ifs : List Expr} {scope : Scope} {spos : Pos} {fi : TID} {gd : TGD} {ft : TB} {fe : TD} {ts : List Nat} (own : List (Str × Nat)) (hc : X.calm = true) (hN : X.N.Nodup) (hy : X.N[k]? = some y) (hyl : X.env.scope.names.lookup y = some .local)
    (hsw : swapsWith (.ListComp elt [⟨tg, iter, ifs, 0⟩] scope pos) (some (.Name y py)) spos.line X.env = pure true) (hi : GI X Wx tg iter fi) (ok : BlkOk X.N X.env.scope scope own) (hts : ∀ j ∈ ts, j ∈ own.map (·.2))
    (hg : ∀ (s : Shared) (H : Hp) (C : Addr) (cl : List (Str × Addr)) (fp : List Addr), GG (X.blk s H scope (PySem.compEnvC scope cl C X.env) fp) tg gd ts) (ht : ∀ (s : Shared) (H : Hp) (C : Addr) (cl : List (Str × Addr)) (fp : List Addr), GTs (X.blk s H scope (PySem.compEnvC scope cl C X.env) fp) WX0 ifs ft)
    (he : ∀ (s : Shared) (H : Hp) (C : Addr) (cl : List (Str × Addr)) (fp : List Addr), GE (X.blk s H scope (PySem.compEnvC scope cl C X.env) fp) WX0 elt fe) (hs : ∀ x, foldedSetIterable iter X.env x = pure x := by intro _; rfl) :
    GS X Wx (.Assign [.Name y py] (.ListComp elt [⟨tg, iter, ifs, 0⟩] scope pos) spos) (dAsgO k (dLc fi gd ft fe (own.map (·.2)))) := by
  obtain ⟨wi, pi, si⟩ := hi
  exact ⟨_, ps_setLc hc hN hy hyl hsw pi ok (fun s H C cl fp => (hg s H C cl fp).can) (fun s H C cl fp => (ht s H C cl fp).can) (fun s H C cl fp => (he s H C cl fp).can) hs, snd_asgO (snd_lc hts si)⟩
end
/-! ### defs of the module -/
/-- the def x of the text -/
structure DefAt (K : PySem.W.Frag) (mg : Str → Option Value) (x : Str) (st : Stmt) (ps : List Str) : Prop where
  ex : ∃ f fd, mg x = some (.ref f) ∧ Fun K x x st f fd ∧ Binds K fd ps []
theorem def_mk {K : PySem.W.Frag} {mg : Str → Option Value} {h : Heap} {x : Str} {st : Stmt} {ps : List Str} {f : Addr} {oc : Value} {od an : Option Addr} {osl : Array (Option Value)} {kV doc pm cdv ct : Value} (X : K.In h) (GG : h.Ns mainGlobals mg) (a : PySem.W.nsIn K mainGlobals x = some (some (.ref f)))
    (l : K.lookup f = some ⟨oc, od, .func (PySem.W.fnOf x x (defArgs st) (defBody st) (defScope st) .none kV doc pm an cdv ct), osl⟩) (c : PySem.W.codeIn K cdv x = true) (k : PySem.W.keepIn K (.ref f) = true)
    (b : ∀ (kV doc pm : Value) (an : Option Addr) (cdv ct : Value) (us : List Value), us.length = ps.length → bindArgs (PySem.W.fnOf x x (defArgs st) (defBody st) (defScope st) .none kV doc pm an cdv ct) ⟨us, []⟩ = pure (ps.zip us)) : DefAt K mg x st ps :=
  ⟨f, _, PySem.W.mg_of X GG a, fun_mk l c k, (fun_mk l c k).binds b⟩
/-- a def that keeps its promise -/
structure Cal (P : Program) (w : World) (K : PySem.W.Frag) (mg : Str → Option Value) (base : Heap) (k : Nat) (x : Str) (st : Stmt) (ps : List Str) (sp : SpD) : Prop where
  ex : ∃ f fd, mg x = some (.ref f) ∧ Fun K x x st f fd ∧ Binds K fd ps [] ∧ FnOk P w K mg base (L2.CX P w) k f fd ps (toSp K ps.length sp)
section
variable {P : Program} {w : World} {K : PySem.W.Frag} {mg : Str → Option Value} {base : Heap} {k j : Nat} {x : Str} {st : Stmt} {ps : List Str} {sp sp' : SpD}
theorem Cal.imp (c : Cal P w K mg base k x st ps sp) (h : ∀ ds W Q Qx, sp' ds W Q Qx → sp ds W Q Qx) : Cal P w K mg base k x st ps sp' := by
  obtain ⟨f, fd, a, b, c, d⟩ := c
  exact ⟨f, fd, a, b, c, d.imp (toSp_imp h)⟩
theorem Cal.mono (c : Cal P w K mg base k x st ps sp) (h : k ≤ j) : Cal P w K mg base j x st ps sp := by
  obtain ⟨f, fd, a, b, c, d⟩ := c
  exact ⟨f, fd, a, b, c, d.mono h⟩
/-- THE RULE for a def of the module -/
theorem calD {N : List Str} (T : DefAt K mg x st ps) (Sc : FnScope N ps (defScope st))
    (hbody : ∀ (f : Addr) (cdv : Value) (A : Around) (outer : List PySem.Env) (s : Shared) (H : Hp) (E : XK), Room k (A.deeper (PyProof.Rows.envOfC x (defScope st) s.heap.objs.size f cdv)) →
      ∃ g, GSs (cxOf (L2.CX P w) P w K mg base N x (defScope st) f cdv A outer s H E) (fun cls d _ H => E cls d H) (defBody st) g ∧
        ∀ ds W Qd Qx, ds.length = ps.length → sp ds W Qd Qx → g { nx := fun _ W' => Qd .non W', rt := Qd, ex := fun cls x _ W' => Qx cls x W' } (ds.map (fun d => some (Sl.sh d)) ++ List.replicate (N.length - ds.length) none) W) :
    Cal P w K mg base (k + 1) x st ps sp := by
  obtain ⟨f, fd, a, b, c⟩ := T
  exact ⟨f, fd, a, b, c, okD b Sc (hbody f)⟩
end
section
variable {X : Cx} {Wx : WX} {e : Expr} {es : List Expr} {fl : TL} {p pos : Pos} {k j n : Nat} {x : Str} {st : Stmt} {ps : List Str} {sp : SpD}
theorem ge_c (tk : Takes X Wx) (c : Cal X.prog X.w X.K X.mg X.base k x st ps sp) (hr : Room j X.A) (hk : k ≤ j) (ha : GA X Wx (e :: es) fl) (hn : ps.length = n := by rfl) (hg : Gl X x := by rfl) (hdb : (x == ("__debug__" : Str)) = false := by decide) (he : starEach (e :: es) X.env = (false, eval e X.env) :: starEach es X.env := by rfl) (hpl : (backTo pos (starEach es X.env)).any (·.1) = false := by rfl) :
    GE X Wx (.Call (.Name x p) (e :: es) [] pos) (dCall sp n fl) := by
  obtain ⟨f, fd, a, b, c, d⟩ := c
  subst hn
  exact ge_call tk d (hr.mono hk) hg a b.kp c ha hdb he hpl
/-- keywords -/
def GK (X : Cx) (Wx : WX) (kws : List Keyword) (f : TL) : Prop := ∃ te, PK X kws te ∧ SndL X.K Wx te f
variable {nm : Option Str} {kpos : Pos} {fe : TD} {kws : List Keyword}
theorem gk_nil : GK X Wx [] dNil := ⟨_, pk_nil, fun F S H σ ρ W Q Qx R cf hf hx hE => hE S H ρ W [] [] .refl cf Reps.nil hf⟩
theorem gk_cons (he : GE X Wx e fe) (ha : GK X Wx kws fl) : GK X Wx (⟨nm, e, kpos⟩ :: kws) (dCons fe fl) := by
  obtain ⟨te, pe, se⟩ := he
  obtain ⟨ta, pa, sa⟩ := ha
  exact ⟨_, pk_cons pe pa, snd_cons se sa⟩
/-- the values ix of l -/
def pick {α : Type} (ix : List Nat) (l : List α) : List α := ix.filterMap (l[·]?)
theorem vals_pick {zs : List V} {ws : List Value} (r : Vals zs ws) : ∀ ix : List Nat, Vals (pick ix zs) (pick ix ws)
  | [] => .nil
  | i :: ix => by
    unfold pick
    rw [List.filterMap_cons, List.filterMap_cons]
    cases e : zs[i]? with
    | none => rw [r.none_of e]; exact vals_pick r ix
    | some v =>
      obtain ⟨u, h1, h2⟩ := r.get e
      rw [h1]
      exact .cons h2 (vals_pick r ix)
theorem reps_pick {K : PySem.W.Frag} {S : Reg} {H : Hp} {ds : List D} {vs : List V} (r : Reps K S H ds vs) : ∀ ix : List Nat, Reps K S H (pick ix ds) (pick ix vs)
  | [] => Reps.nil
  | i :: ix => by
    unfold pick
    rw [List.filterMap_cons, List.filterMap_cons]
    cases e : ds[i]? with
    | none =>
      have : vs[i]? = none := by
        rw [List.getElem?_eq_none_iff] at e ⊢
        rw [r.length]; exact e
      rw [this]; exact reps_pick r ix
    | some v =>
      obtain ⟨u, h1, h2⟩ := r.get e
      rw [h1]
      exact Reps.cons h2 (reps_pick r ix)
def dCallK (sp : SpD) (n m : Nat) (ix : List Nat) (fl : TL) : TD := fun ρ W Q Qx => fl ρ W (fun ds ρ' W' => ds.length = m ∧ (pick ix ds).length = n ∧ sp (pick ix ds) W' (fun d W2 => Q d ρ' W2) (fun cls x W2 => False)) Qx
/-- f(k = e, ..), every argument by its name; nothing is raised -/
theorem ge_ck {ks : List Str} {m : Nat} (ix : List Nat) (c : Cal X.prog X.w X.K X.mg X.base k x st ps sp) (hr : Room j X.A) (hk : k ≤ j)
    (hb : ∀ (kV doc pm : Value) (an : Option Addr) (cdv ct : Value) (ws : List Value), ws.length = ks.length → bindArgs (PySem.W.fnOf x x (defArgs st) (defBody st) (defScope st) .none kV doc pm an cdv ct) ⟨[], ks.zip ws⟩ = pure (ps.zip (pick ix ws)))
    (ha : GK X Wx kws fl) (hm : ks.length = m := by rfl) (hn : ps.length = n := by rfl) (hall : (backToKw pos (keywordEach kws X.env)).all (·.1.isSome) = true := by rfl) (hks : (backToKw pos (keywordEach kws X.env)).filterMap (·.1) = ks := by rfl) (hg : Gl X x := by rfl) (hdb : (x == ("__debug__" : Str)) = false := by decide)
    (hpl : ((backTo pos (starEach [] X.env)).any (·.1) || (backToKw pos (keywordEach kws X.env)).any (·.1.isNone)) = false := by rfl) :
    GE X Wx (.Call (.Name x p) [] kws pos) (dCallK sp n m ix fl) := by
  obtain ⟨f, fd, hmg, hF, hB, hf⟩ := c
  obtain ⟨ta, pa, sa⟩ := ha
  subst hn
  let te : TE := fun σ H Q => ta σ H fun zs H2 => zs.length = ks.length ∧ toSp X.K ps.length sp (pick ix zs) H2 Q E0
  refine ⟨te, ⟨fun pins s σ H Q I h => ?_⟩, ?_⟩
  · refine wpAny_Call_Name_kw (ld_glob I hg hmg ?_ hdb)
    refine PySem.W.callWith_KW0 (h₀ := X.base) I.ok.mod.kin hF.kp hall ?_ hpl
    refine thn (pa.run pos pins s σ H _ I h) fun ws s2 ⟨zs, H2, I2, rz, l2, q2⟩ => ⟨I2.kIn, ?_⟩
    rw [hks]
    obtain ⟨oc, od, kV, doc, pm, an, cdv, ct, osl, rfl, lk, hcd⟩ := hF.ex
    have hr2 := vals_pick rz ix
    have hbt := BindsTo.of_eq (s := s2) (hb kV doc pm an cdv ct ws (by rw [← rz.length, l2]))
    refine wpAny_call (codeAny_mono (hf.run X.A X.stack s2 H2 ⟨[], ks.zip ws⟩ (pick ix ws) (pick ix zs) Q E0 (hr.mono hk) I2.env0 hbt hr2 q2) fun r s' hq => ?_)
    cases r with
    | error e => exact (passL (X := X) pins σ H2 s2 e s' I2 hq)
    | ok fl =>
      cases fl with
      | ret u => exact I2.after hq
      | next => exact False.elim hq
      | brk => exact False.elim hq
      | cont => exact False.elim hq
  · intro F S H σ ρ W Q Qx R cf hf' hx hE
    refine sa F S H σ ρ W _ Qx _ cf hf' hx fun S1 H1 ρ1 W1 ds vs e1 c1 r1 q1 => ?_
    obtain ⟨q0, q1, q2⟩ := q1
    refine ⟨by rw [r1.length, q0, hm], _, S1, W1, pick ix ds, _, _, c1.below, reps_pick r1 ix, q1, q2, fun S' H' W' d v e' b r q => ?_, fun S' H' W' cls x od e' b xr q => q.elim⟩
    exact hE S' H' ρ1 W' d v (e1.trans (e'.mono fun _ h => .inl h)) (c1.back e' b) r q
end

/-! ### the end -/
theorem walkX {l : PySem.W.OpenLaw} {n k : Nat} {q : Program} {loose : List Str} {XP : (Str → Option Value) → Heap → Prop} {YP : World → Heap → Prop} {d : DefRec} {K : PySem.Params → PySem.W.Frag} {CX : World → CXT} {sp : World → Sp} {x : Str}
    (hn : l.most = some n) (hn2 : n ≤ sizeLine) (hdf : d.params.defaults = []) (hr : Room k callerA)
    (hY : ∀ (w : World) (h : Heap), YP w h → (K w.params).In h)
    (F : ∀ (w : World) (mg : Str → Option Value) (fa : Addr) (h : Heap), XP mg h → (K w.params).In h → h.Ns mainGlobals mg → mg d.name = some (.ref fa) →
      ∃ fd : FuncData, (∀ (s : Shared) (u : Value), BindsTo s fd ⟨[u], []⟩ [(x, u)]) ∧ ∀ base : Heap, (K w.params).In base → base.Ns mainGlobals mg → FnOk l.prog w (K w.params) mg base (CX w) k fa fd [x] (sp w))
    (hsp : ∀ (w : World) (H : Hp) (a : Addr) (ns : List Int), ns.length ≤ n → (∀ z ∈ ns, Builtin.Int.intBits z ≤ 1048576) → Only H → SqL (K w.params) H a (ns.map V.int) → sp w [.ref a] H (fun v _ => v = .bl true) fun _ _ _ => False)
    (hCX : ∀ (w : World) (H : Hp) (s : Shared) (e : Value) (s' : Shared), CX w [] H s (fun _ _ _ => False) e s' → False) :
    PySem.W.WalkO q loose XP YP l.row.toRowW d [] (fun f vs => PySem.call f vs) := by
  refine Att.attach_callB hn hdf fun w s₀ s₁ mg mb fa o pm cd doc a vs ns GG Y ho hd hcd hmg hobj hints hlen hbits hg => ?_
  obtain ⟨fd, hb, hF⟩ := F w mg fa _ GG.X (hY w _ Y) GG.T.g hmg
  exact law_call (hY w _ Y) GG.T.g GG.T.b GG.T.builtins GG.T.nolimit hg hobj hints (Nat.le_trans hlen hn2) hr hF hb (fun H hO hS => hsp w H a ns hlen hbits hO hS) fun H e s' => hCX w H s₁ e s'
/-- a law: of a script of at most 63 numbers of at most 2 ^ 20 bits it gives True -/
def spTrue : SpD := fun ds _ Q _ => ∃ ns : List Int, ds = [.scr ns] ∧ ns.length ≤ 63 ∧ (∀ z ∈ ns, Builtin.Int.intBits z ≤ 1048576) ∧ ∀ W, Q (.bl true) W
theorem toSp_true {K : PySem.W.Frag} {H : Hp} {a : Addr} {ns : List Int} (h1 : ns.length ≤ 63) (h2 : ∀ z ∈ ns, Builtin.Int.intBits z ≤ 1048576) (hS : SqL K H a (ns.map V.int)) : toSp K 1 spTrue [.ref a] H (fun v _ => v = .bl true) fun _ _ _ => False := by
  have cb : Cb K (fun _ => False) (fun _ => False) H (fun _ => none) := ⟨fun _ h => h.elim, fun _ h => h, fun _ _ h => by cases h⟩
  refine ⟨_, _, _, [.scr ns], fun d _ => d = .bl true, fun _ _ _ => False, cb, Reps.cons (Rep.scr_iff.mpr ⟨a, rfl, ?_⟩) Reps.nil, rfl, ⟨ns, rfl, h1, h2, fun _ => rfl⟩, fun S' H' W' d v _ _ r e => ?_, fun _ _ _ _ _ _ _ _ _ h => h⟩
  · rcases hS with h | h
    · exact .inl ⟨h, fun z => z⟩
    · exact .inr (.inr h)
  · subst e
    exact Rep.v_iff.mp r
theorem cx_none {P : Program} {w : World} {H : Hp} {s s' : Shared} {e : Value} (h : L2.CX P w [] H s (fun _ _ _ => False) e s') : False := by
  obtain ⟨_, _, _, _, _, _, _, _, _, _, _, _, h⟩ := h
  exact h
/-- what a top reckoned -/
theorem loose_int {lv : List (Str × PySem.W.WData)} {p : Program} {mg : Str → Option Value} {h : Heap} {x : Str} {n : Int} (X : PySem.W.XL p lv mg h) (m : (x, PySem.W.WData.int n) ∈ lv) : ∃ u, mg x = some u ∧ RelV (.int n) u := by
  obtain ⟨v, h1, h2⟩ := X.2.val _ m
  refine ⟨v, h1, ?_⟩
  cases h2
  exact ⟨_, rfl⟩
end G

namespace G
open PySem PySem.Spec L2
section
variable {K : PySem.W.Frag}
/-! ### operators of several kinds at once -/
def dSub : D → D → (D → Prop) → Prop := d2J fun i j => .int (i - j)
def dFdv : D → D → (D → Prop) → Prop := d2I CDivW fun i j => .int (i / j)
def dMod : D → D → (D → Prop) → Prop := d2I (fun _ j => 0 < j) fun i j => .int (i % j)
def dPow : D → D → (D → Prop) → Prop := d2I CPow fun i j => .int (i ^ j.toNat)
def dMulA : D → D → (D → Prop) → Prop := fun d e Q => match d, e with
  | .v (.int i), .v (.int j) => CMulX i j ∧ Q (.int (i * j))
  | .lst i, .v (.int j) => -(2 ^ 63) ≤ j ∧ j < 2 ^ 63 ∧ i.length * j.toNat ≤ sizeLine ∧ Q (.lst (List.replicate j.toNat i).flatten)
  | .v (.str s), .v (.int n) => -(2 ^ 63) ≤ n ∧ n < 2 ^ 63 ∧ s.length * n.toNat ≤ sizeLine ∧ Q (.str (repS s n))
  | _, _ => False
def rMulA : R2 := fun x y H Q => (rI CMulX (fun i j => .int (i * j)) x y H Q ∨ rRep x y H Q) ∨ rRepS x y H Q
theorem rs_mulA : RSnd K rMulA dMulA := rs_imp (rs_or rs_mul rs_repS) fun d e Q h => by
  unfold dMulA at h
  split at h
  · exact .inl h
  · exact .inl h
  · exact .inr h
  · exact h.elim
theorem op_mulAll {X : Cx} : OpR X (binaryOp .Mult) rMulA := op_mulA.or op_repS
/-- the order of texts -/
def ltS (a b : Str) : Bool := decide (a.cps.toList < b.cps.toList)
def leS (a b : Str) : Bool := decide (a.cps.toList ≤ b.cps.toList)
def dCmp (g : Int → Int → Bool) (h : Str → Str → Bool) : D → D → (D → Prop) → Prop := fun d e Q => match d, e with
  | .v (.int i), .v (.int j) => Q (.bl (g i j))
  | .v (.str i), .v (.str j) => Q (.bl (h i j))
  | _, _ => False
def rCmp (g : Int → Int → Bool) (h : Str → Str → Bool) : R2 := fun x y H Q => rI0 (fun i j => .bl (g i j)) x y H Q ∨ (fun x y H Q => ∃ i j, x = .str i ∧ y = .str j ∧ Q (.bl (h i j)) H) x y H Q
theorem rs_cmp {g : Int → Int → Bool} {h : Str → Str → Bool} : RSnd K (rCmp g h) (dCmp g h) :=
  rs_imp (rs_or (rs_J (g := fun i j => .bl (g i j))) (rs_S (g := fun i j => .bl (h i j)))) fun d e Q q => by
    unfold dCmp at q
    split at q
    · exact .inl q
    · exact .inr q
    · exact q.elim
abbrev dLt := dCmp (fun i j => decide (i < j)) ltS
abbrev dLe := dCmp (fun i j => decide (i ≤ j)) (fun a b => !ltS b a)
abbrev dGt := dCmp (fun i j => decide (j < i)) (fun a b => ltS b a)
abbrev dGe := dCmp (fun i j => decide (j ≤ i)) (fun a b => !ltS a b)
end
section
variable {X : Cx}
theorem op_ltA : OpR X (compareOp .Lt) (rCmp (fun i j => decide (i < j)) ltS) := OpR.or op_lt op_lt_str
theorem op_leA : OpR X (compareOp .LtE) (rCmp (fun i j => decide (i ≤ j)) (fun a b => !ltS b a)) := OpR.or op_le op_le_str
theorem op_gtA : OpR X (compareOp .Gt) (rCmp (fun i j => decide (j < i)) (fun a b => ltS b a)) := OpR.or op_gt op_gt_str
theorem op_geA : OpR X (compareOp .GtE) (rCmp (fun i j => decide (j ≤ i)) (fun a b => !ltS a b)) := OpR.or op_ge op_ge_str
end
end G

namespace G
open PySem PySem.Spec L2
/-! ### readings in short -/
abbrev noX : KX := fun _ _ _ _ => False
/-- a def's reading keeps the promise -/
abbrev Rd (N : List Str) (m : Nat) (sp : SpD) (d : TSD) : Prop := ∀ ds W Qd Qx, ds.length = m → sp ds W Qd Qx → d { nx := fun _ W' => Qd .non W', rt := Qd, ex := fun cls x _ W' => Qx cls x W' } (ds.map (fun d => some (Sl.sh d)) ++ List.replicate (N.length - ds.length) none) W
/-- a comprehension by what holds of the list so far -/
theorem dLc_inv {fi : TID} {gd : TGD} {ft : TB} {fe : TD} {vs : List Nat} {ρ : Env} {W : Wd} {Q : KL} {Qx : KX} (ds : List D) (W0 : Wd) (I : Nat → List D → Wd → Prop) (hno : noOwn ρ vs) (hl : ds.length ≤ sizeLine) (hi : ∀ P : KL, P ds ρ W0 → fi ρ W P Qx) (h0 : I 0 [] W0)
    (hs : ∀ (i : Nat) d acc W, ds[i]? = some d → acc.length ≤ i → I i acc W → gd d (wipeD ρ vs) W fun ρ1 W1 => ft ρ1 W1 (fun b ρ2 W2 => ρ2 = ρ1 ∧ if b = true then fe ρ1 W2 (fun y ρ3 W3 => ρ3 = ρ1 ∧ I (i + 1) (acc ++ [y]) W3) noX else I (i + 1) acc W2) noX)
    (hd : ∀ acc W, acc.length ≤ ds.length → I ds.length acc W → Q acc ρ W) : dLc fi gd ft fe vs ρ W Q Qx := by
  unfold dLc
  exact ⟨hno, hi _ ⟨rfl, hl, I, h0, hs, hd⟩⟩
/-- every item gives one, the state is as it was -/
theorem dLc_map {fi : TID} {fe : TD} {i : Nat} {ρ : Env} {W : Wd} {Q : KL} {Qx : KX} (ds : List D) (g : D → D) (hno : noOwn ρ [i]) (hl : ds.length ≤ sizeLine) (hi : ∀ P : KL, P ds ρ W → fi ρ W P Qx)
    (he : ∀ d ∈ ds, ∀ P : KD, P (g d) ((ρ.set i none).set i (some (.sh d))) W → fe ((ρ.set i none).set i (some (.sh d))) W P noX) (hq : Q (ds.map g) ρ W) : dLc fi (gdName i) dYes fe [i] ρ W Q Qx := by
  refine dLc_inv ds W (fun j acc W' => W' = W ∧ acc = (ds.take j).map g) hno hl hi ⟨rfl, by simp⟩ (fun j d acc W' hj _ hI => ?_) (fun acc W' _ hI => ?_)
  · obtain ⟨rfl, rfl⟩ := hI
    refine ⟨rfl, ?_⟩
    show fe _ W' _ noX
    refine he d (List.mem_of_getElem? hj) _ ⟨rfl, rfl, ?_⟩
    have hlt := (List.getElem?_eq_some_iff.mp hj).1
    rw [List.take_add_one, hj]
    simp
  · obtain ⟨rfl, rfl⟩ := hI
    rw [List.take_length]
    exact hq
/-- .. with a test -/
theorem dLc_filter {fi : TID} {ft : TB} {fe : TD} {i : Nat} {ρ : Env} {W : Wd} {Q : KL} {Qx : KX} (ds : List D) (p : D → Bool) (g : D → D) (hno : noOwn ρ [i]) (hl : ds.length ≤ sizeLine) (hi : ∀ P : KL, P ds ρ W → fi ρ W P Qx)
    (ht : ∀ d ∈ ds, ∀ P : KB, P (p d) ((ρ.set i none).set i (some (.sh d))) W → ft ((ρ.set i none).set i (some (.sh d))) W P noX)
    (he : ∀ d ∈ ds, p d = true → ∀ P : KD, P (g d) ((ρ.set i none).set i (some (.sh d))) W → fe ((ρ.set i none).set i (some (.sh d))) W P noX) (hq : Q ((ds.filter p).map g) ρ W) : dLc fi (gdName i) ft fe [i] ρ W Q Qx := by
  refine dLc_inv ds W (fun j acc W' => W' = W ∧ acc = ((ds.take j).filter p).map g) hno hl hi ⟨rfl, by simp⟩ (fun j d acc W' hj _ hI => ?_) (fun acc W' _ hI => ?_)
  · obtain ⟨rfl, rfl⟩ := hI
    have hm := List.mem_of_getElem? hj
    refine ht d hm _ ⟨rfl, ?_⟩
    cases hp : p d with
    | true =>
      rw [if_pos rfl]
      refine he d hm hp _ ⟨rfl, rfl, ?_⟩
      rw [List.take_add_one, hj]
      simp [hp]
    | false =>
      rw [if_neg Bool.false_ne_true]
      refine ⟨rfl, ?_⟩
      rw [List.take_add_one, hj]
      simp [hp]
  · obtain ⟨rfl, rfl⟩ := hI
    rw [List.take_length]
    exact hq
/-- each turn keeps the state's word S and gives an item of which A holds -/
theorem dLc_each {fi : TID} {fe : TD} {i : Nat} {ρ : Env} {W : Wd} {Q : KL} {Qx : KX} (ds : List D) (S : Nat → Wd → Prop) (A : D → Prop) (hno : noOwn ρ [i]) (hl : ds.length ≤ sizeLine) (W0 : Wd) (hi : ∀ P : KL, P ds ρ W0 → fi ρ W P Qx) (h0 : S 0 W0)
    (he : ∀ (j : Nat) d W, ds[j]? = some d → S j W → ∀ P : KD, (∀ y W', A y → S (j + 1) W' → P y ((ρ.set i none).set i (some (.sh d))) W') → fe ((ρ.set i none).set i (some (.sh d))) W P noX)
    (hq : ∀ ys W', ys.length = ds.length → (∀ y ∈ ys, A y) → S ds.length W' → Q ys ρ W') : dLc fi (gdName i) dYes fe [i] ρ W Q Qx := by
  refine dLc_inv ds W0 (fun j acc W' => S j W' ∧ acc.length = j ∧ ∀ y ∈ acc, A y) hno hl hi ⟨h0, rfl, by simp⟩ (fun j d acc W' hj _ hI => ?_) (fun acc W' _ hI => hq acc W' hI.2.1 hI.2.2 hI.1)
  refine ⟨rfl, ?_⟩
  show fe _ W' _ noX
  refine he j d W' hj hI.1 _ fun y W2 ha hs => ⟨rfl, hs, by simp [hI.2.1], fun z hz => ?_⟩
  rcases List.mem_append.mp hz with hz | hz
  · exact hI.2.2 z hz
  · rw [List.mem_singleton.mp hz]; exact ha
theorem iScr_of {fe : TD} {ρ : Env} {W : Wd} {P : KL} {Qx : KX} {ns : List Int} (h : fe ρ W (fun d ρ' W' => match d with | .scr ns => P (ns.map D.int) ρ' W' | _ => False) Qx) : iScr fe ρ W P Qx := h
/-- == of the same data -/
theorem eqD_self {d : D} {n : Nat} (g : D.good n d = true) : eqD d d = true := by
  unfold eqD
  exact SeqAt.eqv_refl _ (lay_of g).1
/-! ### texts as lists of signs -/
def mkS (l : List Nat) : Str := ⟨l.toArray⟩
theorem tl_mkS (l : List Nat) : TL.tl (mkS l) = l := rfl
theorem mkS_tl (s : Str) : mkS (TL.tl s) = s := TL.mk_tl s
theorem len_mkS (l : List Nat) : (mkS l).length = l.length := by simp [mkS, Str.length]
theorem str_eq {s : Str} {l : List Nat} (h : TL.tl s = l) : s = mkS l := by rw [← h, mkS_tl]
theorem mkS_inj {l m : List Nat} : mkS l = mkS m ↔ l = m := ⟨fun h => by have := congrArg TL.tl h; exact this, fun h => by rw [h]⟩
theorem one_mkS (c : Nat) : (⟨#[c]⟩ : Str) = mkS [c] := rfl
theorem app_mkS (a b : List Nat) : mkS a ++ mkS b = mkS (a ++ b) := str_eq (by rw [TL.tl_append]; rfl)
theorem take_drop_min (l : List Nat) (a b : Nat) : (l.drop (min a l.length)).take (min b l.length - min a l.length) = (l.drop a).take (b - a) := by
  by_cases ha : a ≤ l.length
  · rw [Nat.min_eq_left ha]
    by_cases hb : b ≤ l.length
    · rw [Nat.min_eq_left hb]
    · rw [Nat.min_eq_right (by omega)]
      rw [List.take_of_length_le (by rw [List.length_drop]; omega), List.take_of_length_le (by rw [List.length_drop]; omega)]
  · rw [Nat.min_eq_right (by omega : l.length ≤ a), List.drop_length, List.drop_of_length_le (by omega : l.length ≤ a)]
    simp
theorem len_tl' (s : Str) : s.length = (TL.tl s).length := TL.len_tl s
theorem cut_ab (s : Str) (a b : Nat) : cutS s (some (a : Int)) (some (b : Int)) = mkS (((TL.tl s).drop a).take (b - a)) := by
  unfold cutS
  rw [HT.sIx_nat, HT.sIx_nat, len_tl', take_drop_min]
  rfl
theorem cut_a (s : Str) (a : Nat) : cutS s (some (a : Int)) none = mkS ((TL.tl s).drop a) := by
  unfold cutS
  rw [HT.sIx_nat, HT.sIx_none, len_tl']
  have := take_drop_min (TL.tl s) a (TL.tl s).length
  rw [Nat.min_self] at this
  rw [show s.cps.toList = TL.tl s from rfl, this]
  by_cases ha : a ≤ (TL.tl s).length
  · rw [List.take_of_length_le (by rw [List.length_drop]; omega)]; rfl
  · rw [List.drop_of_length_le (by omega)]; simp [mkS]
theorem cut_b (s : Str) (b : Nat) : cutS s none (some (b : Int)) = mkS ((TL.tl s).take b) := by
  unfold cutS
  rw [HT.sIx_nat, HT.sIx_none, len_tl']
  have := take_drop_min (TL.tl s) 0 b
  rw [Nat.zero_min] at this
  rw [show s.cps.toList = TL.tl s from rfl, this]
  simp [mkS]
theorem rep_mkS (s : Str) (n : Nat) : repS s (n : Int) = mkS (List.replicate n (TL.tl s)).flatten := by
  unfold repS
  rw [Int.toNat_natCast]; rfl
theorem ltS_mk (a b : List Nat) : ltS (mkS a) (mkS b) = decide (a < b) := rfl
theorem ltS_one (c d : Nat) : ltS (mkS [c]) (mkS [d]) = decide (c < d) := by
  rw [ltS_mk]
  by_cases h : c < d
  · rw [decide_eq_true h, decide_eq_true]
    exact List.Lex.rel h
  · rw [decide_eq_false h, decide_eq_false]
    intro q
    rw [List.cons_lt_cons_iff] at q
    rcases q with q | ⟨_, q⟩
    · exact h q
    · exact absurd q (List.not_lt_nil _)
theorem signs_mk (s : Str) : signs s = (TL.tl s).map fun c => D.str (mkS [c]) := rfl
theorem atI_of {α : Type} {l : List α} {i : Nat} {x : α} (h : l[i]? = some x) : atI l (i : Int) = some x := atI_nat h
theorem sz (n : Nat) (h : n ≤ 16777216) : n ≤ sizeLine := Nat.le_trans h (by decide)
theorem noOwn1 {ρ : Env} {i : Nat} (h : ∀ ds, ρ[i]? ≠ some (some (.ol ds))) : noOwn ρ [i] := fun j hj ds => by
  rw [List.mem_singleton.mp hj]; exact h ds
theorem all_map_true {α : Type} (l : List α) : ∃ bs, blsOf (l.map fun _ => D.bl true) = some bs ∧ bs.all id = true := by
  induction l with
  | nil => exact ⟨[], rfl, rfl⟩
  | cons a r ih =>
    obtain ⟨bs, h1, h2⟩ := ih
    exact ⟨true :: bs, by simp [blsOf, h1], by simpa using h2⟩
theorem bls_map {α : Type} (l : List α) (p : α → Bool) : blsOf (l.map fun x => D.bl (p x)) = some (l.map p) := by
  induction l with
  | nil => rfl
  | cons a r ih => simp [blsOf, ih]
end G
namespace G
open PySem PySem.Spec L2
theorem dFor_mk {fi : TID} {gd : TGD} {fb : TSD} {De : EndsD} {ρ : Env} {W : Wd} (h : fi ρ W (fun ds ρ0 W0 => ∃ I : Nat → Env → Wd → Prop, I 0 ρ0 W0 ∧
  (∀ (i : Nat) d ρ W, ds[i]? = some d → I i ρ W → gd d ρ W fun ρ' W' => fb { De with nx := I (i + 1), ct := I (i + 1), bk := De.nx } ρ' W') ∧ ∀ ρ W, I ds.length ρ W → De.nx ρ W) De.ex) : dFor fi gd fb De ρ W := by unfold dFor; exact h
theorem dFor_of {fi : TID} {gd : TGD} {fb : TSD} {De : EndsD} {ρ : Env} {W : Wd} (ds : List D) (I : Nat → Env → Wd → Prop) (hi : ∀ P : KL, P ds ρ W → fi ρ W P De.ex) (h0 : I 0 ρ W)
    (hs : ∀ (i : Nat) d ρ W, ds[i]? = some d → I i ρ W → gd d ρ W fun ρ' W' => fb { De with nx := I (i + 1), ct := I (i + 1), bk := De.nx } ρ' W') (hd : ∀ ρ W, I ds.length ρ W → De.nx ρ W) : dFor fi gd fb De ρ W :=
  dFor_mk (hi _ ⟨I, h0, hs, hd⟩)
theorem dWhile_of {fc : TB} {fb : TSD} {De : EndsD} {ρ : Env} {W : Wd} (I : Nat → Env → Wd → Prop) (m : Nat) (h0 : I m ρ W) (hs : ∀ m ρ W, I m ρ W → fc ρ W (fun b ρ' W' => if b = true then
  fb { De with nx := fun ρ2 W2 => ∃ m', m' < m ∧ I m' ρ2 W2, ct := fun ρ2 W2 => ∃ m', m' < m ∧ I m' ρ2 W2, bk := De.nx } ρ' W' else De.nx ρ' W') De.ex) : dWhile fc fb De ρ W := by unfold dWhile; exact ⟨I, ⟨m, h0⟩, hs⟩

theorem dEq_str {a b : Str} {Q : D → Prop} (h : Q (.bl (decide (a = b)))) : dEq (.str a) (.str b) Q := by
  have : decide (V.str a = V.str b) = decide (a = b) := by
    rw [Bool.eq_iff_iff, decide_eq_true_eq, decide_eq_true_eq]
    exact ⟨fun h => by injection h, fun h => by rw [h]⟩
  unfold dEq
  show (if scal _ _ = true then _ else _)
  rw [if_pos (rfl : scal _ _ = true), this]
  exact h
theorem dEq_int {a b : Int} {Q : D → Prop} (h : Q (.bl (decide (a = b)))) : dEq (.int a) (.int b) Q := by
  have : decide (V.int a = V.int b) = decide (a = b) := by
    rw [Bool.eq_iff_iff, decide_eq_true_eq, decide_eq_true_eq]
    exact ⟨fun h => by injection h, fun h => by rw [h]⟩
  unfold dEq
  show (if scal _ _ = true then _ else _)
  rw [if_pos (rfl : scal _ _ = true), this]
  exact h
/-- the same good data -/
theorem dEq_self {d : D} {Q : D → Prop} (g : D.good 64 d = true) (h : Q (.bl true)) : dEq d d Q := by
  have key : dEqN d d Q := ⟨g, g, by rw [eqD_self g]; exact h⟩
  cases d with
  | v x =>
    unfold dEq
    show (if scal x x = true then Q (.bl (decide (x = x))) else dEqN (.v x) (.v x) Q)
    split
    · rw [decide_eq_true rfl]; exact h
    · exact key
  | tup ds => unfold dEq; exact key
  | lst ds => unfold dEq; exact key
  | scr ds => unfold dEq; exact key
theorem dNe_self {d : D} {Q : D → Prop} (g : D.good 64 d = true) (h : Q (.bl false)) : dNe d d Q := by
  have key : dNeN d d Q := ⟨g, g, by rw [eqD_self g]; exact h⟩
  cases d with
  | v x =>
    unfold dNe
    show (if scal x x = true then Q (.bl (!decide (x = x))) else dNeN (.v x) (.v x) Q)
    split
    · rw [decide_eq_true rfl]; exact h
    · exact key
  | tup ds => unfold dNe; exact key
  | lst ds => unfold dNe; exact key
  | scr ds => unfold dNe; exact key
/-- .. the items known by B alone -/
theorem dLc_eachB {fi : TID} {fe : TD} {i : Nat} {ρ : Env} {W : Wd} {Q : KL} {Qx : KX} (B : List D → Wd → Prop) (S : Nat → Wd → Prop) (A : D → Prop) (hno : noOwn ρ [i]) (hi : ∀ P : KL, (∀ ds W0, B ds W0 → P ds ρ W0) → fi ρ W P Qx)
    (h0 : ∀ ds W0, B ds W0 → ds.length ≤ sizeLine ∧ S 0 W0)
    (he : ∀ ds W0, B ds W0 → ∀ (j : Nat) d W, ds[j]? = some d → S j W → ∀ P : KD, (∀ y W', A y → S (j + 1) W' → P y ((ρ.set i none).set i (some (.sh d))) W') → fe ((ρ.set i none).set i (some (.sh d))) W P noX)
    (hq : ∀ ds W0, B ds W0 → ∀ ys W', ys.length = ds.length → (∀ y ∈ ys, A y) → S ds.length W' → Q ys ρ W') : dLc fi (gdName i) dYes fe [i] ρ W Q Qx := by
  unfold dLc
  refine ⟨hno, hi _ fun ds W0 b => ⟨rfl, (h0 ds W0 b).1, fun j acc W' => S j W' ∧ acc.length = j ∧ ∀ y ∈ acc, A y, ⟨(h0 ds W0 b).2, rfl, by simp⟩, fun j d acc W' hj _ hI => ?_, fun acc W' _ hI => hq ds W0 b acc W' hI.2.1 hI.2.2 hI.1⟩⟩
  refine ⟨rfl, ?_⟩
  show fe _ W' _ noX
  refine he ds W0 b j d W' hj hI.1 _ fun y W2 ha hs => ⟨rfl, hs, by simp [hI.2.1], fun z hz => ?_⟩
  rcases List.mem_append.mp hz with hz | hz
  · exact hI.2.2 z hz
  · rw [List.mem_singleton.mp hz]; exact ha
theorem rng_len (lo : Int) (n : Nat) : (rng lo n).length = n := by unfold rng; rw [List.length_map, List.length_range]
/-- no promise at all -/
def spNo : SpD := fun _ _ _ _ => False
theorem cal_no {P : Program} {w : World} {K : PySem.W.Frag} {mg : Str → Option Value} {base : Heap} {k : Nat} {x : Str} {st : Stmt} {ps : List Str} (T : DefAt K mg x st ps) : Cal P w K mg base k x st ps spNo := by
  obtain ⟨f, fd, a, b, c⟩ := T
  have no : ∀ vs H Q E, toSp K ps.length spNo vs H Q E → False := fun vs H Q E h => by
    obtain ⟨_, _, _, _, _, _, _, _, _, h, _⟩ := h
    exact h
  exact ⟨f, fd, a, b, c, ⟨fun vs H Q E h => (no _ _ _ _ h).elim, fun A outer s H args us vs Q E _ _ _ _ h => (no _ _ _ _ h).elim⟩⟩
/-- the law's own def for the end -/
theorem law_fn {P : Program} {w : World} {K : PySem.W.Frag} {mg : Str → Option Value} {k : Nat} {x y : Str} {st : Stmt} {sp : SpD} {fa : Addr} (T : DefAt K mg x st [y])
    (hb : ∀ (kV doc pm : Value) (an : Option Addr) (cdv ct u : Value), bindArgs (PySem.W.fnOf x x (defArgs st) (defBody st) (defScope st) .none kV doc pm an cdv ct) ⟨[u], []⟩ = pure [(y, u)])
    (C : ∀ base : Heap, Cal P w K mg base k x st [y] sp) (hm : mg x = some (.ref fa)) :
    ∃ fd : FuncData, (∀ (s : Shared) (u : Value), BindsTo s fd ⟨[u], []⟩ [(y, u)]) ∧ ∀ base : Heap, FnOk P w K mg base (L2.CX P w) k fa fd [y] (toSp K 1 sp) := by
  obtain ⟨f, fd, a, F, c⟩ := T.ex
  have e := hm.symm.trans a
  cases e
  obtain ⟨oc, od, kV, doc, pm, an, cdv, ct, osl, e1, lk, hcd⟩ := F.ex
  refine ⟨fd, fun s u => .of_eq (by rw [e1]; exact hb kV doc pm an cdv ct u), fun base => ?_⟩
  obtain ⟨f2, fd2, a2, F2, c2, d2⟩ := (C base).ex
  have e2 := a.symm.trans a2
  cases e2
  obtain ⟨oc2, od2, kV2, doc2, pm2, an2, cdv2, ct2, osl2, e3, lk2, hcd2⟩ := F2.ex
  have e4 := lk.symm.trans lk2
  injection e4 with e4
  injection e4 with _ _ e4 _
  injection e4 with e4
  rw [e4]
  exact d2
end G

namespace G
open PySem PySem.Spec L2
section
variable {K : PySem.W.Frag} {F S : Reg} {H : Hp} {σ : St} {ρ : Env} {W : Wd}
/-- x += e -/
def dIadd : D → D → (D → Prop) → Prop := d2J fun i j => .int (i + j)
def dIsub : D → D → (D → Prop) → Prop := d2J fun i j => .int (i - j)
theorem rs_ip {g : Int → Int → Int} : RSnd K (ipI g) (d2J fun i j => .int (g i j)) := fun F S H W d e x y P R cb rd re hp k => by
  unfold d2J at hp
  split at hp
  · rw [Rep.v_iff] at rd re
    subst rd
    subst re
    exact ⟨_, _, rfl, rfl, k _ _ H (Same.refl H) (Rep.v_iff.mpr rfl) hp⟩
  · exact hp.elim
/-- the strange list comes back: it was nobody's, now it is a new one -/
theorem Cf.alienBack {S1 S2 : Reg} {H1 H2 : Hp} {p : Addr} {xs : List V} {acc : List D} (c1 : Cf K F S1 H1 σ ρ W) (hp : H1 p = none) {σ2 : St} {ρ2 : Env} {W2 : Wd} (e2 : Stp F S1 H1 S2 H2) (c2 : Cf K (Add F p) S2 H2 σ2 ρ2 W2) (r2 : Reps K S2 H2 acc xs) (hp2 : H2 p = some (.lst xs)) :
    Stp F S1 H1 (Rem S2 p) (del H2 p) ∧ Cf K F (Rem S2 p) (del H2 p) σ2 ρ2 W2 ∧ Reps K (Rem S2 p) (del H2 p) acc xs ∧ (del H2 p) p = none ∧ upd (del H2 p) p (.lst xs) = H2 := by
  have nF : ¬ F p := fun z => c1.cb.sd p (c1.cb.fs p z) hp
  have sp : S2 p := c2.cb.fs p (.inr rfl)
  refine ⟨⟨fun a o h1 h2 => ?_, fun a h1 h2 => e2.new a h1.1 h2, fun a h => ?_, fun a h => ?_⟩, c2.unalien nF, r2.del sp, del_same, upd_del hp2⟩
  · have : a ≠ p := fun z => by rw [z, hp] at h2; cases h2
    rw [del_ne this]; exact e2.keep a o h1 h2
  · by_cases ha : a = p
    · rw [ha]; exact hp
    · rw [del_ne ha] at h; exact e2.dom a h
  · rw [del_ne (fun (z : a = p) => nF (z ▸ h))]; exact e2.frn a h
end
section
variable {X : Cx} {Wx : WX} {st : Stmt} {rest : List Stmt} {f g : TSD} {e o a b c i : Expr} {es : List Expr} {fe fo fa fb fc fi : TD} {fl : TL} {pos : Pos}
theorem op_iadd : PIp X .Add (ipI fun i j => i + j) := ip_add
/-- x, y = [..], e: the list the frame's own -/
def dParO1 (i j : Nat) (fl : TL) (fe : TD) : TSD := fun De ρ W => fl ρ W (fun ds ρ1 W1 => fe ρ1 W1 (fun d ρ2 W2 => De.nx ((ρ2.set i (some (.ol ds))).set j (some (.sh d))) W2) noX) De.ex
theorem gs_parO1 {i j : Nat} {x y : Str} {px py pt : Pos} {kt k2 pt2} (hc : X.calm = true) (hN : X.N.Nodup) (hi : X.N[i]? = some x) (hj : X.N[j]? = some y) (hij : i ≠ j)
    (hx : X.env.scope.names.lookup x = some .local) (hy : X.env.scope.names.lookup y = some .local) (ha : GN X Wx a fl) (hb : GE X Wx b fe)
    (hw : swappedStores [.Tuple [.Name x px, .Name y py] kt pt] (.Tuple [a, b] k2 pt2) X.env = pure (some [x, y])) (he : starEach [a, b] X.env = (false, eval a X.env) :: starEach [b] X.env := by rfl) (he2 : starEach [b] X.env = (false, eval b X.env) :: starEach [] X.env := by rfl)
    (hs : swapsWithSole [.Tuple [.Name x px, .Name y py] kt pt] (.Tuple [a, b] k2 pt2) pos.line X.env = pure false := by rfl) :
    GS X Wx (.Assign [.Tuple [.Name x px, .Name y py] kt pt] (.Tuple [a, b] k2 pt2) pos) (dParO1 i j fl fe) := by
  obtain ⟨ta, pa, sa⟩ := ha
  obtain ⟨tb, pb, sb⟩ := hb
  refine ⟨_, ps_par hc hN hi hj hij hx hy (pa_cons pa (pa_cons pb pa_nil he2) he) hw hs, fun F S H σ ρ W De Dh cf hf l => ?_⟩
  refine sa F S H σ ρ W _ De.ex _ cf hf l.ex fun S1 H1 ρ1 W1 ds xs p e1 c1 r1 hp q1 => ?_
  obtain ⟨ea, ca⟩ := c1.alien (o := .lst xs) hp
  refine sb (Add F p) (Add S1 p) (upd H1 p (.lst xs)) σ ρ1 W1 _ noX _ ca q1 lkx_none fun S2 H2 ρ2 W2 d v e2 c2 r2 q2 => ?_
  refine ⟨_, _, rfl, ?_⟩
  have hp2 : H2 p = some (.lst xs) := (e2.frn p (.inr rfl)).trans upd_same
  have e2' := e2.mono (F' := F) fun _ h => .inl h
  have rr := (r1.up ea).up e2'
  obtain ⟨b1, b2, b3, b4, b5⟩ := c1.alienBack hp (ea.trans e2') c2 rr hp2
  have sp : S2 p := c2.cb.fs p (.inr rfl)
  have r2' := r2.del sp
  obtain ⟨st, c4⟩ := b2.newOl i b4 b3
  rw [b5] at st c4
  exact l.nx _ _ _ _ W2 ((e1.trans b1).trans st) (c4.setSh j (r2'.up st)) q2
/-- x, y = e, [..]: the list the frame's own -/
def dParO2 (i j : Nat) (fe : TD) (fl : TL) : TSD := fun De ρ W => fe ρ W (fun d ρ1 W1 => fl ρ1 W1 (fun ds ρ2 W2 => De.nx ((ρ2.set i (some (.sh d))).set j (some (.ol ds))) W2) De.ex) De.ex
theorem gs_parO2 {i j : Nat} {x y : Str} {px py pt : Pos} {kt k2 pt2} (hc : X.calm = true) (hN : X.N.Nodup) (hi : X.N[i]? = some x) (hj : X.N[j]? = some y) (hij : i ≠ j)
    (hx : X.env.scope.names.lookup x = some .local) (hy : X.env.scope.names.lookup y = some .local) (ha : GE X Wx a fe) (hb : GN X Wx b fl)
    (hw : swappedStores [.Tuple [.Name x px, .Name y py] kt pt] (.Tuple [a, b] k2 pt2) X.env = pure (some [x, y])) (he : starEach [a, b] X.env = (false, eval a X.env) :: starEach [b] X.env := by rfl) (he2 : starEach [b] X.env = (false, eval b X.env) :: starEach [] X.env := by rfl)
    (hs : swapsWithSole [.Tuple [.Name x px, .Name y py] kt pt] (.Tuple [a, b] k2 pt2) pos.line X.env = pure false := by rfl) :
    GS X Wx (.Assign [.Tuple [.Name x px, .Name y py] kt pt] (.Tuple [a, b] k2 pt2) pos) (dParO2 i j fe fl) := by
  obtain ⟨ta, pa, sa⟩ := ha
  obtain ⟨tb, pb, sb⟩ := hb
  refine ⟨_, ps_par hc hN hi hj hij hx hy (pa_cons pa (pa_cons pb pa_nil he2) he) hw hs, fun F S H σ ρ W De Dh cf hf l => ?_⟩
  refine sa F S H σ ρ W _ De.ex _ cf hf l.ex fun S1 H1 ρ1 W1 d v e1 c1 r1 q1 => ?_
  refine sb F S1 H1 σ ρ1 W1 _ De.ex _ c1 q1 (l.ex.up e1) fun S2 H2 ρ2 W2 ds xs p e2 c2 r2 hp q2 => ?_
  refine ⟨_, _, rfl, ?_⟩
  obtain ⟨st, c4⟩ := (c2.setSh i (r1.up e2)).newOl j hp r2
  exact l.nx _ _ _ _ W2 ((e1.trans e2).trans st) c4 q2
/-- a new list that others may hold and change -/
def dNewW (fl : TL) : TD := fun ρ W Q Qx => fl ρ W (fun ds ρ' W' => ∀ p, W' p = none → Q (.ref p) ρ' (updW W' p (.lst ds))) Qx
theorem ge_newW (he : GN X Wx e fl) : GE X Wx e (dNewW fl) := by
  obtain ⟨te, pe, se⟩ := he
  refine ⟨_, pe, fun F S H σ ρ W Q Qx R cf hf hx hE => ?_⟩
  refine se F S H σ ρ W _ Qx _ cf hf hx fun S' H' ρ' W' ds xs p e' c r hp q => ?_
  obtain ⟨hw, st, c2⟩ := c.newW hp r
  exact hE _ _ ρ' _ _ _ (e'.trans st) c2 (Rep.v_iff.mpr rfl) (q p hw)
/-- list(x), a new one -/
def itemsOf : D → Option (List D)
  | .lst ds => some ds
  | .tup ds => some ds
  | .scr ns => some (ns.map D.int)
  | _ => none
def dListN (fe : TD) : TL := fun ρ W Q Qx => fe ρ W (fun d ρ' W' => ∃ ds, itemsOf d = some ds ∧ Q ds ρ' W') Qx
theorem gn_list {x : Str} {p : Pos} (hg : Gl X x) (hm : X.mg x = none) (hv : bootBuiltins x = some (.type "list")) (ha : GE X Wx e fe) (hn : x ≠ "__name__" := by decide) (hdb : (x == ("__debug__" : Str)) = false := by decide)
    (he : starEach [e] X.env = (false, eval e X.env) :: starEach [] X.env := by rfl) (hpl : (backTo pos (starEach [] X.env)).any (·.1) = false := by rfl) : GN X Wx (.Call (.Name x p) [e] [] pos) (dListN fe) := by
  obtain ⟨te, pe, se⟩ := ha
  refine ⟨_, pe_callTy call_list_of hg hm hv (pa_cons pe pa_nil he) hn hdb he hpl, fun F S H σ ρ W Q Qx R cf hf hx hE => ?_⟩
  refine se F S H σ ρ W _ Qx _ cf hf hx fun S' H' ρ' W' d v e' c r q => ?_
  obtain ⟨ds, e1, q⟩ := q
  have key : ∃ p ys, v = .ref p ∧ (SqL X.K H' p ys ∨ SqT X.K H' p ys) ∧ Reps X.K S' H' ds ys := by
    cases d with
    | v x => cases e1
    | tup xs =>
      cases e1
      obtain ⟨a, ys, rfl, h1, h2⟩ := Rep.tup_iff.mp r
      exact ⟨a, ys, rfl, .inr h1.sq, h2⟩
    | lst xs =>
      cases e1
      obtain ⟨a, ys, rfl, h1, h2⟩ := Rep.lst_iff.mp r
      exact ⟨a, ys, rfl, .inl h1.sq, h2⟩
    | scr ns =>
      cases e1
      obtain ⟨a, rfl, h1⟩ := Rep.scr_iff.mp r
      refine ⟨a, _, rfl, .inl h1.sq, ?_⟩
      have := Reps.map_v (K := X.K) (S := S') (H := H') (ns.map V.int)
      rw [List.map_map] at this
      exact this
  obtain ⟨p, ys, rfl, h1, h2⟩ := key
  exact ⟨p, ys, rfl, h1, fun l hl => hE S' H' ρ' W' ds ys l e' c h2 hl q⟩
/-- p.pop(i) for its value -/
def dPopE (fo fi : TD) : TD := fun ρ W Q Qx => fo ρ W (fun x ρ1 W1 => (∃ p ds, x = .ref p ∧ W1 p = some (.lst ds)) ∧ fi ρ1 W1 (fun y ρ2 W2 => match x, y with
  | .v (.ref p), .v (.int k) => ∃ ds j z, W2 p = some (.lst ds) ∧ -(2 ^ 63) ≤ k ∧ k < 2 ^ 63 ∧ seqIndex? k ds.length = some j ∧ ds[j]? = some z ∧ Q z ρ2 (updW W2 p (.lst (ds.eraseIdx j)))
  | _, _ => False) Qx) Qx
theorem ge_popE {apos cpos : Pos} (ho : GE X Wx o fo) (hi : GE X Wx i fi) (hbase : attributeBase o "pop" X.env (eval o X.env) = eval o X.env := by rfl)
    (hfew : ((backTo cpos (starEach (i :: []) X.env)).all (fun x => !x.1) && (backToKw cpos (keywordEach [] X.env)).all (fun x => x.1.isSome) && decide ((i :: ([] : List Expr)).length + ([] : List Keyword).length + (if ([] : List Keyword).isEmpty then 0 else 1) < 30)) = true := by rfl)
    (hline : (apos.endLine == cpos.line) = true := by rfl) (hse : starEach (i :: []) X.env = (false, eval i X.env) :: starEach [] X.env := by rfl) (hplain : (backTo cpos (starEach [] X.env)).any (·.1) = false := by rfl) :
    GE X Wx (.Call (.Attribute o "pop" apos) [i] [] cpos) (dPopE fo fi) := by
  obtain ⟨to, po, so⟩ := ho
  obtain ⟨ti, pi, si⟩ := hi
  refine ⟨_, pe_bm PySem.F.plainAttrs_list PySem.F.slot_list_pop PySem.F.type_list_pop mt_popAt po (pa_cons pi pa_nil hse) hbase hfew hline hse hplain, fun F S H σ ρ W Q Qx R cf hf hx hE => ?_⟩
  refine so F S H σ ρ W _ Qx _ cf hf hx fun S1 H1 ρ1 W1 d v e1 c1 r1 q1 => ?_
  obtain ⟨⟨p0, ds0, rfl, hw0⟩, q1⟩ := q1
  obtain ⟨_, _, xs0, h0, _⟩ := c1.cb.w p0 _ hw0
  have ev := Rep.v_iff.mp r1
  subst ev
  refine ⟨.inl ⟨rfl, xs0, SqL.of h0⟩, ?_⟩
  refine si F S1 H1 σ ρ1 W1 _ Qx _ c1 q1 (hx.up e1) fun S2 H2 ρ2 W2 d2 v2 e2 c2 r2 q2 => ?_
  split at q2
  · rename_i p k he
    cases he
    obtain ⟨ds, j, z, hw, hk1, hk2, hj, hz, q⟩ := q2
    obtain ⟨_, _, xs, h1, h2⟩ := c2.cb.w p0 _ hw
    obtain ⟨v, hv, rv⟩ := h2.get hz
    refine ⟨p0, xs, k, j, v, rfl, by rw [Rep.v_iff.mp r2], h1, hk1, hk2, by rw [h2.length]; exact hj, hv, ?_⟩
    obtain ⟨st, c4⟩ := c2.chW (o := .lst (ds.eraseIdx j)) (u := .lst (xs.eraseIdx j)) hw fun S' H' e' hp => ⟨_, hp, (Reps.erase j h2).up e'⟩
    exact hE _ _ _ _ _ _ ((e1.trans e2).trans st) c4 (rv.up st) q
  · exact q2.elim
end
/-- one statement, then the rest from what I says -/
theorem seq_gen {f g : TSD} {De : EndsD} {ρ : Env} {W : Wd} (I : Env → Wd → Prop) (hg : ∀ ρ W, I ρ W → g De ρ W) (hf : ∀ N : KS, (∀ ρ W, I ρ W → N ρ W) → f { De with nx := N } ρ W) : dSeq f g De ρ W := hf (g De) hg
theorem ite_t {A B : Prop} (h : A) : if true = true then A else B := by rw [if_pos rfl]; exact h
theorem ite_f {A B : Prop} (h : B) : if false = true then A else B := by rw [if_neg Bool.false_ne_true]; exact h
theorem ite_b {b : Bool} {A B : Prop} (h1 : b = true → A) (h2 : b = false → B) : if b = true then A else B := by
  cases b with
  | true => exact ite_t (h1 rfl)
  | false => exact ite_f (h2 rfl)
theorem ite_d {p : Prop} [Decidable p] {A B : Prop} (h1 : p → A) (h2 : ¬ p → B) : if decide p = true then A else B := by
  by_cases h : p
  · rw [decide_eq_true h]; exact ite_t (h1 h)
  · rw [decide_eq_false h]; exact ite_f (h2 h)
theorem ite_n {p : Prop} [Decidable p] {A B : Prop} (h1 : ¬ p → A) (h2 : p → B) : if (!decide p) = true then A else B := by
  by_cases h : p
  · rw [decide_eq_true h]; exact ite_f (h2 h)
  · rw [decide_eq_false h]; exact ite_t (h1 h)
end G

namespace G
open PySem PySem.Spec L2 PyProof.Rows
section
variable {prog : Program} {w : World} {A : Around} {E : Value → Shared → Prop} {s : Shared} {l : Addr} {xs : Array (Int × Tok)}
/-- a tuple of ints walked by min, max -/
theorem iter_intTup {Q : Value → Shared → Prop} (hl : s.heap.IsTuple l (intItems xs))
    (h : ∀ s₂ : Shared, s₂ = { s with heap := s.heap.push { cls := .type "tuple_iterator", data := .fields #[.ref l, .int 0 0] } } →
      (s₂.heap.IsTupleIter s.heap.objs.size l 0 ∧ s₂.heap.IsTuple l (intItems xs)) → (∀ b ∈ [s.heap.objs.size, l], b < s₂.heap.objs.size) → l ≠ s.heap.objs.size → Q (.ref s.heap.objs.size) s₂) :
    wpAny (model prog w) A (pyIter (.ref l)) Q E s := by
  have hlt : l < s.heap.objs.size := by obtain ⟨_, e, _⟩ := hl; exact Heap.lt_size e
  refine wpAny_pyIter_tuple hl (h _ rfl ⟨⟨_, Heap.get?_push_size _ rfl, rfl, rfl⟩, hl.push _⟩ (fun b hb => ?_) (Nat.ne_of_lt hlt))
  show b < (s.heap.push _).objs.size
  rw [Heap.size_push]
  simp only [List.mem_cons, List.not_mem_nil, or_false] at hb
  rcases hb with rfl | rfl
  · exact Nat.lt_succ_self _
  · exact Nat.lt_succ_of_lt hlt
theorem old_keptT {h' : Heap} (hk : ∀ b o, b ∉ [s.heap.objs.size] → (s.heap.push { cls := .type "tuple_iterator", data := .fields #[.ref l, .int 0 0] }).get? b = some o → h'.get? b = some o) :
    ∀ b o, s.heap.get? b = some o → h'.get? b = some o := fun b o e => by
  refine hk b o (fun hm => ?_) (Heap.get?_push_of_some _ e)
  rw [List.mem_singleton.mp hm] at e
  exact absurd (Heap.lt_size e) (Nat.lt_irrefl _)
theorem max_intTup {Q : Value → Shared → Prop} (hh : A.handled = none) (hl : s.heap.IsTuple l (intItems xs)) (hne : 0 < xs.size)
    (h : ∀ v h' tk, (intItems xs)[argBest (fun i j => decide (numAt xs i > numAt xs j)) (xs.size - 1)]? = some v → (∀ b o, s.heap.get? b = some o → h'.get? b = some o) → Q v { s with heap := h', toks := tk }) :
    wpAny (model prog w) A (call (.builtin "max") [.ref l]) Q E s := by
  refine call_max_walk (iter_intTup hl fun s₂ e st hfp hlI => ?_)
  subst e
  refine ⟨_, _, _, _, _, _, _, rfl, Walks.tuple (A := A.in1) hh _ l hlI (intItems xs), st, hfp, by simpa [intItems] using hne, CmpOf.ints_gt (numAt xs) (fun _ _ => intItems_at), fun v h' tk hP hk => ?_⟩
  exact h v h' tk (by simpa [intItems] using hP) (old_keptT hk)
theorem min_intTup {Q : Value → Shared → Prop} (hh : A.handled = none) (hl : s.heap.IsTuple l (intItems xs)) (hne : 0 < xs.size)
    (h : ∀ v h' tk, (intItems xs)[argBest (fun i j => decide (numAt xs i < numAt xs j)) (xs.size - 1)]? = some v → (∀ b o, s.heap.get? b = some o → h'.get? b = some o) → Q v { s with heap := h', toks := tk }) :
    wpAny (model prog w) A (call (.builtin "min") [.ref l]) Q E s := by
  refine call_min_walk (iter_intTup hl fun s₂ e st hfp hlI => ?_)
  subst e
  refine ⟨_, _, _, _, _, _, _, rfl, Walks.tuple (A := A.in1) hh _ l hlI (intItems xs), st, hfp, by simpa [intItems] using hne, CmpOf.ints_lt (numAt xs) (fun _ _ => intItems_at), fun v h' tk hP hk => ?_⟩
  exact h v h' tk (by simpa [intItems] using hP) (old_keptT hk)
variable {its : List Value} {ns : List Int}
theorem max_rawT {Q : Value → Shared → Prop} (hh : A.handled = none) (hl : s.heap.IsTuple l its.toArray) (hi : IntsAre its ns) (hne : 0 < ns.length)
    (h : ∀ h' tk M t', (∀ b o, s.heap.get? b = some o → h'.get? b = some o) → M ∈ ns → (∀ a, a ∈ ns → a ≤ M) → Q (.int M t') { s with heap := h', toks := tk }) : wpAny (model prog w) A (call (.builtin "max") [.ref l]) Q E s := by
  obtain ⟨xs, e⟩ := hi.allInts.items
  have hn : numsOf (intItems xs).toList = ns := by rw [← e]; exact hi.numsOf
  rw [nums_intItems] at hn
  subst hn
  rw [e] at hl
  have hsz : 0 < xs.size := by simpa using hne
  refine max_intTup hh hl hsz fun v h' tk hv hk => ?_
  obtain ⟨t, rfl⟩ := intItems_at hv
  obtain ⟨h1, h2⟩ := argBest_gt (numAt xs) (xs.size - 1)
  refine h h' tk _ t hk ?_ fun a ha => ?_
  · rw [numAt_eq]; exact PySem.getD_mem (by rw [List.length_map, Array.length_toList]; omega)
  · obtain ⟨j, hj, rfl⟩ := mem_getD ha
    rw [List.length_map, Array.length_toList] at hj
    rw [← numAt_eq]; exact h2 j (by omega)
theorem min_rawT {Q : Value → Shared → Prop} (hh : A.handled = none) (hl : s.heap.IsTuple l its.toArray) (hi : IntsAre its ns) (hne : 0 < ns.length)
    (h : ∀ h' tk M t', (∀ b o, s.heap.get? b = some o → h'.get? b = some o) → M ∈ ns → (∀ a, a ∈ ns → M ≤ a) → Q (.int M t') { s with heap := h', toks := tk }) : wpAny (model prog w) A (call (.builtin "min") [.ref l]) Q E s := by
  obtain ⟨xs, e⟩ := hi.allInts.items
  have hn : numsOf (intItems xs).toList = ns := by rw [← e]; exact hi.numsOf
  rw [nums_intItems] at hn
  subst hn
  rw [e] at hl
  have hsz : 0 < xs.size := by simpa using hne
  refine min_intTup hh hl hsz fun v h' tk hv hk => ?_
  obtain ⟨t, rfl⟩ := intItems_at hv
  obtain ⟨h1, h2⟩ := argBest_lt (numAt xs) (xs.size - 1)
  refine h h' tk _ t hk ?_ fun a ha => ?_
  · rw [numAt_eq]; exact PySem.getD_mem (by rw [List.length_map, Array.length_toList]; omega)
  · obtain ⟨j, hj, rfl⟩ := mem_getD ha
    rw [List.length_map, Array.length_toList] at hj
    rw [← numAt_eq]; exact h2 j (by omega)
end
section
variable {X : Cx}
def rMaxT (K : PySem.W.Frag) : List V → Hp → VK → Prop := fun vs H Q => ∃ (a : Addr) (ns : List Int), vs = [V.ref a] ∧ SqT K H a (ns.map V.int) ∧ 0 < ns.length ∧ ∀ m, m ∈ ns → (∀ y, y ∈ ns → y ≤ m) → Q (.int m) H
def rMinT (K : PySem.W.Frag) : List V → Hp → VK → Prop := fun vs H Q => ∃ (a : Addr) (ns : List Int), vs = [V.ref a] ∧ SqT K H a (ns.map V.int) ∧ 0 < ns.length ∧ ∀ m, m ∈ ns → (∀ y, y ∈ ns → m ≤ y) → Q (.int m) H
theorem cr_maxT (hc : X.calm = true) : CallR X (.builtin "max") (rMaxT X.K) := by
  intro pins s σ H vs us Q I r h
  obtain ⟨a, ns, rfl, hs, hne, q⟩ := h
  obtain ⟨its, rv, hl, _⟩ := I.tuple hs
  rw [Vals.ref1 r]
  exact max_rawT (I.ok.hd hc) hl rv.ints hne fun h' tk m t' hk h1 h2 => ⟨.int _, H, I.kept hk, ⟨_, rfl⟩, q m h1 h2⟩
theorem cr_minT (hc : X.calm = true) : CallR X (.builtin "min") (rMinT X.K) := by
  intro pins s σ H vs us Q I r h
  obtain ⟨a, ns, rfl, hs, hne, q⟩ := h
  obtain ⟨its, rv, hl, _⟩ := I.tuple hs
  rw [Vals.ref1 r]
  exact min_rawT (I.ok.hd hc) hl rv.ints hne fun h' tk m t' hk h1 h2 => ⟨.int _, H, I.kept hk, ⟨_, rfl⟩, q m h1 h2⟩
theorem cr_maxA (hc : X.calm = true) : CallR X (.builtin "max") (fun xs H Q => rMax X.K xs H Q ∨ rMaxT X.K xs H Q) := CallR.or (cr_max hc) (cr_maxT hc)
theorem cr_minA (hc : X.calm = true) : CallR X (.builtin "min") (fun xs H Q => rMin X.K xs H Q ∨ rMinT X.K xs H Q) := CallR.or (cr_min hc) (cr_minT hc)
def dMin1A : List D → (D → Prop) → Prop := fun ds Q => match ds with
  | [.lst xs] => ∃ ns, intsOf xs = some ns ∧ 0 < ns.length ∧ ∀ m, m ∈ ns → (∀ y, y ∈ ns → m ≤ y) → Q (.int m)
  | [.tup xs] => ∃ ns, intsOf xs = some ns ∧ 0 < ns.length ∧ ∀ m, m ∈ ns → (∀ y, y ∈ ns → m ≤ y) → Q (.int m)
  | _ => False
def dMax1A : List D → (D → Prop) → Prop := fun ds Q => match ds with
  | [.lst xs] => ∃ ns, intsOf xs = some ns ∧ 0 < ns.length ∧ ∀ m, m ∈ ns → (∀ y, y ∈ ns → y ≤ m) → Q (.int m)
  | [.tup xs] => ∃ ns, intsOf xs = some ns ∧ 0 < ns.length ∧ ∀ m, m ∈ ns → (∀ y, y ∈ ns → y ≤ m) → Q (.int m)
  | _ => False
variable {K : PySem.W.Frag}
theorem cs_min1A : CSnd K (fun xs H Q => rMin K xs H Q ∨ rMinT K xs H Q) dMin1A := fun F S H W ds xs P R cb rd hp k => by
  unfold dMin1A at hp
  split at hp
  · obtain ⟨x, rfl, h⟩ := reps1 rd
    obtain ⟨a, ys, rfl, h1, h2⟩ := Rep.lst_iff.mp h
    obtain ⟨bs, hb, hl, hp⟩ := hp
    rw [reps_ints hb h2] at h1
    exact .inl ⟨a, bs, rfl, h1.sq, hl, fun m m1 m2 => k _ _ H (Same.refl H) (Rep.v_iff.mpr rfl) (hp m m1 m2)⟩
  · obtain ⟨x, rfl, h⟩ := reps1 rd
    obtain ⟨a, ys, rfl, h1, h2⟩ := Rep.tup_iff.mp h
    obtain ⟨bs, hb, hl, hp⟩ := hp
    rw [reps_ints hb h2] at h1
    exact .inr ⟨a, bs, rfl, h1.sq, hl, fun m m1 m2 => k _ _ H (Same.refl H) (Rep.v_iff.mpr rfl) (hp m m1 m2)⟩
  · exact hp.elim
theorem cs_max1A : CSnd K (fun xs H Q => rMax K xs H Q ∨ rMaxT K xs H Q) dMax1A := fun F S H W ds xs P R cb rd hp k => by
  unfold dMax1A at hp
  split at hp
  · obtain ⟨x, rfl, h⟩ := reps1 rd
    obtain ⟨a, ys, rfl, h1, h2⟩ := Rep.lst_iff.mp h
    obtain ⟨bs, hb, hl, hp⟩ := hp
    rw [reps_ints hb h2] at h1
    exact .inl ⟨a, bs, rfl, h1.sq, hl, fun m m1 m2 => k _ _ H (Same.refl H) (Rep.v_iff.mpr rfl) (hp m m1 m2)⟩
  · obtain ⟨x, rfl, h⟩ := reps1 rd
    obtain ⟨a, ys, rfl, h1, h2⟩ := Rep.tup_iff.mp h
    obtain ⟨bs, hb, hl, hp⟩ := hp
    rw [reps_ints hb h2] at h1
    exact .inr ⟨a, bs, rfl, h1.sq, hl, fun m m1 m2 => k _ _ H (Same.refl H) (Rep.v_iff.mpr rfl) (hp m m1 m2)⟩
  · exact hp.elim
end
end G

namespace C
open PySem PySem.Spec L2 G TL
def Printable (s : Str) : Prop := ∀ c ∈ tl s, 32 ≤ c ∧ c ≤ 126
/-- the k digits of n -/
def digs : Nat → Nat → List Nat
  | 0, _ => []
  | k + 1, n => digs k (n / 10) ++ [48 + n % 10]
def isDig (c : Nat) : Bool := decide (48 ≤ c) && decide (c ≤ 57)
def numIn (l : List Nat) (at_ k : Nat) : Int :=
  if ((l.drop at_).take k).length < k ∨ ((l.drop at_).take k).all isDig = false then -1 else ((NumText.digitsVal ((l.drop at_).take k) : Nat) : Int)
theorem so_sp : Str.ofString " " = mkS [32] := by decide +kernel
theorem so_ti : Str.ofString "~" = mkS [126] := by decide +kernel
theorem so_0 : Str.ofString "0" = mkS [48] := by decide +kernel
theorem so_9 : Str.ofString "9" = mkS [57] := by decide +kernel
theorem so_pl : Str.ofString "+" = mkS [43] := by decide +kernel
theorem so_dot : Str.ofString "." = mkS [46] := by decide +kernel
theorem digs_len : ∀ (k n : Nat), (digs k n).length = k
  | 0, _ => rfl
  | k + 1, n => by rw [digs, List.length_append, digs_len k]; rfl
theorem pad_digs : ∀ (k n : Nat), 0 < k → n < 10 ^ k → List.replicate (k - (numL n).length) 48 ++ numL n = digs k n
  | 0, _, h, _ => absurd h (by decide)
  | 1, n, _, h => by
    have h' : n < 10 := by simpa using h
    rw [numL_lt h', digs, digs]
    simp [Nat.mod_eq_of_lt h']
  | k + 2, n, _, h => by
    have h2 : n / 10 < 10 ^ (k + 1) := by
      rw [Nat.div_lt_iff_lt_mul (by decide)]
      rw [Nat.pow_succ] at h; exact h
    rw [digs, ← pad_digs (k + 1) (n / 10) (by omega) h2]
    by_cases h10 : n < 10
    · have : n / 10 = 0 := Nat.div_eq_of_lt h10
      rw [this, numL_lt h10, numL_lt (by decide : 0 < 10), Nat.mod_eq_of_lt h10]
      show List.replicate (k + 1) 48 ++ [48 + n] = (List.replicate k 48 ++ [48]) ++ [48 + n]
      rw [List.replicate_succ']
    · rw [numL_step (by omega : 10 ≤ n), List.length_append, ← List.append_assoc]
      congr 2
      congr 1
      show k + 2 - ((numL (n / 10)).length + 1) = _
      omega
theorem log2_small {n k : Nat} (h : n < 2 ^ k) (hk : 0 < k) : n.log2 < k := by
  by_cases h0 : n = 0
  · rw [h0]; exact hk
  · exact (Nat.log2_lt h0).mpr h
theorem ten_le_two : ∀ k : Nat, 10 ^ k ≤ 2 ^ (4 * k)
  | 0 => by decide
  | k + 1 => by
    have e : 2 ^ (4 * (k + 1)) = 2 ^ (4 * k) * 2 ^ 4 := by rw [← Nat.pow_add]; rfl
    rw [e, Nat.pow_succ]
    exact Nat.mul_le_mul (ten_le_two k) (by decide)
theorem rjust_tl (n k : Nat) (hk : 0 < k) (h : n < 10 ^ k) : Txt.rjustF (toString ((n : Nat) : Int) : String) (k : Int) 48 = mkS (digs k n) := by
  refine str_eq ?_
  rw [← pad_digs k n hk h]
  have hl : (Str.ofString (toString ((n : Nat) : Int))).length = (numL n).length := by rw [len_tl, tl_num]
  unfold Txt.rjustF
  split
  · rename_i h1
    rw [hl] at h1
    rw [tl_num, show k - (numL n).length = 0 by omega]
    rfl
  · rename_i h1
    rw [hl] at h1
    unfold Builtin.Str.padded
    rw [hl]
    show (Array.replicate _ 48 ++ (Str.ofString (toString ((n : Nat) : Int))).cps ++ Array.replicate 0 48).toList = _
    simp only [Array.toList_append, Array.toList_replicate, List.replicate_zero, List.append_nil]
    rw [Int.toNat_natCast]
    congr 1
    exact tl_num n
theorem pad_ok : ∀ k : Fin 101, PySem.PadOk ((k.val : Nat) : Int) = true := by decide +kernel
theorem isDig_all {l : List Nat} (h : l.all isDig = true) : NumText.AllDigits l := fun c hc => by
  have := List.all_eq_true.mp h c hc
  unfold isDig at this
  rw [Bool.and_eq_true, decide_eq_true_eq, decide_eq_true_eq] at this
  exact this
theorem numIn_range (l : List Nat) (a k : Nat) : -1 ≤ numIn l a k := by
  unfold numIn
  split <;> omega
theorem inV2 (z a b : List Nat) : inV (.str (mkS z)) [.str (mkS a), .str (mkS b)] = (decide (z = a) || decide (z = b)) := by
  have e : ∀ x y : List Nat, eqV (.str (mkS x)) (.str (mkS y)) = decide (y = x) := fun x y => by
    show ((mkS x) == (mkS y)) = _
    rw [Bool.eq_iff_iff, beq_iff_eq, decide_eq_true_eq, mkS_inj, eq_comm]
  unfold inV
  rw [List.any_cons, List.any_cons, List.any_nil, e, e, Bool.or_false]
theorem rgc_up {b c : Nat} (hc : 0 < c) (hc2 : c < 1073741824) (hb : b < 1073741824) : RgC 0 b c ((b + c - 1) / c) := by
  have fit : ∀ i : Int, -(2 ^ 62) ≤ i → i < 2 ^ 62 → Builtin.Range.rangeFitsLong i = true := fun i h1 h2 => by
    unfold Builtin.Range.rangeFitsLong
    simp
    omega
  have e : Builtin.Range.rangeSize 0 (b : Int) (c : Int) = (((b + c - 1) / c : Nat) : Int) := by
    unfold Builtin.Range.rangeSize
    rw [if_pos (by omega)]
    by_cases h0 : b = 0
    · subst h0
      rw [if_neg (by omega), Nat.div_eq_of_lt (by omega)]
      rfl
    · rw [if_pos (by omega)]
      have h1 : (b : Int) - 0 - 1 = ((b - 1 : Nat) : Int) := by omega
      have h2 : (b + c - 1) / c = (b - 1) / c + 1 := by
        rw [show b + c - 1 = (b - 1) + c by omega, Nat.add_div_right _ hc]
      rw [h1, h2, ← Int.natCast_ediv]
      rfl
  have hle : (b + c - 1) / c ≤ b + c := Nat.le_trans (Nat.div_le_self _ _) (by omega)
  generalize (b + c - 1) / c = q at e hle ⊢
  refine ⟨by omega, by omega, ?_, e⟩
  unfold Builtin.Range.small
  rw [e, fit 0 (by omega) (by omega), fit b (by omega) (by omega), fit c (by omega) (by omega), fit _ (by omega) (by omega), if_pos (by omega), fit _ (by omega) (by omega)]
  simp
theorem mulX_of {i j : Int} (a b : Nat) (hi : i.natAbs < 2 ^ a) (hj : j.natAbs < 2 ^ b) (ha : 0 < a) (hb : 0 < b) (h : a + b ≤ 60000000) : CMulX i j := by
  unfold CMulX
  have := log2_small hi ha
  have := log2_small hj hb
  omega
theorem goods_ints (gs : List Int) : goods 63 (gs.map D.int) = true := by
  induction gs with
  | nil => rfl
  | cons a r ih => simp [goods, D.good, ih]
theorem ixN0 {n : Nat} (h : 0 < n) : ixN n 0 = some 0 := by
  unfold ixN
  rw [if_pos (by decide), if_pos (by omega)]; rfl
theorem atI0 {α : Type} {a : α} {l : List α} : atI (a :: l) 0 = some a := by
  unfold atI
  rw [ixN0 (by simp : 0 < (a :: l).length)]; rfl
theorem joinL_nil : ∀ ys : List (List Nat), TL.joinL [] ys = ys.flatten
  | [] => rfl
  | [x] => by simp [TL.joinL]
  | x :: y :: r => by
    have := joinL_nil (y :: r)
    rw [List.flatten_cons, ← this]
    simp [TL.joinL]
theorem join_mkS (ys : List (List Nat)) : Txt.join (mkS []) (ys.map mkS) = mkS ys.flatten := by
  rw [← joinL_nil]; exact SX.join_S [] ys
def signs1 : List Nat := [32, 33, 34, 35, 36, 38, 39, 40, 41, 42, 43, 44, 45, 46, 47, 48, 49, 50, 51, 52, 53, 54, 55, 56, 57, 58, 59, 60, 61, 62, 63, 64, 65, 66, 67, 68, 69, 70, 71, 72, 73, 74, 75, 76, 77, 78, 79, 80, 81, 82, 83, 84, 85, 86, 87, 88, 89, 90, 91, 92, 93, 94, 95, 96, 97, 98, 99, 100, 101, 102, 103, 104, 105, 106, 107, 108, 109, 110, 111, 112, 113, 114, 115, 116, 117, 118, 119, 120, 121, 122, 123, 124, 125, 126]
theorem so_s1 : Str.ofString " !\"#$&'()*+,-./0123456789:;<=>?@ABCDEFGHIJKLMNOPQRSTUVWXYZ[\\]^_`abcdefghijklmnopqrstuvwxyz{|}~" = mkS signs1 := by decide +kernel
theorem so_nil : Str.ofString "" = mkS [] := by decide +kernel
def Pr (l : List Nat) : Prop := ∀ c ∈ l, 32 ≤ c ∧ c ≤ 126
theorem pr_s1 : Pr signs1 := by unfold Pr; decide +kernel
/-- one sign of a text -/
theorem at_mkS (l : List Nat) (r : Int) (h0 : 0 ≤ r) (h1 : r < l.length) (hp : Pr l) : ∃ c, atI (mkS l).cps.toList r = some c ∧ 32 ≤ c ∧ c ≤ 126 := by
  obtain ⟨n, rfl⟩ : ∃ n : Nat, r = n := ⟨r.toNat, by omega⟩
  have hn : n < l.length := by omega
  have e : (mkS l).cps.toList[n]? = some l[n] := List.getElem?_eq_getElem hn
  exact ⟨l[n], atI_of e, hp _ (List.getElem_mem hn)⟩
/-- an item of a list -/
theorem at_lst {α : Type} (l : List α) (r : Int) (h0 : 0 ≤ r) (h1 : r < l.length) : ∃ c, c ∈ l ∧ atI l r = some c := by
  obtain ⟨n, rfl⟩ : ∃ n : Nat, r = n := ⟨r.toNat, by omega⟩
  have hn : n < l.length := by omega
  exact ⟨l[n], List.getElem_mem hn, atI_of (List.getElem?_eq_getElem hn)⟩
theorem flat_ones (ys : List D) (h : ∀ y ∈ ys, ∃ c, y = .str (mkS [c]) ∧ 32 ≤ c ∧ c ≤ 126) : ∃ l : List Nat, l.length = ys.length ∧ Pr l ∧ ys = (l.map fun c => [c]).map fun x => D.str (mkS x) := by
  induction ys with
  | nil => exact ⟨[], rfl, fun _ h => absurd h List.not_mem_nil, rfl⟩
  | cons y r ih =>
    obtain ⟨l, h1, h2, h3⟩ := ih fun z hz => h z (List.mem_cons_of_mem _ hz)
    obtain ⟨c, rfl, hc⟩ := h y (List.mem_cons_self ..)
    refine ⟨c :: l, by simp [h1], fun d hd => ?_, by rw [h3]; rfl⟩
    rcases List.mem_cons.mp hd with rfl | hd
    · exact hc
    · exact h2 d hd
theorem flat_sing (l : List Nat) : (l.map fun c => [c]).flatten = l := by
  induction l with
  | nil => rfl
  | cons a r ih => simp [ih]
theorem sum_ones (l : List Nat) : (((l.map fun c => [c]).map mkS).map (·.length)).sum = l.length := by
  induction l with
  | nil => rfl
  | cons a r ih =>
    simp only [List.map_cons, List.sum_cons, List.length_cons, len_mkS] at ih ⊢
    rw [ih]; simp; omega
/-- a text again and again, cut -/
theorem rep_cut {l : List Nat} (n : Nat) (h : 0 < l.length) : ((List.replicate n l).flatten.take n).length = n := by
  rw [List.length_take, List.length_flatten, List.map_replicate, List.sum_replicate_nat]
  have : n ≤ n * l.length := Nat.le_mul_of_pos_right _ h
  omega
theorem rep_pr {l : List Nat} (n : Nat) (h : Pr l) : Pr ((List.replicate n l).flatten) := fun c hc => by
  rw [List.mem_flatten] at hc
  obtain ⟨z, hz, hc⟩ := hc
  rw [List.mem_replicate] at hz
  exact h c (hz.2 ▸ hc)
theorem find_dg (c : Nat) : Txt.find (mkS [48, 49, 50, 51, 52, 53, 54, 55, 56, 57]) (mkS [c]) = if isDig c then (c : Int) - 48 else -1 := by
  have all : ∀ r : Fin 10, Txt.find (mkS [48, 49, 50, 51, 52, 53, 54, 55, 56, 57]) (mkS [48 + r.val]) = (r.val : Int) := by decide +kernel
  by_cases h : isDig c = true
  · rw [if_pos h]
    unfold isDig at h
    rw [Bool.and_eq_true, decide_eq_true_eq, decide_eq_true_eq] at h
    have := all ⟨c - 48, by omega⟩
    rw [show 48 + (⟨c - 48, by omega⟩ : Fin 10).val = c by simp; omega] at this
    rw [this]
    simp; omega
  · rw [if_neg h]
    have hf := StrLaws.found_one (mkS [48, 49, 50, 51, 52, 53, 54, 55, 56, 57]) c
    have hn : c ∉ (mkS [48, 49, 50, 51, 52, 53, 54, 55, 56, 57]).cps.toList := by
      intro q
      refine h ?_
      show isDig c = true
      have q : c ∈ [48, 49, 50, 51, 52, 53, 54, 55, 56, 57] := q
      simp only [List.mem_cons, List.not_mem_nil, or_false] at q
      unfold isDig
      rw [Bool.and_eq_true, decide_eq_true_eq, decide_eq_true_eq]
      omega
    rw [decide_eq_false hn] at hf
    unfold Txt.find
    show (match Builtin.Str.occurrences (mkS [48, 49, 50, 51, 52, 53, 54, 55, 56, 57]) ⟨#[c]⟩ 0 (mkS [48, 49, 50, 51, 52, 53, 54, 55, 56, 57]).length 1 with | i :: _ => (i : Int) | [] => -1) = -1
    cases q : Builtin.Str.occurrences (mkS [48, 49, 50, 51, 52, 53, 54, 55, 56, 57]) ⟨#[c]⟩ 0 (mkS [48, 49, 50, 51, 52, 53, 54, 55, 56, 57]).length 1 with
    | nil => rfl
    | cons i r => rw [q] at hf; cases hf
theorem so_dg : Str.ofString "0123456789" = mkS [48, 49, 50, 51, 52, 53, 54, 55, 56, 57] := by decide +kernel
theorem at_dg (r : Nat) (h : r < 10) : atI (mkS [48, 49, 50, 51, 52, 53, 54, 55, 56, 57]).cps.toList (r : Int) = some (48 + r) := by
  have : ∀ r : Fin 10, atI (mkS [48, 49, 50, 51, 52, 53, 54, 55, 56, 57]).cps.toList ((r : Nat) : Int) = some (48 + r.val) := by decide +kernel
  exact this ⟨r, h⟩
theorem digs_cons : ∀ (j x : Nat), digs (j + 1) x = (48 + x / 10 ^ j % 10) :: digs j x
  | 0, x => by simp [digs]
  | j + 1, x => by
    rw [digs, digs_cons j (x / 10), digs, Nat.div_div_eq_div_mul, Nat.pow_succ', List.cons_append]
theorem cut_len (s : Str) (lo hi : Option Int) : (cutS s lo hi).length ≤ s.length := by
  unfold cutS
  show (List.toArray _).size ≤ _
  rw [List.size_toArray, List.length_take, List.length_drop]
  have := len_tl' s
  have e : s.cps.toList.length = s.length := this.symm
  omega
theorem ix_all {L : List D} {r : Int} {P : D → Prop} (h0 : 0 ≤ r) (h1 : r < L.length) (h : ∀ z ∈ L, P z) : ∃ z, atI L r = some z ∧ P z := by
  obtain ⟨z, hz, e⟩ := at_lst L r h0 h1
  exact ⟨z, e, h z hz⟩
theorem digs_val : ∀ (k n : Nat), n < 10 ^ k → NumText.digitsVal (digs k n) = n
  | 0, n, h => by simp [digs, NumText.digitsVal]; simp at h; exact h.symm
  | k + 1, n, h => by
    have ih := digs_val k (n / 10) (by rw [Nat.div_lt_iff_lt_mul (by decide)]; rw [Nat.pow_succ] at h; exact h)
    unfold NumText.digitsVal at ih ⊢
    rw [digs, List.foldl_append, ih]
    simp; omega
theorem digs_dig : ∀ (k n : Nat), (digs k n).all isDig = true
  | 0, n => rfl
  | k + 1, n => by
    rw [digs, List.all_append, digs_dig k]
    simp [isDig]; omega
theorem numIn_digs {l x y : List Nat} {n a : Nat} (h : l = x ++ (digs 6 n ++ y)) (ha : x.length = a) (hn : n < 1000000) : numIn l a 6 = (n : Int) := by
  subst h ha
  unfold numIn
  rw [List.drop_left, List.take_left' (digs_len 6 n), digs_len, digs_dig, digs_val 6 n (by omega), if_neg (by simp)]
/-- the bound of a script's numbers -/
@[irreducible] def bigB : Nat := 2 ^ 1048576
theorem big_log {n : Nat} (h : n < bigB) : n.log2 < 1048576 := by
  unfold bigB at h
  exact log2_small h (by decide)
theorem bits_big {z : Int} (h : Builtin.Int.intBits z ≤ 1048576) : z.natAbs < bigB := by
  unfold bigB
  by_cases h0 : z = 0
  · subst h0; exact Nat.two_pow_pos _
  · unfold Builtin.Int.intBits at h
    rw [if_neg (by simpa using h0)] at h
    exact (Nat.log2_lt (by omega)).mp (by omega)
theorem mulX_big {i j : Int} (b : Nat) (hi : i.natAbs < bigB) (hj : j.natAbs < 2 ^ b) (hb : 0 < b) (h : b ≤ 50000000) : CMulX i j := by
  unfold CMulX
  have := big_log hi
  have := log2_small hj hb
  omega
/-- eqD with the empty list -/
theorem eqD_nil (ds : List D) : eqD (.lst ds) (.lst []) = ds.isEmpty := by
  unfold eqD
  cases ds <;> simp [D.py, pys, PyData.eqv, PyData.eqvAll]
theorem dNe_nil {ds : List D} {Q : D → Prop} (g : goods 63 ds = true) (h : Q (.bl (!ds.isEmpty))) : dNe (.lst ds) (.lst []) Q := by
  have key : dNeN (.lst ds) (.lst []) Q := ⟨by simpa [D.good] using g, by simp [D.good, goods], by rw [eqD_nil]; exact h⟩
  unfold dNe
  exact key
theorem goods_strs {l : List Nat} (h : Pr l) : goods 63 (l.map fun c => D.str (mkS [c])) = true := by
  induction l with
  | nil => rfl
  | cons a r ih =>
    have ha := h a (List.mem_cons_self ..)
    simp only [List.map_cons, goods, D.good, Bool.and_eq_true]
    refine ⟨?_, ih fun c hc => h c (List.mem_cons_of_mem _ hc)⟩
    unfold PyData.strOk mkS
    simp; omega
theorem inS_one (c : Nat) (s : Str) : inS (mkS [c]) s = decide (c ∈ tl s) := StrLaws.found_one s c
theorem pr_lower {l : List Nat} (h : Pr l) : ∃ l', Txt.lower (mkS l) = mkS l' ∧ Pr l' ∧ l'.length = l.length := by
  refine ⟨l.map PyProof.Rows.lo1, ?_, fun c hc => ?_, by simp⟩
  · rw [PyProof.Rows.lower_ascii (fun c hc => by have := h c hc; omega)]
    refine str_eq ?_
    show (Array.map _ _).toList = _
    rw [Array.toList_map]; rfl
  · rw [List.mem_map] at hc
    obtain ⟨d, hd, rfl⟩ := hc
    have := h d hd
    unfold PyProof.Rows.lo1
    split <;> omega
theorem numL_ge (n : Nat) : ∀ c ∈ numL n, 48 ≤ c := by
  induction n using Nat.strongRecOn with
  | _ n ih =>
    by_cases h : n < 10
    · rw [numL_lt h]; intro c hc; simp at hc; omega
    · rw [numL_step (by omega : 10 ≤ n)]
      intro c hc
      rcases List.mem_append.mp hc with hc | hc
      · exact ih (n / 10) (by omega) c hc
      · simp at hc; omega
theorem zfill_tl (n k : Nat) (hk : 0 < k) (h : n < 10 ^ k) : Txt.zfill (toString ((n : Nat) : Int) : String) (k : Int) = mkS (digs k n) := by
  rw [← rjust_tl n k hk h]
  unfold Txt.zfill Txt.rjustF
  split
  · rfl
  · unfold zfilled
    split
    · rename_i hc
      have : 43 ∈ numL n := by
        rw [← tl_num n]
        exact Array.mem_toList_iff.mpr (Array.mem_of_getElem? hc)
      have := numL_ge n _ this
      omega
    · rename_i hc
      have : 45 ∈ numL n := by
        rw [← tl_num n]
        exact Array.mem_toList_iff.mpr (Array.mem_of_getElem? hc)
      have := numL_ge n _ this
      omega
    · rw [Int.toNat_natCast]
theorem big_pos : 0 < bigB := by unfold bigB; exact Nat.two_pow_pos _
theorem mod61 (X : Int) : (X % 2305843009213693951).natAbs < 2 ^ 61 := by omega
theorem mod61d (X d : Int) (hd : 0 < d) : (X % 2305843009213693951 / d).natAbs < 2 ^ 61 := by
  have h0 : 0 ≤ X % 2305843009213693951 := by omega
  have h1 := Int.ediv_le_self d h0
  have h2 := Int.ediv_nonneg h0 (by omega : 0 ≤ d)
  omega
theorem dLc_mapF {α : Type} {fi : TID} {fe : TD} {i : Nat} {ρ : G.Env} {W : Wd} {Q : KL} {Qx : KX} (xs : List α) (f g : α → D) (hno : noOwn ρ [i]) (hl : xs.length ≤ sizeLine) (hi : ∀ P : KL, P (xs.map f) ρ W → fi ρ W P Qx)
    (he : ∀ x ∈ xs, ∀ P : KD, P (g x) ((ρ.set i none).set i (some (.sh (f x)))) W → fe ((ρ.set i none).set i (some (.sh (f x)))) W P noX) (hq : Q (xs.map g) ρ W) : dLc fi (gdName i) dYes fe [i] ρ W Q Qx := by
  refine dLc_inv (xs.map f) W (fun j acc W' => W' = W ∧ acc = (xs.take j).map g) hno (by rw [List.length_map]; exact hl) hi ⟨rfl, by simp⟩ (fun j d acc W' hj _ hI => ?_) (fun acc W' _ hI => ?_)
  · obtain ⟨rfl, rfl⟩ := hI
    rw [List.getElem?_map] at hj
    cases hx : xs[j]? with
    | none => rw [hx] at hj; cases hj
    | some x =>
      rw [hx] at hj; cases hj
      refine ⟨rfl, ?_⟩
      show fe _ W' _ noX
      refine he x (List.mem_of_getElem? hx) _ ⟨rfl, rfl, ?_⟩
      rw [List.take_add_one, hx]
      simp
  · obtain ⟨rfl, rfl⟩ := hI
    rw [List.length_map, List.take_length]
    exact hq
/-- .. the items pairs -/
theorem dLc_map2 {α : Type} {fi : TID} {fe : TD} {i j : Nat} {ρ : G.Env} {W : Wd} {Q : KL} {Qx : KX} (xs : List α) (f1 f2 g : α → D) (hno : noOwn ρ [i, j]) (hl : xs.length ≤ sizeLine) (hi : ∀ P : KL, P (xs.map fun x => .tup [f1 x, f2 x]) ρ W → fi ρ W P Qx)
    (he : ∀ x ∈ xs, ∀ P : KD, P (g x) ((((ρ.set j none).set i none).set i (some (.sh (f1 x)))).set j (some (.sh (f2 x)))) W → fe ((((ρ.set j none).set i none).set i (some (.sh (f1 x)))).set j (some (.sh (f2 x)))) W P noX) (hq : Q (xs.map g) ρ W) :
    dLc fi (gdTup 2 (gdCons (gdName i) (gdCons (gdName j) gdNil))) dYes fe [i, j] ρ W Q Qx := by
  refine dLc_inv (xs.map fun x => .tup [f1 x, f2 x]) W (fun j acc W' => W' = W ∧ acc = (xs.take j).map g) hno (by rw [List.length_map]; exact hl) hi ⟨rfl, by simp⟩ (fun n d acc W' hj _ hI => ?_) (fun acc W' _ hI => ?_)
  · obtain ⟨rfl, rfl⟩ := hI
    rw [List.getElem?_map] at hj
    cases hx : xs[n]? with
    | none => rw [hx] at hj; cases hj
    | some x =>
      rw [hx] at hj; cases hj
      refine ⟨rfl, rfl, ?_⟩
      show fe _ W' _ noX
      refine he x (List.mem_of_getElem? hx) _ ⟨rfl, rfl, ?_⟩
      rw [List.take_add_one, hx]
      simp
  · obtain ⟨rfl, rfl⟩ := hI
    rw [List.length_map, List.take_length]
    exact hq
theorem sum_le {l : List Nat} {B : Nat} (h : ∀ x ∈ l, x ≤ B) : l.sum ≤ l.length * B := by
  induction l with
  | nil => simp
  | cons a r ih =>
    have h1 := h a (List.mem_cons_self ..)
    have h2 := ih fun x hx => h x (List.mem_cons_of_mem _ hx)
    rw [List.sum_cons, List.length_cons, Nat.add_mul]
    omega
theorem flat_len {ys : List (List Nat)} {n B : Nat} (hn : ys.length ≤ n) (hB : ∀ y ∈ ys, y.length ≤ B) : ys.flatten.length ≤ n * B := by
  rw [List.length_flatten]
  have := sum_le (l := ys.map List.length) (B := B) (fun x hx => by
    rw [List.mem_map] at hx
    obtain ⟨y, hy, rfl⟩ := hx
    exact hB y hy)
  rw [List.length_map] at this
  exact Nat.le_trans this (Nat.mul_le_mul_right _ hn)
theorem dJoin_mkS {ys : List (List Nat)} {n B : Nat} {Q : D → Prop} (hn : ys.length ≤ n) (hB : ∀ y ∈ ys, y.length ≤ B) (hs : n * B ≤ 16777216) (h : Q (.str (mkS ys.flatten))) : dJoin (.str (mkS [])) [.lst (ys.map fun x => .str (mkS x))] Q := by
  refine ⟨ys.map mkS, ?_, ?_, ?_⟩
  · have := strsOf_map (ys.map mkS)
    rw [List.map_map] at this
    exact this
  · have e : (ys.map mkS).map (·.length) = ys.map List.length := by
      rw [List.map_map]
      exact List.map_congr_left fun y _ => len_mkS y
    have := flat_len hn hB
    rw [List.length_flatten] at this
    rw [e, len_mkS, List.length_nil, Nat.mul_zero]
    omega
  · rw [join_mkS]; exact h
theorem str_small {n : Nat} (h : n < 10) : (Str.ofString (toString ((n : Nat) : Int))) = mkS (digs 1 n) := by
  refine str_eq ?_
  rw [tl_num, numL_lt h, digs, digs]
  simp [Nat.mod_eq_of_lt h]
theorem join_parts {ys : List (List Nat)} {n B : Nat} (hn : ys.length ≤ n) (hB : ∀ y ∈ ys, y.length ≤ B) (hs : n * B ≤ 16777216) : strsOf (ys.map fun x => .str (mkS x)) = some (ys.map mkS) ∧ ((ys.map mkS).map (·.length)).sum + (ys.map mkS).length * (mkS []).length ≤ 16777216 := by
  refine ⟨?_, ?_⟩
  · have := strsOf_map (ys.map mkS)
    rw [List.map_map] at this
    exact this
  · have e : (ys.map mkS).map (·.length) = ys.map List.length := by
      rw [List.map_map]
      exact List.map_congr_left fun y _ => len_mkS y
    have := flat_len hn hB
    rw [List.length_flatten] at this
    rw [e, len_mkS, List.length_nil, Nat.mul_zero]
    omega
theorem dLc_filtF {α : Type} {fi : TID} {ft : TB} {fe : TD} {i : Nat} {ρ : G.Env} {W : Wd} {Q : KL} {Qx : KX} (xs : List α) (f g : α → D) (p : α → Bool) (hno : noOwn ρ [i]) (hl : xs.length ≤ sizeLine) (hi : ∀ P : KL, P (xs.map f) ρ W → fi ρ W P Qx)
    (ht : ∀ x ∈ xs, ∀ P : KB, P (p x) ((ρ.set i none).set i (some (.sh (f x)))) W → ft ((ρ.set i none).set i (some (.sh (f x)))) W P noX)
    (he : ∀ x ∈ xs, p x = true → ∀ P : KD, P (g x) ((ρ.set i none).set i (some (.sh (f x)))) W → fe ((ρ.set i none).set i (some (.sh (f x)))) W P noX) (hq : Q ((xs.filter p).map g) ρ W) : dLc fi (gdName i) ft fe [i] ρ W Q Qx := by
  refine dLc_inv (xs.map f) W (fun j acc W' => W' = W ∧ acc = ((xs.take j).filter p).map g) hno (by rw [List.length_map]; exact hl) hi ⟨rfl, by simp⟩ (fun j d acc W' hj _ hI => ?_) (fun acc W' _ hI => ?_)
  · obtain ⟨rfl, rfl⟩ := hI
    rw [List.getElem?_map] at hj
    cases hx : xs[j]? with
    | none => rw [hx] at hj; cases hj
    | some x =>
      rw [hx] at hj; cases hj
      refine ht x (List.mem_of_getElem? hx) _ ⟨rfl, ?_⟩
      cases hp : p x with
      | true =>
        rw [if_pos rfl]
        refine he x (List.mem_of_getElem? hx) hp _ ⟨rfl, rfl, ?_⟩
        rw [List.take_add_one, hx]
        simp [hp]
      | false =>
        rw [if_neg Bool.false_ne_true]
        refine ⟨rfl, ?_⟩
        rw [List.take_add_one, hx]
        simp [hp]
  · obtain ⟨rfl, rfl⟩ := hI
    rw [List.length_map, List.take_length]
    exact hq
theorem dNe_str {a b : Str} {Q : D → Prop} (h : Q (.bl (!decide (a = b)))) : dNe (.str a) (.str b) Q := by
  have : decide (V.str a = V.str b) = decide (a = b) := by
    rw [Bool.eq_iff_iff, decide_eq_true_eq, decide_eq_true_eq]
    exact ⟨fun h => by injection h, fun h => by rw [h]⟩
  unfold dNe
  show (if scal _ _ = true then _ else _)
  rw [if_pos (rfl : scal _ _ = true), this]
  exact h
theorem dNe_int {a b : Int} {Q : D → Prop} (h : Q (.bl (!decide (a = b)))) : dNe (.int a) (.int b) Q := by
  have : decide (V.int a = V.int b) = decide (a = b) := by
    rw [Bool.eq_iff_iff, decide_eq_true_eq, decide_eq_true_eq]
    exact ⟨fun h => by injection h, fun h => by rw [h]⟩
  unfold dNe
  show (if scal _ _ = true then _ else _)
  rw [if_pos (rfl : scal _ _ = true), this]
  exact h
theorem dNe_bl {a b : Bool} {Q : D → Prop} (h : Q (.bl (!decide (a = b)))) : dNe (.bl a) (.bl b) Q := by
  have : decide (V.bl a = V.bl b) = decide (a = b) := by
    rw [Bool.eq_iff_iff, decide_eq_true_eq, decide_eq_true_eq]
    exact ⟨fun h => by injection h, fun h => by rw [h]⟩
  unfold dNe
  show (if scal _ _ = true then _ else _)
  rw [if_pos (rfl : scal _ _ = true), this]
  exact h
theorem dEq_bl {a b : Bool} {Q : D → Prop} (h : Q (.bl (decide (a = b)))) : dEq (.bl a) (.bl b) Q := by
  have : decide (V.bl a = V.bl b) = decide (a = b) := by
    rw [Bool.eq_iff_iff, decide_eq_true_eq, decide_eq_true_eq]
    exact ⟨fun h => by injection h, fun h => by rw [h]⟩
  unfold dEq
  show (if scal _ _ = true then _ else _)
  rw [if_pos (rfl : scal _ _ = true), this]
  exact h
end C

namespace K07
open PySem PySem.Spec L2 G TL C
def top (i : Nat) : Stmt := PySem.Challenge.pw_heldlevels_k07_texts_of_nodes.main.body.getD i (.Pass ⟨0, 0, 0, 0⟩)
abbrev s_figures : Stmt := top 1
abbrev n_figures : List Str := ["number", "many"]
theorem sc_figures : FnScope n_figures ["number", "many"] (defScope s_figures) := ⟨rfl, rfl, rfl, by decide +kernel, rfl, by decide +kernel, by decide +kernel⟩

abbrev s_number_in : Stmt := top 2
abbrev n_number_in : List Str := ["text", "at", "many", "part", "sign"]
theorem sc_number_in : FnScope n_number_in ["text", "at", "many"] (defScope s_number_in) := ⟨rfl, rfl, rfl, by decide +kernel, rfl, by decide +kernel, by decide +kernel⟩

abbrev s_entry_room : Stmt := top 5
abbrev n_entry_room : List Str := ["signs"]
theorem sc_entry_room : FnScope n_entry_room ["signs"] (defScope s_entry_room) := ⟨rfl, rfl, rfl, by decide +kernel, rfl, by decide +kernel, by decide +kernel⟩

abbrev s_node_text : Stmt := top 6
abbrev n_node_text : List Str := ["node", "rows", "pages", "key", "value", "kid", "mark"]
theorem sc_node_text : FnScope n_node_text ["node"] (defScope s_node_text) := ⟨rfl, rfl, rfl, by decide +kernel, rfl, by decide +kernel, by decide +kernel⟩

abbrev s_text_in : Stmt := top 7
abbrev n_text_in : List Str := ["text", "at", "long"]
theorem sc_text_in : FnScope n_text_in ["text", "at", "long"] (defScope s_text_in) := ⟨rfl, rfl, rfl, by decide +kernel, rfl, by decide +kernel, by decide +kernel⟩

abbrev s_leaf_told : Stmt := top 8
abbrev n_leaf_told : List Str := ["text", "entries", "at", "key", "value"]
theorem sc_leaf_told : FnScope n_leaf_told ["text"] (defScope s_leaf_told) := ⟨rfl, rfl, rfl, by decide +kernel, rfl, by decide +kernel, by decide +kernel⟩

abbrev s_inner_told : Stmt := top 9
abbrev n_inner_told : List Str := ["text", "many", "kids", "marks", "at", "k", "mark"]
theorem sc_inner_told : FnScope n_inner_told ["text"] (defScope s_inner_told) := ⟨rfl, rfl, rfl, by decide +kernel, rfl, by decide +kernel, by decide +kernel⟩

abbrev s_node_told : Stmt := top 10
abbrev n_node_told : List Str := ["text", "entries", "found"]
theorem sc_node_told : FnScope n_node_told ["text"] (defScope s_node_told) := ⟨rfl, rfl, rfl, by decide +kernel, rfl, by decide +kernel, by decide +kernel⟩

abbrev s_law_flow : Stmt := top 12
abbrev n_law_flow : List Str := ["script"]
theorem sc_law_flow : FnScope n_law_flow ["script"] (defScope s_law_flow) := ⟨rfl, rfl, rfl, by decide +kernel, rfl, by decide +kernel, by decide +kernel⟩

abbrev s_law_draw : Stmt := top 13
abbrev n_law_draw : List Str := ["flow", "many", "cell", "rest", "found", "turn", "mixed"]
theorem sc_law_draw : FnScope n_law_draw ["flow", "many"] (defScope s_law_draw) := ⟨rfl, rfl, rfl, by decide +kernel, rfl, by decide +kernel, by decide +kernel⟩

abbrev s_law_sign : Stmt := top 14
abbrev n_law_sign : List Str := ["flow", "menu"]
theorem sc_law_sign : FnScope n_law_sign ["flow"] (defScope s_law_sign) := ⟨rfl, rfl, rfl, by decide +kernel, rfl, by decide +kernel, by decide +kernel⟩

abbrev s_law_text : Stmt := top 15
abbrev n_law_text : List Str := ["flow", "most", "upto", "long", "part", "text", "at", "k"]
theorem sc_law_text : FnScope n_law_text ["flow", "most"] (defScope s_law_text) := ⟨rfl, rfl, rfl, by decide +kernel, rfl, by decide +kernel, by decide +kernel⟩

abbrev s_law_same : Stmt := top 16
abbrev n_law_same : List Str := ["found", "due", "k"]
theorem sc_law_same : FnScope n_law_same ["found", "due"] (defScope s_law_same) := ⟨rfl, rfl, rfl, by decide +kernel, rfl, by decide +kernel, by decide +kernel⟩

abbrev s_law_part : Stmt := top 17
abbrev n_law_part : List Str := ["text", "at", "many", "part", "sign"]
theorem sc_law_part : FnScope n_law_part ["text", "at", "many"] (defScope s_law_part) := ⟨rfl, rfl, rfl, by decide +kernel, rfl, by decide +kernel, by decide +kernel⟩

abbrev s_law_node_text : Stmt := top 18
abbrev n_law_node_text : List Str := ["node", "rows", "kids", "key", "value", "kid", "mark"]
theorem sc_law_node_text : FnScope n_law_node_text ["node"] (defScope s_law_node_text) := ⟨rfl, rfl, rfl, by decide +kernel, rfl, by decide +kernel, by decide +kernel⟩

abbrev s_law_leaf_told : Stmt := top 19
abbrev n_law_leaf_told : List Str := ["text", "rows", "at", "one", "other", "end"]
theorem sc_law_leaf_told : FnScope n_law_leaf_told ["text"] (defScope s_law_leaf_told) := ⟨rfl, rfl, rfl, by decide +kernel, rfl, by decide +kernel, by decide +kernel⟩

abbrev s_law_node_told : Stmt := top 20
abbrev n_law_node_told : List Str := ["text", "rows", "many", "kids", "marks", "at", "k", "long"]
theorem sc_law_node_told : FnScope n_law_node_told ["text"] (defScope s_law_node_told) := ⟨rfl, rfl, rfl, by decide +kernel, rfl, by decide +kernel, by decide +kernel⟩

abbrev s_law_node : Stmt := top 21
abbrev n_law_node : List Str := ["flow", "most", "many", "kids", "k"]
theorem sc_law_node : FnScope n_law_node ["flow"] (defScope s_law_node) := ⟨rfl, rfl, rfl, by decide +kernel, rfl, by decide +kernel, by decide +kernel⟩

abbrev s_law_near : Stmt := top 22
abbrev n_law_near : List Str := ["flow", "text", "at", "sign", "ways"]
theorem sc_law_near : FnScope n_law_near ["flow", "text"] (defScope s_law_near) := ⟨rfl, rfl, rfl, by decide +kernel, rfl, by decide +kernel, by decide +kernel⟩

abbrev s_law_put_together : Stmt := top 23
abbrev n_law_put_together : List Str := ["flow", "text", "k"]
theorem sc_law_put_together : FnScope n_law_put_together ["flow"] (defScope s_law_put_together) := ⟨rfl, rfl, rfl, by decide +kernel, rfl, by decide +kernel, by decide +kernel⟩

abbrev s_law_full : Stmt := top 24
abbrev n_law_full : List Str := ["flow", "long"]
theorem sc_law_full : FnScope n_law_full ["flow", "long"] (defScope s_law_full) := ⟨rfl, rfl, rfl, by decide +kernel, rfl, by decide +kernel, by decide +kernel⟩

abbrev s_law_rooms_right : Stmt := top 25
abbrev n_law_rooms_right : List Str := ["flow", "wide", "room", "rows", "k", "long", "marks", "leaf", "inner"]
theorem sc_law_rooms_right : FnScope n_law_rooms_right ["flow"] (defScope s_law_rooms_right) := ⟨rfl, rfl, rfl, by decide +kernel, rfl, by decide +kernel, by decide +kernel⟩

abbrev s_law : Stmt := top 26
abbrev n_law : List Str := ["script", "flow", "turn", "one", "text", "near", "other"]
theorem sc_law : FnScope n_law ["script"] (defScope s_law) := ⟨rfl, rfl, rfl, by decide +kernel, rfl, by decide +kernel, by decide +kernel⟩

structure Txt (K : PySem.W.Frag) (mg : Str → Option Value) : Prop where
  f_figures : DefAt K mg "figures" s_figures ["number", "many"]
  f_number_in : DefAt K mg "number_in" s_number_in ["text", "at", "many"]
  f_entry_room : DefAt K mg "entry_room" s_entry_room ["signs"]
  f_node_text : DefAt K mg "node_text" s_node_text ["node"]
  f_text_in : DefAt K mg "text_in" s_text_in ["text", "at", "long"]
  f_leaf_told : DefAt K mg "leaf_told" s_leaf_told ["text"]
  f_inner_told : DefAt K mg "inner_told" s_inner_told ["text"]
  f_node_told : DefAt K mg "node_told" s_node_told ["text"]
  f_law_flow : DefAt K mg "_law_flow" s_law_flow ["script"]
  f_law_draw : DefAt K mg "_law_draw" s_law_draw ["flow", "many"]
  f_law_sign : DefAt K mg "_law_sign" s_law_sign ["flow"]
  f_law_text : DefAt K mg "_law_text" s_law_text ["flow", "most"]
  f_law_same : DefAt K mg "_law_same" s_law_same ["found", "due"]
  f_law_part : DefAt K mg "_law_part" s_law_part ["text", "at", "many"]
  f_law_node_text : DefAt K mg "_law_node_text" s_law_node_text ["node"]
  f_law_leaf_told : DefAt K mg "_law_leaf_told" s_law_leaf_told ["text"]
  f_law_node_told : DefAt K mg "_law_node_told" s_law_node_told ["text"]
  f_law_node : DefAt K mg "_law_node" s_law_node ["flow"]
  f_law_near : DefAt K mg "_law_near" s_law_near ["flow", "text"]
  f_law_put_together : DefAt K mg "_law_put_together" s_law_put_together ["flow"]
  f_law_full : DefAt K mg "_law_full" s_law_full ["flow", "long"]
  f_law_rooms_right : DefAt K mg "_law_rooms_right" s_law_rooms_right ["flow"]
  f_law : DefAt K mg "law" s_law ["script"]
  b_abs : mg "abs" = none
  b_all : mg "all" = none
  b_bool : mg "bool" = none
  b_int : mg "int" = none
  b_isinstance : mg "isinstance" = none
  b_len : mg "len" = none
  b_list : mg "list" = none
  b_max : mg "max" = none
  b_min : mg "min" = none
  b_range : mg "range" = none
  b_str : mg "str" = none
  b_tuple : mg "tuple" = none
  c_MOST_KIDS : ∃ u, mg "MOST_KIDS" = some u ∧ RelV (.int 4) u

/-! ### what the defs promise -/
def textIn (l : List Nat) (a : Nat) (k : Int) : D := if 0 ≤ k ∧ (a : Int) + k ≤ l.length then .str (mkS ((l.drop a).take k.toNat)) else .non
def leafT (l : List Nat) : Nat → Nat → Option (List (List Nat × List Nat))
  | 0, _ => none
  | f + 1, a => if l.length ≤ a then some [] else
    if numIn l a 3 < 0 ∨ numIn l (a + 3) 3 < 0 ∨ l.length < a + 6 + (numIn l a 3).toNat + (numIn l (a + 3) 3).toNat then none
    else (leafT l f (a + 6 + (numIn l a 3).toNat + (numIn l (a + 3) 3).toNat)).map fun es => ((l.drop (a + 6)).take (numIn l a 3).toNat, (l.drop (a + 6 + (numIn l a 3).toNat)).take (numIn l (a + 3) 3).toNat) :: es
def entD (e : List Nat × List Nat) : D := .tup [.str (mkS e.1), .str (mkS e.2)]
def leafO (l : List Nat) : Option (List (List Nat × List Nat)) := leafT l (l.length + 1) 1
def leafD (l : List Nat) : D := match leafO l with | none => .non | some es => .tup (es.map entD)
def marksT (l : List Nat) : Nat → Nat → Option (List (List Nat) × Nat)
  | 0, a => some ([], a)
  | n + 1, a => if numIn l a 3 < 0 ∨ l.length < a + 3 + (numIn l a 3).toNat then none
    else (marksT l n (a + 3 + (numIn l a 3).toNat)).map fun p => ((l.drop (a + 3)).take (numIn l a 3).toNat :: p.1, p.2)
def kidsT (l : List Nat) (m : Nat) : List Int := (List.range m).map fun k => numIn l (2 + 4 * k) 4
def innerT (l : List Nat) : Option (List (List Nat) × List Int) :=
  if numIn l 1 1 < 1 ∨ ∃ k ∈ kidsT l (numIn l 1 1).toNat, k < 0 then none else
  match marksT l ((numIn l 1 1).toNat - 1) (2 + 4 * (numIn l 1 1).toNat) with
  | none => none
  | some p => if p.2 = l.length then some (p.1, kidsT l (numIn l 1 1).toNat) else none
def marksD (ms : List (List Nat)) : D := .tup (ms.map fun m => .str (mkS m))
def innerD (l : List Nat) : D := match innerT l with | none => .non | some p => .tup [marksD p.1, .tup (p.2.map D.int)]
def toldD (l : List Nat) : D := if l.take 1 = [76] then (match leafO l with | none => .non | some es => .tup [.str (mkS [108, 101, 97, 102]), .tup (es.map entD)])
  else if l.take 1 = [73] then (match innerT l with | none => .non | some p => .tup [.str (mkS [105, 110, 110, 101, 114]), marksD p.1, .tup (p.2.map D.int)]) else .non
inductive Nd where
  | leaf (es : List (List Nat × List Nat))
  | inner (ms : List (List Nat)) (ks : List Nat)
def nodeD : Nd → D
  | .leaf es => .tup [.str (mkS [108, 101, 97, 102]), .tup (es.map entD)]
  | .inner ms ks => .tup [.str (mkS [105, 110, 110, 101, 114]), marksD ms, .tup (ks.map fun (k : Nat) => D.int (k : Int))]
def entL (e : List Nat × List Nat) : List Nat := digs 3 e.1.length ++ digs 3 e.2.length ++ e.1 ++ e.2
def markL (m : List Nat) : List Nat := digs 3 m.length ++ m
def nodeL : Nd → List Nat
  | .leaf es => [76] ++ (es.map entL).flatten
  | .inner ms ks => [73] ++ digs 1 ks.length ++ (ks.map (digs 4)).flatten ++ (ms.map markL).flatten
def NdOk : Nd → Prop
  | .leaf es => es.length ≤ 6 ∧ ∀ e ∈ es, e.1.length ≤ 300 ∧ e.2.length ≤ 300 ∧ Pr e.1 ∧ Pr e.2
  | .inner ms ks => ms.length + 1 = ks.length ∧ ks.length ≤ 9 ∧ (∀ k ∈ ks, k < 10000) ∧ ∀ m ∈ ms, m.length ≤ 300 ∧ Pr m
structure FlowOk (W : Wd) (p : Addr) (k : Nat) : Prop where
  ex : ∃ (q : Addr) (cs : List Int) (a b c : Int), p ≠ q ∧ W p = some (.lst [.ref q, .int a, .int b, .int c]) ∧ W q = some (.lst (cs.map D.int)) ∧ (∀ z ∈ cs, Builtin.Int.intBits z ≤ 1048576) ∧
    0 ≤ a ∧ a.natAbs < bigB ∧ 0 ≤ b ∧ b < 2305843009213693951 ∧ 0 ≤ c ∧ c ≤ k
/-- None, truths, ints, texts and what is made of them, n deep -/
def plainN : Nat → D → Prop
  | _, .v .non => True
  | _, .v (.bl _) => True
  | _, .v (.int _) => True
  | _, .v (.str _) => True
  | n + 1, .tup ds => ds.length ≤ 100000 ∧ ∀ d ∈ ds, plainN n d
  | n + 1, .lst ds => ds.length ≤ 100000 ∧ ∀ d ∈ ds, plainN n d
  | _, _ => False
def sp_figures : SpD := fun ds W Q _ => ∃ n k : Nat, ds = [.int n, .int k] ∧ 0 < k ∧ k ≤ 100 ∧ n < 10 ^ k ∧ Q (.str (mkS (digs k n))) W
def d_figures : TSD := (dRet (dM dRjust (dCB dStrC (dCons (dVar 0) dNil)) (dCons (dVar 1) (dCons (dC (.str "0")) dNil))))

def sp_number_in : SpD := fun ds W Q _ => ∃ (s : Str) (a k : Nat), ds = [.str s, .int a, .int k] ∧ s.length ≤ 100000 ∧ 0 < k ∧ k ≤ 100 ∧ a ≤ 1000000 ∧ Q (.int (numIn (tl s) a k)) W
def d_number_in : TSD := (dSeq (dAsg (dSl dCut (dVar 0) (dPart (dVar 1)) (dPart (dOp dAdd (dVar 1) (dVar 2)))) (gdName 3))
  (dSeq (dIfS (dOrB (dBool (dOp dLt (dCB dLen (dCons (dVar 3) dNil)) (dVar 2))) (dNotB (dBool (dCB dAll (dCons (dFresh (dLc (iStrD (dVar 3)) (gdName 4) dYes (dChain dLe dLe (dC (.str "0")) (dVar 4) (dC (.str "9"))) [4])) dNil))))) (dRet (dNeg (dC (.int 1)))) dNext)
  (dRet (dCB dIntC (dCons (dVar 3) dNil)))))

def sp_entry_room : SpD := fun ds W Q _ => ∃ n : Int, ds = [.int n] ∧ Q (.int ((n - 1) / 4 - 6)) W
def d_entry_room : TSD := (dRet (dOp dSub (dOp dFdv (dOp dSub (dVar 0) (dC (.int 1))) (dC (.int 4))) (dC (.int 6))))

def sp_node_text : SpD := fun ds W Q _ => ∃ nd, ds = [nodeD nd] ∧ NdOk nd ∧ Q (.str (mkS (nodeL nd))) W
def d_node_text : TSD := (dSeq (dIfS (dBool (dOp dEq (dOp dIx (dVar 0) (dC (.int 0))) (dC (.str "leaf")))) (dSeq (dAsg (dFresh (dLc (iTupD (dOp dIx (dVar 0) (dC (.int 1)))) (gdTup 2 (gdCons (gdName 3) (gdCons (gdName 4) gdNil))) dYes (dOp dAdd (dOp dAdd (dOp dAdd (dCall sp_figures 2 (dCons (dCB dLen (dCons (dVar 3) dNil)) (dCons (dC (.int 3)) dNil))) (dCall sp_figures 2 (dCons (dCB dLen (dCons (dVar 4) dNil)) (dCons (dC (.int 3)) dNil)))) (dVar 3)) (dVar 4)) [3, 4])) (gdName 1))
  (dRet (dOp dAdd (dC (.str "L")) (dM dJoin (dC (.str "")) (dCons (dVar 1) dNil))))) dNext)
  (dSeq (dAsg (dM dJoin (dC (.str "")) (dCons (dFresh (dLc (iTupD (dOp dIx (dVar 0) (dC (.int 2)))) (gdName 5) dYes (dCall sp_figures 2 (dCons (dVar 5) (dCons (dC (.int 4)) dNil))) [5])) dNil)) (gdName 2))
  (dRet (dOp dAdd (dOp dAdd (dOp dAdd (dC (.str "I")) (dCB dStrC (dCons (dCB dLen (dCons (dOp dIx (dVar 0) (dC (.int 2))) dNil)) dNil))) (dVar 2)) (dM dJoin (dC (.str "")) (dCons (dFresh (dLc (iTupD (dOp dIx (dVar 0) (dC (.int 1)))) (gdName 6) dYes (dOp dAdd (dCall sp_figures 2 (dCons (dCB dLen (dCons (dVar 6) dNil)) (dCons (dC (.int 3)) dNil))) (dVar 6)) [6])) dNil))))))

def sp_text_in : SpD := fun ds W Q _ => ∃ (l : List Nat) (a : Nat) (k : Int), ds = [.str (mkS l), .int a, .int k] ∧ l.length ≤ 100000 ∧ Q (textIn l a k) W
def d_text_in : TSD := (dRet (dIf (dAndB (dBool (dOp dGe (dVar 2) (dC (.int 0)))) (dBool (dOp dLe (dOp dAdd (dVar 1) (dVar 2)) (dCB dLen (dCons (dVar 0) dNil))))) (dSl dCut (dVar 0) (dPart (dVar 1)) (dPart (dOp dAdd (dVar 1) (dVar 2)))) (dC .non)))

def sp_leaf_told : SpD := fun ds W Q _ => ∃ l : List Nat, ds = [.str (mkS l)] ∧ l.length ≤ 100000 ∧ Q (leafD l) W
def d_leaf_told : TSD := (dSeq (dAsg (dTup (dCons (dTup dNil) (dCons (dC (.int 1)) dNil))) (gdTup 2 (gdCons (gdName 1) (gdCons (gdName 2) gdNil))))
  (dSeq (dWhile (dBool (dOp dLt (dVar 2) (dCB dLen (dCons (dVar 0) dNil))))
  (dSeq (dAsg (dCall sp_text_in 3 (dCons (dVar 0) (dCons (dOp dAdd (dVar 2) (dC (.int 6))) (dCons (dCall sp_number_in 3 (dCons (dVar 0) (dCons (dVar 2) (dCons (dC (.int 3)) dNil)))) dNil)))) (gdName 3))
  (dSeq (dIfS (dBool (dOp dIsN (dVar 3) (dC .non))) (dRet (dC .non)) dNext)
  (dSeq (dAsg (dCall sp_text_in 3 (dCons (dVar 0) (dCons (dOp dAdd (dOp dAdd (dVar 2) (dC (.int 6))) (dCB dLen (dCons (dVar 3) dNil))) (dCons (dCall sp_number_in 3 (dCons (dVar 0) (dCons (dOp dAdd (dVar 2) (dC (.int 3))) (dCons (dC (.int 3)) dNil)))) dNil)))) (gdName 4))
  (dSeq (dIfS (dBool (dOp dIsN (dVar 4) (dC .non))) (dRet (dC .non)) dNext)
  (dSeq (dAsg (dOp dAdd (dVar 1) (dTup (dCons (dTup (dCons (dVar 3) (dCons (dVar 4) dNil))) dNil))) (gdName 1))
  (dAug 2 dIadd (dOp dAdd (dOp dAdd (dC (.int 6)) (dCB dLen (dCons (dVar 3) dNil))) (dCB dLen (dCons (dVar 4) dNil))))))))))
  (dRet (dVar 1))))

def sp_inner_told : SpD := fun ds W Q _ => ∃ l : List Nat, ds = [.str (mkS l)] ∧ l.length ≤ 100000 ∧ Q (innerD l) W
def d_inner_told : TSD := (dSeq (dAsg (dCall sp_number_in 3 (dCons (dVar 0) (dCons (dC (.int 1)) (dCons (dC (.int 1)) dNil)))) (gdName 1))
  (dSeq (dAsg (dCB dTupC (dCons (dFresh (dLc (iRngD1 (dCons (dCB (dC2 fun i j => if j > i then j else i) (dCons (dC (.int 0)) (dCons (dVar 1) dNil))) dNil)) (gdName 5) dYes (dCall sp_number_in 3 (dCons (dVar 0) (dCons (dOp dAdd (dC (.int 2)) (dOp dMulA (dC (.int 4)) (dVar 5))) (dCons (dC (.int 4)) dNil)))) [5])) dNil)) (gdName 2))
  (dSeq (dPar 3 4 (dCons (dTup dNil) (dCons (dOp dAdd (dC (.int 2)) (dOp dMulA (dC (.int 4)) (dVar 1))) dNil)))
  (dSeq (dIfS (dOrB (dBool (dOp dLt (dVar 1) (dC (.int 1)))) (dBool (dOp dLt (dCB dMin1A (dCons (dVar 2) dNil)) (dC (.int 0))))) (dRet (dC .non)) dNext)
  (dSeq (dFor (iRngD1 (dCons (dOp dSub (dVar 1) (dC (.int 1))) dNil)) (gdName 5)
  (dSeq (dAsg (dCall sp_text_in 3 (dCons (dVar 0) (dCons (dOp dAdd (dVar 4) (dC (.int 3))) (dCons (dCall sp_number_in 3 (dCons (dVar 0) (dCons (dVar 4) (dCons (dC (.int 3)) dNil)))) dNil)))) (gdName 6))
  (dSeq (dIfS (dBool (dOp dIsN (dVar 6) (dC .non))) (dRet (dC .non)) dNext)
  (dSeq (dAsg (dOp dAdd (dVar 3) (dTup (dCons (dVar 6) dNil))) (gdName 3))
  (dAug 4 dIadd (dOp dAdd (dC (.int 3)) (dCB dLen (dCons (dVar 6) dNil))))))))
  (dRet (dIf (dBool (dOp dEq (dVar 4) (dCB dLen (dCons (dVar 0) dNil)))) (dTup (dCons (dVar 3) (dCons (dVar 2) dNil))) (dC .non))))))))

def sp_node_told : SpD := fun ds W Q _ => ∃ l : List Nat, ds = [.str (mkS l)] ∧ l.length ≤ 100000 ∧ Q (toldD l) W
def d_node_told : TSD := (dSeq (dIfS (dBool (dOp dEq (dSl dCut (dVar 0) dNoP (dPart (dC (.int 1)))) (dC (.str "L")))) (dSeq (dAsg (dCall sp_leaf_told 1 (dCons (dVar 0) dNil)) (gdName 1))
  (dRet (dIf (dBool (dOp dNotN (dVar 1) (dC .non))) (dTup (dCons (dC (.str "leaf")) (dCons (dVar 1) dNil))) (dC .non)))) dNext)
  (dSeq (dAsg (dIf (dBool (dOp dEq (dSl dCut (dVar 0) dNoP (dPart (dC (.int 1)))) (dC (.str "I")))) (dCall sp_inner_told 1 (dCons (dVar 0) dNil)) (dC .non)) (gdName 2))
  (dRet (dIf (dBool (dOp dNotN (dVar 2) (dC .non))) (dTup (dCons (dC (.str "inner")) (dCons (dOp dIx (dVar 2) (dC (.int 0))) (dCons (dOp dIx (dVar 2) (dC (.int 1))) dNil)))) (dC .non)))))

def sp_law_flow : SpD := fun ds W Q _ => ∃ ns : List Int, ds = [.scr ns] ∧ (∀ z ∈ ns, Builtin.Int.intBits z ≤ 1048576) ∧ ∀ W' p, FlowOk W' p 0 → Q (.ref p) W'
def d_law_flow : TSD := (dRetW (dLstN (dCons (dNewW (dListN (dVar 0))) (dCons (dC (.int 0)) (dCons (dC (.int 11)) (dCons (dC (.int 0)) dNil))))))

def sp_law_draw : SpD := fun ds W Q _ => ∃ (p : Addr) (many : Int) (k : Nat), ds = [.ref p, .int many] ∧ FlowOk W p k ∧ k < 1000000 ∧ 0 < many ∧ many ≤ 1000000000 ∧ ∀ r W', 0 ≤ r → r < many → FlowOk W' p (k + 1) → Q (.int r) W'
def d_law_draw : TSD := (dSeq (dIfS (dAndB (dBool (dOp dEq (dIxW (dVar 0) (dC (.int 1))) (dC (.int 0)))) (dNeW (dIxW (dVar 0) (dC (.int 0))) (dLst dNil))) (dSeq (dAsg (dCB dIntC (dCons (dPopE (dIxW (dVar 0) (dC (.int 0))) (dC (.int 0))) dNil)) (gdName 2))
  (dSeq (dSetW (dCB (dC2 fun i j => if j > i then j else i) (dCons (dC (.int 0)) (dCons (dOp dSub (dCB dAbs (dCons (dVar 2) dNil)) (dOp dPow (dC (.int 10)) (dC (.int 18)))) dNil))) (dVar 0) (dC (.int 1)))
  (dSetW (dOp dMod (dCB dIntC (dCons (dOp dAdd (dOp dMulA (dIxW (dVar 0) (dC (.int 2))) (dC (.int 1181783497276652981))) (dVar 2)) dNil)) (dC (.int 2305843009213693951))) (dVar 0) (dC (.int 2))))) dNext)
  (dSeq (dIfS (dBool (dOp dGt (dIxW (dVar 0) (dC (.int 1))) (dC (.int 0)))) (dSeq (dAsg (dOp dFdv (dIxW (dVar 0) (dC (.int 1))) (dVar 1)) (gdName 3))
  (dSeq (dAsg (dOp dSub (dIxW (dVar 0) (dC (.int 1))) (dOp dMulA (dVar 3) (dVar 1))) (gdName 4))
  (dSeq (dSetW (dVar 3) (dVar 0) (dC (.int 1)))
  (dRet (dVar 4))))) dNext)
  (dSeq (dSetW (dOp dAdd (dIxW (dVar 0) (dC (.int 3))) (dC (.int 1))) (dVar 0) (dC (.int 3)))
  (dSeq (dAsg (dIxW (dVar 0) (dC (.int 3))) (gdName 5))
  (dSeq (dAsg (dOp dMod (dCB dIntC (dCons (dOp dAdd (dOp dAdd (dOp dAdd (dIxW (dVar 0) (dC (.int 2))) (dOp dMulA (dOp dMulA (dC (.int 7919)) (dVar 5)) (dVar 5))) (dOp dMulA (dC (.int 15485863)) (dVar 5))) (dC (.int 3))) dNil)) (dC (.int 2305843009213693951))) (gdName 6))
  (dSeq (dAsg (dOp dFdv (dOp dMod (dCB dIntC (dCons (dOp dAdd (dOp dAdd (dOp dMulA (dVar 6) (dVar 6)) (dOp dMulA (dC (.int 104729)) (dVar 5))) (dC (.int 5))) dNil)) (dC (.int 2305843009213693951))) (dC (.int 1021))) (gdName 6))
  (dSeq (dAsg (dOp dFdv (dOp dMod (dCB dIntC (dCons (dOp dAdd (dOp dMulA (dVar 6) (dVar 6)) (dOp dMulA (dC (.int 611953)) (dVar 5))) dNil)) (dC (.int 2305843009213693951))) (dC (.int 4093))) (gdName 6))
  (dRet (dOp dMod (dCB dIntC (dCons (dVar 6) dNil)) (dVar 1))))))))))

def sp_law_sign : SpD := fun ds W Q _ => ∃ (p : Addr) (k : Nat), ds = [.ref p] ∧ FlowOk W p k ∧ k < 950000 ∧ ∀ c W', 32 ≤ c → c ≤ 126 → FlowOk W' p (k + 1) → Q (.str (mkS [c])) W'
def d_law_sign : TSD := (dSeq (dAsg (dC (.str " !\"#$&'()*+,-./0123456789:;<=>?@ABCDEFGHIJKLMNOPQRSTUVWXYZ[\\]^_`")) (gdName 1))
  (dSeq (dAsg (dOp dAdd (dVar 1) (dC (.str "abcdefghijklmnopqrstuvwxyz{|}~"))) (gdName 1))
  (dRet (dOp dIx (dVar 1) (dCall sp_law_draw 2 (dCons (dVar 0) (dCons (dC (.int 94)) dNil)))))))

def sp_law_text : SpD := fun ds W Q _ => ∃ (p : Addr) (m k : Nat), ds = [.ref p, .int m] ∧ FlowOk W p k ∧ k < 900000 ∧ m ≤ 1000 ∧ ∀ l W', l.length ≤ m → Pr l → FlowOk W' p (k + 10) → Q (.str (mkS l)) W'
def d_law_text : TSD := (dSeq (dAsg (dOp dIx (dLst (dCons (dCB (dC2 fun i j => if j < i then j else i) (dCons (dVar 1) (dCons (dC (.int 3)) dNil))) (dCons (dVar 1) dNil))) (dCall sp_law_draw 2 (dCons (dVar 0) (dCons (dC (.int 2)) dNil)))) (gdName 2))
  (dSeq (dAsg (dCall sp_law_draw 2 (dCons (dVar 0) (dCons (dOp dAdd (dVar 2) (dC (.int 1))) dNil))) (gdName 3))
  (dSeq (dAsg (dM dJoin (dC (.str "")) (dCons (dFresh (dLc (iRngD1 (dCons (dOp dAdd (dC (.int 1)) (dCall sp_law_draw 2 (dCons (dVar 0) (dCons (dC (.int 3)) dNil)))) dNil)) (gdName 7) dYes (dCall sp_law_sign 1 (dCons (dVar 0) dNil)) [7])) dNil)) (gdName 4))
  (dSeq (dAsg (dSl dCut (dOp dMulA (dVar 4) (dOp dAdd (dVar 3) (dC (.int 1)))) dNoP (dPart (dVar 3))) (gdName 5))
  (dSeq (dAsg (dCall sp_law_draw 2 (dCons (dVar 0) (dCons (dOp dAdd (dVar 3) (dC (.int 1))) dNil))) (gdName 6))
  (dRet (dOp dAdd (dOp dAdd (dSl dCut (dVar 5) dNoP (dPart (dVar 6))) (dOp dMulA (dCall sp_law_sign 1 (dCons (dVar 0) dNil)) (dCB (dC2 fun i j => if j < i then j else i) (dCons (dC (.int 1)) (dCons (dOp dSub (dVar 3) (dVar 6)) dNil))))) (dSl dCut (dVar 5) (dPart (dOp dAdd (dVar 6) (dC (.int 1)))) dNoP))))))))

def spn_law_same (n : Nat) : SpD := fun ds W Q _ => ∃ d, ds = [d, d] ∧ plainN n d ∧ Q (.bl true) W
abbrev sp_law_same : SpD := spn_law_same 4
def d_law_same (sp0 : SpD) : TSD := (dSeq (dIfS (dBool (dOp dIsN (dVar 1) (dC .non))) (dRet (dOp dIsN (dVar 0) (dC .non))) dNext)
  (dSeq (dIfS (dBool (dCB dIsi (dCons (dVar 1) (dCons (dC (.ty "bool")) dNil)))) (dRet (dAnd (dCB dIsi (dCons (dVar 0) (dCons (dC (.ty "bool")) dNil))) (dOp dEq (dVar 0) (dVar 1)))) dNext)
  (dSeq (dIfS (dBool (dCB dIsi (dCons (dVar 1) (dCons (dC (.ty "int")) dNil)))) (dRet (dAnd (dCB dIsi (dCons (dVar 0) (dCons (dC (.ty "int")) dNil))) (dAnd (dNot (dCB dIsi (dCons (dVar 0) (dCons (dC (.ty "bool")) dNil)))) (dOp dEq (dVar 0) (dVar 1))))) dNext)
  (dSeq (dIfS (dBool (dCB dIsi (dCons (dVar 1) (dCons (dC (.ty "str")) dNil)))) (dRet (dAnd (dCB dIsi (dCons (dVar 0) (dCons (dC (.ty "str")) dNil))) (dOp dEq (dVar 0) (dVar 1)))) dNext)
  (dSeq (dIfS (dOrB (dBool (dOp dNe (dCB dIsi (dCons (dVar 1) (dCons (dC (.ty "list")) dNil))) (dCB dIsi (dCons (dVar 0) (dCons (dC (.ty "list")) dNil))))) (dBool (dOp dNe (dCB dIsi (dCons (dVar 1) (dCons (dC (.ty "tuple")) dNil))) (dCB dIsi (dCons (dVar 0) (dCons (dC (.ty "tuple")) dNil)))))) (dRet (dC (.bl false))) dNext)
  (dRet (dAnd (dOp dEq (dCB dLen (dCons (dVar 0) dNil)) (dCB dLen (dCons (dVar 1) dNil))) (dOp dEq (dFresh (dLc (iRngD1 (dCons (dCB dLen (dCons (dVar 1) dNil)) dNil)) (gdName 2) (dNotB (dBool (dCall sp0 2 (dCons (dOp dIx (dVar 0) (dVar 2)) (dCons (dOp dIx (dVar 1) (dVar 2)) dNil))))) (dVar 2) [2])) (dLst dNil)))))))))

def sp_law_part : SpD := fun ds W Q _ => ∃ (l : List Nat) (a k : Nat), ds = [.str (mkS l), .int a, .int k] ∧ l.length ≤ 100000 ∧ Pr l ∧ 0 < k ∧ k ≤ 100 ∧ a ≤ 1000000 ∧ Q (.int (numIn l a k)) W
def d_law_part : TSD := (dSeq (dAsg (dSl dCut (dVar 0) (dPart (dVar 1)) (dPart (dOp dAdd (dVar 1) (dVar 2)))) (gdName 3))
  (dSeq (dIfS (dOrB (dBool (dOp dLt (dCB dLen (dCons (dVar 3) dNil)) (dVar 2))) (dBool (dOp dNe (dFresh (dLc (iStrD (dVar 3)) (gdName 4) (dBool (dOp (dIn true) (dVar 4) (dC (.str "0123456789")))) (dVar 4) [4])) (dLst dNil)))) (dRet (dNeg (dC (.int 1)))) dNext)
  (dRet (dCB dIntC (dCons (dVar 3) dNil)))))

def sp_law_node_text : SpD := fun ds W Q _ => ∃ nd, ds = [nodeD nd] ∧ NdOk nd ∧ Q (.str (mkS (nodeL nd))) W
def d_law_node_text : TSD := (dSeq (dIfS (dBool (dOp dEq (dOp dIx (dVar 0) (dC (.int 0))) (dC (.str "leaf")))) (dSeq (dAsg (dFresh (dLc (iTupD (dOp dIx (dVar 0) (dC (.int 1)))) (gdTup 2 (gdCons (gdName 3) (gdCons (gdName 4) gdNil))) dYes (dOp dAdd (dOp dAdd (dOp dAdd (dM (dMI (fun _ i => PySem.PadOk i = true) fun a i => .str (Txt.zfill a i)) (dCB dStrC (dCons (dCB dLen (dCons (dVar 3) dNil)) dNil)) (dCons (dC (.int 3)) dNil)) (dM (dMI (fun _ i => PySem.PadOk i = true) fun a i => .str (Txt.zfill a i)) (dCB dStrC (dCons (dCB dLen (dCons (dVar 4) dNil)) dNil)) (dCons (dC (.int 3)) dNil))) (dVar 3)) (dVar 4)) [3, 4])) (gdName 1))
  (dRet (dOp dAdd (dC (.str "L")) (dM dJoin (dC (.str "")) (dCons (dVar 1) dNil))))) dNext)
  (dSeq (dAsg (dM dJoin (dC (.str "")) (dCons (dFresh (dLc (iTupD (dOp dIx (dVar 0) (dC (.int 2)))) (gdName 5) dYes (dM (dMI (fun _ i => PySem.PadOk i = true) fun a i => .str (Txt.zfill a i)) (dCB dStrC (dCons (dVar 5) dNil)) (dCons (dC (.int 4)) dNil)) [5])) dNil)) (gdName 2))
  (dRet (dOp dAdd (dOp dAdd (dOp dAdd (dC (.str "I")) (dCB dStrC (dCons (dCB dLen (dCons (dOp dIx (dVar 0) (dC (.int 2))) dNil)) dNil))) (dVar 2)) (dM dJoin (dC (.str "")) (dCons (dFresh (dLc (iTupD (dOp dIx (dVar 0) (dC (.int 1)))) (gdName 6) dYes (dOp dAdd (dM (dMI (fun _ i => PySem.PadOk i = true) fun a i => .str (Txt.zfill a i)) (dCB dStrC (dCons (dCB dLen (dCons (dVar 6) dNil)) dNil)) (dCons (dC (.int 3)) dNil)) (dVar 6)) [6])) dNil))))))

def sp_law_leaf_told : SpD := fun ds W Q _ => ∃ l : List Nat, ds = [.str (mkS l)] ∧ l.length ≤ 100000 ∧ Pr l ∧ Q (leafD l) W
def d_law_leaf_told : TSD := (dSeq (dParO1 1 2 (dLstN dNil) (dC (.int 1)))
  (dSeq (dWhile (dBool (dOp dLt (dVar 2) (dCB dLen (dCons (dVar 0) dNil))))
  (dSeq (dPar 3 4 (dCons (dCall sp_law_part 3 (dCons (dVar 0) (dCons (dVar 2) (dCons (dC (.int 3)) dNil)))) (dCons (dCall sp_law_part 3 (dCons (dVar 0) (dCons (dOp dAdd (dVar 2) (dC (.int 3))) (dCons (dC (.int 3)) dNil)))) dNil)))
  (dSeq (dAsg (dOp dAdd (dOp dAdd (dOp dAdd (dVar 2) (dC (.int 6))) (dVar 3)) (dVar 4)) (gdName 5))
  (dSeq (dIfS (dOrB (dBool (dOp dLt (dCB (dC2 fun i j => if j < i then j else i) (dCons (dVar 3) (dCons (dVar 4) dNil))) (dC (.int 0)))) (dBool (dOp dGt (dVar 5) (dCB dLen (dCons (dVar 0) dNil))))) (dRet (dC .non)) dNext)
  (dSeq (dApp 1 (dTup (dCons (dSl dCut (dVar 0) (dPart (dOp dAdd (dVar 2) (dC (.int 6)))) (dPart (dOp dAdd (dOp dAdd (dVar 2) (dC (.int 6))) (dVar 3)))) (dCons (dSl dCut (dVar 0) (dPart (dOp dAdd (dOp dAdd (dVar 2) (dC (.int 6))) (dVar 3))) (dPart (dVar 5))) dNil))))
  (dAsg (dVar 5) (gdName 2)))))))
  (dFrz 1 (dRet (dCB dTupC (dCons (dVar 1) dNil))))))

def sp_law_node_told : SpD := fun ds W Q _ => ∃ l : List Nat, ds = [.str (mkS l)] ∧ l.length ≤ 100000 ∧ Pr l ∧ Q (toldD l) W
def d_law_node_told : TSD := (dSeq (dIfS (dBool (dOp dEq (dSl dCut (dVar 0) dNoP (dPart (dC (.int 1)))) (dC (.str "L")))) (dSeq (dAsg (dCall sp_law_leaf_told 1 (dCons (dVar 0) dNil)) (gdName 1))
  (dRet (dIf (dBool (dOp dIsN (dVar 1) (dC .non))) (dC .non) (dTup (dCons (dC (.str "leaf")) (dCons (dVar 1) dNil)))))) dNext)
  (dSeq (dAsg (dCall sp_law_part 3 (dCons (dVar 0) (dCons (dC (.int 1)) (dCons (dC (.int 1)) dNil)))) (gdName 2))
  (dSeq (dIfS (dOrB (dBool (dOp dNe (dSl dCut (dVar 0) dNoP (dPart (dC (.int 1)))) (dC (.str "I")))) (dBool (dOp dLt (dVar 2) (dC (.int 1))))) (dRet (dC .non)) dNext)
  (dSeq (dAsg (dFresh (dLc (iRngD1 (dCons (dVar 2) dNil)) (gdName 6) dYes (dCall sp_law_part 3 (dCons (dVar 0) (dCons (dOp dAdd (dC (.int 2)) (dOp dMulA (dC (.int 4)) (dVar 6))) (dCons (dC (.int 4)) dNil)))) [6])) (gdName 3))
  (dSeq (dParO1 4 5 (dLstN dNil) (dOp dAdd (dC (.int 2)) (dOp dMulA (dC (.int 4)) (dVar 2))))
  (dSeq (dFor (iRngD1 (dCons (dOp dSub (dVar 2) (dC (.int 1))) dNil)) (gdName 6)
  (dSeq (dAsg (dCall sp_law_part 3 (dCons (dVar 0) (dCons (dVar 5) (dCons (dC (.int 3)) dNil)))) (gdName 7))
  (dSeq (dIfS (dOrB (dBool (dOp dLt (dVar 7) (dC (.int 0)))) (dBool (dOp dGt (dOp dAdd (dOp dAdd (dVar 5) (dC (.int 3))) (dVar 7)) (dCB dLen (dCons (dVar 0) dNil))))) (dRet (dC .non)) dNext)
  (dSeq (dApp 4 (dSl dCut (dVar 0) (dPart (dOp dAdd (dVar 5) (dC (.int 3)))) (dPart (dOp dAdd (dOp dAdd (dVar 5) (dC (.int 3))) (dVar 7)))))
  (dAsg (dOp dAdd (dOp dAdd (dVar 5) (dC (.int 3))) (dVar 7)) (gdName 5))))))
  (dFrz 4 (dSeq (dIfS (dOrB (dBool (dOp dLt (dCB dMin1A (dCons (dVar 3) dNil)) (dC (.int 0)))) (dBool (dOp dNe (dVar 5) (dCB dLen (dCons (dVar 0) dNil))))) (dRet (dC .non)) dNext)
  (dRet (dTup (dCons (dC (.str "inner")) (dCons (dCB dTupC (dCons (dVar 4) dNil)) (dCons (dCB dTupC (dCons (dVar 3) dNil)) dNil)))))))))))))

def sp_law_node : SpD := fun ds W Q _ => ∃ (p : Addr) (k : Nat), ds = [.ref p] ∧ FlowOk W p k ∧ k < 800000 ∧ ∀ nd W', NdOk nd → FlowOk W' p (k + 200) → Q (nodeD nd) W'
def d_law_node : TSD := (dSeq (dAsg (dOp dIx (dLst (dCons (dC (.int 3)) (dCons (dC (.int 30)) (dCons (dC (.int 300)) dNil)))) (dCall sp_law_draw 2 (dCons (dVar 0) (dCons (dC (.int 3)) dNil)))) (gdName 1))
  (dSeq (dIfS (dBool (dOp dEq (dCall sp_law_draw 2 (dCons (dVar 0) (dCons (dC (.int 2)) dNil))) (dC (.int 0)))) (dRet (dTup (dCons (dC (.str "leaf")) (dCons (dCB dTupC (dCons (dFresh (dLc (iRngD1 (dCons (dCall sp_law_draw 2 (dCons (dVar 0) (dCons (dC (.int 7)) dNil))) dNil)) (gdName 4) dYes (dTup (dCons (dCall sp_law_text 2 (dCons (dVar 0) (dCons (dVar 1) dNil))) (dCons (dCall sp_law_text 2 (dCons (dVar 0) (dCons (dVar 1) dNil))) dNil))) [4])) dNil)) dNil)))) dNext)
  (dSeq (dAsg (dOp dAdd (dC (.int 1)) (dCall sp_law_draw 2 (dCons (dVar 0) (dCons (dC (.int 9)) dNil)))) (gdName 2))
  (dSeq (dAsg (dFresh (dLc (iRngD1 (dCons (dVar 2) dNil)) (gdName 4) dYes (dOp dIx (dLst (dCons (dC (.int 0)) (dCons (dC (.int 9999)) (dCons (dCall sp_law_draw 2 (dCons (dVar 0) (dCons (dC (.int 10000)) dNil))) (dCons (dCall sp_law_draw 2 (dCons (dVar 0) (dCons (dC (.int 12)) dNil))) dNil))))) (dCall sp_law_draw 2 (dCons (dVar 0) (dCons (dC (.int 4)) dNil)))) [4])) (gdName 3))
  (dRet (dTup (dCons (dC (.str "inner")) (dCons (dCB dTupC (dCons (dFresh (dLc (iRngD1 (dCons (dOp dSub (dCB dLen (dCons (dVar 3) dNil)) (dC (.int 1))) dNil)) (gdName 4) dYes (dCall sp_law_text 2 (dCons (dVar 0) (dCons (dVar 1) dNil))) [4])) dNil)) (dCons (dCB dTupC (dCons (dVar 3) dNil)) dNil)))))))))

def sp_law_near : SpD := fun ds W Q _ => ∃ (p : Addr) (k : Nat) (l : List Nat), ds = [.ref p, .str (mkS l)] ∧ FlowOk W p k ∧ k < 800000 ∧ Pr l ∧ l.length ≤ 30000 ∧ ∀ l' W', Pr l' → l'.length ≤ 3 * l.length + 10 → FlowOk W' p (k + 10) → Q (.str (mkS l')) W'
def d_law_near : TSD := (dSeq (dAsg (dCall sp_law_draw 2 (dCons (dVar 0) (dCons (dOp dAdd (dCB dLen (dCons (dVar 1) dNil)) (dC (.int 1))) dNil))) (gdName 2))
  (dSeq (dIfS (dBool (dOp dEq (dCall sp_law_draw 2 (dCons (dVar 0) (dCons (dC (.int 3)) dNil))) (dC (.int 0)))) (dAsg (dCall sp_law_draw 2 (dCons (dVar 0) (dCons (dOp dAdd (dCB (dC2 fun i j => if j < i then j else i) (dCons (dCB dLen (dCons (dVar 1) dNil)) (dCons (dC (.int 12)) dNil))) (dC (.int 1))) dNil))) (gdName 2)) dNext)
  (dSeq (dAsg (dOp dIx (dLst (dCons (dCall sp_law_sign 1 (dCons (dVar 0) dNil)) (dCons (dC (.str "0")) (dCons (dC (.str "1")) (dCons (dC (.str "9")) (dCons (dC (.str " ")) (dCons (dC (.str "L")) (dCons (dC (.str "I")) (dCons (dC (.str "-")) dNil))))))))) (dCall sp_law_draw 2 (dCons (dVar 0) (dCons (dC (.int 8)) dNil)))) (gdName 3))
  (dSeq (dAsg (dLst (dCons (dVar 1) (dCons (dOp dAdd (dOp dAdd (dSl dCut (dVar 1) dNoP (dPart (dVar 2))) (dVar 3)) (dSl dCut (dVar 1) (dPart (dOp dAdd (dVar 2) (dC (.int 1)))) dNoP)) (dCons (dOp dAdd (dSl dCut (dVar 1) dNoP (dPart (dVar 2))) (dSl dCut (dVar 1) (dPart (dOp dAdd (dVar 2) (dC (.int 1)))) dNoP)) (dCons (dOp dAdd (dOp dAdd (dSl dCut (dVar 1) dNoP (dPart (dVar 2))) (dVar 3)) (dSl dCut (dVar 1) (dPart (dVar 2)) dNoP)) dNil))))) (gdName 4))
  (dSeq (dAsg (dOp dAdd (dVar 4) (dLst (dCons (dSl dCut (dVar 1) dNoP (dPart (dVar 2))) (dCons (dOp dAdd (dVar 1) (dVar 3)) (dCons (dM (dM0 (fun a => a.length ≤ 5592405) fun a => .str (Txt.lower a)) (dVar 1) dNil) (dCons (dOp dAdd (dVar 1) (dSl dCut (dVar 1) (dPart (dC (.int 1))) dNoP)) (dCons (dOp dAdd (dVar 1) (dC (.str "000000"))) (dCons (dSl dCut (dVar 1) (dPart (dC (.int 1))) dNoP) dNil)))))))) (gdName 4))
  (dRet (dOp dIx (dVar 4) (dCall sp_law_draw 2 (dCons (dVar 0) (dCons (dC (.int 10)) dNil))))))))))

def sp_law_put_together : SpD := fun ds W Q _ => ∃ (p : Addr) (k : Nat), ds = [.ref p] ∧ FlowOk W p k ∧ k < 800000 ∧ ∀ l W', Pr l → l.length ≤ 40 → FlowOk W' p (k + 40) → Q (.str (mkS l)) W'
def d_law_put_together : TSD := (dSeq (dAsg (dOp dIx (dLst (dCons (dC (.str "L")) (dCons (dC (.str "I")) (dCons (dC (.str "I1")) (dCons (dC (.str "I2")) (dCons (dC (.str "I3")) (dCons (dC (.str "")) (dCons (dC (.str "l")) (dCons (dC (.str "I0")) dNil))))))))) (dCall sp_law_draw 2 (dCons (dVar 0) (dCons (dC (.int 8)) dNil)))) (gdName 1))
  (dSeq (dFor (iRngD1 (dCons (dCall sp_law_draw 2 (dCons (dVar 0) (dCons (dC (.int 30)) dNil))) dNil)) (gdName 2)
  (dAsg (dOp dAdd (dVar 1) (dOp dIx (dLst (dCons (dC (.str "0")) (dCons (dC (.str "0")) (dCons (dC (.str "0")) (dCons (dC (.str "0")) (dCons (dC (.str "1")) (dCons (dC (.str "2")) (dCons (dC (.str "a")) (dCons (dC (.str " ")) dNil))))))))) (dCall sp_law_draw 2 (dCons (dVar 0) (dCons (dC (.int 8)) dNil))))) (gdName 1)))
  (dRet (dVar 1))))

def sp_law_full : SpD := fun ds W Q _ => ∃ (p : Addr) (m k : Nat), ds = [.ref p, .int m] ∧ FlowOk W p k ∧ k < 800000 ∧ m ≤ 300 ∧ ∀ l W', l.length = m → Pr l → FlowOk W' p (k + 10) → Q (.str (mkS l)) W'
def d_law_full : TSD := (dRet (dSl dCut (dOp dAdd (dCall sp_law_text 2 (dCons (dVar 0) (dCons (dC (.int 9)) dNil))) (dOp dMulA (dC (.str "q")) (dVar 1))) dNoP (dPart (dVar 1))))

def sp_law_rooms_right : SpD := fun ds W Q _ => ∃ (p : Addr) (k : Nat), ds = [.ref p] ∧ FlowOk W p k ∧ k < 700000 ∧ ∀ W', FlowOk W' p (k + 200) → Q (.bl true) W'
def d_law_rooms_right : TSD := (dSeq (dAsg (dOp dIx (dLst (dCons (dC (.int 100)) (dCons (dC (.int 101)) (dCons (dC (.int 102)) (dCons (dC (.int 103)) (dCons (dC (.int 1000)) (dCons (dOp dAdd (dC (.int 100)) (dCall sp_law_draw 2 (dCons (dVar 0) (dCons (dC (.int 901)) dNil)))) dNil))))))) (dCall sp_law_draw 2 (dCons (dVar 0) (dCons (dC (.int 6)) dNil)))) (gdName 1))
  (dSeq (dAsg (dOp dSub (dOp dFdv (dOp dSub (dVar 1) (dC (.int 1))) (dC (.int 4))) (dC (.int 6))) (gdName 2))
  (dSeq (dIfS (dNotB (dBool (dCall sp_law_same 2 (dCons (dLst (dCons (dCall sp_entry_room 1 (dCons (dVar 1) dNil)) (dCons (dCallK sp_entry_room 1 1 [0] (dCons (dVar 1) dNil)) dNil))) (dCons (dLst (dCons (dVar 2) (dCons (dVar 2) dNil))) dNil))))) (dRet (dC (.bl false))) dNext)
  (dSeq (dAsgO 3 (dLstN dNil))
  (dSeq (dFor (iRngD1 (dCons (dC (.int 4)) dNil)) (gdName 4)
  (dSeq (dAsg (dCall sp_law_draw 2 (dCons (dVar 0) (dCons (dOp dAdd (dVar 2) (dC (.int 1))) dNil))) (gdName 5))
  (dApp 3 (dTup (dCons (dCall sp_law_full 2 (dCons (dVar 0) (dCons (dVar 5) dNil))) (dCons (dCall sp_law_full 2 (dCons (dVar 0) (dCons (dOp dSub (dVar 2) (dVar 5)) dNil))) dNil))))))
  (dFrz 3 (dSeq (dAsg (dCB dTupC (dCons (dFresh (dLc (iRngD1 (dCons (dC (.int 3)) dNil)) (gdName 4) dYes (dCall sp_law_full 2 (dCons (dVar 0) (dCons (dVar 2) dNil))) [4])) dNil)) (gdName 6))
  (dSeq (dPar 7 8 (dCons (dTup (dCons (dC (.str "leaf")) (dCons (dCB dTupC (dCons (dVar 3) dNil)) dNil))) (dCons (dTup (dCons (dC (.str "inner")) (dCons (dVar 6) (dCons (dTup (dCons (dC (.int 0)) (dCons (dC (.int 9999)) (dCons (dC (.int 149)) (dCons (dC (.int 1)) dNil))))) dNil)))) dNil)))
  (dSeq (dIfS (dBool (dOp dGt (dCB (dC2 fun i j => if j > i then j else i) (dCons (dCB dLen (dCons (dCall sp_law_node_text 1 (dCons (dVar 7) dNil)) dNil)) (dCons (dCB dLen (dCons (dCall sp_law_node_text 1 (dCons (dVar 8) dNil)) dNil)) dNil))) (dVar 1))) (dRet (dC (.bl false))) dNext)
  (dRet (dCall sp_law_same 2 (dCons (dLst (dCons (dCall sp_node_text 1 (dCons (dVar 7) dNil)) (dCons (dCall sp_node_text 1 (dCons (dVar 8) dNil)) dNil))) (dCons (dLst (dCons (dCall sp_law_node_text 1 (dCons (dVar 7) dNil)) (dCons (dCall sp_law_node_text 1 (dCons (dVar 8) dNil)) dNil))) dNil)))))))))))))

def sp_law : SpD := spTrue

def d_law : TSD := (dSeq (dAsg (dCall sp_law_flow 1 (dCons (dVar 0) dNil)) (gdName 1))
  (dSeq (dFor (iRngD1 (dCons (dOp dAdd (dC (.int 4)) (dCB (dC2 fun i j => if j < i then j else i) (dCons (dC (.int 8)) (dCons (dCB dLen (dCons (dVar 0) dNil)) dNil)))) dNil)) (gdName 2)
  (dSeq (dAsg (dCall sp_law_node 1 (dCons (dVar 1) dNil)) (gdName 3))
  (dSeq (dAsg (dCall sp_law_node_text 1 (dCons (dVar 3) dNil)) (gdName 4))
  (dSeq (dIfS (dNotB (dBool (dCall sp_law_same 2 (dCons (dLst (dCons (dCall sp_node_text 1 (dCons (dVar 3) dNil)) (dCons (dCallK sp_node_text 1 1 [0] (dCons (dVar 3) dNil)) (dCons (dCall sp_node_told 1 (dCons (dVar 4) dNil)) dNil)))) (dCons (dLst (dCons (dVar 4) (dCons (dVar 4) (dCons (dVar 3) dNil)))) dNil))))) (dRet (dC (.bl false))) dNext)
  (dSeq (dAsg (dCall sp_law_near 2 (dCons (dVar 1) (dCons (dCall sp_law_near 2 (dCons (dVar 1) (dCons (dVar 4) dNil))) dNil))) (gdName 5))
  (dSeq (dAsg (dCall sp_law_put_together 1 (dCons (dVar 1) dNil)) (gdName 6))
  (dSeq (dIfS (dNotB (dBool (dCall sp_law_same 2 (dCons (dLst (dCons (dCallK sp_node_told 1 1 [0] (dCons (dVar 5) dNil)) (dCons (dCall sp_node_told 1 (dCons (dVar 6) dNil)) dNil))) (dCons (dLst (dCons (dCall sp_law_node_told 1 (dCons (dVar 5) dNil)) (dCons (dCall sp_law_node_told 1 (dCons (dVar 6) dNil)) dNil))) dNil))))) (dRet (dC (.bl false))) dNext)
  (dIfS (dNotB (dBool (dCall sp_law_rooms_right 1 (dCons (dVar 1) dNil)))) (dRet (dC (.bl false))) dNext))))))))
  (dRet (dC (.bl true)))))

end K07

namespace K07
open PySem PySem.Spec L2 G TL C
local macro_rules | `(tactic| walk_at "gs") => `(tactic| simp only [dSeq, dAsg, dAsgO, dAsgW, gdName, gdTup, gdCons, gdNil, dVar, dC, dOp, dAdd, dSub, dMod, dFdv, dPow, d2J, d2I, dMulA, dCmp, dBool, dIfS, dIf, dNext, dRet, dRetN, dCons, dNil, dCB, dLen, dIntC, dStrC, dC2, dAbs, dSl, dPart, dNoP, dCut, dNotB, dNot, dAndB, dOrB, dAnd, dOr, dTup, dLst, dLstN, dFresh, dM, dM1, dMI, dM0, dJoin, dRjust, dIx, dIsN, dNotN, D.isNon, dEq, dNe, dIsi, dIsiT, tyD, dAll, dAny, dTupC, dListC, dDrop, dNeg, dCall, dCallK, pick, dChain, dIn, dMin1, dMax1, dPar, dFrz, dIxW, dNeW, dRetW, iRngD1, iRngD2, iRngD3, iScr, iSeq, iTupD, iStrD, dFor, dWhile, dLenO, dIxO, dSetO, dApp, dApp0,
  List.getElem?_cons_zero, List.getElem?_cons_succ, List.set_cons_zero, List.set_cons_succ, List.length_cons, List.length_nil, List.filterMap_cons, List.filterMap_nil])
theorem rd_figures : Rd n_figures 2 sp_figures d_figures := by
  rintro ds W Q Qx _ ⟨n, k, rfl, hk, hk2, hn, h⟩
  show d_figures _ [some (.sh (.int n)), some (.sh (.int k))] W
  unfold d_figures
  walk_at "gs"
  have hlog : n.log2 < 1920 := Nat.lt_of_lt_of_le (log2_small (Nat.lt_of_lt_of_le hn (ten_le_two k)) (by omega)) (by omega)
  refine ⟨by simpa using hlog, ⟨_, rfl⟩, ?_, ?_, ?_⟩
  · exact pad_ok ⟨k, by omega⟩
  · rw [so_0]; rfl
  · rw [so_0]
    show Q (.str (Txt.rjustF _ _ 48)) W
    rw [rjust_tl n k hk hn]
    exact h
theorem rd_number_in : Rd n_number_in 3 sp_number_in d_number_in := by
  rintro ds W Q Qx _ ⟨s, a, k, rfl, hl, hk0, hk, ha, h⟩
  show d_number_in _ [some (.sh (.str s)), some (.sh (.int a)), some (.sh (.int k)), none, none] W
  unfold d_number_in
  walk_at "gs"
  refine ⟨sz _ (by omega), ?_⟩
  have e : cutS s (some (a : Int)) (some ((a : Int) + (k : Int))) = mkS (((tl s).drop a).take k) := by
    have := cut_ab s a (a + k)
    rw [show ((a + k : Nat) : Int) = (a : Int) + (k : Int) by omega, show a + k - a = k by omega] at this
    exact this
  rw [e, len_mkS]
  have hll : (((tl s).drop a).take k).length ≤ 100 := by rw [List.length_take]; omega
  refine ⟨sz _ (by omega), ?_⟩
  have goal : numIn (tl s) a k = if (((tl s).drop a).take k).length < k ∨ (((tl s).drop a).take k).all isDig = false then -1 else ((NumText.digitsVal (((tl s).drop a).take k) : Nat) : Int) := rfl
  by_cases h1 : (((tl s).drop a).take k).length < k
  · rw [if_pos (by simpa using h1)]
    rw [if_pos True.intro]
    rw [goal, if_pos (.inl h1)] at h
    exact h
  · rw [if_neg (by simpa using h1)]
    refine dLc_map (signs (mkS (((tl s).drop a).take k))) (fun d => .bl (match d with | .v (.str z) => (tl z).all isDig | _ => false)) (noOwn1 (by simp)) ?_ (fun P hP => ?_) (fun d hd P hP => ?_) ?_
    · rw [signs_mk, List.length_map, tl_mkS]
      exact sz _ (by omega)
    · walk_at "gs"
      exact hP
    · rw [signs_mk, List.mem_map] at hd
      obtain ⟨c, hc, rfl⟩ := hd
      walk_at "gs"
      rw [so_0, so_9, ltS_one, ltS_one]
      by_cases c1 : c < 48
      · rw [decide_eq_true c1]
        have : isDig c = false := by unfold isDig; rw [decide_eq_false (by omega)]; rfl
        simp only [tl_mkS, List.all_cons, List.all_nil, this] at hP
        exact hP
      · rw [decide_eq_false c1]
        have : isDig c = !decide (57 < c) := by
          unfold isDig
          rw [decide_eq_true (by omega : 48 ≤ c)]
          by_cases c2 : 57 < c
          · rw [decide_eq_true c2, decide_eq_false (by omega)]; rfl
          · rw [decide_eq_false c2, decide_eq_true (by omega)]; rfl
        simp only [tl_mkS, List.all_cons, List.all_nil, this, Bool.and_true] at hP
        exact hP
    · rw [signs_mk, List.map_map, tl_mkS]
      refine ⟨(((tl s).drop a).take k).map isDig, ?_, ?_⟩
      · have := bls_map (((tl s).drop a).take k) isDig
        rw [← this]
        congr 1
        refine List.map_congr_left fun c _ => ?_
        show D.bl ((tl (mkS [c])).all isDig) = D.bl (isDig c)
        rw [tl_mkS, List.all_cons, List.all_nil, Bool.and_true]
      · rw [List.all_map]
        by_cases h2 : (((tl s).drop a).take k).all isDig = true
        · have e2 : (((tl s).drop a).take k).all (id ∘ isDig) = true := h2
          rw [e2]
          show (if (!true) = true then _ else _)
          rw [if_neg (by decide)]
          have hd := isDig_all h2
          refine ⟨by rw [len_mkS]; omega, _, PySem.intText_digits (x := mkS (((tl s).drop a).take k)) hd ?_ (by rw [len_mkS]; omega), ?_⟩
          · intro q
            rw [show (mkS (((tl s).drop a).take k)).cps.toList = ((tl s).drop a).take k from rfl] at q
            rw [q] at h1
            exact h1 (by simpa using hk0)
          · rw [goal, if_neg (by rw [h2]; intro q; rcases q with q | q; exact h1 q; cases q)] at h
            exact h
        · have h2' : (((tl s).drop a).take k).all isDig = false := by simpa using h2
          have e2 : (((tl s).drop a).take k).all (id ∘ isDig) = false := h2'
          rw [e2]
          show (if (!false) = true then _ else _)
          rw [if_pos (by decide)]
          rw [goal, if_pos (.inr h2')] at h
          exact h
theorem FlowOk.mono {W : Wd} {p : Addr} {k k' : Nat} (h : FlowOk W p k) (l : k ≤ k') : FlowOk W p k' := by
  obtain ⟨g, gs, a, b, c, h1, h2, h3, h4, h5, h6, h7, h8, h9, h10⟩ := h
  exact ⟨g, gs, a, b, c, h1, h2, h3, h4, h5, h6, h7, h8, h9, by omega⟩
theorem rd_entry_room : Rd n_entry_room 1 sp_entry_room d_entry_room := by
  rintro ds W Q Qx _ ⟨n, rfl, h⟩
  exact ⟨⟨by decide, by decide⟩, h⟩
theorem cut_tt (l : List Nat) (a k : Nat) : cutS (mkS l) (some (a : Int)) (some ((a : Int) + (k : Int))) = mkS ((l.drop a).take k) := by
  have := cut_ab (mkS l) a (a + k)
  rw [show ((a + k : Nat) : Int) = (a : Int) + (k : Int) by omega, show a + k - a = k by omega] at this
  exact this
theorem rd_text_in : Rd n_text_in 3 sp_text_in d_text_in := by
  rintro ds W Q Qx _ ⟨l, a, k, rfl, hl, h⟩
  show d_text_in _ [some (.sh (.str (mkS l))), some (.sh (.int a)), some (.sh (.int k))] W
  unfold d_text_in
  have hz : (mkS l).length ≤ sizeLine := sz _ (by rw [len_mkS]; omega)
  unfold textIn at h
  show (if decide ((0 : Int) ≤ k) = true then _ else _)
  by_cases h0 : 0 ≤ k
  · rw [decide_eq_true h0, if_pos rfl]
    refine ⟨hz, ?_⟩
    show (if decide ((a : Int) + k ≤ (mkS l).length) = true then _ else _)
    rw [len_mkS]
    by_cases h1 : (a : Int) + k ≤ l.length
    · rw [decide_eq_true h1, if_pos rfl]
      rw [if_pos ⟨h0, h1⟩] at h
      refine ⟨hz, ?_⟩
      have := cut_tt l a k.toNat
      rw [Int.toNat_of_nonneg h0] at this
      rw [this]
      exact h
    · rw [decide_eq_false h1, if_neg Bool.false_ne_true]
      rw [if_neg fun q => h1 q.2] at h
      exact h
  · rw [decide_eq_false h0, if_neg Bool.false_ne_true]
    show (if false = true then _ else _)
    rw [if_neg Bool.false_ne_true]
    rw [if_neg fun q => h0 q.1] at h
    exact h
end K07

namespace K07
open PySem PySem.Spec L2 G TL C
theorem rd_law_flow : Rd n_law_flow 1 sp_law_flow d_law_flow := by
  rintro ds W Q Qx _ ⟨ns, rfl, hb, h⟩
  refine ⟨_, rfl, fun q hq => ⟨sz 4 (by decide), fun p hp => h _ _ ⟨q, ns, 0, 11, 0, ?_, updW_same, ?_, hb, by decide, ?_, by decide, by decide, by decide, by decide⟩⟩⟩
  · rintro rfl; rw [updW_same] at hp; cases hp
  · rw [updW_ne, updW_same]
    rintro rfl; rw [updW_same] at hp; cases hp
  · exact big_pos
theorem rd_law_draw : Rd n_law_draw 2 sp_law_draw d_law_draw := by
  rintro ds W Q Qx _ ⟨p, many, k, rfl, ⟨q, cs, a, b, c, hne, hp, hq, hcs, ha0, ha1, hb0, hb1, hc0, hc1⟩, hk, hM0, hM1, h⟩
  show d_law_draw _ [some (.sh (.ref p)), some (.sh (.int many)), none, none, none, none, none] W
  unfold d_law_draw
  have hne' : q ≠ p := fun z => hne z.symm
  refine seq_gen (fun ρ W => ∃ (x2 : Option Sl) (cs : List Int) (a b : Int), ρ = [some (.sh (.ref p)), some (.sh (.int many)), x2, none, none, none, none] ∧ W p = some (.lst [.ref q, .int a, .int b, .int c]) ∧ W q = some (.lst (cs.map D.int)) ∧ (∀ z ∈ cs, Builtin.Int.intBits z ≤ 1048576) ∧ 0 ≤ a ∧ a.natAbs < bigB ∧ 0 ≤ b ∧ b < 2305843009213693951)
    (fun ρ W hI => ?_) (fun N hN => ?_)
  · obtain ⟨x2, cs, a, b, rfl, hp, hq, hcs, ha0, ha1, hb0, hb1⟩ := hI
    refine ⟨_, .int a, hp, rfl, ?_⟩
    refine ite_d (fun h0 => ?_) (fun h0 => ?_)
    · have hd : a / many ≤ a := Int.ediv_le_self _ ha0
      have hd0 : 0 ≤ a / many := Int.ediv_nonneg ha0 (by omega)
      have hlt : (a / many).natAbs < bigB := by omega
      refine ⟨_, .int a, hp, rfl, ⟨hM0, Nat.lt_of_lt_of_le (log2_small (k := 30) (by omega) (by decide)) (by decide)⟩, ?_⟩
      refine ⟨_, .int a, hp, rfl, mulX_big 30 hlt (by omega) (by decide) (by decide), ?_⟩
      refine ⟨_, 1, hp, rfl, ?_⟩
      have e : a - a / many * many = a % many := by
        have := Int.mul_ediv_add_emod a many
        rw [Int.mul_comm] at this; omega
      show Q (.int (a - a / many * many)) _
      rw [e]
      refine h _ _ (Int.emod_nonneg _ (by omega)) (Int.emod_lt_of_pos _ hM0) ⟨q, cs, a / many, b, c, hne, updW_same, ?_, hcs, hd0, hlt, hb0, hb1, hc0, by omega⟩
      rw [updW_ne hne']; exact hq
    · refine ⟨_, .int c, hp, rfl, _, 3, hp, rfl, ?_⟩
      refine ⟨_, .int (c + 1), updW_same, rfl, ?_⟩
      have M0 : (0 : Int) < 2305843009213693951 := by decide
      have s20 : (c + 1).natAbs < 2 ^ 20 := by omega
      have s40 : (7919 * (c + 1)).natAbs < 2 ^ 40 := by omega
      refine ⟨_, .int b, updW_same, rfl, mulX_of 20 20 (by decide) s20 (by decide) (by decide) (by decide), mulX_of 40 20 s40 s20 (by decide) (by decide) (by decide), mulX_of 30 20 (by decide) s20 (by decide) (by decide) (by decide), M0, ?_⟩
      have f1 := mod61 (b + 7919 * (c + 1) * (c + 1) + 15485863 * (c + 1) + 3)
      refine ⟨mulX_of 61 61 f1 f1 (by decide) (by decide) (by decide), mulX_of 30 20 (by decide) s20 (by decide) (by decide) (by decide), M0, ⟨by decide, by decide⟩, ?_⟩
      have f2 := mod61d ((b + 7919 * (c + 1) * (c + 1) + 15485863 * (c + 1) + 3) % 2305843009213693951 * ((b + 7919 * (c + 1) * (c + 1) + 15485863 * (c + 1) + 3) % 2305843009213693951) + 104729 * (c + 1) + 5) 1021 (by decide)
      refine ⟨mulX_of 61 61 f2 f2 (by decide) (by decide) (by decide), mulX_of 30 20 (by decide) s20 (by decide) (by decide) (by decide), M0, ⟨by decide, by decide⟩, hM0, ?_⟩
      refine h _ _ (Int.emod_nonneg _ (by omega)) (Int.emod_lt_of_pos _ hM0) ⟨q, cs, a, b, c + 1, hne, updW_same, ?_, hcs, ha0, ha1, hb0, hb1, by omega, by omega⟩
      rw [updW_ne hne']; exact hq
  · have no : N [some (.sh (.ref p)), some (.sh (.int many)), none, none, none, none, none] W := hN _ _ ⟨none, cs, a, b, rfl, hp, hq, hcs, ha0, ha1, hb0, hb1⟩
    refine ⟨_, .int a, hp, rfl, dEq_int ?_⟩
    refine ite_d (fun h0 => ?_) (fun h0 => ite_f no)
    refine ⟨_, .ref q, hp, rfl, sz 0 (by decide), _, hq, goods_ints cs, ?_⟩
    cases cs with
    | nil => exact ite_f no
    | cons z r =>
      refine ite_t ?_
      refine ⟨_, .ref q, hp, rfl, ⟨q, _, rfl, hq⟩, _, 0, .int z, hq, by decide, by decide, ?_, rfl, ?_⟩
      · unfold seqIndex?; simp
      have hz := bits_big (hcs z (List.mem_cons_self ..))
      refine ⟨⟨by decide, by decide, by decide⟩, _, 1, (updW_ne hne).trans hp, rfl, ?_⟩
      refine ⟨_, .int b, updW_same, rfl, mulX_of 61 61 (by omega) (by decide) (by decide) (by decide) (by decide), (by decide : (0 : Int) < 2305843009213693951), _, 2, updW_same, rfl, ?_⟩
      refine hN _ _ ⟨some (.sh (.int z)), r, if (if z < 0 then -z else z) - 10 ^ 18 > 0 then (if z < 0 then -z else z) - 10 ^ 18 else 0, (b * 1181783497276652981 + z) % 2305843009213693951, rfl, updW_same, ?_, fun y hy => hcs y (List.mem_cons_of_mem _ hy), ?_, ?_, Int.emod_nonneg _ (by decide), Int.emod_lt_of_pos _ (by decide)⟩
      · rw [updW_ne hne', updW_ne hne', updW_same]; rfl
      · split <;> omega
      · have := big_pos
        split <;> split <;> omega
theorem so_m1 : Str.ofString " !\"#$&'()*+,-./0123456789:;<=>?@ABCDEFGHIJKLMNOPQRSTUVWXYZ[\\]^_`" = mkS (signs1.take 64) := by decide +kernel
theorem so_m2 : Str.ofString "abcdefghijklmnopqrstuvwxyz{|}~" = mkS (signs1.drop 64) := by decide +kernel
theorem rd_law_sign : Rd n_law_sign 1 sp_law_sign d_law_sign := by
  rintro ds W Q Qx _ ⟨p, k, rfl, hs, hk, h⟩
  show d_law_sign _ [some (.sh (.ref p)), none] W
  unfold d_law_sign
  rw [so_m1, so_m2]
  refine ⟨sz _ (by decide), rfl, p, _, k, rfl, hs, by omega, by decide, by decide, fun r W1 h0 h1 hs1 => ?_⟩
  rw [app_mkS, List.take_append_drop]
  obtain ⟨c, hc, h32, h126⟩ := at_mkS signs1 r h0 (by have : signs1.length = 94 := rfl; omega) pr_s1
  exact ⟨sz _ (by decide), c, hc, h c W1 h32 h126 hs1⟩
theorem ifmin (m : Nat) : (if (3 : Int) < (m : Int) then (3 : Int) else (m : Int)) = ((min m 3 : Nat) : Int) := by split <;> omega
theorem rd_law_text : Rd n_law_text 2 sp_law_text d_law_text := by
  rintro ds W Q Qx _ ⟨p, m, k, rfl, hs, hk, hm, h⟩
  show d_law_text _ [some (.sh (.ref p)), some (.sh (.int m)), none, none, none, none, none, none] W
  unfold d_law_text
  rw [so_nil]
  refine ⟨sz 2 (by decide), rfl, p, _, k, rfl, hs, by omega, by decide, by decide, fun r W1 h0 h1 hs1 => ?_⟩
  refine ix_all h0 h1 fun z hz => ?_
  obtain ⟨u, rfl, hu⟩ : ∃ u : Nat, z = .int u ∧ u ≤ m := by
    simp only [List.mem_cons, List.not_mem_nil, or_false] at hz
    rcases hz with rfl | rfl
    · exact ⟨min m 3, by rw [← ifmin m], by omega⟩
    · exact ⟨m, rfl, Nat.le_refl _⟩
  refine ⟨rfl, p, _, _, rfl, hs1, by omega, by omega, by omega, fun lo W2 h0 h1 hs2 => ?_⟩
  obtain ⟨lo, rfl⟩ : ∃ n : Nat, lo = n := ⟨lo.toNat, by omega⟩
  refine ⟨⟨_, rfl⟩, ?_⟩
  refine dLc_eachB (fun ds W' => 1 ≤ ds.length ∧ ds.length ≤ 3 ∧ FlowOk W' p (k + 3)) (fun j W' => FlowOk W' p (k + 3 + j)) (fun d => ∃ c, d = .str (mkS [c]) ∧ 32 ≤ c ∧ c ≤ 126) ?_ (fun P hP => ?_) (fun ds W' hb => ⟨sz _ (by omega), hb.2.2⟩) (fun ds W' hb j d W2 hj hs2 P hP => ?_) (fun ds W' hb ys W2 hyl hya hs2 => ?_)
  · exact noOwn1 (by simp)
  · refine ⟨rfl, p, _, _, rfl, hs2, by omega, by decide, by decide, fun r2 W2 hr0 hr3 hs2 => ?_⟩
    refine ⟨by omega, by omega, hP _ _ ⟨?_, ?_, hs2.mono (by omega)⟩⟩
    · rw [rng_len]; omega
    · rw [rng_len]; omega
  · have hj3 : j < 3 := by have := (List.getElem?_eq_some_iff.mp hj).1; omega
    exact ⟨rfl, p, _, rfl, hs2, by omega, fun c W3 hc0 hc1 hs3 => hP _ _ ⟨c, rfl, hc0, hc1⟩ hs3⟩
  obtain ⟨l, hll, hlp, rfl⟩ := flat_ones ys hya
  have hl1 : 0 < l.length := by omega
  have hl4 : l.length ≤ 3 := by omega
  refine ⟨((l.map fun c => [c]).map mkS), ?_, ?_, ?_⟩
  · have := strsOf_map ((l.map fun c => [c]).map mkS)
    rw [List.map_map] at this
    exact this
  · rw [sum_ones, len_mkS, List.length_map, List.length_map]
    simp; omega
  rw [join_mkS, flat_sing]
  have hs2' : FlowOk W2 p (k + 6) := hs2.mono (by omega)
  have el : ((lo : Int) + 1) = ((lo + 1 : Nat) : Int) := by omega
  refine ⟨by omega, by omega, ?_, ?_⟩
  · rw [len_mkS, el, Int.toNat_natCast]
    refine sz _ ?_
    exact Nat.le_trans (Nat.mul_le_mul hl4 (by omega : lo + 1 ≤ 1001)) (by decide)
  rw [el, rep_mkS]
  refine ⟨sz _ ?_, ?_⟩
  · rw [len_mkS, List.length_flatten, tl_mkS, List.map_replicate, List.sum_replicate_nat]
    exact Nat.le_trans (Nat.mul_le_mul (by omega : lo + 1 ≤ 1001) hl4) (by decide)
  rw [cut_b, tl_mkS, tl_mkS]
  obtain ⟨t, ht⟩ : ∃ t, (List.replicate (lo + 1) l).flatten.take lo = t := ⟨_, rfl⟩
  have htl : t.length = lo := by
    rw [← ht]
    have h2 := rep_cut (lo + 1) hl1
    rw [List.length_take] at h2 ⊢
    omega
  have htp : Pr t := fun c hc => by rw [← ht] at hc; exact rep_pr (lo + 1) hlp c (List.mem_of_mem_take hc)
  rw [ht]
  refine ⟨rfl, p, (lo : Int) + 1, k + 6, rfl, hs2', by omega, by omega, by omega, fun a W3 ha0 ha1 hs3 => ?_⟩
  obtain ⟨a, rfl⟩ : ∃ m : Nat, a = m := ⟨a.toNat, by omega⟩
  have han : a ≤ lo := by omega
  have hz : (mkS t).length ≤ sizeLine := sz _ (by rw [len_mkS]; omega)
  refine ⟨hz, ?_⟩
  rw [cut_b, tl_mkS]
  refine ⟨rfl, p, _, rfl, hs3, by omega, fun c W4 hc0 hc1 hs4 => ?_⟩
  obtain ⟨g, eg, hg⟩ : ∃ g : Nat, (if (lo : Int) - (a : Int) < 1 then (lo : Int) - (a : Int) else 1) = (g : Int) ∧ g ≤ 1 := by
    split
    · exact ⟨0, by omega, by decide⟩
    · exact ⟨1, rfl, Nat.le_refl _⟩
  have eg2 : g = if a < lo then 1 else 0 := by split at eg <;> split <;> omega
  have hrep : repS (mkS [c]) (g : Int) = mkS (if a < lo then [c] else []) := by
    rw [rep_mkS, tl_mkS, eg2]
    split <;> rfl
  have hgl : (if a < lo then [c] else []).length = g := by rw [eg2]; split <;> rfl
  have e1 : cutS (mkS t) (some ((a : Int) + 1)) none = mkS (t.drop (a + 1)) := by
    have := cut_a (mkS t) (a + 1)
    rw [show ((a + 1 : Nat) : Int) = (a : Int) + 1 by omega, tl_mkS] at this
    exact this
  have fin : -(2 ^ 63) ≤ (g : Int) ∧ (g : Int) < 2 ^ 63 ∧ (mkS [c]).length * (g : Int).toNat ≤ sizeLine ∧ (mkS (t.take a)).length + (repS (mkS [c]) (g : Int)).length ≤ sizeLine ∧ (mkS t).length ≤ sizeLine ∧ (mkS (t.take a) ++ repS (mkS [c]) (g : Int)).length + (cutS (mkS t) (some ((a : Int) + 1)) none).length ≤ sizeLine ∧ Q (.str (mkS (t.take a) ++ repS (mkS [c]) (g : Int) ++ cutS (mkS t) (some ((a : Int) + 1)) none)) W4 := by
    rw [hrep, e1, app_mkS, app_mkS]
    refine ⟨by omega, by omega, sz _ (by rw [len_mkS, Int.toNat_natCast]; simp; omega), sz _ ?_, hz, sz _ ?_, ?_⟩
    · rw [len_mkS, len_mkS, hgl, List.length_take]; omega
    · rw [len_mkS, len_mkS, List.length_append, hgl, List.length_take, List.length_drop]; omega
    · refine h _ _ ?_ ?_ (hs4.mono (by omega))
      · rw [List.length_append, List.length_append, hgl, List.length_take, List.length_drop, eg2]
        split <;> omega
      · intro d hd
        rcases List.mem_append.mp hd with hd | hd
        · rcases List.mem_append.mp hd with hd | hd
          · exact htp d (List.mem_of_mem_take hd)
          · split at hd
            · rw [List.mem_singleton.mp hd]; exact ⟨hc0, hc1⟩
            · cases hd
        · exact htp d (List.mem_of_mem_drop hd)
  rw [← eg] at fin
  exact fin
end K07

namespace K07
open PySem PySem.Spec L2 G TL C
theorem so_leaf : Str.ofString "leaf" = mkS [108, 101, 97, 102] := by decide +kernel
theorem so_inner : Str.ofString "inner" = mkS [105, 110, 110, 101, 114] := by decide +kernel
theorem so_L : Str.ofString "L" = mkS [76] := by decide +kernel
theorem so_I : Str.ofString "I" = mkS [73] := by decide +kernel
theorem mk_len (l : List Nat) : ((mkS l).length : Int) = (l.length : Int) := by rw [len_mkS]
theorem noOwn2 {ρ : G.Env} {i j : Nat} (h : ∀ ds, ρ[i]? ≠ some (some (.ol ds))) (h2 : ∀ ds, ρ[j]? ≠ some (some (.ol ds))) : noOwn ρ [i, j] := fun k hk ds => by
  simp only [List.mem_cons, List.not_mem_nil, or_false] at hk
  rcases hk with rfl | rfl
  · exact h ds
  · exact h2 ds
theorem ent_len {e : List Nat × List Nat} (h1 : e.1.length ≤ 300) (h2 : e.2.length ≤ 300) : (entL e).length ≤ 606 := by
  unfold entL
  simp only [List.length_append, digs_len]; omega
theorem mark_len {m : List Nat} (h1 : m.length ≤ 300) : (markL m).length ≤ 303 := by
  unfold markL
  simp only [List.length_append, digs_len]; omega
theorem rd_node_text : Rd n_node_text 1 sp_node_text d_node_text := by
  rintro ds W Q Qx _ ⟨nd, rfl, hok, h⟩
  show d_node_text _ [some (.sh (nodeD nd)), none, none, none, none, none, none] W
  unfold d_node_text
  rw [so_leaf, so_L, so_I, so_nil]
  cases nd with
  | leaf es =>
    obtain ⟨hel, hes⟩ := hok
    refine ⟨_, rfl, dEq_str ?_⟩
    refine ite_d (fun _ => ?_) (fun h => absurd rfl h)
    refine dLc_map2 es (fun e => .str (mkS e.1)) (fun e => .str (mkS e.2)) (fun e => .str (mkS (entL e))) ?_ (sz _ (by omega)) (fun P hP => ⟨_, rfl, hP⟩) (fun e he P hP => ?_) ?_
    · exact noOwn2 (by simp) (by simp)
    · obtain ⟨h1, h2, _, _⟩ := hes e he
      have z1 : (mkS e.1).length ≤ sizeLine := sz _ (by rw [len_mkS]; omega)
      have z2 : (mkS e.2).length ≤ sizeLine := sz _ (by rw [len_mkS]; omega)
      refine ⟨z1, rfl, e.1.length, 3, rfl, by decide, by decide, by omega, z2, rfl, e.2.length, 3, rfl, by decide, by decide, by omega, ?_⟩
      refine ⟨sz _ (by rw [len_mkS, len_mkS, digs_len, digs_len]; omega), ?_⟩
      rw [app_mkS]
      refine ⟨sz _ (by rw [len_mkS, len_mkS, List.length_append, digs_len, digs_len]; omega), ?_⟩
      rw [app_mkS]
      refine ⟨sz _ (by rw [len_mkS, len_mkS, List.length_append, List.length_append, digs_len, digs_len]; omega), ?_⟩
      rw [app_mkS]
      exact hP
    · refine ⟨⟨_, rfl⟩, ?_⟩
      have e : es.map (fun e => D.str (mkS (entL e))) = (es.map entL).map fun x => .str (mkS x) := by rw [List.map_map]; rfl
      have hB : ∀ y ∈ es.map entL, y.length ≤ 606 := fun y hy => by
        rw [List.mem_map] at hy
        obtain ⟨e, he, rfl⟩ := hy
        exact ent_len (hes e he).1 (hes e he).2.1
      have hn : (es.map entL).length ≤ 6 := by rw [List.length_map]; exact hel
      rw [e]
      obtain ⟨j1, j2⟩ := join_parts hn hB (by decide)
      refine ⟨_, j1, j2, ?_⟩
      rw [join_mkS]
      have := flat_len hn hB
      refine ⟨sz _ (by rw [len_mkS, len_mkS, List.length_singleton]; omega), ?_⟩
      rw [app_mkS]
      exact h
  | inner ms ks =>
    obtain ⟨hmk, hk9, hks, hms⟩ := hok
    refine ⟨_, rfl, dEq_str ?_⟩
    refine ite_d (fun h => by rw [mkS_inj] at h; cases h) (fun _ => ?_)
    refine ⟨⟨_, rfl⟩, ?_⟩
    refine dLc_mapF ks (fun k => .int (k : Int)) (fun k => .str (mkS (digs 4 k))) ?_ (sz _ (by omega)) (fun P hP => ⟨_, rfl, hP⟩) (fun k hk P hP => ?_) ?_
    · exact noOwn1 (by simp)
    · exact ⟨rfl, k, 4, rfl, by decide, by decide, hks k hk, hP⟩
    have e : ks.map (fun k => D.str (mkS (digs 4 k))) = (ks.map (digs 4)).map fun x => .str (mkS x) := by rw [List.map_map]; rfl
    have hB : ∀ y ∈ ks.map (digs 4), y.length ≤ 4 := fun y hy => by
      rw [List.mem_map] at hy
      obtain ⟨k, _, rfl⟩ := hy
      rw [digs_len]; decide
    have hn : (ks.map (digs 4)).length ≤ 9 := by rw [List.length_map]; exact hk9
    rw [e]
    obtain ⟨j1, j2⟩ := join_parts hn hB (by decide)
    refine ⟨_, j1, j2, ?_⟩
    rw [join_mkS]
    have hf := flat_len hn hB
    have hlog : ks.length.log2 < 1920 := Nat.lt_of_lt_of_le (log2_small (k := 4) (by omega) (by decide)) (by decide)
    refine ⟨_, rfl, ?_, ?_⟩
    · rw [List.length_map]; simpa using hlog
    rw [List.length_map, str_small (by omega : ks.length < 10)]
    refine ⟨sz _ (by rw [len_mkS, len_mkS, List.length_singleton, digs_len]; omega), ?_⟩
    rw [app_mkS]
    refine ⟨sz _ (by rw [len_mkS, len_mkS, List.length_append, List.length_singleton, digs_len]; omega), ⟨_, rfl⟩, ?_⟩
    rw [app_mkS]
    refine dLc_mapF ms (fun m => .str (mkS m)) (fun m => .str (mkS (markL m))) ?_ (sz _ (by omega)) (fun P hP => ⟨_, rfl, hP⟩) (fun m hm P hP => ?_) ?_
    · exact noOwn1 (by simp)
    · have h1 := (hms m hm).1
      refine ⟨sz _ (by rw [len_mkS]; omega), rfl, m.length, 3, rfl, by decide, by decide, by omega, ?_⟩
      refine ⟨sz _ (by rw [len_mkS, len_mkS, digs_len]; omega), ?_⟩
      rw [app_mkS]
      exact hP
    have e : ms.map (fun m => D.str (mkS (markL m))) = (ms.map markL).map fun x => .str (mkS x) := by rw [List.map_map]; rfl
    have hB : ∀ y ∈ ms.map markL, y.length ≤ 303 := fun y hy => by
      rw [List.mem_map] at hy
      obtain ⟨m, hm, rfl⟩ := hy
      exact mark_len (hms m hm).1
    have hn2 : (ms.map markL).length ≤ 9 := by rw [List.length_map]; omega
    rw [e]
    obtain ⟨j1, j2⟩ := join_parts hn2 hB (by decide)
    refine ⟨_, j1, j2, ?_⟩
    rw [join_mkS]
    have hf2 := flat_len hn2 hB
    refine ⟨sz _ (by rw [len_mkS, len_mkS, List.length_append, List.length_append, List.length_singleton, digs_len]; omega), ?_⟩
    rw [app_mkS]
    exact h
end K07

namespace K07
open PySem PySem.Spec L2 G TL C
theorem text_cases (l : List Nat) (a : Nat) (k : Int) : (0 ≤ k ∧ a + k.toNat ≤ l.length ∧ textIn l a k = .str (mkS ((l.drop a).take k.toNat))) ∨ ((k < 0 ∨ l.length < a + k.toNat) ∧ textIn l a k = .non) := by
  unfold textIn
  by_cases h : 0 ≤ k ∧ (a : Int) + k ≤ l.length
  · rw [if_pos h]; exact .inl ⟨h.1, by omega, rfl⟩
  · rw [if_neg h]; exact .inr ⟨by omega, rfl⟩
theorem cut_len' {l : List Nat} {a k : Nat} (h : a + k ≤ l.length) : ((l.drop a).take k).length = k := by
  rw [List.length_take, List.length_drop]; omega
theorem rd_leaf_told : Rd n_leaf_told 1 sp_leaf_told d_leaf_told := by
  rintro ds W Q Qx _ ⟨l, rfl, hl, h⟩
  show d_leaf_told _ [some (.sh (.str (mkS l))), none, none, none, none] W
  unfold d_leaf_told
  have hz : (mkS l).length ≤ sizeLine := sz _ (by rw [len_mkS]; omega)
  have hl' : (mkS l).length ≤ 100000 := hl
  refine ⟨sz 0 (by decide), sz 2 (by decide), rfl, ?_⟩
  refine dWhile_of (fun m ρ W' => W' = W ∧ ∃ (acc : List (List Nat × List Nat)) (a : Nat) (x3 x4 : Option Sl), ρ = [some (.sh (.str (mkS l))), some (.sh (.tup (acc.map entD))), some (.sh (.int a)), x3, x4] ∧ leafO l = (leafT l m a).map (acc ++ ·) ∧ l.length + 2 ≤ a + m ∧ a ≤ l.length + 1 ∧ acc.length ≤ a)
    (l.length + 1) ⟨rfl, [], 1, none, none, rfl, ?_, by omega, by omega, by simp⟩ ?_
  · show leafT l (l.length + 1) 1 = _
    cases leafT l (l.length + 1) 1 <;> rfl
  rintro m ρ W' ⟨rfl, acc, a, x3, x4, rfl, ho, hm, ha, hacc⟩
  refine ⟨hz, ?_⟩
  refine ite_d (fun hlt => ?_) (fun hlt => ?_)
  · rw [mk_len] at hlt
    obtain ⟨f, rfl⟩ : ∃ f, m = f + 1 := ⟨m - 1, by omega⟩
    have step : leafT l (f + 1) a = if numIn l a 3 < 0 ∨ numIn l (a + 3) 3 < 0 ∨ l.length < a + 6 + (numIn l a 3).toNat + (numIn l (a + 3) 3).toNat then none
      else (leafT l f (a + 6 + (numIn l a 3).toNat + (numIn l (a + 3) 3).toNat)).map fun es => ((l.drop (a + 6)).take (numIn l a 3).toNat, (l.drop (a + 6 + (numIn l a 3).toNat)).take (numIn l (a + 3) 3).toNat) :: es := by
      rw [leafT, if_neg (by omega)]
    have non : (numIn l a 3 < 0 ∨ numIn l (a + 3) 3 < 0 ∨ l.length < a + 6 + (numIn l a 3).toNat + (numIn l (a + 3) 3).toNat) → Q .non W' := fun c => by
      have : leafD l = .non := by
        unfold leafD
        rw [ho, step, if_pos c]; rfl
      rw [this] at h; exact h
    refine ⟨rfl, mkS l, a, 3, rfl, hl', by decide, by decide, by omega, rfl, l, a + 6, numIn l a 3, rfl, hl, ?_⟩
    rcases text_cases l (a + 6) (numIn l a 3) with ⟨k0, k1, e⟩ | ⟨k0, e⟩
    · rw [e]
      have zk : (mkS ((l.drop (a + 6)).take (numIn l a 3).toNat)).length ≤ sizeLine := sz _ (by rw [len_mkS, cut_len' k1]; omega)
      have ek : ((a : Int) + 6 + ((mkS ((l.drop (a + 6)).take (numIn l a 3).toNat)).length : Int)) = ((a + 6 + (numIn l a 3).toNat : Nat) : Int) := by rw [len_mkS, cut_len' k1]; omega
      refine ⟨zk, rfl, mkS l, a + 3, 3, rfl, hl', by decide, by decide, by omega, rfl, l, a + 6 + (numIn l a 3).toNat, numIn l (a + 3) 3, by rw [← ek]; rfl, hl, ?_⟩
      rcases text_cases l (a + 6 + (numIn l a 3).toNat) (numIn l (a + 3) 3) with ⟨v0, v1, e2⟩ | ⟨v0, e2⟩
      · rw [e2]
        have zv : (mkS ((l.drop (a + 6 + (numIn l a 3).toNat)).take (numIn l (a + 3) 3).toNat)).length ≤ sizeLine := sz _ (by rw [len_mkS, cut_len' v1]; omega)
        have ev : ((a : Int) + (6 + ((mkS ((l.drop (a + 6)).take (numIn l a 3).toNat)).length : Int) + ((mkS ((l.drop (a + 6 + (numIn l a 3).toNat)).take (numIn l (a + 3) 3).toNat)).length : Int))) = ((a + 6 + (numIn l a 3).toNat + (numIn l (a + 3) 3).toNat : Nat) : Int) := by
          rw [len_mkS, len_mkS, cut_len' k1, cut_len' v1]; omega
        refine ⟨sz 2 (by decide), sz 1 (by decide), ?_, ?_⟩
        · rw [List.length_map]; exact sz _ (by show acc.length + 1 ≤ _; omega)
        refine ⟨zk, zv, f, Nat.lt_succ_self f, rfl, acc ++ [((l.drop (a + 6)).take (numIn l a 3).toNat, (l.drop (a + 6 + (numIn l a 3).toNat)).take (numIn l (a + 3) 3).toNat)], a + 6 + (numIn l a 3).toNat + (numIn l (a + 3) 3).toNat, some (.sh (.str (mkS ((l.drop (a + 6)).take (numIn l a 3).toNat)))), some (.sh (.str (mkS ((l.drop (a + 6 + (numIn l a 3).toNat)).take (numIn l (a + 3) 3).toNat)))), ?_, ?_, by omega, by omega, ?_⟩
        · rw [← ev, List.map_append]; rfl
        · rw [ho, step, if_neg (by omega)]
          cases leafT l f (a + 6 + (numIn l a 3).toNat + (numIn l (a + 3) 3).toNat) with
          | none => rfl
          | some es => simp
        · rw [List.length_append, List.length_singleton]; omega
      · rw [e2]
        exact non (by omega)
    · rw [e]
      exact non (by omega)
  · rw [mk_len] at hlt
    obtain ⟨f, rfl⟩ : ∃ f, m = f + 1 := ⟨m - 1, by omega⟩
    have : leafD l = .tup (acc.map entD) := by
      unfold leafD
      rw [ho, leafT, if_pos (by omega)]
      simp
    rw [this] at h
    exact h
theorem any_kids (l : List Nat) (m : Nat) (x : Int) (hx : x ∈ kidsT l m) (hle : ∀ y ∈ kidsT l m, x ≤ y) : (∃ k ∈ kidsT l m, k < 0) ↔ x < 0 :=
  ⟨fun ⟨k, hk, h⟩ => by have := hle k hk; omega, fun h => ⟨x, hx, h⟩⟩
theorem kids_len (l : List Nat) (m : Nat) : (kidsT l m).length = m := by unfold kidsT; rw [List.length_map, List.length_range]
theorem digsVal_lt : ∀ (l : List Nat), l.all isDig = true → NumText.digitsVal l < 10 ^ l.length := by
  intro l
  have key : ∀ (l : List Nat) (acc : Nat), l.all isDig = true → l.foldl (fun acc c => acc * 10 + (c - 48)) acc < (acc + 1) * 10 ^ l.length := by
    intro l
    induction l with
    | nil => intro acc _; simp
    | cons c r ih =>
      intro acc h
      rw [List.all_cons, Bool.and_eq_true] at h
      have hc : c ≤ 57 := by
        have := h.1
        unfold isDig at this
        rw [Bool.and_eq_true, decide_eq_true_eq, decide_eq_true_eq] at this
        exact this.2
      have := ih (acc * 10 + (c - 48)) h.2
      rw [List.foldl_cons, List.length_cons, Nat.pow_succ]
      refine Nat.lt_of_lt_of_le this ?_
      rw [Nat.mul_comm (10 ^ r.length) 10, ← Nat.mul_assoc]
      exact Nat.mul_le_mul_right _ (by omega)
  intro h
  have := key l 0 h
  simpa [NumText.digitsVal] using this
theorem numIn_lt (l : List Nat) (a k : Nat) : numIn l a k < ((10 ^ k : Nat) : Int) := by
  unfold numIn
  split
  · have : 0 < 10 ^ k := Nat.pow_pos (by decide)
    omega
  · rename_i h
    have h2 : ((l.drop a).take k).all isDig = true := by
      cases q : ((l.drop a).take k).all isDig with
      | true => rfl
      | false => exact absurd (.inr q) h
    have := digsVal_lt _ h2
    have h3 : ((l.drop a).take k).length ≤ k := by rw [List.length_take]; omega
    have h4 : 10 ^ ((l.drop a).take k).length ≤ 10 ^ k := Nat.pow_le_pow_right (by decide) h3
    omega
theorem ifmax (m : Int) : (if m > 0 then m else 0) = ((m.toNat : Nat) : Int) := by split <;> omega
theorem rd_inner_told : Rd n_inner_told 1 sp_inner_told d_inner_told := by
  rintro ds W Q Qx _ ⟨l, rfl, hl, h⟩
  show d_inner_told _ [some (.sh (.str (mkS l))), none, none, none, none, none, none] W
  unfold d_inner_told
  have hz : (mkS l).length ≤ sizeLine := sz _ (by rw [len_mkS]; omega)
  have hl' : (mkS l).length ≤ 100000 := hl
  refine ⟨rfl, mkS l, 1, 1, rfl, hl', by decide, by decide, by decide, ?_⟩
  obtain ⟨many, hmany⟩ : ∃ many, numIn l 1 1 = many := ⟨_, rfl⟩
  have hm10 : many < 10 := by rw [← hmany]; exact numIn_lt l 1 1
  have hm1 : -1 ≤ many := by rw [← hmany]; exact numIn_range l 1 1
  rw [show numIn (tl (mkS l)) 1 1 = many from hmany]
  refine dLc_map (rng 0 many.toNat) (fun d => match d with | .v (.int i) => .int (numIn l (2 + 4 * i.toNat) 4) | d => d) ?_ ?_ (fun P hP => ?_) (fun d hd P hP => ?_) ?_
  · exact noOwn1 (by simp)
  · rw [rng_len]; exact sz _ (by omega)
  · refine ⟨?_, ?_, ?_⟩
    · show -(2 ^ 62) ≤ (if many > 0 then many else 0)
      rw [ifmax]; omega
    · show (if many > 0 then many else 0) < 2 ^ 62
      rw [ifmax]; omega
    · show P (rng 0 (if many > 0 then many else 0).toNat) _ _
      rw [ifmax, Int.toNat_natCast]; exact hP
  · unfold rng at hd
    rw [List.mem_map] at hd
    obtain ⟨i, hi, rfl⟩ := hd
    rw [List.mem_range] at hi
    refine ⟨mulX_of 3 5 (by decide) (by omega) (by decide) (by decide) (by decide), rfl, mkS l, 2 + 4 * i, 4, ?_, hl', by decide, by decide, by omega, ?_⟩
    · show [_, D.int (2 + 4 * (0 + (i : Int))), _] = _
      rw [show (2 + 4 * (0 + (i : Int))) = ((2 + 4 * i : Nat) : Int) by omega]; rfl
    · have e : (0 + (i : Int)).toNat = i := by omega
      have hP' : P (.int (numIn l (2 + 4 * (0 + (i : Int)).toNat) 4)) _ W := hP
      rw [e] at hP'
      exact hP'
  have ekid : (rng 0 many.toNat).map (fun d => match d with | .v (.int i) => .int (numIn l (2 + 4 * i.toNat) 4) | d => d) = (kidsT l many.toNat).map D.int := by
    unfold rng kidsT
    rw [List.map_map, List.map_map]
    refine List.map_congr_left fun i _ => ?_
    show D.int (numIn l (2 + 4 * (0 + (i : Int)).toNat) 4) = D.int (numIn l (2 + 4 * i) 4)
    rw [show (0 + (i : Int)).toNat = i by omega]
  rw [ekid]
  refine ⟨sz 0 (by decide), mulX_of 3 5 (by decide) (by omega) (by decide) (by decide) (by decide), ?_⟩
  have non : innerT l = none → Q .non W := fun c => by
    have : innerD l = .non := by unfold innerD; rw [c]
    rw [this] at h; exact h
  refine ite_d (fun h1 => ?_) (fun h1 => ?_)
  · refine non ?_
    unfold innerT
    rw [if_pos (.inl (by rw [hmany]; exact h1))]
  have hm1' : 1 ≤ many.toNat := by omega
  refine ⟨kidsT l many.toNat, intsOf_map _, by rw [kids_len]; omega, fun x hx hle => ?_⟩
  refine ite_d (fun h2 => ?_) (fun h2 => ?_)
  · refine non ?_
    unfold innerT
    rw [if_pos (.inr (by rw [hmany]; exact (any_kids l _ x hx hle).mpr h2))]
  have hin : innerT l = match marksT l (many.toNat - 1) (2 + 4 * many.toNat) with
    | none => none
    | some p => if p.2 = l.length then some (p.1, kidsT l many.toNat) else none := by
    unfold innerT
    rw [hmany]
    exact if_neg (by
      rintro (q | q)
      · omega
      · exact h2 ((any_kids l _ x hx hle).mp q))
  have e4 : ((2 : Int) + 4 * many) = ((2 + 4 * many.toNat : Nat) : Int) := by omega
  refine dFor_of (rng 0 (many.toNat - 1)) (fun i ρ W' => W' = W ∧ ∃ (acc : List (List Nat)) (a : Nat) (x5 x6 : Option Sl), ρ = [some (.sh (.str (mkS l))), some (.sh (.int many)), some (.sh (.tup ((kidsT l many.toNat).map D.int))), some (.sh (marksD acc)), some (.sh (.int a)), x5, x6] ∧
      marksT l (many.toNat - 1) (2 + 4 * many.toNat) = (marksT l (many.toNat - 1 - i) a).map (fun p => (acc ++ p.1, p.2)) ∧ a ≤ 100 + l.length ∧ acc.length = i)
    (fun P hP => ⟨by omega, by omega, ?_⟩) ⟨rfl, [], 2 + 4 * many.toNat, none, none, by rw [← e4]; rfl, ?_, by omega, rfl⟩ (fun i d ρ W' hd hI => ?_) (fun ρ W' hI => ?_)
  · rw [show (many - 1).toNat = many.toNat - 1 by omega]; exact hP
  · show marksT l (many.toNat - 1) (2 + 4 * many.toNat) = _
    cases marksT l (many.toNat - 1) (2 + 4 * many.toNat) <;> rfl
  · obtain ⟨rfl, acc, a, x5, x6, rfl, hmk, ha, hacc⟩ := hI
    have hi : i < many.toNat - 1 := by have := (List.getElem?_eq_some_iff.mp hd).1; rwa [rng_len] at this
    obtain ⟨f, hf⟩ : ∃ f, many.toNat - 1 - i = f + 1 := ⟨many.toNat - 1 - i - 1, by omega⟩
    have hf2 : many.toNat - 1 - (i + 1) = f := by omega
    rw [hf] at hmk
    have step : marksT l (f + 1) a = if numIn l a 3 < 0 ∨ l.length < a + 3 + (numIn l a 3).toNat then none
      else (marksT l f (a + 3 + (numIn l a 3).toNat)).map fun p => ((l.drop (a + 3)).take (numIn l a 3).toNat :: p.1, p.2) := rfl
    refine ⟨rfl, mkS l, a, 3, rfl, hl', by decide, by decide, by omega, rfl, l, a + 3, numIn l a 3, rfl, hl, ?_⟩
    rcases text_cases l (a + 3) (numIn l a 3) with ⟨k0, k1, e⟩ | ⟨k0, e⟩
    · rw [e]
      have zk : (mkS ((l.drop (a + 3)).take (numIn l a 3).toNat)).length ≤ sizeLine := sz _ (by rw [len_mkS, cut_len' k1]; omega)
      have ek : ((a : Int) + (3 + ((mkS ((l.drop (a + 3)).take (numIn l a 3).toNat)).length : Int))) = ((a + 3 + (numIn l a 3).toNat : Nat) : Int) := by rw [len_mkS, cut_len' k1]; omega
      refine ⟨sz 1 (by decide), ?_, zk, rfl, acc ++ [(l.drop (a + 3)).take (numIn l a 3).toNat], a + 3 + (numIn l a 3).toNat, some (.sh d), some (.sh (.str (mkS ((l.drop (a + 3)).take (numIn l a 3).toNat)))), ?_, ?_, by omega, ?_⟩
      · rw [List.length_map]; exact sz _ (by show acc.length + 1 ≤ _; omega)
      · rw [← ek]
        unfold marksD
        rw [List.map_append]; rfl
      · rw [hmk, step, if_neg (by omega), hf2]
        cases marksT l f (a + 3 + (numIn l a 3).toNat) with
        | none => rfl
        | some p => simp
      · rw [List.length_append, List.length_singleton, hacc]
    · rw [e]
      refine non ?_
      rw [hin, hmk, step, if_pos (by omega)]; rfl
  · obtain ⟨rfl, acc, a, x5, x6, rfl, hmk, ha, hacc⟩ := hI
    rw [rng_len, Nat.sub_self] at hmk
    have hmk2 : marksT l (many.toNat - 1) (2 + 4 * many.toNat) = some (acc, a) := by rw [hmk]; simp [marksT]
    refine ⟨hz, dEq_int ?_⟩
    rw [mk_len]
    refine ite_d (fun h3 => ?_) (fun h3 => ?_)
    · refine ⟨sz 2 (by decide), ?_⟩
      have : innerD l = .tup [marksD acc, .tup ((kidsT l many.toNat).map D.int)] := by
        have hi : innerT l = some (acc, kidsT l many.toNat) := by
          rw [hin, hmk2]
          show (if a = l.length then _ else none) = _
          rw [if_pos (by omega)]
        unfold innerD
        rw [hi]
      rw [this] at h
      exact h
    · refine non ?_
      rw [hin, hmk2]
      show (if a = l.length then _ else none) = none
      rw [if_neg (by omega)]
theorem take1 (l : List Nat) : cutS (mkS l) none (some 1) = mkS (l.take 1) := cut_b (mkS l) 1
theorem rd_node_told : Rd n_node_told 1 sp_node_told d_node_told := by
  rintro ds W Q Qx _ ⟨l, rfl, hl, h⟩
  show d_node_told _ [some (.sh (.str (mkS l))), none, none] W
  unfold d_node_told
  rw [so_leaf, so_inner, so_L, so_I]
  have hz : (mkS l).length ≤ sizeLine := sz _ (by rw [len_mkS]; omega)
  refine ⟨hz, ?_⟩
  rw [take1]
  refine dEq_str ?_
  refine ite_d (fun h1 => ?_) (fun h1 => ?_)
  · rw [mkS_inj] at h1
    refine ⟨rfl, l, rfl, hl, ?_⟩
    unfold leafD
    unfold toldD at h
    rw [if_pos h1] at h
    cases q : leafO l with
    | none => rw [q] at h; exact h
    | some es =>
      rw [q] at h
      exact ⟨sz 2 (by decide), h⟩
  · rw [mkS_inj] at h1
    unfold toldD at h
    rw [if_neg h1] at h
    refine ⟨hz, ?_⟩
    rw [take1]
    refine dEq_str ?_
    refine ite_d (fun h2 => ?_) (fun h2 => ?_)
    · rw [mkS_inj] at h2
      rw [if_pos h2] at h
      refine ⟨rfl, l, rfl, hl, ?_⟩
      unfold innerD
      cases q : innerT l with
      | none => rw [q] at h; exact h
      | some p =>
        rw [q] at h
        exact ⟨_, rfl, _, rfl, sz 3 (by decide), h⟩
    · rw [mkS_inj] at h2
      rw [if_neg h2] at h
      exact h
end K07

namespace K07
open PySem PySem.Spec L2 G TL C
theorem pr_sub {l : List Nat} (h : Pr l) (a k : Nat) : Pr ((l.drop a).take k) := fun c hc => h c (List.mem_of_mem_drop (List.mem_of_mem_take hc))
theorem isDig_mem (c : Nat) : c ∈ tl (mkS [48, 49, 50, 51, 52, 53, 54, 55, 56, 57]) ↔ isDig c = true := by
  rw [tl_mkS]
  unfold isDig
  rw [Bool.and_eq_true, decide_eq_true_eq, decide_eq_true_eq]
  simp only [List.mem_cons, List.not_mem_nil, or_false]
  omega
theorem filter_dig (l : List Nat) : (l.filter fun c => !isDig c).isEmpty = l.all isDig := by
  induction l with
  | nil => rfl
  | cons a r ih =>
    rw [List.all_cons, ← ih]
    cases h : isDig a <;> simp [List.filter_cons, h]
theorem rd_law_part : Rd n_law_part 3 sp_law_part d_law_part := by
  rintro ds W Q Qx _ ⟨l, a, k, rfl, hl, hp, hk0, hk, ha, h⟩
  show d_law_part _ [some (.sh (.str (mkS l))), some (.sh (.int a)), some (.sh (.int k)), none, none] W
  unfold d_law_part
  rw [so_dg]
  refine ⟨sz _ (by rw [len_mkS]; omega), ?_⟩
  rw [cut_tt]
  have hll : ((l.drop a).take k).length ≤ 100 := by rw [List.length_take]; omega
  have hpp := pr_sub hp a k
  obtain ⟨t, ht⟩ : ∃ t, (l.drop a).take k = t := ⟨_, rfl⟩
  have goal : numIn l a k = if t.length < k ∨ t.all isDig = false then -1 else ((NumText.digitsVal t : Nat) : Int) := by rw [← ht]; rfl
  rw [ht] at hll hpp ⊢
  refine ⟨sz _ (by rw [len_mkS]; omega), ?_⟩
  rw [mk_len]
  refine ite_d (fun h1 => ?_) (fun h1 => ?_)
  · rw [goal, if_pos (.inl (by omega))] at h
    exact h
  refine dLc_filtF t (fun c => .str (mkS [c])) (fun c => .str (mkS [c])) (fun c => !isDig c) ?_ (sz _ (by omega)) (fun P hP => hP) (fun c hc P hP => ?_) (fun c hc _ P hP => hP) ?_
  · exact noOwn1 (by simp)
  · show P (!inS (mkS [c]) (mkS [48, 49, 50, 51, 52, 53, 54, 55, 56, 57])) _ _
    rw [inS_one]
    have : decide (c ∈ tl (mkS [48, 49, 50, 51, 52, 53, 54, 55, 56, 57])) = isDig c := by
      rw [Bool.eq_iff_iff, decide_eq_true_eq]; exact isDig_mem c
    rw [this]
    exact hP
  refine ⟨sz 0 (by decide), dNe_nil (goods_strs fun c hc => hpp c (List.mem_filter.mp hc).1) ?_⟩
  rw [List.isEmpty_map, filter_dig]
  cases hd : t.all isDig with
  | false =>
    rw [goal, if_pos (.inr hd)] at h
    exact h
  | true =>
    refine ⟨by rw [len_mkS]; omega, _, PySem.intText_digits (x := mkS t) (isDig_all hd) ?_ (by rw [len_mkS]; omega), ?_⟩
    · intro q
      rw [show (mkS t).cps.toList = t from rfl] at q
      rw [q] at h1
      exact h1 (by simpa using hk0)
    · rw [goal, if_neg (by rw [hd]; intro q; rcases q with q | q; omega; cases q)] at h
      exact h
theorem rd_law_node_text : Rd n_law_node_text 1 sp_law_node_text d_law_node_text := by
  rintro ds W Q Qx _ ⟨nd, rfl, hok, h⟩
  show d_law_node_text _ [some (.sh (nodeD nd)), none, none, none, none, none, none] W
  unfold d_law_node_text
  rw [so_leaf, so_L, so_I, so_nil]
  have p3 : PySem.PadOk 3 = true := pad_ok ⟨3, by decide⟩
  have p4 : PySem.PadOk 4 = true := pad_ok ⟨4, by decide⟩
  have lg : ∀ n : Nat, n < 10000 → ((n : Nat) : Int).natAbs.log2 < 1920 := fun n hn => by
    rw [Int.natAbs_natCast]
    exact Nat.lt_of_lt_of_le (log2_small (k := 14) (by omega) (by decide)) (by decide)
  have z3 : ∀ n : Nat, n < 1000 → Txt.zfill (toString ((n : Nat) : Int) : String) 3 = mkS (digs 3 n) := fun n hn => zfill_tl n 3 (by decide) (by omega)
  have z4 : ∀ n : Nat, n < 10000 → Txt.zfill (toString ((n : Nat) : Int) : String) 4 = mkS (digs 4 n) := fun n hn => zfill_tl n 4 (by decide) (by omega)
  cases nd with
  | leaf es =>
    obtain ⟨hel, hes⟩ := hok
    refine ⟨_, rfl, dEq_str ?_⟩
    refine ite_d (fun _ => ?_) (fun h => absurd rfl h)
    refine dLc_map2 es (fun e => .str (mkS e.1)) (fun e => .str (mkS e.2)) (fun e => .str (mkS (entL e))) ?_ (sz _ (by omega)) (fun P hP => ⟨_, rfl, hP⟩) (fun e he P hP => ?_) ?_
    · exact noOwn2 (by simp) (by simp)
    · obtain ⟨h1, h2, _, _⟩ := hes e he
      have z1 : (mkS e.1).length ≤ sizeLine := sz _ (by rw [len_mkS]; omega)
      have z2 : (mkS e.2).length ≤ sizeLine := sz _ (by rw [len_mkS]; omega)
      refine ⟨z1, lg e.1.length (by omega), ⟨_, rfl⟩, p3, z2, lg e.2.length (by omega), ⟨_, rfl⟩, p3, ?_⟩
      simp only [len_mkS, z3 e.1.length (by omega), z3 e.2.length (by omega)]
      refine ⟨sz _ (by rw [len_mkS, len_mkS, digs_len, digs_len]; omega), ?_⟩
      rw [app_mkS]
      refine ⟨sz _ (by rw [len_mkS, len_mkS, List.length_append, digs_len, digs_len]; omega), ?_⟩
      rw [app_mkS]
      refine ⟨sz _ (by rw [len_mkS, len_mkS, List.length_append, List.length_append, digs_len, digs_len]; omega), ?_⟩
      rw [app_mkS]
      exact hP
    · refine ⟨⟨_, rfl⟩, ?_⟩
      have e : es.map (fun e => D.str (mkS (entL e))) = (es.map entL).map fun x => .str (mkS x) := by rw [List.map_map]; rfl
      have hB : ∀ y ∈ es.map entL, y.length ≤ 606 := fun y hy => by
        rw [List.mem_map] at hy
        obtain ⟨e, he, rfl⟩ := hy
        exact ent_len (hes e he).1 (hes e he).2.1
      have hn : (es.map entL).length ≤ 6 := by rw [List.length_map]; exact hel
      rw [e]
      obtain ⟨j1, j2⟩ := join_parts hn hB (by decide)
      refine ⟨_, j1, j2, ?_⟩
      rw [join_mkS]
      have := flat_len hn hB
      refine ⟨sz _ (by rw [len_mkS, len_mkS, List.length_singleton]; omega), ?_⟩
      rw [app_mkS]
      exact h
  | inner ms ks =>
    obtain ⟨hmk, hk9, hks, hms⟩ := hok
    refine ⟨_, rfl, dEq_str ?_⟩
    refine ite_d (fun h => by rw [mkS_inj] at h; cases h) (fun _ => ?_)
    refine ⟨⟨_, rfl⟩, ?_⟩
    refine dLc_mapF ks (fun k => .int (k : Int)) (fun k => .str (mkS (digs 4 k))) ?_ (sz _ (by omega)) (fun P hP => ⟨_, rfl, hP⟩) (fun k hk P hP => ?_) ?_
    · exact noOwn1 (by simp)
    · refine ⟨lg k (hks k hk), ⟨_, rfl⟩, p4, ?_⟩
      simp only [z4 k (hks k hk)]
      exact hP
    have e : ks.map (fun k => D.str (mkS (digs 4 k))) = (ks.map (digs 4)).map fun x => .str (mkS x) := by rw [List.map_map]; rfl
    have hB : ∀ y ∈ ks.map (digs 4), y.length ≤ 4 := fun y hy => by
      rw [List.mem_map] at hy
      obtain ⟨k, _, rfl⟩ := hy
      rw [digs_len]; decide
    have hn : (ks.map (digs 4)).length ≤ 9 := by rw [List.length_map]; exact hk9
    rw [e]
    obtain ⟨j1, j2⟩ := join_parts hn hB (by decide)
    refine ⟨_, j1, j2, ?_⟩
    rw [join_mkS]
    have hf := flat_len hn hB
    have hlog : ks.length.log2 < 1920 := Nat.lt_of_lt_of_le (log2_small (k := 4) (by omega) (by decide)) (by decide)
    refine ⟨_, rfl, ?_, ?_⟩
    · rw [List.length_map]; simpa using hlog
    rw [List.length_map, str_small (by omega : ks.length < 10)]
    refine ⟨sz _ (by rw [len_mkS, len_mkS, List.length_singleton, digs_len]; omega), ?_⟩
    rw [app_mkS]
    refine ⟨sz _ (by rw [len_mkS, len_mkS, List.length_append, List.length_singleton, digs_len]; omega), ⟨_, rfl⟩, ?_⟩
    rw [app_mkS]
    refine dLc_mapF ms (fun m => .str (mkS m)) (fun m => .str (mkS (markL m))) ?_ (sz _ (by omega)) (fun P hP => ⟨_, rfl, hP⟩) (fun m hm P hP => ?_) ?_
    · exact noOwn1 (by simp)
    · have h1 := (hms m hm).1
      refine ⟨sz _ (by rw [len_mkS]; omega), lg m.length (by omega), ⟨_, rfl⟩, p3, ?_⟩
      simp only [len_mkS, z3 m.length (by omega)]
      refine ⟨sz _ (by rw [len_mkS, len_mkS, digs_len]; omega), ?_⟩
      rw [app_mkS]
      exact hP
    have e : ms.map (fun m => D.str (mkS (markL m))) = (ms.map markL).map fun x => .str (mkS x) := by rw [List.map_map]; rfl
    have hB : ∀ y ∈ ms.map markL, y.length ≤ 303 := fun y hy => by
      rw [List.mem_map] at hy
      obtain ⟨m, hm, rfl⟩ := hy
      exact mark_len (hms m hm).1
    have hn2 : (ms.map markL).length ≤ 9 := by rw [List.length_map]; omega
    rw [e]
    obtain ⟨j1, j2⟩ := join_parts hn2 hB (by decide)
    refine ⟨_, j1, j2, ?_⟩
    rw [join_mkS]
    have hf2 := flat_len hn2 hB
    refine ⟨sz _ (by rw [len_mkS, len_mkS, List.length_append, List.length_append, List.length_singleton, digs_len]; omega), ?_⟩
    rw [app_mkS]
    exact h
end K07

namespace K07
open PySem PySem.Spec L2 G TL C
theorem cut_ii (l : List Nat) (a b : Nat) (x y : Int) (hx : x = (a : Int)) (hy : y = ((a + b : Nat) : Int)) : cutS (mkS l) (some x) (some y) = mkS ((l.drop a).take b) := by
  subst hx hy
  have := cut_ab (mkS l) a (a + b)
  rw [Nat.add_sub_cancel_left] at this
  exact this
theorem rd_law_leaf_told : Rd n_law_leaf_told 1 sp_law_leaf_told d_law_leaf_told := by
  rintro ds W Q Qx _ ⟨l, rfl, hl, hp, h⟩
  show d_law_leaf_told _ [some (.sh (.str (mkS l))), none, none, none, none, none] W
  unfold d_law_leaf_told
  have hz : (mkS l).length ≤ sizeLine := sz _ (by rw [len_mkS]; omega)
  refine ⟨sz 0 (by decide), ?_⟩
  refine dWhile_of (fun m ρ W' => W' = W ∧ ∃ (acc : List (List Nat × List Nat)) (a : Nat) (x3 x4 x5 : Option Sl), ρ = [some (.sh (.str (mkS l))), some (.ol (acc.map entD)), some (.sh (.int a)), x3, x4, x5] ∧ leafO l = (leafT l m a).map (acc ++ ·) ∧ l.length + 2 ≤ a + m ∧ a ≤ l.length + 1 ∧ acc.length ≤ a)
    (l.length + 1) ⟨rfl, [], 1, none, none, none, rfl, ?_, by omega, by omega, by simp⟩ ?_
  · show leafT l (l.length + 1) 1 = _
    cases leafT l (l.length + 1) 1 <;> rfl
  rintro m ρ W' ⟨rfl, acc, a, x3, x4, x5, rfl, ho, hm, ha, hacc⟩
  refine ⟨hz, ?_⟩
  refine ite_d (fun hlt => ?_) (fun hlt => ?_)
  · rw [mk_len] at hlt
    obtain ⟨f, rfl⟩ : ∃ f, m = f + 1 := ⟨m - 1, by omega⟩
    have step : leafT l (f + 1) a = if numIn l a 3 < 0 ∨ numIn l (a + 3) 3 < 0 ∨ l.length < a + 6 + (numIn l a 3).toNat + (numIn l (a + 3) 3).toNat then none
      else (leafT l f (a + 6 + (numIn l a 3).toNat + (numIn l (a + 3) 3).toNat)).map fun es => ((l.drop (a + 6)).take (numIn l a 3).toNat, (l.drop (a + 6 + (numIn l a 3).toNat)).take (numIn l (a + 3) 3).toNat) :: es := by
      rw [leafT, if_neg (by omega)]
    have non : (numIn l a 3 < 0 ∨ numIn l (a + 3) 3 < 0 ∨ l.length < a + 6 + (numIn l a 3).toNat + (numIn l (a + 3) 3).toNat) → Q .non W' := fun c => by
      have : leafD l = .non := by
        unfold leafD
        rw [ho, step, if_pos c]; rfl
      rw [this] at h; exact h
    refine ⟨rfl, l, a, 3, rfl, hl, hp, by decide, by decide, by omega, rfl, l, a + 3, 3, rfl, hl, hp, by decide, by decide, by omega, ?_⟩
    obtain ⟨k, hk⟩ : ∃ k, numIn l a 3 = k := ⟨_, rfl⟩
    obtain ⟨v, hv⟩ : ∃ v, numIn l (a + 3) 3 = v := ⟨_, rfl⟩
    rw [hk, hv] at non step ⊢
    show (if decide ((if v < k then v else k) < 0) = true then _ else _)
    refine ite_d (fun h1 => ?_) (fun h1 => ?_)
    · refine non ?_
      split at h1 <;> omega
    have hk0 : 0 ≤ k := by split at h1 <;> omega
    have hv0 : 0 ≤ v := by split at h1 <;> omega
    refine ⟨hz, ?_⟩
    show (if decide (((mkS l).length : Int) < (a : Int) + 6 + k + v) = true then _ else _)
    rw [mk_len]
    refine ite_d (fun h2 => ?_) (fun h2 => ?_)
    · exact non (by omega)
    refine ⟨⟨_, rfl⟩, hz, hz, ?_⟩
    simp only [cut_ii l (a + 6) k.toNat ((a : Int) + 6) ((a : Int) + 6 + k) (by omega) (by omega), cut_ii l (a + 6 + k.toNat) v.toNat ((a : Int) + 6 + k) ((a : Int) + 6 + k + v) (by omega) (by omega)]
    refine ⟨sz 2 (by decide), ?_, f, Nat.lt_succ_self f, rfl, acc ++ [((l.drop (a + 6)).take k.toNat, (l.drop (a + 6 + k.toNat)).take v.toNat)], a + 6 + k.toNat + v.toNat, some (.sh (.int k)), some (.sh (.int v)), some (.sh (.int ((a : Int) + 6 + k + v))), ?_, ?_, by omega, by omega, ?_⟩
    · rw [List.length_map]; exact Nat.lt_of_lt_of_le (by omega : acc.length < 16777216) (sz _ (Nat.le_refl _))
    · have ea : ((a + 6 + k.toNat + v.toNat : Nat) : Int) = (a : Int) + 6 + k + v := by omega
      rw [List.map_append, ea]; rfl
    · rw [ho, step, if_neg (by omega)]
      cases leafT l f (a + 6 + k.toNat + v.toNat) with
      | none => rfl
      | some es => simp
    · rw [List.length_append, List.length_singleton]; omega
  · rw [mk_len] at hlt
    obtain ⟨f, rfl⟩ : ∃ f, m = f + 1 := ⟨m - 1, by omega⟩
    have : leafD l = .tup (acc.map entD) := by
      unfold leafD
      rw [ho, leafT, if_pos (by omega)]
      simp
    rw [this] at h
    exact h
theorem rd_law_node_told : Rd n_law_node_told 1 sp_law_node_told d_law_node_told := by
  rintro ds W Q Qx _ ⟨l, rfl, hl, hp, h⟩
  show d_law_node_told _ [some (.sh (.str (mkS l))), none, none, none, none, none, none, none] W
  unfold d_law_node_told
  rw [so_leaf, so_inner, so_L, so_I]
  have hz : (mkS l).length ≤ sizeLine := sz _ (by rw [len_mkS]; omega)
  refine ⟨hz, ?_⟩
  rw [take1]
  refine dEq_str ?_
  refine ite_d (fun h1 => ?_) (fun h1 => ?_)
  · rw [mkS_inj] at h1
    refine ⟨rfl, l, rfl, hl, hp, ?_⟩
    unfold leafD
    unfold toldD at h
    rw [if_pos h1] at h
    cases q : leafO l with
    | none => rw [q] at h; exact h
    | some es =>
      rw [q] at h
      exact ⟨sz 2 (by decide), h⟩
  rw [mkS_inj] at h1
  unfold toldD at h
  rw [if_neg h1] at h
  refine ⟨rfl, l, 1, 1, rfl, hl, hp, by decide, by decide, by decide, ?_⟩
  obtain ⟨many, hmany⟩ : ∃ many, numIn l 1 1 = many := ⟨_, rfl⟩
  have hm10 : many < 10 := by rw [← hmany]; exact numIn_lt l 1 1
  have hm1 : -1 ≤ many := by rw [← hmany]; exact numIn_range l 1 1
  rw [hmany]
  refine ⟨hz, ?_⟩
  rw [take1]
  refine dNe_str ?_
  refine ite_n (fun h2 => ?_) (fun h2 => ?_)
  · rw [mkS_inj] at h2
    rw [if_neg h2] at h
    exact h
  rw [mkS_inj] at h2
  rw [if_pos h2] at h
  have non : innerT l = none → Q .non W := fun c => by rw [c] at h; exact h
  refine ite_d (fun h3 => ?_) (fun h3 => ?_)
  · refine non ?_
    unfold innerT
    rw [if_pos (.inl (by rw [hmany]; exact h3))]
  have hm1' : 1 ≤ many.toNat := by omega
  refine dLc_mapF (List.range many.toNat) (fun i => .int (0 + (i : Int))) (fun i => .int (numIn l (2 + 4 * i) 4)) ?_ ?_ (fun P hP => ⟨by omega, by omega, hP⟩) (fun i hi P hP => ?_) ?_
  · exact noOwn1 (by simp)
  · rw [List.length_range]; exact sz _ (by omega)
  · rw [List.mem_range] at hi
    refine ⟨mulX_of 3 5 (by decide) (by omega) (by decide) (by decide) (by decide), rfl, l, 2 + 4 * i, 4, ?_, hl, hp, by decide, by decide, by omega, hP⟩
    show [_, D.int (2 + 4 * (0 + (i : Int))), _] = _
    rw [show (2 + 4 * (0 + (i : Int))) = ((2 + 4 * i : Nat) : Int) by omega]; rfl
  have ekid : (List.range many.toNat).map (fun i => D.int (numIn l (2 + 4 * i) 4)) = (kidsT l many.toNat).map D.int := by
    unfold kidsT
    rw [List.map_map]; rfl
  rw [ekid]
  refine ⟨sz 0 (by decide), mulX_of 3 5 (by decide) (by omega) (by decide) (by decide) (by decide), ?_⟩
  have e4 : ((2 : Int) + 4 * many) = ((2 + 4 * many.toNat : Nat) : Int) := by omega
  have hin : (¬ ∃ k ∈ kidsT l many.toNat, k < 0) → innerT l = match marksT l (many.toNat - 1) (2 + 4 * many.toNat) with
    | none => none
    | some p => if p.2 = l.length then some (p.1, kidsT l many.toNat) else none := fun hc => by
    unfold innerT
    rw [hmany]
    exact if_neg (by
      rintro (q | q)
      · omega
      · exact hc q)
  have hin2 : marksT l (many.toNat - 1) (2 + 4 * many.toNat) = none → innerT l = none := fun c => by
    by_cases hc : ∃ k ∈ kidsT l many.toNat, k < 0
    · unfold innerT
      rw [if_pos (.inr (by rw [hmany]; exact hc))]
    · rw [hin hc, c]
  refine dFor_of (rng 0 (many.toNat - 1)) (fun i ρ W' => W' = W ∧ ∃ (acc : List (List Nat)) (a : Nat) (x6 x7 : Option Sl), ρ = [some (.sh (.str (mkS l))), none, some (.sh (.int many)), some (.sh (.lst ((kidsT l many.toNat).map D.int))), some (.ol (acc.map fun m => .str (mkS m))), some (.sh (.int a)), x6, x7] ∧
      marksT l (many.toNat - 1) (2 + 4 * many.toNat) = (marksT l (many.toNat - 1 - i) a).map (fun p => (acc ++ p.1, p.2)) ∧ a ≤ 100 + l.length ∧ acc.length = i)
    (fun P hP => ⟨by omega, by omega, ?_⟩) ⟨rfl, [], 2 + 4 * many.toNat, none, none, by rw [← e4]; rfl, ?_, by omega, rfl⟩ (fun i d ρ W' hd hI => ?_) (fun ρ W' hI => ?_)
  · rw [show (many - 1).toNat = many.toNat - 1 by omega]; exact hP
  · show marksT l (many.toNat - 1) (2 + 4 * many.toNat) = _
    cases marksT l (many.toNat - 1) (2 + 4 * many.toNat) <;> rfl
  · obtain ⟨rfl, acc, a, x6, x7, rfl, hmk, ha, hacc⟩ := hI
    have hi : i < many.toNat - 1 := by have := (List.getElem?_eq_some_iff.mp hd).1; rwa [rng_len] at this
    obtain ⟨f, hf⟩ : ∃ f, many.toNat - 1 - i = f + 1 := ⟨many.toNat - 1 - i - 1, by omega⟩
    have hf2 : many.toNat - 1 - (i + 1) = f := by omega
    rw [hf] at hmk
    have step : marksT l (f + 1) a = if numIn l a 3 < 0 ∨ l.length < a + 3 + (numIn l a 3).toNat then none
      else (marksT l f (a + 3 + (numIn l a 3).toNat)).map fun p => ((l.drop (a + 3)).take (numIn l a 3).toNat :: p.1, p.2) := rfl
    refine ⟨rfl, l, a, 3, rfl, hl, hp, by decide, by decide, by omega, ?_⟩
    obtain ⟨k, hk⟩ : ∃ k, numIn l a 3 = k := ⟨_, rfl⟩
    rw [hk] at step ⊢
    refine ite_d (fun h4 => ?_) (fun h4 => ?_)
    · exact non (hin2 (by rw [hmk, step, if_pos (.inl h4)]; rfl))
    refine ⟨hz, ?_⟩
    show (if decide (((mkS l).length : Int) < (a : Int) + 3 + k) = true then _ else _)
    rw [mk_len]
    refine ite_d (fun h5 => ?_) (fun h5 => ?_)
    · exact non (hin2 (by rw [hmk, step, if_pos (.inr (by omega))]; rfl))
    refine ⟨⟨_, rfl⟩, hz, ?_⟩
    simp only [cut_ii l (a + 3) k.toNat ((a : Int) + 3) ((a : Int) + 3 + k) (by omega) (by omega)]
    refine ⟨?_, rfl, acc ++ [(l.drop (a + 3)).take k.toNat], a + 3 + k.toNat, some (.sh d), some (.sh (.int k)), ?_, ?_, by omega, ?_⟩
    · rw [List.length_map]; exact Nat.lt_of_lt_of_le (by omega : acc.length < 16777216) (sz _ (Nat.le_refl _))
    · have ea : ((a + 3 + k.toNat : Nat) : Int) = (a : Int) + 3 + k := by omega
      rw [List.map_append, ea]; rfl
    · rw [hmk, step, if_neg (by omega), hf2]
      cases marksT l f (a + 3 + k.toNat) with
      | none => rfl
      | some p => simp
    · rw [List.length_append, List.length_singleton, hacc]
  · obtain ⟨rfl, acc, a, x6, x7, rfl, hmk, ha, hacc⟩ := hI
    rw [rng_len, Nat.sub_self] at hmk
    have hmk2 : marksT l (many.toNat - 1) (2 + 4 * many.toNat) = some (acc, a) := by rw [hmk]; simp [marksT]
    refine ⟨kidsT l many.toNat, intsOf_map _, by rw [kids_len]; omega, fun x hx hle => ?_⟩
    refine ite_d (fun h6 => ?_) (fun h6 => ?_)
    · refine non ?_
      unfold innerT
      rw [if_pos (.inr (by rw [hmany]; exact (any_kids l _ x hx hle).mpr h6))]
    have hin' := hin fun q => h6 ((any_kids l _ x hx hle).mp q)
    refine ⟨hz, dNe_int ?_⟩
    rw [mk_len]
    refine ite_n (fun h7 => ?_) (fun h7 => ?_)
    · refine non ?_
      rw [hin', hmk2]
      show (if a = l.length then _ else none) = none
      rw [if_neg (by omega)]
    · have hi : innerT l = some (acc, kidsT l many.toNat) := by
        rw [hin', hmk2]
        show (if a = l.length then _ else none) = _
        rw [if_pos (by omega)]
      rw [hi] at h
      exact ⟨sz 3 (by decide), h⟩
end K07

namespace K07
open PySem PySem.Spec L2 G TL C
theorem rdn_law_same (n : Nat) (sp0 : SpD) (h0 : ∀ m, n = m + 1 → sp0 = spn_law_same m) : Rd n_law_same 2 (spn_law_same n) (d_law_same sp0) := by
  rintro ds W Q Qx _ ⟨d, rfl, hp, h⟩
  show d_law_same sp0 _ [some (.sh d), some (.sh d), none] W
  unfold d_law_same
  have deep : ∀ (ds : List D), ds.length ≤ 100000 → (∀ m, n = m + 1 → ∀ z ∈ ds, plainN m z) → n ≠ 0 → (∀ i z, atI ds i = some z → ∀ P : D → Prop, P z → dIx d (.int i) P) → (∀ P : D → Prop, P (.int ds.length) → dLen [d] P) →
      dLc (iRngD1 (dCons (dCB dLen (dCons (dVar 1) dNil)) dNil)) (gdName 2) (dNotB (dBool (dCall sp0 2 (dCons (dOp dIx (dVar 0) (dVar 2)) (dCons (dOp dIx (dVar 1) (dVar 2)) dNil))))) (dVar 2) [2] [some (.sh d), some (.sh d), none] W (fun ys _ W' => ([] : List D).length ≤ sizeLine ∧ dEq (.lst ys) (.lst []) fun z => Q z W') (fun cls x _ W' => Qx cls x W') := fun ds hl hz hn hix hlen => by
    refine dLc_filtF (List.range ds.length) (fun i => .int (0 + (i : Int))) (fun i => .int (0 + (i : Int))) (fun _ => false) ?_ ?_ (fun P hP => ?_) (fun i hi P hP => ?_) (fun i hi hf P hP => hP) ?_
    · exact noOwn1 (by simp)
    · rw [List.length_range]; exact sz _ (by omega)
    · refine hlen (fun z => match [z] with | [.v (.int j)] => -(2 ^ 62) ≤ j ∧ j < 2 ^ 62 ∧ P (rng 0 j.toNat) _ W | _ => False) ⟨by omega, by omega, ?_⟩
      rw [Int.toNat_natCast]; exact hP
    · rw [List.mem_range] at hi
      obtain ⟨m, rfl⟩ : ∃ m, n = m + 1 := ⟨n - 1, by omega⟩
      rw [h0 m rfl]
      have e := atI_of (List.getElem?_eq_getElem hi)
      rw [show (0 : Int) + (i : Int) = (i : Int) by omega] at hP ⊢
      exact hix _ _ e _ (hix _ _ e _ ⟨rfl, _, rfl, hz m rfl _ (List.getElem_mem hi), hP⟩)
    · have e : ((List.range ds.length).filter fun _ => false) = [] := by simp
      rw [e]
      exact ⟨sz 0 (by decide), dEq_self rfl h⟩
  cases d with
  | v x =>
    cases x with
    | non => exact h
    | bl b =>
      refine ⟨_, true, rfl, rfl, _, true, rfl, rfl, dEq_bl ?_⟩
      rw [decide_eq_true rfl]; exact h
    | int b =>
      refine ⟨_, false, rfl, rfl, _, true, rfl, rfl, _, true, rfl, rfl, _, false, rfl, rfl, dEq_int ?_⟩
      rw [decide_eq_true rfl]; exact h
    | str b =>
      refine ⟨_, false, rfl, rfl, _, false, rfl, rfl, _, true, rfl, rfl, _, true, rfl, rfl, dEq_str ?_⟩
      rw [decide_eq_true rfl]; exact h
    | _ => unfold plainN at hp; cases n <;> exact hp.elim
  | tup ds =>
    cases n with
    | zero => unfold plainN at hp; exact hp.elim
    | succ m =>
      have hp' : ds.length ≤ 100000 ∧ ∀ d ∈ ds, plainN m d := by unfold plainN at hp; exact hp
      refine ⟨_, false, rfl, rfl, _, false, rfl, rfl, _, false, rfl, rfl, _, false, rfl, rfl, _, false, rfl, rfl, dNe_bl ?_⟩
      rw [decide_eq_true rfl]
      refine ⟨_, true, rfl, rfl, _, true, rfl, rfl, dNe_bl ?_⟩
      rw [decide_eq_true rfl]
      refine dEq_int ?_
      rw [decide_eq_true rfl]
      exact deep ds hp'.1 (fun m' e => by cases e; exact hp'.2) (by omega) (fun i z hz P hP => ⟨z, hz, hP⟩) fun P hP => hP
  | lst ds =>
    cases n with
    | zero => unfold plainN at hp; exact hp.elim
    | succ m =>
      have hp' : ds.length ≤ 100000 ∧ ∀ d ∈ ds, plainN m d := by unfold plainN at hp; exact hp
      refine ⟨_, false, rfl, rfl, _, false, rfl, rfl, _, false, rfl, rfl, _, true, rfl, rfl, _, true, rfl, rfl, dNe_bl ?_⟩
      rw [decide_eq_true rfl]
      refine ⟨_, false, rfl, rfl, _, false, rfl, rfl, dNe_bl ?_⟩
      rw [decide_eq_true rfl]
      refine dEq_int ?_
      rw [decide_eq_true rfl]
      exact deep ds hp'.1 (fun m' e => by cases e; exact hp'.2) (by omega) (fun i z hz P hP => ⟨z, hz, hP⟩) fun P hP => hP
  | scr ds => unfold plainN at hp; cases n <;> exact hp.elim
theorem rd_law_full : Rd n_law_full 2 sp_law_full d_law_full := by
  rintro ds W Q Qx _ ⟨p, m, k, rfl, hs, hk, hm, h⟩
  show d_law_full _ [some (.sh (.ref p)), some (.sh (.int m))] W
  unfold d_law_full
  rw [show Str.ofString "q" = mkS [113] by decide +kernel]
  refine ⟨rfl, p, 9, k, rfl, hs, by omega, by decide, fun l W1 hl hp hs1 => ?_⟩
  refine ⟨by omega, by omega, sz _ (by rw [len_mkS, Int.toNat_natCast]; simp; omega), ?_⟩
  have e : repS (mkS [113]) (m : Int) = mkS (List.replicate m 113) := by
    rw [rep_mkS, tl_mkS, List.flatten_replicate_singleton]
  simp only [e]
  refine ⟨sz _ (by rw [len_mkS, len_mkS, List.length_replicate]; omega), ?_⟩
  rw [app_mkS]
  refine ⟨sz _ (by rw [len_mkS, List.length_append, List.length_replicate]; omega), ?_⟩
  rw [cut_b, tl_mkS]
  refine h _ _ ?_ ?_ hs1
  · rw [List.length_take, List.length_append, List.length_replicate]; omega
  · intro c hc
    rcases List.mem_append.mp (List.mem_of_mem_take hc) with hc | hc
    · exact hp c hc
    · rw [List.eq_of_mem_replicate hc]; decide
theorem rd_law_put_together : Rd n_law_put_together 1 sp_law_put_together d_law_put_together := by
  rintro ds W Q Qx _ ⟨p, k, rfl, hs, hk, h⟩
  show d_law_put_together _ [some (.sh (.ref p)), none, none] W
  unfold d_law_put_together
  rw [so_nil, so_L, so_I, so_0, so_sp, show Str.ofString "I1" = mkS [73, 49] by decide +kernel, show Str.ofString "I2" = mkS [73, 50] by decide +kernel, show Str.ofString "I3" = mkS [73, 51] by decide +kernel, show Str.ofString "l" = mkS [108] by decide +kernel, show Str.ofString "I0" = mkS [73, 48] by decide +kernel, show Str.ofString "1" = mkS [49] by decide +kernel, show Str.ofString "2" = mkS [50] by decide +kernel, show Str.ofString "a" = mkS [97] by decide +kernel]
  refine ⟨sz 8 (by decide), rfl, p, _, k, rfl, hs, by omega, by decide, by decide, fun r W1 h0 h1 hs1 => ?_⟩
  refine ix_all h0 h1 fun z hz => ?_
  obtain ⟨t, rfl, htp, htl⟩ : ∃ t, z = .str (mkS t) ∧ Pr t ∧ t.length ≤ 2 := by
    simp only [List.mem_cons, List.not_mem_nil, or_false] at hz
    rcases hz with rfl | rfl | rfl | rfl | rfl | rfl | rfl | rfl <;> exact ⟨_, rfl, by unfold Pr; decide, by decide⟩
  refine dFor_mk ?_
  refine ⟨rfl, p, _, _, rfl, hs1, by omega, by decide, by decide, fun q W2 hq0 hq1 hs2 => ⟨by omega, by omega, fun i ρ W' => FlowOk W' p (k + 2 + i) ∧ ∃ (t : List Nat) (x2 : Option Sl), ρ = [some (.sh (.ref p)), some (.sh (.str (mkS t))), x2] ∧ Pr t ∧ t.length ≤ 2 + i, ?_, fun i d ρ W' hd hI => ?_, fun ρ W' hI => ?_⟩⟩
  · exact ⟨hs2, t, none, rfl, htp, htl⟩
  · obtain ⟨hs, t, x2, rfl, htp, htl⟩ := hI
    have hi : i < 30 := by have := (List.getElem?_eq_some_iff.mp hd).1; rw [rng_len] at this; omega
    refine ⟨sz 8 (by decide), rfl, p, _, _, rfl, hs, by omega, by decide, by decide, fun r W1 h0 h1 hs1 => ?_⟩
    refine ix_all h0 h1 fun z hz => ?_
    obtain ⟨c, rfl, hc⟩ : ∃ c, z = .str (mkS [c]) ∧ 32 ≤ c ∧ c ≤ 126 := by
      simp only [List.mem_cons, List.not_mem_nil, or_false] at hz
      rcases hz with rfl | rfl | rfl | rfl | rfl | rfl | rfl | rfl <;> exact ⟨_, rfl, by decide, by decide⟩
    refine ⟨sz _ (by rw [len_mkS, len_mkS, List.length_singleton]; omega), ?_⟩
    rw [app_mkS]
    refine ⟨hs1, t ++ [c], some (.sh d), rfl, fun e he => ?_, by rw [List.length_append, List.length_singleton]; omega⟩
    rcases List.mem_append.mp he with he | he
    · exact htp e he
    · rw [List.mem_singleton.mp he]; exact hc
  · obtain ⟨hs, t, x2, rfl, htp, htl⟩ := hI
    rw [rng_len] at hs htl
    exact h t W' htp (by omega) (hs.mono (by omega))
end K07

namespace K07
open PySem PySem.Spec L2 G TL C
theorem numIn_at {l x y : List Nat} {n a k : Nat} (h : l = x ++ (digs k n ++ y)) (ha : x.length = a) (hn : n < 10 ^ k) : numIn l a k = (n : Int) := by
  subst h ha
  unfold numIn
  rw [List.drop_left, List.take_left' (digs_len k n), digs_len, digs_dig, digs_val k n hn, if_neg (by simp)]
theorem leafT_ok : ∀ (es : List (List Nat × List Nat)) (x : List Nat) (f : Nat), (∀ e ∈ es, e.1.length ≤ 300 ∧ e.2.length ≤ 300) → es.length < f → leafT (x ++ (es.map entL).flatten) f x.length = some es := by
  intro es
  induction es with
  | nil =>
    intro x f _ hf
    obtain ⟨f, rfl⟩ : ∃ g, f = g + 1 := ⟨f - 1, by omega⟩
    rw [leafT, if_pos (by simp)]
  | cons e r ih =>
    intro x f he hf
    rw [List.length_cons] at hf
    obtain ⟨f, rfl⟩ : ∃ g, f = g + 1 := ⟨f - 1, by omega⟩
    obtain ⟨h1, h2⟩ := he e (List.mem_cons_self ..)
    obtain ⟨R, hR⟩ : ∃ R, (r.map entL).flatten = R := ⟨_, rfl⟩
    have el : x ++ ((e :: r).map entL).flatten = x ++ (digs 3 e.1.length ++ (digs 3 e.2.length ++ (e.1 ++ (e.2 ++ R)))) := by
      rw [List.map_cons, List.flatten_cons, hR]; simp [entL]
    have el2 : x ++ ((e :: r).map entL).flatten = (x ++ entL e) ++ (r.map entL).flatten := by
      rw [List.map_cons, List.flatten_cons, List.append_assoc]
    have elen : (entL e).length = 6 + e.1.length + e.2.length := by
      unfold entL
      simp only [List.length_append, digs_len]
    have n1 : numIn (x ++ ((e :: r).map entL).flatten) x.length 3 = e.1.length := numIn_at el rfl (by omega)
    have n2 : numIn (x ++ ((e :: r).map entL).flatten) (x.length + 3) 3 = e.2.length := numIn_at (x := x ++ digs 3 e.1.length) (y := e.1 ++ (e.2 ++ R)) (by rw [el]; simp) (by rw [List.length_append, digs_len]) (by omega)
    have d1 : (x ++ ((e :: r).map entL).flatten).drop (x.length + 6) = e.1 ++ (e.2 ++ R) := by
      rw [el, show x ++ (digs 3 e.1.length ++ (digs 3 e.2.length ++ (e.1 ++ (e.2 ++ R)))) = (x ++ digs 3 e.1.length ++ digs 3 e.2.length) ++ (e.1 ++ (e.2 ++ R)) by simp]
      exact List.drop_left' (by rw [List.length_append, List.length_append, digs_len, digs_len])
    have d2 : (x ++ ((e :: r).map entL).flatten).drop (x.length + 6 + e.1.length) = e.2 ++ R := by
      rw [← List.drop_drop, d1, List.drop_left]
    have tot : (x ++ ((e :: r).map entL).flatten).length = x.length + (6 + e.1.length + e.2.length) + R.length := by
      rw [el2, hR, List.length_append, List.length_append, elen]
    rw [leafT, n1, n2, Int.toNat_natCast, Int.toNat_natCast, if_neg (by omega), if_neg (by omega), d1, d2, List.take_left, List.take_left]
    have := ih (x ++ entL e) f (fun z hz => he z (List.mem_cons_of_mem _ hz)) (by omega)
    rw [List.length_append, elen] at this
    rw [el2, show x.length + 6 + e.1.length + e.2.length = x.length + (6 + e.1.length + e.2.length) by omega, this]
    rfl
theorem flat_ge (es : List (List Nat × List Nat)) : es.length ≤ (es.map entL).flatten.length := by
  induction es with
  | nil => simp
  | cons e r ih =>
    rw [List.map_cons, List.flatten_cons, List.length_append, List.length_cons]
    have : (entL e).length = 6 + e.1.length + e.2.length := by
      unfold entL
      simp only [List.length_append, digs_len]
    omega
theorem marksT_ok : ∀ (ms : List (List Nat)) (x : List Nat), (∀ m ∈ ms, m.length ≤ 300) → marksT (x ++ (ms.map markL).flatten) ms.length x.length = some (ms, (x ++ (ms.map markL).flatten).length) := by
  intro ms
  induction ms with
  | nil => intro x _; simp [marksT]
  | cons m r ih =>
    intro x hm
    have h1 := hm m (List.mem_cons_self ..)
    obtain ⟨R, hR⟩ : ∃ R, (r.map markL).flatten = R := ⟨_, rfl⟩
    have el : x ++ ((m :: r).map markL).flatten = x ++ (digs 3 m.length ++ (m ++ R)) := by
      rw [List.map_cons, List.flatten_cons, hR]; simp [markL]
    have el2 : x ++ ((m :: r).map markL).flatten = (x ++ markL m) ++ (r.map markL).flatten := by
      rw [List.map_cons, List.flatten_cons, List.append_assoc]
    have elen : (markL m).length = 3 + m.length := by
      unfold markL
      simp only [List.length_append, digs_len]
    have n1 : numIn (x ++ ((m :: r).map markL).flatten) x.length 3 = m.length := numIn_at el rfl (by omega)
    have d1 : (x ++ ((m :: r).map markL).flatten).drop (x.length + 3) = m ++ R := by
      rw [el, show x ++ (digs 3 m.length ++ (m ++ R)) = (x ++ digs 3 m.length) ++ (m ++ R) by simp]
      exact List.drop_left' (by rw [List.length_append, digs_len])
    have tot : (x ++ ((m :: r).map markL).flatten).length = x.length + (3 + m.length) + R.length := by
      rw [el2, hR, List.length_append, List.length_append, elen]
    rw [List.length_cons, marksT, n1, Int.toNat_natCast, if_neg (by omega), d1, List.take_left]
    have := ih (x ++ markL m) (fun z hz => hm z (List.mem_cons_of_mem _ hz))
    rw [List.length_append, elen] at this
    rw [el2, show x.length + 3 + m.length = x.length + (3 + m.length) by omega, this]
    rfl
theorem kids_ok (ks : List Nat) (x y : List Nat) (hx : x.length = 2) (hk : ∀ k ∈ ks, k < 10000) : kidsT (x ++ ((ks.map (digs 4)).flatten ++ y)) ks.length = ks.map fun (k : Nat) => (k : Int) := by
  unfold kidsT
  refine List.ext_getElem (by simp) fun i h1 h2 => ?_
  rw [List.length_map] at h2
  rw [List.getElem_map, List.getElem_map, List.getElem_range]
  have e : ks = ks.take i ++ ks[i] :: ks.drop (i + 1) := by
    rw [← List.drop_eq_getElem_cons h2, List.take_append_drop]
  have hl : ((ks.take i).map (digs 4)).flatten.length = 4 * i := by
    rw [List.length_flatten, List.map_map, show (List.length ∘ digs 4) = (fun _ => 4) from funext fun z => digs_len 4 z, List.map_const', List.sum_replicate_nat, List.length_take]
    rw [Nat.min_eq_left (by omega), Nat.mul_comm]
  refine numIn_at (x := x ++ ((ks.take i).map (digs 4)).flatten) (y := ((ks.drop (i + 1)).map (digs 4)).flatten ++ y) ?_ (by rw [List.length_append, hx, hl]) (hk _ (List.getElem_mem h2))
  have e2 : (ks.map (digs 4)).flatten = ((ks.take i).map (digs 4)).flatten ++ (digs 4 ks[i] ++ ((ks.drop (i + 1)).map (digs 4)).flatten) := by
    conv => lhs; rw [e]
    rw [List.map_append, List.flatten_append, List.map_cons, List.flatten_cons]
  rw [e2]
  simp
theorem told_ok {nd : Nd} (h : NdOk nd) : toldD (nodeL nd) = nodeD nd := by
  cases nd with
  | leaf es =>
    obtain ⟨h6, he⟩ := h
    unfold toldD
    have : leafO (nodeL (.leaf es)) = some es := by
      unfold leafO
      show leafT ([76] ++ (es.map entL).flatten) (([76] ++ (es.map entL).flatten).length + 1) [76].length = some es
      refine leafT_ok es [76] _ (fun e h => ⟨(he e h).1, (he e h).2.1⟩) ?_
      have := flat_ge es
      rw [List.length_append]; omega
    have t1 : List.take 1 (nodeL (.leaf es)) = [76] := by rfl
    rw [if_pos t1, this]
    rfl
  | inner ms ks =>
    obtain ⟨h1, h9, hk, hm⟩ := h
    have el : nodeL (.inner ms ks) = [73] ++ (digs 1 ks.length ++ ((ks.map (digs 4)).flatten ++ (ms.map markL).flatten)) := by simp [nodeL]
    have n1 : numIn (nodeL (.inner ms ks)) 1 1 = ks.length := numIn_at el rfl (by omega)
    have kk : kidsT (nodeL (.inner ms ks)) ks.length = ks.map fun (k : Nat) => (k : Int) := by
      rw [show nodeL (.inner ms ks) = ([73] ++ digs 1 ks.length) ++ ((ks.map (digs 4)).flatten ++ (ms.map markL).flatten) by simp [nodeL]]
      exact kids_ok ks _ _ (by rw [List.length_append, digs_len]; rfl) hk
    have hp : ([73] ++ digs 1 ks.length ++ (ks.map (digs 4)).flatten).length = 2 + 4 * ks.length := by
      rw [List.length_append, List.length_append, digs_len, List.length_flatten, List.map_map, show (List.length ∘ digs 4) = (fun _ => 4) from funext fun z => digs_len 4 z, List.map_const', List.sum_replicate_nat]
      simp; omega
    have mk : marksT (nodeL (.inner ms ks)) (ks.length - 1) (2 + 4 * ks.length) = some (ms, (nodeL (.inner ms ks)).length) := by
      have := marksT_ok ms ([73] ++ digs 1 ks.length ++ (ks.map (digs 4)).flatten) fun m h => (hm m h).1
      rw [hp] at this
      rw [show ks.length - 1 = ms.length by omega]
      exact this
    have hin : innerT (nodeL (.inner ms ks)) = some (ms, ks.map fun (k : Nat) => (k : Int)) := by
      unfold innerT
      rw [n1, Int.toNat_natCast, kk, mk, if_neg (by
        rintro (q | ⟨k, hk', q⟩)
        · omega
        · rw [List.mem_map] at hk'
          obtain ⟨z, _, rfl⟩ := hk'
          omega)]
      show (if (nodeL (.inner ms ks)).length = (nodeL (.inner ms ks)).length then _ else none) = _
      rw [if_pos rfl]
    unfold toldD
    rw [if_neg (by rw [el]; simp), if_pos (by rw [el]; rfl), hin]
    show D.tup [_, _, .tup ((ks.map fun (k : Nat) => (k : Int)).map D.int)] = _
    rw [List.map_map]
    rfl
theorem rd_law_node : Rd n_law_node 1 sp_law_node d_law_node := by
  rintro ds W Q Qx _ ⟨p, k, rfl, hs, hk, h⟩
  show d_law_node _ [some (.sh (.ref p)), none, none, none, none] W
  unfold d_law_node
  rw [so_leaf, so_inner]
  refine ⟨sz 3 (by decide), rfl, p, _, k, rfl, hs, by omega, by decide, by decide, fun r W1 h0 h1 hs1 => ?_⟩
  refine ix_all h0 h1 fun z hz => ?_
  obtain ⟨most, rfl, hmost⟩ : ∃ most : Nat, z = .int most ∧ most ≤ 300 := by
    simp only [List.mem_cons, List.not_mem_nil, or_false] at hz
    rcases hz with rfl | rfl | rfl
    · exact ⟨3, rfl, by decide⟩
    · exact ⟨30, rfl, by decide⟩
    · exact ⟨300, rfl, by decide⟩
  refine ⟨rfl, p, _, _, rfl, hs1, by omega, by decide, by decide, fun r2 W2 _ _ hs2 => dEq_int ?_⟩
  refine ite_d (fun _ => ?_) (fun _ => ?_)
  · refine dLc_eachB (fun ds W' => ds.length ≤ 6 ∧ FlowOk W' p (k + 3)) (fun j W' => FlowOk W' p (k + 3 + 20 * j)) (fun d => ∃ e, d = entD e ∧ e.1.length ≤ 300 ∧ e.2.length ≤ 300 ∧ Pr e.1 ∧ Pr e.2) ?_ (fun P hP => ?_) (fun ds W' hb => ⟨sz _ (by omega), hb.2⟩) (fun ds W' hb j d W3 hj hs3 P hP => ?_) (fun ds W' hb ys W3 hyl hya hs3 => ?_)
    · exact noOwn1 (by simp)
    · refine ⟨rfl, p, _, _, rfl, hs2, by omega, by decide, by decide, fun r3 W3 hr0 hr1 hs3 => ⟨by omega, by omega, hP _ _ ⟨?_, hs3⟩⟩⟩
      rw [rng_len]; omega
    · have hj6 : j < 6 := by have := (List.getElem?_eq_some_iff.mp hj).1; omega
      refine ⟨rfl, p, most, _, rfl, hs3, by omega, by omega, fun l1 W4 hl1 hp1 hs4 => ?_⟩
      refine ⟨rfl, p, most, _, rfl, hs4, by omega, by omega, fun l2 W5 hl2 hp2 hs5 => ?_⟩
      exact ⟨sz 2 (by decide), hP _ _ ⟨(l1, l2), rfl, by show l1.length ≤ 300; omega, by show l2.length ≤ 300; omega, hp1, hp2⟩ (hs5.mono (by omega))⟩
    · obtain ⟨es, rfl, hes⟩ : ∃ es : List (List Nat × List Nat), ys = es.map entD ∧ ∀ e ∈ es, e.1.length ≤ 300 ∧ e.2.length ≤ 300 ∧ Pr e.1 ∧ Pr e.2 := by
        clear hyl
        induction ys with
        | nil => exact ⟨[], rfl, by simp⟩
        | cons y r ih =>
          obtain ⟨es, h1, h2⟩ := ih fun z hz => hya z (List.mem_cons_of_mem _ hz)
          obtain ⟨e, he, h3⟩ := hya y (List.mem_cons_self ..)
          refine ⟨e :: es, by rw [h1, he]; rfl, fun z hz => ?_⟩
          rcases List.mem_cons.mp hz with rfl | hz
          · exact h3
          · exact h2 z hz
      rw [List.length_map] at hyl
      refine ⟨sz 2 (by decide), ?_⟩
      exact h (.leaf es) W3 ⟨by omega, hes⟩ (hs3.mono (by have := hb.1; omega))
  · refine ⟨rfl, p, _, _, rfl, hs2, by omega, by decide, by decide, fun many W3 hm0 hm1 hs3 => ?_⟩
    obtain ⟨many, rfl⟩ : ∃ n : Nat, many = n := ⟨many.toNat, by omega⟩
    refine dLc_eachB (fun ds W' => ds.length = 1 + many ∧ FlowOk W' p (k + 3)) (fun j W' => FlowOk W' p (k + 3 + 3 * j)) (fun d => ∃ r : Nat, d = .int r ∧ r < 10000) ?_ (fun P hP => ⟨by omega, by omega, hP _ _ ⟨?_, hs3⟩⟩) (fun ds W' hb => ⟨sz _ (by omega), hb.2⟩) (fun ds W' hb j d W4 hj hs4 P hP => ?_) (fun ds W' hb ys W4 hyl hya hs4 => ?_)
    · exact noOwn1 (by simp)
    · rw [rng_len]; omega
    · have hj9 : j < 9 := by have := (List.getElem?_eq_some_iff.mp hj).1; omega
      refine ⟨rfl, p, _, _, rfl, hs4, by omega, by decide, by decide, fun a W5 ha0 ha1 hs5 => ?_⟩
      refine ⟨rfl, p, _, _, rfl, hs5, by omega, by decide, by decide, fun b W6 hb0 hb1 hs6 => ?_⟩
      refine ⟨sz 4 (by decide), rfl, p, _, _, rfl, hs6, by omega, by decide, by decide, fun c W7 hc0 hc1 hs7 => ?_⟩
      refine ix_all hc0 hc1 fun z hz => ?_
      obtain ⟨r, rfl, hr⟩ : ∃ r : Nat, z = .int r ∧ r < 10000 := by
        simp only [List.mem_cons, List.not_mem_nil, or_false] at hz
        rcases hz with rfl | rfl | rfl | rfl
        · exact ⟨0, rfl, by decide⟩
        · exact ⟨9999, rfl, by decide⟩
        · exact ⟨a.toNat, by rw [Int.toNat_of_nonneg ha0], by omega⟩
        · exact ⟨b.toNat, by rw [Int.toNat_of_nonneg hb0], by omega⟩
      exact hP _ _ ⟨r, rfl, hr⟩ (hs7.mono (by omega))
    obtain ⟨ks, rfl, hks⟩ : ∃ ks : List Nat, ys = ks.map (fun (k : Nat) => D.int (k : Int)) ∧ ∀ k ∈ ks, k < 10000 := by
      clear hyl
      induction ys with
      | nil => exact ⟨[], rfl, by simp⟩
      | cons y r ih =>
        obtain ⟨es, h1, h2⟩ := ih fun z hz => hya z (List.mem_cons_of_mem _ hz)
        obtain ⟨e, he, h3⟩ := hya y (List.mem_cons_self ..)
        refine ⟨e :: es, by rw [h1, he]; rfl, fun z hz => ?_⟩
        rcases List.mem_cons.mp hz with rfl | hz
        · exact h3
        · exact h2 z hz
    rw [List.length_map] at hyl
    have hkl : ks.length = 1 + many := by omega
    have ekl : (((ks.map (fun (k : Nat) => D.int (k : Int))).length : Nat) : Int) - 1 = ((many : Nat) : Int) := by rw [List.length_map]; omega
    refine dLc_eachB (fun ds W' => ds.length = many ∧ FlowOk W' p (k + 30)) (fun j W' => FlowOk W' p (k + 30 + 10 * j)) (fun d => ∃ m, d = .str (mkS m) ∧ m.length ≤ 300 ∧ Pr m) ?_ (fun P hP => ?_) (fun ds W' hb => ⟨sz _ (by omega), hb.2⟩) (fun ds W' hb j d W5 hj hs5 P hP => ?_) (fun ds W' hb ys W5 hyl hya hs5 => ?_)
    · exact noOwn1 (by simp)
    · show -(2 ^ 62) ≤ (((ks.map (fun (k : Nat) => D.int (k : Int))).length : Nat) : Int) - 1 ∧ (((ks.map (fun (k : Nat) => D.int (k : Int))).length : Nat) : Int) - 1 < 2 ^ 62 ∧ P (rng 0 ((((ks.map (fun (k : Nat) => D.int (k : Int))).length : Nat) : Int) - 1).toNat) _ _
      rw [ekl]
      exact ⟨by omega, by omega, hP _ _ ⟨by rw [rng_len, Int.toNat_natCast], hs4.mono (by have := hb.1; omega)⟩⟩
    · have hj9 : j < 9 := by have := (List.getElem?_eq_some_iff.mp hj).1; omega
      exact ⟨rfl, p, most, _, rfl, hs5, by omega, by omega, fun l1 W4 hl1 hp1 hs4 => hP _ _ ⟨l1, rfl, by omega, hp1⟩ (hs4.mono (by omega))⟩
    obtain ⟨ms, rfl, hms⟩ : ∃ ms : List (List Nat), ys = ms.map (fun m => D.str (mkS m)) ∧ ∀ m ∈ ms, m.length ≤ 300 ∧ Pr m := by
      clear hyl
      induction ys with
      | nil => exact ⟨[], rfl, by simp⟩
      | cons y r ih =>
        obtain ⟨es, h1, h2⟩ := ih fun z hz => hya z (List.mem_cons_of_mem _ hz)
        obtain ⟨e, he, h3⟩ := hya y (List.mem_cons_self ..)
        refine ⟨e :: es, by rw [h1, he]; rfl, fun z hz => ?_⟩
        rcases List.mem_cons.mp hz with rfl | hz
        · exact h3
        · exact h2 z hz
    rw [List.length_map] at hyl
    refine ⟨sz 3 (by decide), ?_⟩
    exact h (.inner ms ks) W5 ⟨by omega, by omega, hks, hms⟩ (hs5.mono (by omega))
end K07

namespace K07
open PySem PySem.Spec L2 G TL C
theorem pr_app {a b : List Nat} (h1 : Pr a) (h2 : Pr b) : Pr (a ++ b) := fun c hc => by
  rcases List.mem_append.mp hc with hc | hc
  · exact h1 c hc
  · exact h2 c hc
theorem pr_take {a : List Nat} (n : Nat) (h : Pr a) : Pr (a.take n) := fun c hc => h c (List.mem_of_mem_take hc)
theorem pr_drop {a : List Nat} (n : Nat) (h : Pr a) : Pr (a.drop n) := fun c hc => h c (List.mem_of_mem_drop hc)
theorem pr_one {c : Nat} (h1 : 32 ≤ c) (h2 : c ≤ 126) : Pr [c] := fun d hd => by rw [List.mem_singleton.mp hd]; exact ⟨h1, h2⟩
theorem rd_law_near : Rd n_law_near 2 sp_law_near d_law_near := by
  rintro ds W Q Qx _ ⟨p, k, l, rfl, hs, hk, hp, hl, h⟩
  show d_law_near _ [some (.sh (.ref p)), some (.sh (.str (mkS l))), none, none, none] W
  unfold d_law_near
  rw [so_0, so_sp, so_L, so_I, show Str.ofString "1" = mkS [49] by decide +kernel, so_9, show Str.ofString "-" = mkS [45] by decide +kernel, show Str.ofString "000000" = mkS [48, 48, 48, 48, 48, 48] by decide +kernel]
  have hz : (mkS l).length ≤ sizeLine := sz _ (by rw [len_mkS]; omega)
  have ml := mk_len l
  refine seq_gen (fun ρ W => ∃ r : Nat, r ≤ l.length ∧ ρ = [some (.sh (.ref p)), some (.sh (.str (mkS l))), some (.sh (.int r)), none, none] ∧ FlowOk W p (k + 1)) (fun ρ W1 hI => ?_) (fun N hN => ?_)
  case refine_2 =>
    refine ⟨hz, rfl, p, _, k, rfl, hs, by omega, by omega, by omega, fun r W1 h0 h1 hs1 => ?_⟩
    rw [mk_len] at h1
    obtain ⟨r, rfl⟩ : ∃ n : Nat, r = n := ⟨r.toNat, by omega⟩
    exact hN _ _ ⟨r, by omega, rfl, hs1⟩
  obtain ⟨r, hr, rfl, hs1⟩ := hI
  refine seq_gen (fun ρ W => ∃ a : Nat, a ≤ l.length ∧ ρ = [some (.sh (.ref p)), some (.sh (.str (mkS l))), some (.sh (.int a)), none, none] ∧ FlowOk W p (k + 3)) (fun ρ W hI => ?_) (fun N hN => ?_)
  · obtain ⟨a, ha, rfl, hs⟩ := hI
    refine ⟨rfl, p, _, rfl, hs, by omega, fun c W2 hc0 hc1 hs2 => ?_⟩
    refine ⟨sz 8 (by decide), rfl, p, _, _, rfl, hs2, by omega, by decide, by decide, fun q W3 hq0 hq1 hs3 => ?_⟩
    refine ix_all hq0 hq1 fun z hz2 => ?_
    obtain ⟨g, rfl, hg⟩ : ∃ g, z = .str (mkS [g]) ∧ Pr [g] := by
      simp only [List.mem_cons, List.not_mem_nil, or_false] at hz2
      rcases hz2 with rfl | rfl | rfl | rfl | rfl | rfl | rfl | rfl
      · exact ⟨c, rfl, pr_one hc0 hc1⟩
      all_goals exact ⟨_, rfl, pr_one (by decide) (by decide)⟩
    obtain ⟨lo, elo, hlo, hlol⟩ := pr_lower hp
    have cb : cutS (mkS l) none (some (a : Int)) = mkS (l.take a) := cut_b _ _
    have ca : cutS (mkS l) (some (a : Int)) none = mkS (l.drop a) := cut_a _ _
    have ca1 : cutS (mkS l) (some ((a : Int) + 1)) none = mkS (l.drop (a + 1)) := cut_a (mkS l) (a + 1)
    have c1 : cutS (mkS l) (some 1) none = mkS (l.drop 1) := cut_a (mkS l) 1
    have h1 : (mkS [g]).length = 1 := rfl
    have l1 := cut_len (mkS l) none (some (a : Int))
    have l2 := cut_len (mkS l) (some (a : Int)) none
    have l3 := cut_len (mkS l) (some ((a : Int) + 1)) none
    have l4 := cut_len (mkS l) (some 1) none
    have l5 : (mkS l).length = l.length := len_mkS l
    have l6 : (mkS [48, 48, 48, 48, 48, 48]).length = 6 := rfl
    have big : ∀ n : Nat, n ≤ 90001 → n ≤ sizeLine := fun n h => sz n (by omega)
    refine ⟨hz, big _ (by omega), hz, big _ (by rw [Str.length_append]; omega), hz, hz, big _ (by omega), hz, big _ (by omega), hz, big _ (by rw [Str.length_append]; omega), sz 4 (by decide), hz, big _ (by omega), ⟨_, rfl⟩, by omega, hz, big _ (by omega), big _ (by omega), hz, sz 6 (by decide), sz 10 (by decide), rfl, p, _, _, rfl, hs3, by omega, by decide, by decide, fun r W4 hr0 hr1 hs4 => ?_⟩
    have ap : ∀ x y : List Nat, mkS x ++ mkS y = mkS (x ++ y) := app_mkS
    refine ix_all hr0 hr1 fun z hz2 => ?_
    have fin : ∀ l', z = .str (mkS l') → Pr l' → l'.length ≤ 3 * l.length + 10 → Q z W4 := fun l' e h1 h2 => by
      subst e; exact h l' W4 h1 h2 (hs4.mono (by omega))
    have hl' : (l.take a).length + (l.drop a).length = l.length := by rw [List.length_take, List.length_drop]; omega
    have hl2 : (l.drop (a + 1)).length ≤ (l.drop a).length := by rw [List.length_drop, List.length_drop]; omega
    have hl3 : (l.drop 1).length ≤ l.length := by rw [List.length_drop]; omega
    rcases List.mem_append.mp hz2 with hz2 | hz2
    · simp only [List.mem_cons, List.not_mem_nil, or_false] at hz2
      rcases hz2 with rfl | rfl | rfl | rfl
      · exact fin l rfl hp (by omega)
      · exact fin (l.take a ++ [g] ++ l.drop (a + 1)) (by rw [cb, ap]; first | rw [ca1, ap] | rw [ca, ap]) (pr_app (pr_app (pr_take a hp) hg) (pr_drop _ hp)) (by rw [List.length_append, List.length_append, List.length_singleton]; omega)
      · exact fin (l.take a ++ l.drop (a + 1)) (by rw [cb, ca1, ap]) (pr_app (pr_take a hp) (pr_drop _ hp)) (by rw [List.length_append]; omega)
      · exact fin (l.take a ++ [g] ++ l.drop a) (by rw [cb, ap]; first | rw [ca1, ap] | rw [ca, ap]) (pr_app (pr_app (pr_take a hp) hg) (pr_drop _ hp)) (by rw [List.length_append, List.length_append, List.length_singleton]; omega)
    · simp only [List.mem_cons, List.not_mem_nil, or_false] at hz2
      rcases hz2 with rfl | rfl | rfl | rfl | rfl | rfl
      · exact fin (l.take a) (by rw [cb]) (pr_take a hp) (by omega)
      · exact fin (l ++ [g]) (by rw [ap]) (pr_app hp hg) (by rw [List.length_append, List.length_singleton]; omega)
      · exact fin lo (by show D.str (Txt.lower (mkS l)) = _; rw [elo]) hlo (by omega)
      · exact fin (l ++ l.drop 1) (by rw [c1, ap]) (pr_app hp (pr_drop 1 hp)) (by rw [List.length_append]; omega)
      · exact fin (l ++ [48, 48, 48, 48, 48, 48]) (by rw [ap]) (pr_app hp (by unfold Pr; decide)) (by rw [List.length_append]; simp; omega)
      · exact fin (l.drop 1) (by rw [c1]) (pr_drop 1 hp) (by omega)
  · refine ⟨rfl, p, _, _, rfl, hs1, by omega, by decide, by decide, fun q W2 _ _ hs2 => dEq_int ?_⟩
    refine ite_d (fun _ => ?_) (fun _ => hN _ _ ⟨r, by omega, rfl, hs2.mono (by omega)⟩)
    refine ⟨hz, rfl, p, _, _, rfl, hs2, by omega, ?_, ?_, fun a W3 ha0 ha1 hs3 => ?_⟩
    · show (0 : Int) < (if (12 : Int) < ((mkS l).length : Int) then 12 else ((mkS l).length : Int)) + 1
      split <;> omega
    · show (if (12 : Int) < ((mkS l).length : Int) then 12 else ((mkS l).length : Int)) + 1 ≤ 1000000000
      split <;> omega
    · have ha1' : a < (if (12 : Int) < ((mkS l).length : Int) then 12 else ((mkS l).length : Int)) + 1 := ha1
      rw [mk_len] at ha1'
      obtain ⟨a, rfl⟩ : ∃ n : Nat, a = n := ⟨a.toNat, by omega⟩
      exact hN _ _ ⟨a, by split at ha1' <;> omega, rfl, hs3.mono (by omega)⟩
theorem plain_told (l : List Nat) (hl : l.length ≤ 100000) : plainN 3 (toldD l) := by
  have lfl : ∀ (f a : Nat) (es : List (List Nat × List Nat)), leafT l f a = some es → es.length ≤ l.length - a := by
    intro f
    induction f with
    | zero => intro a es h; cases h
    | succ f ih =>
      intro a es h
      rw [leafT] at h
      split at h
      · cases h; simp
      · split at h
        · cases h
        · cases q : leafT l f (a + 6 + (numIn l a 3).toNat + (numIn l (a + 3) 3).toNat) with
          | none => rw [q] at h; cases h
          | some r =>
            rw [q] at h
            cases h
            have := ih _ r q
            rw [List.length_cons]
            omega
  have mkl : ∀ (n a : Nat) (p : List (List Nat) × Nat), marksT l n a = some p → p.1.length = n := by
    intro n
    induction n with
    | zero => intro a p h; cases h; rfl
    | succ n ih =>
      intro a p h
      rw [marksT] at h
      split at h
      · cases h
      · cases q : marksT l n (a + 3 + (numIn l a 3).toNat) with
        | none => rw [q] at h; cases h
        | some r =>
          rw [q] at h
          cases h
          rw [List.length_cons, ih _ r q]
  have ent : ∀ es : List (List Nat × List Nat), ∀ d ∈ es.map entD, plainN 1 d := fun es d hd => by
    rw [List.mem_map] at hd
    obtain ⟨e, _, rfl⟩ := hd
    simp [entD, plainN]
  unfold toldD
  split
  · cases q : leafO l with
    | none => simp [plainN]
    | some es =>
      have h1 := lfl _ _ es q
      simp only [plainN]
      refine ⟨by simp, fun d hd => ?_⟩
      simp only [List.mem_cons, List.not_mem_nil, or_false] at hd
      rcases hd with rfl | rfl
      · simp [plainN]
      · simp only [plainN]
        exact ⟨by rw [List.length_map]; omega, ent es⟩
  · split
    · cases q : innerT l with
      | none => simp [plainN]
      | some p =>
        have hm10 := numIn_lt l 1 1
        have hp : p.1.length ≤ 10 ∧ p.2.length ≤ 10 := by
          unfold innerT at q
          split at q
          · cases q
          · cases r : marksT l ((numIn l 1 1).toNat - 1) (2 + 4 * (numIn l 1 1).toNat) with
            | none => rw [r] at q; cases q
            | some z =>
              rw [r] at q
              have := mkl _ _ z r
              have q' : (if z.2 = l.length then some (z.1, kidsT l (numIn l 1 1).toNat) else none) = some p := q
              split at q'
              · cases q'
                rw [kids_len]
                exact ⟨by show z.1.length ≤ 10; omega, by omega⟩
              · cases q'
        simp only [plainN]
        refine ⟨by simp, fun d hd => ?_⟩
        simp only [List.mem_cons, List.not_mem_nil, or_false] at hd
        rcases hd with rfl | rfl | rfl
        · simp [plainN]
        · unfold marksD
          simp only [plainN]
          refine ⟨by rw [List.length_map]; omega, fun d hd => ?_⟩
          rw [List.mem_map] at hd
          obtain ⟨e, _, rfl⟩ := hd
          simp [plainN]
        · simp only [plainN]
          refine ⟨by rw [List.length_map]; omega, fun d hd => ?_⟩
          rw [List.mem_map] at hd
          obtain ⟨e, _, rfl⟩ := hd
          simp [plainN]
    · simp [plainN]
end K07

namespace K07
open PySem PySem.Spec L2 G TL C
theorem node_plain {nd : Nd} (h : NdOk nd) : plainN 3 (nodeD nd) := by
  have ent : ∀ es : List (List Nat × List Nat), ∀ d ∈ es.map entD, plainN 1 d := fun es d hd => by
    rw [List.mem_map] at hd
    obtain ⟨e, _, rfl⟩ := hd
    simp [entD, plainN]
  cases nd with
  | leaf es =>
    simp only [nodeD, plainN]
    refine ⟨by simp, fun d hd => ?_⟩
    simp only [List.mem_cons, List.not_mem_nil, or_false] at hd
    rcases hd with rfl | rfl
    · simp [plainN]
    · simp only [plainN]
      exact ⟨by rw [List.length_map]; have := h.1; omega, ent es⟩
  | inner ms ks =>
    obtain ⟨h1, h9, _, _⟩ := h
    simp only [nodeD, plainN]
    refine ⟨by simp, fun d hd => ?_⟩
    simp only [List.mem_cons, List.not_mem_nil, or_false] at hd
    rcases hd with rfl | rfl | rfl
    · simp [plainN]
    · unfold marksD
      simp only [plainN]
      refine ⟨by rw [List.length_map]; omega, fun d hd => ?_⟩
      rw [List.mem_map] at hd
      obtain ⟨e, _, rfl⟩ := hd
      simp [plainN]
    · simp only [plainN]
      refine ⟨by rw [List.length_map]; omega, fun d hd => ?_⟩
      rw [List.mem_map] at hd
      obtain ⟨e, _, rfl⟩ := hd
      simp [plainN]
theorem node_len {nd : Nd} (h : NdOk nd) : (nodeL nd).length ≤ 4000 ∧ Pr (nodeL nd) := by
  have dg : ∀ k n, Pr (digs k n) := fun k n c hc => by
    have := List.all_eq_true.mp (digs_dig k n) c hc
    unfold isDig at this
    rw [Bool.and_eq_true, decide_eq_true_eq, decide_eq_true_eq] at this
    omega
  have fl : ∀ ys : List (List Nat), (∀ y ∈ ys, Pr y) → Pr ys.flatten := fun ys hy c hc => by
    rw [List.mem_flatten] at hc
    obtain ⟨y, h1, h2⟩ := hc
    exact hy y h1 c h2
  cases nd with
  | leaf es =>
    obtain ⟨h6, he⟩ := h
    refine ⟨?_, ?_⟩
    · show ([76] ++ (es.map entL).flatten).length ≤ 4000
      have := flat_len (ys := es.map entL) (n := 6) (B := 606) (by rw [List.length_map]; exact h6) (fun y hy => by
        rw [List.mem_map] at hy
        obtain ⟨e, he', rfl⟩ := hy
        exact ent_len (he e he').1 (he e he').2.1)
      rw [List.length_append, List.length_singleton]; omega
    · refine pr_app (pr_one (by decide) (by decide)) (fl _ fun y hy => ?_)
      rw [List.mem_map] at hy
      obtain ⟨e, he', rfl⟩ := hy
      exact pr_app (pr_app (pr_app (dg _ _) (dg _ _)) (he e he').2.2.1) (he e he').2.2.2
  | inner ms ks =>
    obtain ⟨h1, h9, hk, hm⟩ := h
    refine ⟨?_, ?_⟩
    · show ([73] ++ digs 1 ks.length ++ (ks.map (digs 4)).flatten ++ (ms.map markL).flatten).length ≤ 4000
      have f1 := flat_len (ys := ks.map (digs 4)) (n := 9) (B := 4) (by rw [List.length_map]; exact h9) (fun y hy => by
        rw [List.mem_map] at hy
        obtain ⟨k, _, rfl⟩ := hy
        rw [digs_len]; decide)
      have f2 := flat_len (ys := ms.map markL) (n := 9) (B := 303) (by rw [List.length_map]; omega) (fun y hy => by
        rw [List.mem_map] at hy
        obtain ⟨m, hm', rfl⟩ := hy
        exact mark_len (hm m hm').1)
      rw [List.length_append, List.length_append, List.length_append, List.length_singleton, digs_len]; omega
    · refine pr_app (pr_app (pr_app (pr_one (by decide) (by decide)) (dg _ _)) (fl _ fun y hy => ?_)) (fl _ fun y hy => ?_)
      · rw [List.mem_map] at hy
        obtain ⟨k, _, rfl⟩ := hy
        exact dg _ _
      · rw [List.mem_map] at hy
        obtain ⟨m, hm', rfl⟩ := hy
        exact pr_app (dg _ _) (hm m hm').2
theorem hno {P Q' : Prop} (q : Q') : (if (!true) = true then P else Q') := by rw [if_neg (by decide)]; exact q
theorem rd_law_rooms_right : Rd n_law_rooms_right 1 sp_law_rooms_right d_law_rooms_right := by
  rintro ds W Q Qx _ ⟨p, k, rfl, hs, hk, h⟩
  show d_law_rooms_right _ [some (.sh (.ref p)), none, none, none, none, none, none, none, none] W
  unfold d_law_rooms_right
  rw [so_leaf, so_inner]
  refine ⟨rfl, p, _, _, rfl, hs, by omega, by decide, by decide, fun q W1 hq0 hq1 hs => ⟨sz 6 (by decide), rfl, p, _, _, rfl, hs, by omega, by decide, by decide, fun t W2 ht0 ht1 hs => ?_⟩⟩
  refine ix_all ht0 ht1 fun z hz => ?_
  obtain ⟨w, rfl, hw0, hw1⟩ : ∃ w : Nat, z = .int w ∧ 100 ≤ w ∧ w ≤ 1000 := by
    simp only [List.mem_cons, List.not_mem_nil, or_false] at hz
    rcases hz with rfl | rfl | rfl | rfl | rfl | rfl
    · exact ⟨100, rfl, by decide, by decide⟩
    · exact ⟨101, rfl, by decide, by decide⟩
    · exact ⟨102, rfl, by decide, by decide⟩
    · exact ⟨103, rfl, by decide, by decide⟩
    · exact ⟨1000, rfl, by decide, by decide⟩
    · exact ⟨100 + q.toNat, by rw [show ((100 + q.toNat : Nat) : Int) = 100 + q by omega], by omega, by omega⟩
  obtain ⟨r, hr, hr1⟩ : ∃ r : Nat, ((w : Int) - 1) / 4 - 6 = (r : Int) ∧ 4 * (r + 6) ≤ w - 1 := ⟨(((w : Int) - 1) / 4 - 6).toNat, by omega, by omega⟩
  refine ⟨⟨by decide, by decide⟩, ?_⟩
  refine ⟨rfl, _, rfl, rfl, rfl, _, rfl, sz 2 (by decide), sz 2 (by decide), rfl, .lst [.int (((w : Int) - 1) / 4 - 6), .int (((w : Int) - 1) / 4 - 6)], rfl, ?_, ?_⟩
  · simp [plainN]
  refine hno ?_
  refine ⟨sz 0 (by decide), ?_⟩
  refine dFor_of (rng 0 4) (fun i ρ W' => FlowOk W' p (k + 2 + 21 * i) ∧ ∃ (es : List (List Nat × List Nat)) (x4 x5 : Option D), ρ = [some (.sh (.ref p)), some (.sh (.int w)), some (.sh (.int r)), some (.ol (es.map entD)), x4.map Sl.sh, x5.map Sl.sh, none, none, none] ∧ es.length = i ∧ ∀ e ∈ es, e.1.length + e.2.length = r ∧ Pr e.1 ∧ Pr e.2)
    (fun P hP => ⟨by decide, by decide, hP⟩) ⟨hs.mono (by omega), [], none, none, by rw [← hr]; rfl, rfl, by simp⟩ (fun i d ρ W' hd hI => ?_) (fun ρ W' hI => ?_)
  · obtain ⟨hs, es, x4, x5, rfl, hel, hes⟩ := hI
    have hi : i < 4 := by have := (List.getElem?_eq_some_iff.mp hd).1; rwa [rng_len] at this
    refine ⟨rfl, p, _, _, rfl, hs, by omega, by omega, by omega, fun lo W3 hl0 hl1 hs => ?_⟩
    obtain ⟨lo, rfl⟩ : ∃ n : Nat, lo = n := ⟨lo.toNat, by omega⟩
    refine ⟨⟨_, rfl⟩, rfl, p, lo, _, rfl, hs, by omega, by omega, fun l1 W4 hl1' hp1 hs => ?_⟩
    refine ⟨rfl, p, r - lo, _, ?_, hs, by omega, by omega, fun l2 W5 hl2 hp2 hs => ?_⟩
    · show [_, D.int ((r : Int) - (lo : Int))] = _
      rw [show (r : Int) - (lo : Int) = ((r - lo : Nat) : Int) by omega]
    refine ⟨sz 2 (by decide), ?_, hs.mono (by omega), es ++ [(l1, l2)], some d, some (.int lo), ?_, ?_, fun e he => ?_⟩
    · rw [List.length_map]; exact Nat.lt_of_lt_of_le (by omega : es.length < 16777216) (sz _ (Nat.le_refl _))
    · rw [List.map_append]; rfl
    · rw [List.length_append, List.length_singleton, hel]
    · rcases List.mem_append.mp he with he | he
      · exact hes e he
      · rw [List.mem_singleton.mp he]
        exact ⟨by show l1.length + l2.length = r; omega, hp1, hp2⟩
  obtain ⟨hs, es, x4, x5, rfl, hel, hes⟩ := hI
  rw [rng_len] at hs hel
  refine dLc_each (rng 0 3) (fun j W' => FlowOk W' p (k + 90 + 10 * j)) (fun d => ∃ m, d = .str (mkS m) ∧ m.length = r ∧ Pr m) ?_ ?_ W' (fun P hP => ⟨by decide, by decide, hP⟩) (hs.mono (by omega)) (fun j z W2 hj hs P hP => ?_) (fun ys W2 hyl hya hs => ?_)
  · refine noOwn1 fun ds => ?_
    cases x4 <;> simp
  · rw [rng_len]; exact sz _ (by decide)
  · have hj3 : j < 3 := by have := (List.getElem?_eq_some_iff.mp hj).1; rwa [rng_len] at this
    exact ⟨rfl, p, r, _, rfl, hs, by omega, by omega, fun l1 W4 hl1 hp1 hs4 => hP _ _ ⟨l1, rfl, hl1, hp1⟩ (hs4.mono (by omega))⟩
  rw [rng_len] at hyl hs
  obtain ⟨ms, rfl, hms⟩ : ∃ ms : List (List Nat), ys = ms.map (fun m => D.str (mkS m)) ∧ ∀ m ∈ ms, m.length = r ∧ Pr m := by
    clear hyl
    induction ys with
    | nil => exact ⟨[], rfl, by simp⟩
    | cons y r ih =>
      obtain ⟨es, h1, h2⟩ := ih fun z hz => hya z (List.mem_cons_of_mem _ hz)
      obtain ⟨e, he, h3⟩ := hya y (List.mem_cons_self ..)
      refine ⟨e :: es, by rw [h1, he]; rfl, fun z hz => ?_⟩
      rcases List.mem_cons.mp hz with rfl | hz
      · exact h3
      · exact h2 z hz
  rw [List.length_map] at hyl
  have ok1 : NdOk (.leaf es) := ⟨by omega, fun e he => by have := hes e he; exact ⟨by omega, by omega, this.2.1, this.2.2⟩⟩
  have ok2 : NdOk (.inner ms [0, 9999, 149, 1]) := ⟨by rw [hyl]; rfl, by decide, by decide, fun m hm => by have := hms m hm; exact ⟨by omega, this.2⟩⟩
  have len1 : (nodeL (.leaf es)).length ≤ w := by
    show ([76] ++ (es.map entL).flatten).length ≤ w
    have := flat_len (ys := es.map entL) (n := 4) (B := 6 + r) (by rw [List.length_map]; omega) (fun y hy => by
      rw [List.mem_map] at hy
      obtain ⟨e, he', rfl⟩ := hy
      have := (hes e he').1
      unfold entL
      simp only [List.length_append, digs_len]; omega)
    rw [List.length_append, List.length_singleton]; omega
  have len2 : (nodeL (.inner ms [0, 9999, 149, 1])).length ≤ w := by
    show ([73] ++ digs 1 4 ++ ([0, 9999, 149, 1].map (digs 4)).flatten ++ (ms.map markL).flatten).length ≤ w
    have f1 : (([0, 9999, 149, 1] : List Nat).map (digs 4)).flatten.length = 16 := by decide
    have f2 := flat_len (ys := ms.map markL) (n := 3) (B := 3 + r) (by rw [List.length_map]; omega) (fun y hy => by
      rw [List.mem_map] at hy
      obtain ⟨m, hm', rfl⟩ := hy
      have := (hms m hm').1
      unfold markL
      simp only [List.length_append, digs_len]; omega)
    rw [List.length_append, List.length_append, List.length_append, List.length_singleton, digs_len, f1]; omega
  have z1 : (mkS (nodeL (.leaf es))).length ≤ sizeLine := sz _ (by rw [len_mkS]; omega)
  have z2 : (mkS (nodeL (.inner ms [0, 9999, 149, 1]))).length ≤ sizeLine := sz _ (by rw [len_mkS]; omega)
  refine ⟨sz 2 (by decide), sz 4 (by decide), sz 3 (by decide), ?_⟩
  refine ⟨rfl, .leaf es, rfl, ok1, z1, rfl, .inner ms [0, 9999, 149, 1], rfl, ok2, z2, ?_⟩
  show (if decide ((w : Int) < (if ((mkS (nodeL (.inner ms [0, 9999, 149, 1]))).length : Int) > ((mkS (nodeL (.leaf es))).length : Int) then ((mkS (nodeL (.inner ms [0, 9999, 149, 1]))).length : Int) else ((mkS (nodeL (.leaf es))).length : Int))) = true then _ else _)
  rw [mk_len, mk_len]
  refine ite_d (fun hc => absurd hc (by split <;> omega)) (fun _ => ?_)
  refine ⟨rfl, .leaf es, rfl, ok1, rfl, .inner ms [0, 9999, 149, 1], rfl, ok2, sz 2 (by decide), rfl, .leaf es, rfl, ok1, rfl, .inner ms [0, 9999, 149, 1], rfl, ok2, sz 2 (by decide), rfl, .lst [.str (mkS (nodeL (.leaf es))), .str (mkS (nodeL (.inner ms [0, 9999, 149, 1])))], rfl, ?_, ?_⟩
  · simp [plainN]
  exact h _ (hs.mono (by omega))
theorem rd_law : Rd n_law 1 sp_law d_law := by
  rintro ds W Q Qx _ ⟨ns, rfl, hl, hb, h⟩
  show d_law _ [some (.sh (.scr ns)), none, none, none, none, none, none] W
  unfold d_law
  refine ⟨rfl, ns, rfl, hb, fun W1 p hs => ?_⟩
  have e8 : ∃ n : Nat, (if (ns.length : Int) < 8 then (ns.length : Int) else 8) = n ∧ n ≤ 8 := by
    split
    · exact ⟨ns.length, rfl, by omega⟩
    · exact ⟨8, rfl, by decide⟩
  obtain ⟨n8, e8, hn8⟩ := e8
  refine dFor_of (rng 0 (4 + n8)) (fun i ρ W' => FlowOk W' p (500 * i) ∧ ∃ x2 x3 x4 x5 x6 : Option Sl, ρ = [some (.sh (.scr ns)), some (.sh (.ref p)), x2, x3, x4, x5, x6])
    (fun P hP => ?_) ⟨hs, _, _, _, _, _, rfl⟩ (fun i d ρ W' hd hI => ?_) (fun ρ W' hI => h W')
  · have e : (4 : Int) + (if (ns.length : Int) < 8 then (ns.length : Int) else 8) = ((4 + n8 : Nat) : Int) := by rw [e8]; omega
    show -(2 ^ 62) ≤ (4 : Int) + (if (ns.length : Int) < 8 then (ns.length : Int) else 8) ∧ (4 : Int) + (if (ns.length : Int) < 8 then (ns.length : Int) else 8) < 2 ^ 62 ∧ P (rng 0 ((4 : Int) + (if (ns.length : Int) < 8 then (ns.length : Int) else 8)).toNat) _ _
    rw [e, Int.toNat_natCast]
    exact ⟨by omega, by omega, hP⟩
  obtain ⟨hs, x2, x3, x4, x5, x6, rfl⟩ := hI
  have hi : i < 12 := by have := (List.getElem?_eq_some_iff.mp hd).1; rw [rng_len] at this; omega
  refine ⟨rfl, p, _, rfl, hs, by omega, fun nd W2 hnd hs => ?_⟩
  obtain ⟨nl, np⟩ := node_len hnd
  have tk := told_ok hnd
  refine ⟨rfl, nd, rfl, hnd, ?_⟩
  refine ⟨rfl, nd, rfl, hnd, rfl, rfl, nd, rfl, hnd, rfl, nodeL nd, rfl, by omega, ?_⟩
  rw [tk]
  refine ⟨sz 3 (by decide), sz 3 (by decide), rfl, .lst [.str (mkS (nodeL nd)), .str (mkS (nodeL nd)), nodeD nd], rfl, ?_, ?_⟩
  · have np3 := node_plain hnd
    simp only [plainN]
    refine ⟨by simp, fun d hd => ?_⟩
    simp only [List.mem_cons, List.not_mem_nil, or_false] at hd
    rcases hd with rfl | rfl | rfl
    · simp [plainN]
    · simp [plainN]
    · exact np3
  refine hno ?_
  refine ⟨rfl, p, _, nodeL nd, rfl, hs, by omega, np, by omega, fun l1 W3 hp1 hl1 hs => ?_⟩
  refine ⟨rfl, p, _, l1, rfl, hs, by omega, hp1, by omega, fun l2 W4 hp2 hl2 hs => ?_⟩
  refine ⟨rfl, p, _, rfl, hs, by omega, fun l3 W5 hp3 hl3 hs => ?_⟩
  refine ⟨rfl, rfl, l2, rfl, by omega, rfl, l3, rfl, by omega, sz 2 (by decide), rfl, l2, rfl, by omega, hp2, rfl, l3, rfl, by omega, hp3, sz 2 (by decide), rfl, .lst [toldD l2, toldD l3], rfl, ?_, ?_⟩
  · have p2 := plain_told l2 (by omega)
    have p3 := plain_told l3 (by omega)
    simp only [plainN]
    refine ⟨by simp, fun d hd => ?_⟩
    simp only [List.mem_cons, List.not_mem_nil, or_false] at hd
    rcases hd with rfl | rfl
    · exact p2
    · exact p3
  refine hno ?_
  refine ⟨rfl, p, _, rfl, hs, by omega, fun W6 hs => ?_⟩
  refine hno ?_
  exact ⟨hs.mono (by omega), _, _, _, _, _, rfl⟩
end K07

namespace K07
open PySem PySem.Spec L2 G TL C
variable {P : Program} {w : World} {K : PySem.W.Frag} {mg : Str → Option Value} {base : Heap}
theorem ok_figures (T : Txt K mg)  : Cal P w K mg base 1 "figures" s_figures ["number", "many"] sp_figures :=
  calD T.f_figures sc_figures fun f cdv A outer s H E hr => ⟨d_figures, (gss_one (gs_ret (ge_strM PySem.F.slot_str_rjust PySem.F.type_str_rjust mt_rjust2 ms_rjust (ge_callTy call_str_int cs_str rfl T.b_str (by decide +kernel) (ga_cons (gv 0) ga_nil)) (ga_cons (gv 1) (ga_cons ge_str ga_nil))))), rd_figures⟩

theorem ok_number_in (T : Txt K mg)  : Cal P w K mg base 1 "number_in" s_number_in ["text", "at", "many"] sp_number_in :=
  calD T.f_number_in sc_number_in fun f cdv A outer s H E hr => ⟨d_number_in, (gss_cons (gs_set (i := 3) sc_number_in.nd rfl (Or.inl rfl) (ge_sl sl_any ss_cut (gv 0) (go_some (gv 1)) (go_some (ge_op op_addA rs_add (gv 1) (gv 2)))))
  (gss_cons (gs_if (GW.gt (gw_or (gt_cmp op_ltA rs_cmp (ge_callB call_len cs_len rfl T.b_len (by decide +kernel) (ga_cons (gv 3) ga_nil)) (gv 2) (nomark _)) (gw_or1 (gt_not (gt_val (ge_callB (cr_all rfl) cs_all rfl T.b_all (by decide +kernel) (ga_cons (GN.ge (gn_lc [("sign", 4)] rfl sc_number_in.nd (gi_str (gv 3)) (blkOk_by (own := [("sign", 4)]) (N := n_number_in) (sc := defScope s_number_in) (by decide +kernel)) (by decide) (fun _ _ _ _ _ => (gg_name (i := 4) sc_number_in.nd rfl (Or.inl rfl))) (fun _ _ _ _ _ => gts_nil) (fun _ _ _ _ _ => (ge_chain op_leA op_leA rs_cmp rs_cmp ge_str (gv 4) ge_str)))) ga_nil))))))) (gss_one (gs_ret (ge_neg ge_int))) gss_nil)
  (gss_one (gs_ret (ge_callTy call_intA cs_int rfl T.b_int (by decide +kernel) (ga_cons (gv 3) ga_nil)))))), rd_number_in⟩

theorem ok_entry_room (T : Txt K mg)  : Cal P w K mg base 1 "entry_room" s_entry_room ["signs"] sp_entry_room :=
  calD T.f_entry_room sc_entry_room fun f cdv A outer s H E hr => ⟨d_entry_room, (gss_one (gs_ret (ge_op op_sub rs_J (ge_op op_fdivW rs_I (ge_op op_sub rs_J (gv 0) ge_int) (ge_gc T.c_MOST_KIDS)) ge_int))), rd_entry_room⟩

theorem ok_node_text (T : Txt K mg) (C_figures : Cal P w K mg base 1 "figures" s_figures ["number", "many"] sp_figures) : Cal P w K mg base 2 "node_text" s_node_text ["node"] sp_node_text :=
  calD T.f_node_text sc_node_text fun f cdv A outer s H E hr => ⟨d_node_text, (gss_cons (gs_if (gt_cmp (op_eqA hr.units) rs_eq (ge_ix ix_seq rs_ix (gv 0) ge_int (fun _ _ => rfl)) ge_str (nomark _)) (gss_cons (gs_setLc (k := 1) [("key", 3), ("value", 4)] rfl sc_node_text.nd rfl rfl (sw_true rfl rfl rfl (by decide +kernel)) (gi_tup (ge_ix ix_seq rs_ix (gv 0) ge_int (fun _ _ => rfl))) (blkOk_by (own := [("key", 3), ("value", 4)]) (N := n_node_text) (sc := defScope s_node_text) (by decide +kernel)) (by decide) (fun _ _ _ _ _ => (gg_tup rfl (ggs_cons (gg_name (i := 3) sc_node_text.nd rfl (Or.inl rfl)) (ggs_cons (gg_name (i := 4) sc_node_text.nd rfl (Or.inl rfl)) ggs_nil)))) (fun _ _ _ _ _ => gts_nil) (fun _ _ _ _ _ => (ge_op op_addA rs_add (ge_op op_addA rs_add (ge_op op_addA rs_add (ge_c takes0 C_figures hr (by decide) (ga_cons (ge_callB call_len cs_len rfl T.b_len (by decide +kernel) (ga_cons (gv 3) ga_nil)) (ga_cons ge_int ga_nil))) (ge_c takes0 C_figures hr (by decide) (ga_cons (ge_callB call_len cs_len rfl T.b_len (by decide +kernel) (ga_cons (gv 4) ga_nil)) (ga_cons ge_int ga_nil)))) (gv 3)) (gv 4))))
  (gss_one (gs_ret (ge_op op_addA rs_add ge_str (ge_strM PySem.F.slot_str_join PySem.F.type_str_join mt_joinA ms_join ge_str (ga_cons (gv 1) ga_nil)))))) gss_nil)
  (gss_cons (gs_set (i := 2) sc_node_text.nd rfl (Or.inl rfl) (ge_strM PySem.F.slot_str_join PySem.F.type_str_join mt_joinA ms_join ge_str (ga_cons (GN.ge (gn_lc [("kid", 5)] rfl sc_node_text.nd (gi_tup (ge_ix ix_seq rs_ix (gv 0) ge_int (fun _ _ => rfl))) (blkOk_by (own := [("kid", 5)]) (N := n_node_text) (sc := defScope s_node_text) (by decide +kernel)) (by decide) (fun _ _ _ _ _ => (gg_name (i := 5) sc_node_text.nd rfl (Or.inl rfl))) (fun _ _ _ _ _ => gts_nil) (fun _ _ _ _ _ => (ge_c takes0 C_figures hr (by decide) (ga_cons (gv 5) (ga_cons ge_int ga_nil)))))) ga_nil)))
  (gss_one (gs_ret (ge_op op_addA rs_add (ge_op op_addA rs_add (ge_op op_addA rs_add ge_str (ge_callTy call_str_int cs_str rfl T.b_str (by decide +kernel) (ga_cons (ge_callB call_len cs_len rfl T.b_len (by decide +kernel) (ga_cons (ge_ix ix_seq rs_ix (gv 0) ge_int (fun _ _ => rfl)) ga_nil)) ga_nil))) (gv 2)) (ge_strM PySem.F.slot_str_join PySem.F.type_str_join mt_joinA ms_join ge_str (ga_cons (GN.ge (gn_lc [("mark", 6)] rfl sc_node_text.nd (gi_tup (ge_ix ix_seq rs_ix (gv 0) ge_int (fun _ _ => rfl))) (blkOk_by (own := [("mark", 6)]) (N := n_node_text) (sc := defScope s_node_text) (by decide +kernel)) (by decide) (fun _ _ _ _ _ => (gg_name (i := 6) sc_node_text.nd rfl (Or.inl rfl))) (fun _ _ _ _ _ => gts_nil) (fun _ _ _ _ _ => (ge_op op_addA rs_add (ge_c takes0 C_figures hr (by decide) (ga_cons (ge_callB call_len cs_len rfl T.b_len (by decide +kernel) (ga_cons (gv 6) ga_nil)) (ga_cons ge_int ga_nil))) (gv 6))))) ga_nil))))))), rd_node_text⟩

theorem ok_text_in (T : Txt K mg)  : Cal P w K mg base 1 "text_in" s_text_in ["text", "at", "long"] sp_text_in :=
  calD T.f_text_in sc_text_in fun f cdv A outer s H E hr => ⟨d_text_in, (gss_one (gs_ret (ge_if (GW.gt (gw_and (gt_cmp op_geA rs_cmp (gv 2) ge_int (nomark _)) (gw_and1 (gt_cmp op_leA rs_cmp (ge_op op_addA rs_add (gv 1) (gv 2)) (ge_callB call_len cs_len rfl T.b_len (by decide +kernel) (ga_cons (gv 0) ga_nil)) (nomark _))))) (ge_sl sl_any ss_cut (gv 0) (go_some (gv 1)) (go_some (ge_op op_addA rs_add (gv 1) (gv 2)))) ge_non))), rd_text_in⟩

theorem ok_leaf_told (T : Txt K mg) (C_text_in : Cal P w K mg base 1 "text_in" s_text_in ["text", "at", "long"] sp_text_in) (C_number_in : Cal P w K mg base 1 "number_in" s_number_in ["text", "at", "many"] sp_number_in) : Cal P w K mg base 2 "leaf_told" s_leaf_told ["text"] sp_leaf_told :=
  calD T.f_leaf_told sc_leaf_told fun f cdv A outer s H E hr => ⟨d_leaf_told, (gss_cons (gs_asg (ge_tup (ga_cons (ge_tup ga_nil) (ga_cons ge_int ga_nil))) (gg_tup rfl (ggs_cons (gg_name (i := 1) sc_leaf_told.nd rfl (Or.inl rfl)) (ggs_cons (gg_name (i := 2) sc_leaf_told.nd rfl (Or.inl rfl)) ggs_nil))))
  (gss_cons (gs_while (passes_of rfl) (gt_cmp op_ltA rs_cmp (gv 2) (ge_callB call_len cs_len rfl T.b_len (by decide +kernel) (ga_cons (gv 0) ga_nil)) (nomark _))
  (gss_cons (gs_set (i := 3) sc_leaf_told.nd rfl (Or.inl rfl) (ge_c (takes_of rfl rfl rfl rfl) C_text_in hr (by decide) (ga_cons (gv 0) (ga_cons (ge_op op_addA rs_add (gv 2) ge_int) (ga_cons (ge_c (takes_of rfl rfl rfl rfl) C_number_in hr (by decide) (ga_cons (gv 0) (ga_cons (gv 2) (ga_cons ge_int ga_nil)))) ga_nil)))))
  (gss_cons (gs_if (gt_cmp op_isN rs_isN (gv 3) ge_non (nomark _)) (gss_one (gs_ret ge_non)) gss_nil)
  (gss_cons (gs_set (i := 4) sc_leaf_told.nd rfl (Or.inl rfl) (ge_c (takes_of rfl rfl rfl rfl) C_text_in hr (by decide) (ga_cons (gv 0) (ga_cons (ge_op op_addA rs_add (ge_op op_addA rs_add (gv 2) ge_int) (ge_callB call_len cs_len rfl T.b_len (by decide +kernel) (ga_cons (gv 3) ga_nil))) (ga_cons (ge_c (takes_of rfl rfl rfl rfl) C_number_in hr (by decide) (ga_cons (gv 0) (ga_cons (ge_op op_addA rs_add (gv 2) ge_int) (ga_cons ge_int ga_nil)))) ga_nil)))))
  (gss_cons (gs_if (gt_cmp op_isN rs_isN (gv 4) ge_non (nomark _)) (gss_one (gs_ret ge_non)) gss_nil)
  (gss_cons (gs_set (i := 1) sc_leaf_told.nd rfl (Or.inl rfl) (ge_op op_addA rs_add (gv 1) (ge_tup (ga_cons (ge_tup (ga_cons (gv 3) (ga_cons (gv 4) ga_nil))) ga_nil))))
  (gss_one (gs_aug (i := 2) sc_leaf_told.nd rfl (Or.inl rfl) (ge_op op_addA rs_add (ge_op op_addA rs_add ge_int (ge_callB call_len cs_len rfl T.b_len (by decide +kernel) (ga_cons (gv 3) ga_nil))) (ge_callB call_len cs_len rfl T.b_len (by decide +kernel) (ga_cons (gv 4) ga_nil))) op_iadd rs_ip))))))))
  (gss_one (gs_ret (gv 1))))), rd_leaf_told⟩

theorem ok_inner_told (T : Txt K mg) (C_number_in : Cal P w K mg base 1 "number_in" s_number_in ["text", "at", "many"] sp_number_in) (C_text_in : Cal P w K mg base 1 "text_in" s_text_in ["text", "at", "long"] sp_text_in) : Cal P w K mg base 2 "inner_told" s_inner_told ["text"] sp_inner_told :=
  calD T.f_inner_told sc_inner_told fun f cdv A outer s H E hr => ⟨d_inner_told, (gss_cons (gs_set (i := 1) sc_inner_told.nd rfl (Or.inl rfl) (ge_c (takes_of rfl rfl rfl rfl) C_number_in hr (by decide) (ga_cons (gv 0) (ga_cons ge_int (ga_cons ge_int ga_nil)))))
  (gss_cons (gs_set (i := 2) sc_inner_told.nd rfl (Or.inl rfl) (ge_callTy call_tuple_of cs_tup rfl T.b_tuple (by decide +kernel) (ga_cons (GN.ge (gn_lc [("k", 5)] rfl sc_inner_told.nd (gi_range1 rfl T.b_range (ga_cons (ge_callB (call_max2 rfl) cs_2 rfl T.b_max (by decide +kernel) (ga_cons ge_int (ga_cons (gv 1) ga_nil))) ga_nil)) (blkOk_by (own := [("k", 5)]) (N := n_inner_told) (sc := defScope s_inner_told) (by decide +kernel)) (by decide) (fun _ _ _ _ _ => (gg_name (i := 5) sc_inner_told.nd rfl (Or.inl rfl))) (fun _ _ _ _ _ => gts_nil) (fun _ _ _ _ _ => (ge_c takes0 C_number_in hr (by decide) (ga_cons (gv 0) (ga_cons (ge_op op_addA rs_add ge_int (ge_op op_mulAll rs_mulA ge_int (gv 5))) (ga_cons ge_int ga_nil))))))) ga_nil)))
  (gss_cons (gs_par (i := 3) (j := 4) rfl sc_inner_told.nd rfl rfl (by decide) rfl rfl (ga_cons (ge_tup ga_nil) (ga_cons (ge_op op_addA rs_add ge_int (ge_op op_mulAll rs_mulA ge_int (gv 1))) ga_nil)) rfl)
  (gss_cons (gs_if (GW.gt (gw_or (gt_cmp op_ltA rs_cmp (gv 1) ge_int (nomark _)) (gw_or1 (gt_cmp op_ltA rs_cmp (ge_callB (cr_minA rfl) cs_min1A rfl T.b_min (by decide +kernel) (ga_cons (gv 2) ga_nil)) ge_int (nomark _))))) (gss_one (gs_ret ge_non)) gss_nil)
  (gss_cons (gs_for (passes_of rfl) rfl (gi_range1 rfl T.b_range (ga_cons (ge_op op_sub rs_J (gv 1) ge_int) ga_nil)) (gg_name (i := 5) sc_inner_told.nd rfl (Or.inl rfl))
  (gss_cons (gs_set (i := 6) sc_inner_told.nd rfl (Or.inl rfl) (ge_c (takes_of rfl rfl rfl rfl) C_text_in hr (by decide) (ga_cons (gv 0) (ga_cons (ge_op op_addA rs_add (gv 4) ge_int) (ga_cons (ge_c (takes_of rfl rfl rfl rfl) C_number_in hr (by decide) (ga_cons (gv 0) (ga_cons (gv 4) (ga_cons ge_int ga_nil)))) ga_nil)))))
  (gss_cons (gs_if (gt_cmp op_isN rs_isN (gv 6) ge_non (nomark _)) (gss_one (gs_ret ge_non)) gss_nil)
  (gss_cons (gs_set (i := 3) sc_inner_told.nd rfl (Or.inl rfl) (ge_op op_addA rs_add (gv 3) (ge_tup (ga_cons (gv 6) ga_nil))))
  (gss_one (gs_aug (i := 4) sc_inner_told.nd rfl (Or.inl rfl) (ge_op op_addA rs_add ge_int (ge_callB call_len cs_len rfl T.b_len (by decide +kernel) (ga_cons (gv 6) ga_nil))) op_iadd rs_ip))))))
  (gss_one (gs_ret (ge_if (gt_cmp (op_eqA hr.units) rs_eq (gv 4) (ge_callB call_len cs_len rfl T.b_len (by decide +kernel) (ga_cons (gv 0) ga_nil)) (nomark _)) (ge_tup (ga_cons (gv 3) (ga_cons (gv 2) ga_nil))) ge_non)))))))), rd_inner_told⟩

theorem ok_node_told (T : Txt K mg) (C_leaf_told : Cal P w K mg base 2 "leaf_told" s_leaf_told ["text"] sp_leaf_told) (C_inner_told : Cal P w K mg base 2 "inner_told" s_inner_told ["text"] sp_inner_told) : Cal P w K mg base 3 "node_told" s_node_told ["text"] sp_node_told :=
  calD T.f_node_told sc_node_told fun f cdv A outer s H E hr => ⟨d_node_told, (gss_cons (gs_if (gt_cmp (op_eqA hr.units) rs_eq (ge_sl sl_any ss_cut (gv 0) go_none (go_some ge_int)) ge_str (nomark _)) (gss_cons (gs_set (i := 1) sc_node_told.nd rfl (Or.inl rfl) (ge_c (takes_of rfl rfl rfl rfl) C_leaf_told hr (by decide) (ga_cons (gv 0) ga_nil)))
  (gss_one (gs_ret (ge_if (gt_cmp op_notN rs_notN (gv 1) ge_non (nomark _)) (ge_tup (ga_cons ge_str (ga_cons (gv 1) ga_nil))) ge_non)))) gss_nil)
  (gss_cons (gs_set (i := 2) sc_node_told.nd rfl (Or.inl rfl) (ge_if (gt_cmp (op_eqA hr.units) rs_eq (ge_sl sl_any ss_cut (gv 0) go_none (go_some ge_int)) ge_str (nomark _)) (ge_c (takes_of rfl rfl rfl rfl) C_inner_told hr (by decide) (ga_cons (gv 0) ga_nil)) ge_non))
  (gss_one (gs_ret (ge_if (gt_cmp op_notN rs_notN (gv 2) ge_non (nomark _)) (ge_tup (ga_cons ge_str (ga_cons (ge_ix ix_seq rs_ix (gv 2) ge_int (fun _ _ => rfl)) (ga_cons (ge_ix ix_seq rs_ix (gv 2) ge_int (fun _ _ => rfl)) ga_nil)))) ge_non))))), rd_node_told⟩

theorem ok_law_flow (T : Txt K mg)  : Cal P w K mg base 1 "_law_flow" s_law_flow ["script"] sp_law_flow :=
  calD T.f_law_flow sc_law_flow fun f cdv A outer s H E hr => ⟨d_law_flow, (gss_one (gs_retW (gn_lst (ga_cons (ge_newW (gn_list rfl T.b_list (by decide +kernel) (gv 0))) (ga_cons ge_int (ga_cons ge_int (ga_cons ge_int ga_nil))))))), rd_law_flow⟩

theorem ok_law_draw (T : Txt K mg)  : Cal P w K mg base 1 "_law_draw" s_law_draw ["flow", "many"] sp_law_draw :=
  calD T.f_law_draw sc_law_draw fun f cdv A outer s H E hr => ⟨d_law_draw, (gss_cons (gs_if (GW.gt (gw_and (gt_cmp (op_eqA hr.units) rs_eq (ge_ixW (gv 0) ge_int (fun _ _ => rfl)) ge_int (nomark _)) (gw_and1 (gt_neW hr.units (ge_ixW (gv 0) ge_int (fun _ _ => rfl)) (ge_lst ga_nil) (nomark _))))) (gss_cons (gs_set (i := 2) sc_law_draw.nd rfl (Or.inl rfl) (ge_callTy call_intA cs_int rfl T.b_int (by decide +kernel) (ga_cons (ge_popE (ge_ixW (gv 0) ge_int (fun _ _ => rfl)) ge_int) ga_nil)))
  (gss_cons (gs_setW (ge_callB (call_max2 rfl) cs_2 rfl T.b_max (by decide +kernel) (ga_cons ge_int (ga_cons (ge_op op_sub rs_J (ge_callB call_abs cs_abs rfl T.b_abs (by decide +kernel) (ga_cons (gv 2) ga_nil)) (ge_op op_pow rs_I ge_int ge_int)) ga_nil))) (gv 0) ge_int)
  (gss_one (gs_setW (ge_op op_mod rs_I (ge_callTy call_intA cs_int rfl T.b_int (by decide +kernel) (ga_cons (ge_op op_addA rs_add (ge_op op_mulAll rs_mulA (ge_ixW (gv 0) ge_int (fun _ _ => rfl)) ge_int) (gv 2)) ga_nil)) ge_int) (gv 0) ge_int)))) gss_nil)
  (gss_cons (gs_if (gt_cmp op_gtA rs_cmp (ge_ixW (gv 0) ge_int (fun _ _ => rfl)) ge_int (nomark _)) (gss_cons (gs_set (i := 3) sc_law_draw.nd rfl (Or.inl rfl) (ge_op op_fdivW rs_I (ge_ixW (gv 0) ge_int (fun _ _ => rfl)) (gv 1)))
  (gss_cons (gs_set (i := 4) sc_law_draw.nd rfl (Or.inl rfl) (ge_op op_sub rs_J (ge_ixW (gv 0) ge_int (fun _ _ => rfl)) (ge_op op_mulAll rs_mulA (gv 3) (gv 1))))
  (gss_cons (gs_setW (gv 3) (gv 0) ge_int)
  (gss_one (gs_ret (gv 4)))))) gss_nil)
  (gss_cons (gs_setW (ge_op op_addA rs_add (ge_ixW (gv 0) ge_int (fun _ _ => rfl)) ge_int) (gv 0) ge_int)
  (gss_cons (gs_set (i := 5) sc_law_draw.nd rfl (Or.inl rfl) (ge_ixW (gv 0) ge_int (fun _ _ => rfl)))
  (gss_cons (gs_set (i := 6) sc_law_draw.nd rfl (Or.inl rfl) (ge_op op_mod rs_I (ge_callTy call_intA cs_int rfl T.b_int (by decide +kernel) (ga_cons (ge_op op_addA rs_add (ge_op op_addA rs_add (ge_op op_addA rs_add (ge_ixW (gv 0) ge_int (fun _ _ => rfl)) (ge_op op_mulAll rs_mulA (ge_op op_mulAll rs_mulA ge_int (gv 5)) (gv 5))) (ge_op op_mulAll rs_mulA ge_int (gv 5))) ge_int) ga_nil)) ge_int))
  (gss_cons (gs_set (i := 6) sc_law_draw.nd rfl (Or.inl rfl) (ge_op op_fdivW rs_I (ge_op op_mod rs_I (ge_callTy call_intA cs_int rfl T.b_int (by decide +kernel) (ga_cons (ge_op op_addA rs_add (ge_op op_addA rs_add (ge_op op_mulAll rs_mulA (gv 6) (gv 6)) (ge_op op_mulAll rs_mulA ge_int (gv 5))) ge_int) ga_nil)) ge_int) ge_int))
  (gss_cons (gs_set (i := 6) sc_law_draw.nd rfl (Or.inl rfl) (ge_op op_fdivW rs_I (ge_op op_mod rs_I (ge_callTy call_intA cs_int rfl T.b_int (by decide +kernel) (ga_cons (ge_op op_addA rs_add (ge_op op_mulAll rs_mulA (gv 6) (gv 6)) (ge_op op_mulAll rs_mulA ge_int (gv 5))) ga_nil)) ge_int) ge_int))
  (gss_one (gs_ret (ge_op op_mod rs_I (ge_callTy call_intA cs_int rfl T.b_int (by decide +kernel) (ga_cons (gv 6) ga_nil)) (gv 1))))))))))), rd_law_draw⟩

theorem ok_law_sign (T : Txt K mg) (C_law_draw : Cal P w K mg base 1 "_law_draw" s_law_draw ["flow", "many"] sp_law_draw) : Cal P w K mg base 2 "_law_sign" s_law_sign ["flow"] sp_law_sign :=
  calD T.f_law_sign sc_law_sign fun f cdv A outer s H E hr => ⟨d_law_sign, (gss_cons (gs_set (i := 1) sc_law_sign.nd rfl (Or.inl rfl) ge_str)
  (gss_cons (gs_set (i := 1) sc_law_sign.nd rfl (Or.inl rfl) (ge_op op_addA rs_add (gv 1) ge_str))
  (gss_one (gs_ret (ge_ix ix_seq rs_ix (gv 1) (ge_c (takes_of rfl rfl rfl rfl) C_law_draw hr (by decide) (ga_cons (gv 0) (ga_cons ge_int ga_nil))) (fun _ _ => rfl)))))), rd_law_sign⟩

theorem ok_law_text (T : Txt K mg) (C_law_draw : Cal P w K mg base 1 "_law_draw" s_law_draw ["flow", "many"] sp_law_draw) (C_law_sign : Cal P w K mg base 2 "_law_sign" s_law_sign ["flow"] sp_law_sign) : Cal P w K mg base 3 "_law_text" s_law_text ["flow", "most"] sp_law_text :=
  calD T.f_law_text sc_law_text fun f cdv A outer s H E hr => ⟨d_law_text, (gss_cons (gs_set (i := 2) sc_law_text.nd rfl (Or.inl rfl) (ge_ix ix_seq rs_ix (ge_lst (ga_cons (ge_callB (call_min2 rfl) cs_2 rfl T.b_min (by decide +kernel) (ga_cons (gv 1) (ga_cons ge_int ga_nil))) (ga_cons (gv 1) ga_nil))) (ge_c (takes_of rfl rfl rfl rfl) C_law_draw hr (by decide) (ga_cons (gv 0) (ga_cons ge_int ga_nil))) (fun _ _ => rfl)))
  (gss_cons (gs_set (i := 3) sc_law_text.nd rfl (Or.inl rfl) (ge_c (takes_of rfl rfl rfl rfl) C_law_draw hr (by decide) (ga_cons (gv 0) (ga_cons (ge_op op_addA rs_add (gv 2) ge_int) ga_nil))))
  (gss_cons (gs_set (i := 4) sc_law_text.nd rfl (Or.inl rfl) (ge_strM PySem.F.slot_str_join PySem.F.type_str_join mt_joinA ms_join ge_str (ga_cons (GN.ge (gn_lc [("k", 7)] rfl sc_law_text.nd (gi_range1 rfl T.b_range (ga_cons (ge_op op_addA rs_add ge_int (ge_c (takes_of rfl rfl rfl rfl) C_law_draw hr (by decide) (ga_cons (gv 0) (ga_cons ge_int ga_nil)))) ga_nil)) (blkOk_by (own := [("k", 7)]) (N := n_law_text) (sc := defScope s_law_text) (by decide +kernel)) (by decide) (fun _ _ _ _ _ => (gg_name (i := 7) sc_law_text.nd rfl (Or.inl rfl))) (fun _ _ _ _ _ => gts_nil) (fun _ _ _ _ _ => (ge_c takes0 C_law_sign hr (by decide) (ga_cons (gv 0) ga_nil))))) ga_nil)))
  (gss_cons (gs_set (i := 5) sc_law_text.nd rfl (Or.inl rfl) (ge_sl sl_any ss_cut (ge_op op_mulAll rs_mulA (gv 4) (ge_op op_addA rs_add (gv 3) ge_int)) go_none (go_some (gv 3))))
  (gss_cons (gs_set (i := 6) sc_law_text.nd rfl (Or.inl rfl) (ge_c (takes_of rfl rfl rfl rfl) C_law_draw hr (by decide) (ga_cons (gv 0) (ga_cons (ge_op op_addA rs_add (gv 3) ge_int) ga_nil))))
  (gss_one (gs_ret (ge_op op_addA rs_add (ge_op op_addA rs_add (ge_sl sl_any ss_cut (gv 5) go_none (go_some (gv 6))) (ge_op op_mulAll rs_mulA (ge_c (takes_of rfl rfl rfl rfl) C_law_sign hr (by decide) (ga_cons (gv 0) ga_nil)) (ge_callB (call_min2 rfl) cs_2 rfl T.b_min (by decide +kernel) (ga_cons ge_int (ga_cons (ge_op op_sub rs_J (gv 3) (gv 6)) ga_nil))))) (ge_sl sl_any ss_cut (gv 5) (go_some (ge_op op_addA rs_add (gv 6) ge_int)) go_none))))))))), rd_law_text⟩

theorem step_law_same (T : Txt K mg)  {k : Nat} {sp0 sp1 : SpD} (C_law_same : Cal P w K mg base k "_law_same" s_law_same ["found", "due"] sp0) (hk : 0 ≤ k) (rd : ∀ ds W Qd Qx, ds.length = 2 → sp1 ds W Qd Qx → d_law_same sp0 { nx := fun _ W' => Qd .non W', rt := Qd, ex := fun cls x _ W' => Qx cls x W' } (ds.map (fun d => some (Sl.sh d)) ++ List.replicate (n_law_same.length - ds.length) none) W) : Cal P w K mg base (k + 1) "_law_same" s_law_same ["found", "due"] sp1 :=
  calD T.f_law_same sc_law_same fun f cdv A outer s H E hr => ⟨d_law_same sp0, (gss_cons (gs_if (gt_cmp op_isN rs_isN (gv 1) ge_non (nomark _)) (gss_one (gs_ret (ge_cmp op_isN rs_isN (gv 0) ge_non (nomark _)))) gss_nil)
  (gss_cons (gs_if (gt_val (ge_callB call_isi cs_isi rfl T.b_isinstance (by decide +kernel) (ga_cons (gv 1) (ga_cons (ge_ty T.b_bool (by decide +kernel)) ga_nil)))) (gss_one (gs_ret (ge_and (ge_callB call_isi cs_isi rfl T.b_isinstance (by decide +kernel) (ga_cons (gv 0) (ga_cons (ge_ty T.b_bool (by decide +kernel)) ga_nil))) (ge_one (ge_cmp (op_eqA hr.units) rs_eq (gv 0) (gv 1) (nomark _)))))) gss_nil)
  (gss_cons (gs_if (gt_val (ge_callB call_isi cs_isi rfl T.b_isinstance (by decide +kernel) (ga_cons (gv 1) (ga_cons (ge_ty T.b_int (by decide +kernel)) ga_nil)))) (gss_one (gs_ret (ge_and (ge_callB call_isi cs_isi rfl T.b_isinstance (by decide +kernel) (ga_cons (gv 0) (ga_cons (ge_ty T.b_int (by decide +kernel)) ga_nil))) (ge_and (ge_not (ge_callB call_isi cs_isi rfl T.b_isinstance (by decide +kernel) (ga_cons (gv 0) (ga_cons (ge_ty T.b_bool (by decide +kernel)) ga_nil)))) (ge_one (ge_cmp (op_eqA hr.units) rs_eq (gv 0) (gv 1) (nomark _))))))) gss_nil)
  (gss_cons (gs_if (gt_val (ge_callB call_isi cs_isi rfl T.b_isinstance (by decide +kernel) (ga_cons (gv 1) (ga_cons (ge_ty T.b_str (by decide +kernel)) ga_nil)))) (gss_one (gs_ret (ge_and (ge_callB call_isi cs_isi rfl T.b_isinstance (by decide +kernel) (ga_cons (gv 0) (ga_cons (ge_ty T.b_str (by decide +kernel)) ga_nil))) (ge_one (ge_cmp (op_eqA hr.units) rs_eq (gv 0) (gv 1) (nomark _)))))) gss_nil)
  (gss_cons (gs_if (GW.gt (gw_or (gt_cmp (op_neA hr.units) rs_ne (ge_callB call_isi cs_isi rfl T.b_isinstance (by decide +kernel) (ga_cons (gv 1) (ga_cons (ge_ty T.b_list (by decide +kernel)) ga_nil))) (ge_callB call_isi cs_isi rfl T.b_isinstance (by decide +kernel) (ga_cons (gv 0) (ga_cons (ge_ty T.b_list (by decide +kernel)) ga_nil))) (nomark _)) (gw_or1 (gt_cmp (op_neA hr.units) rs_ne (ge_callB call_isi cs_isi rfl T.b_isinstance (by decide +kernel) (ga_cons (gv 1) (ga_cons (ge_ty T.b_tuple (by decide +kernel)) ga_nil))) (ge_callB call_isi cs_isi rfl T.b_isinstance (by decide +kernel) (ga_cons (gv 0) (ga_cons (ge_ty T.b_tuple (by decide +kernel)) ga_nil))) (nomark _))))) (gss_one (gs_ret ge_bl)) gss_nil)
  (gss_one (gs_ret (ge_and (ge_cmp (op_eqA hr.units) rs_eq (ge_callB call_len cs_len rfl T.b_len (by decide +kernel) (ga_cons (gv 0) ga_nil)) (ge_callB call_len cs_len rfl T.b_len (by decide +kernel) (ga_cons (gv 1) ga_nil)) (nomark _)) (ge_one (ge_cmp (op_eqA hr.units) rs_eq (GN.ge (gn_lc [("k", 2)] rfl sc_law_same.nd (gi_range1 rfl T.b_range (ga_cons (ge_callB call_len cs_len rfl T.b_len (by decide +kernel) (ga_cons (gv 1) ga_nil)) ga_nil)) (blkOk_by (own := [("k", 2)]) (N := n_law_same) (sc := defScope s_law_same) (by decide +kernel)) (by decide) (fun _ _ _ _ _ => (gg_name (i := 2) sc_law_same.nd rfl (Or.inl rfl))) (fun _ _ _ _ _ => (gts_one (gt_not (gt_val (ge_c takes0 C_law_same hr (Nat.le_refl _) (ga_cons (ge_ix ix_seq rs_ix (gv 0) (gv 2) (fun _ _ => rfl)) (ga_cons (ge_ix ix_seq rs_ix (gv 1) (gv 2) (fun _ _ => rfl)) ga_nil))))))) (fun _ _ _ _ _ => (gv 2)))) (ge_lst ga_nil) (nomark _))))))))))), rd⟩
theorem ok_law_same (T : Txt K mg)  : Cal P w K mg base 6 "_law_same" s_law_same ["found", "due"] sp_law_same := by
  have c0 := step_law_same (P := P) (w := w) (base := base) T  (cal_no (k := 1) T.f_law_same) (by decide) (rdn_law_same 0 spNo fun m h => by cases h)
  have c1 := step_law_same T  c0 (by decide) (rdn_law_same 1 (spn_law_same 0) fun m h => by cases h; rfl)
  have c2 := step_law_same T  c1 (by decide) (rdn_law_same 2 (spn_law_same 1) fun m h => by cases h; rfl)
  have c3 := step_law_same T  c2 (by decide) (rdn_law_same 3 (spn_law_same 2) fun m h => by cases h; rfl)
  have c4 := step_law_same T  c3 (by decide) (rdn_law_same 4 (spn_law_same 3) fun m h => by cases h; rfl)
  exact c4

theorem ok_law_part (T : Txt K mg)  : Cal P w K mg base 1 "_law_part" s_law_part ["text", "at", "many"] sp_law_part :=
  calD T.f_law_part sc_law_part fun f cdv A outer s H E hr => ⟨d_law_part, (gss_cons (gs_set (i := 3) sc_law_part.nd rfl (Or.inl rfl) (ge_sl sl_any ss_cut (gv 0) (go_some (gv 1)) (go_some (ge_op op_addA rs_add (gv 1) (gv 2)))))
  (gss_cons (gs_if (GW.gt (gw_or (gt_cmp op_ltA rs_cmp (ge_callB call_len cs_len rfl T.b_len (by decide +kernel) (ga_cons (gv 3) ga_nil)) (gv 2) (nomark _)) (gw_or1 (gt_cmp (op_neA hr.units) rs_ne (GN.ge (gn_lc [("sign", 4)] rfl sc_law_part.nd (gi_str (gv 3)) (blkOk_by (own := [("sign", 4)]) (N := n_law_part) (sc := defScope s_law_part) (by decide +kernel)) (by decide) (fun _ _ _ _ _ => (gg_name (i := 4) sc_law_part.nd rfl (Or.inl rfl))) (fun _ _ _ _ _ => (gts_one (gt_cmp op_niA rs_in (gv 4) ge_str rfl))) (fun _ _ _ _ _ => (gv 4)))) (ge_lst ga_nil) (nomark _))))) (gss_one (gs_ret (ge_neg ge_int))) gss_nil)
  (gss_one (gs_ret (ge_callTy call_intA cs_int rfl T.b_int (by decide +kernel) (ga_cons (gv 3) ga_nil)))))), rd_law_part⟩

theorem ok_law_node_text (T : Txt K mg)  : Cal P w K mg base 1 "_law_node_text" s_law_node_text ["node"] sp_law_node_text :=
  calD T.f_law_node_text sc_law_node_text fun f cdv A outer s H E hr => ⟨d_law_node_text, (gss_cons (gs_if (gt_cmp (op_eqA hr.units) rs_eq (ge_ix ix_seq rs_ix (gv 0) ge_int (fun _ _ => rfl)) ge_str (nomark _)) (gss_cons (gs_setLc (k := 1) [("key", 3), ("value", 4)] rfl sc_law_node_text.nd rfl rfl (sw_true rfl rfl rfl (by decide +kernel)) (gi_tup (ge_ix ix_seq rs_ix (gv 0) ge_int (fun _ _ => rfl))) (blkOk_by (own := [("key", 3), ("value", 4)]) (N := n_law_node_text) (sc := defScope s_law_node_text) (by decide +kernel)) (by decide) (fun _ _ _ _ _ => (gg_tup rfl (ggs_cons (gg_name (i := 3) sc_law_node_text.nd rfl (Or.inl rfl)) (ggs_cons (gg_name (i := 4) sc_law_node_text.nd rfl (Or.inl rfl)) ggs_nil)))) (fun _ _ _ _ _ => gts_nil) (fun _ _ _ _ _ => (ge_op op_addA rs_add (ge_op op_addA rs_add (ge_op op_addA rs_add (ge_strM PySem.F.slot_str_zfill PySem.F.type_str_zfill mt_zfill ms_I (ge_callTy call_str_int cs_str rfl T.b_str (by decide +kernel) (ga_cons (ge_callB call_len cs_len rfl T.b_len (by decide +kernel) (ga_cons (gv 3) ga_nil)) ga_nil)) (ga_cons ge_int ga_nil)) (ge_strM PySem.F.slot_str_zfill PySem.F.type_str_zfill mt_zfill ms_I (ge_callTy call_str_int cs_str rfl T.b_str (by decide +kernel) (ga_cons (ge_callB call_len cs_len rfl T.b_len (by decide +kernel) (ga_cons (gv 4) ga_nil)) ga_nil)) (ga_cons ge_int ga_nil))) (gv 3)) (gv 4))))
  (gss_one (gs_ret (ge_op op_addA rs_add ge_str (ge_strM PySem.F.slot_str_join PySem.F.type_str_join mt_joinA ms_join ge_str (ga_cons (gv 1) ga_nil)))))) gss_nil)
  (gss_cons (gs_set (i := 2) sc_law_node_text.nd rfl (Or.inl rfl) (ge_strM PySem.F.slot_str_join PySem.F.type_str_join mt_joinA ms_join ge_str (ga_cons (GN.ge (gn_lc [("kid", 5)] rfl sc_law_node_text.nd (gi_tup (ge_ix ix_seq rs_ix (gv 0) ge_int (fun _ _ => rfl))) (blkOk_by (own := [("kid", 5)]) (N := n_law_node_text) (sc := defScope s_law_node_text) (by decide +kernel)) (by decide) (fun _ _ _ _ _ => (gg_name (i := 5) sc_law_node_text.nd rfl (Or.inl rfl))) (fun _ _ _ _ _ => gts_nil) (fun _ _ _ _ _ => (ge_strM PySem.F.slot_str_zfill PySem.F.type_str_zfill mt_zfill ms_I (ge_callTy call_str_int cs_str rfl T.b_str (by decide +kernel) (ga_cons (gv 5) ga_nil)) (ga_cons ge_int ga_nil))))) ga_nil)))
  (gss_one (gs_ret (ge_op op_addA rs_add (ge_op op_addA rs_add (ge_op op_addA rs_add ge_str (ge_callTy call_str_int cs_str rfl T.b_str (by decide +kernel) (ga_cons (ge_callB call_len cs_len rfl T.b_len (by decide +kernel) (ga_cons (ge_ix ix_seq rs_ix (gv 0) ge_int (fun _ _ => rfl)) ga_nil)) ga_nil))) (gv 2)) (ge_strM PySem.F.slot_str_join PySem.F.type_str_join mt_joinA ms_join ge_str (ga_cons (GN.ge (gn_lc [("mark", 6)] rfl sc_law_node_text.nd (gi_tup (ge_ix ix_seq rs_ix (gv 0) ge_int (fun _ _ => rfl))) (blkOk_by (own := [("mark", 6)]) (N := n_law_node_text) (sc := defScope s_law_node_text) (by decide +kernel)) (by decide) (fun _ _ _ _ _ => (gg_name (i := 6) sc_law_node_text.nd rfl (Or.inl rfl))) (fun _ _ _ _ _ => gts_nil) (fun _ _ _ _ _ => (ge_op op_addA rs_add (ge_strM PySem.F.slot_str_zfill PySem.F.type_str_zfill mt_zfill ms_I (ge_callTy call_str_int cs_str rfl T.b_str (by decide +kernel) (ga_cons (ge_callB call_len cs_len rfl T.b_len (by decide +kernel) (ga_cons (gv 6) ga_nil)) ga_nil)) (ga_cons ge_int ga_nil)) (gv 6))))) ga_nil))))))), rd_law_node_text⟩

theorem ok_law_leaf_told (T : Txt K mg) (C_law_part : Cal P w K mg base 1 "_law_part" s_law_part ["text", "at", "many"] sp_law_part) : Cal P w K mg base 2 "_law_leaf_told" s_law_leaf_told ["text"] sp_law_leaf_told :=
  calD T.f_law_leaf_told sc_law_leaf_told fun f cdv A outer s H E hr => ⟨d_law_leaf_told, (gss_cons (gs_parO1 (i := 1) (j := 2) rfl sc_law_leaf_told.nd rfl rfl (by decide) rfl rfl (gn_lst ga_nil) ge_int rfl)
  (gss_cons (gs_while (passes_of rfl) (gt_cmp op_ltA rs_cmp (gv 2) (ge_callB call_len cs_len rfl T.b_len (by decide +kernel) (ga_cons (gv 0) ga_nil)) (nomark _))
  (gss_cons (gs_par (i := 3) (j := 4) rfl sc_law_leaf_told.nd rfl rfl (by decide) rfl rfl (ga_cons (ge_c (takes_of rfl rfl rfl rfl) C_law_part hr (by decide) (ga_cons (gv 0) (ga_cons (gv 2) (ga_cons ge_int ga_nil)))) (ga_cons (ge_c (takes_of rfl rfl rfl rfl) C_law_part hr (by decide) (ga_cons (gv 0) (ga_cons (ge_op op_addA rs_add (gv 2) ge_int) (ga_cons ge_int ga_nil)))) ga_nil)) rfl)
  (gss_cons (gs_set (i := 5) sc_law_leaf_told.nd rfl (Or.inl rfl) (ge_op op_addA rs_add (ge_op op_addA rs_add (ge_op op_addA rs_add (gv 2) ge_int) (gv 3)) (gv 4)))
  (gss_cons (gs_if (GW.gt (gw_or (gt_cmp op_ltA rs_cmp (ge_callB (call_min2 rfl) cs_2 rfl T.b_min (by decide +kernel) (ga_cons (gv 3) (ga_cons (gv 4) ga_nil))) ge_int (nomark _)) (gw_or1 (gt_cmp op_gtA rs_cmp (gv 5) (ge_callB call_len cs_len rfl T.b_len (by decide +kernel) (ga_cons (gv 0) ga_nil)) (nomark _))))) (gss_one (gs_ret ge_non)) gss_nil)
  (gss_cons (gs_app (i := 1) (ge_tup (ga_cons (ge_sl sl_any ss_cut (gv 0) (go_some (ge_op op_addA rs_add (gv 2) ge_int)) (go_some (ge_op op_addA rs_add (ge_op op_addA rs_add (gv 2) ge_int) (gv 3)))) (ga_cons (ge_sl sl_any ss_cut (gv 0) (go_some (ge_op op_addA rs_add (ge_op op_addA rs_add (gv 2) ge_int) (gv 3))) (go_some (gv 5))) ga_nil))))
  (gss_one (gs_set (i := 2) sc_law_leaf_told.nd rfl (Or.inl rfl) (gv 5))))))))
  (gss_frz 1 (gss_one (gs_ret (ge_callTy call_tuple_of cs_tup rfl T.b_tuple (by decide +kernel) (ga_cons (gv 1) ga_nil))))))), rd_law_leaf_told⟩

theorem ok_law_node_told (T : Txt K mg) (C_law_leaf_told : Cal P w K mg base 2 "_law_leaf_told" s_law_leaf_told ["text"] sp_law_leaf_told) (C_law_part : Cal P w K mg base 1 "_law_part" s_law_part ["text", "at", "many"] sp_law_part) : Cal P w K mg base 3 "_law_node_told" s_law_node_told ["text"] sp_law_node_told :=
  calD T.f_law_node_told sc_law_node_told fun f cdv A outer s H E hr => ⟨d_law_node_told, (gss_cons (gs_if (gt_cmp (op_eqA hr.units) rs_eq (ge_sl sl_any ss_cut (gv 0) go_none (go_some ge_int)) ge_str (nomark _)) (gss_cons (gs_set (i := 1) sc_law_node_told.nd rfl (Or.inl rfl) (ge_c (takes_of rfl rfl rfl rfl) C_law_leaf_told hr (by decide) (ga_cons (gv 0) ga_nil)))
  (gss_one (gs_ret (ge_if (gt_cmp op_isN rs_isN (gv 1) ge_non (nomark _)) ge_non (ge_tup (ga_cons ge_str (ga_cons (gv 1) ga_nil))))))) gss_nil)
  (gss_cons (gs_set (i := 2) sc_law_node_told.nd rfl (Or.inl rfl) (ge_c (takes_of rfl rfl rfl rfl) C_law_part hr (by decide) (ga_cons (gv 0) (ga_cons ge_int (ga_cons ge_int ga_nil)))))
  (gss_cons (gs_if (GW.gt (gw_or (gt_cmp (op_neA hr.units) rs_ne (ge_sl sl_any ss_cut (gv 0) go_none (go_some ge_int)) ge_str (nomark _)) (gw_or1 (gt_cmp op_ltA rs_cmp (gv 2) ge_int (nomark _))))) (gss_one (gs_ret ge_non)) gss_nil)
  (gss_cons (gs_setLc (k := 3) [("k", 6)] rfl sc_law_node_told.nd rfl rfl (sw_true rfl rfl rfl (by decide +kernel)) (gi_range1 rfl T.b_range (ga_cons (gv 2) ga_nil)) (blkOk_by (own := [("k", 6)]) (N := n_law_node_told) (sc := defScope s_law_node_told) (by decide +kernel)) (by decide) (fun _ _ _ _ _ => (gg_name (i := 6) sc_law_node_told.nd rfl (Or.inl rfl))) (fun _ _ _ _ _ => gts_nil) (fun _ _ _ _ _ => (ge_c takes0 C_law_part hr (by decide) (ga_cons (gv 0) (ga_cons (ge_op op_addA rs_add ge_int (ge_op op_mulAll rs_mulA ge_int (gv 6))) (ga_cons ge_int ga_nil))))))
  (gss_cons (gs_parO1 (i := 4) (j := 5) rfl sc_law_node_told.nd rfl rfl (by decide) rfl rfl (gn_lst ga_nil) (ge_op op_addA rs_add ge_int (ge_op op_mulAll rs_mulA ge_int (gv 2))) rfl)
  (gss_cons (gs_for (passes_of rfl) rfl (gi_range1 rfl T.b_range (ga_cons (ge_op op_sub rs_J (gv 2) ge_int) ga_nil)) (gg_name (i := 6) sc_law_node_told.nd rfl (Or.inl rfl))
  (gss_cons (gs_set (i := 7) sc_law_node_told.nd rfl (Or.inl rfl) (ge_c (takes_of rfl rfl rfl rfl) C_law_part hr (by decide) (ga_cons (gv 0) (ga_cons (gv 5) (ga_cons ge_int ga_nil)))))
  (gss_cons (gs_if (GW.gt (gw_or (gt_cmp op_ltA rs_cmp (gv 7) ge_int (nomark _)) (gw_or1 (gt_cmp op_gtA rs_cmp (ge_op op_addA rs_add (ge_op op_addA rs_add (gv 5) ge_int) (gv 7)) (ge_callB call_len cs_len rfl T.b_len (by decide +kernel) (ga_cons (gv 0) ga_nil)) (nomark _))))) (gss_one (gs_ret ge_non)) gss_nil)
  (gss_cons (gs_app (i := 4) (ge_sl sl_any ss_cut (gv 0) (go_some (ge_op op_addA rs_add (gv 5) ge_int)) (go_some (ge_op op_addA rs_add (ge_op op_addA rs_add (gv 5) ge_int) (gv 7)))))
  (gss_one (gs_set (i := 5) sc_law_node_told.nd rfl (Or.inl rfl) (ge_op op_addA rs_add (ge_op op_addA rs_add (gv 5) ge_int) (gv 7))))))))
  (gss_frz 4 (gss_cons (gs_if (GW.gt (gw_or (gt_cmp op_ltA rs_cmp (ge_callB (cr_minA rfl) cs_min1A rfl T.b_min (by decide +kernel) (ga_cons (gv 3) ga_nil)) ge_int (nomark _)) (gw_or1 (gt_cmp (op_neA hr.units) rs_ne (gv 5) (ge_callB call_len cs_len rfl T.b_len (by decide +kernel) (ga_cons (gv 0) ga_nil)) (nomark _))))) (gss_one (gs_ret ge_non)) gss_nil)
  (gss_one (gs_ret (ge_tup (ga_cons ge_str (ga_cons (ge_callTy call_tuple_of cs_tup rfl T.b_tuple (by decide +kernel) (ga_cons (gv 4) ga_nil)) (ga_cons (ge_callTy call_tuple_of cs_tup rfl T.b_tuple (by decide +kernel) (ga_cons (gv 3) ga_nil)) ga_nil)))))))))))))), rd_law_node_told⟩

theorem ok_law_node (T : Txt K mg) (C_law_draw : Cal P w K mg base 1 "_law_draw" s_law_draw ["flow", "many"] sp_law_draw) (C_law_text : Cal P w K mg base 3 "_law_text" s_law_text ["flow", "most"] sp_law_text) : Cal P w K mg base 4 "_law_node" s_law_node ["flow"] sp_law_node :=
  calD T.f_law_node sc_law_node fun f cdv A outer s H E hr => ⟨d_law_node, (gss_cons (gs_set (i := 1) sc_law_node.nd rfl (Or.inr rfl) (ge_ix ix_seq rs_ix (ge_lst (ga_cons ge_int (ga_cons ge_int (ga_cons ge_int ga_nil)))) (ge_c (takes_of rfl rfl rfl rfl) C_law_draw hr (by decide) (ga_cons (gv 0) (ga_cons ge_int ga_nil))) (fun _ _ => rfl)))
  (gss_cons (gs_if (gt_cmp (op_eqA hr.units) rs_eq (ge_c (takes_of rfl rfl rfl rfl) C_law_draw hr (by decide) (ga_cons (gv 0) (ga_cons ge_int ga_nil))) ge_int (nomark _)) (gss_one (gs_ret (ge_tup (ga_cons ge_str (ga_cons (ge_callTy call_tuple_of cs_tup rfl T.b_tuple (by decide +kernel) (ga_cons (GN.ge (gn_lc [("k", 4)] rfl sc_law_node.nd (gi_range1 rfl T.b_range (ga_cons (ge_c (takes_of rfl rfl rfl rfl) C_law_draw hr (by decide) (ga_cons (gv 0) (ga_cons ge_int ga_nil))) ga_nil)) (blkOk_by (own := [("k", 4)]) (N := n_law_node) (sc := defScope s_law_node) (by decide +kernel)) (by decide) (fun _ _ _ _ _ => (gg_name (i := 4) sc_law_node.nd rfl (Or.inl rfl))) (fun _ _ _ _ _ => gts_nil) (fun _ _ _ _ _ => (ge_tup (ga_cons (ge_c takes0 C_law_text hr (by decide) (ga_cons (gv 0) (ga_cons (gv 1) ga_nil))) (ga_cons (ge_c takes0 C_law_text hr (by decide) (ga_cons (gv 0) (ga_cons (gv 1) ga_nil))) ga_nil)))))) ga_nil)) ga_nil))))) gss_nil)
  (gss_cons (gs_set (i := 2) sc_law_node.nd rfl (Or.inl rfl) (ge_op op_addA rs_add ge_int (ge_c (takes_of rfl rfl rfl rfl) C_law_draw hr (by decide) (ga_cons (gv 0) (ga_cons ge_int ga_nil)))))
  (gss_cons (gs_setLc (k := 3) [("k", 4)] rfl sc_law_node.nd rfl rfl (sw_true rfl rfl rfl (by decide +kernel)) (gi_range1 rfl T.b_range (ga_cons (gv 2) ga_nil)) (blkOk_by (own := [("k", 4)]) (N := n_law_node) (sc := defScope s_law_node) (by decide +kernel)) (by decide) (fun _ _ _ _ _ => (gg_name (i := 4) sc_law_node.nd rfl (Or.inl rfl))) (fun _ _ _ _ _ => gts_nil) (fun _ _ _ _ _ => (ge_ix ix_seq rs_ix (ge_lst (ga_cons ge_int (ga_cons ge_int (ga_cons (ge_c takes0 C_law_draw hr (by decide) (ga_cons (gv 0) (ga_cons ge_int ga_nil))) (ga_cons (ge_c takes0 C_law_draw hr (by decide) (ga_cons (gv 0) (ga_cons ge_int ga_nil))) ga_nil))))) (ge_c takes0 C_law_draw hr (by decide) (ga_cons (gv 0) (ga_cons ge_int ga_nil))) (fun _ _ => rfl))))
  (gss_one (gs_ret (ge_tup (ga_cons ge_str (ga_cons (ge_callTy call_tuple_of cs_tup rfl T.b_tuple (by decide +kernel) (ga_cons (GN.ge (gn_lc [("k", 4)] rfl sc_law_node.nd (gi_range1 rfl T.b_range (ga_cons (ge_op op_sub rs_J (ge_callB call_len cs_len rfl T.b_len (by decide +kernel) (ga_cons (gv 3) ga_nil)) ge_int) ga_nil)) (blkOk_by (own := [("k", 4)]) (N := n_law_node) (sc := defScope s_law_node) (by decide +kernel)) (by decide) (fun _ _ _ _ _ => (gg_name (i := 4) sc_law_node.nd rfl (Or.inl rfl))) (fun _ _ _ _ _ => gts_nil) (fun _ _ _ _ _ => (ge_c takes0 C_law_text hr (by decide) (ga_cons (gv 0) (ga_cons (gv 1) ga_nil)))))) ga_nil)) (ga_cons (ge_callTy call_tuple_of cs_tup rfl T.b_tuple (by decide +kernel) (ga_cons (gv 3) ga_nil)) ga_nil)))))))))), rd_law_node⟩

theorem ok_law_near (T : Txt K mg) (C_law_draw : Cal P w K mg base 1 "_law_draw" s_law_draw ["flow", "many"] sp_law_draw) (C_law_sign : Cal P w K mg base 2 "_law_sign" s_law_sign ["flow"] sp_law_sign) : Cal P w K mg base 3 "_law_near" s_law_near ["flow", "text"] sp_law_near :=
  calD T.f_law_near sc_law_near fun f cdv A outer s H E hr => ⟨d_law_near, (gss_cons (gs_set (i := 2) sc_law_near.nd rfl (Or.inl rfl) (ge_c (takes_of rfl rfl rfl rfl) C_law_draw hr (by decide) (ga_cons (gv 0) (ga_cons (ge_op op_addA rs_add (ge_callB call_len cs_len rfl T.b_len (by decide +kernel) (ga_cons (gv 1) ga_nil)) ge_int) ga_nil))))
  (gss_cons (gs_if (gt_cmp (op_eqA hr.units) rs_eq (ge_c (takes_of rfl rfl rfl rfl) C_law_draw hr (by decide) (ga_cons (gv 0) (ga_cons ge_int ga_nil))) ge_int (nomark _)) (gss_one (gs_set (i := 2) sc_law_near.nd rfl (Or.inl rfl) (ge_c (takes_of rfl rfl rfl rfl) C_law_draw hr (by decide) (ga_cons (gv 0) (ga_cons (ge_op op_addA rs_add (ge_callB (call_min2 rfl) cs_2 rfl T.b_min (by decide +kernel) (ga_cons (ge_callB call_len cs_len rfl T.b_len (by decide +kernel) (ga_cons (gv 1) ga_nil)) (ga_cons ge_int ga_nil))) ge_int) ga_nil))))) gss_nil)
  (gss_cons (gs_set (i := 3) sc_law_near.nd rfl (Or.inl rfl) (ge_ix ix_seq rs_ix (ge_lst (ga_cons (ge_c (takes_of rfl rfl rfl rfl) C_law_sign hr (by decide) (ga_cons (gv 0) ga_nil)) (ga_cons ge_str (ga_cons ge_str (ga_cons ge_str (ga_cons ge_str (ga_cons ge_str (ga_cons ge_str (ga_cons ge_str ga_nil))))))))) (ge_c (takes_of rfl rfl rfl rfl) C_law_draw hr (by decide) (ga_cons (gv 0) (ga_cons ge_int ga_nil))) (fun _ _ => rfl)))
  (gss_cons (gs_set (i := 4) sc_law_near.nd rfl (Or.inl rfl) (ge_lst (ga_cons (gv 1) (ga_cons (ge_op op_addA rs_add (ge_op op_addA rs_add (ge_sl sl_any ss_cut (gv 1) go_none (go_some (gv 2))) (gv 3)) (ge_sl sl_any ss_cut (gv 1) (go_some (ge_op op_addA rs_add (gv 2) ge_int)) go_none)) (ga_cons (ge_op op_addA rs_add (ge_sl sl_any ss_cut (gv 1) go_none (go_some (gv 2))) (ge_sl sl_any ss_cut (gv 1) (go_some (ge_op op_addA rs_add (gv 2) ge_int)) go_none)) (ga_cons (ge_op op_addA rs_add (ge_op op_addA rs_add (ge_sl sl_any ss_cut (gv 1) go_none (go_some (gv 2))) (gv 3)) (ge_sl sl_any ss_cut (gv 1) (go_some (gv 2)) go_none)) ga_nil))))))
  (gss_cons (gs_set (i := 4) sc_law_near.nd rfl (Or.inl rfl) (ge_op op_addA rs_add (gv 4) (ge_lst (ga_cons (ge_sl sl_any ss_cut (gv 1) go_none (go_some (gv 2))) (ga_cons (ge_op op_addA rs_add (gv 1) (gv 3)) (ga_cons (ge_strM0 PySem.F.slot_str_lower PySem.F.type_str_lower mt_lower ms_0 (gv 1)) (ga_cons (ge_op op_addA rs_add (gv 1) (ge_sl sl_any ss_cut (gv 1) (go_some ge_int) go_none)) (ga_cons (ge_op op_addA rs_add (gv 1) ge_str) (ga_cons (ge_sl sl_any ss_cut (gv 1) (go_some ge_int) go_none) ga_nil)))))))))
  (gss_one (gs_ret (ge_ix ix_seq rs_ix (gv 4) (ge_c (takes_of rfl rfl rfl rfl) C_law_draw hr (by decide) (ga_cons (gv 0) (ga_cons ge_int ga_nil))) (fun _ _ => rfl))))))))), rd_law_near⟩

theorem ok_law_put_together (T : Txt K mg) (C_law_draw : Cal P w K mg base 1 "_law_draw" s_law_draw ["flow", "many"] sp_law_draw) : Cal P w K mg base 2 "_law_put_together" s_law_put_together ["flow"] sp_law_put_together :=
  calD T.f_law_put_together sc_law_put_together fun f cdv A outer s H E hr => ⟨d_law_put_together, (gss_cons (gs_set (i := 1) sc_law_put_together.nd rfl (Or.inl rfl) (ge_ix ix_seq rs_ix (ge_lst (ga_cons ge_str (ga_cons ge_str (ga_cons ge_str (ga_cons ge_str (ga_cons ge_str (ga_cons ge_str (ga_cons ge_str (ga_cons ge_str ga_nil))))))))) (ge_c (takes_of rfl rfl rfl rfl) C_law_draw hr (by decide) (ga_cons (gv 0) (ga_cons ge_int ga_nil))) (fun _ _ => rfl)))
  (gss_cons (gs_for (passes_of rfl) rfl (gi_range1 rfl T.b_range (ga_cons (ge_c (takes_of rfl rfl rfl rfl) C_law_draw hr (by decide) (ga_cons (gv 0) (ga_cons ge_int ga_nil))) ga_nil)) (gg_name (i := 2) sc_law_put_together.nd rfl (Or.inl rfl))
  (gss_one (gs_set (i := 1) sc_law_put_together.nd rfl (Or.inl rfl) (ge_op op_addA rs_add (gv 1) (ge_ix ix_seq rs_ix (ge_lst (ga_cons ge_str (ga_cons ge_str (ga_cons ge_str (ga_cons ge_str (ga_cons ge_str (ga_cons ge_str (ga_cons ge_str (ga_cons ge_str ga_nil))))))))) (ge_c (takes_of rfl rfl rfl rfl) C_law_draw hr (by decide) (ga_cons (gv 0) (ga_cons ge_int ga_nil))) (fun _ _ => rfl))))))
  (gss_one (gs_ret (gv 1))))), rd_law_put_together⟩

theorem ok_law_full (T : Txt K mg) (C_law_text : Cal P w K mg base 3 "_law_text" s_law_text ["flow", "most"] sp_law_text) : Cal P w K mg base 4 "_law_full" s_law_full ["flow", "long"] sp_law_full :=
  calD T.f_law_full sc_law_full fun f cdv A outer s H E hr => ⟨d_law_full, (gss_one (gs_ret (ge_sl sl_any ss_cut (ge_op op_addA rs_add (ge_c (takes_of rfl rfl rfl rfl) C_law_text hr (by decide) (ga_cons (gv 0) (ga_cons ge_int ga_nil))) (ge_op op_mulAll rs_mulA ge_str (gv 1))) go_none (go_some (gv 1))))), rd_law_full⟩

theorem ok_law_rooms_right (T : Txt K mg) (C_law_draw : Cal P w K mg base 1 "_law_draw" s_law_draw ["flow", "many"] sp_law_draw) (C_law_same : Cal P w K mg base 6 "_law_same" s_law_same ["found", "due"] sp_law_same) (C_entry_room : Cal P w K mg base 1 "entry_room" s_entry_room ["signs"] sp_entry_room) (C_law_full : Cal P w K mg base 4 "_law_full" s_law_full ["flow", "long"] sp_law_full) (C_law_node_text : Cal P w K mg base 1 "_law_node_text" s_law_node_text ["node"] sp_law_node_text) (C_node_text : Cal P w K mg base 2 "node_text" s_node_text ["node"] sp_node_text) : Cal P w K mg base 7 "_law_rooms_right" s_law_rooms_right ["flow"] sp_law_rooms_right :=
  calD T.f_law_rooms_right sc_law_rooms_right fun f cdv A outer s H E hr => ⟨d_law_rooms_right, (gss_cons (gs_set (i := 1) sc_law_rooms_right.nd rfl (Or.inl rfl) (ge_ix ix_seq rs_ix (ge_lst (ga_cons ge_int (ga_cons ge_int (ga_cons ge_int (ga_cons ge_int (ga_cons ge_int (ga_cons (ge_op op_addA rs_add ge_int (ge_c (takes_of rfl rfl rfl rfl) C_law_draw hr (by decide) (ga_cons (gv 0) (ga_cons ge_int ga_nil)))) ga_nil))))))) (ge_c (takes_of rfl rfl rfl rfl) C_law_draw hr (by decide) (ga_cons (gv 0) (ga_cons ge_int ga_nil))) (fun _ _ => rfl)))
  (gss_cons (gs_set (i := 2) sc_law_rooms_right.nd rfl (Or.inr rfl) (ge_op op_sub rs_J (ge_op op_fdivW rs_I (ge_op op_sub rs_J (gv 1) ge_int) ge_int) ge_int))
  (gss_cons (gs_if (gt_not (gt_val (ge_c (takes_of rfl rfl rfl rfl) C_law_same hr (by decide) (ga_cons (ge_lst (ga_cons (ge_c (takes_of rfl rfl rfl rfl) C_entry_room hr (by decide) (ga_cons (gv 1) ga_nil)) (ga_cons (ge_ck (ks := ["signs"]) [0] C_entry_room hr (by decide) (fun _ _ _ _ _ _ ws hl => match ws, hl with | [_], _ => rfl) (gk_cons (gv 1) gk_nil)) ga_nil))) (ga_cons (ge_lst (ga_cons (gv 2) (ga_cons (gv 2) ga_nil))) ga_nil))))) (gss_one (gs_ret ge_bl)) gss_nil)
  (gss_cons (gs_setO (i := 3) sc_law_rooms_right.nd rfl (Or.inl rfl) (gn_lst ga_nil))
  (gss_cons (gs_for (passes_of rfl) rfl (gi_range1 rfl T.b_range (ga_cons ge_int ga_nil)) (gg_name (i := 4) sc_law_rooms_right.nd rfl (Or.inl rfl))
  (gss_cons (gs_set (i := 5) sc_law_rooms_right.nd rfl (Or.inl rfl) (ge_c (takes_of rfl rfl rfl rfl) C_law_draw hr (by decide) (ga_cons (gv 0) (ga_cons (ge_op op_addA rs_add (gv 2) ge_int) ga_nil))))
  (gss_one (gs_app (i := 3) (ge_tup (ga_cons (ge_c (takes_of rfl rfl rfl rfl) C_law_full hr (by decide) (ga_cons (gv 0) (ga_cons (gv 5) ga_nil))) (ga_cons (ge_c (takes_of rfl rfl rfl rfl) C_law_full hr (by decide) (ga_cons (gv 0) (ga_cons (ge_op op_sub rs_J (gv 2) (gv 5)) ga_nil))) ga_nil)))))))
  (gss_frz 3 (gss_cons (gs_set (i := 6) sc_law_rooms_right.nd rfl (Or.inl rfl) (ge_callTy call_tuple_of cs_tup rfl T.b_tuple (by decide +kernel) (ga_cons (GN.ge (gn_lc [("k", 4)] rfl sc_law_rooms_right.nd (gi_range1 rfl T.b_range (ga_cons ge_int ga_nil)) (blkOk_by (own := [("k", 4)]) (N := n_law_rooms_right) (sc := defScope s_law_rooms_right) (by decide +kernel)) (by decide) (fun _ _ _ _ _ => (gg_name (i := 4) sc_law_rooms_right.nd rfl (Or.inl rfl))) (fun _ _ _ _ _ => gts_nil) (fun _ _ _ _ _ => (ge_c takes0 C_law_full hr (by decide) (ga_cons (gv 0) (ga_cons (gv 2) ga_nil)))))) ga_nil)))
  (gss_cons (gs_par (i := 7) (j := 8) rfl sc_law_rooms_right.nd rfl rfl (by decide) rfl rfl (ga_cons (ge_tup (ga_cons ge_str (ga_cons (ge_callTy call_tuple_of cs_tup rfl T.b_tuple (by decide +kernel) (ga_cons (gv 3) ga_nil)) ga_nil))) (ga_cons (ge_tup (ga_cons ge_str (ga_cons (gv 6) (ga_cons (ge_tup (ga_cons ge_int (ga_cons ge_int (ga_cons ge_int (ga_cons ge_int ga_nil))))) ga_nil)))) ga_nil)) rfl)
  (gss_cons (gs_if (gt_cmp op_gtA rs_cmp (ge_callB (call_max2 rfl) cs_2 rfl T.b_max (by decide +kernel) (ga_cons (ge_callB call_len cs_len rfl T.b_len (by decide +kernel) (ga_cons (ge_c (takes_of rfl rfl rfl rfl) C_law_node_text hr (by decide) (ga_cons (gv 7) ga_nil)) ga_nil)) (ga_cons (ge_callB call_len cs_len rfl T.b_len (by decide +kernel) (ga_cons (ge_c (takes_of rfl rfl rfl rfl) C_law_node_text hr (by decide) (ga_cons (gv 8) ga_nil)) ga_nil)) ga_nil))) (gv 1) (nomark _)) (gss_one (gs_ret ge_bl)) gss_nil)
  (gss_one (gs_ret (ge_c (takes_of rfl rfl rfl rfl) C_law_same hr (by decide) (ga_cons (ge_lst (ga_cons (ge_c (takes_of rfl rfl rfl rfl) C_node_text hr (by decide) (ga_cons (gv 7) ga_nil)) (ga_cons (ge_c (takes_of rfl rfl rfl rfl) C_node_text hr (by decide) (ga_cons (gv 8) ga_nil)) ga_nil))) (ga_cons (ge_lst (ga_cons (ge_c (takes_of rfl rfl rfl rfl) C_law_node_text hr (by decide) (ga_cons (gv 7) ga_nil)) (ga_cons (ge_c (takes_of rfl rfl rfl rfl) C_law_node_text hr (by decide) (ga_cons (gv 8) ga_nil)) ga_nil))) ga_nil)))))))))))))), rd_law_rooms_right⟩

theorem ok_law (T : Txt K mg) (C_law_flow : Cal P w K mg base 1 "_law_flow" s_law_flow ["script"] sp_law_flow) (C_law_node : Cal P w K mg base 4 "_law_node" s_law_node ["flow"] sp_law_node) (C_law_node_text : Cal P w K mg base 1 "_law_node_text" s_law_node_text ["node"] sp_law_node_text) (C_law_same : Cal P w K mg base 6 "_law_same" s_law_same ["found", "due"] sp_law_same) (C_node_told : Cal P w K mg base 3 "node_told" s_node_told ["text"] sp_node_told) (C_node_text : Cal P w K mg base 2 "node_text" s_node_text ["node"] sp_node_text) (C_law_near : Cal P w K mg base 3 "_law_near" s_law_near ["flow", "text"] sp_law_near) (C_law_put_together : Cal P w K mg base 2 "_law_put_together" s_law_put_together ["flow"] sp_law_put_together) (C_law_node_told : Cal P w K mg base 3 "_law_node_told" s_law_node_told ["text"] sp_law_node_told) (C_law_rooms_right : Cal P w K mg base 7 "_law_rooms_right" s_law_rooms_right ["flow"] sp_law_rooms_right) : Cal P w K mg base 8 "law" s_law ["script"] sp_law :=
  calD T.f_law sc_law fun f cdv A outer s H E hr => ⟨d_law, (gss_cons (gs_set (i := 1) sc_law.nd rfl (Or.inl rfl) (ge_c (takes_of rfl rfl rfl rfl) C_law_flow hr (by decide) (ga_cons (gv 0) ga_nil)))
  (gss_cons (gs_for (passes_of rfl) rfl (gi_range1 rfl T.b_range (ga_cons (ge_op op_addA rs_add ge_int (ge_callB (call_min2 rfl) cs_2 rfl T.b_min (by decide +kernel) (ga_cons ge_int (ga_cons (ge_callB call_len cs_len rfl T.b_len (by decide +kernel) (ga_cons (gv 0) ga_nil)) ga_nil)))) ga_nil)) (gg_name (i := 2) sc_law.nd rfl (Or.inl rfl))
  (gss_cons (gs_set (i := 3) sc_law.nd rfl (Or.inl rfl) (ge_c (takes_of rfl rfl rfl rfl) C_law_node hr (by decide) (ga_cons (gv 1) ga_nil)))
  (gss_cons (gs_set (i := 4) sc_law.nd rfl (Or.inl rfl) (ge_c (takes_of rfl rfl rfl rfl) C_law_node_text hr (by decide) (ga_cons (gv 3) ga_nil)))
  (gss_cons (gs_if (gt_not (gt_val (ge_c (takes_of rfl rfl rfl rfl) C_law_same hr (by decide) (ga_cons (ge_lst (ga_cons (ge_c (takes_of rfl rfl rfl rfl) C_node_text hr (by decide) (ga_cons (gv 3) ga_nil)) (ga_cons (ge_ck (ks := ["node"]) [0] C_node_text hr (by decide) (fun _ _ _ _ _ _ ws hl => match ws, hl with | [_], _ => rfl) (gk_cons (gv 3) gk_nil)) (ga_cons (ge_c (takes_of rfl rfl rfl rfl) C_node_told hr (by decide) (ga_cons (gv 4) ga_nil)) ga_nil)))) (ga_cons (ge_lst (ga_cons (gv 4) (ga_cons (gv 4) (ga_cons (gv 3) ga_nil)))) ga_nil))))) (gss_one (gs_ret ge_bl)) gss_nil)
  (gss_cons (gs_set (i := 5) sc_law.nd rfl (Or.inl rfl) (ge_c (takes_of rfl rfl rfl rfl) C_law_near hr (by decide) (ga_cons (gv 1) (ga_cons (ge_c (takes_of rfl rfl rfl rfl) C_law_near hr (by decide) (ga_cons (gv 1) (ga_cons (gv 4) ga_nil))) ga_nil))))
  (gss_cons (gs_set (i := 6) sc_law.nd rfl (Or.inl rfl) (ge_c (takes_of rfl rfl rfl rfl) C_law_put_together hr (by decide) (ga_cons (gv 1) ga_nil)))
  (gss_cons (gs_if (gt_not (gt_val (ge_c (takes_of rfl rfl rfl rfl) C_law_same hr (by decide) (ga_cons (ge_lst (ga_cons (ge_ck (ks := ["text"]) [0] C_node_told hr (by decide) (fun _ _ _ _ _ _ ws hl => match ws, hl with | [_], _ => rfl) (gk_cons (gv 5) gk_nil)) (ga_cons (ge_c (takes_of rfl rfl rfl rfl) C_node_told hr (by decide) (ga_cons (gv 6) ga_nil)) ga_nil))) (ga_cons (ge_lst (ga_cons (ge_c (takes_of rfl rfl rfl rfl) C_law_node_told hr (by decide) (ga_cons (gv 5) ga_nil)) (ga_cons (ge_c (takes_of rfl rfl rfl rfl) C_law_node_told hr (by decide) (ga_cons (gv 6) ga_nil)) ga_nil))) ga_nil))))) (gss_one (gs_ret ge_bl)) gss_nil)
  (gss_one (gs_if (gt_not (gt_val (ge_c (takes_of rfl rfl rfl rfl) C_law_rooms_right hr (by decide) (ga_cons (gv 1) ga_nil)))) (gss_one (gs_ret ge_bl)) gss_nil)))))))))
  (gss_one (gs_ret ge_bl)))), rd_law⟩

theorem txt_mk {K : PySem.W.Frag} {h : Heap} {mg : Str → Option Value} (X : K.In h)
  (GN : h.Ns mainGlobals mg)
  {f0 : Addr} {oc0 kV0 dc0 pm0 cd0 ct0 : Value} {od0 an0 : Option Addr} {sl0 : Array (Option Value)}
  (a0 : PySem.W.nsIn K mainGlobals "figures" = some (some (.ref f0)))
  (l0 : K.lookup f0 = some ⟨oc0, od0, .func (PySem.W.fnOf "figures" "figures" (defArgs s_figures) (defBody s_figures) (defScope s_figures) .none kV0 dc0 pm0 an0 cd0 ct0), sl0⟩)
  (c0 : PySem.W.codeIn K cd0 "figures" = true) (k0 : PySem.W.keepIn K (.ref f0) = true)
  {f1 : Addr} {oc1 kV1 dc1 pm1 cd1 ct1 : Value} {od1 an1 : Option Addr} {sl1 : Array (Option Value)}
  (a1 : PySem.W.nsIn K mainGlobals "number_in" = some (some (.ref f1)))
  (l1 : K.lookup f1 = some ⟨oc1, od1, .func (PySem.W.fnOf "number_in" "number_in" (defArgs s_number_in) (defBody s_number_in) (defScope s_number_in) .none kV1 dc1 pm1 an1 cd1 ct1), sl1⟩)
  (c1 : PySem.W.codeIn K cd1 "number_in" = true) (k1 : PySem.W.keepIn K (.ref f1) = true)
  {f2 : Addr} {oc2 kV2 dc2 pm2 cd2 ct2 : Value} {od2 an2 : Option Addr} {sl2 : Array (Option Value)}
  (a2 : PySem.W.nsIn K mainGlobals "entry_room" = some (some (.ref f2)))
  (l2 : K.lookup f2 = some ⟨oc2, od2, .func (PySem.W.fnOf "entry_room" "entry_room" (defArgs s_entry_room) (defBody s_entry_room) (defScope s_entry_room) .none kV2 dc2 pm2 an2 cd2 ct2), sl2⟩)
  (c2 : PySem.W.codeIn K cd2 "entry_room" = true) (k2 : PySem.W.keepIn K (.ref f2) = true)
  {f3 : Addr} {oc3 kV3 dc3 pm3 cd3 ct3 : Value} {od3 an3 : Option Addr} {sl3 : Array (Option Value)}
  (a3 : PySem.W.nsIn K mainGlobals "node_text" = some (some (.ref f3)))
  (l3 : K.lookup f3 = some ⟨oc3, od3, .func (PySem.W.fnOf "node_text" "node_text" (defArgs s_node_text) (defBody s_node_text) (defScope s_node_text) .none kV3 dc3 pm3 an3 cd3 ct3), sl3⟩)
  (c3 : PySem.W.codeIn K cd3 "node_text" = true) (k3 : PySem.W.keepIn K (.ref f3) = true)
  {f4 : Addr} {oc4 kV4 dc4 pm4 cd4 ct4 : Value} {od4 an4 : Option Addr} {sl4 : Array (Option Value)}
  (a4 : PySem.W.nsIn K mainGlobals "text_in" = some (some (.ref f4)))
  (l4 : K.lookup f4 = some ⟨oc4, od4, .func (PySem.W.fnOf "text_in" "text_in" (defArgs s_text_in) (defBody s_text_in) (defScope s_text_in) .none kV4 dc4 pm4 an4 cd4 ct4), sl4⟩)
  (c4 : PySem.W.codeIn K cd4 "text_in" = true) (k4 : PySem.W.keepIn K (.ref f4) = true)
  {f5 : Addr} {oc5 kV5 dc5 pm5 cd5 ct5 : Value} {od5 an5 : Option Addr} {sl5 : Array (Option Value)}
  (a5 : PySem.W.nsIn K mainGlobals "leaf_told" = some (some (.ref f5)))
  (l5 : K.lookup f5 = some ⟨oc5, od5, .func (PySem.W.fnOf "leaf_told" "leaf_told" (defArgs s_leaf_told) (defBody s_leaf_told) (defScope s_leaf_told) .none kV5 dc5 pm5 an5 cd5 ct5), sl5⟩)
  (c5 : PySem.W.codeIn K cd5 "leaf_told" = true) (k5 : PySem.W.keepIn K (.ref f5) = true)
  {f6 : Addr} {oc6 kV6 dc6 pm6 cd6 ct6 : Value} {od6 an6 : Option Addr} {sl6 : Array (Option Value)}
  (a6 : PySem.W.nsIn K mainGlobals "inner_told" = some (some (.ref f6)))
  (l6 : K.lookup f6 = some ⟨oc6, od6, .func (PySem.W.fnOf "inner_told" "inner_told" (defArgs s_inner_told) (defBody s_inner_told) (defScope s_inner_told) .none kV6 dc6 pm6 an6 cd6 ct6), sl6⟩)
  (c6 : PySem.W.codeIn K cd6 "inner_told" = true) (k6 : PySem.W.keepIn K (.ref f6) = true)
  {f7 : Addr} {oc7 kV7 dc7 pm7 cd7 ct7 : Value} {od7 an7 : Option Addr} {sl7 : Array (Option Value)}
  (a7 : PySem.W.nsIn K mainGlobals "node_told" = some (some (.ref f7)))
  (l7 : K.lookup f7 = some ⟨oc7, od7, .func (PySem.W.fnOf "node_told" "node_told" (defArgs s_node_told) (defBody s_node_told) (defScope s_node_told) .none kV7 dc7 pm7 an7 cd7 ct7), sl7⟩)
  (c7 : PySem.W.codeIn K cd7 "node_told" = true) (k7 : PySem.W.keepIn K (.ref f7) = true)
  {f8 : Addr} {oc8 kV8 dc8 pm8 cd8 ct8 : Value} {od8 an8 : Option Addr} {sl8 : Array (Option Value)}
  (a8 : PySem.W.nsIn K mainGlobals "_law_flow" = some (some (.ref f8)))
  (l8 : K.lookup f8 = some ⟨oc8, od8, .func (PySem.W.fnOf "_law_flow" "_law_flow" (defArgs s_law_flow) (defBody s_law_flow) (defScope s_law_flow) .none kV8 dc8 pm8 an8 cd8 ct8), sl8⟩)
  (c8 : PySem.W.codeIn K cd8 "_law_flow" = true) (k8 : PySem.W.keepIn K (.ref f8) = true)
  {f9 : Addr} {oc9 kV9 dc9 pm9 cd9 ct9 : Value} {od9 an9 : Option Addr} {sl9 : Array (Option Value)}
  (a9 : PySem.W.nsIn K mainGlobals "_law_draw" = some (some (.ref f9)))
  (l9 : K.lookup f9 = some ⟨oc9, od9, .func (PySem.W.fnOf "_law_draw" "_law_draw" (defArgs s_law_draw) (defBody s_law_draw) (defScope s_law_draw) .none kV9 dc9 pm9 an9 cd9 ct9), sl9⟩)
  (c9 : PySem.W.codeIn K cd9 "_law_draw" = true) (k9 : PySem.W.keepIn K (.ref f9) = true)
  {f10 : Addr} {oc10 kV10 dc10 pm10 cd10 ct10 : Value} {od10 an10 : Option Addr} {sl10 : Array (Option Value)}
  (a10 : PySem.W.nsIn K mainGlobals "_law_sign" = some (some (.ref f10)))
  (l10 : K.lookup f10 = some ⟨oc10, od10, .func (PySem.W.fnOf "_law_sign" "_law_sign" (defArgs s_law_sign) (defBody s_law_sign) (defScope s_law_sign) .none kV10 dc10 pm10 an10 cd10 ct10), sl10⟩)
  (c10 : PySem.W.codeIn K cd10 "_law_sign" = true) (k10 : PySem.W.keepIn K (.ref f10) = true)
  {f11 : Addr} {oc11 kV11 dc11 pm11 cd11 ct11 : Value} {od11 an11 : Option Addr} {sl11 : Array (Option Value)}
  (a11 : PySem.W.nsIn K mainGlobals "_law_text" = some (some (.ref f11)))
  (l11 : K.lookup f11 = some ⟨oc11, od11, .func (PySem.W.fnOf "_law_text" "_law_text" (defArgs s_law_text) (defBody s_law_text) (defScope s_law_text) .none kV11 dc11 pm11 an11 cd11 ct11), sl11⟩)
  (c11 : PySem.W.codeIn K cd11 "_law_text" = true) (k11 : PySem.W.keepIn K (.ref f11) = true)
  {f12 : Addr} {oc12 kV12 dc12 pm12 cd12 ct12 : Value} {od12 an12 : Option Addr} {sl12 : Array (Option Value)}
  (a12 : PySem.W.nsIn K mainGlobals "_law_same" = some (some (.ref f12)))
  (l12 : K.lookup f12 = some ⟨oc12, od12, .func (PySem.W.fnOf "_law_same" "_law_same" (defArgs s_law_same) (defBody s_law_same) (defScope s_law_same) .none kV12 dc12 pm12 an12 cd12 ct12), sl12⟩)
  (c12 : PySem.W.codeIn K cd12 "_law_same" = true) (k12 : PySem.W.keepIn K (.ref f12) = true)
  {f13 : Addr} {oc13 kV13 dc13 pm13 cd13 ct13 : Value} {od13 an13 : Option Addr} {sl13 : Array (Option Value)}
  (a13 : PySem.W.nsIn K mainGlobals "_law_part" = some (some (.ref f13)))
  (l13 : K.lookup f13 = some ⟨oc13, od13, .func (PySem.W.fnOf "_law_part" "_law_part" (defArgs s_law_part) (defBody s_law_part) (defScope s_law_part) .none kV13 dc13 pm13 an13 cd13 ct13), sl13⟩)
  (c13 : PySem.W.codeIn K cd13 "_law_part" = true) (k13 : PySem.W.keepIn K (.ref f13) = true)
  {f14 : Addr} {oc14 kV14 dc14 pm14 cd14 ct14 : Value} {od14 an14 : Option Addr} {sl14 : Array (Option Value)}
  (a14 : PySem.W.nsIn K mainGlobals "_law_node_text" = some (some (.ref f14)))
  (l14 : K.lookup f14 = some ⟨oc14, od14, .func (PySem.W.fnOf "_law_node_text" "_law_node_text" (defArgs s_law_node_text) (defBody s_law_node_text) (defScope s_law_node_text) .none kV14 dc14 pm14 an14 cd14 ct14), sl14⟩)
  (c14 : PySem.W.codeIn K cd14 "_law_node_text" = true) (k14 : PySem.W.keepIn K (.ref f14) = true)
  {f15 : Addr} {oc15 kV15 dc15 pm15 cd15 ct15 : Value} {od15 an15 : Option Addr} {sl15 : Array (Option Value)}
  (a15 : PySem.W.nsIn K mainGlobals "_law_leaf_told" = some (some (.ref f15)))
  (l15 : K.lookup f15 = some ⟨oc15, od15, .func (PySem.W.fnOf "_law_leaf_told" "_law_leaf_told" (defArgs s_law_leaf_told) (defBody s_law_leaf_told) (defScope s_law_leaf_told) .none kV15 dc15 pm15 an15 cd15 ct15), sl15⟩)
  (c15 : PySem.W.codeIn K cd15 "_law_leaf_told" = true) (k15 : PySem.W.keepIn K (.ref f15) = true)
  {f16 : Addr} {oc16 kV16 dc16 pm16 cd16 ct16 : Value} {od16 an16 : Option Addr} {sl16 : Array (Option Value)}
  (a16 : PySem.W.nsIn K mainGlobals "_law_node_told" = some (some (.ref f16)))
  (l16 : K.lookup f16 = some ⟨oc16, od16, .func (PySem.W.fnOf "_law_node_told" "_law_node_told" (defArgs s_law_node_told) (defBody s_law_node_told) (defScope s_law_node_told) .none kV16 dc16 pm16 an16 cd16 ct16), sl16⟩)
  (c16 : PySem.W.codeIn K cd16 "_law_node_told" = true) (k16 : PySem.W.keepIn K (.ref f16) = true)
  {f17 : Addr} {oc17 kV17 dc17 pm17 cd17 ct17 : Value} {od17 an17 : Option Addr} {sl17 : Array (Option Value)}
  (a17 : PySem.W.nsIn K mainGlobals "_law_node" = some (some (.ref f17)))
  (l17 : K.lookup f17 = some ⟨oc17, od17, .func (PySem.W.fnOf "_law_node" "_law_node" (defArgs s_law_node) (defBody s_law_node) (defScope s_law_node) .none kV17 dc17 pm17 an17 cd17 ct17), sl17⟩)
  (c17 : PySem.W.codeIn K cd17 "_law_node" = true) (k17 : PySem.W.keepIn K (.ref f17) = true)
  {f18 : Addr} {oc18 kV18 dc18 pm18 cd18 ct18 : Value} {od18 an18 : Option Addr} {sl18 : Array (Option Value)}
  (a18 : PySem.W.nsIn K mainGlobals "_law_near" = some (some (.ref f18)))
  (l18 : K.lookup f18 = some ⟨oc18, od18, .func (PySem.W.fnOf "_law_near" "_law_near" (defArgs s_law_near) (defBody s_law_near) (defScope s_law_near) .none kV18 dc18 pm18 an18 cd18 ct18), sl18⟩)
  (c18 : PySem.W.codeIn K cd18 "_law_near" = true) (k18 : PySem.W.keepIn K (.ref f18) = true)
  {f19 : Addr} {oc19 kV19 dc19 pm19 cd19 ct19 : Value} {od19 an19 : Option Addr} {sl19 : Array (Option Value)}
  (a19 : PySem.W.nsIn K mainGlobals "_law_put_together" = some (some (.ref f19)))
  (l19 : K.lookup f19 = some ⟨oc19, od19, .func (PySem.W.fnOf "_law_put_together" "_law_put_together" (defArgs s_law_put_together) (defBody s_law_put_together) (defScope s_law_put_together) .none kV19 dc19 pm19 an19 cd19 ct19), sl19⟩)
  (c19 : PySem.W.codeIn K cd19 "_law_put_together" = true) (k19 : PySem.W.keepIn K (.ref f19) = true)
  {f20 : Addr} {oc20 kV20 dc20 pm20 cd20 ct20 : Value} {od20 an20 : Option Addr} {sl20 : Array (Option Value)}
  (a20 : PySem.W.nsIn K mainGlobals "_law_full" = some (some (.ref f20)))
  (l20 : K.lookup f20 = some ⟨oc20, od20, .func (PySem.W.fnOf "_law_full" "_law_full" (defArgs s_law_full) (defBody s_law_full) (defScope s_law_full) .none kV20 dc20 pm20 an20 cd20 ct20), sl20⟩)
  (c20 : PySem.W.codeIn K cd20 "_law_full" = true) (k20 : PySem.W.keepIn K (.ref f20) = true)
  {f21 : Addr} {oc21 kV21 dc21 pm21 cd21 ct21 : Value} {od21 an21 : Option Addr} {sl21 : Array (Option Value)}
  (a21 : PySem.W.nsIn K mainGlobals "_law_rooms_right" = some (some (.ref f21)))
  (l21 : K.lookup f21 = some ⟨oc21, od21, .func (PySem.W.fnOf "_law_rooms_right" "_law_rooms_right" (defArgs s_law_rooms_right) (defBody s_law_rooms_right) (defScope s_law_rooms_right) .none kV21 dc21 pm21 an21 cd21 ct21), sl21⟩)
  (c21 : PySem.W.codeIn K cd21 "_law_rooms_right" = true) (k21 : PySem.W.keepIn K (.ref f21) = true)
  {f22 : Addr} {oc22 kV22 dc22 pm22 cd22 ct22 : Value} {od22 an22 : Option Addr} {sl22 : Array (Option Value)}
  (a22 : PySem.W.nsIn K mainGlobals "law" = some (some (.ref f22)))
  (l22 : K.lookup f22 = some ⟨oc22, od22, .func (PySem.W.fnOf "law" "law" (defArgs s_law) (defBody s_law) (defScope s_law) .none kV22 dc22 pm22 an22 cd22 ct22), sl22⟩)
  (c22 : PySem.W.codeIn K cd22 "law" = true) (k22 : PySem.W.keepIn K (.ref f22) = true)
  (z_abs : PySem.W.nsIn K mainGlobals "abs" = some none)
  (z_all : PySem.W.nsIn K mainGlobals "all" = some none)
  (z_bool : PySem.W.nsIn K mainGlobals "bool" = some none)
  (z_int : PySem.W.nsIn K mainGlobals "int" = some none)
  (z_isinstance : PySem.W.nsIn K mainGlobals "isinstance" = some none)
  (z_len : PySem.W.nsIn K mainGlobals "len" = some none)
  (z_list : PySem.W.nsIn K mainGlobals "list" = some none)
  (z_max : PySem.W.nsIn K mainGlobals "max" = some none)
  (z_min : PySem.W.nsIn K mainGlobals "min" = some none)
  (z_range : PySem.W.nsIn K mainGlobals "range" = some none)
  (z_str : PySem.W.nsIn K mainGlobals "str" = some none)
  (z_tuple : PySem.W.nsIn K mainGlobals "tuple" = some none)
  {t_MOST_KIDS : Tok}
  (v_MOST_KIDS : PySem.W.nsIn K mainGlobals "MOST_KIDS" = some (some (.int 4 t_MOST_KIDS))) : Txt K mg where
  f_figures := def_mk X GN a0 l0 c0 k0 fun _ _ _ _ _ _ us hl => match us, hl with | [_, _], _ => rfl
  f_number_in := def_mk X GN a1 l1 c1 k1 fun _ _ _ _ _ _ us hl => match us, hl with | [_, _, _], _ => rfl
  f_entry_room := def_mk X GN a2 l2 c2 k2 fun _ _ _ _ _ _ us hl => match us, hl with | [_], _ => rfl
  f_node_text := def_mk X GN a3 l3 c3 k3 fun _ _ _ _ _ _ us hl => match us, hl with | [_], _ => rfl
  f_text_in := def_mk X GN a4 l4 c4 k4 fun _ _ _ _ _ _ us hl => match us, hl with | [_, _, _], _ => rfl
  f_leaf_told := def_mk X GN a5 l5 c5 k5 fun _ _ _ _ _ _ us hl => match us, hl with | [_], _ => rfl
  f_inner_told := def_mk X GN a6 l6 c6 k6 fun _ _ _ _ _ _ us hl => match us, hl with | [_], _ => rfl
  f_node_told := def_mk X GN a7 l7 c7 k7 fun _ _ _ _ _ _ us hl => match us, hl with | [_], _ => rfl
  f_law_flow := def_mk X GN a8 l8 c8 k8 fun _ _ _ _ _ _ us hl => match us, hl with | [_], _ => rfl
  f_law_draw := def_mk X GN a9 l9 c9 k9 fun _ _ _ _ _ _ us hl => match us, hl with | [_, _], _ => rfl
  f_law_sign := def_mk X GN a10 l10 c10 k10 fun _ _ _ _ _ _ us hl => match us, hl with | [_], _ => rfl
  f_law_text := def_mk X GN a11 l11 c11 k11 fun _ _ _ _ _ _ us hl => match us, hl with | [_, _], _ => rfl
  f_law_same := def_mk X GN a12 l12 c12 k12 fun _ _ _ _ _ _ us hl => match us, hl with | [_, _], _ => rfl
  f_law_part := def_mk X GN a13 l13 c13 k13 fun _ _ _ _ _ _ us hl => match us, hl with | [_, _, _], _ => rfl
  f_law_node_text := def_mk X GN a14 l14 c14 k14 fun _ _ _ _ _ _ us hl => match us, hl with | [_], _ => rfl
  f_law_leaf_told := def_mk X GN a15 l15 c15 k15 fun _ _ _ _ _ _ us hl => match us, hl with | [_], _ => rfl
  f_law_node_told := def_mk X GN a16 l16 c16 k16 fun _ _ _ _ _ _ us hl => match us, hl with | [_], _ => rfl
  f_law_node := def_mk X GN a17 l17 c17 k17 fun _ _ _ _ _ _ us hl => match us, hl with | [_], _ => rfl
  f_law_near := def_mk X GN a18 l18 c18 k18 fun _ _ _ _ _ _ us hl => match us, hl with | [_, _], _ => rfl
  f_law_put_together := def_mk X GN a19 l19 c19 k19 fun _ _ _ _ _ _ us hl => match us, hl with | [_], _ => rfl
  f_law_full := def_mk X GN a20 l20 c20 k20 fun _ _ _ _ _ _ us hl => match us, hl with | [_, _], _ => rfl
  f_law_rooms_right := def_mk X GN a21 l21 c21 k21 fun _ _ _ _ _ _ us hl => match us, hl with | [_], _ => rfl
  f_law := def_mk X GN a22 l22 c22 k22 fun _ _ _ _ _ _ us hl => match us, hl with | [_], _ => rfl
  b_abs := PySem.W.mg_none_of X GN z_abs
  b_all := PySem.W.mg_none_of X GN z_all
  b_bool := PySem.W.mg_none_of X GN z_bool
  b_int := PySem.W.mg_none_of X GN z_int
  b_isinstance := PySem.W.mg_none_of X GN z_isinstance
  b_len := PySem.W.mg_none_of X GN z_len
  b_list := PySem.W.mg_none_of X GN z_list
  b_max := PySem.W.mg_none_of X GN z_max
  b_min := PySem.W.mg_none_of X GN z_min
  b_range := PySem.W.mg_none_of X GN z_range
  b_str := PySem.W.mg_none_of X GN z_str
  b_tuple := PySem.W.mg_none_of X GN z_tuple
  c_MOST_KIDS := ⟨_, PySem.W.mg_of X GN v_MOST_KIDS, ⟨_, rfl⟩⟩

theorem law_cal (T : Txt K mg) : Cal P w K mg base 8 "law" s_law ["script"] sp_law := by
  have C_figures : Cal P w K mg base 1 "figures" s_figures ["number", "many"] sp_figures := ok_figures T 
  have C_number_in : Cal P w K mg base 1 "number_in" s_number_in ["text", "at", "many"] sp_number_in := ok_number_in T 
  have C_entry_room : Cal P w K mg base 1 "entry_room" s_entry_room ["signs"] sp_entry_room := ok_entry_room T 
  have C_node_text : Cal P w K mg base 2 "node_text" s_node_text ["node"] sp_node_text := ok_node_text T C_figures
  have C_text_in : Cal P w K mg base 1 "text_in" s_text_in ["text", "at", "long"] sp_text_in := ok_text_in T 
  have C_leaf_told : Cal P w K mg base 2 "leaf_told" s_leaf_told ["text"] sp_leaf_told := ok_leaf_told T C_text_in C_number_in
  have C_inner_told : Cal P w K mg base 2 "inner_told" s_inner_told ["text"] sp_inner_told := ok_inner_told T C_number_in C_text_in
  have C_node_told : Cal P w K mg base 3 "node_told" s_node_told ["text"] sp_node_told := ok_node_told T C_leaf_told C_inner_told
  have C_law_flow : Cal P w K mg base 1 "_law_flow" s_law_flow ["script"] sp_law_flow := ok_law_flow T 
  have C_law_draw : Cal P w K mg base 1 "_law_draw" s_law_draw ["flow", "many"] sp_law_draw := ok_law_draw T 
  have C_law_sign : Cal P w K mg base 2 "_law_sign" s_law_sign ["flow"] sp_law_sign := ok_law_sign T C_law_draw
  have C_law_text : Cal P w K mg base 3 "_law_text" s_law_text ["flow", "most"] sp_law_text := ok_law_text T C_law_draw C_law_sign
  have C_law_same : Cal P w K mg base 6 "_law_same" s_law_same ["found", "due"] sp_law_same := ok_law_same T 
  have C_law_part : Cal P w K mg base 1 "_law_part" s_law_part ["text", "at", "many"] sp_law_part := ok_law_part T 
  have C_law_node_text : Cal P w K mg base 1 "_law_node_text" s_law_node_text ["node"] sp_law_node_text := ok_law_node_text T 
  have C_law_leaf_told : Cal P w K mg base 2 "_law_leaf_told" s_law_leaf_told ["text"] sp_law_leaf_told := ok_law_leaf_told T C_law_part
  have C_law_node_told : Cal P w K mg base 3 "_law_node_told" s_law_node_told ["text"] sp_law_node_told := ok_law_node_told T C_law_leaf_told C_law_part
  have C_law_node : Cal P w K mg base 4 "_law_node" s_law_node ["flow"] sp_law_node := ok_law_node T C_law_draw C_law_text
  have C_law_near : Cal P w K mg base 3 "_law_near" s_law_near ["flow", "text"] sp_law_near := ok_law_near T C_law_draw C_law_sign
  have C_law_put_together : Cal P w K mg base 2 "_law_put_together" s_law_put_together ["flow"] sp_law_put_together := ok_law_put_together T C_law_draw
  have C_law_full : Cal P w K mg base 4 "_law_full" s_law_full ["flow", "long"] sp_law_full := ok_law_full T C_law_text
  have C_law_rooms_right : Cal P w K mg base 7 "_law_rooms_right" s_law_rooms_right ["flow"] sp_law_rooms_right := ok_law_rooms_right T C_law_draw C_law_same C_entry_room C_law_full C_law_node_text C_node_text
  have C_law : Cal P w K mg base 8 "law" s_law ["script"] sp_law := ok_law T C_law_flow C_law_node C_law_node_text C_law_same C_node_told C_node_text C_law_near C_law_put_together C_law_node_told C_law_rooms_right
  exact C_law
theorem all_mk {P : Program} {w : World} {K : PySem.W.Frag} {h : Heap} {mg : Str → Option Value} {fa : Addr} (hm : mg "law" = some (.ref fa)) (X : K.In h)
  (GN : h.Ns mainGlobals mg)
  {f0 : Addr} {oc0 kV0 dc0 pm0 cd0 ct0 : Value} {od0 an0 : Option Addr} {sl0 : Array (Option Value)}
  (a0 : PySem.W.nsIn K mainGlobals "figures" = some (some (.ref f0)))
  (l0 : K.lookup f0 = some ⟨oc0, od0, .func (PySem.W.fnOf "figures" "figures" (defArgs s_figures) (defBody s_figures) (defScope s_figures) .none kV0 dc0 pm0 an0 cd0 ct0), sl0⟩)
  (c0 : PySem.W.codeIn K cd0 "figures" = true) (k0 : PySem.W.keepIn K (.ref f0) = true)
  {f1 : Addr} {oc1 kV1 dc1 pm1 cd1 ct1 : Value} {od1 an1 : Option Addr} {sl1 : Array (Option Value)}
  (a1 : PySem.W.nsIn K mainGlobals "number_in" = some (some (.ref f1)))
  (l1 : K.lookup f1 = some ⟨oc1, od1, .func (PySem.W.fnOf "number_in" "number_in" (defArgs s_number_in) (defBody s_number_in) (defScope s_number_in) .none kV1 dc1 pm1 an1 cd1 ct1), sl1⟩)
  (c1 : PySem.W.codeIn K cd1 "number_in" = true) (k1 : PySem.W.keepIn K (.ref f1) = true)
  {f2 : Addr} {oc2 kV2 dc2 pm2 cd2 ct2 : Value} {od2 an2 : Option Addr} {sl2 : Array (Option Value)}
  (a2 : PySem.W.nsIn K mainGlobals "entry_room" = some (some (.ref f2)))
  (l2 : K.lookup f2 = some ⟨oc2, od2, .func (PySem.W.fnOf "entry_room" "entry_room" (defArgs s_entry_room) (defBody s_entry_room) (defScope s_entry_room) .none kV2 dc2 pm2 an2 cd2 ct2), sl2⟩)
  (c2 : PySem.W.codeIn K cd2 "entry_room" = true) (k2 : PySem.W.keepIn K (.ref f2) = true)
  {f3 : Addr} {oc3 kV3 dc3 pm3 cd3 ct3 : Value} {od3 an3 : Option Addr} {sl3 : Array (Option Value)}
  (a3 : PySem.W.nsIn K mainGlobals "node_text" = some (some (.ref f3)))
  (l3 : K.lookup f3 = some ⟨oc3, od3, .func (PySem.W.fnOf "node_text" "node_text" (defArgs s_node_text) (defBody s_node_text) (defScope s_node_text) .none kV3 dc3 pm3 an3 cd3 ct3), sl3⟩)
  (c3 : PySem.W.codeIn K cd3 "node_text" = true) (k3 : PySem.W.keepIn K (.ref f3) = true)
  {f4 : Addr} {oc4 kV4 dc4 pm4 cd4 ct4 : Value} {od4 an4 : Option Addr} {sl4 : Array (Option Value)}
  (a4 : PySem.W.nsIn K mainGlobals "text_in" = some (some (.ref f4)))
  (l4 : K.lookup f4 = some ⟨oc4, od4, .func (PySem.W.fnOf "text_in" "text_in" (defArgs s_text_in) (defBody s_text_in) (defScope s_text_in) .none kV4 dc4 pm4 an4 cd4 ct4), sl4⟩)
  (c4 : PySem.W.codeIn K cd4 "text_in" = true) (k4 : PySem.W.keepIn K (.ref f4) = true)
  {f5 : Addr} {oc5 kV5 dc5 pm5 cd5 ct5 : Value} {od5 an5 : Option Addr} {sl5 : Array (Option Value)}
  (a5 : PySem.W.nsIn K mainGlobals "leaf_told" = some (some (.ref f5)))
  (l5 : K.lookup f5 = some ⟨oc5, od5, .func (PySem.W.fnOf "leaf_told" "leaf_told" (defArgs s_leaf_told) (defBody s_leaf_told) (defScope s_leaf_told) .none kV5 dc5 pm5 an5 cd5 ct5), sl5⟩)
  (c5 : PySem.W.codeIn K cd5 "leaf_told" = true) (k5 : PySem.W.keepIn K (.ref f5) = true)
  {f6 : Addr} {oc6 kV6 dc6 pm6 cd6 ct6 : Value} {od6 an6 : Option Addr} {sl6 : Array (Option Value)}
  (a6 : PySem.W.nsIn K mainGlobals "inner_told" = some (some (.ref f6)))
  (l6 : K.lookup f6 = some ⟨oc6, od6, .func (PySem.W.fnOf "inner_told" "inner_told" (defArgs s_inner_told) (defBody s_inner_told) (defScope s_inner_told) .none kV6 dc6 pm6 an6 cd6 ct6), sl6⟩)
  (c6 : PySem.W.codeIn K cd6 "inner_told" = true) (k6 : PySem.W.keepIn K (.ref f6) = true)
  {f7 : Addr} {oc7 kV7 dc7 pm7 cd7 ct7 : Value} {od7 an7 : Option Addr} {sl7 : Array (Option Value)}
  (a7 : PySem.W.nsIn K mainGlobals "node_told" = some (some (.ref f7)))
  (l7 : K.lookup f7 = some ⟨oc7, od7, .func (PySem.W.fnOf "node_told" "node_told" (defArgs s_node_told) (defBody s_node_told) (defScope s_node_told) .none kV7 dc7 pm7 an7 cd7 ct7), sl7⟩)
  (c7 : PySem.W.codeIn K cd7 "node_told" = true) (k7 : PySem.W.keepIn K (.ref f7) = true)
  {f8 : Addr} {oc8 kV8 dc8 pm8 cd8 ct8 : Value} {od8 an8 : Option Addr} {sl8 : Array (Option Value)}
  (a8 : PySem.W.nsIn K mainGlobals "_law_flow" = some (some (.ref f8)))
  (l8 : K.lookup f8 = some ⟨oc8, od8, .func (PySem.W.fnOf "_law_flow" "_law_flow" (defArgs s_law_flow) (defBody s_law_flow) (defScope s_law_flow) .none kV8 dc8 pm8 an8 cd8 ct8), sl8⟩)
  (c8 : PySem.W.codeIn K cd8 "_law_flow" = true) (k8 : PySem.W.keepIn K (.ref f8) = true)
  {f9 : Addr} {oc9 kV9 dc9 pm9 cd9 ct9 : Value} {od9 an9 : Option Addr} {sl9 : Array (Option Value)}
  (a9 : PySem.W.nsIn K mainGlobals "_law_draw" = some (some (.ref f9)))
  (l9 : K.lookup f9 = some ⟨oc9, od9, .func (PySem.W.fnOf "_law_draw" "_law_draw" (defArgs s_law_draw) (defBody s_law_draw) (defScope s_law_draw) .none kV9 dc9 pm9 an9 cd9 ct9), sl9⟩)
  (c9 : PySem.W.codeIn K cd9 "_law_draw" = true) (k9 : PySem.W.keepIn K (.ref f9) = true)
  {f10 : Addr} {oc10 kV10 dc10 pm10 cd10 ct10 : Value} {od10 an10 : Option Addr} {sl10 : Array (Option Value)}
  (a10 : PySem.W.nsIn K mainGlobals "_law_sign" = some (some (.ref f10)))
  (l10 : K.lookup f10 = some ⟨oc10, od10, .func (PySem.W.fnOf "_law_sign" "_law_sign" (defArgs s_law_sign) (defBody s_law_sign) (defScope s_law_sign) .none kV10 dc10 pm10 an10 cd10 ct10), sl10⟩)
  (c10 : PySem.W.codeIn K cd10 "_law_sign" = true) (k10 : PySem.W.keepIn K (.ref f10) = true)
  {f11 : Addr} {oc11 kV11 dc11 pm11 cd11 ct11 : Value} {od11 an11 : Option Addr} {sl11 : Array (Option Value)}
  (a11 : PySem.W.nsIn K mainGlobals "_law_text" = some (some (.ref f11)))
  (l11 : K.lookup f11 = some ⟨oc11, od11, .func (PySem.W.fnOf "_law_text" "_law_text" (defArgs s_law_text) (defBody s_law_text) (defScope s_law_text) .none kV11 dc11 pm11 an11 cd11 ct11), sl11⟩)
  (c11 : PySem.W.codeIn K cd11 "_law_text" = true) (k11 : PySem.W.keepIn K (.ref f11) = true)
  {f12 : Addr} {oc12 kV12 dc12 pm12 cd12 ct12 : Value} {od12 an12 : Option Addr} {sl12 : Array (Option Value)}
  (a12 : PySem.W.nsIn K mainGlobals "_law_same" = some (some (.ref f12)))
  (l12 : K.lookup f12 = some ⟨oc12, od12, .func (PySem.W.fnOf "_law_same" "_law_same" (defArgs s_law_same) (defBody s_law_same) (defScope s_law_same) .none kV12 dc12 pm12 an12 cd12 ct12), sl12⟩)
  (c12 : PySem.W.codeIn K cd12 "_law_same" = true) (k12 : PySem.W.keepIn K (.ref f12) = true)
  {f13 : Addr} {oc13 kV13 dc13 pm13 cd13 ct13 : Value} {od13 an13 : Option Addr} {sl13 : Array (Option Value)}
  (a13 : PySem.W.nsIn K mainGlobals "_law_part" = some (some (.ref f13)))
  (l13 : K.lookup f13 = some ⟨oc13, od13, .func (PySem.W.fnOf "_law_part" "_law_part" (defArgs s_law_part) (defBody s_law_part) (defScope s_law_part) .none kV13 dc13 pm13 an13 cd13 ct13), sl13⟩)
  (c13 : PySem.W.codeIn K cd13 "_law_part" = true) (k13 : PySem.W.keepIn K (.ref f13) = true)
  {f14 : Addr} {oc14 kV14 dc14 pm14 cd14 ct14 : Value} {od14 an14 : Option Addr} {sl14 : Array (Option Value)}
  (a14 : PySem.W.nsIn K mainGlobals "_law_node_text" = some (some (.ref f14)))
  (l14 : K.lookup f14 = some ⟨oc14, od14, .func (PySem.W.fnOf "_law_node_text" "_law_node_text" (defArgs s_law_node_text) (defBody s_law_node_text) (defScope s_law_node_text) .none kV14 dc14 pm14 an14 cd14 ct14), sl14⟩)
  (c14 : PySem.W.codeIn K cd14 "_law_node_text" = true) (k14 : PySem.W.keepIn K (.ref f14) = true)
  {f15 : Addr} {oc15 kV15 dc15 pm15 cd15 ct15 : Value} {od15 an15 : Option Addr} {sl15 : Array (Option Value)}
  (a15 : PySem.W.nsIn K mainGlobals "_law_leaf_told" = some (some (.ref f15)))
  (l15 : K.lookup f15 = some ⟨oc15, od15, .func (PySem.W.fnOf "_law_leaf_told" "_law_leaf_told" (defArgs s_law_leaf_told) (defBody s_law_leaf_told) (defScope s_law_leaf_told) .none kV15 dc15 pm15 an15 cd15 ct15), sl15⟩)
  (c15 : PySem.W.codeIn K cd15 "_law_leaf_told" = true) (k15 : PySem.W.keepIn K (.ref f15) = true)
  {f16 : Addr} {oc16 kV16 dc16 pm16 cd16 ct16 : Value} {od16 an16 : Option Addr} {sl16 : Array (Option Value)}
  (a16 : PySem.W.nsIn K mainGlobals "_law_node_told" = some (some (.ref f16)))
  (l16 : K.lookup f16 = some ⟨oc16, od16, .func (PySem.W.fnOf "_law_node_told" "_law_node_told" (defArgs s_law_node_told) (defBody s_law_node_told) (defScope s_law_node_told) .none kV16 dc16 pm16 an16 cd16 ct16), sl16⟩)
  (c16 : PySem.W.codeIn K cd16 "_law_node_told" = true) (k16 : PySem.W.keepIn K (.ref f16) = true)
  {f17 : Addr} {oc17 kV17 dc17 pm17 cd17 ct17 : Value} {od17 an17 : Option Addr} {sl17 : Array (Option Value)}
  (a17 : PySem.W.nsIn K mainGlobals "_law_node" = some (some (.ref f17)))
  (l17 : K.lookup f17 = some ⟨oc17, od17, .func (PySem.W.fnOf "_law_node" "_law_node" (defArgs s_law_node) (defBody s_law_node) (defScope s_law_node) .none kV17 dc17 pm17 an17 cd17 ct17), sl17⟩)
  (c17 : PySem.W.codeIn K cd17 "_law_node" = true) (k17 : PySem.W.keepIn K (.ref f17) = true)
  {f18 : Addr} {oc18 kV18 dc18 pm18 cd18 ct18 : Value} {od18 an18 : Option Addr} {sl18 : Array (Option Value)}
  (a18 : PySem.W.nsIn K mainGlobals "_law_near" = some (some (.ref f18)))
  (l18 : K.lookup f18 = some ⟨oc18, od18, .func (PySem.W.fnOf "_law_near" "_law_near" (defArgs s_law_near) (defBody s_law_near) (defScope s_law_near) .none kV18 dc18 pm18 an18 cd18 ct18), sl18⟩)
  (c18 : PySem.W.codeIn K cd18 "_law_near" = true) (k18 : PySem.W.keepIn K (.ref f18) = true)
  {f19 : Addr} {oc19 kV19 dc19 pm19 cd19 ct19 : Value} {od19 an19 : Option Addr} {sl19 : Array (Option Value)}
  (a19 : PySem.W.nsIn K mainGlobals "_law_put_together" = some (some (.ref f19)))
  (l19 : K.lookup f19 = some ⟨oc19, od19, .func (PySem.W.fnOf "_law_put_together" "_law_put_together" (defArgs s_law_put_together) (defBody s_law_put_together) (defScope s_law_put_together) .none kV19 dc19 pm19 an19 cd19 ct19), sl19⟩)
  (c19 : PySem.W.codeIn K cd19 "_law_put_together" = true) (k19 : PySem.W.keepIn K (.ref f19) = true)
  {f20 : Addr} {oc20 kV20 dc20 pm20 cd20 ct20 : Value} {od20 an20 : Option Addr} {sl20 : Array (Option Value)}
  (a20 : PySem.W.nsIn K mainGlobals "_law_full" = some (some (.ref f20)))
  (l20 : K.lookup f20 = some ⟨oc20, od20, .func (PySem.W.fnOf "_law_full" "_law_full" (defArgs s_law_full) (defBody s_law_full) (defScope s_law_full) .none kV20 dc20 pm20 an20 cd20 ct20), sl20⟩)
  (c20 : PySem.W.codeIn K cd20 "_law_full" = true) (k20 : PySem.W.keepIn K (.ref f20) = true)
  {f21 : Addr} {oc21 kV21 dc21 pm21 cd21 ct21 : Value} {od21 an21 : Option Addr} {sl21 : Array (Option Value)}
  (a21 : PySem.W.nsIn K mainGlobals "_law_rooms_right" = some (some (.ref f21)))
  (l21 : K.lookup f21 = some ⟨oc21, od21, .func (PySem.W.fnOf "_law_rooms_right" "_law_rooms_right" (defArgs s_law_rooms_right) (defBody s_law_rooms_right) (defScope s_law_rooms_right) .none kV21 dc21 pm21 an21 cd21 ct21), sl21⟩)
  (c21 : PySem.W.codeIn K cd21 "_law_rooms_right" = true) (k21 : PySem.W.keepIn K (.ref f21) = true)
  {f22 : Addr} {oc22 kV22 dc22 pm22 cd22 ct22 : Value} {od22 an22 : Option Addr} {sl22 : Array (Option Value)}
  (a22 : PySem.W.nsIn K mainGlobals "law" = some (some (.ref f22)))
  (l22 : K.lookup f22 = some ⟨oc22, od22, .func (PySem.W.fnOf "law" "law" (defArgs s_law) (defBody s_law) (defScope s_law) .none kV22 dc22 pm22 an22 cd22 ct22), sl22⟩)
  (c22 : PySem.W.codeIn K cd22 "law" = true) (k22 : PySem.W.keepIn K (.ref f22) = true)
  (z_abs : PySem.W.nsIn K mainGlobals "abs" = some none)
  (z_all : PySem.W.nsIn K mainGlobals "all" = some none)
  (z_bool : PySem.W.nsIn K mainGlobals "bool" = some none)
  (z_int : PySem.W.nsIn K mainGlobals "int" = some none)
  (z_isinstance : PySem.W.nsIn K mainGlobals "isinstance" = some none)
  (z_len : PySem.W.nsIn K mainGlobals "len" = some none)
  (z_list : PySem.W.nsIn K mainGlobals "list" = some none)
  (z_max : PySem.W.nsIn K mainGlobals "max" = some none)
  (z_min : PySem.W.nsIn K mainGlobals "min" = some none)
  (z_range : PySem.W.nsIn K mainGlobals "range" = some none)
  (z_str : PySem.W.nsIn K mainGlobals "str" = some none)
  (z_tuple : PySem.W.nsIn K mainGlobals "tuple" = some none)
  {t_MOST_KIDS : Tok}
  (v_MOST_KIDS : PySem.W.nsIn K mainGlobals "MOST_KIDS" = some (some (.int 4 t_MOST_KIDS))) :
  ∃ fd : FuncData, (∀ (s : Shared) (u : Value), BindsTo s fd ⟨[u], []⟩ [("script", u)]) ∧ ∀ base : Heap, K.In base → base.Ns mainGlobals mg → FnOk P w K mg base (L2.CX P w) 8 fa fd ["script"] (toSp K 1 sp_law) := by
  have T : Txt K mg := txt_mk X GN a0 l0 c0 k0 a1 l1 c1 k1 a2 l2 c2 k2 a3 l3 c3 k3 a4 l4 c4 k4 a5 l5 c5 k5 a6 l6 c6 k6 a7 l7 c7 k7 a8 l8 c8 k8 a9 l9 c9 k9 a10 l10 c10 k10 a11 l11 c11 k11 a12 l12 c12 k12 a13 l13 c13 k13 a14 l14 c14 k14 a15 l15 c15 k15 a16 l16 c16 k16 a17 l17 c17 k17 a18 l18 c18 k18 a19 l19 c19 k19 a20 l20 c20 k20 a21 l21 c21 k21 a22 l22 c22 k22 z_abs z_all z_bool z_int z_isinstance z_len z_list z_max z_min z_range z_str z_tuple v_MOST_KIDS
  obtain ⟨fd, hb, hF⟩ := law_fn (P := P) (w := w) T.f_law (fun _ _ _ _ _ _ _ => rfl) (fun base => law_cal T) hm
  exact ⟨fd, hb, fun base _ _ => hF base⟩

end K07

open PySem PySem.W PyProof.Rows in
set_option maxRecDepth 100000 in
set_option maxHeartbeats 0 in
theorem PySem.Challenge.cw_heldlevels_k07_texts_of_nodes_holds : PySem.Challenge.rw_heldlevels_k07_texts_of_nodes.Holds := by
  w_on; o_law; k_head; (case hw => w_witness2)
  k_fill
  refine G.walkX (n := 63) (k := 8) (CX := L2.CX PySem.Challenge.rw_heldlevels_k07_texts_of_nodes.prog) (x := "script") (sp := fun w => G.toSp _ 1 G.spTrue) (by decide +kernel) (by decide) rfl ⟨rfl, by decide, by decide⟩ (fun w h Y => PySem.W.kIn_of Y) ?F (fun w H a ns h1 h2 _ hS => G.toSp_true h1 h2 hS) (fun w H s e s2 h => G.cx_none h)
  case F =>
    intro w mg fa h XP KX GN hmg
    refine' K07.all_mk hmg KX GN ?a0 ?l0 ?c0 ?k0 ?a1 ?l1 ?c1 ?k1 ?a2 ?l2 ?c2 ?k2 ?a3 ?l3 ?c3 ?k3 ?a4 ?l4 ?c4 ?k4 ?a5 ?l5 ?c5 ?k5 ?a6 ?l6 ?c6 ?k6 ?a7 ?l7 ?c7 ?k7 ?a8 ?l8 ?c8 ?k8 ?a9 ?l9 ?c9 ?k9 ?a10 ?l10 ?c10 ?k10 ?a11 ?l11 ?c11 ?k11 ?a12 ?l12 ?c12 ?k12 ?a13 ?l13 ?c13 ?k13 ?a14 ?l14 ?c14 ?k14 ?a15 ?l15 ?c15 ?k15 ?a16 ?l16 ?c16 ?k16 ?a17 ?l17 ?c17 ?k17 ?a18 ?l18 ?c18 ?k18 ?a19 ?l19 ?c19 ?k19 ?a20 ?l20 ?c20 ?k20 ?a21 ?l21 ?c21 ?k21 ?a22 ?l22 ?c22 ?k22 ?z_abs ?z_all ?z_bool ?z_int ?z_isinstance ?z_len ?z_list ?z_max ?z_min ?z_range ?z_str ?z_tuple ?v_MOST_KIDS
    (case a0 => k_is)
    (case l0 => k_is)
    (case c0 => k_is)
    (case k0 => k_is)
    (case a1 => k_is)
    (case l1 => k_is)
    (case c1 => k_is)
    (case k1 => k_is)
    (case a2 => k_is)
    (case l2 => k_is)
    (case c2 => k_is)
    (case k2 => k_is)
    (case a3 => k_is)
    (case l3 => k_is)
    (case c3 => k_is)
    (case k3 => k_is)
    (case a4 => k_is)
    (case l4 => k_is)
    (case c4 => k_is)
    (case k4 => k_is)
    (case a5 => k_is)
    (case l5 => k_is)
    (case c5 => k_is)
    (case k5 => k_is)
    (case a6 => k_is)
    (case l6 => k_is)
    (case c6 => k_is)
    (case k6 => k_is)
    (case a7 => k_is)
    (case l7 => k_is)
    (case c7 => k_is)
    (case k7 => k_is)
    (case a8 => k_is)
    (case l8 => k_is)
    (case c8 => k_is)
    (case k8 => k_is)
    (case a9 => k_is)
    (case l9 => k_is)
    (case c9 => k_is)
    (case k9 => k_is)
    (case a10 => k_is)
    (case l10 => k_is)
    (case c10 => k_is)
    (case k10 => k_is)
    (case a11 => k_is)
    (case l11 => k_is)
    (case c11 => k_is)
    (case k11 => k_is)
    (case a12 => k_is)
    (case l12 => k_is)
    (case c12 => k_is)
    (case k12 => k_is)
    (case a13 => k_is)
    (case l13 => k_is)
    (case c13 => k_is)
    (case k13 => k_is)
    (case a14 => k_is)
    (case l14 => k_is)
    (case c14 => k_is)
    (case k14 => k_is)
    (case a15 => k_is)
    (case l15 => k_is)
    (case c15 => k_is)
    (case k15 => k_is)
    (case a16 => k_is)
    (case l16 => k_is)
    (case c16 => k_is)
    (case k16 => k_is)
    (case a17 => k_is)
    (case l17 => k_is)
    (case c17 => k_is)
    (case k17 => k_is)
    (case a18 => k_is)
    (case l18 => k_is)
    (case c18 => k_is)
    (case k18 => k_is)
    (case a19 => k_is)
    (case l19 => k_is)
    (case c19 => k_is)
    (case k19 => k_is)
    (case a20 => k_is)
    (case l20 => k_is)
    (case c20 => k_is)
    (case k20 => k_is)
    (case a21 => k_is)
    (case l21 => k_is)
    (case c21 => k_is)
    (case k21 => k_is)
    (case a22 => k_is)
    (case l22 => k_is)
    (case c22 => k_is)
    (case k22 => k_is)
    (case z_abs => k_is)
    (case z_all => k_is)
    (case z_bool => k_is)
    (case z_int => k_is)
    (case z_isinstance => k_is)
    (case z_len => k_is)
    (case z_list => k_is)
    (case z_max => k_is)
    (case z_min => k_is)
    (case z_range => k_is)
    (case z_str => k_is)
    (case z_tuple => k_is)
    (case v_MOST_KIDS => k_is)
#print axioms PySem.Challenge.cw_heldlevels_k07_texts_of_nodes_holds
