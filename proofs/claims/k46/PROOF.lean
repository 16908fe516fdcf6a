import PyProof.Rows.All
import Wide.All
import OpenK.AllK
import Wide.FinOn
import HandS.ForMost
import HandS.ForExc
import HandS.Wide
import HandS.IsInst
import HandS.StrMore
import HandS.TupAny
import PyProof.StrOps2
import PyProof.Rows.StrPadFill
import HandS.EndBits
import KE.IntTextLaws
import HandS.More
import HandS.Style
import HandS.List
import KE.KRevSl
import PyProof.ReprLen
import HandS.TryMany
import PyProof.ExcBaseAll.ValueError
import HandS.Sort
import KE.KSortTupG
import KE.KDictPairs
import HandS.ExcIs
import HandS.ExcField
import HandS.Strs
import PyProof.WalksMore
import PyProof.Rows.RuleB_bool
import HandS.Codes
import PyProof.Rows.StrCase
import PySem.Challenge.RW_heldlevels_k46_pasts_and_given_notes
set_option Elab.async false
set_option linter.all false
set_option maxRecDepth 100000
set_option maxHeartbeats 4000000
/-! G: programs read over plain data. -/
namespace G
open PySem PySem.Spec L2

/-- plain data: a flat value, a tuple, a list that nobody changes any more -/
inductive D where
  | v (x : V)
  | tup (ds : List D)
  | lst (ds : List D)
  /-- the script -/
  | scr (ns : List Int)
  /-- a dict that nobody changes any more: its keys, their values -/
  | dct (ks : List Key) (ds : List D)
  /-- a tuple of which it is known that it has no dict -/
  | tpf (ds : List D)
  /-- a caught exception: its class, the names of its fields (none: it has no dict), their values -/
  | exc (c : Value) (ks : Option (List Str)) (ds : List D)
abbrev Reg := Addr → Prop
/-- an object that may change -/
inductive MO where
  | lst (ds : List D)
  | ins (C dx : Addr) (fs : List (Str × D))
  | dK (kvs : List (Key × D))
abbrev Wd := Addr → Option MO
/-- what a slot of the frame holds: shared data, or a list of its own -/
inductive Sl where
  | sh (d : D)
  | om (o : MO)
abbrev Sl.ol (ds : List D) : Sl := .om (.lst ds)
abbrev Sl.od (kvs : List (Key × D)) : Sl := .om (.dK kvs)
abbrev Env := List (Option Sl)

abbrev D.int (i : Int) : D := .v (.int i)
abbrev D.str (s : Str) : D := .v (.str s)
abbrev D.bl (b : Bool) : D := .v (.bl b)
abbrev D.non : D := .v .non
abbrev D.ref (a : Addr) : D := .v (.ref a)

def emp : Hp := fun _ => none
def ImL (S : Reg) (H : Hp) (a : Addr) (xs : List V) : Prop := H a = some (.lst xs) ∧ ¬ S a
def ImS (K : PySem.W.Frag) (S : Reg) (H : Hp) (a : Addr) (xs : List V) : Prop := (Rd H a (.lst xs) ∧ ¬ S a) ∨ SqL K emp a xs
def ImT (K : PySem.W.Frag) (S : Reg) (H : Hp) (a : Addr) (xs : List V) : Prop := (H a = some (.tup xs) ∧ ¬ S a) ∨ SqT K emp a xs ∨ ∃ o, H a = some (.frz o (.tup xs)) ∧ ¬ S a
/-- an exception object of the class c, its dict, as it stands -/
def ExH (c : Value) (od : Option Addr) (a : Addr) : HO := .ext fun h => ∃ (oe : Obj) (vs : Array Value), h.get? a = some oe ∧ Zc c od oe ∧ oe.data = .fields vs
def XdAt (S : Reg) (H : Hp) (od : Option Addr) (n : Nat) (xs : List V) : Option (List Str) → Prop
  | none => od = none
  | some ks => ∃ d, od = some d ∧ (H d = some (.xd (ks.zip xs)) ∧ ¬ S d) ∧ ks.length = n
mutual
def Rep (K : PySem.W.Frag) (S : Reg) (H : Hp) : D → V → Prop
  | .v x, y => y = x
  | .tup ds, y => ∃ a xs, y = .ref a ∧ ImT K S H a xs ∧ Reps K S H ds xs
  | .lst ds, y => ∃ a xs, y = .ref a ∧ ImL S H a xs ∧ Reps K S H ds xs
  | .scr ns, y => ∃ a, y = .ref a ∧ ImS K S H a (ns.map V.int)
  | .dct ks ds, y => ∃ a xs, y = .ref a ∧ (H a = some (.dK (ks.zip xs)) ∧ ¬ S a) ∧ ks.length = ds.length ∧ Reps K S H ds xs
  | .tpf ds, y => ∃ a xs o, y = .ref a ∧ (H a = some (.frz o (.tup xs)) ∧ ¬ S a) ∧ o.dict = none ∧ Reps K S H ds xs
  | .exc c ks ds, y => ∃ a od xs, y = .ref a ∧ (H a = some (ExH c od a) ∧ ¬ S a) ∧ XdAt S H od ds.length xs ks ∧ Reps K S H ds xs
def Reps (K : PySem.W.Frag) (S : Reg) (H : Hp) : List D → List V → Prop
  | [], xs => xs = []
  | d :: ds, xs => ∃ x r, xs = x :: r ∧ Rep K S H d x ∧ Reps K S H ds r
end

/-- from one moment to a later one: F is not touched, what is no region of change stands -/
structure Stp (F : Reg) (S : Reg) (H : Hp) (S' : Reg) (H' : Hp) : Prop where
  keep : ∀ a o, ¬ S a → H a = some o → H' a = some o
  new : ∀ a, S' a → ¬ S a → H a = none
  dom : ∀ a, H' a = none → H a = none
  frn : ∀ a, F a → H' a = H a
theorem Stp.refl {F S : Reg} {H : Hp} : Stp F S H S H := ⟨fun _ _ _ e => e, fun _ a b => absurd a b, fun _ e => e, fun _ _ => rfl⟩
theorem Stp.trans {F S S1 S2 : Reg} {H H1 H2 : Hp} (a : Stp F S H S1 H1) (b : Stp F S1 H1 S2 H2) : Stp F S H S2 H2 where
  keep := fun x o hs e => by
    have e1 := a.keep x o hs e
    refine b.keep x o (fun hs1 => ?_) e1
    have := a.new x hs1 hs
    rw [this] at e; cases e
  new := fun x h2 hs => by
    by_cases h1 : S1 x
    · exact a.new x h1 hs
    · exact a.dom x (b.new x h2 h1)
  dom := fun x e => a.dom x (b.dom x e)
  frn := fun x hx => (b.frn x hx).trans (a.frn x hx)
theorem Stp.mono {F F' S S' : Reg} {H H' : Hp} (a : Stp F S H S' H') (h : ∀ x, F' x → F x) : Stp F' S H S' H' := ⟨a.keep, a.new, a.dom, fun x hx => a.frn x (h x hx)⟩
theorem Stp.rd {F S S' : Reg} {H H' : Hp} {a : Addr} {u : HO} (e : Stp F S H S' H') (h : Rd H a u ∧ ¬ S a) : Rd H' a u ∧ ¬ S' a := by
  obtain ⟨h, hs⟩ := h
  have hn : H a ≠ none := by
    rcases h with h | ⟨o, h⟩ <;> rw [h] <;> simp
  refine ⟨?_, fun hs' => hn (e.new a hs' hs)⟩
  rcases h with h | ⟨o, h⟩
  · exact .inl (e.keep a _ hs h)
  · exact .inr ⟨o, e.keep a _ hs h⟩
theorem Stp.imS {K : PySem.W.Frag} {F S S' : Reg} {H H' : Hp} {a : Addr} {xs : List V} (e : Stp F S H S' H') (h : ImS K S H a xs) : ImS K S' H' a xs := by
  rcases h with h | h
  · exact .inl (e.rd h)
  · exact .inr h
theorem Stp.imL {F S S' : Reg} {H H' : Hp} {a : Addr} {xs : List V} (e : Stp F S H S' H') (h : ImL S H a xs) : ImL S' H' a xs :=
  ⟨e.keep a _ h.2 h.1, fun hs' => by
    have := e.new a hs' h.2
    rw [h.1] at this; cases this⟩
theorem Stp.has {F S S' : Reg} {H H' : Hp} {a : Addr} {o : HO} (e : Stp F S H S' H') (h : H a = some o ∧ ¬ S a) : H' a = some o ∧ ¬ S' a :=
  ⟨e.keep a _ h.2 h.1, fun hs' => by
    have := e.new a hs' h.2
    rw [h.1] at this; cases this⟩
theorem Stp.imT {K : PySem.W.Frag} {F S S' : Reg} {H H' : Hp} {a : Addr} {xs : List V} (e : Stp F S H S' H') (h : ImT K S H a xs) : ImT K S' H' a xs := by
  rcases h with ⟨h, hs⟩ | h | ⟨o, h⟩
  · refine .inl ⟨e.keep a _ hs h, fun hs' => ?_⟩
    have := e.new a hs' hs
    rw [h] at this; cases this
  · exact .inr (.inl h)
  · exact .inr (.inr ⟨o, e.has h⟩)
theorem Stp.xd {F S S' : Reg} {H H' : Hp} {od : Option Addr} {n : Nat} {xs : List V} (e : Stp F S H S' H') : ∀ {ks : Option (List Str)}, XdAt S H od n xs ks → XdAt S' H' od n xs ks
  | none, h => h
  | some ks, ⟨d, h1, h2, h3⟩ => ⟨d, h1, e.has h2, h3⟩
mutual
theorem Rep.up {K : PySem.W.Frag} {F S S' : Reg} {H H' : Hp} (e : Stp F S H S' H') : ∀ {d : D} {v : V}, Rep K S H d v → Rep K S' H' d v
  | .v _, _, h => by simp only [Rep] at h ⊢; exact h
  | .tup ds, v, h => by
    simp only [Rep] at h ⊢
    obtain ⟨a, xs, e1, h1, h2⟩ := h
    exact ⟨a, xs, e1, e.imT h1, Reps.up e h2⟩
  | .lst ds, v, h => by
    simp only [Rep] at h ⊢
    obtain ⟨a, xs, e1, h1, h2⟩ := h
    exact ⟨a, xs, e1, e.imL h1, Reps.up e h2⟩
  | .scr ns, v, h => by
    simp only [Rep] at h ⊢
    obtain ⟨a, e1, h1⟩ := h
    exact ⟨a, e1, e.imS h1⟩
  | .dct ks ds, v, h => by
    simp only [Rep] at h ⊢
    obtain ⟨a, xs, e1, ⟨h1, hs⟩, hl, h2⟩ := h
    refine ⟨a, xs, e1, ⟨e.keep a _ hs h1, fun hs' => ?_⟩, hl, Reps.up e h2⟩
    have := e.new a hs' hs
    rw [h1] at this; cases this
  | .tpf ds, v, h => by
    simp only [Rep] at h ⊢
    obtain ⟨a, xs, o, e1, h0, h1, h2⟩ := h
    exact ⟨a, xs, o, e1, e.has h0, h1, Reps.up e h2⟩
  | .exc c ks ds, v, h => by
    simp only [Rep] at h ⊢
    obtain ⟨a, od, xs, e1, h0, h1, h2⟩ := h
    exact ⟨a, od, xs, e1, e.has h0, e.xd h1, Reps.up e h2⟩
theorem Reps.up {K : PySem.W.Frag} {F S S' : Reg} {H H' : Hp} (e : Stp F S H S' H') : ∀ {ds : List D} {vs : List V}, Reps K S H ds vs → Reps K S' H' ds vs
  | [], _, h => by simp only [Reps] at h ⊢; exact h
  | d :: ds, vs, h => by
    simp only [Reps] at h ⊢
    obtain ⟨x, r, e1, h1, h2⟩ := h
    exact ⟨x, r, e1, Rep.up e h1, Reps.up e h2⟩
end
theorem emp_l {K : PySem.W.Frag} {H : Hp} {a : Addr} {xs : List V} (h : SqL K emp a xs) : SqL K H a xs := by
  rcases h with (h | ⟨_, h⟩) | h
  · cases h
  · cases h
  · exact .inr h
theorem emp_t {K : PySem.W.Frag} {H : Hp} {a : Addr} {xs : List V} (h : SqT K emp a xs) : SqT K H a xs := by
  rcases h with (h | ⟨_, h⟩) | h
  · cases h
  · cases h
  · exact .inr h
theorem ImS.sq {K : PySem.W.Frag} {S : Reg} {H : Hp} {a : Addr} {xs : List V} (h : ImS K S H a xs) : SqL K H a xs := by
  rcases h with h | h
  · exact .inl h.1
  · exact emp_l h
theorem ImL.sq {K : PySem.W.Frag} {S : Reg} {H : Hp} {a : Addr} {xs : List V} (h : ImL S H a xs) : SqL K H a xs := SqL.of h.1
theorem ImT.sq {K : PySem.W.Frag} {S : Reg} {H : Hp} {a : Addr} {xs : List V} (h : ImT K S H a xs) : SqT K H a xs := by
  rcases h with h | h | ⟨o, h⟩
  · exact SqT.of h.1
  · exact emp_t h
  · exact .inl (.inr ⟨o, h.1⟩)
section
variable {K : PySem.W.Frag} {S : Reg} {H : Hp} {d : D} {ds : List D} {v : V} {vs : List V}
theorem Rep.v_iff {x : V} : Rep K S H (.v x) v ↔ v = x := by simp only [Rep]
theorem Rep.tup_iff : Rep K S H (.tup ds) v ↔ ∃ a xs, v = .ref a ∧ ImT K S H a xs ∧ Reps K S H ds xs := by simp only [Rep]
theorem Rep.lst_iff : Rep K S H (.lst ds) v ↔ ∃ a xs, v = .ref a ∧ ImL S H a xs ∧ Reps K S H ds xs := by simp only [Rep]
theorem Rep.scr_iff {ns : List Int} : Rep K S H (.scr ns) v ↔ ∃ a, v = .ref a ∧ ImS K S H a (ns.map V.int) := by simp only [Rep]
theorem Rep.dct_iff {ks : List Key} : Rep K S H (.dct ks ds) v ↔ ∃ a xs, v = .ref a ∧ (H a = some (.dK (ks.zip xs)) ∧ ¬ S a) ∧ ks.length = ds.length ∧ Reps K S H ds xs := by simp only [Rep]
theorem Rep.tpf_iff : Rep K S H (.tpf ds) v ↔ ∃ a xs o, v = .ref a ∧ (H a = some (.frz o (.tup xs)) ∧ ¬ S a) ∧ o.dict = none ∧ Reps K S H ds xs := by simp only [Rep]
theorem Rep.exc_iff {c : Value} {ks : Option (List Str)} : Rep K S H (.exc c ks ds) v ↔ ∃ a od xs, v = .ref a ∧ (H a = some (ExH c od a) ∧ ¬ S a) ∧ XdAt S H od ds.length xs ks ∧ Reps K S H ds xs := by simp only [Rep]
theorem Reps.nil_iff : Reps K S H [] vs ↔ vs = [] := by simp only [Reps]
theorem Reps.cons_iff : Reps K S H (d :: ds) vs ↔ ∃ x r, vs = x :: r ∧ Rep K S H d x ∧ Reps K S H ds r := by simp only [Reps]
theorem Reps.nil : Reps K S H [] [] := Reps.nil_iff.mpr rfl
theorem Reps.cons (h : Rep K S H d v) (r : Reps K S H ds vs) : Reps K S H (d :: ds) (v :: vs) := Reps.cons_iff.mpr ⟨_, _, rfl, h, r⟩
theorem Reps.length : ∀ {ds : List D} {vs : List V}, Reps K S H ds vs → vs.length = ds.length
  | [], vs, h => by rw [Reps.nil_iff.mp h] <;> rfl
  | d :: ds, vs, h => by
    obtain ⟨x, r, rfl, _, h2⟩ := Reps.cons_iff.mp h
    simp [Reps.length h2]
theorem Reps.append : ∀ {ds es : List D} {vs ws : List V}, Reps K S H ds vs → Reps K S H es ws → Reps K S H (ds ++ es) (vs ++ ws)
  | [], _, _, _, h, h2 => by rw [Reps.nil_iff.mp h]; exact h2
  | d :: ds, _, _, _, h, h2 => by
    obtain ⟨x, r, rfl, h1, h3⟩ := Reps.cons_iff.mp h
    exact Reps.cons h1 (Reps.append h3 h2)
theorem Reps.get : ∀ {ds : List D} {vs : List V} {i : Nat} {d : D}, Reps K S H ds vs → ds[i]? = some d → ∃ v, vs[i]? = some v ∧ Rep K S H d v
  | [], _, i, _, _, e => by simp at e
  | d :: ds, _, 0, d', h, e => by
    obtain ⟨x, r, rfl, h1, _⟩ := Reps.cons_iff.mp h
    simp at e; subst e
    exact ⟨x, rfl, h1⟩
  | d :: ds, _, i + 1, d', h, e => by
    obtain ⟨x, r, rfl, _, h2⟩ := Reps.cons_iff.mp h
    obtain ⟨v, e1, h3⟩ := Reps.get (i := i) h2 (by simpa using e)
    exact ⟨v, by simpa using e1, h3⟩
theorem Reps.get' : ∀ {ds : List D} {vs : List V} {i : Nat} {v : V}, Reps K S H ds vs → vs[i]? = some v → ∃ d, ds[i]? = some d ∧ Rep K S H d v := fun {ds vs i v} h e => by
  have hl := h.length
  have hi : i < vs.length := (List.getElem?_eq_some_iff.mp e).1
  have hd : ds[i]? = some ds[i] := List.getElem?_eq_getElem (by omega)
  obtain ⟨v', e1, h1⟩ := h.get hd
  rw [e] at e1; cases e1
  exact ⟨_, hd, h1⟩
theorem Reps.take (n : Nat) : ∀ {ds : List D} {vs : List V}, Reps K S H ds vs → Reps K S H (ds.take n) (vs.take n) := by
  induction n with
  | zero => intro ds vs _; exact Reps.nil
  | succ n ih =>
    intro ds vs h
    cases ds with
    | nil => rw [Reps.nil_iff.mp h]; exact Reps.nil
    | cons d ds =>
      obtain ⟨x, r, rfl, h1, h2⟩ := Reps.cons_iff.mp h
      exact Reps.cons h1 (ih h2)
theorem Reps.drop (n : Nat) : ∀ {ds : List D} {vs : List V}, Reps K S H ds vs → Reps K S H (ds.drop n) (vs.drop n) := by
  induction n with
  | zero => intro ds vs h; exact h
  | succ n ih =>
    intro ds vs h
    cases ds with
    | nil => rw [Reps.nil_iff.mp h]; exact Reps.nil
    | cons d ds =>
      obtain ⟨x, r, rfl, h1, h2⟩ := Reps.cons_iff.mp h
      exact ih h2
theorem Reps.set {d : D} {v : V} (hd : Rep K S H d v) : ∀ (n : Nat) {ds : List D} {vs : List V}, Reps K S H ds vs → Reps K S H (ds.set n d) (vs.set n v)
  | n, [], _, h => by rw [Reps.nil_iff.mp h]; exact Reps.nil
  | 0, d' :: ds, _, h => by
    obtain ⟨x, r, rfl, h1, h2⟩ := Reps.cons_iff.mp h
    exact Reps.cons hd h2
  | n + 1, d' :: ds, _, h => by
    obtain ⟨x, r, rfl, h1, h2⟩ := Reps.cons_iff.mp h
    exact Reps.cons h1 (Reps.set hd n h2)
theorem Reps.map_v (xs : List V) : Reps K S H (xs.map D.v) xs := by
  induction xs with
  | nil => exact Reps.nil
  | cons x xs ih => exact Reps.cons (Rep.v_iff.mpr rfl) ih
theorem Reps.of_map_v : ∀ {xs vs : List V}, Reps K S H (xs.map D.v) vs → vs = xs
  | [], vs, h => Reps.nil_iff.mp h
  | x :: xs, vs, h => by
    obtain ⟨y, r, rfl, h1, h2⟩ := Reps.cons_iff.mp h
    rw [Rep.v_iff.mp h1, Reps.of_map_v h2]
end

/-! ### the state -/
def MRep (K : PySem.W.Frag) (S : Reg) (H : Hp) (p : Addr) : MO → Prop
  | .lst ds => ∃ xs, H p = some (.lst xs) ∧ Reps K S H ds xs
  | .ins C dx fs => ∃ vs, H p = some (.ins C dx vs) ∧ vs.map (·.1) = fs.map (·.1) ∧ Reps K S H (fs.map (·.2)) (vs.map (·.2))
  | .dK kvs => ∃ vs, H p = some (.dK vs) ∧ vs.map (·.1) = kvs.map (·.1) ∧ Reps K S H (kvs.map (·.2)) (vs.map (·.2))
/-- without the frame -/
structure Cb (K : PySem.W.Frag) (F S : Reg) (H : Hp) (W : Wd) : Prop where
  sd : ∀ a, S a → H a ≠ none
  fs : ∀ a, F a → S a
  w : ∀ p o, W p = some o → S p ∧ ¬ F p ∧ MRep K S H p o
def Own (σ : St) (ρ : Env) (i : Nat) (p : Addr) : Prop := ∃ o, ρ[i]? = some (some (.om o)) ∧ σ[i]? = some (some (.ref p))
def OwnSet (σ : St) (ρ : Env) : Reg := fun p => ∃ i, Own σ ρ i p
structure Cf (K : PySem.W.Frag) (F S : Reg) (H : Hp) (σ : St) (ρ : Env) (W : Wd) : Prop where
  cb : Cb K F S H W
  len : σ.length = ρ.length
  sh : ∀ (i : Nat) d, ρ[i]? = some (some (.sh d)) → ∃ v, σ[i]? = some (some v) ∧ Rep K S H d v
  om : ∀ (i : Nat) o, ρ[i]? = some (some (.om o)) → ∃ p, σ[i]? = some (some (.ref p)) ∧ MRep K S H p o ∧ S p ∧ ¬ F p ∧ W p = none
  dis : ∀ i j p, Own σ ρ i p → Own σ ρ j p → i = j
theorem MRep.up {K : PySem.W.Frag} {F S S' : Reg} {H H' : Hp} (e : Stp F S H S' H') {p : Addr} {o : MO} (hp : H' p = H p) (h : MRep K S H p o) : MRep K S' H' p o := by
  cases o with
  | lst ds => obtain ⟨xs, h1, h2⟩ := h; exact ⟨xs, hp.trans h1, h2.up e⟩
  | ins C dx fs => obtain ⟨xs, h1, h2, h3⟩ := h; exact ⟨xs, hp.trans h1, h2, h3.up e⟩
  | dK fs => obtain ⟨xs, h1, h2, h3⟩ := h; exact ⟨xs, hp.trans h1, h2, h3.up e⟩
section
variable {K : PySem.W.Frag} {F S S' : Reg} {H H' : Hp} {σ : St} {ρ : Env} {W W' : Wd}
/-- the heap has grown alone -/
theorem stp_same (c : Cb K F S H W) (e : Same H H') : Stp F S H S H' where
  keep := fun a o _ h => e a o h
  new := fun a h1 h2 => absurd h1 h2
  dom := fun a h => by
    cases q : H a with
    | none => rfl
    | some o => rw [e a o q] at h; cases h
  frn := fun a hf => by
    cases q : H a with
    | none => exact absurd q (c.sd a (c.fs a hf))
    | some o => exact e a o q
theorem Cb.same (c : Cb K F S H W) (e : Same H H') : Cb K F S H' W where
  sd := fun a hs q => c.sd a hs ((stp_same c e).dom a q)
  fs := c.fs
  w := fun p o hw => by
    obtain ⟨h1, h2, h3⟩ := c.w p o hw
    refine ⟨h1, h2, h3.up (stp_same c e) ?_⟩
    cases q : H p with
    | none => exact absurd q (c.sd p h1)
    | some o => exact e p o q
theorem Cf.same (c : Cf K F S H σ ρ W) (e : Same H H') : Cf K F S H' σ ρ W where
  cb := c.cb.same e
  len := c.len
  sh := fun i d h => by
    obtain ⟨v, h1, h2⟩ := c.sh i d h
    exact ⟨v, h1, h2.up (stp_same c.cb e)⟩
  om := fun i o h => by
    obtain ⟨p, h1, h2, h4⟩ := c.om i o h
    refine ⟨p, h1, h2.up (stp_same c.cb e) ?_, h4⟩
    cases q : H p with
    | none => exact absurd q (c.cb.sd p h4.1)
    | some o => exact e p o q
  dis := c.dis
/-- what a callee sees: the frame's own lists are foreign to it -/
theorem Cf.below (c : Cf K F S H σ ρ W) : Cb K (fun a => F a ∨ OwnSet σ ρ a) S H W where
  sd := c.cb.sd
  fs := fun a h => by
    rcases h with h | ⟨i, ds, h1, h2⟩
    · exact c.cb.fs a h
    · obtain ⟨p, e1, _, hs, _⟩ := c.om i ds h1
      rw [h2] at e1; cases e1; exact hs
  w := fun p o hw => by
    obtain ⟨h1, h2, h3⟩ := c.cb.w p o hw
    refine ⟨h1, fun h => ?_, h3⟩
    rcases h with h | ⟨i, ds, q1, q2⟩
    · exact h2 h
    · obtain ⟨p', e1, _, _, _, hw'⟩ := c.om i ds q1
      rw [q2] at e1; cases e1
      rw [hw] at hw'; cases hw'
theorem Cf.back (c : Cf K F S H σ ρ W) (e : Stp (fun a => F a ∨ OwnSet σ ρ a) S H S' H') (b : Cb K (fun a => F a ∨ OwnSet σ ρ a) S' H' W') : Cf K F S' H' σ ρ W' where
  cb := ⟨b.sd, fun a h => b.fs a (.inl h), fun p o hw => by
    obtain ⟨h1, h2, h3⟩ := b.w p o hw
    exact ⟨h1, fun h => h2 (.inl h), h3⟩⟩
  len := c.len
  sh := fun i d h => by
    obtain ⟨v, h1, h2⟩ := c.sh i d h
    exact ⟨v, h1, h2.up e⟩
  om := fun i ds h => by
    obtain ⟨p, h1, h2, h4, h5, h6⟩ := c.om i ds h
    have ho : OwnSet σ ρ p := ⟨i, ds, h, h1⟩
    refine ⟨p, h1, h2.up e (e.frn p (.inr ho)), b.fs p (.inr ho), h5, ?_⟩
    cases q : W' p with
    | none => rfl
    | some o => exact absurd (.inr ho) (b.w p o q).2.1
  dis := c.dis
end

/-! ### readings over data -/
abbrev KD := D → Env → Wd → Prop
abbrev KB := Bool → Env → Wd → Prop
abbrev KL := List D → Env → Wd → Prop
/-- a wish about exceptions: the class, its fields -/
abbrev KX := Value → Option (List (Str × D)) → Env → Wd → Prop
abbrev TD := Env → Wd → KD → KX → Prop
abbrev TB := Env → Wd → KB → KX → Prop
abbrev TL := Env → Wd → KL → KX → Prop
def XRep (K : PySem.W.Frag) (S : Reg) (H : Hp) : Option (List (Str × D)) → Option Addr → Prop
  | none, d => d = none
  | some fs, d => ∃ a vs, d = some a ∧ H a = some (.xd vs) ∧ ¬ S a ∧ vs.map (·.1) = fs.map (·.1) ∧ Reps K S H (fs.map (·.2)) (vs.map (·.2))
/-- how a wish of exceptions over data lies in one over the heap -/
def LkX (K : PySem.W.Frag) (F S : Reg) (H : Hp) (Wx : WX) (Qx : KX) : Prop :=
  ∀ S' H' σ' ρ' W' cls x od, Stp F S H S' H' → Cf K F S' H' σ' ρ' W' → XRep K S' H' x od → Qx cls x ρ' W' → Wx cls od σ' H'
theorem LkX.up {K : PySem.W.Frag} {F S S1 : Reg} {H H1 : Hp} {Wx : WX} {Qx : KX} (h : LkX K F S H Wx Qx) (e : Stp F S H S1 H1) : LkX K F S1 H1 Wx Qx :=
  fun S' H' σ' ρ' W' cls x od e' c xr q => h S' H' σ' ρ' W' cls x od (e.trans e') c xr q
def EndE (K : PySem.W.Frag) (F S : Reg) (H : Hp) (σ : St) (Q : KD) (R : VK) : Prop :=
  ∀ S' H' ρ' W' d v, Stp F S H S' H' → Cf K F S' H' σ ρ' W' → Rep K S' H' d v → Q d ρ' W' → R v H'
def EndB (K : PySem.W.Frag) (F S : Reg) (H : Hp) (σ : St) (Q : KB) (R : Bool → Hp → Prop) : Prop :=
  ∀ S' H' ρ' W' b, Stp F S H S' H' → Cf K F S' H' σ ρ' W' → Q b ρ' W' → R b H'
def EndL (K : PySem.W.Frag) (F S : Reg) (H : Hp) (σ : St) (Q : KL) (R : List V → Hp → Prop) : Prop :=
  ∀ S' H' ρ' W' ds vs, Stp F S H S' H' → Cf K F S' H' σ ρ' W' → Reps K S' H' ds vs → Q ds ρ' W' → R vs H'
def Snd (K : PySem.W.Frag) (Wx : WX) (te : TE) (f : TD) : Prop :=
  ∀ F S H σ ρ W Q Qx R, Cf K F S H σ ρ W → f ρ W Q Qx → LkX K F S H Wx Qx → EndE K F S H σ Q R → te σ H R
def SndB (K : PySem.W.Frag) (Wx : WX) (te : TT) (f : TB) : Prop :=
  ∀ F S H σ ρ W Q Qx R, Cf K F S H σ ρ W → f ρ W Q Qx → LkX K F S H Wx Qx → EndB K F S H σ Q R → te σ H R
def SndL (K : PySem.W.Frag) (Wx : WX) (te : TA) (f : TL) : Prop :=
  ∀ F S H σ ρ W Q Qx R, Cf K F S H σ ρ W → f ρ W Q Qx → LkX K F S H Wx Qx → EndL K F S H σ Q R → te σ H R
def GE (X : Cx) (Wx : WX) (e : Expr) (f : TD) : Prop := ∃ te, PE X e te ∧ Snd X.K Wx te f
def GT (X : Cx) (Wx : WX) (e : Expr) (f : TB) : Prop := ∃ te, PT X e te ∧ SndB X.K Wx te f
def GW (X : Cx) (Wx : WX) (e : Expr) (f : TB) : Prop := ∃ te, PW X e te ∧ SndB X.K Wx te f
def GA (X : Cx) (Wx : WX) (es : List Expr) (f : TL) : Prop := ∃ te, PA X es te ∧ SndL X.K Wx te f
section
variable {X : Cx} {Wx : WX} {a b c e : Expr} {es : List Expr} {f g h : TD} {fb gb : TB} {fl : TL} {pos : Pos}

def dVar (i : Nat) : TD := fun ρ W Q _ => match ρ[i]? with
  | some (some (.sh d)) => Q d ρ W
  | _ => False
theorem gv (i : Nat) {x : Str} {pos : Pos} (hN : X.N[i]? = some x := by rfl) (hv : Vis X.env.scope x := by first | exact Or.inl rfl | exact Or.inr (Or.inl rfl) | exact Or.inr (Or.inr rfl)) (hd : (x == ("__debug__" : Str)) = false := by decide)
    (hcd : (x == ("__classdict__" : Str)) = false := by decide) : GE X Wx (.Name x pos) (dVar i) := by
  refine ⟨_, pe_var hN hv hd hcd, fun F S H σ ρ W Q Qx R cf hf _ hE => ?_⟩
  unfold dVar at hf
  split at hf
  · rename_i d e
    obtain ⟨v, e1, h1⟩ := cf.sh i d e
    exact ⟨v, e1, hE S H ρ W d v .refl cf h1 hf⟩
  · exact hf.elim
def dC (x : V) : TD := fun ρ W Q _ => Q (.v x) ρ W
theorem snd_c {K : PySem.W.Frag} {x : V} : Snd K Wx (tC x) (dC x) := fun F S H σ ρ W Q Qx R cf hf _ hE => hE S H ρ W (.v x) x .refl cf (Rep.v_iff.mpr rfl) hf
theorem ge_int {i j pos} : GE X Wx (.Constant (.int i) j pos) (dC (.int i)) := ⟨_, pe_int, snd_c⟩
theorem ge_bl {i j pos} : GE X Wx (.Constant (.bool i) j pos) (dC (.bl i)) := ⟨_, pe_bl, snd_c⟩
theorem ge_non {j pos} : GE X Wx (.Constant .none j pos) (dC .non) := ⟨_, pe_non, snd_c⟩
theorem ge_str {x j pos} : GE X Wx (.Constant (.str x) j pos) (dC (.str x)) := ⟨_, pe_str, snd_c⟩
theorem ge_glob {x : Str} {v : V} {u : Value} {pos : Pos} (hg : Gl X x) (hm : X.mg x = some u) (r : RelV v u) (hd : (x == ("__debug__" : Str)) = false := by decide) : GE X Wx (.Name x pos) (dC v) := ⟨_, pe_glob hg hm r hd, snd_c⟩

/-- a two-place rule over data: pure, the heap grows alone -/
def RSnd (K : PySem.W.Frag) (r : R2) (g : D → D → (D → Prop) → Prop) : Prop :=
  ∀ F S H W d e x y (P : D → Prop) (R : VK), Cb K F S H W → Rep K S H d x → Rep K S H e y → g d e P → (∀ d' v H', Same H H' → Rep K S H' d' v → P d' → R v H') → r x y H R
def dOp (g : D → D → (D → Prop) → Prop) (fa fb : TD) : TD := fun ρ W Q Qx => fa ρ W (fun d ρ1 W1 => fb ρ1 W1 (fun e ρ2 W2 => g d e fun z => Q z ρ2 W2) Qx) Qx
theorem snd_op {K : PySem.W.Frag} {r : R2} {k : D → D → (D → Prop) → Prop} {ta tb : TE} (hr : RSnd K r k) (ha : Snd K Wx ta f) (hb : Snd K Wx tb g) : Snd K Wx (tOp r ta tb) (dOp k f g) := by
  intro F S H σ ρ W Q Qx R cf hf hx hE
  refine ha F S H σ ρ W _ Qx _ cf hf hx fun S1 H1 ρ1 W1 d v e1 c1 r1 q1 => ?_
  refine hb F S1 H1 σ ρ1 W1 _ Qx _ c1 q1 (hx.up e1) fun S2 H2 ρ2 W2 d2 v2 e2 c2 r2 q2 => ?_
  refine hr F S2 H2 W2 d d2 v v2 _ _ c2.cb (r1.up e2) r2 q2 fun d3 v3 H3 s3 r3 q3 => ?_
  exact hE S2 H3 ρ2 W2 d3 v3 ((e1.trans e2).trans (stp_same c2.cb s3)) (c2.same s3) r3 q3
theorem ge_op {op : Operator} {r : R2} {k : D → D → (D → Prop) → Prop} (ho : OpR X (binaryOp op) r) (hr : RSnd X.K r k) (ha : GE X Wx a f) (hb : GE X Wx b g) : GE X Wx (.BinOp a op b pos) (dOp k f g) := by
  obtain ⟨ta, pa, sa⟩ := ha
  obtain ⟨tb, pb, sb⟩ := hb
  exact ⟨_, pe_op ho pa pb, snd_op hr sa sb⟩
theorem ge_cmp {op : CmpOp} {r : R2} {k : D → D → (D → Prop) → Prop} (ho : OpR X (compareOp op) r) (hr : RSnd X.K r k) (ha : GE X Wx a f) (hb : GE X Wx b g) (hm : behindInMarks op b = false) : GE X Wx (.Compare a [op] [b] pos) (dOp k f g) := by
  obtain ⟨ta, pa, sa⟩ := ha
  obtain ⟨tb, pb, sb⟩ := hb
  exact ⟨_, pe_cmpR ho pa pb hm, snd_op hr sa sb⟩
/-- an expression whose value is a Boolean, as a test -/
def dBool (f : TD) : TB := fun ρ W Q Qx => f ρ W (fun d ρ' W' => match d with | .v (.bl b) => Q b ρ' W' | _ => False) Qx
theorem snd_tB {K : PySem.W.Frag} {te : TE} (ha : Snd K Wx te f) : SndB K Wx (tB te) (dBool f) := by
  intro F S H σ ρ W Q Qx R cf hf hx hE
  refine ha F S H σ ρ W _ Qx _ cf hf hx fun S1 H1 ρ1 W1 d v e1 c1 r1 q1 => ?_
  split at q1
  · rename_i b
    rw [Rep.v_iff] at r1
    exact ⟨b, r1, hE S1 H1 ρ1 W1 b e1 c1 q1⟩
  · exact q1.elim
theorem gt_val (ha : GE X Wx e f) (he : ∀ whole, isTrue e X.env whole = (do let v ← whole; standAt e.pos; holding [v] (truthy v)) := by intro _; rfl) : GT X Wx e (dBool f) := by
  obtain ⟨ta, pa, sa⟩ := ha
  exact ⟨_, pt_val pa he, snd_tB sa⟩
theorem gt_cmp {op : CmpOp} {r : R2} {k : D → D → (D → Prop) → Prop} (ho : OpR X (compareOp op) r) (hr : RSnd X.K r k) (ha : GE X Wx a f) (hb : GE X Wx b g) (hm : behindInMarks op b = false) : GT X Wx (.Compare a [op] [b] pos) (dBool (dOp k f g)) := by
  obtain ⟨ta, pa, sa⟩ := ha
  obtain ⟨tb, pb, sb⟩ := hb
  exact ⟨_, pt_cmpR ho pa pb hm, snd_tB (snd_op hr sa sb)⟩
/-- a < b < c -/
def dChain (k k' : D → D → (D → Prop) → Prop) (fa fb fc : TD) : TD := fun ρ W Q Qx => fa ρ W (fun d ρ1 W1 => fb ρ1 W1 (fun e ρ2 W2 => k d e fun z =>
  match z with | .v (.bl true) => fc ρ2 W2 (fun c ρ3 W3 => k' e c fun z' => Q z' ρ3 W3) Qx | .v (.bl false) => Q (.bl false) ρ2 W2 | _ => False) Qx) Qx
theorem snd_chain {K : PySem.W.Frag} {r r' : R2} {k k' : D → D → (D → Prop) → Prop} {ta tb tc : TE} (hr : RSnd K r k) (hr' : RSnd K r' k') (ha : Snd K Wx ta f) (hb : Snd K Wx tb g) (hc : Snd K Wx tc h) : Snd K Wx (tChain r r' ta tb tc) (dChain k k' f g h) := by
  intro F S H σ ρ W Q Qx R cf hf hx hE
  refine ha F S H σ ρ W _ Qx _ cf hf hx fun S1 H1 ρ1 W1 d v e1 c1 r1 q1 => ?_
  refine hb F S1 H1 σ ρ1 W1 _ Qx _ c1 q1 (hx.up e1) fun S2 H2 ρ2 W2 d2 v2 e2 c2 r2 q2 => ?_
  refine hr F S2 H2 W2 d d2 v v2 _ _ c2.cb (r1.up e2) r2 q2 fun d3 v3 H3 s3 r3 q3 => ?_
  have e3 := (e1.trans e2).trans (stp_same c2.cb s3)
  split at q3
  · rw [Rep.v_iff] at r3
    refine ⟨true, r3, ?_⟩
    show tc σ H3 _
    refine hc F S2 H3 σ ρ2 W2 _ Qx _ (c2.same s3) q3 (hx.up e3) fun S4 H4 ρ4 W4 d4 v4 e4 c4 r4 q4 => ?_
    refine hr' F S4 H4 W4 d2 d4 v2 v4 _ _ c4.cb ((r2.up (stp_same c2.cb s3)).up e4) r4 q4 fun d5 v5 H5 s5 r5 q5 => ?_
    exact hE S4 H5 ρ4 W4 d5 v5 ((e3.trans e4).trans (stp_same c4.cb s5)) (c4.same s5) r5 q5
  · rw [Rep.v_iff] at r3
    refine ⟨false, r3, ?_⟩
    show R (.bl false) H3
    exact hE S2 H3 ρ2 W2 (.bl false) _ e3 (c2.same s3) (Rep.v_iff.mpr rfl) q3
  · exact q3.elim
theorem ge_chain {op op' : CmpOp} {r r' : R2} {k k' : D → D → (D → Prop) → Prop} (ho : OpR X (compareOp op) r) (ho' : OpR X (compareOp op') r') (hr : RSnd X.K r k) (hr' : RSnd X.K r' k') (ha : GE X Wx a f) (hb : GE X Wx b g) (hc : GE X Wx c h)
    (hm : lastMarks [op, op'] [b, c] = false := by with_unfolding_all rfl) : GE X Wx (.Compare a [op, op'] [b, c] pos) (dChain k k' f g h) := by
  obtain ⟨ta, pa, sa⟩ := ha
  obtain ⟨tb, pb, sb⟩ := hb
  obtain ⟨tc, pc, sc⟩ := hc
  exact ⟨_, pe_chain ho ho' pa pb pc hm, snd_chain hr hr' sa sb sc⟩
/-! ### and, or, not, if -/
def dNotB (f : TB) : TB := fun ρ W Q Qx => f ρ W (fun b ρ' W' => Q (!b) ρ' W') Qx
theorem gt_not (ha : GT X Wx a fb) : GT X Wx (.UnaryOp .Not a pos) (dNotB fb) := by
  obtain ⟨ta, pa, sa⟩ := ha
  refine ⟨_, pt_not pa, fun F S H σ ρ W Q Qx R cf hf hx hE => ?_⟩
  exact sa F S H σ ρ W _ Qx _ cf hf hx fun S1 H1 ρ1 W1 b e1 c1 q1 => hE S1 H1 ρ1 W1 _ e1 c1 q1
def dAndB (f g : TB) : TB := fun ρ W Q Qx => f ρ W (fun b ρ' W' => if b = true then g ρ' W' Q Qx else Q false ρ' W') Qx
def dOrB (f g : TB) : TB := fun ρ W Q Qx => f ρ W (fun b ρ' W' => if b = true then Q true ρ' W' else g ρ' W' Q Qx) Qx
theorem gw_and1 (ha : GT X Wx a fb) : GW X Wx (.BoolOp .And [a] pos) fb := by
  obtain ⟨ta, pa, sa⟩ := ha
  exact ⟨_, pw_and1 pa, sa⟩
theorem gw_or1 (ha : GT X Wx a fb) : GW X Wx (.BoolOp .Or [a] pos) fb := by
  obtain ⟨ta, pa, sa⟩ := ha
  exact ⟨_, pw_or1 pa, sa⟩
theorem snd_and {K : PySem.W.Frag} {t u : TT} (ha : SndB K Wx t fb) (hb : SndB K Wx u gb) : SndB K Wx (tAnd t u) (dAndB fb gb) := by
  intro F S H σ ρ W Q Qx R cf hf hx hE
  refine ha F S H σ ρ W _ Qx _ cf hf hx fun S1 H1 ρ1 W1 b e1 c1 q1 => ?_
  cases b with
  | true => exact hb F S1 H1 σ ρ1 W1 Q Qx R c1 q1 (hx.up e1) fun S2 H2 ρ2 W2 b e2 c2 q2 => hE S2 H2 ρ2 W2 b (e1.trans e2) c2 q2
  | false => exact hE S1 H1 ρ1 W1 false e1 c1 q1
theorem snd_or {K : PySem.W.Frag} {t u : TT} (ha : SndB K Wx t fb) (hb : SndB K Wx u gb) : SndB K Wx (tOr t u) (dOrB fb gb) := by
  intro F S H σ ρ W Q Qx R cf hf hx hE
  refine ha F S H σ ρ W _ Qx _ cf hf hx fun S1 H1 ρ1 W1 b e1 c1 q1 => ?_
  cases b with
  | false => exact hb F S1 H1 σ ρ1 W1 Q Qx R c1 q1 (hx.up e1) fun S2 H2 ρ2 W2 b e2 c2 q2 => hE S2 H2 ρ2 W2 b (e1.trans e2) c2 q2
  | true => exact hE S1 H1 ρ1 W1 true e1 c1 q1
theorem gw_and {rest : List Expr} (ha : GT X Wx a fb) (hb : GW X Wx (.BoolOp .And (b :: rest) pos) gb) : GW X Wx (.BoolOp .And (a :: b :: rest) pos) (dAndB fb gb) := by
  obtain ⟨ta, pa, sa⟩ := ha
  obtain ⟨tb, pb, sb⟩ := hb
  exact ⟨_, pw_and pa pb, snd_and sa sb⟩
theorem gw_or {rest : List Expr} (ha : GT X Wx a fb) (hb : GW X Wx (.BoolOp .Or (b :: rest) pos) gb) : GW X Wx (.BoolOp .Or (a :: b :: rest) pos) (dOrB fb gb) := by
  obtain ⟨ta, pa, sa⟩ := ha
  obtain ⟨tb, pb, sb⟩ := hb
  exact ⟨_, pw_or pa pb, snd_or sa sb⟩
theorem GW.gt (h : GW X Wx a fb) : GT X Wx a fb := by
  obtain ⟨ta, pa, sa⟩ := h
  exact ⟨_, pa.pt, sa⟩
/-- .. as values -/
def dAnd (f g : TD) : TD := fun ρ W Q Qx => f ρ W (fun d ρ' W' => match d with | .v (.bl true) => g ρ' W' Q Qx | .v (.bl false) => Q (.bl false) ρ' W' | _ => False) Qx
def dOr (f g : TD) : TD := fun ρ W Q Qx => f ρ W (fun d ρ' W' => match d with | .v (.bl true) => Q (.bl true) ρ' W' | .v (.bl false) => g ρ' W' Q Qx | _ => False) Qx
def dNot (f : TD) : TD := fun ρ W Q Qx => f ρ W (fun d ρ' W' => match d with | .v (.bl b) => Q (.bl (!b)) ρ' W' | _ => False) Qx
theorem ge_one {op} (ha : GE X Wx a f) : GE X Wx (.BoolOp op [a] pos) f := by
  obtain ⟨ta, pa, sa⟩ := ha
  exact ⟨_, pe_one pa, sa⟩
theorem ge_and {rest : List Expr} (ha : GE X Wx a f) (hb : GE X Wx (.BoolOp .And (b :: rest) pos) g) : GE X Wx (.BoolOp .And (a :: b :: rest) pos) (dAnd f g) := by
  obtain ⟨ta, pa, sa⟩ := ha
  obtain ⟨tb, pb, sb⟩ := hb
  refine ⟨_, pe_and pa pb, fun F S H σ ρ W Q Qx R cf hf hx hE => ?_⟩
  refine sa F S H σ ρ W _ Qx _ cf hf hx fun S1 H1 ρ1 W1 d v e1 c1 r1 q1 => ?_
  split at q1
  · exact ⟨true, Rep.v_iff.mp r1, sb F S1 H1 σ ρ1 W1 Q Qx R c1 q1 (hx.up e1) fun S2 H2 ρ2 W2 d2 v2 e2 c2 r2 q2 => hE S2 H2 ρ2 W2 d2 v2 (e1.trans e2) c2 r2 q2⟩
  · exact ⟨false, Rep.v_iff.mp r1, hE S1 H1 ρ1 W1 _ _ e1 c1 (Rep.v_iff.mpr rfl) q1⟩
  · exact q1.elim
theorem ge_or {rest : List Expr} (ha : GE X Wx a f) (hb : GE X Wx (.BoolOp .Or (b :: rest) pos) g) : GE X Wx (.BoolOp .Or (a :: b :: rest) pos) (dOr f g) := by
  obtain ⟨ta, pa, sa⟩ := ha
  obtain ⟨tb, pb, sb⟩ := hb
  refine ⟨_, pe_or pa pb, fun F S H σ ρ W Q Qx R cf hf hx hE => ?_⟩
  refine sa F S H σ ρ W _ Qx _ cf hf hx fun S1 H1 ρ1 W1 d v e1 c1 r1 q1 => ?_
  split at q1
  · exact ⟨true, Rep.v_iff.mp r1, hE S1 H1 ρ1 W1 _ _ e1 c1 (Rep.v_iff.mpr rfl) q1⟩
  · exact ⟨false, Rep.v_iff.mp r1, sb F S1 H1 σ ρ1 W1 Q Qx R c1 q1 (hx.up e1) fun S2 H2 ρ2 W2 d2 v2 e2 c2 r2 q2 => hE S2 H2 ρ2 W2 d2 v2 (e1.trans e2) c2 r2 q2⟩
  · exact q1.elim
theorem ge_not (ha : GE X Wx a f) : GE X Wx (.UnaryOp .Not a pos) (dNot f) := by
  obtain ⟨ta, pa, sa⟩ := ha
  refine ⟨_, pe_not pa, fun F S H σ ρ W Q Qx R cf hf hx hE => ?_⟩
  refine sa F S H σ ρ W _ Qx _ cf hf hx fun S1 H1 ρ1 W1 d v e1 c1 r1 q1 => ?_
  split at q1
  · rename_i b
    exact ⟨b, Rep.v_iff.mp r1, hE S1 H1 ρ1 W1 _ _ e1 c1 (Rep.v_iff.mpr rfl) q1⟩
  · exact q1.elim
def dIf (t : TB) (f g : TD) : TD := fun ρ W Q Qx => t ρ W (fun b ρ' W' => if b = true then f ρ' W' Q Qx else g ρ' W' Q Qx) Qx
theorem ge_if (hc : GT X Wx c fb) (ha : GE X Wx a f) (hb : GE X Wx b g) : GE X Wx (.IfExp c a b pos) (dIf fb f g) := by
  obtain ⟨tc, pc, sc⟩ := hc
  obtain ⟨ta, pa, sa⟩ := ha
  obtain ⟨tb, pb, sb⟩ := hb
  refine ⟨_, pe_ifExp pc pa pb, fun F S H σ ρ W Q Qx R cf hf hx hE => ?_⟩
  refine sc F S H σ ρ W _ Qx _ cf hf hx fun S1 H1 ρ1 W1 k e1 c1 q1 => ?_
  cases k with
  | true => exact sa F S1 H1 σ ρ1 W1 Q Qx R c1 q1 (hx.up e1) fun S2 H2 ρ2 W2 d2 v2 e2 c2 r2 q2 => hE S2 H2 ρ2 W2 d2 v2 (e1.trans e2) c2 r2 q2
  | false => exact sb F S1 H1 σ ρ1 W1 Q Qx R c1 q1 (hx.up e1) fun S2 H2 ρ2 W2 d2 v2 e2 c2 r2 q2 => hE S2 H2 ρ2 W2 d2 v2 (e1.trans e2) c2 r2 q2
/-! ### arguments, displays -/
def dNil : TL := fun ρ W Q _ => Q [] ρ W
def dCons (f : TD) (g : TL) : TL := fun ρ W Q Qx => f ρ W (fun d ρ1 W1 => g ρ1 W1 (fun ds ρ2 W2 => Q (d :: ds) ρ2 W2) Qx) Qx
theorem ga_nil : GA X Wx [] dNil := ⟨_, pa_nil, fun F S H σ ρ W Q Qx R cf hf hx hE => hE S H ρ W [] [] .refl cf Reps.nil hf⟩
theorem snd_cons {K : PySem.W.Frag} {te : TE} {ta : TA} (he : Snd K Wx te f) (ha : SndL K Wx ta fl) : SndL K Wx (tCons te ta) (dCons f fl) := by
  intro F S H σ ρ W Q Qx R cf hf hx hE
  refine he F S H σ ρ W _ Qx _ cf hf hx fun S1 H1 ρ1 W1 d v e1 c1 r1 q1 => ?_
  refine ha F S1 H1 σ ρ1 W1 _ Qx _ c1 q1 (hx.up e1) fun S2 H2 ρ2 W2 ds vs e2 c2 r2 q2 => ?_
  exact hE S2 H2 ρ2 W2 _ _ (e1.trans e2) c2 (Reps.cons (r1.up e2) r2) q2
theorem ga_cons (he : GE X Wx e f) (ha : GA X Wx es fl) (hs : starEach (e :: es) X.env = (false, eval e X.env) :: starEach es X.env := by rfl) : GA X Wx (e :: es) (dCons f fl) := by
  obtain ⟨te, pe, se⟩ := he
  obtain ⟨ta, pa, sa⟩ := ha
  exact ⟨_, pa_cons pe pa hs, snd_cons se sa⟩
theorem same_new {H : Hp} {p : Addr} {o : HO} (h : H p = none) : Same H (upd H p o) := fun b u e => by
  rw [upd_ne (ne_of_none e h)]; exact e
def dTup (fl : TL) : TD := fun ρ W Q Qx => fl ρ W (fun ds ρ' W' => ds.length ≤ sizeLine ∧ Q (.tup ds) ρ' W') Qx
def dLst (fl : TL) : TD := fun ρ W Q Qx => fl ρ W (fun ds ρ' W' => ds.length ≤ sizeLine ∧ Q (.lst ds) ρ' W') Qx
theorem not_s {K : PySem.W.Frag} {F S : Reg} {H : Hp} {W : Wd} {p : Addr} (c : Cb K F S H W) (h : H p = none) : ¬ S p := fun hs => c.sd p hs h
theorem rep_newT {K : PySem.W.Frag} {F S : Reg} {H : Hp} {W : Wd} {p : Addr} {ds : List D} {vs : List V} (c : Cb K F S H W) (h : H p = none) (r : Reps K S H ds vs) : Rep K S (upd H p (.tup vs)) (.tup ds) (.ref p) :=
  Rep.tup_iff.mpr ⟨p, vs, rfl, .inl ⟨upd_same, not_s c h⟩, r.up (stp_same c (same_new h))⟩
theorem rep_newL {K : PySem.W.Frag} {F S : Reg} {H : Hp} {W : Wd} {p : Addr} {ds : List D} {vs : List V} (c : Cb K F S H W) (h : H p = none) (r : Reps K S H ds vs) : Rep K S (upd H p (.lst vs)) (.lst ds) (.ref p) :=
  Rep.lst_iff.mpr ⟨p, vs, rfl, ⟨upd_same, not_s c h⟩, r.up (stp_same c (same_new h))⟩
theorem ge_tup {x1} (ha : GA X Wx es fl) : GE X Wx (.Tuple es x1 pos) (dTup fl) := by
  obtain ⟨ta, pa, sa⟩ := ha
  refine ⟨_, pe_tup pa, fun F S H σ ρ W Q Qx R cf hf hx hE => ?_⟩
  refine sa F S H σ ρ W _ Qx _ cf hf hx fun S1 H1 ρ1 W1 ds vs e1 c1 r1 q1 => ?_
  refine ⟨by rw [r1.length]; exact q1.1, fun p hp => ?_⟩
  exact hE S1 _ ρ1 W1 _ _ (e1.trans (stp_same c1.cb (same_new hp))) (c1.same (same_new hp)) (rep_newT c1.cb hp r1) q1.2
theorem ge_lst (ha : GA X Wx es fl) : GE X Wx (.List es pos) (dLst fl) := by
  obtain ⟨ta, pa, sa⟩ := ha
  refine ⟨_, pe_lst pa, fun F S H σ ρ W Q Qx R cf hf hx hE => ?_⟩
  refine sa F S H σ ρ W _ Qx _ cf hf hx fun S1 H1 ρ1 W1 ds vs e1 c1 r1 q1 => ?_
  refine ⟨by rw [r1.length]; exact q1.1, fun p hp => ?_⟩
  exact hE S1 _ ρ1 W1 _ _ (e1.trans (stp_same c1.cb (same_new hp))) (c1.same (same_new hp)) (rep_newL c1.cb hp r1) q1.2
/-! ### calls of built-ins by values -/
def CSnd (K : PySem.W.Frag) (r : List V → Hp → VK → Prop) (g : List D → (D → Prop) → Prop) : Prop :=
  ∀ F S H W ds xs (P : D → Prop) (R : VK), Cb K F S H W → Reps K S H ds xs → g ds P → (∀ d' v H', Same H H' → Rep K S H' d' v → P d' → R v H') → r xs H R
def dCB (g : List D → (D → Prop) → Prop) (fl : TL) : TD := fun ρ W Q Qx => fl ρ W (fun ds ρ' W' => g ds fun z => Q z ρ' W') Qx
theorem snd_cb {K : PySem.W.Frag} {r : List V → Hp → VK → Prop} {k : List D → (D → Prop) → Prop} {ta : TA} (hr : CSnd K r k) (ha : SndL K Wx ta fl) : Snd K Wx (tCB r ta) (dCB k fl) := by
  intro F S H σ ρ W Q Qx R cf hf hx hE
  refine ha F S H σ ρ W _ Qx _ cf hf hx fun S1 H1 ρ1 W1 ds vs e1 c1 r1 q1 => ?_
  refine hr F S1 H1 W1 ds vs _ _ c1.cb r1 q1 fun d3 v3 H3 s3 r3 q3 => ?_
  exact hE S1 H3 ρ1 W1 d3 v3 (e1.trans (stp_same c1.cb s3)) (c1.same s3) r3 q3
theorem ge_callB {x : Str} {id : String} {p : Pos} {r : List V → Hp → VK → Prop} {k : List D → (D → Prop) → Prop} (hc : CallR X (.builtin id) r) (hr : CSnd X.K r k) (hg : Gl X x) (hm : X.mg x = none) (hv : bootBuiltins x = some (.builtin id)) (ha : GA X Wx (e :: es) fl) (hn : x ≠ "__name__" := by decide) (hdb : (x == ("__debug__" : Str)) = false := by decide)
    (he : starEach (e :: es) X.env = (false, eval e X.env) :: starEach es X.env := by rfl) (hpl : (backTo pos (starEach es X.env)).any (·.1) = false := by rfl) : GE X Wx (.Call (.Name x p) (e :: es) [] pos) (dCB k fl) := by
  obtain ⟨ta, pa, sa⟩ := ha
  exact ⟨_, pe_callB hc hg hm hv pa hn hdb he hpl, snd_cb hr sa⟩
theorem ge_callTy {x : Str} {id : String} {p : Pos} {r : List V → Hp → VK → Prop} {k : List D → (D → Prop) → Prop} (hc : CallR X (.type id) r) (hr : CSnd X.K r k) (hg : Gl X x) (hm : X.mg x = none) (hv : bootBuiltins x = some (.type id)) (ha : GA X Wx (e :: es) fl) (hn : x ≠ "__name__" := by decide) (hdb : (x == ("__debug__" : Str)) = false := by decide)
    (he : starEach (e :: es) X.env = (false, eval e X.env) :: starEach es X.env := by rfl) (hpl : (backTo pos (starEach es X.env)).any (·.1) = false := by rfl) : GE X Wx (.Call (.Name x p) (e :: es) [] pos) (dCB k fl) := by
  obtain ⟨ta, pa, sa⟩ := ha
  exact ⟨_, pe_callTy hc hg hm hv pa hn hdb he hpl, snd_cb hr sa⟩
end
end G

namespace G
open PySem PySem.Spec L2

/-! ### statements -/
abbrev KS := Env → Wd → Prop
structure EndsD where
  nx : KS
  rt : D → Wd → Prop
  bk : KS := fun _ _ => False
  ct : KS := fun _ _ => False
  ex : KX := fun _ _ _ _ => False
abbrev TSD := EndsD → Env → Wd → Prop
structure Lnk (K : PySem.W.Frag) (Wx : WX) (F S : Reg) (H : Hp) (De : EndsD) (Dh : Ends) : Prop where
  nx : ∀ S' H' σ' ρ' W', Stp F S H S' H' → Cf K F S' H' σ' ρ' W' → De.nx ρ' W' → Dh.nx σ' H'
  rt : ∀ S' H' σ' ρ' W' d v, Stp F S H S' H' → Cf K F S' H' σ' ρ' W' → Rep K S' H' d v → De.rt d W' → Dh.rt v H'
  bk : ∀ S' H' σ' ρ' W', Stp F S H S' H' → Cf K F S' H' σ' ρ' W' → De.bk ρ' W' → Dh.bk σ' H'
  ct : ∀ S' H' σ' ρ' W', Stp F S H S' H' → Cf K F S' H' σ' ρ' W' → De.ct ρ' W' → Dh.ct σ' H'
  ex : LkX K F S H Wx De.ex
theorem Lnk.up {K : PySem.W.Frag} {Wx : WX} {F S S1 : Reg} {H H1 : Hp} {De : EndsD} {Dh : Ends} (l : Lnk K Wx F S H De Dh) (e : Stp F S H S1 H1) : Lnk K Wx F S1 H1 De Dh where
  nx := fun S' H' σ' ρ' W' e' c q => l.nx S' H' σ' ρ' W' (e.trans e') c q
  rt := fun S' H' σ' ρ' W' d v e' c r q => l.rt S' H' σ' ρ' W' d v (e.trans e') c r q
  bk := fun S' H' σ' ρ' W' e' c q => l.bk S' H' σ' ρ' W' (e.trans e') c q
  ct := fun S' H' σ' ρ' W' e' c q => l.ct S' H' σ' ρ' W' (e.trans e') c q
  ex := l.ex.up e
def SndS (K : PySem.W.Frag) (Wx : WX) (t : TS) (f : TSD) : Prop :=
  ∀ F S H σ ρ W De Dh, Cf K F S H σ ρ W → f De ρ W → Lnk K Wx F S H De Dh → t Dh σ H
def GS (X : Cx) (Wx : WX) (st : Stmt) (f : TSD) : Prop := ∃ t, PS X st t ∧ SndS X.K Wx t f
def GSs (X : Cx) (Wx : WX) (st : List Stmt) (f : TSD) : Prop := ∃ t, PSs X st t ∧ SndS X.K Wx t f
section
variable {X : Cx} {Wx : WX} {st : Stmt} {rest : List Stmt} {f g : TSD} {e : Expr} {fe : TD} {pos : Pos}
def dNext : TSD := fun De ρ W => De.nx ρ W
def dSeq (f g : TSD) : TSD := fun De ρ W => f { De with nx := g De } ρ W
theorem gss_nil : GSs X Wx [] dNext := ⟨_, pss_nil, fun F S H σ ρ W De Dh cf hf l => l.nx S H σ ρ W .refl cf hf⟩
theorem snd_seq {K : PySem.W.Frag} {t u : TS} (ha : SndS K Wx t f) (hb : SndS K Wx u g) : SndS K Wx (tSeq t u) (dSeq f g) := fun F S H σ ρ W De Dh cf hf l =>
  ha F S H σ ρ W { De with nx := g De } { Dh with nx := u Dh } cf hf ⟨fun S' H' σ' ρ' W' e' c q => hb F S' H' σ' ρ' W' De Dh c q (l.up e'), l.rt, l.bk, l.ct, l.ex⟩
theorem gss_cons (h1 : GS X Wx st f) (h2 : GSs X Wx rest g) : GSs X Wx (st :: rest) (dSeq f g) := by
  obtain ⟨ta, pa, sa⟩ := h1
  obtain ⟨tb, pb, sb⟩ := h2
  exact ⟨_, pss_cons pa pb, snd_seq sa sb⟩
theorem gss_one (h1 : GS X Wx st f) : GSs X Wx [st] f := by
  obtain ⟨ta, pa, sa⟩ := h1
  exact ⟨_, pss_one pa, sa⟩
def dNever : TSD := fun _ _ _ => False
theorem gs_never : GS X Wx st dNever := ⟨_, ps_never, fun F S H σ ρ W De Dh cf hf l => hf.elim⟩
theorem gss_never : GSs X Wx rest dNever := ⟨_, pss_never, fun F S H σ ρ W De Dh cf hf l => hf.elim⟩
theorem gs_pass : GS X Wx (.Pass pos) dNext := ⟨_, ps_pass, fun F S H σ ρ W De Dh cf hf l => l.nx S H σ ρ W .refl cf hf⟩
def dBreak : TSD := fun De ρ W => De.bk ρ W
def dCont : TSD := fun De ρ W => De.ct ρ W
theorem gs_break : GS X Wx (.Break pos) dBreak := ⟨_, ps_break, fun F S H σ ρ W De Dh cf hf l => l.bk S H σ ρ W .refl cf hf⟩
theorem gs_cont : GS X Wx (.Continue pos) dCont := ⟨_, ps_continue, fun F S H σ ρ W De Dh cf hf l => l.ct S H σ ρ W .refl cf hf⟩
theorem gs_doc {x j pos pos'} : GS X Wx (.Expr (.Constant (.str x) j pos) pos') dNext := ⟨_, ps_doc, fun F S H σ ρ W De Dh cf hf l => l.nx S H σ ρ W .refl cf hf⟩
def dDrop (fe : TD) : TSD := fun De ρ W => fe ρ W (fun _ ρ' W' => De.nx ρ' W') De.ex
theorem gs_expr (he : GE X Wx e fe) (hs : swapsWith e none pos.line X.env = pure false := by rfl) : GS X Wx (.Expr e pos) (dDrop fe) := by
  obtain ⟨te, pe, se⟩ := he
  exact ⟨_, ps_expr pe hs, fun F S H σ ρ W De Dh cf hf l => se F S H σ ρ W _ De.ex _ cf hf l.ex fun S' H' ρ' W' d v e' c r q => l.nx S' H' σ ρ' W' e' c q⟩
def dRet (fe : TD) : TSD := fun De ρ W => fe ρ W (fun d _ W' => De.rt d W') De.ex
theorem gs_ret (he : GE X Wx e fe) : GS X Wx (.Return (some e) pos) (dRet fe) := by
  obtain ⟨te, pe, se⟩ := he
  exact ⟨_, ps_ret pe, fun F S H σ ρ W De Dh cf hf l => se F S H σ ρ W _ De.ex _ cf hf l.ex fun S' H' ρ' W' d v e' c r q => l.rt S' H' σ ρ' W' d v e' c r q⟩
def dRetN : TSD := fun De ρ W => De.rt .non W
theorem gs_retN : GS X Wx (.Return none pos) dRetN := ⟨_, ps_retN, fun F S H σ ρ W De Dh cf hf l => l.rt S H σ ρ W _ _ .refl cf (Rep.v_iff.mpr rfl) hf⟩
def dIfS (t : TB) (f g : TSD) : TSD := fun De ρ W => t ρ W (fun b ρ' W' => if b = true then f De ρ' W' else g De ρ' W') De.ex
theorem gs_if {c : Expr} {a b : List Stmt} {fc : TB} (hc : GT X Wx c fc) (ha : GSs X Wx a f) (hb : GSs X Wx b g) : GS X Wx (.If c a b pos) (dIfS fc f g) := by
  obtain ⟨tc, pc, sc⟩ := hc
  obtain ⟨ta, pa, sa⟩ := ha
  obtain ⟨tb, pb, sb⟩ := hb
  refine ⟨_, ps_if pc pa pb, fun F S H σ ρ W De Dh cf hf l => ?_⟩
  refine sc F S H σ ρ W _ De.ex _ cf hf l.ex fun S' H' ρ' W' b e' c q => ?_
  cases b with
  | true => exact sa F S' H' σ ρ' W' De Dh c q (l.up e')
  | false => exact sb F S' H' σ ρ' W' De Dh c q (l.up e')

/-! ### targets -/
abbrev TGD := D → Env → Wd → KS → Prop
abbrev TGLD := List D → Env → Wd → KS → Prop
/-- other slots than these are as they were -/
def Off {α : Type} (ts : List Nat) (l l' : List α) : Prop := l'.length = l.length ∧ ∀ j, j ∉ ts → l'[j]? = l[j]?
theorem Off.refl {α : Type} {ts : List Nat} {l : List α} : Off ts l l := ⟨rfl, fun _ _ => rfl⟩
theorem Off.set {α : Type} {l : List α} {i : Nat} {x : α} : Off [i] l (l.set i x) := ⟨by simp, fun j hj => by rw [List.getElem?_set_ne (by simpa [eq_comm] using hj)]⟩
theorem Off.trans {α : Type} {ts us : List Nat} {l l' l'' : List α} (a : Off ts l l') (b : Off us l' l'') : Off (ts ++ us) l l'' := ⟨b.1.trans a.1, fun j hj => by
  rw [List.mem_append, not_or] at hj
  exact (b.2 j hj.2).trans (a.2 j hj.1)⟩
def SndG (K : PySem.W.Frag) (t : TG) (g : TGD) (ts : List Nat) : Prop :=
  ∀ F S H σ ρ W d v (P : KS) (R : St → Hp → Prop), Cf K F S H σ ρ W → Rep K S H d v → g d ρ W P → (∀ S' H' σ' ρ' W', Stp F S H S' H' → Cf K F S' H' σ' ρ' W' → Off ts σ σ' → Off ts ρ ρ' → P ρ' W' → R σ' H') → t v σ H R
def SndGL (K : PySem.W.Frag) (t : TGs) (g : TGLD) (ts : List Nat) : Prop :=
  ∀ F S H σ ρ W ds vs (P : KS) (R : St → Hp → Prop), Cf K F S H σ ρ W → Reps K S H ds vs → g ds ρ W P → (∀ S' H' σ' ρ' W', Stp F S H S' H' → Cf K F S' H' σ' ρ' W' → Off ts σ σ' → Off ts ρ ρ' → P ρ' W' → R σ' H') → t vs σ H R
def GG (X : Cx) (target : Expr) (g : TGD) (us : List Nat) : Prop := ∃ t, PG X target t ∧ SndG X.K t g us
def GGs (X : Cx) (ts : List Expr) (g : TGLD) (us : List Nat) : Prop := ∃ t, PGs X ts t ∧ SndGL X.K t g us
end
/-- shared data into a slot -/
theorem Cf.setSh {K : PySem.W.Frag} {F S : Reg} {H : Hp} {σ : St} {ρ : Env} {W : Wd} (c : Cf K F S H σ ρ W) (i : Nat) {d : D} {v : V} (r : Rep K S H d v) : Cf K F S H (σ.set i (some v)) (ρ.set i (some (.sh d))) W where
  cb := c.cb
  len := by simp [c.len]
  sh := fun j d' h => by
    by_cases hj : i = j
    · subst hj
      have hl : i < ρ.length := by
        have := (List.getElem?_eq_some_iff.mp h).1
        simpa using this
      rw [List.getElem?_set_self hl] at h
      cases h
      exact ⟨v, by rw [List.getElem?_set_self (by rw [c.len]; exact hl)], r⟩
    · rw [List.getElem?_set_ne hj] at h
      obtain ⟨w, h1, h2⟩ := c.sh j d' h
      exact ⟨w, by rw [List.getElem?_set_ne hj]; exact h1, h2⟩
  om := fun j ds h => by
    by_cases hj : i = j
    · subst hj
      have hl : i < ρ.length := by
        have := (List.getElem?_eq_some_iff.mp h).1
        simpa using this
      rw [List.getElem?_set_self hl] at h
      cases h
    · rw [List.getElem?_set_ne hj] at h
      obtain ⟨p, h1, h2⟩ := c.om j ds h
      exact ⟨p, by rw [List.getElem?_set_ne hj]; exact h1, h2⟩
  dis := fun j k p h1 h2 => by
    have go : ∀ j, Own (σ.set i (some v)) (ρ.set i (some (.sh d))) j p → Own σ ρ j p := fun j ⟨ds, q1, q2⟩ => by
      by_cases hj : i = j
      · subst hj
        have hl : i < ρ.length := by
          have := (List.getElem?_eq_some_iff.mp q1).1
          simpa using this
        rw [List.getElem?_set_self hl] at q1
        cases q1
      · rw [List.getElem?_set_ne hj] at q1 q2
        exact ⟨ds, q1, q2⟩
    exact c.dis j k p (go j h1) (go k h2)
section
variable {X : Cx} {Wx : WX} {st : Stmt} {rest : List Stmt} {f g : TSD} {e : Expr} {fe : TD} {pos : Pos}
def gdName (i : Nat) : TGD := fun d ρ W P => P (ρ.set i (some (.sh d))) W
theorem snd_gName {K : PySem.W.Frag} {i : Nat} : SndG K (gName i) (gdName i) [i] := fun F S H σ ρ W d v P R cf r hp k => k S H _ _ W .refl (cf.setSh i r) .set .set hp
theorem gg_name {i : Nat} {x : Str} (hN : X.N.Nodup) (hi : X.N[i]? = some x) (hx : Loc X.env.scope x) (hf : X.fn x = true ∨ X.env.scope.names.lookup x = some .local := by first | exact .inl rfl | exact .inr rfl | assumption) : GG X (.Name x pos) (gdName i) [i] :=
  ⟨_, pg_name hN hi hx hf, snd_gName⟩
def gdNil : TGLD := fun ds ρ W P => match ds with | [] => P ρ W | _ => False
def gdCons (g : TGD) (h : TGLD) : TGLD := fun ds ρ W P => match ds with | d :: r => g d ρ W (fun ρ' W' => h r ρ' W' P) | _ => False
theorem ggs_nil : GGs X [] gdNil [] := ⟨_, pgs_nil, fun F S H σ ρ W ds vs P R cf r hp k => by
  unfold gdNil at hp
  split at hp
  · exact ⟨Reps.nil_iff.mp r, k S H _ _ W .refl cf .refl .refl hp⟩
  · exact hp.elim⟩
theorem ggs_cons {es : List Expr} {g : TGD} {h : TGLD} {ts us : List Nat} (h1 : GG X e g ts) (h2 : GGs X es h us) (hs : (assignEach (e :: es) X.env).map (·.2) = assign e X.env :: (assignEach es X.env).map (·.2) := by rfl) : GGs X (e :: es) (gdCons g h) (ts ++ us) := by
  obtain ⟨ta, pa, sa⟩ := h1
  obtain ⟨tb, pb, sb⟩ := h2
  refine ⟨_, pgs_cons pa pb hs, fun F S H σ ρ W ds vs P R cf r hp k => ?_⟩
  unfold gdCons at hp
  split at hp
  · rename_i d rd
    obtain ⟨x, rx, rfl, r1, r2⟩ := Reps.cons_iff.mp r
    refine ⟨x, rx, rfl, ?_⟩
    refine sa F S H σ ρ W d x _ _ cf r1 hp fun S' H' σ' ρ' W' e' c o1 o2 q => ?_
    exact sb F S' H' σ' ρ' W' rd rx P R c (r2.up e') q fun S2 H2 σ2 ρ2 W2 e2 c2 o3 o4 q2 => k S2 H2 σ2 ρ2 W2 (e'.trans e2) c2 (o1.trans o3) (o2.trans o4) q2
  · exact hp.elim
def gdTup (n : Nat) (g : TGLD) : TGD := fun d ρ W P => match d with | .tup ds => ds.length = n ∧ g ds ρ W P | _ => False
theorem gg_tup {es : List Expr} {k : Nat} {g : TGLD} {n : Nat} {ts : List Nat} (hc : X.calm = true) (h : GGs X es g ts) (hn : (assignEach es X.env).length = n := by rfl) (hst : (assignEach es X.env).findIdx? (·.1) = none := by rfl) : GG X (.Tuple es k pos) (gdTup n g) ts := by
  obtain ⟨ta, pa, sa⟩ := h
  refine ⟨_, pg_tup hc pa hn hst, fun F S H σ ρ W d v P R cf r hp k => ?_⟩
  unfold gdTup at hp
  split at hp
  · rename_i ds
    obtain ⟨a, xs, rfl, h1, h2⟩ := Rep.tup_iff.mp r
    exact ⟨a, xs, rfl, h1.sq, by rw [h2.length]; exact hp.1, sa F S H σ ρ W ds xs P R cf h2 hp.2 k⟩
  · exact hp.elim
/-- target = e -/
def dAsg (fe : TD) (g : TGD) : TSD := fun De ρ W => fe ρ W (fun d ρ' W' => g d ρ' W' De.nx) De.ex
theorem snd_asg {K : PySem.W.Frag} {te : TE} {t : TG} {g : TGD} {ts : List Nat} (se : Snd K Wx te fe) (sg : SndG K t g ts) : SndS K Wx (tAsg te t) (dAsg fe g) := fun F S H σ ρ W De Dh cf hf l =>
  se F S H σ ρ W _ De.ex _ cf hf l.ex fun S' H' ρ' W' d v e' c r q => sg F S' H' σ ρ' W' d v _ _ c r q fun S2 H2 σ2 ρ2 W2 e2 c2 _ _ q2 => l.nx S2 H2 σ2 ρ2 W2 (e'.trans e2) c2 q2
theorem gs_asg {tg : Expr} {g : TGD} {ts : List Nat} (he : GE X Wx e fe) (hg : GG X tg g ts) (hs : swapsWithSole [tg] e pos.line X.env = pure false := by rfl) (hw : swappedStores [tg] e X.env = pure none := by rfl) (h1 : (assignEach [tg] X.env).map (·.2) = [assign tg X.env] := by rfl) : GS X Wx (.Assign [tg] e pos) (dAsg fe g) := by
  obtain ⟨te, pe, se⟩ := he
  obtain ⟨tg', pg, sg⟩ := hg
  exact ⟨_, ps_asg pe pg hs hw h1, snd_asg se sg⟩
theorem gs_set {i : Nat} {x : Str} {pos' : Pos} (hN : X.N.Nodup) (hi : X.N[i]? = some x) (hx : Loc X.env.scope x) (he : GE X Wx e fe) (hs : swapsWith e (some (.Name x pos')) pos.line X.env = pure false := by rfl) (hf : X.fn x = true ∨ X.env.scope.names.lookup x = some .local := by first | exact .inl rfl | exact .inr rfl | assumption) :
    GS X Wx (.Assign [.Name x pos'] e pos) (dAsg fe (gdName i)) := by
  obtain ⟨te, pe, se⟩ := he
  exact ⟨_, ps_set hN hi hx pe hs hf, snd_asg se snd_gName⟩
/-- a, b = e1, e2 with two local names -/
def dPar (i j : Nat) (fl : TL) : TSD := fun De ρ W => fl ρ W (fun ds ρ' W' => match ds with | [d, d'] => De.nx ((ρ'.set i (some (.sh d))).set j (some (.sh d'))) W' | _ => False) De.ex
theorem gs_par {i j : Nat} {x y : Str} {a b : Expr} {fl : TL} {px py pt : Pos} {kt k2 pt2} (hc : X.calm = true) (hN : X.N.Nodup) (hi : X.N[i]? = some x) (hj : X.N[j]? = some y) (hij : i ≠ j)
    (hx : X.env.scope.names.lookup x = some .local) (hy : X.env.scope.names.lookup y = some .local) (ha : GA X Wx [a, b] fl)
    (hw : swappedStores [.Tuple [.Name x px, .Name y py] kt pt] (.Tuple [a, b] k2 pt2) X.env = pure (some [x, y]))
    (hs : swapsWithSole [.Tuple [.Name x px, .Name y py] kt pt] (.Tuple [a, b] k2 pt2) pos.line X.env = pure false := by rfl) :
    GS X Wx (.Assign [.Tuple [.Name x px, .Name y py] kt pt] (.Tuple [a, b] k2 pt2) pos) (dPar i j fl) := by
  obtain ⟨ta, pa, sa⟩ := ha
  refine ⟨_, ps_par hc hN hi hj hij hx hy pa hw hs, fun F S H σ ρ W De Dh cf hf l => ?_⟩
  refine sa F S H σ ρ W _ De.ex _ cf hf l.ex fun S' H' ρ' W' ds vs e' c r q => ?_
  split at q
  · rename_i d d'
    obtain ⟨v, rv, rfl, r1, r2⟩ := Reps.cons_iff.mp r
    obtain ⟨w, rw', rfl, r3, r4⟩ := Reps.cons_iff.mp r2
    rw [Reps.nil_iff.mp r4]
    exact ⟨v, w, rfl, l.nx S' H' _ _ W' e' ((c.setSh i r1).setSh j r3) q⟩
  · exact q.elim
/-- x op= e -/
def IpSnd (K : PySem.W.Frag) (r : TIp) (g : D → D → (D → Prop) → Prop) : Prop := RSnd K r g
def dAug (i : Nat) (k : D → D → (D → Prop) → Prop) (fe : TD) : TSD := fun De ρ W => match ρ[i]? with
  | some (some (.sh d)) => fe ρ W (fun e ρ' W' => k d e fun z => De.nx (ρ'.set i (some (.sh z))) W') De.ex
  | _ => False
theorem gs_aug {i : Nat} {x : Str} {op : Operator} {r : TIp} {k : D → D → (D → Prop) → Prop} {pos' : Pos} (hN : X.N.Nodup) (hi : X.N[i]? = some x) (hx : Loc X.env.scope x) (he : GE X Wx e fe) (ho : PIp X op r) (hr : RSnd X.K r k) (hf : X.fn x = true ∨ X.env.scope.names.lookup x = some .local := by first | exact .inl rfl | exact .inr rfl | assumption) :
    GS X Wx (.AugAssign (.Name x pos') op e pos) (dAug i k fe) := by
  obtain ⟨te, pe, se⟩ := he
  refine ⟨_, ps_aug hN hi hx pe ho hf, fun F S H σ ρ W De Dh cf hf l => ?_⟩
  unfold dAug at hf
  split at hf
  · rename_i d e1
    obtain ⟨v, h1, h2⟩ := cf.sh i d e1
    refine ⟨v, h1, ?_⟩
    refine se F S H σ ρ W _ De.ex _ cf hf l.ex fun S' H' ρ' W' d2 v2 e' c r2 q => ?_
    refine hr F S' H' W' d d2 v v2 _ _ c.cb (h2.up e') r2 q fun d3 v3 H3 s3 r3 q3 => ?_
    exact l.nx S' H3 _ _ W' (e'.trans (stp_same c.cb s3)) ((c.same s3).setSh i r3) q3
  · exact hf.elim
end

/-! ### a list of the frame's own -/
theorem own_set {σ : St} {ρ : Env} {i j : Nat} {v : Option V} {d : Option Sl} {p : Addr} (h : Own (σ.set i v) (ρ.set i d) j p) : i = j ∨ Own σ ρ j p := by
  by_cases hj : i = j
  · exact .inl hj
  · obtain ⟨ds, q1, q2⟩ := h
    rw [List.getElem?_set_ne hj] at q1 q2
    exact .inr ⟨ds, q1, q2⟩
/-- a fresh list into a slot -/
theorem Cf.newOm {K : PySem.W.Frag} {F S : Reg} {H : Hp} {σ : St} {ρ : Env} {W : Wd} (c : Cf K F S H σ ρ W) (i : Nat) {p : Addr} {u : HO} {o : MO} (hp : H p = none) (r : ∀ S' H', Stp F S H S' H' → H' p = some u → MRep K S' H' p o) :
    Stp F S H (fun a => S a ∨ a = p) (upd H p u) ∧ Cf K F (fun a => S a ∨ a = p) (upd H p u) (σ.set i (some (.ref p))) (ρ.set i (some (.om o))) W := by
  have st : Stp F S H (fun a => S a ∨ a = p) (upd H p u) :=
    ⟨fun a o _ h => same_new hp a o h, fun a h1 h2 => by
      rcases h1 with h1 | h1
      · exact absurd h1 h2
      · rw [h1]; exact hp, fun a h => by
      by_cases ha : a = p
      · rw [ha]; exact hp
      · rw [upd_ne ha] at h; exact h, fun a hf => by
      have : a ≠ p := fun q => by
        rw [q] at hf
        exact c.cb.sd p (c.cb.fs p hf) hp
      rw [upd_ne this]⟩
  have np : ∀ a, S a → a ≠ p := fun a hs q => c.cb.sd a hs (by rw [q]; exact hp)
  refine ⟨st, ⟨fun a h => ?_, fun a h => .inl (c.cb.fs a h), fun q o hw => ?_⟩, by simp [c.len], fun j d' h => ?_, fun j ds' h => ?_, fun j k q h1 h2 => ?_⟩
  · rcases h with h | h
    · rw [upd_ne (np a h)]; exact c.cb.sd a h
    · rw [h, upd_same]; simp
  · obtain ⟨h1, h2, h3⟩ := c.cb.w q o hw
    exact ⟨.inl h1, h2, h3.up st (upd_ne (np q h1))⟩
  · by_cases hj : i = j
    · subst hj
      have hl : i < ρ.length := by
        have := (List.getElem?_eq_some_iff.mp h).1
        simpa using this
      rw [List.getElem?_set_self hl] at h
      cases h
    · rw [List.getElem?_set_ne hj] at h
      obtain ⟨w, h1, h2⟩ := c.sh j d' h
      exact ⟨w, by rw [List.getElem?_set_ne hj]; exact h1, h2.up st⟩
  · by_cases hj : i = j
    · subst hj
      have hl : i < ρ.length := by
        have := (List.getElem?_eq_some_iff.mp h).1
        simpa using this
      rw [List.getElem?_set_self hl] at h
      cases h
      refine ⟨p, by rw [List.getElem?_set_self (by rw [c.len]; exact hl)], r _ _ st upd_same, .inr rfl, fun hf => c.cb.sd p (c.cb.fs p hf) hp, ?_⟩
      cases q : W p with
      | none => rfl
      | some o => exact absurd hp (c.cb.sd p (c.cb.w p o q).1)
    · rw [List.getElem?_set_ne hj] at h
      obtain ⟨q, h1, h3, h4, h5⟩ := c.om j ds' h
      exact ⟨q, by rw [List.getElem?_set_ne hj]; exact h1, h3.up st (upd_ne (np q h4)), .inl h4, h5⟩
  · have own_s : ∀ j, Own σ ρ j q → S q := fun j ⟨ds, q1, q2⟩ => by
      obtain ⟨p', e1, _, hs, _⟩ := c.om j ds q1
      rw [q2] at e1; cases e1; exact hs
    have at_i : ∀ {j}, i = j → Own (σ.set i (some (.ref p))) (ρ.set i (some (.om o))) j q → q = p := fun {j} e ⟨ds', q1, q2⟩ => by
      subst e
      have hl : i < σ.length := by
        have := (List.getElem?_eq_some_iff.mp q2).1
        simpa using this
      rw [List.getElem?_set_self hl] at q2
      cases q2; rfl
    rcases own_set h1 with e1 | o1
    · rcases own_set h2 with e2 | o2
      · exact e1.symm.trans e2
      · exact absurd (at_i e1 h1) (np q (own_s k o2))
    · rcases own_set h2 with e2 | o2
      · exact absurd (at_i e2 h2) (np q (own_s j o1))
      · exact c.dis j k q o1 o2
/-- the own list's content changes -/
theorem Cf.chOm {K : PySem.W.Frag} {F S : Reg} {H : Hp} {σ : St} {ρ : Env} {W : Wd} (c : Cf K F S H σ ρ W) {i : Nat} {p : Addr} {u : HO} {o1 o0 : MO} (h0 : ρ[i]? = some (some (.om o0))) (hp : σ[i]? = some (some (.ref p))) (r : ∀ S' H', Stp (fun _ => False) S H S' H' → H' p = some u → MRep K S' H' p o1) :
    Stp F S H S (upd H p u) ∧ Cf K F S (upd H p u) σ (ρ.set i (some (.om o1))) W := by
  obtain ⟨p', e1, r0, hs, hf, hw⟩ := c.om i o0 h0
  rw [hp] at e1; cases e1
  have st0 : Stp (fun _ => False) S H S (upd H p u) :=
    ⟨fun a o h e => by
      have : a ≠ p := fun q => h (q ▸ hs)
      rw [upd_ne this]; exact e, fun a h1 h2 => absurd h1 h2, fun a h => by
      by_cases ha : a = p
      · rw [ha, upd_same] at h; cases h
      · rw [upd_ne ha] at h; exact h, fun a h => h.elim⟩
  have st : Stp F S H S (upd H p u) :=
    ⟨fun a o h e => by
      have : a ≠ p := fun q => h (q ▸ hs)
      rw [upd_ne this]; exact e, fun a h1 h2 => absurd h1 h2, fun a h => by
      by_cases ha : a = p
      · rw [ha, upd_same] at h; cases h
      · rw [upd_ne ha] at h; exact h, fun a h => by
      have : a ≠ p := fun q => hf (q ▸ h)
      rw [upd_ne this]⟩
  have hl : i < ρ.length := (List.getElem?_eq_some_iff.mp h0).1
  refine ⟨st, ⟨fun a h => ?_, c.cb.fs, fun q o hq => ?_⟩, by simp [c.len], fun j d' h => ?_, fun j ds' h => ?_, fun j k q h1 h2 => ?_⟩
  · intro q; exact c.cb.sd a h (st.dom a q)
  · obtain ⟨h1, h2, h3⟩ := c.cb.w q o hq
    have : q ≠ p := fun z => by rw [z, hw] at hq; cases hq
    exact ⟨h1, h2, h3.up st (upd_ne this)⟩
  · by_cases hj : i = j
    · subst hj
      rw [List.getElem?_set_self hl] at h
      cases h
    · rw [List.getElem?_set_ne hj] at h
      obtain ⟨w, h1, h2⟩ := c.sh j d' h
      exact ⟨w, h1, h2.up st⟩
  · by_cases hj : i = j
    · subst hj
      rw [List.getElem?_set_self hl] at h
      cases h
      exact ⟨p, hp, r _ _ st0 upd_same, hs, hf, hw⟩
    · rw [List.getElem?_set_ne hj] at h
      obtain ⟨q, h1, h3, h4, h5⟩ := c.om j ds' h
      have : q ≠ p := fun z => hj (c.dis i j p ⟨o0, h0, hp⟩ ⟨ds', h, z ▸ h1⟩)
      exact ⟨q, h1, h3.up st (upd_ne this), h4, h5⟩
  · have go : ∀ j, Own σ (ρ.set i (some (.om o1))) j q → Own σ ρ j q := fun j ⟨ds', q1, q2⟩ => by
      by_cases hj : i = j
      · subst hj
        exact ⟨o0, h0, q2⟩
      · rw [List.getElem?_set_ne hj] at q1
        exact ⟨ds', q1, q2⟩
    exact c.dis j k q (go j h1) (go k h2)
theorem Cf.ol {K : PySem.W.Frag} {F S : Reg} {H : Hp} {σ : St} {ρ : Env} {W : Wd} (c : Cf K F S H σ ρ W) (i : Nat) (ds : List D) (h0 : ρ[i]? = some (some (.ol ds))) : ∃ p xs, σ[i]? = some (some (.ref p)) ∧ H p = some (.lst xs) ∧ Reps K S H ds xs ∧ S p ∧ ¬ F p ∧ W p = none := by
  obtain ⟨p, h1, ⟨xs, h2, h3⟩, h4⟩ := c.om i _ h0
  exact ⟨p, xs, h1, h2, h3, h4⟩
theorem Cf.newOl {K : PySem.W.Frag} {F S : Reg} {H : Hp} {σ : St} {ρ : Env} {W : Wd} (c : Cf K F S H σ ρ W) (i : Nat) {p : Addr} {xs : List V} {ds : List D} (hp : H p = none) (r : Reps K S H ds xs) :
    Stp F S H (fun a => S a ∨ a = p) (upd H p (.lst xs)) ∧ Cf K F (fun a => S a ∨ a = p) (upd H p (.lst xs)) (σ.set i (some (.ref p))) (ρ.set i (some (.ol ds))) W :=
  c.newOm i hp fun S' H' e h => ⟨xs, h, r.up e⟩
theorem Cf.chOl {K : PySem.W.Frag} {F S : Reg} {H : Hp} {σ : St} {ρ : Env} {W : Wd} (c : Cf K F S H σ ρ W) {i : Nat} {p : Addr} {ds : List D} {xs : List V} {o0 : MO} (h0 : ρ[i]? = some (some (.om o0))) (hp : σ[i]? = some (some (.ref p))) (r : Reps K S H ds xs) :
    Stp F S H S (upd H p (.lst xs)) ∧ Cf K F S (upd H p (.lst xs)) σ (ρ.set i (some (.ol ds))) W :=
  c.chOm h0 hp fun S' H' e h => ⟨xs, h, r.up e⟩
/-- nobody changes it any more -/
theorem Cf.freezeM {K : PySem.W.Frag} {F S : Reg} {H : Hp} {σ : St} {ρ : Env} {W : Wd} (c : Cf K F S H σ ρ W) {i : Nat} {o : MO} {d : D} (h0 : ρ[i]? = some (some (.om o))) (hd : ∀ p S', Stp F S H S' H → ¬ S' p → MRep K S' H p o → Rep K S' H d (.ref p)) :
    ∃ S', Stp F S H S' H ∧ Cf K F S' H σ (ρ.set i (some (.sh d))) W := by
  obtain ⟨p, hp, r0, hs, hf, hw⟩ := c.om i o h0
  have st : Stp F S H (fun a => S a ∧ a ≠ p) H := ⟨fun a o _ e => e, fun a h1 h2 => absurd h1.1 h2, fun a h => h, fun a _ => rfl⟩
  have hl : i < ρ.length := (List.getElem?_eq_some_iff.mp h0).1
  refine ⟨_, st, ⟨fun a h => c.cb.sd a h.1, fun a h => ⟨c.cb.fs a h, fun z => hf (z ▸ h)⟩, fun q o hq => ?_⟩, by simp [c.len], fun j d' h => ?_, fun j ds' h => ?_, fun j k q h1 h2 => ?_⟩
  · obtain ⟨h1, h2, h3⟩ := c.cb.w q o hq
    exact ⟨⟨h1, fun z => by rw [z, hw] at hq; cases hq⟩, h2, h3.up st rfl⟩
  · by_cases hj : i = j
    · subst hj
      rw [List.getElem?_set_self hl] at h
      cases h
      exact ⟨_, hp, hd p _ st (fun z => z.2 rfl) (r0.up st rfl)⟩
    · rw [List.getElem?_set_ne hj] at h
      obtain ⟨w, h1, h2⟩ := c.sh j d' h
      exact ⟨w, h1, h2.up st⟩
  · by_cases hj : i = j
    · subst hj
      rw [List.getElem?_set_self hl] at h
      cases h
    · rw [List.getElem?_set_ne hj] at h
      obtain ⟨q, h1, h3, h4, h5⟩ := c.om j ds' h
      exact ⟨q, h1, h3.up st rfl, ⟨h4, fun z => hj (c.dis i j p ⟨o, h0, hp⟩ ⟨ds', h, z ▸ h1⟩)⟩, h5⟩
  · have go : ∀ j, Own σ (ρ.set i (some (.sh d))) j q → Own σ ρ j q := fun j ⟨ds', q1, q2⟩ => by
      by_cases hj : i = j
      · subst hj
        rw [List.getElem?_set_self hl] at q1
        cases q1
      · rw [List.getElem?_set_ne hj] at q1
        exact ⟨ds', q1, q2⟩
    exact c.dis j k q (go j h1) (go k h2)

theorem Cf.freeze {K : PySem.W.Frag} {F S : Reg} {H : Hp} {σ : St} {ρ : Env} {W : Wd} (c : Cf K F S H σ ρ W) {i : Nat} {ds : List D} (h0 : ρ[i]? = some (some (.ol ds))) :
    ∃ S', Stp F S H S' H ∧ Cf K F S' H σ (ρ.set i (some (.sh (.lst ds)))) W :=
  c.freezeM h0 fun p S' _ hn ⟨xs, h1, h2⟩ => Rep.lst_iff.mpr ⟨p, xs, rfl, ⟨h1, hn⟩, h2⟩
/-- an expression that makes a new list, last of all -/
def EndN (K : PySem.W.Frag) (F S : Reg) (H : Hp) (σ : St) (Q : KL) (R : VK) : Prop :=
  ∀ S' H' ρ' W' ds xs p, Stp F S H S' H' → Cf K F S' H' σ ρ' W' → Reps K S' H' ds xs → H' p = none → Q ds ρ' W' → R (.ref p) (upd H' p (.lst xs))
def SndN (K : PySem.W.Frag) (Wx : WX) (te : TE) (f : TL) : Prop :=
  ∀ F S H σ ρ W Q Qx R, Cf K F S H σ ρ W → f ρ W Q Qx → LkX K F S H Wx Qx → EndN K F S H σ Q R → te σ H R
def GN (X : Cx) (Wx : WX) (e : Expr) (f : TL) : Prop := ∃ te, PE X e te ∧ SndN X.K Wx te f
section
variable {X : Cx} {Wx : WX} {st : Stmt} {rest : List Stmt} {f g : TSD} {e : Expr} {es : List Expr} {fe : TD} {fl : TL} {pos : Pos}
def dFresh (fl : TL) : TD := fun ρ W Q Qx => fl ρ W (fun ds ρ' W' => Q (.lst ds) ρ' W') Qx
theorem snd_fresh {K : PySem.W.Frag} {te : TE} (se : SndN K Wx te fl) : Snd K Wx te (dFresh fl) := by
  intro F S H σ ρ W Q Qx R cf hf hx hE
  refine se F S H σ ρ W _ Qx _ cf hf hx fun S1 H1 ρ1 W1 ds xs p e1 c1 r1 hp q1 => ?_
  exact hE S1 _ ρ1 W1 _ _ (e1.trans (stp_same c1.cb (same_new hp))) (c1.same (same_new hp)) (rep_newL c1.cb hp r1) q1
theorem GN.ge (h : GN X Wx e fl) : GE X Wx e (dFresh fl) := by
  obtain ⟨te, pe, se⟩ := h
  exact ⟨_, pe, snd_fresh se⟩
def dLstN (fl : TL) : TL := fun ρ W Q Qx => fl ρ W (fun ds ρ' W' => ds.length ≤ sizeLine ∧ Q ds ρ' W') Qx
theorem gn_lst (ha : GA X Wx es fl) : GN X Wx (.List es pos) (dLstN fl) := by
  obtain ⟨ta, pa, sa⟩ := ha
  refine ⟨_, pe_lst pa, fun F S H σ ρ W Q Qx R cf hf hx hE => ?_⟩
  refine sa F S H σ ρ W _ Qx _ cf hf hx fun S1 H1 ρ1 W1 ds vs e1 c1 r1 q1 => ?_
  exact ⟨by rw [r1.length]; exact q1.1, fun p hp => hE S1 H1 ρ1 W1 ds vs p e1 c1 r1 hp q1.2⟩
/-- x = [..], the list the frame's own -/
def dAsgO (i : Nat) (fl : TL) : TSD := fun De ρ W => fl ρ W (fun ds ρ' W' => De.nx (ρ'.set i (some (.ol ds))) W') De.ex
theorem snd_asgO {K : PySem.W.Frag} {te : TE} {i : Nat} (se : SndN K Wx te fl) : SndS K Wx (tAsg te (gName i)) (dAsgO i fl) := fun F S H σ ρ W De Dh cf hf l => by
  refine se F S H σ ρ W _ De.ex _ cf hf l.ex fun S' H' ρ' W' ds xs p e' c r hp q => ?_
  obtain ⟨st, c2⟩ := c.newOl i hp r
  exact l.nx _ _ _ _ W' (e'.trans st) c2 q
theorem gs_setO {i : Nat} {x : Str} {pos' : Pos} (hN : X.N.Nodup) (hi : X.N[i]? = some x) (hx : Loc X.env.scope x) (he : GN X Wx e fl) (hs : swapsWith e (some (.Name x pos')) pos.line X.env = pure false := by rfl) (hf : X.fn x = true ∨ X.env.scope.names.lookup x = some .local := by first | exact .inl rfl | exact .inr rfl | assumption) :
    GS X Wx (.Assign [.Name x pos'] e pos) (dAsgO i fl) := by
  obtain ⟨te, pe, se⟩ := he
  exact ⟨_, ps_set hN hi hx pe hs hf, snd_asgO se⟩
/-- x.append(e) -/
def dApp0 (i : Nat) (ρ : Env) : Prop := ∃ ds, ρ[i]? = some (some (.ol ds))
def dApp (i : Nat) (fe : TD) : TSD := fun De ρ W => dApp0 i ρ ∧ fe ρ W (fun d ρ' W' => match ρ'[i]? with
  | some (some (.ol ds)) => ds.length < sizeLine ∧ De.nx (ρ'.set i (some (.ol (ds ++ [d])))) W'
  | _ => False) De.ex
theorem gs_app {i : Nat} {x : Str} {px apos cpos : Pos} (he : GE X Wx e fe) (hN : X.N[i]? = some x := by rfl) (hv : Vis X.env.scope x := by first | exact Or.inl rfl | exact Or.inr (Or.inl rfl) | exact Or.inr (Or.inr rfl)) (hd : (x == ("__debug__" : Str)) = false := by decide) (hcd : (x == ("__classdict__" : Str)) = false := by decide)
    (hbase : attributeBase (.Name x px) "append" X.env (eval (.Name x px) X.env) = eval (.Name x px) X.env := by rfl)
    (hfew : ((backTo cpos (starEach (e :: []) X.env)).all (fun x => !x.1) && (backToKw cpos (keywordEach [] X.env)).all (fun x => x.1.isSome) && decide ((e :: ([] : List Expr)).length + ([] : List Keyword).length + (if ([] : List Keyword).isEmpty then 0 else 1) < 30)) = true := by rfl)
    (hline : (apos.endLine == cpos.line) = true := by rfl) (hse : starEach (e :: []) X.env = (false, eval e X.env) :: starEach [] X.env := by rfl) (hplain : (backTo cpos (starEach [] X.env)).any (·.1) = false := by rfl)
    (hs : swapsWith (.Call (.Attribute (.Name x px) "append" apos) [e] [] cpos) none pos.line X.env = pure false := by rfl) :
    GS X Wx (.Expr (.Call (.Attribute (.Name x px) "append" apos) [e] [] cpos) pos) (dApp i fe) := by
  obtain ⟨te, pe, se⟩ := he
  refine ⟨_, ps_expr (pe_bm PySem.F.plainAttrs_list PySem.F.slot_list_append PySem.F.type_list_append mt_append (pe_var hN hv hd hcd) (pa_cons pe pa_nil hse) hbase hfew hline hse hplain) hs, fun F S H σ ρ W De Dh cf hf l => ?_⟩
  have pre : ∃ p xs, σ[i]? = some (some (.ref p)) ∧ H p = some (.lst xs) := by
    unfold dApp0 at hf
    obtain ⟨⟨ds, h0⟩, hf⟩ := hf
    obtain ⟨p, xs, h1, h2, _⟩ := cf.ol i ds h0
    exact ⟨p, xs, h1, h2⟩
  obtain ⟨p, xs, hp, hH⟩ := pre
  refine ⟨_, hp, .inl ⟨rfl, xs, SqL.of hH⟩, ?_⟩
  refine se F S H σ ρ W _ De.ex _ cf hf.2 l.ex fun S' H' ρ' W' d v e' c r q => ?_
  split at q
  · rename_i ds1 h1
    obtain ⟨p', xs1, e1, h2, h3, _⟩ := c.ol i ds1 h1
    rw [hp] at e1; cases e1
    refine ⟨p, xs1, v, rfl, rfl, h2, by rw [h3.length]; exact q.1, ?_⟩
    obtain ⟨st, c2⟩ := c.chOl h1 hp (h3.append (Reps.cons r Reps.nil))
    exact l.nx _ _ _ _ W' (e'.trans st) c2 q.2
  · exact q.elim
end

section
variable {X : Cx} {Wx : WX} {st : Stmt} {rest : List Stmt} {f g : TSD} {e o : Expr} {es : List Expr} {fe fo : TD} {fl : TL} {pos : Pos}
/-- nobody changes the list of slot i from here on -/
def dFrz (i : Nat) (f : TSD) : TSD := fun De ρ W => match ρ[i]? with
  | some (some (.ol ds)) => f De (ρ.set i (some (.sh (.lst ds)))) W
  | _ => f De ρ W
theorem gss_frz (i : Nat) (h : GSs X Wx rest f) : GSs X Wx rest (dFrz i f) := by
  obtain ⟨t, p, s⟩ := h
  refine ⟨t, p, fun F S H σ ρ W De Dh cf hf l => ?_⟩
  unfold dFrz at hf
  split at hf
  · rename_i ds h0
    obtain ⟨S', st, c2⟩ := cf.freeze h0
    exact s F S' H σ _ W De Dh c2 hf (l.up st)
  · exact s F S H σ ρ W De Dh cf hf l
/-- a method of a text -/
def MSnd (K : PySem.W.Frag) (r : V → List V → Hp → VK → Prop) (g : D → List D → (D → Prop) → Prop) : Prop :=
  ∀ F S H W d ds x xs (P : D → Prop) (R : VK), Cb K F S H W → Rep K S H d x → Reps K S H ds xs → g d ds P → (∀ d' v H', Same H H' → Rep K S H' d' v → P d' → R v H') → r x xs H R
def dM (k : D → List D → (D → Prop) → Prop) (fo : TD) (fl : TL) : TD := fun ρ W Q Qx => fo ρ W (fun d ρ1 W1 => (∃ s, d = .str s) ∧ fl ρ1 W1 (fun ds ρ2 W2 => k d ds fun z => Q z ρ2 W2) Qx) Qx
theorem ge_strM {name : Str} {id : String} {apos cpos : Pos} {r : V → List V → Hp → VK → Prop} {k : D → List D → (D → Prop) → Prop} (slot : Slot "str" name id) (hty : typeOf (.builtin id) = pure (.type "method_descriptor")) (hm : MtR X id r) (hr : MSnd X.K r k) (ho : GE X Wx o fo) (ha : GA X Wx (e :: es) fl)
    (hbase : attributeBase o name X.env (eval o X.env) = eval o X.env := by rfl)
    (hfew : ((backTo cpos (starEach (e :: es) X.env)).all (fun x => !x.1) && (backToKw cpos (keywordEach [] X.env)).all (fun x => x.1.isSome) && decide ((e :: es).length + ([] : List Keyword).length + (if ([] : List Keyword).isEmpty then 0 else 1) < 30)) = true := by rfl)
    (hline : (apos.endLine == cpos.line) = true := by rfl) (hs : starEach (e :: es) X.env = (false, eval e X.env) :: starEach es X.env := by rfl) (hplain : (backTo cpos (starEach es X.env)).any (·.1) = false := by rfl) :
    GE X Wx (.Call (.Attribute o name apos) (e :: es) [] cpos) (dM k fo fl) := by
  obtain ⟨ta, pa, sa⟩ := ha
  obtain ⟨to, po, so⟩ := ho
  refine ⟨_, pe_bm PySem.F.plainAttrs_str slot hty hm po pa hbase hfew hline hs hplain, fun F S H σ ρ W Q Qx R cf hf hx hE => ?_⟩
  refine so F S H σ ρ W _ Qx _ cf hf hx fun S1 H1 ρ1 W1 d v e1 c1 r1 q1 => ?_
  obtain ⟨⟨s, rfl⟩, q1⟩ := q1
  cases Rep.v_iff.mp r1
  refine ⟨rfl, ?_⟩
  refine sa F S1 H1 σ ρ1 W1 _ Qx _ c1 q1 (hx.up e1) fun S2 H2 ρ2 W2 ds vs e2 c2 r2 q2 => ?_
  refine hr F S2 H2 W2 _ ds _ vs _ _ c2.cb (r1.up e2) r2 q2 fun d3 v3 H3 s3 r3 q3 => ?_
  exact hE S2 H3 ρ2 W2 d3 v3 ((e1.trans e2).trans (stp_same c2.cb s3)) (c2.same s3) r3 q3
theorem ge_strM0 {name : Str} {id : String} {apos cpos : Pos} {r : V → List V → Hp → VK → Prop} {k : D → List D → (D → Prop) → Prop} (slot : Slot "str" name id) (hty : typeOf (.builtin id) = pure (.type "method_descriptor")) (hm : MtR X id r) (hr : MSnd X.K r k) (ho : GE X Wx o fo)
    (hbase : attributeBase o name X.env (eval o X.env) = eval o X.env := by rfl) (hline : (apos.endLine == cpos.line) = true := by rfl) : GE X Wx (.Call (.Attribute o name apos) [] [] cpos) (dM k fo dNil) := by
  obtain ⟨to, po, so⟩ := ho
  refine ⟨_, pe_bm0 PySem.F.plainAttrs_str slot hty hm po hbase hline, fun F S H σ ρ W Q Qx R cf hf hx hE => ?_⟩
  refine so F S H σ ρ W _ Qx _ cf hf hx fun S1 H1 ρ1 W1 d v e1 c1 r1 q1 => ?_
  obtain ⟨⟨s, rfl⟩, q1⟩ := q1
  cases Rep.v_iff.mp r1
  refine ⟨rfl, ?_⟩
  refine hr F S1 H1 W1 _ [] _ [] _ _ c1.cb r1 Reps.nil q1 fun d3 v3 H3 s3 r3 q3 => ?_
  exact hE S1 H3 ρ1 W1 d3 v3 (e1.trans (stp_same c1.cb s3)) (c1.same s3) r3 q3
/-- a subscript -/
theorem ge_ix {a b : Expr} {fa fb : TD} {r : R2} {k : D → D → (D → Prop) → Prop} (hr : IxR X r) (hk : RSnd X.K r k) (ha : GE X Wx a fa) (hb : GE X Wx b fb) (hs : PlainIx b) : GE X Wx (.Subscript a b pos) (dOp k fa fb) := by
  obtain ⟨ta, pa, sa⟩ := ha
  obtain ⟨tb, pb, sb⟩ := hb
  exact ⟨_, pe_ix hr pa pb hs, snd_op hk sa sb⟩
/-- a slice -/
abbrev TOD := Env → Wd → (Option Int → Env → Wd → Prop) → KX → Prop
def SndO (K : PySem.W.Frag) (Wx : WX) (te : TO) (f : TOD) : Prop :=
  ∀ F S H σ ρ W (Q : Option Int → Env → Wd → Prop) Qx (R : Option Int → Hp → Prop), Cf K F S H σ ρ W → f ρ W Q Qx → LkX K F S H Wx Qx → (∀ S' H' ρ' W' o, Stp F S H S' H' → Cf K F S' H' σ ρ' W' → Q o ρ' W' → R o H') → te σ H R
def GO (X : Cx) (Wx : WX) (e : Option Expr) (f : TOD) : Prop := ∃ te, PO X e te ∧ SndO X.K Wx te f
def dNoP : TOD := fun ρ W Q _ => Q none ρ W
def dPart (fe : TD) : TOD := fun ρ W Q Qx => fe ρ W (fun d ρ' W' => match d with | .v (.int i) => Q (some i) ρ' W' | _ => False) Qx
theorem go_none : GO X Wx none dNoP := ⟨_, po_none, fun F S H σ ρ W Q Qx R cf hf hx hE => hE S H ρ W none .refl cf hf⟩
theorem go_some (he : GE X Wx e fe) : GO X Wx (some e) (dPart fe) := by
  obtain ⟨te, pe, se⟩ := he
  refine ⟨_, po_some pe, fun F S H σ ρ W Q Qx R cf hf hx hE => ?_⟩
  refine se F S H σ ρ W _ Qx _ cf hf hx fun S1 H1 ρ1 W1 d v e1 c1 r1 q1 => ?_
  split at q1
  · rename_i i
    exact ⟨i, Rep.v_iff.mp r1, hE S1 H1 ρ1 W1 _ e1 c1 q1⟩
  · exact q1.elim
def SlSnd (K : PySem.W.Frag) (r : V → Option Int → Option Int → Hp → VK → Prop) (g : D → Option Int → Option Int → (D → Prop) → Prop) : Prop :=
  ∀ F S H W d x lo hi (P : D → Prop) (R : VK), Cb K F S H W → Rep K S H d x → g d lo hi P → (∀ d' v H', Same H H' → Rep K S H' d' v → P d' → R v H') → r x lo hi H R
def dSl (k : D → Option Int → Option Int → (D → Prop) → Prop) (fe : TD) (fl fh : TOD) : TD := fun ρ W Q Qx => fe ρ W (fun d ρ1 W1 => fl ρ1 W1 (fun lo ρ2 W2 => fh ρ2 W2 (fun hi ρ3 W3 => k d lo hi fun z => Q z ρ3 W3) Qx) Qx) Qx
theorem ge_sl {lo hi : Option Expr} {p2 : Pos} {flo fhi : TOD} {r : V → Option Int → Option Int → Hp → VK → Prop} {k : D → Option Int → Option Int → (D → Prop) → Prop} (hr : SlR X r) (hk : SlSnd X.K r k) (he : GE X Wx e fe) (hl : GO X Wx lo flo) (hu : GO X Wx hi fhi) :
    GE X Wx (.Subscript e (.Slice lo hi none p2) pos) (dSl k fe flo fhi) := by
  obtain ⟨te, pe, se⟩ := he
  obtain ⟨tl, pl, sl⟩ := hl
  obtain ⟨tu, pu, su⟩ := hu
  refine ⟨_, pe_slice hr pe pl pu, fun F S H σ ρ W Q Qx R cf hf hx hE => ?_⟩
  refine se F S H σ ρ W _ Qx _ cf hf hx fun S1 H1 ρ1 W1 d v e1 c1 r1 q1 => ?_
  refine sl F S1 H1 σ ρ1 W1 _ Qx _ c1 q1 (hx.up e1) fun S2 H2 ρ2 W2 o2 e2 c2 q2 => ?_
  refine su F S2 H2 σ ρ2 W2 _ Qx _ c2 q2 (hx.up (e1.trans e2)) fun S3 H3 ρ3 W3 o3 e3 c3 q3 => ?_
  refine hk F S3 H3 W3 d v o2 o3 _ _ c3.cb ((r1.up e2).up e3) q3 fun d4 v4 H4 s4 r4 q4 => ?_
  exact hE S3 H4 ρ3 W3 d4 v4 (((e1.trans e2).trans e3).trans (stp_same c3.cb s4)) (c3.same s4) r4 q4

/-! ### calls of defs -/
/-- a promise over data -/
abbrev KDW := D → Wd → Prop
abbrev KXW := Value → Option (List (Str × D)) → Wd → Prop
abbrev SpD := List D → Wd → KDW → KXW → Prop
def toSp (K : PySem.W.Frag) (n : Nat) (sp : SpD) : Sp := fun vs H Q E => ∃ F S W ds Qd Qx, Cb K F S H W ∧ Reps K S H ds vs ∧ ds.length = n ∧ sp ds W Qd Qx ∧
  (∀ S' H' W' d v, Stp F S H S' H' → Cb K F S' H' W' → Rep K S' H' d v → Qd d W' → Q v H') ∧
  (∀ S' H' W' cls x od, Stp F S H S' H' → Cb K F S' H' W' → XRep K S' H' x od → Qx cls x W' → E cls od H')
/-! ### defs that are called where no repr is under way -/
/-- room for k calls, and no object is being shown -/
structure Rm (k : Nat) (A : Around) : Prop extends Room k A where
  gd : A.guards = some []
theorem Rm.less {j k : Nat} {A : Around} (r : Rm k A) (h : j ≤ k) : Rm j A := ⟨r.toRoom.mono h, r.gd⟩
/-- the kit's FnOk, but only where Rm holds -/
structure FnG (P : Program) (w : World) (K : PySem.W.Frag) (mg : Str → Option Value) (base : Heap) (k : Nat) (f : Addr) (fd : FuncData) (ps : List Str) (sp : Sp) : Prop where
  many : ∀ {vs H Q E}, sp vs H Q E → vs.length = ps.length
  go : ∀ {A : Around} {outer : List PySem.Env} {s : Shared} {H : Hp} {args : Args} {us : List Value} {vs : List V} {Q : VK} {E : XK}, Rm k A → Env0 P w K mg base A outer s H → BindsTo s fd args (ps.zip us) → Vals vs us → sp vs H Q E →
    codeAny (model P w) A (.call (.ref f) args) (CR (L2.CX P w) outer P w H s Q E) s
theorem FnG.mono {P : Program} {w : World} {K : PySem.W.Frag} {mg : Str → Option Value} {base : Heap} {j k : Nat} {f : Addr} {fd : FuncData} {ps : List Str} {sp : Sp} (F : FnG P w K mg base j f fd ps sp) (h : j ≤ k) : FnG P w K mg base k f fd ps sp :=
  ⟨F.many, fun r => F.go (r.less h)⟩
theorem FnG.imp {P : Program} {w : World} {K : PySem.W.Frag} {mg : Str → Option Value} {base : Heap} {k : Nat} {f : Addr} {fd : FuncData} {ps : List Str} {sp sp' : Sp} (F : FnG P w K mg base k f fd ps sp) (h : ∀ {vs H Q E}, sp' vs H Q E → sp vs H Q E) :
    FnG P w K mg base k f fd ps sp' := ⟨fun q => F.many (h q), fun r e b v q => F.go r e b v (h q)⟩
/-- the end of a call within a body -/
theorem end_call {X : Cx} {pins : List (Addr × Obj)} {σ : St} {H : Hp} {s : Shared} {Q : VK} {E : XK} (I : Inv X pins σ H s) (hx : ∀ e s', L2.CX X.prog X.w X.stack H s E e s' → X.xe e s') {c : Code} (h : codeAny (model X.prog X.w) X.A c (CR (L2.CX X.prog X.w) X.stack X.prog X.w H s Q E) s) :
    codeAny (model X.prog X.w) X.A c (fun r s' => match r with | .ok (.ret u) => EP X pins σ Q u s' | .ok _ => False | .error e => X.xe e s') s := by
  refine codeAny_mono h fun r s' q => ?_
  match r, q with
  | .error e, q => exact hx e s' q
  | .ok (.ret u), q => exact I.after q
  | .ok .next, q => exact q.elim
  | .ok .brk, q => exact q.elim
  | .ok .cont, q => exact q.elim
/-- a def by its body, where no repr is under way -/
theorem fng_of {P : Program} {w : World} {K : PySem.W.Frag} {mg : Str → Option Value} {base : Heap} {k : Nat} {x qual : Str} {st : Stmt} {f : Addr} {fd : FuncData} {N ps : List Str} {sp : Sp} (F : Fun K x qual st f fd) (S : FnScope N ps (defScope st)) (hl : ∀ {vs H Q E}, sp vs H Q E → vs.length = ps.length)
    (hb : ∀ (cdv : Value) (A : Around) (outer : List PySem.Env) (s : Shared) (H : Hp) (vs : List V) (Q : VK) (E : XK), Rm k (A.deeper (PyProof.Rows.envOfC qual (defScope st) s.heap.objs.size f cdv)) → sp vs H Q E →
      ∃ t, PSs (cxOf (L2.CX P w) P w K mg base N qual (defScope st) f cdv A outer s H E) (defBody st) t ∧ t { nx := fun _ H' => Q .non H', rt := Q } (L2.start N vs) H) : FnG P w K mg base (k + 1) f fd ps sp := by
  obtain ⟨oc, od, kV, doc, pm, an, cdv, ct, osl, efd, atK, isC⟩ := F.ex
  subst efd
  refine ⟨hl, ?_⟩
  intro A outer s H args us vs Q E rm env bnd rel hsp
  have stay : ∀ b o, base.get? b = some o → s.heap.get? b = some o := fun b o e => (env.bs b o e).1
  have inK : K.In s.heap := env.mod.kin.keeps stay
  have par : ∀ y ∈ ps.zip us, (defScope st).names.lookup y.1 = some .local ∨ ((defScope st).names.lookup y.1 = some .cell ∧ ((cellsFrom (s.heap.objs.size + 1) (defScope st).names []).lookup y.1).isSome = true) := by
    rintro ⟨n, v⟩ hy
    refine (S.par n (List.of_mem_zip hy).1).imp id fun q => ⟨q, PySem.W.cellsFrom_some _ _ _ (.inl q)⟩
  refine codeAny_call_function rm.toRoom.depth (inK _ _ atK) rfl S.co S.gen rfl (PySem.W.codeRec_of inK isC) (bnd _ _ _ _ ?_)
  refine wpAny_newFunctionEnv_cells S.kind par ?_
  rintro env' rfl s1 inC
  refine ⟨(env.mod.nolimit.keeps stay).keeps inC.toInCall.keep, codeAny_func ?_⟩
  obtain ⟨t, pt, qt⟩ := hb cdv A outer s H vs Q E ⟨rm.toRoom.deeper _, rm.gd⟩ hsp
  have I := inv_start (CX := L2.CX P w) (E := E) S rm.toRoom.hd env (hl hsp) rel inC
  refine wpAny_mono (pt.run [] s1 (L2.start N vs) H _ I qt) (fun fl s' q => ?_) (fun _ _ q => q)
  match fl, q with
  | .ret u, ⟨v, _, H', J, rv, q⟩ => exact ⟨v, H', J.os, J.bare, J.base, J.hok, rv, q⟩
  | .next, ⟨_, H', J, q⟩ => exact ⟨V.non, H', J.os, J.bare, J.base, J.hok, rfl, q⟩
  | .brk, ⟨_, _, _, q⟩ => exact q.elim
  | .cont, ⟨_, _, _, q⟩ => exact q.elim
section
variable {X : Cx} {Wx : WX} {k : Nat} {f : Addr} {fd : FuncData} {ps : List Str} {sp : Sp}
theorem pe_callG {x : Str} {e : Expr} {es : List Expr} {E : St → XK} {t : TA} {p pos : Pos} (F : FnG X.prog X.w X.K X.mg X.base k f fd ps sp) (hr : Rm k X.A) (hg : Gl X x) (hm : X.mg x = some (.ref f)) (hk : PySem.W.keepIn X.K (.ref f) = true) (hb : Binds X.K fd ps [])
    (hx : ∀ σ, PassesAt (L2.CX X.prog X.w) X σ (E σ)) (ha : PA X (e :: es) t) (hdb : (x == ("__debug__" : Str)) = false) (he : starEach (e :: es) X.env = (false, eval e X.env) :: starEach es X.env) (hpl : (backTo pos (starEach es X.env)).any (·.1) = false) :
    PE X (.Call (.Name x p) (e :: es) [] pos) (tCallS sp E t) := by
  constructor
  intro pins s σ H Q I h
  refine wpAny_Call_Name_kw (ld_glob I hg hm (PySem.W.callWith_K (h₀ := X.base) I.ok.mod.kin hk (thn (ha.run pos pins s σ H _ I h) ?_) he hpl) hdb)
  rintro us s1 ⟨vs, H1, I1, rel, q⟩
  refine ⟨I1.kIn, ?_⟩
  have b := hb s1 us I1.kIn (by rw [List.append_nil, ← rel.length]; exact F.many q)
  rw [List.append_nil] at b
  refine wpAny_call (codeAny_mono (end_call (pins := pins) I1 (fun e s' z => hx σ pins H1 s1 e s' I1 z) (F.go hr I1.env0 b rel q)) fun r s' z => ?_)
  match r, z with
  | .error e, z => exact z
  | .ok (.ret u), z => exact z
  | .ok .next, z => exact z.elim
  | .ok .brk, z => exact z.elim
  | .ok .cont, z => exact z.elim
end
def dCall (sp : SpD) (n : Nat) (fl : TL) : TD := fun ρ W Q Qx => fl ρ W (fun ds ρ' W' => ds.length = n ∧ sp ds W' (fun d W2 => Q d ρ' W2) (fun cls x W2 => Qx cls x ρ' W2)) Qx
theorem snd_call {K : PySem.W.Frag} {n : Nat} {sp : SpD} {ta : TA} (ha : SndL K Wx ta fl) : Snd K Wx (tCallS (toSp K n sp) (WE Wx) ta) (dCall sp n fl) := by
  intro F S H σ ρ W Q Qx R cf hf hx hE
  refine ha F S H σ ρ W _ Qx _ cf hf hx fun S1 H1 ρ1 W1 ds vs e1 c1 r1 q1 => ?_
  refine ⟨_, S1, W1, ds, _, _, c1.below, r1, q1.1, q1.2, fun S' H' W' d v e' b r q => ?_, fun S' H' W' cls x od e' b xr q => ?_⟩
  · exact hE S' H' ρ1 W' d v (e1.trans (e'.mono fun _ h => .inl h)) (c1.back e' b) r q
  · exact hx S' H' σ ρ1 W' cls x od (e1.trans (e'.mono fun _ h => .inl h)) (c1.back e' b) xr q
theorem ge_call {f : Addr} {fd : FuncData} {ps : List Str} {k n : Nat} {sp : SpD} {x : Str} {p : Pos} (tk : Takes X Wx) (GF : FnG X.prog X.w X.K X.mg X.base k f fd ps (toSp X.K n sp)) (hr : Rm k X.A) (hg : Gl X x) (hm : X.mg x = some (.ref f)) (hk : PySem.W.keepIn X.K (.ref f) = true) (hb : Binds X.K fd ps [])
    (ha : GA X Wx (e :: es) fl) (hdb : (x == ("__debug__" : Str)) = false := by decide) (he : starEach (e :: es) X.env = (false, eval e X.env) :: starEach es X.env := by rfl) (hpl : (backTo pos (starEach es X.env)).any (·.1) = false := by rfl) :
    GE X Wx (.Call (.Name x p) (e :: es) [] pos) (dCall sp n fl) := by
  obtain ⟨ta, pa, sa⟩ := ha
  exact ⟨_, pe_callG GF hr hg hm hk hb (fun σ => passAt tk σ) pa hdb he hpl, snd_call sa⟩
end
/-- THE RULE for a def -/
theorem okD {P : Program} {w : World} {K : PySem.W.Frag} {mg : Str → Option Value} {base : Heap} {x qual : Str} {st : Stmt} {f : Addr} {fd : FuncData} {N ps : List Str} {k : Nat} {sp : SpD} (F : Fun K x qual st f fd) (Sc : FnScope N ps (defScope st))
    (hbody : ∀ (cdv : Value) (A : Around) (outer : List PySem.Env) (s : Shared) (H : Hp) (E : XK), Rm k (A.deeper (PyProof.Rows.envOfC qual (defScope st) s.heap.objs.size f cdv)) →
      ∃ g, GSs (cxOf (L2.CX P w) P w K mg base N qual (defScope st) f cdv A outer s H E) (fun cls d _ H => E cls d H) (defBody st) g ∧
        ∀ ds W Qd Qx, ds.length = ps.length → sp ds W Qd Qx → g { nx := fun _ W' => Qd .non W', rt := Qd, ex := fun cls x _ W' => Qx cls x W' } (ds.map (fun d => some (Sl.sh d)) ++ List.replicate (N.length - ds.length) none) W) :
    FnG P w K mg base (k + 1) f fd ps (toSp K ps.length sp) := by
  refine fng_of F Sc (fun {vs H Q E} h => ?_) (fun cdv A outer s H vs Q E hr h => ?_)
  · obtain ⟨_, _, _, ds, _, _, _, h1, h2, _⟩ := h
    rw [h1.length, h2]
  · obtain ⟨g, ⟨t, pt, sg⟩, hg⟩ := hbody cdv A outer s H E hr
    obtain ⟨Fr, S, W, ds, Qd, Qx, cb, rs, hl, hsp, hQ, hE⟩ := h
    refine ⟨t, pt, ?_⟩
    have hvl : vs.length = ps.length := by rw [rs.length, hl]
    refine sg Fr S H (L2.start N vs) _ W _ _ ?_ (hg ds W Qd Qx hl hsp) ?_
    · have shp : ∀ (i : Nat) (sl : Sl), (ds.map (fun d => some (Sl.sh d)) ++ List.replicate (N.length - ds.length) none)[i]? = some (some sl) → ∃ d, ds[i]? = some d ∧ sl = .sh d := fun i sl h => by
        rw [List.getElem?_append] at h
        split at h
        · rename_i hi
          rw [List.getElem?_map] at h
          cases e : ds[i]? with
          | none => rw [e] at h; cases h
          | some d => rw [e] at h; cases h; exact ⟨d, rfl, rfl⟩
        · rw [List.getElem?_replicate] at h
          split at h <;> cases h
      refine ⟨cb, ?_, fun i d h => ?_, fun i ds' h => ?_, fun i j p h1 h2 => ?_⟩
      · unfold L2.start
        simp [rs.length]
      · obtain ⟨d', e1, e2⟩ := shp i _ h
        cases e2
        obtain ⟨v, e3, r⟩ := rs.get e1
        refine ⟨v, ?_, r⟩
        unfold L2.start
        have hi : i < vs.length := (List.getElem?_eq_some_iff.mp e3).1
        rw [List.getElem?_append_left (by simpa using hi), List.getElem?_map, e3]
        rfl
      · obtain ⟨d', e1, e2⟩ := shp i _ h
        cases e2
      · obtain ⟨ds', h1, _⟩ := h1
        obtain ⟨d', e1, e2⟩ := shp i _ h1
        cases e2
    · exact ⟨fun S' H' σ' ρ' W' e c q => hQ S' H' W' _ _ e c.cb (Rep.v_iff.mpr rfl) q, fun S' H' σ' ρ' W' d v e c r q => hQ S' H' W' d v e c.cb r q,
        fun S' H' σ' ρ' W' e c q => q.elim, fun S' H' σ' ρ' W' e c q => q.elim, fun S' H' σ' ρ' W' cls x od e c xr q => hE S' H' W' cls x od e c.cb xr q⟩
/-- a weaker promise -/
theorem toSp_imp {K : PySem.W.Frag} {n : Nat} {sp sp' : SpD} (h : ∀ ds W Q Qx, sp' ds W Q Qx → sp ds W Q Qx) : ∀ vs H Q E, toSp K n sp' vs H Q E → toSp K n sp vs H Q E := fun vs H Q E ⟨F, S, W, ds, Qd, Qx, a, b, c, d, e, f⟩ => ⟨F, S, W, ds, Qd, Qx, a, b, c, h _ _ _ _ d, e, f⟩
end G

namespace G
open PySem PySem.Spec L2

/-! ### what is walked -/
/-- J yields the data ds, whatever happens outside of them meanwhile -/
def ItOk (K : PySem.W.Frag) (F S : Reg) (H : Hp) (J : It) (ds : List D) : Prop :=
  ∀ S' H', Stp F S H S' H' → (∀ (i : Nat) d, ds[i]? = some d → J.go i H' ∧ ∀ x H3, J.yld i H' x H3 → Same H' H3 ∧ ((∀ a, S' a → H' a ≠ none) → Rep K S' H3 d x)) ∧ J.stop ds.length H'
theorem ItOk.up {K : PySem.W.Frag} {F S S1 : Reg} {H H1 : Hp} {J : It} {ds : List D} (h : ItOk K F S H J ds) (e : Stp F S H S1 H1) : ItOk K F S1 H1 J ds := fun S' H' e' => h S' H' (e.trans e')
abbrev TID := Env → Wd → KL → KX → Prop
def SndI (K : PySem.W.Frag) (Wx : WX) (wi : TI) (f : TID) : Prop :=
  ∀ F S H σ ρ W Q Qx (R : It → Hp → Prop), Cf K F S H σ ρ W → f ρ W Q Qx → LkX K F S H Wx Qx → (∀ S' H' ρ' W' ds J, Stp F S H S' H' → Cf K F S' H' σ ρ' W' → ItOk K F S' H' J ds → Q ds ρ' W' → R J H') → wi σ H R
def GI (X : Cx) (Wx : WX) (tg iter : Expr) (f : TID) : Prop := ∃ wi, PI X tg iter wi ∧ SndI X.K Wx wi f
section
variable {X : Cx} {Wx : WX} {e tg a b c : Expr} {es : List Expr} {fe : TD} {fl : TL} {p pos : Pos}
theorem itok_l {K : PySem.W.Frag} {F S : Reg} {H : Hp} {a : Addr} {xs : List V} {ds : List D} (h : ImL S H a xs) (r : Reps K S H ds xs) : ItOk K F S H (Itl K a) ds := fun S' H' e => by
  have h' : SqL K H' a xs := (e.imL h).sq
  have r' := r.up e
  refine ⟨fun i d hd => ?_, ⟨xs, h', by rw [r'.length]; exact Nat.le_refl _⟩⟩
  obtain ⟨v, hv, rv⟩ := r'.get hd
  exact ⟨⟨xs, v, h', hv⟩, fun x H3 ⟨e3, y⟩ => by
    subst e3
    have := y xs h'
    rw [hv] at this; cases this
    exact ⟨Same.refl _, fun _ => rv⟩⟩
theorem itok_t {K : PySem.W.Frag} {F S : Reg} {H : Hp} {a : Addr} {xs : List V} {ds : List D} (h : ImT K S H a xs) (r : Reps K S H ds xs) : ItOk K F S H (Itt K a) ds := fun S' H' e => by
  have h' := (e.imT h).sq
  have r' := r.up e
  refine ⟨fun i d hd => ?_, ⟨xs, h', by rw [r'.length]; exact Nat.le_refl _⟩⟩
  obtain ⟨v, hv, rv⟩ := r'.get hd
  exact ⟨⟨xs, v, h', hv⟩, fun x H3 ⟨e3, y⟩ => by
    subst e3
    have := y xs h'
    rw [hv] at this; cases this
    exact ⟨Same.refl _, fun _ => rv⟩⟩
def iSeq (fe : TD) : TID := fun ρ W Q Qx => fe ρ W (fun d ρ' W' => match d with | .lst ds => Q ds ρ' W' | _ => False) Qx
def iTupD (fe : TD) : TID := fun ρ W Q Qx => fe ρ W (fun d ρ' W' => match d with | .tup ds => Q ds ρ' W' | _ => False) Qx
theorem gi_list (he : GE X Wx e fe) : GI X Wx tg e (iSeq fe) := by
  obtain ⟨te, pe, se⟩ := he
  refine ⟨_, pi_list pe, fun F S H σ ρ W Q Qx R cf hf hx hE => ?_⟩
  refine se F S H σ ρ W _ Qx _ cf hf hx fun S1 H1 ρ1 W1 d v e1 c1 r1 q1 => ?_
  split at q1
  · rename_i ds
    obtain ⟨a, xs, rfl, h1, h2⟩ := Rep.lst_iff.mp r1
    exact ⟨a, rfl, ⟨xs, h1.sq⟩, hE S1 H1 ρ1 W1 ds _ e1 c1 (itok_l h1 h2) q1⟩
  · exact q1.elim
theorem gi_tup (he : GE X Wx e fe) : GI X Wx tg e (iTupD fe) := by
  obtain ⟨te, pe, se⟩ := he
  refine ⟨_, pi_tup pe, fun F S H σ ρ W Q Qx R cf hf hx hE => ?_⟩
  refine se F S H σ ρ W _ Qx _ cf hf hx fun S1 H1 ρ1 W1 d v e1 c1 r1 q1 => ?_
  split at q1
  · rename_i ds
    obtain ⟨a, xs, rfl, h1, h2⟩ := Rep.tup_iff.mp r1
    exact ⟨a, rfl, ⟨xs, h1.sq⟩, hE S1 H1 ρ1 W1 ds _ e1 c1 (itok_t h1 h2) q1⟩
  · exact q1.elim
/-- the script -/
def iScr (fe : TD) : TID := fun ρ W Q Qx => fe ρ W (fun d ρ' W' => match d with | .scr ns => Q (ns.map D.int) ρ' W' | _ => False) Qx
theorem gi_scr (he : GE X Wx e fe) : GI X Wx tg e (iScr fe) := by
  obtain ⟨te, pe, se⟩ := he
  refine ⟨_, pi_list pe, fun F S H σ ρ W Q Qx R cf hf hx hE => ?_⟩
  refine se F S H σ ρ W _ Qx _ cf hf hx fun S1 H1 ρ1 W1 d v e1 c1 r1 q1 => ?_
  split at q1
  · rename_i ns
    obtain ⟨a, rfl, h1⟩ := Rep.scr_iff.mp r1
    refine ⟨a, rfl, ⟨_, h1.sq⟩, hE S1 H1 ρ1 W1 _ _ e1 c1 (fun S' H' e' => ?_) q1⟩
    have h' := (e'.imS h1).sq
    refine ⟨fun i d hd => ?_, ⟨_, h', by simp⟩⟩
    rw [List.getElem?_map] at hd
    cases hn : ns[i]? with
    | none => rw [hn] at hd; cases hd
    | some n =>
      rw [hn] at hd; cases hd
      have hv : (ns.map V.int)[i]? = some (V.int n) := by rw [List.getElem?_map, hn]; rfl
      exact ⟨⟨_, _, h', hv⟩, fun x H3 ⟨e3, y⟩ => by
        subst e3
        have := y _ h'
        rw [hv] at this; cases this
        exact ⟨Same.refl _, fun _ => Rep.v_iff.mpr rfl⟩⟩
  · exact q1.elim
/-- the signs of a text -/
def signs (s : Str) : List D := s.cps.toList.map fun c => D.str ⟨#[c]⟩
def iStrD (fe : TD) : TID := fun ρ W Q Qx => fe ρ W (fun d ρ' W' => match d with | .v (.str s) => Q (signs s) ρ' W' | _ => False) Qx
theorem gi_str (he : GE X Wx e fe) : GI X Wx tg e (iStrD fe) := by
  obtain ⟨te, pe, se⟩ := he
  refine ⟨_, pi_str pe, fun F S H σ ρ W Q Qx R cf hf hx hE => ?_⟩
  refine se F S H σ ρ W _ Qx _ cf hf hx fun S1 H1 ρ1 W1 d v e1 c1 r1 q1 => ?_
  split at q1
  · rename_i s
    cases Rep.v_iff.mp r1
    refine ⟨s, rfl, hE S1 H1 ρ1 W1 _ _ e1 c1 (fun S' H' e' => ⟨fun i d hd => ?_, ?_⟩) q1⟩
    · unfold signs at hd
      rw [List.getElem?_map] at hd
      cases hc : s.cps.toList[i]? with
      | none => rw [hc] at hd; cases hd
      | some c =>
        rw [hc] at hd; cases hd
        have hi : i < s.cps.size := by
          have := (List.getElem?_eq_some_iff.mp hc).1
          simpa using this
        refine ⟨hi, fun x H3 ⟨e3, c', h1, h2⟩ => ?_⟩
        subst e3 h2
        have : c' = c := by
          rw [← Array.getElem?_toList] at h1
          rw [hc] at h1; cases h1; rfl
        subst this
        exact ⟨Same.refl _, fun _ => Rep.v_iff.mpr rfl⟩
    · show s.cps.size ≤ (signs s).length
      unfold signs
      simp
  · exact q1.elim
/-- lo, lo + 1, .. -/
def rng (lo : Int) (n : Nat) : List D := (List.range n).map fun (i : Nat) => D.int (lo + (i : Int))
theorem rng_length {lo : Int} {n : Nat} : (rng lo n).length = n := by unfold rng; simp
theorem itok_r {K : PySem.W.Frag} {F S : Reg} {H : Hp} {lo : Int} {n : Nat} : ItOk K F S H (Itr lo n) (rng lo n) := fun S' H' e => by
  refine ⟨fun i d hd => ?_, ?_⟩
  · unfold rng at hd
    rw [List.getElem?_map] at hd
    cases hc : (List.range n)[i]? with
    | none => rw [hc] at hd; cases hd
    | some c =>
      rw [hc] at hd; cases hd
      rw [List.getElem?_eq_some_iff] at hc
      obtain ⟨hi, e1⟩ := hc
      rw [List.getElem_range] at e1
      subst e1
      refine ⟨(show i < n by simpa using hi), fun x H3 ⟨e3, h2⟩ => ?_⟩
      subst e3 h2
      exact ⟨Same.refl _, fun _ => Rep.v_iff.mpr rfl⟩
  · show n ≤ _
    rw [rng_length]; exact Nat.le_refl _
def iRngD1 (fl : TL) : TID := fun ρ W Q Qx => fl ρ W (fun ds ρ' W' => match ds with | [.v (.int j)] => -(2 ^ 62) ≤ j ∧ j < 2 ^ 62 ∧ Q (rng 0 j.toNat) ρ' W' | _ => False) Qx
def iRngD2 (fl : TL) : TID := fun ρ W Q Qx => fl ρ W (fun ds ρ' W' => match ds with | [.v (.int i), .v (.int j)] => (-(2 ^ 62) ≤ i ∧ i < 2 ^ 62 ∧ -(2 ^ 62) ≤ j ∧ j < 2 ^ 62) ∧ Q (rng i (j - i).toNat) ρ' W' | _ => False) Qx
theorem gi_range1 (hg : Gl X "range") (hm : X.mg "range" = none) (ha : GA X Wx [a] fl) (hs : starEach [a] X.env = [(false, eval a X.env)] := by rfl) : GI X Wx tg (.Call (.Name "range" p) [a] [] pos) (iRngD1 fl) := by
  obtain ⟨ta, pa, sa⟩ := ha
  refine ⟨_, pi_range1 hg hm pa hs, fun F S H σ ρ W Q Qx R cf hf hx hE => ?_⟩
  refine sa F S H σ ρ W _ Qx _ cf hf hx fun S1 H1 ρ1 W1 ds vs e1 c1 r1 q1 => ?_
  split at q1
  · rename_i j
    obtain ⟨v, r, rfl, h1, h2⟩ := Reps.cons_iff.mp r1
    cases Rep.v_iff.mp h1
    rw [Reps.nil_iff.mp h2]
    exact ⟨j, rfl, q1.1, q1.2.1, hE S1 H1 ρ1 W1 _ _ e1 c1 itok_r q1.2.2⟩
  · exact q1.elim
theorem gi_range2 (hg : Gl X "range") (hm : X.mg "range" = none) (ha : GA X Wx [a, b] fl) (hs : starEach [a, b] X.env = [(false, eval a X.env), (false, eval b X.env)] := by rfl) (hs2 : starEach [b] X.env = [(false, eval b X.env)] := by rfl) : GI X Wx tg (.Call (.Name "range" p) [a, b] [] pos) (iRngD2 fl) := by
  obtain ⟨ta, pa, sa⟩ := ha
  refine ⟨_, pi_range2 hg hm pa hs hs2, fun F S H σ ρ W Q Qx R cf hf hx hE => ?_⟩
  refine sa F S H σ ρ W _ Qx _ cf hf hx fun S1 H1 ρ1 W1 ds vs e1 c1 r1 q1 => ?_
  split at q1
  · rename_i i j
    obtain ⟨v, r, rfl, h1, h2⟩ := Reps.cons_iff.mp r1
    obtain ⟨v', r', rfl, h3, h4⟩ := Reps.cons_iff.mp h2
    cases Rep.v_iff.mp h1
    cases Rep.v_iff.mp h3
    rw [Reps.nil_iff.mp h4]
    exact ⟨i, j, rfl, q1.1, hE S1 H1 ρ1 W1 _ _ e1 c1 itok_r q1.2⟩
  · exact q1.elim
/-- lo, lo + c, .. -/
def steps (lo c : Int) (n : Nat) : List D := (List.range n).map fun (i : Nat) => D.int (lo + (i : Int) * c)
def iRngD3 (fl : TL) : TID := fun ρ W Q Qx => fl ρ W (fun ds ρ' W' => match ds with | [.v (.int i), .v (.int j), .v (.int c)] => ∃ n, RgC i j c n ∧ Q (steps i c n) ρ' W' | _ => False) Qx
theorem itok_c {K : PySem.W.Frag} {F S : Reg} {H : Hp} {lo c : Int} {n : Nat} : ItOk K F S H (Itc lo c n) (steps lo c n) := fun S' H' e => by
  refine ⟨fun i d hd => ?_, ?_⟩
  · unfold steps at hd
    rw [List.getElem?_map] at hd
    cases hc : (List.range n)[i]? with
    | none => rw [hc] at hd; cases hd
    | some k =>
      rw [hc] at hd; cases hd
      rw [List.getElem?_eq_some_iff] at hc
      obtain ⟨hi, e1⟩ := hc
      rw [List.getElem_range] at e1
      subst e1
      refine ⟨(show i < n by simpa using hi), fun x H3 ⟨e3, h2⟩ => ?_⟩
      subst e3 h2
      exact ⟨Same.refl _, fun _ => Rep.v_iff.mpr rfl⟩
  · show n ≤ _
    unfold steps; simp
theorem gi_range3 (hg : Gl X "range") (hm : X.mg "range" = none) (ha : GA X Wx [a, b, c] fl) (hs : starEach [a, b, c] X.env = (false, eval a X.env) :: starEach [b, c] X.env := by rfl) (hpl : (backTo pos (starEach [b, c] X.env)).any (·.1) = false := by rfl) : GI X Wx tg (.Call (.Name "range" p) [a, b, c] [] pos) (iRngD3 fl) := by
  obtain ⟨ta, pa, sa⟩ := ha
  refine ⟨_, pi_range3 hg hm pa hs hpl, fun F S H σ ρ W Q Qx R cf hf hx hE => ?_⟩
  refine sa F S H σ ρ W _ Qx _ cf hf hx fun S1 H1 ρ1 W1 ds vs e1 c1 r1 q1 => ?_
  split at q1
  · rename_i i j c
    obtain ⟨v, r, rfl, h1, h2⟩ := Reps.cons_iff.mp r1
    obtain ⟨v', r', rfl, h3, h4⟩ := Reps.cons_iff.mp h2
    obtain ⟨v'', r'', rfl, h5, h6⟩ := Reps.cons_iff.mp h4
    cases Rep.v_iff.mp h1
    cases Rep.v_iff.mp h3
    cases Rep.v_iff.mp h5
    rw [Reps.nil_iff.mp h6]
    obtain ⟨n, hr, q⟩ := q1
    exact ⟨i, j, c, n, rfl, hr, hE S1 H1 ρ1 W1 _ _ e1 c1 itok_c q⟩
  · exact q1.elim
end

/-! ### for -/
section
variable {X : Cx} {Wx : WX} {st : Stmt} {f g : TSD} {e tg iter : Expr} {fi : TID} {gd : TGD} {pos : Pos}
/-- I: what holds ahead of the i-th turn -/
@[irreducible] def dFor (fi : TID) (gd : TGD) (fb : TSD) : TSD := fun De ρ W => fi ρ W (fun ds ρ0 W0 => ∃ I : Nat → Env → Wd → Prop, I 0 ρ0 W0 ∧
  (∀ (i : Nat) d ρ W, ds[i]? = some d → I i ρ W → gd d ρ W fun ρ' W' => fb { De with nx := I (i + 1), ct := I (i + 1), bk := De.nx } ρ' W') ∧ ∀ ρ W, I ds.length ρ W → De.nx ρ W) De.ex
theorem gs_for {body : List Stmt} (hp : PassesOwn (model X.prog X.w) X.A X.env X.xe) (hc : X.calm = true) {ts : List Nat} (hi : GI X Wx tg iter fi) (hg : GG X tg gd ts) (hb : GSs X Wx body f)
    (hs : ∀ x, foldedSetIterable iter X.env x = pure x := by intro _; rfl) : GS X Wx (.For tg iter body [] pos) (dFor fi gd f) := by
  obtain ⟨wi, pi, si⟩ := hi
  obtain ⟨tgt, pg, sg⟩ := hg
  obtain ⟨tb, pb, sb⟩ := hb
  refine ⟨_, ps_for hp hc pi pg pb hs, fun F S H σ ρ W De Dh cf hf l => ?_⟩
  unfold dFor at hf
  refine si F S H σ ρ W _ De.ex _ cf hf l.ex fun S1 H1 ρ1 W1 ds J e1 c1 ok q1 => ?_
  obtain ⟨I, h0, hturn, hend⟩ := q1
  let Inv' : Nat → L2.St → Hp → Prop := fun i σ' H' => ∃ S' ρ' W', Stp F S1 H1 S' H' ∧ Cf X.K F S' H' σ' ρ' W' ∧ I i ρ' W'
  refine ⟨fun i m σ' H' => m = ds.length - i ∧ i ≤ ds.length ∧ Inv' i σ' H', ⟨ds.length, by simp, Nat.zero_le _, S1, ρ1, W1, .refl, c1, h0⟩, ?_⟩
  rintro i m σ2 H2 ⟨rfl, hi, S2, ρ2, W2, e2, c2, q2⟩
  obtain ⟨okg, oks⟩ := ok S2 H2 e2
  by_cases hlt : i < ds.length
  · have hd : ds[i]? = some ds[i] := List.getElem?_eq_getElem hlt
    obtain ⟨hgo, hy⟩ := okg i _ hd
    refine .inr ⟨hgo, Inv' (i + 1), fun σ' H' p' => ⟨_, by omega, rfl, hlt, p'⟩, fun x H3 y => ?_⟩
    obtain ⟨s3, r3⟩ := hy x H3 y
    refine sg F S2 H3 σ2 ρ2 W2 _ x _ _ (c2.same s3) (r3 c2.cb.sd) (hturn i _ ρ2 W2 hd q2) fun S4 H4 σ4 ρ4 W4 e4 c4 _ _ q4 => ?_
    have e34 := (e2.trans (stp_same c2.cb s3)).trans e4
    refine sb F S4 H4 σ4 ρ4 W4 _ _ c4 q4 ⟨fun S' H' σ' ρ' W' e' c q => ⟨S', ρ', W', e34.trans e', c, q⟩, fun S' H' σ' ρ' W' d v e' c r q => l.rt S' H' σ' ρ' W' d v ((e1.trans e34).trans e') c r q,
      fun S' H' σ' ρ' W' e' c q => l.nx S' H' σ' ρ' W' ((e1.trans e34).trans e') c q, fun S' H' σ' ρ' W' e' c q => ⟨S', ρ', W', e34.trans e', c, q⟩, (l.ex.up e1).up e34⟩
  · have e : i = ds.length := by omega
    subst e
    exact .inl ⟨oks, l.nx S2 H2 σ2 ρ2 W2 (e1.trans e2) c2 (hend ρ2 W2 q2)⟩
/-- while: I with its measure -/
@[irreducible] def dWhile (fc : TB) (fb : TSD) : TSD := fun De ρ W => ∃ I : Nat → Env → Wd → Prop, (∃ m, I m ρ W) ∧ ∀ m ρ W, I m ρ W → fc ρ W (fun b ρ' W' => if b = true then
  fb { De with nx := fun ρ2 W2 => ∃ m', m' < m ∧ I m' ρ2 W2, ct := fun ρ2 W2 => ∃ m', m' < m ∧ I m' ρ2 W2, bk := De.nx } ρ' W' else De.nx ρ' W') De.ex
theorem gs_while {c : Expr} {body : List Stmt} {fc : TB} (hp : PassesOwn (model X.prog X.w) X.A X.env X.xe) (hc : GT X Wx c fc) (hb : GSs X Wx body f) : GS X Wx (.While c body [] pos) (dWhile fc f) := by
  obtain ⟨tc, pc, sc⟩ := hc
  obtain ⟨tb, pb, sb⟩ := hb
  refine ⟨_, ps_while hp pc pb, fun F S H σ ρ W De Dh cf hf l => ?_⟩
  unfold dWhile at hf
  obtain ⟨I, ⟨m0, h0⟩, hturn⟩ := hf
  let Inv' : Nat → L2.St → Hp → Prop := fun m σ' H' => ∃ S' ρ' W', Stp F S H S' H' ∧ Cf X.K F S' H' σ' ρ' W' ∧ I m ρ' W'
  refine ⟨Inv', ⟨m0, S, ρ, W, .refl, cf, h0⟩, ?_⟩
  rintro m σ1 H1 ⟨S1, ρ1, W1, e1, c1, q1⟩
  refine sc F S1 H1 σ1 ρ1 W1 _ De.ex _ c1 (hturn m ρ1 W1 q1) (l.ex.up e1) fun S2 H2 ρ2 W2 b e2 c2 q2 => ?_
  cases b with
  | true =>
    refine ⟨fun σ' H' => ∃ m', m' < m ∧ Inv' m' σ' H', fun _ _ h => h, ?_⟩
    have e12 := e1.trans e2
    exact sb F S2 H2 σ1 ρ2 W2 _ _ c2 q2 ⟨fun S' H' σ' ρ' W' e' c ⟨m', hm, q⟩ => ⟨m', hm, S', ρ', W', e12.trans e', c, q⟩, fun S' H' σ' ρ' W' d v e' c r q => l.rt S' H' σ' ρ' W' d v (e12.trans e') c r q,
      fun S' H' σ' ρ' W' e' c q => l.nx S' H' σ' ρ' W' (e12.trans e') c q, fun S' H' σ' ρ' W' e' c ⟨m', hm, q⟩ => ⟨m', hm, S', ρ', W', e12.trans e', c, q⟩, l.ex.up e12⟩
  | false => exact l.nx S2 H2 σ1 ρ2 W2 (e1.trans e2) c2 q2
end

/-! ### comprehensions -/
def wipeD (ρ : Env) : List Nat → Env
  | [] => ρ
  | v :: vs => (wipeD ρ vs).set v none
theorem wipeD_length (ρ : Env) : ∀ vs : List Nat, (wipeD ρ vs).length = ρ.length
  | [] => rfl
  | v :: vs => by unfold wipeD; rw [List.length_set, wipeD_length ρ vs]
def noOwn (ρ : Env) (vs : List Nat) : Prop := ∀ i ∈ vs, ∀ o, ρ[i]? ≠ some (some (.om o))
theorem Cf.setNone {K : PySem.W.Frag} {F S : Reg} {H : Hp} {σ : St} {ρ : Env} {W : Wd} (c : Cf K F S H σ ρ W) (i : Nat) : Cf K F S H (σ.set i none) (ρ.set i none) W where
  cb := c.cb
  len := by simp [c.len]
  sh := fun j d' h => by
    by_cases hj : i = j
    · subst hj
      have hl : i < ρ.length := by
        have := (List.getElem?_eq_some_iff.mp h).1
        simpa using this
      rw [List.getElem?_set_self hl] at h
      cases h
    · rw [List.getElem?_set_ne hj] at h
      obtain ⟨w, h1, h2⟩ := c.sh j d' h
      exact ⟨w, by rw [List.getElem?_set_ne hj]; exact h1, h2⟩
  om := fun j ds h => by
    by_cases hj : i = j
    · subst hj
      have hl : i < ρ.length := by
        have := (List.getElem?_eq_some_iff.mp h).1
        simpa using this
      rw [List.getElem?_set_self hl] at h
      cases h
    · rw [List.getElem?_set_ne hj] at h
      obtain ⟨p, h1, h2⟩ := c.om j ds h
      exact ⟨p, by rw [List.getElem?_set_ne hj]; exact h1, h2⟩
  dis := fun j k p h1 h2 => by
    have go : ∀ j, Own (σ.set i none) (ρ.set i none) j p → Own σ ρ j p := fun j ⟨ds, q1, q2⟩ => by
      by_cases hj : i = j
      · subst hj
        have hl : i < ρ.length := by
          have := (List.getElem?_eq_some_iff.mp q1).1
          simpa using this
        rw [List.getElem?_set_self hl] at q1
        cases q1
      · rw [List.getElem?_set_ne hj] at q1 q2
        exact ⟨ds, q1, q2⟩
    exact c.dis j k p (go j h1) (go k h2)
theorem Cf.wiped {K : PySem.W.Frag} {F S : Reg} {H : Hp} {σ : St} {ρ : Env} {W : Wd} (c : Cf K F S H σ ρ W) : ∀ vs : List Nat, Cf K F S H (wipe σ vs) (wipeD ρ vs) W
  | [] => c
  | v :: vs => by unfold wipe wipeD; exact (c.wiped vs).setNone v
/-- tests of a comprehension -/
def GTs (X : Cx) (Wx : WX) (ifs : List Expr) (f : TB) : Prop := ∃ te, PTs X ifs te ∧ SndB X.K Wx te f
def dYes : TB := fun ρ W Q _ => Q true ρ W
section
variable {X : Cx} {Wx : WX} {c e : Expr} {fb : TB}
theorem gts_nil : GTs X Wx [] dYes := ⟨_, pts_nil, fun F S H σ ρ W Q Qx R cf hf hx hE => hE S H ρ W true .refl cf hf⟩
theorem gts_one (h : GT X Wx c fb) : GTs X Wx [c] fb := by
  obtain ⟨t, p, s⟩ := h
  exact ⟨_, pts_one p, s⟩
end
/-- W0: within a block nothing may be raised -/
abbrev WX0 : WX := fun _ _ _ _ => False

def canE (K : PySem.W.Frag) (Wx : WX) (f : TD) : TE := fun σ H R => ∃ F S ρ W Q Qx, Cf K F S H σ ρ W ∧ f ρ W Q Qx ∧ LkX K F S H Wx Qx ∧ EndE K F S H σ Q R
def canB (K : PySem.W.Frag) (Wx : WX) (f : TB) : TT := fun σ H R => ∃ F S ρ W Q Qx, Cf K F S H σ ρ W ∧ f ρ W Q Qx ∧ LkX K F S H Wx Qx ∧ EndB K F S H σ Q R
def canG (K : PySem.W.Frag) (ts : List Nat) (g : TGD) : TG := fun v σ H R => ∃ F S ρ W d P, Cf K F S H σ ρ W ∧ Rep K S H d v ∧ g d ρ W P ∧
  ∀ S' H' σ' ρ' W', Stp F S H S' H' → Cf K F S' H' σ' ρ' W' → Off ts σ σ' → Off ts ρ ρ' → P ρ' W' → R σ' H'
section
variable {X : Cx} {Wx : WX} {c e tg : Expr} {ifs : List Expr} {f : TD} {fb : TB} {g : TGD} {ts : List Nat}
theorem GE.can (h : GE X Wx e f) : PE X e (canE X.K Wx f) := by
  obtain ⟨te, pe, se⟩ := h
  exact ⟨fun pins s σ H Q I ⟨F, S, ρ, W, Qd, Qx, cf, hf, hx, hE⟩ => pe.run pins s σ H Q I (se F S H σ ρ W Qd Qx Q cf hf hx hE)⟩
theorem GTs.can (h : GTs X Wx ifs fb) : PTs X ifs (canB X.K Wx fb) := by
  obtain ⟨te, pe, se⟩ := h
  exact ⟨fun pins s σ H Q I ⟨F, S, ρ, W, Qd, Qx, cf, hf, hx, hE⟩ => pe.run pins s σ H Q I (se F S H σ ρ W Qd Qx Q cf hf hx hE)⟩
theorem GG.can (h : GG X tg g ts) : PG X tg (canG X.K ts g) := by
  obtain ⟨te, pe, se⟩ := h
  exact ⟨fun pins s σ H v u Q I r ⟨F, S, ρ, W, d, P, cf, rd, hg, hE⟩ => pe.run pins s σ H v u Q I r (se F S H σ ρ W d v P Q cf rd hg hE)⟩
end
/-- the heap without p -/
def del (H : Hp) (p : Addr) : Hp := fun a => if a = p then none else H a
theorem del_ne {H : Hp} {a p : Addr} (h : a ≠ p) : del H p a = H a := if_neg h
theorem del_same {H : Hp} {p : Addr} : del H p p = none := if_pos rfl
theorem upd_del {H : Hp} {p : Addr} {o : HO} (h : H p = some o) : upd (del H p) p o = H := by
  funext a
  by_cases ha : a = p
  · rw [ha, upd_same, h]
  · rw [upd_ne ha, del_ne ha]
abbrev Add (S : Reg) (p : Addr) : Reg := fun a => S a ∨ a = p
abbrev Rem (S : Reg) (p : Addr) : Reg := fun a => S a ∧ a ≠ p
mutual
theorem Rep.del {K : PySem.W.Frag} {S : Reg} {H : Hp} {p : Addr} (hp : S p) : ∀ {d : D} {v : V}, Rep K S H d v → Rep K (Rem S p) (del H p) d v
  | .v _, _, h => by simp only [Rep] at h ⊢; exact h
  | .tup ds, v, h => by
    simp only [Rep] at h ⊢
    obtain ⟨a, xs, e1, h1, h2⟩ := h
    refine ⟨a, xs, e1, ?_, Reps.del hp h2⟩
    rcases h1 with ⟨h1, hs⟩ | h1 | ⟨o, h1, hs⟩
    · have na : a ≠ p := fun q => hs (q ▸ hp)
      exact .inl ⟨by rw [del_ne na]; exact h1, fun z => hs z.1⟩
    · exact .inr (.inl h1)
    · have na : a ≠ p := fun q => hs (q ▸ hp)
      exact .inr (.inr ⟨o, by rw [del_ne na]; exact h1, fun z => hs z.1⟩)
  | .lst ds, v, h => by
    simp only [Rep] at h ⊢
    obtain ⟨a, xs, e1, ⟨h1, hs⟩, h2⟩ := h
    have na : a ≠ p := fun q => hs (q ▸ hp)
    exact ⟨a, xs, e1, ⟨by rw [del_ne na]; exact h1, fun z => hs z.1⟩, Reps.del hp h2⟩
  | .scr ns, v, h => by
    simp only [Rep] at h ⊢
    obtain ⟨a, e1, h1⟩ := h
    refine ⟨a, e1, ?_⟩
    rcases h1 with ⟨h1, hs⟩ | h1
    · have na : a ≠ p := fun q => hs (q ▸ hp)
      refine .inl ⟨?_, fun z => hs z.1⟩
      rcases h1 with h1 | ⟨o, h1⟩
      · exact .inl (by rw [del_ne na]; exact h1)
      · exact .inr ⟨o, by rw [del_ne na]; exact h1⟩
    · exact .inr h1
  | .dct ks ds, v, h => by
    simp only [Rep] at h ⊢
    obtain ⟨a, xs, e1, ⟨h1, hs⟩, hl, h2⟩ := h
    have na : a ≠ p := fun q => hs (q ▸ hp)
    exact ⟨a, xs, e1, ⟨by rw [del_ne na]; exact h1, fun z => hs z.1⟩, hl, Reps.del hp h2⟩
  | .tpf ds, v, h => by
    simp only [Rep] at h ⊢
    obtain ⟨a, xs, o, e1, ⟨h0, hs⟩, h1, h2⟩ := h
    have na : a ≠ p := fun q => hs (q ▸ hp)
    exact ⟨a, xs, o, e1, ⟨by rw [del_ne na]; exact h0, fun z => hs z.1⟩, h1, Reps.del hp h2⟩
  | .exc c ks ds, v, h => by
    simp only [Rep] at h ⊢
    obtain ⟨a, od, xs, e1, ⟨h0, hs⟩, h1, h2⟩ := h
    have na : a ≠ p := fun q => hs (q ▸ hp)
    refine ⟨a, od, xs, e1, ⟨by rw [del_ne na]; exact h0, fun z => hs z.1⟩, ?_, Reps.del hp h2⟩
    cases ks with
    | none => exact h1
    | some ks =>
      obtain ⟨d, q1, ⟨q2, q3⟩, q4⟩ := h1
      have nd : d ≠ p := fun q => q3 (q ▸ hp)
      exact ⟨d, q1, ⟨by rw [del_ne nd]; exact q2, fun z => q3 z.1⟩, q4⟩
theorem Reps.del {K : PySem.W.Frag} {S : Reg} {H : Hp} {p : Addr} (hp : S p) : ∀ {ds : List D} {vs : List V}, Reps K S H ds vs → Reps K (Rem S p) (del H p) ds vs
  | [], _, h => by simp only [Reps] at h ⊢; exact h
  | d :: ds, vs, h => by
    simp only [Reps] at h ⊢
    obtain ⟨x, r, e1, h1, h2⟩ := h
    exact ⟨x, r, e1, Rep.del hp h1, Reps.del hp h2⟩
end
section
variable {K : PySem.W.Frag} {F S S' : Reg} {H H' : Hp} {σ σ2 : St} {ρ ρ2 : Env} {W W' : Wd}
/-- a foreign object comes -/
theorem Cf.alien (c : Cf K F S H σ ρ W) {p : Addr} {o : HO} (hp : H p = none) : Stp F S H (Add S p) (upd H p o) ∧ Cf K (Add F p) (Add S p) (upd H p o) σ ρ W := by
  have np : ∀ a, S a → a ≠ p := fun a hs q => c.cb.sd a hs (by rw [q]; exact hp)
  have st : Stp F S H (Add S p) (upd H p o) :=
    ⟨fun a u _ h => same_new hp a u h, fun a h1 h2 => by
      rcases h1 with h1 | h1
      · exact absurd h1 h2
      · rw [h1]; exact hp, fun a h => by
      by_cases ha : a = p
      · rw [ha]; exact hp
      · rw [upd_ne ha] at h; exact h, fun a hf => upd_ne (np a (c.cb.fs a hf))⟩
  refine ⟨st, ⟨fun a h => ?_, fun a h => ?_, fun q u hw => ?_⟩, c.len, fun j d' h => ?_, fun j ds' h => ?_, c.dis⟩
  · rcases h with h | h
    · rw [upd_ne (np a h)]; exact c.cb.sd a h
    · rw [h, upd_same]; simp
  · rcases h with h | h
    · exact .inl (c.cb.fs a h)
    · exact .inr h
  · obtain ⟨h1, h2, h3⟩ := c.cb.w q u hw
    exact ⟨.inl h1, fun z => z.elim h2 (np q h1), h3.up st (upd_ne (np q h1))⟩
  · obtain ⟨w, h1, h2⟩ := c.sh j d' h
    exact ⟨w, h1, h2.up st⟩
  · obtain ⟨q, h1, h3, h4, h5, h6⟩ := c.om j ds' h
    exact ⟨q, h1, h3.up st (upd_ne (np q h4)), .inl h4, fun z => z.elim h5 (np q h4), h6⟩
/-- it changes -/
theorem Cf.alienCh (c : Cf K (Add F p) S H σ ρ W) {o : HO} : Stp F (Rem S p) (del H p) (Rem S p) (del H p) ∧ Cf K (Add F p) S (upd H p o) σ ρ W := by
  have sp : S p := c.cb.fs p (.inr rfl)
  have hn := c.cb.sd p sp
  refine ⟨.refl, ⟨fun a h => ?_, c.cb.fs, fun q u hw => ?_⟩, c.len, fun j d' h => ?_, fun j ds' h => ?_, c.dis⟩
  · by_cases ha : a = p
    · rw [ha, upd_same]; simp
    · rw [upd_ne ha]; exact c.cb.sd a h
  all_goals
    have st : Stp (fun _ => False) S H S (upd H p o) := ⟨fun a u h e => by
      have : a ≠ p := fun q => h (q ▸ sp)
      rw [upd_ne this]; exact e, fun a h1 h2 => absurd h1 h2, fun a h => by
      by_cases ha : a = p
      · rw [ha, upd_same] at h; cases h
      · rw [upd_ne ha] at h; exact h, fun a h => h.elim⟩
  · obtain ⟨h1, h2, h3⟩ := c.cb.w q u hw
    exact ⟨h1, h2, h3.up st (upd_ne fun z => h2 (.inr z))⟩
  · obtain ⟨w, h1, h2⟩ := c.sh j d' h
    exact ⟨w, h1, h2.up st⟩
  · obtain ⟨q, h1, h3, h4, h5, h6⟩ := c.om j ds' h
    exact ⟨q, h1, h3.up st (upd_ne fun z => h5 (.inr z)), h4, h5, h6⟩
theorem MRep.del {p q : Addr} {o : MO} (h : MRep K S H q o) (nq : q ≠ p) (sp : S p) : MRep K (Rem S p) (del H p) q o := by
  cases o with
  | lst ds => obtain ⟨xs, h4, h5⟩ := h; exact ⟨xs, (del_ne nq).trans h4, h5.del sp⟩
  | ins C dx fs => obtain ⟨xs, h4, h5, h6⟩ := h; exact ⟨xs, (del_ne nq).trans h4, h5, h6.del sp⟩
  | dK kvs => obtain ⟨xs, h4, h5, h6⟩ := h; exact ⟨xs, (del_ne nq).trans h4, h5, h6.del sp⟩
/-- it goes -/
theorem Cf.unalien {p : Addr} (c : Cf K (Add F p) S H σ ρ W) (hF : ¬ F p) : Cf K F (Rem S p) (del H p) σ ρ W := by
  have sp : S p := c.cb.fs p (.inr rfl)
  refine ⟨⟨fun a h => by rw [del_ne h.2]; exact c.cb.sd a h.1, fun a h => ⟨c.cb.fs a (.inl h), fun z => hF (z ▸ h)⟩, fun q u hw => ?_⟩, c.len, fun j d' h => ?_, fun j ds' h => ?_, c.dis⟩
  · obtain ⟨h1, h2, h3⟩ := c.cb.w q u hw
    have nq : q ≠ p := fun z => h2 (.inr z)
    refine ⟨⟨h1, nq⟩, fun z => h2 (.inl z), ?_⟩
    exact h3.del nq sp
  · obtain ⟨w, h1, h2⟩ := c.sh j d' h
    exact ⟨w, h1, h2.del sp⟩
  · obtain ⟨q, h1, h3, h4, h5, h6⟩ := c.om j ds' h
    have nq : q ≠ p := fun z => h5 (.inr z)
    exact ⟨q, h1, h3.del nq sp, ⟨h4, nq⟩, fun z => h5 (.inl z), h6⟩
theorem Off.get {α : Type} {ts : List Nat} {l l' : List α} (h : Off ts l l') {j : Nat} (hj : j ∉ ts) : l'[j]? = l[j]? := h.2 j hj
/-- the slots are as before -/
theorem Cf.restore (c0 : Cf K F S H σ ρ W) (e : Stp F S H S' H') (c : Cf K F S' H' σ2 ρ2 W') {vs : List Nat} (o1 : ∀ j, j ∉ vs → σ2[j]? = σ[j]?) (o2 : ∀ j, j ∉ vs → ρ2[j]? = ρ[j]?) (hn : noOwn ρ vs) : Cf K F S' H' σ ρ W' where
  cb := c.cb
  len := c0.len
  sh := fun i d h => by
    obtain ⟨v, h1, h2⟩ := c0.sh i d h
    exact ⟨v, h1, h2.up e⟩
  om := fun i ds h => by
    have hi : i ∉ vs := fun z => hn i z ds h
    obtain ⟨q, h1, h2⟩ := c.om i ds ((o2 i hi).trans h)
    exact ⟨q, (o1 i hi).symm.trans h1, h2⟩
  dis := c0.dis
end
theorem wipe_off (σ : St) : ∀ (vs : List Nat) (j : Nat), j ∉ vs → (wipe σ vs)[j]? = σ[j]?
  | [], _, _ => rfl
  | v :: vs, j, h => by
    unfold wipe
    rw [List.getElem?_set_ne (fun e => h (by simp [e]))]
    exact wipe_off σ vs j fun z => h (by simp [z])
theorem wipeD_off (σ : Env) : ∀ (vs : List Nat) (j : Nat), j ∉ vs → (wipeD σ vs)[j]? = σ[j]?
  | [], _, _ => rfl
  | v :: vs, j, h => by
    unfold wipeD
    rw [List.getElem?_set_ne (fun e => h (by simp [e]))]
    exact wipeD_off σ vs j fun z => h (by simp [z])
theorem wipe_on (σ : St) : ∀ (vs : List Nat) (j : Nat), j ∈ vs → j < σ.length → (wipe σ vs)[j]? = some none
  | v :: vs, j, h, hl => by
    unfold wipe
    by_cases e : v = j
    · subst e
      rw [List.getElem?_set_self (by rw [wipe_length]; exact hl)]
    · rw [List.getElem?_set_ne e]
      exact wipe_on σ vs j (by simpa [Ne.symm e] using h) hl
theorem wipe_eq {σ σ2 : St} {vs : List Nat} (hl : σ2.length = σ.length) (h : ∀ j, j ∉ vs → σ2[j]? = σ[j]?) : wipe σ2 vs = wipe σ vs := by
  refine List.ext_getElem? fun j => ?_
  by_cases hj : j ∈ vs
  · by_cases hb : j < σ.length
    · rw [wipe_on σ vs j hj hb, wipe_on σ2 vs j hj (by rw [hl]; exact hb)]
    · rw [List.getElem?_eq_none (by rw [wipe_length, hl]; omega), List.getElem?_eq_none (by rw [wipe_length]; omega)]
  · rw [wipe_off σ2 vs j hj, wipe_off σ vs j hj, h j hj]
/-- I: what holds of the list so far and the state ahead of the i-th turn; the slots are as they were -/
@[irreducible] def dLc (fi : TID) (gd : TGD) (ft : TB) (fe : TD) (vs : List Nat) : TL := fun ρ W Q Qx => noOwn ρ vs ∧ fi ρ W (fun ds ρ0 W0 => ρ0 = ρ ∧ ds.length ≤ sizeLine ∧ ∃ I : Nat → List D → Wd → Prop, I 0 [] W0 ∧
  (∀ (i : Nat) d acc W, ds[i]? = some d → acc.length ≤ i → I i acc W → gd d (wipeD ρ vs) W fun ρ1 W1 => ft ρ1 W1 (fun b ρ2 W2 => ρ2 = ρ1 ∧ if b = true then
    fe ρ1 W2 (fun y ρ3 W3 => ρ3 = ρ1 ∧ I (i + 1) (acc ++ [y]) W3) (fun _ _ _ _ => False) else I (i + 1) acc W2) (fun _ _ _ _ => False)) ∧ ∀ acc W, acc.length ≤ ds.length → I ds.length acc W → Q acc ρ W) Qx
theorem lkx_none {K : PySem.W.Frag} {F S : Reg} {H : Hp} {Wx : WX} : LkX K F S H Wx (fun _ _ _ _ => False) := fun _ _ _ _ _ _ _ _ _ _ _ q => q.elim
theorem snd_lc {K : PySem.W.Frag} {Wx : WX} {wi : TI} {fi : TID} {gd : TGD} {ft : TB} {fe : TD} {vs ts : List Nat} (hts : ∀ j ∈ ts, j ∈ vs) (si : SndI K Wx wi fi) : SndN K Wx (tLc wi (canG K ts gd) (canB K WX0 ft) (canE K WX0 fe) vs) (dLc fi gd ft fe vs) := by
  intro F S H σ ρ W Q Qx R cf hf hx hE
  unfold dLc at hf
  obtain ⟨hno, hf⟩ := hf
  refine si F S H σ ρ W _ Qx _ cf hf hx fun S1 H1 ρ1 W1 ds J e1 c1 ok q1 => ?_
  obtain ⟨rfl, hlen, I, h0, hturn, hend⟩ := q1
  intro p hp
  have nF : ¬ F p := fun z => c1.cb.sd p (c1.cb.fs p z) hp
  have nS : ¬ S1 p := fun z => c1.cb.sd p z hp
  obtain ⟨ea, ca⟩ := c1.alien (o := .lst []) hp
  let Iv : Nat → Hp → Prop := fun i H' => ∃ S' W' acc xs, Stp F S1 H1 S' H' ∧ Cf K (Add F p) S' H' σ ρ1 W' ∧ Reps K S' H' acc xs ∧ H' p = some (.lst xs) ∧ acc.length ≤ i ∧ I i acc W'
  refine ⟨fun i m H' => m = ds.length - i ∧ i ≤ ds.length ∧ Iv i H', ⟨ds.length, by simp, Nat.zero_le _, Add S1 p, W1, [], [], ea, ca, Reps.nil, upd_same, Nat.le_refl _, h0⟩, ?_⟩
  rintro i m H2 ⟨rfl, hi, S2, W2, acc, xs, e2, c2, r2, hp2, hacc, q2⟩
  have nFp : Stp F S1 H1 S2 H2 := e2
  obtain ⟨okg, oks⟩ := ok S2 H2 e2
  by_cases hlt : i < ds.length
  · have hd : ds[i]? = some ds[i] := List.getElem?_eq_getElem hlt
    obtain ⟨hgo, hy⟩ := okg i _ hd
    refine .inr ⟨hgo, Iv (i + 1), fun H' p' => ⟨_, by omega, rfl, hlt, p'⟩, fun x H3 y => ?_⟩
    obtain ⟨s3, r3⟩ := hy x H3 y
    have e3 : Stp F S2 H2 S2 H3 := (stp_same c2.cb s3).mono fun _ h => .inl h
    refine ⟨Add F p, S2, wipeD ρ1 vs, W2, ds[i], _, (c2.same s3).wiped vs, r3 c2.cb.sd, hturn i _ acc W2 hd hacc q2, fun S4 H4 σ4 ρ4 W4 e4 c4 o1 o2 q4 => ?_⟩
    have off1 : ∀ j, j ∉ vs → σ4[j]? = σ[j]? := fun j hj => (o1.2 j fun z => hj (hts j z)).trans (wipe_off σ vs j hj)
    have off2 : ∀ j, j ∉ vs → ρ4[j]? = ρ1[j]? := fun j hj => (o2.2 j fun z => hj (hts j z)).trans (wipeD_off ρ1 vs j hj)
    refine ⟨wipe_eq (by rw [o1.1, wipe_length]) off1, ?_⟩
    refine ⟨Add F p, S4, ρ4, W4, _, _, c4, q4, lkx_none, fun S5 H5 ρ5 W5 b e5 c5 q5 => ?_⟩
    obtain ⟨rfl, q5⟩ := q5
    have e45 := (e4.mono (F' := F) fun _ h => .inl h).trans (e5.mono (F' := F) fun _ h => .inl h)
    have e35 := e3.trans e45
    have r5 := r2.up e35
    have hp5 : H5 p = some (.lst xs) := (e5.frn p (.inr rfl)).trans ((e4.frn p (.inr rfl)).trans (s3 p _ hp2))
    have full : Stp (Add F p) S2 H2 S5 H5 := (stp_same c2.cb s3).trans (e4.trans e5)
    cases b with
    | true =>
      refine ⟨Add F p, S5, ρ5, W5, _, _, c5, q5, lkx_none, fun S6 H6 ρ6 W6 y' v6 e6 c6 r6 q6 => ?_⟩
      obtain ⟨rfl, q6⟩ := q6
      have hp6 : H6 p = some (.lst xs) := (e6.frn p (.inr rfl)).trans hp5
      refine ⟨xs, hp6, by rw [r2.length]; omega, ?_⟩
      have c7 := c2.restore (full.trans e6) c6 off1 off2 hno
      have sp : S6 p := c7.cb.fs p (.inr rfl)
      have e67 : Stp F S6 H6 S6 (upd H6 p (.lst (xs ++ [v6]))) := ⟨fun a u h e => by
        have : a ≠ p := fun q => h (q ▸ sp)
        rw [upd_ne this]; exact e, fun a h1 h2 => absurd h1 h2, fun a h => by
        by_cases ha : a = p
        · rw [ha, upd_same] at h; cases h
        · rw [upd_ne ha] at h; exact h, fun a h => upd_ne fun z => nF (z ▸ h)⟩
      have e6' := e6.mono (F' := F) fun _ h => .inl h
      refine ⟨S6, W6, acc ++ [y'], xs ++ [v6], ((e2.trans e35).trans e6').trans e67, c7.alienCh.2, ((r5.up e6').append (Reps.cons r6 Reps.nil)).up e67, upd_same, by simp; omega, q6⟩
    | false =>
      have c7 := c2.restore full c5 off1 off2 hno
      exact ⟨S5, W5, acc, xs, e2.trans e35, c7, r5, hp5, by omega, q5⟩
  · have e : i = ds.length := by omega
    subst e
    refine .inl ⟨oks, ?_⟩
    have sp : S2 p := c2.cb.fs p (.inr rfl)
    have := hE (Rem S2 p) (del H2 p) ρ1 W2 acc xs p (e1.trans ⟨fun a o h1 h2 => ?_, fun a h1 h2 => e2.new a h1.1 h2, fun a h => ?_, fun a h => ?_⟩) (c2.unalien nF) (r2.del sp) del_same (hend acc W2 hacc q2)
    · rw [upd_del hp2] at this; exact this
    · have : a ≠ p := fun z => by rw [z, hp] at h2; cases h2
      rw [del_ne this]; exact e2.keep a o h1 h2
    · by_cases ha : a = p
      · rw [ha]; exact hp
      · rw [del_ne ha] at h; exact e2.dom a h
    · rw [del_ne (fun (z : a = p) => nF (z ▸ h))]; exact e2.frn a h
section
variable {X : Cx} {Wx : WX} {elt tg iter : Expr} {ifs : List Expr} {scope : Scope} {own : List (Str × Nat)} {pos : Pos} {fi : TID} {gd : TGD} {ft : TB} {fe : TD} {ts : List Nat}
theorem gn_lc (own : List (Str × Nat)) (hc : X.calm = true) (hN : X.N.Nodup) (hi : GI X Wx tg iter fi) (ok : BlkOk X.N X.env.scope scope own) (hts : ∀ j ∈ ts, j ∈ own.map (·.2))
    (hg : ∀ (s : Shared) (H : Hp) (C : Addr) (cl : List (Str × Addr)) (fp : List Addr), GG (X.blk s H scope (PySem.compEnvC scope cl C X.env) fp) tg gd ts) (ht : ∀ (s : Shared) (H : Hp) (C : Addr) (cl : List (Str × Addr)) (fp : List Addr), GTs (X.blk s H scope (PySem.compEnvC scope cl C X.env) fp) WX0 ifs ft)
    (he : ∀ (s : Shared) (H : Hp) (C : Addr) (cl : List (Str × Addr)) (fp : List Addr), GE (X.blk s H scope (PySem.compEnvC scope cl C X.env) fp) WX0 elt fe) (hs : ∀ x, foldedSetIterable iter X.env x = pure x := by intro _; rfl) :
    GN X Wx (.ListComp elt [⟨tg, iter, ifs, 0⟩] scope pos) (dLc fi gd ft fe (own.map (·.2))) := by
  obtain ⟨wi, pi, si⟩ := hi
  exact ⟨_, pe_lc hc hN pi ok (fun s H C cl fp => (hg s H C cl fp).can) (fun s H C cl fp => (ht s H C cl fp).can) (fun s H C cl fp => (he s H C cl fp).can) hs, snd_lc hts si⟩
end
end G

namespace G
open PySem PySem.Spec L2

/-! ### data for == -/
mutual
def D.py : D → PyData
  | .v .non => .none
  | .v (.bl b) => .bool b
  | .v (.int i) => .int i
  | .v (.str s) => .str s
  | .v _ => .dict []
  | .tup ds => .tuple (pys ds)
  | .lst ds => .list (pys ds)
  | .scr ns => .list (ns.map PyData.int)
  | .dct _ _ => .dict []
  | .exc _ _ _ => .dict []
  | .tpf _ => .dict []
def pys : List D → List PyData
  | [] => []
  | d :: ds => D.py d :: pys ds
end
mutual
/-- None, truths, ints, texts and what is made of them, n deep at most -/
def D.good : Nat → D → Bool
  | _, .v .non => true
  | _, .v (.bl _) => true
  | _, .v (.int _) => true
  | _, .v (.str s) => PyData.strOk s
  | _, .v _ => false
  | 0, _ => false
  | n + 1, .tup ds => goods n ds
  | n + 1, .lst ds => goods n ds
  | _ + 1, .scr _ => true
  | _ + 1, .dct _ _ => false
  | _ + 1, .exc _ _ _ => false
  | _ + 1, .tpf _ => false
def goods : Nat → List D → Bool
  | _, [] => true
  | n, d :: ds => D.good n d && goods n ds
end
section
variable {K : PySem.W.Frag} {S : Reg} {H : Hp}
mutual
theorem dp_of : ∀ {n : Nat} {d : D} {v : V}, D.good n d = true → Rep K S H d v → Dp K H v d.py
  | _, .v .non, v, _, h => by rw [Rep.v_iff.mp h]; simp only [D.py]; exact .non
  | _, .v (.bl b), v, _, h => by rw [Rep.v_iff.mp h]; simp only [D.py]; exact .bl b
  | _, .v (.int b), v, _, h => by rw [Rep.v_iff.mp h]; simp only [D.py]; exact .int b
  | _, .v (.str b), v, _, h => by rw [Rep.v_iff.mp h]; simp only [D.py]; exact .str b
  | _, .v (.byt _), _, h, _ => by simp [D.good] at h
  | _, .v (.flt _), _, h, _ => by simp [D.good] at h
  | _, .v (.ref _), _, h, _ => by simp [D.good] at h
  | _, .v (.ty _), _, h, _ => by simp [D.good] at h
  | 0, .tup _, _, h, _ => by simp [D.good] at h
  | 0, .lst _, _, h, _ => by simp [D.good] at h
  | 0, .scr _, _, h, _ => by simp [D.good] at h
  | 0, .dct _ _, _, h, _ => by simp [D.good] at h
  | _ + 1, .dct _ _, _, h, _ => by simp [D.good] at h
  | 0, .exc _ _ _, _, h, _ => by simp [D.good] at h
  | _ + 1, .exc _ _ _, _, h, _ => by simp [D.good] at h
  | 0, .tpf _, _, h, _ => by simp [D.good] at h
  | _ + 1, .tpf _, _, h, _ => by simp [D.good] at h
  | n + 1, .tup ds, v, g, h => by
    obtain ⟨a, xs, rfl, h1, h2⟩ := Rep.tup_iff.mp h
    simp only [D.py]
    exact .tup h1.sq (dps_of (by simpa [D.good] using g) h2)
  | n + 1, .lst ds, v, g, h => by
    obtain ⟨a, xs, rfl, h1, h2⟩ := Rep.lst_iff.mp h
    simp only [D.py]
    exact .lst h1.sq (dps_of (by simpa [D.good] using g) h2)
  | n + 1, .scr ns, v, g, h => by
    obtain ⟨a, rfl, h1⟩ := Rep.scr_iff.mp h
    simp only [D.py]
    refine .lst h1.sq ?_
    clear h h1
    induction ns with
    | nil => exact .nil
    | cons n ns ih => exact .cons (.int n) (ih (by simpa [D.good] using g))
theorem dps_of : ∀ {n : Nat} {ds : List D} {vs : List V}, goods n ds = true → Reps K S H ds vs → DpAll K H vs (pys ds)
  | _, [], _, _, h => by rw [Reps.nil_iff.mp h]; simp only [pys]; exact .nil
  | n, d :: ds, vs, g, h => by
    obtain ⟨x, r, rfl, h1, h2⟩ := Reps.cons_iff.mp h
    simp only [goods, Bool.and_eq_true] at g
    simp only [pys]
    exact .cons (dp_of g.1 h1) (dps_of g.2 h2)
end
end
mutual
theorem lay_of : ∀ {n : Nat} {d : D}, D.good n d = true → d.py.canLay0 = true ∧ d.py.depth ≤ n
  | _, .v .non, _ => by simp [D.py, PyData.canLay0, PyData.depth]
  | _, .v (.bl b), _ => by simp [D.py, PyData.canLay0, PyData.depth]
  | _, .v (.int b), _ => by simp [D.py, PyData.canLay0, PyData.depth]
  | _, .v (.str b), h => by
    simp only [D.good] at h
    simp [D.py, PyData.canLay0, PyData.depth, h]
  | _, .v (.byt _), h => by simp [D.good] at h
  | _, .v (.flt _), h => by simp [D.good] at h
  | _, .v (.ref _), h => by simp [D.good] at h
  | _, .v (.ty _), h => by simp [D.good] at h
  | 0, .tup _, h => by simp [D.good] at h
  | 0, .lst _, h => by simp [D.good] at h
  | 0, .scr _, h => by simp [D.good] at h
  | 0, .dct _ _, h => by simp [D.good] at h
  | _ + 1, .dct _ _, h => by simp [D.good] at h
  | 0, .exc _ _ _, h => by simp [D.good] at h
  | _ + 1, .exc _ _ _, h => by simp [D.good] at h
  | 0, .tpf _, h => by simp [D.good] at h
  | _ + 1, .tpf _, h => by simp [D.good] at h
  | n + 1, .tup ds, g => by
    have := lays_of (n := n) (ds := ds) (by simpa [D.good] using g)
    simp only [D.py, PyData.canLay0, PyData.depth]
    exact ⟨this.1, by omega⟩
  | n + 1, .lst ds, g => by
    have := lays_of (n := n) (ds := ds) (by simpa [D.good] using g)
    simp only [D.py, PyData.canLay0, PyData.depth]
    exact ⟨this.1, by omega⟩
  | n + 1, .scr ns, g => by
    simp only [D.py, PyData.canLay0, PyData.depth]
    have : PyData.canLayAll0 (ns.map PyData.int) = true ∧ PyData.depthAll (ns.map PyData.int) = 0 := by
      clear g
      induction ns with
      | nil => simp [PyData.canLayAll0, PyData.depthAll]
      | cons a r ih => simp [PyData.canLayAll0, PyData.depthAll, PyData.canLay0, PyData.depth, ih]
    exact ⟨this.1, by omega⟩
theorem lays_of : ∀ {n : Nat} {ds : List D}, goods n ds = true → PyData.canLayAll0 (pys ds) = true ∧ PyData.depthAll (pys ds) ≤ n
  | _, [], _ => by simp [pys, PyData.canLayAll0, PyData.depthAll]
  | n, d :: ds, g => by
    simp only [goods, Bool.and_eq_true] at g
    have h1 := lay_of g.1
    have h2 := lays_of g.2
    simp only [pys, PyData.canLayAll0, PyData.depthAll, Bool.and_eq_true]
    exact ⟨⟨h1.1, h2.1⟩, by omega⟩
end
theorem shaped_of {d : D} (g : D.good 64 d = true) : SeqAt.shaped d.py = true := by
  have := lay_of g
  unfold SeqAt.shaped
  simp [this.1, this.2]
def eqD (d e : D) : Bool := PyData.eqv d.py e.py
def dEqN : D → D → (D → Prop) → Prop := fun d e Q => D.good 64 d = true ∧ D.good 64 e = true ∧ Q (.bl (eqD d e))
def dNeN : D → D → (D → Prop) → Prop := fun d e Q => D.good 64 d = true ∧ D.good 64 e = true ∧ Q (.bl (!eqD d e))
def dEqS : D → D → (D → Prop) → Prop := fun d e Q => match d, e with | .v x, .v y => scal x y = true ∧ Q (.bl (decide (x = y))) | _, _ => False
def dNeS : D → D → (D → Prop) → Prop := fun d e Q => match d, e with | .v x, .v y => scal x y = true ∧ Q (.bl (!decide (x = y))) | _, _ => False
/-- == of flat values by worth, of others by their data -/
@[irreducible] def dEq : D → D → (D → Prop) → Prop := fun d e Q => match d, e with | .v x, .v y => (if scal x y = true then Q (.bl (decide (x = y))) else dEqN (.v x) (.v y) Q) | d, e => dEqN d e Q
@[irreducible] def dNe : D → D → (D → Prop) → Prop := fun d e Q => match d, e with | .v x, .v y => (if scal x y = true then Q (.bl (!decide (x = y))) else dNeN (.v x) (.v y) Q) | d, e => dNeN d e Q
section
variable {K : PySem.W.Frag}
theorem rs_eqN : RSnd K (rEqD K) dEqN := fun F S H W d e x y P R cb rd re hp k =>
  ⟨_, _, dp_of hp.1 rd, dp_of hp.2.1 re, shaped_of hp.1, shaped_of hp.2.1, k _ _ H (Same.refl H) (Rep.v_iff.mpr rfl) hp.2.2⟩
theorem rs_neN : RSnd K (rNeD K) dNeN := fun F S H W d e x y P R cb rd re hp k =>
  ⟨_, _, dp_of hp.1 rd, dp_of hp.2.1 re, shaped_of hp.1, shaped_of hp.2.1, k _ _ H (Same.refl H) (Rep.v_iff.mpr rfl) hp.2.2⟩
theorem rs_eqS : RSnd K rEq dEqS := fun F S H W d e x y P R cb rd re hp k => by
  unfold dEqS at hp
  split at hp
  · rw [Rep.v_iff] at rd re
    subst rd re
    exact ⟨hp.1, k _ _ H (Same.refl H) (Rep.v_iff.mpr rfl) hp.2⟩
  · exact hp.elim
theorem rs_neS : RSnd K rNe dNeS := fun F S H W d e x y P R cb rd re hp k => by
  unfold dNeS at hp
  split at hp
  · rw [Rep.v_iff] at rd re
    subst rd re
    exact ⟨hp.1, k _ _ H (Same.refl H) (Rep.v_iff.mpr rfl) hp.2⟩
  · exact hp.elim
theorem rs_or {r r' : R2} {g g' : D → D → (D → Prop) → Prop} (h : RSnd K r g) (h' : RSnd K r' g') : RSnd K (fun x y H Q => r x y H Q ∨ r' x y H Q) (fun d e Q => g d e Q ∨ g' d e Q) := fun F S H W d e x y P R cb rd re hp k => by
  rcases hp with hp | hp
  · exact .inl (h F S H W d e x y P R cb rd re hp k)
  · exact .inr (h' F S H W d e x y P R cb rd re hp k)
theorem rs_imp {r : R2} {g g' : D → D → (D → Prop) → Prop} (h : RSnd K r g) (hg : ∀ d e Q, g' d e Q → g d e Q) : RSnd K r g' := fun F S H W d e x y P R cb rd re hp k => h F S H W d e x y P R cb rd re (hg d e P hp) k
theorem rs_eq : RSnd K (fun x y H Q => rEq x y H Q ∨ rEqD K x y H Q) dEq := rs_imp (rs_or rs_eqS rs_eqN) fun d e Q h => by
  unfold dEq at h
  split at h
  · split at h
    · rename_i c
      exact .inl ⟨c, h⟩
    · exact .inr h
  · exact .inr h
theorem rs_ne : RSnd K (fun x y H Q => rNe x y H Q ∨ rNeD K x y H Q) dNe := rs_imp (rs_or rs_neS rs_neN) fun d e Q h => by
  unfold dNe at h
  split at h
  · split at h
    · rename_i c
      exact .inl ⟨c, h⟩
    · exact .inr h
  · exact .inr h
theorem op_eqA {X : Cx} (hu : X.A.units + 64 < cLine) : OpR X (compareOp .Eq) (fun x y H Q => rEq x y H Q ∨ rEqD X.K x y H Q) := op_eq.or (op_eqD hu)
theorem op_neA {X : Cx} (hu : X.A.units + 64 < cLine) : OpR X (compareOp .NotEq) (fun x y H Q => rNe x y H Q ∨ rNeD X.K x y H Q) := op_ne.or (op_neD hu)
/-! ### ints -/
/-- two ints in, a value out -/
def d2I (C : Int → Int → Prop) (g : Int → Int → V) : D → D → (D → Prop) → Prop := fun d e Q => match d, e with | .v (.int i), .v (.int j) => C i j ∧ Q (.v (g i j)) | _, _ => False
theorem rs_I {C : Int → Int → Prop} {g : Int → Int → V} : RSnd K (rI C g) (d2I C g) := fun F S H W d e x y P R cb rd re hp k => by
  unfold d2I at hp
  split at hp
  · rename_i i j
    rw [Rep.v_iff] at rd re
    exact ⟨i, j, rd, re, hp.1, k _ _ H (Same.refl H) (Rep.v_iff.mpr rfl) hp.2⟩
  · exact hp.elim
def d2J (g : Int → Int → V) : D → D → (D → Prop) → Prop := fun d e Q => match d, e with | .v (.int i), .v (.int j) => Q (.v (g i j)) | _, _ => False
theorem rs_J {g : Int → Int → V} : RSnd K (rI0 g) (d2J g) := fun F S H W d e x y P R cb rd re hp k => by
  unfold d2J at hp
  split at hp
  · rename_i i j
    rw [Rep.v_iff] at rd re
    exact ⟨i, j, rd, re, k _ _ H (Same.refl H) (Rep.v_iff.mpr rfl) hp⟩
  · exact hp.elim
/-- two texts in -/
def d2S (g : Str → Str → V) : D → D → (D → Prop) → Prop := fun d e Q => match d, e with | .v (.str i), .v (.str j) => Q (.v (g i j)) | _, _ => False
theorem rs_S {g : Str → Str → V} : RSnd K (fun x y H Q => ∃ i j, x = .str i ∧ y = .str j ∧ Q (g i j) H) (d2S g) := fun F S H W d e x y P R cb rd re hp k => by
  unfold d2S at hp
  split at hp
  · rename_i i j
    rw [Rep.v_iff] at rd re
    exact ⟨i, j, rd, re, k _ _ H (Same.refl H) (Rep.v_iff.mpr rfl) hp⟩
  · exact hp.elim
/-! ### + -/
def rAddS : R2 := fun x y H Q => ∃ i j, x = .str i ∧ y = .str j ∧ i.length + j.length ≤ sizeLine ∧ Q (.str (i ++ j)) H
def dAddS : D → D → (D → Prop) → Prop := fun d e Q => match d, e with | .v (.str i), .v (.str j) => i.length + j.length ≤ sizeLine ∧ Q (.str (i ++ j)) | _, _ => False
theorem rs_addS : RSnd K rAddS dAddS := fun F S H W d e x y P R cb rd re hp k => by
  unfold dAddS at hp
  split at hp
  · rename_i i j
    rw [Rep.v_iff] at rd re
    exact ⟨i, j, rd, re, hp.1, k _ _ H (Same.refl H) (Rep.v_iff.mpr rfl) hp.2⟩
  · exact hp.elim
def dAddL : D → D → (D → Prop) → Prop := fun d e Q => match d, e with | .lst i, .lst j => i.length + j.length ≤ sizeLine ∧ Q (.lst (i ++ j)) | _, _ => False
theorem rs_addL : RSnd K rCat dAddL := fun F S H W d e x y P R cb rd re hp k => by
  unfold dAddL at hp
  split at hp
  · rename_i i j
    obtain ⟨a, xs, rfl, h1, h2⟩ := Rep.lst_iff.mp rd
    obtain ⟨b, ys, rfl, h3, h4⟩ := Rep.lst_iff.mp re
    exact ⟨a, b, xs, ys, rfl, rfl, h1.1, h3.1, by rw [h2.length, h4.length]; exact hp.1, fun p hn => k _ _ _ (same_new hn) (rep_newL cb hn (h2.append h4)) hp.2⟩
  · exact hp.elim
def dAddT : D → D → (D → Prop) → Prop := fun d e Q => match d, e with | .tup i, .tup j => i.length + j.length ≤ sizeLine ∧ Q (.tup (i ++ j)) | _, _ => False
theorem rs_addT : RSnd K (rCatA K) dAddT := fun F S H W d e x y P R cb rd re hp k => by
  unfold dAddT at hp
  split at hp
  · rename_i i j
    obtain ⟨a, xs, rfl, h1, h2⟩ := Rep.tup_iff.mp rd
    obtain ⟨b, ys, rfl, h3, h4⟩ := Rep.tup_iff.mp re
    refine ⟨a, b, xs, ys, rfl, rfl, h1.sq, h3.sq, by rw [h2.length, h4.length]; exact hp.1, fun e1 => ?_, fun _ e1 => ?_, fun _ _ p hn => k _ _ _ (same_new hn) (rep_newT cb hn (h2.append h4)) hp.2⟩
    · refine k _ _ H (Same.refl H) ?_ hp.2
      have := h2.length
      rw [e1] at this
      have e0 : i = [] := List.eq_nil_of_length_eq_zero this.symm
      rw [e0]
      exact re
    · refine k _ _ H (Same.refl H) ?_ hp.2
      have := h4.length
      rw [e1] at this
      have e0 : j = [] := List.eq_nil_of_length_eq_zero this.symm
      rw [e0, List.append_nil]
      exact rd
  · exact hp.elim
def dAdd : D → D → (D → Prop) → Prop := fun d e Q => match d, e with
  | .v (.int i), .v (.int j) => Q (.int (i + j))
  | .v (.str i), .v (.str j) => i.length + j.length ≤ sizeLine ∧ Q (.str (i ++ j))
  | .lst i, .lst j => i.length + j.length ≤ sizeLine ∧ Q (.lst (i ++ j))
  | .tup i, .tup j => i.length + j.length ≤ sizeLine ∧ Q (.tup (i ++ j))
  | _, _ => False
def rAddA (K : PySem.W.Frag) : R2 := fun x y H Q => rI0 (fun i j => .int (i + j)) x y H Q ∨ (rAddS x y H Q ∨ (rCat x y H Q ∨ rCatA K x y H Q))
theorem rs_add : RSnd K (rAddA K) dAdd := rs_imp (rs_or (rs_J (g := fun i j => .int (i + j))) (rs_or rs_addS (rs_or rs_addL rs_addT))) fun d e Q h => by
  unfold dAdd at h
  split at h
  · exact .inl h
  · exact .inr (.inl h)
  · exact .inr (.inr (.inl h))
  · exact .inr (.inr (.inr h))
  · exact h.elim
theorem op_addA {X : Cx} : OpR X (binaryOp .Add) (rAddA X.K) := op_add.or (OpR.or (r := rAddS) op_add_str (op_cat.or op_catA))
/-! ### * -/
/-- two factors of together less than 2 ^ 26 bits -/
def CMulX (i j : Int) : Prop := i.natAbs.log2 + j.natAbs.log2 < 60000000
theorem CMulX.ok {i j : Int} (h : CMulX i j) : PySem.IntMulOk i j := by
  have b : ∀ x : Int, Builtin.Int.intBits x ≤ x.natAbs.log2 + 1 := fun x => by
    unfold Builtin.Int.intBits
    split <;> omega
  have h1 := b i
  have h2 := b j
  have h3 : i.natAbs.log2 + j.natAbs.log2 < 60000000 := h
  have e : bitsLine = 134217728 := by decide
  unfold PySem.IntMulOk
  intro z
  rw [Bool.and_eq_true] at z
  have z2 := z.2
  unfold Builtin.Int.intTooBig at z2
  have z3 := of_decide_eq_true z2
  rw [e] at z3
  omega
theorem op_mulX {X : Cx} : OpR X (binaryOp .Mult) (rI CMulX fun i j => .int (i * j)) := opI fun _ _ _ _ _ _ _ hc q => PyProof.Rows.mul_int q (CMulX.ok hc)
/-- a text again and again -/
def dMul : D → D → (D → Prop) → Prop := fun d e Q => match d, e with
  | .v (.int i), .v (.int j) => CMulX i j ∧ Q (.int (i * j))
  | .lst i, .v (.int j) => -(2 ^ 63) ≤ j ∧ j < 2 ^ 63 ∧ i.length * j.toNat ≤ sizeLine ∧ Q (.lst (List.replicate j.toNat i).flatten)
  | _, _ => False
def dRepL : D → D → (D → Prop) → Prop := fun d e Q => match d, e with
  | .lst i, .v (.int j) => -(2 ^ 63) ≤ j ∧ j < 2 ^ 63 ∧ i.length * j.toNat ≤ sizeLine ∧ Q (.lst (List.replicate j.toNat i).flatten)
  | _, _ => False
theorem Reps.rep {S : Reg} {H : Hp} {ds : List D} {vs : List V} (h : Reps K S H ds vs) : ∀ n : Nat, Reps K S H (List.replicate n ds).flatten (List.replicate n vs).flatten
  | 0 => Reps.nil
  | n + 1 => by
    rw [List.replicate_succ, List.replicate_succ, List.flatten_cons, List.flatten_cons]
    exact h.append (Reps.rep h n)
theorem rs_repL : RSnd K rRep dRepL := fun F S H W d e x y P R cb rd re hp k => by
  unfold dRepL at hp
  split at hp
  · rename_i i j
    obtain ⟨a, xs, rfl, h1, h2⟩ := Rep.lst_iff.mp rd
    rw [Rep.v_iff] at re
    exact ⟨a, j, xs, rfl, re, h1.1, hp.1, hp.2.1, by rw [h2.length]; exact hp.2.2.1, fun p hn => k _ _ _ (same_new hn) (rep_newL cb hn (h2.rep _)) hp.2.2.2⟩
  · exact hp.elim
theorem rs_mul : RSnd K (fun x y H Q => rI CMulX (fun i j => .int (i * j)) x y H Q ∨ rRep x y H Q) dMul := rs_imp (rs_or rs_I rs_repL) fun d e Q h => by
  unfold dMul at h
  split at h
  · exact .inl h
  · exact .inr h
  · exact h.elim
theorem op_mulA {X : Cx} : OpR X (binaryOp .Mult) (fun x y H Q => rI CMulX (fun i j => .int (i * j)) x y H Q ∨ rRep x y H Q) := op_mulX.or op_rep
/-! ### subscripts -/
def dIx : D → D → (D → Prop) → Prop := fun d e Q => match d, e with
  | .lst ds, .v (.int i) => ∃ z, atI ds i = some z ∧ Q z
  | .tup ds, .v (.int i) => ∃ z, atI ds i = some z ∧ Q z
  | .v (.str s), .v (.int i) => s.length ≤ sizeLine ∧ ∃ c, atI s.cps.toList i = some c ∧ Q (.str ⟨#[c]⟩)
  | .scr ns, .v (.int i) => ∃ z, atI ns i = some z ∧ Q (.int z)
  | _, _ => False
theorem reps_at {S : Reg} {H : Hp} {ds : List D} {vs : List V} {i : Int} {z : D} (r : Reps K S H ds vs) (h : atI ds i = some z) : ∃ v, atI vs i = some v ∧ Rep K S H z v := by
  unfold atI at h ⊢
  rw [r.length]
  cases e : ixN ds.length i with
  | none => rw [e] at h; cases h
  | some j =>
    rw [e] at h
    obtain ⟨v, h1, h2⟩ := r.get (i := j) h
    exact ⟨v, h1, h2⟩
theorem rs_ix : RSnd K (rIx K) dIx := fun F S H W d e x y P R cb rd re hp k => by
  unfold dIx at hp
  split at hp
  · rename_i ds i
    obtain ⟨z, hz, hp⟩ := hp
    obtain ⟨a, xs, rfl, h1, h2⟩ := Rep.lst_iff.mp rd
    rw [Rep.v_iff] at re
    obtain ⟨v, h3, h4⟩ := reps_at h2 hz
    exact .inl ⟨a, xs, i, v, rfl, re, h1.sq, h3, k _ _ H (Same.refl H) h4 hp⟩
  · rename_i ds i
    obtain ⟨z, hz, hp⟩ := hp
    obtain ⟨a, xs, rfl, h1, h2⟩ := Rep.tup_iff.mp rd
    rw [Rep.v_iff] at re
    obtain ⟨v, h3, h4⟩ := reps_at h2 hz
    exact .inr (.inl ⟨a, xs, i, v, rfl, re, h1.sq, h3, k _ _ H (Same.refl H) h4 hp⟩)
  · rename_i s i
    obtain ⟨hl, c, hc, hp⟩ := hp
    rw [Rep.v_iff] at rd re
    exact .inr (.inr ⟨s, i, c, rd, re, hl, hc, k _ _ H (Same.refl H) (Rep.v_iff.mpr rfl) hp⟩)
  · rename_i ns i
    obtain ⟨z, hz, hp⟩ := hp
    obtain ⟨a, rfl, h1⟩ := Rep.scr_iff.mp rd
    rw [Rep.v_iff] at re
    refine .inl ⟨a, _, i, .int z, rfl, re, h1.sq, ?_, k _ _ H (Same.refl H) (Rep.v_iff.mpr rfl) hp⟩
    unfold atI at hz ⊢
    rw [List.length_map]
    cases e : ixN ns.length i with
    | none => rw [e] at hz; cases hz
    | some j =>
      rw [e] at hz
      show (ns.map V.int)[j]? = _
      have hz' : ns[j]? = some z := hz
      rw [List.getElem?_map, hz']; rfl
  · exact hp.elim
/-! ### slices -/
def cutD (ds : List D) (lo hi : Option Int) : List D := (ds.drop (HT.sIx ds.length 0 lo)).take (HT.sIx ds.length ds.length hi - HT.sIx ds.length 0 lo)
def dCut : D → Option Int → Option Int → (D → Prop) → Prop := fun d lo hi Q => match d with
  | .lst ds => Q (.lst (cutD ds lo hi))
  | .tup ds => Q (.tup (cutD ds lo hi))
  | .v (.str s) => s.length ≤ sizeLine ∧ Q (.str (cutS s lo hi))
  | .scr ns => Q (.lst ((ns.drop (HT.sIx ns.length 0 lo)).take (HT.sIx ns.length ns.length hi - HT.sIx ns.length 0 lo) |>.map D.int))
  | _ => False
def rSlAny (K : PySem.W.Frag) : V → Option Int → Option Int → Hp → VK → Prop := fun x lo hi H Q => rSlL K x lo hi H Q ∨ (rSlA K x lo hi H Q ∨ rSlS x lo hi H Q)
theorem sl_any {X : Cx} : SlR X (rSlAny X.K) := sl_list.or (sl_tupA.or sl_str)
theorem reps_cut {S : Reg} {H : Hp} {ds : List D} {vs : List V} (r : Reps K S H ds vs) (lo hi : Option Int) : Reps K S H (cutD ds lo hi) (cutV vs lo hi) := by
  unfold cutD cutV
  rw [r.length]
  exact (r.drop _).take _
theorem ss_cut : SlSnd K (rSlAny K) dCut := fun F S H W d x lo hi P R cb rd hp k => by
  unfold dCut at hp
  split at hp
  · rename_i ds
    obtain ⟨a, xs, rfl, h1, h2⟩ := Rep.lst_iff.mp rd
    exact .inl ⟨a, xs, rfl, h1.sq, fun p hn => k _ _ _ (same_new hn) (rep_newL cb hn (reps_cut h2 lo hi)) hp⟩
  · rename_i ds
    obtain ⟨a, xs, rfl, h1, h2⟩ := Rep.tup_iff.mp rd
    refine .inr (.inl ⟨a, xs, rfl, h1.sq, fun hw => k _ _ H (Same.refl H) ?_ hp, fun _ p hn => k _ _ _ (same_new hn) (rep_newT cb hn (reps_cut h2 lo hi)) hp⟩)
    have : cutD ds lo hi = ds := by
      unfold cutD
      rw [h2.length] at hw
      rw [hw.1, hw.2, List.drop_zero, Nat.sub_zero, List.take_length]
    rw [this]; exact rd
  · rename_i s
    rw [Rep.v_iff] at rd
    exact .inr (.inr ⟨s, rd, hp.1, k _ _ H (Same.refl H) (Rep.v_iff.mpr rfl) hp.2⟩)
  · rename_i ns
    obtain ⟨a, rfl, h1⟩ := Rep.scr_iff.mp rd
    refine .inl ⟨a, _, rfl, h1.sq, fun p hn => k _ _ _ (same_new hn) ?_ hp⟩
    have e : cutV (ns.map V.int) lo hi = ((ns.drop (HT.sIx ns.length 0 lo)).take (HT.sIx ns.length ns.length hi - HT.sIx ns.length 0 lo)).map V.int := by
      unfold cutV
      rw [List.length_map, ← List.map_drop, ← List.map_take]
    rw [e]
    refine rep_newL cb hn ?_
    have := Reps.map_v (K := K) (S := S) (H := H) (((ns.drop (HT.sIx ns.length 0 lo)).take (HT.sIx ns.length ns.length hi - HT.sIx ns.length 0 lo)).map V.int)
    rw [List.map_map] at this
    exact this
  · exact hp.elim
end
end G

namespace G
open PySem PySem.Spec L2
/-! ### a text again and again -/
def repS (s : Str) (n : Int) : Str := ⟨(List.replicate n.toNat s.cps.toList).flatten.toArray⟩
theorem foldl_app (a : Array Nat) : ∀ (k : Nat) (acc : Array Nat), (List.replicate k a).foldl (· ++ ·) acc = acc ++ (List.replicate k a.toList).flatten.toArray
  | 0, acc => by simp
  | k + 1, acc => by
    rw [List.replicate_succ, List.foldl_cons, foldl_app a k, List.replicate_succ, List.flatten_cons]
    apply Array.ext'
    simp
def rRepS : R2 := fun x y H Q => ∃ s n, x = .str s ∧ y = .int n ∧ -(2 ^ 63) ≤ n ∧ n < 2 ^ 63 ∧ s.length * n.toNat ≤ sizeLine ∧ Q (.str (repS s n)) H
theorem op_repS {X : Cx} : OpR X (binaryOp .Mult) rRepS := by
  intro pins s σ H x y v u Q I rx ry h
  obtain ⟨a, n, rfl, rfl, h1, h2, h3, q⟩ := h
  obtain ⟨t, rfl⟩ := rx
  obtain ⟨t', rfl⟩ := ry
  have hr : (decide (n < -(2 ^ 63 : Int)) || decide (n ≥ 2 ^ 63)) = false := by
    rw [decide_eq_false (by omega), decide_eq_false (by omega)]; rfl
  have done : ∀ (z : Str) (tk : Tok) (k : Nat), z = repS a n → EP X pins σ Q (.str z tk) { s with toks := k } := fun z tk k e => by
    subst e
    exact ⟨.str _, H, I.tok _, ⟨_, rfl⟩, q⟩
  have hl : ¬ n < 1 → (n == 1 || a.length == 0) = false → Builtin.Str.tooLong (a.length * n.toNat) = false := fun _ _ => by
    unfold Builtin.Str.tooLong
    exact decide_eq_false (by omega)
  refine PySem.P.mul_str hr (fun h4 h5 => ?_) hl ?_
  · have hs : (sizeLine : Nat) = 16777216 := sizeLine_eq
    have hb : (a.length : Int) * n ≤ 16777216 := by
      have : ((a.length * n.toNat : Nat) : Int) ≤ 16777216 := by omega
      rw [Int.natCast_mul, Int.toNat_of_nonneg (by omega)] at this
      exact this
    intro h6
    have h7 : (2 ^ 63 - 1) / n < (a.length : Int) := h6
    have h8 : (2 ^ 63 - 1 : Int) < a.length * n := (Int.ediv_lt_iff_lt_mul (by omega)).mp h7
    omega
  · split
    · rename_i h4
      refine ⟨by decide, done _ _ _ ?_⟩
      unfold repS
      have : n.toNat = 0 := by omega
      rw [this]; rfl
    · rename_i h4
      split
      · rename_i h5
        show EP X pins σ Q (.str a t) s
        refine ⟨.str a, H, I, ⟨t, rfl⟩, ?_⟩
        have : repS a n = a := by
          unfold repS
          rw [Bool.or_eq_true] at h5
          rcases h5 with h5 | h5
          · have e : n = 1 := by simpa using h5
            subst e
            simp
          · have e : a.cps.toList = [] := by
              have : a.length = 0 := by simpa using h5
              unfold Str.length at this
              exact List.eq_nil_of_length_eq_zero (by simpa using this)
            rw [e]
            have : (List.replicate n.toNat ([] : List Nat)).flatten = [] := by simp
            rw [this]
            cases a with
            | mk c => simp at e; simp [e]
        rw [this] at q
        exact q
      · refine ⟨?_, done _ _ _ ?_⟩
        · show (List.foldl (· ++ ·) #[] (List.replicate n.toNat a.cps)).size ≤ sizeLine
          rw [foldl_app]
          have e : (#[] ++ (List.replicate n.toNat a.cps.toList).flatten.toArray).size = n.toNat * a.length := by
            simp [List.length_flatten, Str.length]
          rw [e, Nat.mul_comm]
          exact h3
        · unfold repS
          rw [foldl_app]; simp
section
variable {K : PySem.W.Frag}
def dRepS : D → D → (D → Prop) → Prop := fun d e Q => match d, e with
  | .v (.str s), .v (.int n) => -(2 ^ 63) ≤ n ∧ n < 2 ^ 63 ∧ s.length * n.toNat ≤ sizeLine ∧ Q (.str (repS s n))
  | _, _ => False
theorem rs_repS : RSnd K rRepS dRepS := fun F S H W d e x y P R cb rd re hp k => by
  unfold dRepS at hp
  split at hp
  · rename_i i j
    rw [Rep.v_iff] at rd re
    exact ⟨i, j, rd, re, hp.1, hp.2.1, hp.2.2.1, k _ _ H (Same.refl H) (Rep.v_iff.mpr rfl) hp.2.2.2⟩
  · exact hp.elim
/-! ### calls -/
theorem cs_imp {r : List V → Hp → VK → Prop} {g g' : List D → (D → Prop) → Prop} (h : CSnd K r g) (hg : ∀ ds Q, g' ds Q → g ds Q) : CSnd K r g' := fun F S H W ds xs P R cb rd hp k => h F S H W ds xs P R cb rd (hg ds P hp) k
/-- one value in -/
theorem reps1 {S : Reg} {H : Hp} {d : D} {xs : List V} (r : Reps K S H [d] xs) : ∃ x, xs = [x] ∧ Rep K S H d x := by
  obtain ⟨x, r', rfl, h1, h2⟩ := Reps.cons_iff.mp r
  rw [Reps.nil_iff.mp h2]
  exact ⟨x, rfl, h1⟩
theorem reps2 {S : Reg} {H : Hp} {d e : D} {xs : List V} (r : Reps K S H [d, e] xs) : ∃ x y, xs = [x, y] ∧ Rep K S H d x ∧ Rep K S H e y := by
  obtain ⟨x, r', rfl, h1, h2⟩ := Reps.cons_iff.mp r
  obtain ⟨y, rfl, h3⟩ := reps1 h2
  exact ⟨x, y, rfl, h1, h3⟩
def dLen : List D → (D → Prop) → Prop := fun ds Q => match ds with
  | [.v (.str s)] => s.length ≤ sizeLine ∧ Q (.int s.length)
  | [.lst xs] => Q (.int xs.length)
  | [.tup xs] => Q (.int xs.length)
  | [.scr xs] => Q (.int xs.length)
  | _ => False
theorem cs_len : CSnd K (fun xs H Q => ∃ x n, xs = [x] ∧ LenV K x H n ∧ Q (.int (n : Nat)) H) dLen := fun F S H W ds xs P R cb rd hp k => by
  unfold dLen at hp
  split at hp
  · obtain ⟨x, rfl, h⟩ := reps1 rd
    cases Rep.v_iff.mp h
    exact ⟨_, _, rfl, ⟨hp.1, rfl⟩, k _ _ H (Same.refl H) (Rep.v_iff.mpr rfl) hp.2⟩
  · obtain ⟨x, rfl, h⟩ := reps1 rd
    obtain ⟨a, ys, rfl, h1, h2⟩ := Rep.lst_iff.mp h
    exact ⟨_, _, rfl, .inl ⟨ys, h1.sq, rfl⟩, k _ _ H (Same.refl H) (Rep.v_iff.mpr (by rw [h2.length])) hp⟩
  · obtain ⟨x, rfl, h⟩ := reps1 rd
    obtain ⟨a, ys, rfl, h1, h2⟩ := Rep.tup_iff.mp h
    exact ⟨_, _, rfl, .inr ⟨ys, h1.sq, rfl⟩, k _ _ H (Same.refl H) (Rep.v_iff.mpr (by rw [h2.length])) hp⟩
  · obtain ⟨x, rfl, h⟩ := reps1 rd
    obtain ⟨a, rfl, h1⟩ := Rep.scr_iff.mp h
    exact ⟨_, _, rfl, .inl ⟨_, h1.sq, rfl⟩, k _ _ H (Same.refl H) (Rep.v_iff.mpr (by simp)) hp⟩
  · exact hp.elim
/-- two ints in -/
def dC2 (g : Int → Int → Int) : List D → (D → Prop) → Prop := fun ds Q => match ds with
  | [.v (.int i), .v (.int j)] => Q (.int (g i j))
  | _ => False
theorem cs_2 {g : Int → Int → Int} : CSnd K (fun xs H Q => ∃ i j, xs = [.int i, .int j] ∧ Q (.int (g i j)) H) (dC2 g) := fun F S H W ds xs P R cb rd hp k => by
  unfold dC2 at hp
  split at hp
  · obtain ⟨x, y, rfl, h1, h2⟩ := reps2 rd
    cases Rep.v_iff.mp h1
    cases Rep.v_iff.mp h2
    exact ⟨_, _, rfl, k _ _ H (Same.refl H) (Rep.v_iff.mpr rfl) hp⟩
  · exact hp.elim
def dAbs : List D → (D → Prop) → Prop := fun ds Q => match ds with
  | [.v (.int i)] => Q (.int (if i < 0 then -i else i))
  | _ => False
theorem cs_abs : CSnd K (fun xs H Q => ∃ i, xs = [.int i] ∧ Q (.int (if i < 0 then -i else i)) H) dAbs := fun F S H W ds xs P R cb rd hp k => by
  unfold dAbs at hp
  split at hp
  · obtain ⟨x, rfl, h⟩ := reps1 rd
    cases Rep.v_iff.mp h
    exact ⟨_, rfl, k _ _ H (Same.refl H) (Rep.v_iff.mpr rfl) hp⟩
  · exact hp.elim
def dIntC : List D → (D → Prop) → Prop := fun ds Q => match ds with
  | [.v (.int i)] => Q (.int i)
  | [.v (.bl b)] => Q (.int (if b then 1 else 0))
  | [.v (.str s)] => s.length ≤ 640 ∧ ∃ n, PySem.intText? s = some n ∧ Q (.int n)
  | _ => False
theorem cs_int : CSnd K (fun xs H Q => ((∃ i, xs = [.int i] ∧ Q (.int i) H) ∨ ∃ k, xs = [.bl k] ∧ Q (.int (if k then 1 else 0)) H) ∨ ∃ a n, xs = [.str a] ∧ PySem.intText? a = some n ∧ a.length ≤ 640 ∧ Q (.int n) H) dIntC := fun F S H W ds xs P R cb rd hp k => by
  unfold dIntC at hp
  split at hp
  · obtain ⟨x, rfl, h⟩ := reps1 rd
    cases Rep.v_iff.mp h
    exact .inl (.inl ⟨_, rfl, k _ _ H (Same.refl H) (Rep.v_iff.mpr rfl) hp⟩)
  · obtain ⟨x, rfl, h⟩ := reps1 rd
    cases Rep.v_iff.mp h
    exact .inl (.inr ⟨_, rfl, k _ _ H (Same.refl H) (Rep.v_iff.mpr rfl) hp⟩)
  · obtain ⟨x, rfl, h⟩ := reps1 rd
    cases Rep.v_iff.mp h
    obtain ⟨hl, n, hn, hp⟩ := hp
    exact .inr ⟨_, n, rfl, hn, hl, k _ _ H (Same.refl H) (Rep.v_iff.mpr rfl) hp⟩
  · exact hp.elim
theorem call_intA {X : Cx} : CallR X (.type "int") (fun xs H Q => ((∃ i, xs = [.int i] ∧ Q (.int i) H) ∨ ∃ k, xs = [.bl k] ∧ Q (.int (if k then 1 else 0)) H) ∨ ∃ a n, xs = [.str a] ∧ PySem.intText? a = some n ∧ a.length ≤ 640 ∧ Q (.int n) H) := CallR.or call_int1 call_int_str
def dStrC : List D → (D → Prop) → Prop := fun ds Q => match ds with
  | [.v (.int i)] => i.natAbs.log2 < 1920 ∧ Q (.str (toString i))
  | _ => False
theorem cs_str : CSnd K (fun xs H Q => ∃ i, xs = [.int i] ∧ i.natAbs.log2 < 1920 ∧ Q (.str (toString i)) H) dStrC := fun F S H W ds xs P R cb rd hp k => by
  unfold dStrC at hp
  split at hp
  · obtain ⟨x, rfl, h⟩ := reps1 rd
    cases Rep.v_iff.mp h
    exact ⟨_, rfl, hp.1, k _ _ H (Same.refl H) (Rep.v_iff.mpr rfl) hp.2⟩
  · exact hp.elim
/-- all, any of a list of truths -/
def blsOf : List D → Option (List Bool)
  | [] => some []
  | .v (.bl b) :: r => (blsOf r).map (b :: ·)
  | _ => none
theorem reps_bls {S : Reg} {H : Hp} : ∀ {ds : List D} {bs : List Bool} {vs : List V}, blsOf ds = some bs → Reps K S H ds vs → vs = bs.map V.bl
  | [], bs, vs, h, r => by
    cases h
    exact Reps.nil_iff.mp r
  | .v (.bl b) :: ds, bs, vs, h, r => by
    unfold blsOf at h
    obtain ⟨x, r', rfl, h1, h2⟩ := Reps.cons_iff.mp r
    cases hb : blsOf ds with
    | none => rw [hb] at h; cases h
    | some bs' =>
      rw [hb] at h; cases h
      cases Rep.v_iff.mp h1
      rw [reps_bls hb h2]; rfl
  | .v .non :: _, _, _, h, _ => by simp [blsOf] at h
  | .v (.int _) :: _, _, _, h, _ => by simp [blsOf] at h
  | .v (.str _) :: _, _, _, h, _ => by simp [blsOf] at h
  | .v (.byt _) :: _, _, _, h, _ => by simp [blsOf] at h
  | .v (.flt _) :: _, _, _, h, _ => by simp [blsOf] at h
  | .v (.ref _) :: _, _, _, h, _ => by simp [blsOf] at h
  | .v (.ty _) :: _, _, _, h, _ => by simp [blsOf] at h
  | .tup _ :: _, _, _, h, _ => by simp [blsOf] at h
  | .lst _ :: _, _, _, h, _ => by simp [blsOf] at h
  | .scr _ :: _, _, _, h, _ => by simp [blsOf] at h
theorem blsOf_map (bs : List Bool) : blsOf (bs.map D.bl) = some bs := by
  induction bs with
  | nil => rfl
  | cons b r ih => simp [blsOf, ih]
def dAll : List D → (D → Prop) → Prop := fun ds Q => match ds with
  | [.lst xs] => ∃ bs, blsOf xs = some bs ∧ Q (.bl (bs.all id))
  | _ => False
def dAny : List D → (D → Prop) → Prop := fun ds Q => match ds with
  | [.lst xs] => ∃ bs, blsOf xs = some bs ∧ Q (.bl (bs.any id))
  | _ => False
theorem cs_all : CSnd K (rAll K) dAll := fun F S H W ds xs P R cb rd hp k => by
  unfold dAll at hp
  split at hp
  · obtain ⟨x, rfl, h⟩ := reps1 rd
    obtain ⟨a, ys, rfl, h1, h2⟩ := Rep.lst_iff.mp h
    obtain ⟨bs, hb, hp⟩ := hp
    rw [reps_bls hb h2] at h1
    exact ⟨a, bs, rfl, h1.sq, k _ _ H (Same.refl H) (Rep.v_iff.mpr rfl) hp⟩
  · exact hp.elim
theorem cs_any : CSnd K (rAny K) dAny := fun F S H W ds xs P R cb rd hp k => by
  unfold dAny at hp
  split at hp
  · obtain ⟨x, rfl, h⟩ := reps1 rd
    obtain ⟨a, ys, rfl, h1, h2⟩ := Rep.lst_iff.mp h
    obtain ⟨bs, hb, hp⟩ := hp
    rw [reps_bls hb h2] at h1
    exact ⟨a, bs, rfl, h1.sq, k _ _ H (Same.refl H) (Rep.v_iff.mpr rfl) hp⟩
  · exact hp.elim
/-- ints of a list -/
def intsOf : List D → Option (List Int)
  | [] => some []
  | .v (.int b) :: r => (intsOf r).map (b :: ·)
  | _ => none
theorem reps_ints {S : Reg} {H : Hp} : ∀ {ds : List D} {bs : List Int} {vs : List V}, intsOf ds = some bs → Reps K S H ds vs → vs = bs.map V.int
  | [], bs, vs, h, r => by
    cases h
    exact Reps.nil_iff.mp r
  | .v (.int b) :: ds, bs, vs, h, r => by
    unfold intsOf at h
    obtain ⟨x, r', rfl, h1, h2⟩ := Reps.cons_iff.mp r
    cases hb : intsOf ds with
    | none => rw [hb] at h; cases h
    | some bs' =>
      rw [hb] at h; cases h
      cases Rep.v_iff.mp h1
      rw [reps_ints hb h2]; rfl
  | .v .non :: _, _, _, h, _ => by simp [intsOf] at h
  | .v (.bl _) :: _, _, _, h, _ => by simp [intsOf] at h
  | .v (.str _) :: _, _, _, h, _ => by simp [intsOf] at h
  | .v (.byt _) :: _, _, _, h, _ => by simp [intsOf] at h
  | .v (.flt _) :: _, _, _, h, _ => by simp [intsOf] at h
  | .v (.ref _) :: _, _, _, h, _ => by simp [intsOf] at h
  | .v (.ty _) :: _, _, _, h, _ => by simp [intsOf] at h
  | .tup _ :: _, _, _, h, _ => by simp [intsOf] at h
  | .lst _ :: _, _, _, h, _ => by simp [intsOf] at h
  | .scr _ :: _, _, _, h, _ => by simp [intsOf] at h
theorem intsOf_map (bs : List Int) : intsOf (bs.map D.int) = some bs := by
  induction bs with
  | nil => rfl
  | cons b r ih => simp [intsOf, ih]
def dMin1 : List D → (D → Prop) → Prop := fun ds Q => match ds with
  | [.lst xs] => ∃ ns, intsOf xs = some ns ∧ 0 < ns.length ∧ ∀ m, m ∈ ns → (∀ y, y ∈ ns → m ≤ y) → Q (.int m)
  | _ => False
def dMax1 : List D → (D → Prop) → Prop := fun ds Q => match ds with
  | [.lst xs] => ∃ ns, intsOf xs = some ns ∧ 0 < ns.length ∧ ∀ m, m ∈ ns → (∀ y, y ∈ ns → y ≤ m) → Q (.int m)
  | _ => False
theorem cs_min1 : CSnd K (rMin K) dMin1 := fun F S H W ds xs P R cb rd hp k => by
  unfold dMin1 at hp
  split at hp
  · obtain ⟨x, rfl, h⟩ := reps1 rd
    obtain ⟨a, ys, rfl, h1, h2⟩ := Rep.lst_iff.mp h
    obtain ⟨bs, hb, hl, hp⟩ := hp
    rw [reps_ints hb h2] at h1
    exact ⟨a, bs, rfl, h1.sq, hl, fun m m1 m2 => k _ _ H (Same.refl H) (Rep.v_iff.mpr rfl) (hp m m1 m2)⟩
  · exact hp.elim
theorem cs_max1 : CSnd K (rMax K) dMax1 := fun F S H W ds xs P R cb rd hp k => by
  unfold dMax1 at hp
  split at hp
  · obtain ⟨x, rfl, h⟩ := reps1 rd
    obtain ⟨a, ys, rfl, h1, h2⟩ := Rep.lst_iff.mp h
    obtain ⟨bs, hb, hl, hp⟩ := hp
    rw [reps_ints hb h2] at h1
    exact ⟨a, bs, rfl, h1.sq, hl, fun m m1 m2 => k _ _ H (Same.refl H) (Rep.v_iff.mpr rfl) (hp m m1 m2)⟩
  · exact hp.elim
/-- tuple(xs), list(xs) -/
def dTupC : List D → (D → Prop) → Prop := fun ds Q => match ds with
  | [.lst xs] => Q (.tup xs)
  | [.tup xs] => Q (.tup xs)
  | _ => False
theorem cs_tup : CSnd K (fun xs H Q => ∃ p ys, xs = [.ref p] ∧ ((SqL K H p ys ∧ ∀ l, H l = none → Q (.ref l) (upd H l (.tup ys))) ∨ (SqT K H p ys ∧ Q (.ref p) H))) dTupC := fun F S H W ds xs P R cb rd hp k => by
  unfold dTupC at hp
  split at hp
  · obtain ⟨x, rfl, h⟩ := reps1 rd
    obtain ⟨a, ys, rfl, h1, h2⟩ := Rep.lst_iff.mp h
    exact ⟨a, ys, rfl, .inl ⟨h1.sq, fun p hn => k _ _ _ (same_new hn) (rep_newT cb hn h2) hp⟩⟩
  · obtain ⟨x, rfl, h⟩ := reps1 rd
    obtain ⟨a, ys, rfl, h1, h2⟩ := Rep.tup_iff.mp h
    exact ⟨a, ys, rfl, .inr ⟨h1.sq, k _ _ H (Same.refl H) h hp⟩⟩
  · exact hp.elim
def dListC : List D → (D → Prop) → Prop := fun ds Q => match ds with
  | [.lst xs] => Q (.lst xs)
  | [.tup xs] => Q (.lst xs)
  | [.scr ns] => Q (.lst (ns.map D.int))
  | _ => False
theorem cs_list : CSnd K (fun xs H Q => ∃ p ys, xs = [.ref p] ∧ (SqL K H p ys ∨ SqT K H p ys) ∧ ∀ l, H l = none → Q (.ref l) (upd H l (.lst ys))) dListC := fun F S H W ds xs P R cb rd hp k => by
  unfold dListC at hp
  split at hp
  · obtain ⟨x, rfl, h⟩ := reps1 rd
    obtain ⟨a, ys, rfl, h1, h2⟩ := Rep.lst_iff.mp h
    exact ⟨a, ys, rfl, .inl h1.sq, fun p hn => k _ _ _ (same_new hn) (rep_newL cb hn h2) hp⟩
  · obtain ⟨x, rfl, h⟩ := reps1 rd
    obtain ⟨a, ys, rfl, h1, h2⟩ := Rep.tup_iff.mp h
    exact ⟨a, ys, rfl, .inr h1.sq, fun p hn => k _ _ _ (same_new hn) (rep_newL cb hn h2) hp⟩
  · rename_i ns
    obtain ⟨x, rfl, h⟩ := reps1 rd
    obtain ⟨a, rfl, h1⟩ := Rep.scr_iff.mp h
    refine ⟨a, _, rfl, .inl h1.sq, fun p hn => k _ _ _ (same_new hn) (rep_newL cb hn ?_) hp⟩
    have := Reps.map_v (K := K) (S := S) (H := H) (ns.map V.int)
    rw [List.map_map] at this
    exact this
  · exact hp.elim
/-! ### isinstance -/
def tyD : D → Option String
  | .v .non => some "NoneType"
  | .v (.bl _) => some "bool"
  | .v (.int _) => some "int"
  | .v (.str _) => some "str"
  | .v _ => none
  | .tup _ => some "tuple"
  | .lst _ => some "list"
  | .scr _ => none
  | .dct _ _ => some "dict"
  | .exc _ _ _ => none
  | .tpf _ => none
theorem tyx_of {S : Reg} {H : Hp} {d : D} {x : V} {t : String} (h : Rep K S H d x) (e : tyD d = some t) : TyX K H x (.type t) := by
  cases d with
  | v y =>
    have hx := Rep.v_iff.mp h
    subst hx
    cases x <;> simp only [tyD, Option.some.injEq] at e <;> first | (subst e; exact .base (by constructor)) | cases e
  | tup ds =>
    obtain ⟨a, xs, rfl, h1, _⟩ := Rep.tup_iff.mp h
    simp only [tyD, Option.some.injEq] at e
    subst e
    rcases h1 with ⟨h1, _⟩ | h1 | ⟨o, h1, _⟩
    · exact .base (.tup h1)
    · rcases h1 with (h1 | ⟨_, h1⟩) | ⟨o, its, n, h1, h2, _⟩
      · cases h1
      · cases h1
      · exact .kTuple h1 h2
    · exact .fTuple h1
  | lst ds =>
    obtain ⟨a, xs, rfl, h1, _⟩ := Rep.lst_iff.mp h
    simp only [tyD, Option.some.injEq] at e
    subst e
    exact .base (.lst h1.1)
  | scr ns => simp [tyD] at e
  | dct ks ds =>
    obtain ⟨a, xs, rfl, ⟨h1, _⟩, _⟩ := Rep.dct_iff.mp h
    simp only [tyD, Option.some.injEq] at e
    subst e
    exact .base (.dK h1)
  | exc c ks ds => simp [tyD] at e
  | tpf ds => simp [tyD] at e
def dIsi : List D → (D → Prop) → Prop := fun ds Q => match ds with
  | [d, .v (.ty c)] => ∃ t b, tyD d = some t ∧ kitB t c = some b ∧ Q (.bl b)
  | _ => False
theorem cs_isi : CSnd K (rIsi K) dIsi := fun F S H W ds xs P R cb rd hp k => by
  unfold dIsi at hp
  split at hp
  · rename_i d c
    obtain ⟨x, y, rfl, h1, h2⟩ := reps2 rd
    cases Rep.v_iff.mp h2
    obtain ⟨t, b, e1, e2, hp⟩ := hp
    exact ⟨x, _, _, _, b, rfl, .ty c, tyx_of h1 e1, kit_ty e2, k _ _ H (Same.refl H) (Rep.v_iff.mpr rfl) hp⟩
  · exact hp.elim
theorem kitAny_tys (t : String) : ∀ (cs : List String) (bs : List Bool), cs.map (kitB t) = bs.map some → PySem.W.kitAny K (.type t) (cs.map Value.type) = some (bs.any id)
  | [], [], _ => kitAny_nil
  | c :: cs, b :: bs, h => by
    rw [List.map_cons, List.map_cons, List.cons.injEq] at h
    have ih := kitAny_tys t cs bs h.2
    rw [List.map_cons]
    refine kitAny_cons (b := b) (kit_ty h.1) (fun e => ?_) (fun e => ?_)
    · rw [ih, e]; simp
    · rw [e]; simp
/-- isinstance(x, (T1, T2)) -/
def tysOf : List D → Option (List String)
  | [] => some []
  | .v (.ty b) :: r => (tysOf r).map (b :: ·)
  | _ => none
def dIsiT : List D → (D → Prop) → Prop := fun ds Q => match ds with
  | [d, .tup cs] => ∃ (t : String) (ts : List String) (bs : List Bool), tyD d = some t ∧ tysOf cs = some ts ∧ ts.map (kitB t) = bs.map some ∧ Q (.bl (bs.any id))
  | _ => False
theorem reps_tys {S : Reg} {H : Hp} : ∀ {ds : List D} {bs : List String} {vs : List V}, tysOf ds = some bs → Reps K S H ds vs → vs = bs.map V.ty
  | [], bs, vs, h, r => by
    cases h
    exact Reps.nil_iff.mp r
  | .v (.ty b) :: ds, bs, vs, h, r => by
    unfold tysOf at h
    obtain ⟨x, r', rfl, h1, h2⟩ := Reps.cons_iff.mp r
    cases hb : tysOf ds with
    | none => rw [hb] at h; cases h
    | some bs' =>
      rw [hb] at h; cases h
      cases Rep.v_iff.mp h1
      rw [reps_tys hb h2]; rfl
  | .v .non :: _, _, _, h, _ => by simp [tysOf] at h
  | .v (.bl _) :: _, _, _, h, _ => by simp [tysOf] at h
  | .v (.str _) :: _, _, _, h, _ => by simp [tysOf] at h
  | .v (.byt _) :: _, _, _, h, _ => by simp [tysOf] at h
  | .v (.flt _) :: _, _, _, h, _ => by simp [tysOf] at h
  | .v (.ref _) :: _, _, _, h, _ => by simp [tysOf] at h
  | .v (.int _) :: _, _, _, h, _ => by simp [tysOf] at h
  | .tup _ :: _, _, _, h, _ => by simp [tysOf] at h
  | .lst _ :: _, _, _, h, _ => by simp [tysOf] at h
  | .scr _ :: _, _, _, h, _ => by simp [tysOf] at h
theorem clsv_map : ∀ ts : List String, Paired ClsV (ts.map V.ty) (ts.map Value.type)
  | [] => .nil
  | t :: ts => .cons (.ty t) (clsv_map ts)
/-- the classes in a tuple known by its object -/
def rIsiF (K : PySem.W.Frag) : List V → Hp → VK → Prop := fun xs H Q => ∃ (x : V) (tp : Addr) (o : Obj) (cs : List V) (t : Value) (ws : List Value) (b : Bool), xs = [x, .ref tp] ∧ H tp = some (.frz o (.tup cs)) ∧ Paired ClsV cs ws ∧ TyX K H x t ∧ PySem.W.kitAny K t ws = some b ∧ Q (.bl b) H
theorem call_isiF {X : Cx} : CallR X (.builtin "isinstance") (rIsiF X.K) := by
  intro pins s σ H xs us Q I r h
  obtain ⟨x, tp, ob, cs, t, ws, b, rfl, hT, k, ty, e, q⟩ := h
  obtain ⟨u1, u2, rfl, r1, r2⟩ := vals2 r
  cases (show u2 = Value.ref tp from r2)
  obtain ⟨P, Z, p, hx⟩ := kit_of I r1 ty
  obtain ⟨_, _, its, rv, ⟨oc, od, dt, sl⟩, h1, h2, n, h3⟩ : ObjOk X.prog X.w H s.heap tp (.frz ob (.tup cs)) := I.hok tp _ hT
  have e3 := ClsV.all k rv
  subst e3
  simp only at h2 h3
  subst h2 h3
  exact PySem.W.kia_tup Z I.kIn p h1 e hx fun tk => ⟨.bl b, H, I.tok tk, rfl, q⟩
theorem cs_isiT : CSnd K (fun xs H Q => (rIsiT K xs H Q ∨ rIsiK K xs H Q) ∨ rIsiF K xs H Q) dIsiT := fun F S H W ds xs P R cb rd hp k => by
  unfold dIsiT at hp
  split at hp
  · rename_i d cs
    obtain ⟨x, y, rfl, h1, h2⟩ := reps2 rd
    obtain ⟨t, ts, bs, e1, e2, e3, hp⟩ := hp
    obtain ⟨a, ys, rfl, h3, h4⟩ := Rep.tup_iff.mp h2
    rw [reps_tys e2 h4] at h3
    have fin := k _ _ H (Same.refl H) (Rep.v_iff.mpr rfl) hp
    rcases h3 with ⟨h3, _⟩ | h3 | ⟨ob, h3, _⟩
    · exact .inl (.inl ⟨x, a, _, _, ts.map Value.type, _, rfl, h3, clsv_map ts, tyx_of h1 e1, kitAny_tys t ts bs e3, fin⟩)
    · rcases h3 with (h3 | ⟨_, h3⟩) | ⟨o, its, n, q1, q2, q3, q4, q5⟩
      · cases h3
      · cases h3
      · obtain ⟨oc, od, odt, osl⟩ := o
        cases q2
        cases q3
        have e : its.toList = ts.map Value.type := ClsV.all (clsv_map ts) q5
        have e' : its = (ts.map Value.type).toArray := by rw [← e]
        subst e'
        exact .inl (.inr ⟨x, a, _, ts.map Value.type, n, _, _, _, rfl, q1, tyx_of h1 e1, kitAny_tys t ts bs e3, fin⟩)
    · exact .inr ⟨x, a, ob, _, _, ts.map Value.type, _, rfl, h3, clsv_map ts, tyx_of h1 e1, kitAny_tys t ts bs e3, fin⟩
  · exact hp.elim
theorem call_isiA {X : Cx} : CallR X (.builtin "isinstance") (fun xs H Q => (rIsiT X.K xs H Q ∨ rIsiK X.K xs H Q) ∨ rIsiF X.K xs H Q) := CallR.or (CallR.or call_isiT call_isiK) call_isiF
/-! ### methods of texts -/
/-- one text in -/
def dM1 (g : Str → Str → V) : D → List D → (D → Prop) → Prop := fun d ds Q => match d, ds with
  | .v (.str a), [.v (.str b)] => Q (.v (g a b))
  | _, _ => False
theorem ms_1 {g : Str → Str → V} : MSnd K (fun x xs H Q => ∃ a b, x = .str a ∧ xs = [.str b] ∧ Q (g a b) H) (dM1 g) := fun F S H W d ds x xs P R cb rd re hp k => by
  unfold dM1 at hp
  split at hp
  · obtain ⟨y, rfl, h⟩ := reps1 re
    cases Rep.v_iff.mp h
    cases Rep.v_iff.mp rd
    exact ⟨_, _, rfl, rfl, k _ _ H (Same.refl H) (Rep.v_iff.mpr rfl) hp⟩
  · exact hp.elim
/-- an int in -/
def dMI (C : Str → Int → Prop) (g : Str → Int → V) : D → List D → (D → Prop) → Prop := fun d ds Q => match d, ds with
  | .v (.str a), [.v (.int b)] => C a b ∧ Q (.v (g a b))
  | _, _ => False
theorem ms_I {C : Str → Int → Prop} {g : Str → Int → V} : MSnd K (fun x xs H Q => ∃ (a : Str) (i : Int), x = .str a ∧ xs = [.int i] ∧ C a i ∧ Q (g a i) H) (dMI C g) := fun F S H W d ds x xs P R cb rd re hp k => by
  unfold dMI at hp
  split at hp
  · obtain ⟨y, rfl, h⟩ := reps1 re
    cases Rep.v_iff.mp h
    cases Rep.v_iff.mp rd
    exact ⟨_, _, rfl, rfl, hp.1, k _ _ H (Same.refl H) (Rep.v_iff.mpr rfl) hp.2⟩
  · exact hp.elim
/-- nothing in -/
def dM0 (C : Str → Prop) (g : Str → V) : D → List D → (D → Prop) → Prop := fun d ds Q => match d, ds with
  | .v (.str a), [] => C a ∧ Q (.v (g a))
  | _, _ => False
theorem ms_0 {C : Str → Prop} {g : Str → V} : MSnd K (fun x xs H Q => ∃ (a : Str), x = .str a ∧ xs = [] ∧ C a ∧ Q (g a) H) (dM0 C g) := fun F S H W d ds x xs P R cb rd re hp k => by
  unfold dM0 at hp
  split at hp
  · cases Rep.v_iff.mp rd
    exact ⟨_, rfl, Reps.nil_iff.mp re, hp.1, k _ _ H (Same.refl H) (Rep.v_iff.mpr rfl) hp.2⟩
  · exact hp.elim
/-- s.rjust(n, c) -/
def rRjust : V → List V → Hp → VK → Prop := fun x xs H Q => ∃ (a f : Str) (i : Int), x = .str a ∧ xs = [.int i, .str f] ∧ PySem.PadOk i = true ∧ f.length = 1 ∧ Q (.str (Txt.rjustF a i (f.cps.getD 0 0))) H
theorem mt_rjust2 {X : Cx} : MtR X "str.rjust" rRjust := by
  intro pins s σ H x xs v us Q I rx rs h
  obtain ⟨a, f, i, rfl, rfl, h1, h2, q⟩ := h
  obtain ⟨t, rfl⟩ := rx
  obtain ⟨u1, u2, rfl, r1, r2⟩ := vals2 rs
  obtain ⟨t1, rfl⟩ := r1
  obtain ⟨t2, rfl⟩ := r2
  exact PyProof.Rows.rjust_fill h1 h2 fun t' k => ⟨.str _, H, I.tok _, ⟨_, rfl⟩, q⟩
def dRjust : D → List D → (D → Prop) → Prop := fun d ds Q => match d, ds with
  | .v (.str a), [.v (.int i), .v (.str f)] => PySem.PadOk i = true ∧ f.length = 1 ∧ Q (.str (Txt.rjustF a i (f.cps.getD 0 0)))
  | _, _ => False
theorem ms_rjust : MSnd K rRjust dRjust := fun F S H W d ds x xs P R cb rd re hp k => by
  unfold dRjust at hp
  split at hp
  · obtain ⟨y, z, rfl, h, h'⟩ := reps2 re
    cases Rep.v_iff.mp h
    cases Rep.v_iff.mp h'
    cases Rep.v_iff.mp rd
    exact ⟨_, _, _, rfl, rfl, hp.1, hp.2.1, k _ _ H (Same.refl H) (Rep.v_iff.mpr rfl) hp.2.2⟩
  · exact hp.elim
/-- texts of a list -/
def strsOf : List D → Option (List Str)
  | [] => some []
  | .v (.str b) :: r => (strsOf r).map (b :: ·)
  | _ => none
theorem reps_strs {S : Reg} {H : Hp} : ∀ {ds : List D} {bs : List Str} {vs : List V}, strsOf ds = some bs → Reps K S H ds vs → vs = bs.map V.str
  | [], bs, vs, h, r => by
    cases h
    exact Reps.nil_iff.mp r
  | .v (.str b) :: ds, bs, vs, h, r => by
    unfold strsOf at h
    obtain ⟨x, r', rfl, h1, h2⟩ := Reps.cons_iff.mp r
    cases hb : strsOf ds with
    | none => rw [hb] at h; cases h
    | some bs' =>
      rw [hb] at h; cases h
      cases Rep.v_iff.mp h1
      rw [reps_strs hb h2]; rfl
  | .v .non :: _, _, _, h, _ => by simp [strsOf] at h
  | .v (.bl _) :: _, _, _, h, _ => by simp [strsOf] at h
  | .v (.int _) :: _, _, _, h, _ => by simp [strsOf] at h
  | .v (.byt _) :: _, _, _, h, _ => by simp [strsOf] at h
  | .v (.flt _) :: _, _, _, h, _ => by simp [strsOf] at h
  | .v (.ref _) :: _, _, _, h, _ => by simp [strsOf] at h
  | .v (.ty _) :: _, _, _, h, _ => by simp [strsOf] at h
  | .tup _ :: _, _, _, h, _ => by simp [strsOf] at h
  | .lst _ :: _, _, _, h, _ => by simp [strsOf] at h
  | .scr _ :: _, _, _, h, _ => by simp [strsOf] at h
theorem strsOf_map (bs : List Str) : strsOf (bs.map D.str) = some bs := by
  induction bs with
  | nil => rfl
  | cons b r ih => simp [strsOf, ih]
def rJoin (K : PySem.W.Frag) : V → List V → Hp → VK → Prop := fun x xs H Q => ∃ a p, ∃ ys : List Str, x = .str a ∧ xs = [.ref p] ∧ (SqL K H p (ys.map V.str) ∨ SqT K H p (ys.map V.str)) ∧
  (ys.map (·.length)).sum + ys.length * a.length ≤ 16777216 ∧ Q (.str (Txt.join a ys)) H
theorem mt_joinA {X : Cx} : MtR X "str.join" (rJoin X.K) := mt_join
def dJoin : D → List D → (D → Prop) → Prop := fun d ds Q => match d, ds with
  | .v (.str a), [.lst xs] => ∃ ys, strsOf xs = some ys ∧ (ys.map (·.length)).sum + ys.length * a.length ≤ 16777216 ∧ Q (.str (Txt.join a ys))
  | .v (.str a), [.tup xs] => ∃ ys, strsOf xs = some ys ∧ (ys.map (·.length)).sum + ys.length * a.length ≤ 16777216 ∧ Q (.str (Txt.join a ys))
  | _, _ => False
theorem ms_join : MSnd K (rJoin K) dJoin := fun F S H W d ds x xs P R cb rd re hp k => by
  unfold dJoin at hp
  split at hp
  · obtain ⟨y, rfl, h⟩ := reps1 re
    cases Rep.v_iff.mp rd
    obtain ⟨ys, h1, h2, hp⟩ := hp
    obtain ⟨p, zs, rfl, h3, h4⟩ := Rep.lst_iff.mp h
    rw [reps_strs h1 h4] at h3
    exact ⟨_, p, ys, rfl, rfl, .inl h3.sq, h2, k _ _ H (Same.refl H) (Rep.v_iff.mpr rfl) hp⟩
  · obtain ⟨y, rfl, h⟩ := reps1 re
    cases Rep.v_iff.mp rd
    obtain ⟨ys, h1, h2, hp⟩ := hp
    obtain ⟨p, zs, rfl, h3, h4⟩ := Rep.tup_iff.mp h
    rw [reps_strs h1 h4] at h3
    exact ⟨_, p, ys, rfl, rfl, .inr h3.sq, h2, k _ _ H (Same.refl H) (Rep.v_iff.mpr rfl) hp⟩
  · exact hp.elim
/-! ### in, is -/
def flatOf : List D → Option (List V)
  | [] => some []
  | .v x :: r => (flatOf r).map (x :: ·)
  | _ => none
theorem reps_flat {S : Reg} {H : Hp} : ∀ {ds : List D} {bs : List V} {vs : List V}, flatOf ds = some bs → Reps K S H ds vs → vs = bs
  | [], bs, vs, h, r => by
    cases h
    exact Reps.nil_iff.mp r
  | .v b :: ds, bs, vs, h, r => by
    unfold flatOf at h
    obtain ⟨x, r', rfl, h1, h2⟩ := Reps.cons_iff.mp r
    cases hb : flatOf ds with
    | none => rw [hb] at h; cases h
    | some bs' =>
      rw [hb] at h; cases h
      cases Rep.v_iff.mp h1
      rw [reps_flat hb h2]
  | .tup _ :: _, _, _, h, _ => by simp [flatOf] at h
  | .lst _ :: _, _, _, h, _ => by simp [flatOf] at h
  | .scr _ :: _, _, _, h, _ => by simp [flatOf] at h
def inS (a b : Str) : Bool := !(Builtin.Str.occurrences b a 0 b.length 1).isEmpty
def dIn (neg : Bool) : D → D → (D → Prop) → Prop := fun d e Q => match d, e with
  | .v (.str a), .v (.str b) => Q (.bl (if neg then !inS a b else inS a b))
  | .v x, .lst ys => ∃ vs, flatOf ys = some vs ∧ flatV x = true ∧ vs.all flatV = true ∧ Q (.bl (if neg then !inV x vs else inV x vs))
  | .v x, .tup ys => ∃ vs, flatOf ys = some vs ∧ flatV x = true ∧ vs.all flatV = true ∧ Q (.bl (if neg then !inV x vs else inV x vs))
  | _, _ => False
def rInA (K : PySem.W.Frag) (neg : Bool) : R2 := fun x y H Q => (∃ i j, x = .str i ∧ y = .str j ∧ Q (.bl (if neg then !inS i j else inS i j)) H) ∨ rIn K neg x y H Q
theorem rs_in {neg : Bool} : RSnd K (rInA K neg) (dIn neg) := fun F S H W d e x y P R cb rd re hp k => by
  unfold dIn at hp
  split at hp
  · rw [Rep.v_iff] at rd re
    exact .inl ⟨_, _, rd, re, k _ _ H (Same.refl H) (Rep.v_iff.mpr rfl) hp⟩
  · obtain ⟨vs, h1, h2, h3, hp⟩ := hp
    obtain ⟨p, zs, rfl, h4, h5⟩ := Rep.lst_iff.mp re
    cases Rep.v_iff.mp rd
    rw [reps_flat h1 h5] at h4
    exact .inr ⟨p, vs, rfl, .inl h4.sq, h2, h3, k _ _ H (Same.refl H) (Rep.v_iff.mpr rfl) hp⟩
  · obtain ⟨vs, h1, h2, h3, hp⟩ := hp
    obtain ⟨p, zs, rfl, h4, h5⟩ := Rep.tup_iff.mp re
    cases Rep.v_iff.mp rd
    rw [reps_flat h1 h5] at h4
    exact .inr ⟨p, vs, rfl, .inr h4.sq, h2, h3, k _ _ H (Same.refl H) (Rep.v_iff.mpr rfl) hp⟩
  · exact hp.elim
theorem op_inA {X : Cx} : OpR X (compareOp .In) (rInA X.K false) := OpR.or (r := fun x y H Q => ∃ i j, x = .str i ∧ y = .str j ∧ Q (.bl (inS i j)) H) op_in_str op_in_seq
theorem op_niA {X : Cx} : OpR X (compareOp .NotIn) (rInA X.K true) := OpR.or (r := fun x y H Q => ∃ i j, x = .str i ∧ y = .str j ∧ Q (.bl (!inS i j)) H) op_notin_str op_notIn_seq
def D.isNon : D → Bool
  | .v .non => true
  | _ => false
def dIsN : D → D → (D → Prop) → Prop := fun d e Q => match e with
  | .v .non => Q (.bl d.isNon)
  | _ => False
def dNotN : D → D → (D → Prop) → Prop := fun d e Q => match e with
  | .v .non => Q (.bl (!d.isNon))
  | _ => False
theorem rep_non {S : Reg} {H : Hp} {d : D} {x : V} (r : Rep K S H d x) : decide (x = .non) = d.isNon := by
  cases d with
  | v y =>
    rw [Rep.v_iff.mp r]
    cases y <;> rfl
  | tup ds => obtain ⟨a, xs, rfl, _⟩ := Rep.tup_iff.mp r; rfl
  | lst ds => obtain ⟨a, xs, rfl, _⟩ := Rep.lst_iff.mp r; rfl
  | scr ds => obtain ⟨a, rfl, _⟩ := Rep.scr_iff.mp r; rfl
  | dct ks ds => obtain ⟨a, xs, rfl, _⟩ := Rep.dct_iff.mp r; rfl
  | exc c ks ds => obtain ⟨a, _, _, rfl, _⟩ := Rep.exc_iff.mp r; rfl
  | tpf ds => obtain ⟨a, _, _, rfl, _⟩ := Rep.tpf_iff.mp r; rfl
theorem rs_isN : RSnd K (fun x y H Q => y = .non ∧ Q (.bl (decide (x = .non))) H) dIsN := fun F S H W d e x y P R cb rd re hp k => by
  unfold dIsN at hp
  split at hp
  · refine ⟨Rep.v_iff.mp re, ?_⟩
    rw [rep_non rd]
    exact k _ _ H (Same.refl H) (Rep.v_iff.mpr rfl) hp
  · exact hp.elim
theorem rs_notN : RSnd K (fun x y H Q => y = .non ∧ Q (.bl (!decide (x = .non))) H) dNotN := fun F S H W d e x y P R cb rd re hp k => by
  unfold dNotN at hp
  split at hp
  · refine ⟨Rep.v_iff.mp re, ?_⟩
    rw [rep_non rd]
    exact k _ _ H (Same.refl H) (Rep.v_iff.mpr rfl) hp
  · exact hp.elim
end
end G

namespace G
open PySem PySem.Spec L2

def updW (W : Wd) (p : Addr) (o : MO) : Wd := fun q => if q = p then some o else W q
theorem updW_same {W : Wd} {p : Addr} {o : MO} : updW W p o p = some o := if_pos rfl
theorem updW_ne {W : Wd} {p q : Addr} {o : MO} (h : q ≠ p) : updW W p o q = W q := if_neg h
section
variable {K : PySem.W.Frag} {F S : Reg} {H : Hp} {σ : St} {ρ : Env} {W : Wd}
/-- a changeable object changes -/
theorem Cf.chW (c : Cf K F S H σ ρ W) {p : Addr} {o0 o : MO} {u : HO} (hw : W p = some o0) (ho : ∀ S' H', Stp (fun _ => False) S H S' H' → H' p = some u → MRep K S' H' p o) : Stp F S H S (upd H p u) ∧ Cf K F S (upd H p u) σ ρ (updW W p o) := by
  obtain ⟨sp, nf, _⟩ := c.cb.w p o0 hw
  have st : ∀ F', (∀ a, F' a → a ≠ p) → Stp F' S H S (upd H p u) := fun F' hF => ⟨fun a v h e => by
      have : a ≠ p := fun q => h (q ▸ sp)
      rw [upd_ne this]; exact e, fun a h1 h2 => absurd h1 h2, fun a h => by
      by_cases ha : a = p
      · rw [ha, upd_same] at h; cases h
      · rw [upd_ne ha] at h; exact h, fun a h => upd_ne (hF a h)⟩
  have st1 := st F fun a h z => nf (z ▸ h)
  refine ⟨st1, ⟨fun a h => ?_, c.cb.fs, fun q o' hq => ?_⟩, c.len, fun j d' h => ?_, fun j ds' h => ?_, c.dis⟩
  · intro q; exact c.cb.sd a h (st1.dom a q)
  · by_cases hp : q = p
    · subst hp
      rw [updW_same] at hq
      cases hq
      exact ⟨sp, nf, ho _ _ (st _ fun _ h => h.elim) upd_same⟩
    · rw [updW_ne hp] at hq
      obtain ⟨h1, h2, h3⟩ := c.cb.w q o' hq
      exact ⟨h1, h2, h3.up st1 (upd_ne hp)⟩
  · obtain ⟨w, h1, h2⟩ := c.sh j d' h
    exact ⟨w, h1, h2.up st1⟩
  · obtain ⟨q, h1, h3, h4, h5, h6⟩ := c.om j ds' h
    have hp : q ≠ p := fun z => by rw [z, hw] at h6; cases h6
    exact ⟨q, h1, h3.up st1 (upd_ne hp), h4, h5, by rw [updW_ne hp]; exact h6⟩
/-- a new changeable list -/
theorem Cf.newW (c : Cf K F S H σ ρ W) {p : Addr} {xs : List V} {ds : List D} (hp : H p = none) (r : Reps K S H ds xs) :
    W p = none ∧ Stp F S H (Add S p) (upd H p (.lst xs)) ∧ Cf K F (Add S p) (upd H p (.lst xs)) σ ρ (updW W p (.lst ds)) := by
  have hw : W p = none := by
    cases q : W p with
    | none => rfl
    | some o => exact absurd hp (c.cb.sd p (c.cb.w p o q).1)
  have np : ∀ a, S a → a ≠ p := fun a hs q => c.cb.sd a hs (by rw [q]; exact hp)
  have st : Stp F S H (Add S p) (upd H p (.lst xs)) := (c.alien (o := .lst xs) hp).1
  refine ⟨hw, st, ⟨fun a h => ?_, fun a h => .inl (c.cb.fs a h), fun q o' hq => ?_⟩, c.len, fun j d' h => ?_, fun j ds' h => ?_, c.dis⟩
  · rcases h with h | h
    · rw [upd_ne (np a h)]; exact c.cb.sd a h
    · rw [h, upd_same]; simp
  · by_cases hq' : q = p
    · subst hq'
      rw [updW_same] at hq
      cases hq
      exact ⟨.inr rfl, fun hf => c.cb.sd _ (c.cb.fs _ hf) hp, xs, upd_same, r.up st⟩
    · rw [updW_ne hq'] at hq
      obtain ⟨h1, h2, h3⟩ := c.cb.w q o' hq
      exact ⟨.inl h1, h2, h3.up st (upd_ne hq')⟩
  · obtain ⟨w, h1, h2⟩ := c.sh j d' h
    exact ⟨w, h1, h2.up st⟩
  · obtain ⟨q, h1, h3, h4, h5, h6⟩ := c.om j ds' h
    have hq : q ≠ p := np q h4
    exact ⟨q, h1, h3.up st (upd_ne hq), .inl h4, h5, by rw [updW_ne hq]; exact h6⟩
/-- the own list becomes one that others may hold -/
theorem Cf.omW (c : Cf K F S H σ ρ W) {i : Nat} {o : MO} (h0 : ρ[i]? = some (some (.om o))) :
    ∃ p, W p = none ∧ Cf K F S H σ (ρ.set i (some (.sh (.ref p)))) (updW W p o) := by
  obtain ⟨p, hp, r0, hs, hf, hw⟩ := c.om i o h0
  have hl : i < ρ.length := (List.getElem?_eq_some_iff.mp h0).1
  refine ⟨p, hw, ⟨c.cb.sd, c.cb.fs, fun q o' hq => ?_⟩, by simp [c.len], fun j d' h => ?_, fun j ds' h => ?_, fun j k q h1 h2 => ?_⟩
  · by_cases hq' : q = p
    · subst hq'
      rw [updW_same] at hq
      cases hq
      exact ⟨hs, hf, r0⟩
    · rw [updW_ne hq'] at hq
      exact c.cb.w q o' hq
  · by_cases hj : i = j
    · subst hj
      rw [List.getElem?_set_self hl] at h
      cases h
      exact ⟨_, hp, Rep.v_iff.mpr rfl⟩
    · rw [List.getElem?_set_ne hj] at h
      exact c.sh j d' h
  · by_cases hj : i = j
    · subst hj
      rw [List.getElem?_set_self hl] at h
      cases h
    · rw [List.getElem?_set_ne hj] at h
      obtain ⟨q, h1, h3, h4, h5, h6⟩ := c.om j ds' h
      have : q ≠ p := fun z => hj (c.dis i j p ⟨o, h0, hp⟩ ⟨ds', h, z ▸ h1⟩)
      exact ⟨q, h1, h3, h4, h5, by rw [updW_ne this]; exact h6⟩
  · have go : ∀ j, Own σ (ρ.set i (some (.sh (.ref p)))) j q → Own σ ρ j q := fun j ⟨ds', q1, q2⟩ => by
      by_cases hj : i = j
      · subst hj
        rw [List.getElem?_set_self hl] at q1
        cases q1
      · rw [List.getElem?_set_ne hj] at q1
        exact ⟨ds', q1, q2⟩
    exact c.dis j k q (go j h1) (go k h2)
end
section
variable {X : Cx} {Wx : WX} {st : Stmt} {rest : List Stmt} {f g : TSD} {e o a b c i : Expr} {es : List Expr} {fe fo fa fb fc : TD} {fl : TL} {pos : Pos}
/-- slot i's own list is given to the world -/
def dOlW (i : Nat) (f : TSD) : TSD := fun De ρ W => match ρ[i]? with
  | some (some (.ol ds)) => ∀ p, W p = none → f De (ρ.set i (some (.sh (.ref p)))) (updW W p (.lst ds))
  | _ => False
theorem gss_olW (i : Nat) (h : GSs X Wx rest f) : GSs X Wx rest (dOlW i f) := by
  obtain ⟨t, p, s⟩ := h
  refine ⟨t, p, fun F S H σ ρ W De Dh cf hf l => ?_⟩
  unfold dOlW at hf
  split at hf
  · rename_i ds h0
    obtain ⟨q, hq, c2⟩ := cf.omW h0
    exact s F S H σ _ _ De Dh c2 (hf q hq) l
  · exact hf.elim
/-- return [..], a list that its owner may change -/
def dRetW (fl : TL) : TSD := fun De ρ W => fl ρ W (fun ds _ W' => ∀ p, W' p = none → De.rt (.ref p) (updW W' p (.lst ds))) De.ex
theorem gs_retW (he : GN X Wx e fl) : GS X Wx (.Return (some e) pos) (dRetW fl) := by
  obtain ⟨te, pe, se⟩ := he
  refine ⟨_, ps_ret pe, fun F S H σ ρ W De Dh cf hf l => ?_⟩
  refine se F S H σ ρ W _ De.ex _ cf hf l.ex fun S' H' ρ' W' ds xs p e' c r hp q => ?_
  obtain ⟨hw, st, c2⟩ := c.newW hp r
  exact l.rt _ _ σ ρ' _ _ _ (e'.trans st) c2 (Rep.v_iff.mpr rfl) (q p hw)
/-- x = [..], a list that others may hold and change -/
def dAsgW (i : Nat) (fl : TL) : TSD := fun De ρ W => fl ρ W (fun ds ρ' W' => ∀ p, W' p = none → De.nx (ρ'.set i (some (.sh (.ref p)))) (updW W' p (.lst ds))) De.ex
theorem snd_asgW {K : PySem.W.Frag} {te : TE} {i : Nat} (se : SndN K Wx te fl) : SndS K Wx (tAsg te (gName i)) (dAsgW i fl) := fun F S H σ ρ W De Dh cf hf l => by
  refine se F S H σ ρ W _ De.ex _ cf hf l.ex fun S' H' ρ' W' ds xs p e' c r hp q => ?_
  obtain ⟨hw, st, c2⟩ := c.newW hp r
  exact l.nx _ _ _ _ _ (e'.trans st) (c2.setSh i (Rep.v_iff.mpr rfl)) (q p hw)
/-- p[i] of a changeable list -/
def dIxW (fa fb : TD) : TD := fun ρ W Q Qx => fa ρ W (fun d ρ1 W1 => fb ρ1 W1 (fun e ρ2 W2 => match d, e with
  | .v (.ref p), .v (.int i) => ∃ ds z, W2 p = some (.lst ds) ∧ atI ds i = some z ∧ Q z ρ2 W2
  | _, _ => False) Qx) Qx
theorem ge_ixW (ha : GE X Wx a fa) (hb : GE X Wx b fb) (hs : PlainIx b) : GE X Wx (.Subscript a b pos) (dIxW fa fb) := by
  obtain ⟨ta, pa, sa⟩ := ha
  obtain ⟨tb, pb, sb⟩ := hb
  refine ⟨_, pe_ix ix_list pa pb hs, fun F S H σ ρ W Q Qx R cf hf hx hE => ?_⟩
  refine sa F S H σ ρ W _ Qx _ cf hf hx fun S1 H1 ρ1 W1 d v e1 c1 r1 q1 => ?_
  refine sb F S1 H1 σ ρ1 W1 _ Qx _ c1 q1 (hx.up e1) fun S2 H2 ρ2 W2 d2 v2 e2 c2 r2 q2 => ?_
  split at q2
  · rename_i p i
    obtain ⟨ds, z, hw, hz, q⟩ := q2
    obtain ⟨_, _, xs, h1, h2⟩ := c2.cb.w p _ hw
    obtain ⟨w, h3, h4⟩ := reps_at h2 hz
    exact ⟨p, xs, i, w, Rep.v_iff.mp r1, Rep.v_iff.mp r2, SqL.of h1, h3, hE S2 H2 ρ2 W2 z w (e1.trans e2) c2 h4 q⟩
  · exact q2.elim
/-- p[i] = e -/
def dSetW (fe fo fi : TD) : TSD := fun De ρ W => fe ρ W (fun d ρ1 W1 => fo ρ1 W1 (fun x ρ2 W2 => fi ρ2 W2 (fun y ρ3 W3 => match x, y with
  | .v (.ref p), .v (.int k) => ∃ ds j, W3 p = some (.lst ds) ∧ ixN ds.length k = some j ∧ De.nx ρ3 (updW W3 p (.lst (ds.set j d)))
  | _, _ => False) De.ex) De.ex) De.ex
theorem gs_setW {fi : TD} {tpos : Pos} (he : GE X Wx e fe) (ho : GE X Wx o fo) (hi : GE X Wx i fi) (ha : ∀ v, assign (.Subscript o i tpos) X.env v = (do
      let ov ← holding [v] (eval o X.env)
      let iv ← holding [v, ov] (eval i X.env)
      standAt tpos
      holding [v, ov, iv] (setItem ov iv v)
      release [v, ov, iv] []) := by intro _; rfl) (hs : swapsWithSole [.Subscript o i tpos] e pos.line X.env = pure false := by rfl) (hw : swappedStores [.Subscript o i tpos] e X.env = pure none := by rfl) (h1 : (assignEach [.Subscript o i tpos] X.env).map (·.2) = [assign (.Subscript o i tpos) X.env] := by rfl) :
    GS X Wx (.Assign [.Subscript o i tpos] e pos) (dSetW fe fo fi) := by
  obtain ⟨te, pe, se⟩ := he
  obtain ⟨to, po, so⟩ := ho
  obtain ⟨ti, pi, si⟩ := hi
  refine ⟨_, ps_asg pe (pg_sub po pi set_list ha) hs hw h1, fun F S H σ ρ W De Dh cf hf l => ?_⟩
  refine se F S H σ ρ W _ De.ex _ cf hf l.ex fun S1 H1 ρ1 W1 d v e1 c1 r1 q1 => ?_
  refine so F S1 H1 σ ρ1 W1 _ De.ex _ c1 q1 (l.ex.up e1) fun S2 H2 ρ2 W2 d2 v2 e2 c2 r2 q2 => ?_
  refine si F S2 H2 σ ρ2 W2 _ De.ex _ c2 q2 (l.ex.up (e1.trans e2)) fun S3 H3 ρ3 W3 d3 v3 e3 c3 r3 q3 => ?_
  split at q3
  · rename_i p k
    obtain ⟨ds, j, hw, hj, q⟩ := q3
    obtain ⟨_, _, xs, h1, h2⟩ := c3.cb.w p _ hw
    refine ⟨p, xs, k, j, Rep.v_iff.mp r2, Rep.v_iff.mp r3, h1, by rw [h2.length]; exact hj, ?_⟩
    have r1' := (r1.up e2).up e3
    obtain ⟨st, c4⟩ := c3.chW (o := .lst (ds.set j d)) (u := .lst (xs.set j v)) hw fun S' H' e' hp => ⟨_, hp, (Reps.set r1' j h2).up e'⟩
    exact l.nx _ _ _ _ _ (((e1.trans e2).trans e3).trans st) c4 q
  · exact q3.elim
/-- p.pop(i), dropped -/
def dPopW (fo fi : TD) : TSD := fun De ρ W => fo ρ W (fun x ρ1 W1 => (∃ p ds, x = .ref p ∧ W1 p = some (.lst ds)) ∧ fi ρ1 W1 (fun y ρ2 W2 => match x, y with
  | .v (.ref p), .v (.int k) => ∃ ds j, W2 p = some (.lst ds) ∧ -(2 ^ 63) ≤ k ∧ k < 2 ^ 63 ∧ seqIndex? k ds.length = some j ∧ j < ds.length ∧ De.nx ρ2 (updW W2 p (.lst (ds.eraseIdx j)))
  | _, _ => False) De.ex) De.ex
theorem Reps.erase {K : PySem.W.Frag} {S : Reg} {H : Hp} : ∀ (n : Nat) {ds : List D} {vs : List V}, Reps K S H ds vs → Reps K S H (ds.eraseIdx n) (vs.eraseIdx n)
  | n, [], _, h => by rw [Reps.nil_iff.mp h]; exact Reps.nil
  | 0, d' :: ds, _, h => by
    obtain ⟨x, r, rfl, h1, h2⟩ := Reps.cons_iff.mp h
    exact h2
  | n + 1, d' :: ds, _, h => by
    obtain ⟨x, r, rfl, h1, h2⟩ := Reps.cons_iff.mp h
    exact Reps.cons h1 (Reps.erase n h2)
theorem gs_popW {fi : TD} {apos cpos : Pos} (ho : GE X Wx o fo) (hi : GE X Wx i fi) (hbase : attributeBase o "pop" X.env (eval o X.env) = eval o X.env := by rfl)
    (hfew : ((backTo cpos (starEach (i :: []) X.env)).all (fun x => !x.1) && (backToKw cpos (keywordEach [] X.env)).all (fun x => x.1.isSome) && decide ((i :: ([] : List Expr)).length + ([] : List Keyword).length + (if ([] : List Keyword).isEmpty then 0 else 1) < 30)) = true := by rfl)
    (hline : (apos.endLine == cpos.line) = true := by rfl) (hse : starEach (i :: []) X.env = (false, eval i X.env) :: starEach [] X.env := by rfl) (hplain : (backTo cpos (starEach [] X.env)).any (·.1) = false := by rfl)
    (hs : swapsWith (.Call (.Attribute o "pop" apos) [i] [] cpos) none pos.line X.env = pure false := by rfl) : GS X Wx (.Expr (.Call (.Attribute o "pop" apos) [i] [] cpos) pos) (dPopW fo fi) := by
  obtain ⟨to, po, so⟩ := ho
  obtain ⟨ti, pi, si⟩ := hi
  refine ⟨_, ps_expr (pe_bm PySem.F.plainAttrs_list PySem.F.slot_list_pop PySem.F.type_list_pop mt_popAt po (pa_cons pi pa_nil hse) hbase hfew hline hse hplain) hs, fun F S H σ ρ W De Dh cf hf l => ?_⟩
  refine so F S H σ ρ W _ De.ex _ cf hf l.ex fun S1 H1 ρ1 W1 d v e1 c1 r1 q1 => ?_
  obtain ⟨⟨p0, ds0, rfl, hw0⟩, q1⟩ := q1
  obtain ⟨_, _, xs0, h0, _⟩ := c1.cb.w p0 _ hw0
  have ev := Rep.v_iff.mp r1
  subst ev
  refine ⟨.inl ⟨rfl, xs0, SqL.of h0⟩, ?_⟩
  refine si F S1 H1 σ ρ1 W1 _ De.ex _ c1 q1 (l.ex.up e1) fun S2 H2 ρ2 W2 d2 v2 e2 c2 r2 q2 => ?_
  split at q2
  · rename_i p k he
    cases he
    obtain ⟨ds, j, hw, hk1, hk2, hj, hjl, q⟩ := q2
    obtain ⟨_, _, xs, h1, h2⟩ := c2.cb.w p0 _ hw
    have hv : xs[j]? = some (xs[j]'(by rw [h2.length]; exact hjl)) := List.getElem?_eq_getElem _
    refine ⟨p0, xs, k, j, _, rfl, by rw [Rep.v_iff.mp r2], h1, hk1, hk2, by rw [h2.length]; exact hj, hv, ?_⟩
    obtain ⟨st, c4⟩ := c2.chW (o := .lst (ds.eraseIdx j)) (u := .lst (xs.eraseIdx j)) hw fun S' H' e' hp => ⟨_, hp, (Reps.erase j h2).up e'⟩
    exact l.nx _ _ _ _ _ ((e1.trans e2).trans st) c4 q
  · exact q2.elim
/-- p != [], p a changeable list -/
def dNeW (fa fb : TD) : TB := fun ρ W Q Qx => fa ρ W (fun d ρ1 W1 => fb ρ1 W1 (fun e ρ2 W2 => match d, e with
  | .v (.ref p), .lst [] => ∃ ds, W2 p = some (.lst ds) ∧ goods 63 ds = true ∧ Q (!ds.isEmpty) ρ2 W2
  | _, _ => False) Qx) Qx
theorem gt_neW (hu : X.A.units + 64 < cLine) (ha : GE X Wx a fa) (hb : GE X Wx b fb) (hm : behindInMarks .NotEq b = false) : GT X Wx (.Compare a [.NotEq] [b] pos) (dNeW fa fb) := by
  obtain ⟨ta, pa, sa⟩ := ha
  obtain ⟨tb, pb, sb⟩ := hb
  refine ⟨_, pt_cmpR (op_neD hu) pa pb hm, fun F S H σ ρ W Q Qx R cf hf hx hE => ?_⟩
  refine sa F S H σ ρ W _ Qx _ cf hf hx fun S1 H1 ρ1 W1 d v e1 c1 r1 q1 => ?_
  refine sb F S1 H1 σ ρ1 W1 _ Qx _ c1 q1 (hx.up e1) fun S2 H2 ρ2 W2 d2 v2 e2 c2 r2 q2 => ?_
  split at q2
  · rename_i p
    obtain ⟨ds, hw, hg, q⟩ := q2
    obtain ⟨_, _, xs, h1, h2⟩ := c2.cb.w p _ hw
    have ev := Rep.v_iff.mp r1
    subst ev
    obtain ⟨a, ys, rfl, h3, h4⟩ := Rep.lst_iff.mp r2
    have gl : D.good 64 (.lst ds) = true := by simpa [D.good] using hg
    have gn : D.good 64 (.lst []) = true := by simp [D.good, goods]
    have dp1 : Dp X.K H2 (.ref p) (D.lst ds).py := by
      simp only [D.py]
      exact .lst (SqL.of h1) (dps_of hg h2)
    refine ⟨_, _, dp1, dp_of gn r2, shaped_of gl, shaped_of gn, !ds.isEmpty, ?_, hE S2 H2 ρ2 W2 _ (e1.trans e2) c2 q⟩
    cases ds with
    | nil => simp [D.py, pys, PyData.eqv, PyData.eqvAll]
    | cons d ds => simp [D.py, pys, PyData.eqv, PyData.eqvAll]
  · exact q2.elim
/-! ### more statements, more expressions -/
/-- xs[i] = e, the frame's own list -/
def dSetO (k : Nat) (fe fi : TD) : TSD := fun De ρ W => fe ρ W (fun d ρ1 W1 => (∃ ds, ρ1[k]? = some (some (.ol ds))) ∧ fi ρ1 W1 (fun y ρ2 W2 => match ρ2[k]?, y with
  | some (some (.ol ds)), .v (.int z) => ∃ j, ixN ds.length z = some j ∧ De.nx (ρ2.set k (some (.ol (ds.set j d)))) W2
  | _, _ => False) De.ex) De.ex
theorem gs_setO2 {k : Nat} {x : Str} {fi : TD} {px tpos : Pos} (he : GE X Wx e fe) (hi : GE X Wx i fi) (hN : X.N[k]? = some x := by rfl) (hv : Vis X.env.scope x := by first | exact Or.inl rfl | exact Or.inr (Or.inl rfl) | exact Or.inr (Or.inr rfl)) (hd : (x == ("__debug__" : Str)) = false := by decide) (hcd : (x == ("__classdict__" : Str)) = false := by decide)
    (ha : ∀ v, assign (.Subscript (.Name x px) i tpos) X.env v = (do
      let ov ← holding [v] (eval (.Name x px) X.env)
      let iv ← holding [v, ov] (eval i X.env)
      standAt tpos
      holding [v, ov, iv] (setItem ov iv v)
      release [v, ov, iv] []) := by intro _; rfl) (hs : swapsWithSole [.Subscript (.Name x px) i tpos] e pos.line X.env = pure false := by rfl) (hw : swappedStores [.Subscript (.Name x px) i tpos] e X.env = pure none := by rfl) (h1 : (assignEach [.Subscript (.Name x px) i tpos] X.env).map (·.2) = [assign (.Subscript (.Name x px) i tpos) X.env] := by rfl) :
    GS X Wx (.Assign [.Subscript (.Name x px) i tpos] e pos) (dSetO k fe fi) := by
  obtain ⟨te, pe, se⟩ := he
  obtain ⟨ti, pi, si⟩ := hi
  refine ⟨_, ps_asg pe (pg_sub (pe_var hN hv hd hcd) pi set_list ha) hs hw h1, fun F S H σ ρ W De Dh cf hf l => ?_⟩
  refine se F S H σ ρ W _ De.ex _ cf hf l.ex fun S1 H1 ρ1 W1 d v e1 c1 r1 q1 => ?_
  obtain ⟨⟨ds0, h0⟩, q1⟩ := q1
  obtain ⟨p, xs0, hp, _⟩ := c1.ol k ds0 h0
  refine ⟨_, hp, ?_⟩
  refine si F S1 H1 σ ρ1 W1 _ De.ex _ c1 q1 (l.ex.up e1) fun S2 H2 ρ2 W2 d2 v2 e2 c2 r2 q2 => ?_
  split at q2
  · rename_i ds z hk
    obtain ⟨j, hj, q⟩ := q2
    obtain ⟨p', xs, hp', h2, h3, _⟩ := c2.ol k ds hk
    rw [hp] at hp'; cases hp'
    refine ⟨p, xs, z, j, rfl, Rep.v_iff.mp r2, h2, by rw [h3.length]; exact hj, ?_⟩
    obtain ⟨st, c3⟩ := c2.chOl hk hp (Reps.set (r1.up e2) j h3)
    exact l.nx _ _ _ _ W2 ((e1.trans e2).trans st) c3 q
  · exact q2.elim
/-- xs[i], the frame's own list -/
def dIxO (k : Nat) (fi : TD) : TD := fun ρ W Q Qx => (∃ ds, ρ[k]? = some (some (.ol ds))) ∧ fi ρ W (fun y ρ2 W2 => match ρ2[k]?, y with
  | some (some (.ol ds)), .v (.int z) => ∃ d, atI ds z = some d ∧ Q d ρ2 W2
  | _, _ => False) Qx
theorem ge_ixO (k : Nat) {x : Str} {fi : TD} {px : Pos} (hi : GE X Wx i fi) (hpi : PlainIx i) (hN : X.N[k]? = some x := by rfl) (hv : Vis X.env.scope x := by first | exact Or.inl rfl | exact Or.inr (Or.inl rfl) | exact Or.inr (Or.inr rfl)) (hd : (x == ("__debug__" : Str)) = false := by decide) (hcd : (x == ("__classdict__" : Str)) = false := by decide) :
    GE X Wx (.Subscript (.Name x px) i pos) (dIxO k fi) := by
  obtain ⟨ti, pi, si⟩ := hi
  refine ⟨_, pe_ix ix_list (pe_var hN hv hd hcd) pi hpi, fun F S H σ ρ W Q Qx R cf hf hx hE => ?_⟩
  obtain ⟨⟨ds0, h0⟩, hf⟩ := hf
  obtain ⟨p, xs0, hp, _⟩ := cf.ol k ds0 h0
  refine ⟨_, hp, ?_⟩
  refine si F S H σ ρ W _ Qx _ cf hf hx fun S2 H2 ρ2 W2 d2 v2 e2 c2 r2 q2 => ?_
  split at q2
  · rename_i ds z hk
    obtain ⟨d, hd, q⟩ := q2
    obtain ⟨p', xs, hp', h2, h3, _⟩ := c2.ol k ds hk
    rw [hp] at hp'; cases hp'
    obtain ⟨w, h4, h5⟩ := reps_at h3 hd
    exact ⟨p, xs, z, w, rfl, Rep.v_iff.mp r2, SqL.of h2, h4, hE S2 H2 ρ2 W2 d w e2 c2 h5 q⟩
  · exact q2.elim
/-- len of the frame's own list -/
def dLenO (k : Nat) : TD := fun ρ W Q _ => match ρ[k]? with
  | some (some (.ol ds)) => Q (.int ds.length) ρ W
  | _ => False
/-- -e -/
def dNeg (fe : TD) : TD := fun ρ W Q Qx => fe ρ W (fun d ρ' W' => match d with | .v (.int i) => Q (.int (-i)) ρ' W' | _ => False) Qx
theorem ge_neg (he : GE X Wx e fe) : GE X Wx (.UnaryOp .USub e pos) (dNeg fe) := by
  obtain ⟨te, pe, se⟩ := he
  refine ⟨_, pe_un un_neg pe, fun F S H σ ρ W Q Qx R cf hf hx hE => ?_⟩
  refine se F S H σ ρ W _ Qx _ cf hf hx fun S1 H1 ρ1 W1 d v e1 c1 r1 q1 => ?_
  split at q1
  · rename_i i
    exact ⟨i, Rep.v_iff.mp r1, hE S1 H1 ρ1 W1 _ _ e1 c1 (Rep.v_iff.mpr rfl) q1⟩
  · exact q1.elim
theorem ge_gc {x : Str} {v : V} {pos : Pos} (h : ∃ u, X.mg x = some u ∧ RelV v u) (hg : Gl X x := by rfl) (hd : (x == ("__debug__" : Str)) = false := by decide) : GE X Wx (.Name x pos) (dC v) := by
  obtain ⟨u, h1, h2⟩ := h
  exact ge_glob hg h1 h2 hd
/-- a built-in class as a value -/
theorem ge_ty {x : Str} {n : String} {pos : Pos} (hm : X.mg x = none) (hv : bootBuiltins x = some (.type n)) (hg : Gl X x := by rfl) (hn : x ≠ "__name__" := by decide) (hd : (x == ("__debug__" : Str)) = false := by decide) : GE X Wx (.Name x pos) (dC (.ty n)) :=
  ⟨_, pe_bltn (v := .ty n) hg hm hv rfl hn hd, snd_c⟩
theorem gt_chain {op op' : CmpOp} {r r' : R2} {k k' : D → D → (D → Prop) → Prop} (ho : OpR X (compareOp op) r) (ho' : OpR X (compareOp op') r') (hr : RSnd X.K r k) (hr' : RSnd X.K r' k') (ha : GE X Wx a fa) (hb : GE X Wx b fb) (hc : GE X Wx c fc)
    (hm : lastMarks [op, op'] [b, c] = false := by with_unfolding_all rfl) : GT X Wx (.Compare a [op, op'] [b, c] pos) (dBool (dChain k k' fa fb fc)) := by
  obtain ⟨ta, pa, sa⟩ := ha
  obtain ⟨tb, pb, sb⟩ := hb
  obtain ⟨tc, pc, sc⟩ := hc
  refine ⟨_, pt_chain ho ho' pa pb pc hm, fun F S H σ ρ W Q Qx R cf hf hx hE => ?_⟩
  have := snd_tB (snd_chain hr hr' sa sb sc) F S H σ ρ W Q Qx R cf hf hx hE
  exact this
/-- x = [.. for ..] -/
theorem gs_setLc {y : Str} {py : Pos} {k : Nat} {elt tg iter : Expr} {ifs : List Expr} {scope : Scope} {spos : Pos} {fi : TID} {gd : TGD} {ft : TB} {fe : TD} {ts : List Nat} (own : List (Str × Nat)) (hc : X.calm = true) (hN : X.N.Nodup) (hy : X.N[k]? = some y) (hyl : X.env.scope.names.lookup y = some .local)
    (hsw : swapsWith (.ListComp elt [⟨tg, iter, ifs, 0⟩] scope pos) (some (.Name y py)) spos.line X.env = pure true) (hi : GI X Wx tg iter fi) (ok : BlkOk X.N X.env.scope scope own) (hts : ∀ j ∈ ts, j ∈ own.map (·.2))
    (hg : ∀ (s : Shared) (H : Hp) (C : Addr) (cl : List (Str × Addr)) (fp : List Addr), GG (X.blk s H scope (PySem.compEnvC scope cl C X.env) fp) tg gd ts) (ht : ∀ (s : Shared) (H : Hp) (C : Addr) (cl : List (Str × Addr)) (fp : List Addr), GTs (X.blk s H scope (PySem.compEnvC scope cl C X.env) fp) WX0 ifs ft)
    (he : ∀ (s : Shared) (H : Hp) (C : Addr) (cl : List (Str × Addr)) (fp : List Addr), GE (X.blk s H scope (PySem.compEnvC scope cl C X.env) fp) WX0 elt fe) (hs : ∀ x, foldedSetIterable iter X.env x = pure x := by intro _; rfl) :
    GS X Wx (.Assign [.Name y py] (.ListComp elt [⟨tg, iter, ifs, 0⟩] scope pos) spos) (dAsg (dFresh (dLc fi gd ft fe (own.map (·.2)))) (gdName k)) := by
  obtain ⟨wi, pi, si⟩ := hi
  exact ⟨_, ps_setLc hc hN hy hyl hsw pi ok (fun s H C cl fp => (hg s H C cl fp).can) (fun s H C cl fp => (ht s H C cl fp).can) (fun s H C cl fp => (he s H C cl fp).can) hs, snd_asg (snd_fresh (snd_lc hts si)) snd_gName⟩
theorem gs_setLcO {y : Str} {py : Pos} {k : Nat} {elt tg iter : Expr} {ifs : List Expr} {scope : Scope} {spos : Pos} {fi : TID} {gd : TGD} {ft : TB} {fe : TD} {ts : List Nat} (own : List (Str × Nat)) (hc : X.calm = true) (hN : X.N.Nodup) (hy : X.N[k]? = some y) (hyl : X.env.scope.names.lookup y = some .local)
    (hsw : swapsWith (.ListComp elt [⟨tg, iter, ifs, 0⟩] scope pos) (some (.Name y py)) spos.line X.env = pure true) (hi : GI X Wx tg iter fi) (ok : BlkOk X.N X.env.scope scope own) (hts : ∀ j ∈ ts, j ∈ own.map (·.2))
    (hg : ∀ (s : Shared) (H : Hp) (C : Addr) (cl : List (Str × Addr)) (fp : List Addr), GG (X.blk s H scope (PySem.compEnvC scope cl C X.env) fp) tg gd ts) (ht : ∀ (s : Shared) (H : Hp) (C : Addr) (cl : List (Str × Addr)) (fp : List Addr), GTs (X.blk s H scope (PySem.compEnvC scope cl C X.env) fp) WX0 ifs ft)
    (he : ∀ (s : Shared) (H : Hp) (C : Addr) (cl : List (Str × Addr)) (fp : List Addr), GE (X.blk s H scope (PySem.compEnvC scope cl C X.env) fp) WX0 elt fe) (hs : ∀ x, foldedSetIterable iter X.env x = pure x := by intro _; rfl) :
    GS X Wx (.Assign [.Name y py] (.ListComp elt [⟨tg, iter, ifs, 0⟩] scope pos) spos) (dAsgO k (dLc fi gd ft fe (own.map (·.2)))) := by
  obtain ⟨wi, pi, si⟩ := hi
  exact ⟨_, ps_setLc hc hN hy hyl hsw pi ok (fun s H C cl fp => (hg s H C cl fp).can) (fun s H C cl fp => (ht s H C cl fp).can) (fun s H C cl fp => (he s H C cl fp).can) hs, snd_asgO (snd_lc hts si)⟩
end
/-! ### defs of the module -/
/-- the def x of the text -/
structure DefAt (K : PySem.W.Frag) (mg : Str → Option Value) (x : Str) (st : Stmt) (ps : List Str) : Prop where
  ex : ∃ f fd, mg x = some (.ref f) ∧ Fun K x x st f fd ∧ Binds K fd ps []
theorem def_mk {K : PySem.W.Frag} {mg : Str → Option Value} {h : Heap} {x : Str} {st : Stmt} {ps : List Str} {f : Addr} {oc : Value} {od an : Option Addr} {osl : Array (Option Value)} {kV doc pm cdv ct : Value} (X : K.In h) (GG : h.Ns mainGlobals mg) (a : PySem.W.nsIn K mainGlobals x = some (some (.ref f)))
    (l : K.lookup f = some ⟨oc, od, .func (PySem.W.fnOf x x (defArgs st) (defBody st) (defScope st) .none kV doc pm an cdv ct), osl⟩) (c : PySem.W.codeIn K cdv x = true) (k : PySem.W.keepIn K (.ref f) = true)
    (b : ∀ (kV doc pm : Value) (an : Option Addr) (cdv ct : Value) (us : List Value), us.length = ps.length → bindArgs (PySem.W.fnOf x x (defArgs st) (defBody st) (defScope st) .none kV doc pm an cdv ct) ⟨us, []⟩ = pure (ps.zip us)) : DefAt K mg x st ps :=
  ⟨f, _, PySem.W.mg_of X GG a, fun_mk l c k, (fun_mk l c k).binds b⟩
/-- a def that keeps its promise -/
structure Cal (P : Program) (w : World) (K : PySem.W.Frag) (mg : Str → Option Value) (base : Heap) (k : Nat) (x : Str) (st : Stmt) (ps : List Str) (sp : SpD) : Prop where
  ex : ∃ f fd, mg x = some (.ref f) ∧ Fun K x x st f fd ∧ Binds K fd ps [] ∧ FnG P w K mg base k f fd ps (toSp K ps.length sp)
section
variable {P : Program} {w : World} {K : PySem.W.Frag} {mg : Str → Option Value} {base : Heap} {k j : Nat} {x : Str} {st : Stmt} {ps : List Str} {sp sp' : SpD}
theorem Cal.imp (c : Cal P w K mg base k x st ps sp) (h : ∀ ds W Q Qx, sp' ds W Q Qx → sp ds W Q Qx) : Cal P w K mg base k x st ps sp' := by
  obtain ⟨f, fd, a, b, c, d⟩ := c
  exact ⟨f, fd, a, b, c, d.imp (toSp_imp h _ _ _ _)⟩
theorem Cal.mono (c : Cal P w K mg base k x st ps sp) (h : k ≤ j) : Cal P w K mg base j x st ps sp := by
  obtain ⟨f, fd, a, b, c, d⟩ := c
  exact ⟨f, fd, a, b, c, d.mono h⟩
/-- THE RULE for a def of the module -/
theorem calD {N : List Str} (T : DefAt K mg x st ps) (Sc : FnScope N ps (defScope st))
    (hbody : ∀ (f : Addr) (cdv : Value) (A : Around) (outer : List PySem.Env) (s : Shared) (H : Hp) (E : XK), Rm k (A.deeper (PyProof.Rows.envOfC x (defScope st) s.heap.objs.size f cdv)) →
      ∃ g, GSs (cxOf (L2.CX P w) P w K mg base N x (defScope st) f cdv A outer s H E) (fun cls d _ H => E cls d H) (defBody st) g ∧
        ∀ ds W Qd Qx, ds.length = ps.length → sp ds W Qd Qx → g { nx := fun _ W' => Qd .non W', rt := Qd, ex := fun cls x _ W' => Qx cls x W' } (ds.map (fun d => some (Sl.sh d)) ++ List.replicate (N.length - ds.length) none) W) :
    Cal P w K mg base (k + 1) x st ps sp := by
  obtain ⟨f, fd, a, b, c⟩ := T
  exact ⟨f, fd, a, b, c, okD b Sc (hbody f)⟩
end
section
variable {X : Cx} {Wx : WX} {e : Expr} {es : List Expr} {fl : TL} {p pos : Pos} {k j n : Nat} {x : Str} {st : Stmt} {ps : List Str} {sp : SpD}
theorem ge_c (tk : Takes X Wx) (c : Cal X.prog X.w X.K X.mg X.base k x st ps sp) (hr : Rm j X.A) (hk : k ≤ j) (ha : GA X Wx (e :: es) fl) (hn : ps.length = n := by rfl) (hg : Gl X x := by rfl) (hdb : (x == ("__debug__" : Str)) = false := by decide) (he : starEach (e :: es) X.env = (false, eval e X.env) :: starEach es X.env := by rfl) (hpl : (backTo pos (starEach es X.env)).any (·.1) = false := by rfl) :
    GE X Wx (.Call (.Name x p) (e :: es) [] pos) (dCall sp n fl) := by
  obtain ⟨f, fd, a, b, c, d⟩ := c
  subst hn
  exact ge_call tk d (hr.less hk) hg a b.kp c ha hdb he hpl
/-- keywords -/
def GK (X : Cx) (Wx : WX) (kws : List Keyword) (f : TL) : Prop := ∃ te, PK X kws te ∧ SndL X.K Wx te f
variable {nm : Option Str} {kpos : Pos} {fe : TD} {kws : List Keyword}
theorem gk_nil : GK X Wx [] dNil := ⟨_, pk_nil, fun F S H σ ρ W Q Qx R cf hf hx hE => hE S H ρ W [] [] .refl cf Reps.nil hf⟩
theorem gk_cons (he : GE X Wx e fe) (ha : GK X Wx kws fl) : GK X Wx (⟨nm, e, kpos⟩ :: kws) (dCons fe fl) := by
  obtain ⟨te, pe, se⟩ := he
  obtain ⟨ta, pa, sa⟩ := ha
  exact ⟨_, pk_cons pe pa, snd_cons se sa⟩
/-- the values ix of l -/
def pick {α : Type} (ix : List Nat) (l : List α) : List α := ix.filterMap (l[·]?)
theorem vals_pick {zs : List V} {ws : List Value} (r : Vals zs ws) : ∀ ix : List Nat, Vals (pick ix zs) (pick ix ws)
  | [] => .nil
  | i :: ix => by
    unfold pick
    rw [List.filterMap_cons, List.filterMap_cons]
    cases e : zs[i]? with
    | none => rw [r.none_of e]; exact vals_pick r ix
    | some v =>
      obtain ⟨u, h1, h2⟩ := r.get e
      rw [h1]
      exact .cons h2 (vals_pick r ix)
theorem reps_pick {K : PySem.W.Frag} {S : Reg} {H : Hp} {ds : List D} {vs : List V} (r : Reps K S H ds vs) : ∀ ix : List Nat, Reps K S H (pick ix ds) (pick ix vs)
  | [] => Reps.nil
  | i :: ix => by
    unfold pick
    rw [List.filterMap_cons, List.filterMap_cons]
    cases e : ds[i]? with
    | none =>
      have : vs[i]? = none := by
        rw [List.getElem?_eq_none_iff] at e ⊢
        rw [r.length]; exact e
      rw [this]; exact reps_pick r ix
    | some v =>
      obtain ⟨u, h1, h2⟩ := r.get e
      rw [h1]
      exact Reps.cons h2 (reps_pick r ix)
def dCallK (sp : SpD) (n m : Nat) (ix : List Nat) (fl : TL) : TD := fun ρ W Q Qx => fl ρ W (fun ds ρ' W' => ds.length = m ∧ (pick ix ds).length = n ∧ sp (pick ix ds) W' (fun d W2 => Q d ρ' W2) (fun cls x W2 => False)) Qx
/-- f(k = e, ..), every argument by its name; nothing is raised -/
theorem ge_ck {ks : List Str} {m : Nat} (ix : List Nat) (c : Cal X.prog X.w X.K X.mg X.base k x st ps sp) (hr : Rm j X.A) (hk : k ≤ j)
    (hb : ∀ (kV doc pm : Value) (an : Option Addr) (cdv ct : Value) (ws : List Value), ws.length = ks.length → bindArgs (PySem.W.fnOf x x (defArgs st) (defBody st) (defScope st) .none kV doc pm an cdv ct) ⟨[], ks.zip ws⟩ = pure (ps.zip (pick ix ws)))
    (ha : GK X Wx kws fl) (hm : ks.length = m := by rfl) (hn : ps.length = n := by rfl) (hall : (backToKw pos (keywordEach kws X.env)).all (·.1.isSome) = true := by rfl) (hks : (backToKw pos (keywordEach kws X.env)).filterMap (·.1) = ks := by rfl) (hg : Gl X x := by rfl) (hdb : (x == ("__debug__" : Str)) = false := by decide)
    (hpl : ((backTo pos (starEach [] X.env)).any (·.1) || (backToKw pos (keywordEach kws X.env)).any (·.1.isNone)) = false := by rfl) :
    GE X Wx (.Call (.Name x p) [] kws pos) (dCallK sp n m ix fl) := by
  obtain ⟨f, fd, hmg, hF, hB, hf⟩ := c
  obtain ⟨ta, pa, sa⟩ := ha
  subst hn
  let te : TE := fun σ H Q => ta σ H fun zs H2 => zs.length = ks.length ∧ toSp X.K ps.length sp (pick ix zs) H2 Q E0
  refine ⟨te, ⟨fun pins s σ H Q I h => ?_⟩, ?_⟩
  · refine wpAny_Call_Name_kw (ld_glob I hg hmg ?_ hdb)
    refine PySem.W.callWith_KW0 (h₀ := X.base) I.ok.mod.kin hF.kp hall ?_ hpl
    refine thn (pa.run pos pins s σ H _ I h) fun ws s2 ⟨zs, H2, I2, rz, l2, q2⟩ => ⟨I2.kIn, ?_⟩
    rw [hks]
    obtain ⟨oc, od, kV, doc, pm, an, cdv, ct, osl, rfl, lk, hcd⟩ := hF.ex
    have hr2 := vals_pick rz ix
    have hbt := BindsTo.of_eq (s := s2) (hb kV doc pm an cdv ct ws (by rw [← rz.length, l2]))
    refine wpAny_call (codeAny_mono (hf.go (hr.less hk) I2.env0 hbt hr2 q2) fun r s' hq => ?_)
    cases r with
    | error e => exact (passL (X := X) pins σ H2 s2 e s' I2 hq)
    | ok fl =>
      cases fl with
      | ret u => exact I2.after hq
      | next => exact False.elim hq
      | brk => exact False.elim hq
      | cont => exact False.elim hq
  · intro F S H σ ρ W Q Qx R cf hf' hx hE
    refine sa F S H σ ρ W _ Qx _ cf hf' hx fun S1 H1 ρ1 W1 ds vs e1 c1 r1 q1 => ?_
    obtain ⟨q0, q1, q2⟩ := q1
    refine ⟨by rw [r1.length, q0, hm], _, S1, W1, pick ix ds, _, _, c1.below, reps_pick r1 ix, q1, q2, fun S' H' W' d v e' b r q => ?_, fun S' H' W' cls x od e' b xr q => q.elim⟩
    exact hE S' H' ρ1 W' d v (e1.trans (e'.mono fun _ h => .inl h)) (c1.back e' b) r q
end

/-! ### the end -/
/-- the surroundings at the head: what is not tracked is the base -/
theorem env_top {P : Program} {w : World} {K : PySem.W.Frag} {mg mb : Str → Option Value} {a : Addr} {s₁ : Shared} {items : Array Value} {H : Hp} (inK : K.In s₁.heap) (ng : s₁.heap.Ns mainGlobals mg) (nb : s₁.heap.Ns builtinsNs mb) (hbb : ∀ x : Str, x ≠ "__name__" → mb x = bootBuiltins x)
    (hlim : s₁.heap.NoLimit) (hg : s₁.gens = #[]) (at_a : s₁.heap.get? a = some { cls := .type "list", data := .seq items }) (ok : HOk P w H s₁.heap) (one : ∀ b, b ≠ a → H b = none) (own : H a ≠ none → K.lookup a = none) :
    Env0 P w K mg (hidT s₁.heap H) callerA [] s₁ H ∧ K.In (hidT s₁.heap H) ∧ (hidT s₁.heap H).Ns mainGlobals mg := by
  have names : ∀ {b : Addr} {m : Str → Option Value}, s₁.heap.Ns b m → (hidT s₁.heap H).Ns b m := by
    rintro b m ⟨o, es, ep, hb, hd, hr⟩
    have ne : b ≠ a := by
      rintro rfl
      have z := at_a.symm.trans hb
      injection z with z
      rw [← z] at hd
      cases hd
    exact ⟨o, es, ep, hidT_get hb (one b ne), hd, hr⟩
  have k2 : K.In (hidT s₁.heap H) := by
    intro b o hb
    refine hidT_get (inK b o hb) ?_
    by_cases e : b = a
    · by_cases q : H a = none
      · rw [e]; exact q
      · have z := own q
        rw [e, z] at hb
        cases hb
    · exact one b e
  obtain ⟨mc, l1, l2⟩ := hlim
  exact ⟨⟨rfl, ⟨k2, names ng, ⟨mb, names nb, hbb⟩, ⟨mc, names l1, l2⟩⟩, fun _ _ e => of_hidT e, Nat.le_of_eq (hidT_size _ _), trivial, (fun b z => nomatch (show b ∈ ([] : List Addr) from z)), ok, .of_eq hg⟩, k2, names ng⟩
theorem law_callG {P : Program} {w : World} {K : PySem.W.Frag} {mg mb : Str → Option Value} {k : Nat} {fa a : Addr} {fd : FuncData} {x : Str} {sp : Sp} {s₁ : Shared} {vs : List Value} {ns : List Int} (inK : K.In s₁.heap) (ng : s₁.heap.Ns mainGlobals mg) (nb : s₁.heap.Ns builtinsNs mb)
    (hbb : ∀ x : Str, x ≠ "__name__" → mb x = bootBuiltins x) (hlim : s₁.heap.NoLimit) (hg : s₁.gens = #[]) (at_a : s₁.heap.get? a = some { cls := .type "list", data := .seq vs.toArray }) (hints : PyProof.Rows.IntsAre vs ns) (small : ns.length ≤ sizeLine) (rm : Rm k callerA)
    (F : ∀ base : Heap, K.In base → base.Ns mainGlobals mg → FnG P w K mg base k fa fd [x] sp) (bnd : ∀ (s : Shared) (u : Value), BindsTo s fd ⟨[u], []⟩ [(x, u)])
    (hsp : ∀ H : Hp, Only H → SqL K H a (ns.map V.int) → sp [.ref a] H (fun v _ => v = .bl true) fun _ _ _ => False) :
    codeAny (model P w) callerA (.call (.ref fa) ⟨[.ref a], []⟩) (fun r s' => r = .ok (.ret (.bool true)) ∧ OldK s₁.heap s'.heap ∧ s'.os = s₁.os ∧ PyProof.Rows.AllBare s'.gens) s₁ := by
  have hv : Vals (ns.map V.int) vs := vals_ints hints
  have go : ∀ H : Hp, Only H → SqL K H a (ns.map V.int) → HOk P w H s₁.heap → (∀ b, b ≠ a → H b = none) → (H a ≠ none → K.lookup a = none) →
      codeAny (model P w) callerA (.call (.ref fa) ⟨[.ref a], []⟩) (fun r s' => r = .ok (.ret (.bool true)) ∧ OldK s₁.heap s'.heap ∧ s'.os = s₁.os ∧ PyProof.Rows.AllBare s'.gens) s₁ := by
    intro H only sq ok one own
    obtain ⟨e0, k2, n2⟩ := env_top inK ng nb hbb hlim hg at_a ok one own
    refine codeAny_mono ((F _ k2 n2).go rm e0 (args := ⟨[.ref a], []⟩) (us := [.ref a]) (vs := [.ref a]) (bnd s₁ (.ref a)) (.cons rfl .nil) (hsp H only sq)) fun r s' z => ?_
    match r, z with
    | .ok (.ret u), ⟨v, H2, os, bare, un, ok2, rel, ev⟩ =>
      have ev : v = .bl true := ev
      rw [ev] at rel
      have eu : u = Value.bool true := rel
      rw [eu]
      refine ⟨rfl, OldK.of_keep fun b o hb => ?_, os, bare⟩
      rcases only b with q | ⟨ob, xs, q⟩
      · exact un.keep b o hb q (fun z => nomatch (show b ∈ ([] : List Addr) from z)) (by simp)
      · have e1 := (ok b _ q).1
        have e2 := (ok2 b _ (un.frzs b ob _ q)).1
        rw [← e1.symm.trans hb]
        exact e2
    | .error e, z =>
      obtain ⟨_, _, _, _, _, _, _, _, _, _, _, _, no⟩ := z
      exact no.elim
    | .ok .next, z => exact z.elim
    | .ok .brk, z => exact z.elim
    | .ok .cont, z => exact z.elim
  have len : (ns.map V.int).length ≤ sizeLine := by rw [List.length_map]; exact small
  by_cases q : ∃ o, K.lookup a = some o
  · obtain ⟨o, q⟩ := q
    have e := at_a.symm.trans (inK a o q)
    injection e with e
    subst e
    exact go (fun _ => none) (fun _ => .inl rfl) (.inr ⟨_, vs.toArray, _, q, rfl, rfl, rfl, by rw [List.size_toArray, hints.length]; exact small, by simpa using hv⟩) (fun b u z => by cases (show (none : Option HO) = some u from z)) (fun _ _ => rfl) fun z => (z rfl).elim
  · have q : K.lookup a = none := by
      cases z : K.lookup a with
      | none => rfl
      | some o => exact (q ⟨o, z⟩).elim
    let o : Obj := { cls := .type "list", data := .seq vs.toArray }
    let H : Hp := fun b => if b = a then some (.frz o (.lst (ns.map V.int))) else none
    have ha : H a = some (.frz o (.lst (ns.map V.int))) := if_pos rfl
    have hn : ∀ b, b ≠ a → H b = none := fun b e => if_neg e
    refine go H (fun b => ?_) (.inl (.inr ⟨o, ha⟩)) (fun b u z => ?_) hn fun _ => q
    · by_cases e : b = a
      · rw [e]; exact .inr ⟨o, _, ha⟩
      · exact .inl (hn b e)
    · by_cases e : b = a
      · rw [e] at z ⊢
        have z := ha.symm.trans z
        injection z with z
        rw [← z]
        exact ⟨at_a, len, vs, _, hv, at_a⟩
      · rw [hn b e] at z
        cases z
theorem walkX {l : PySem.W.OpenLaw} {n k : Nat} {q : Program} {loose : List Str} {XP : (Str → Option Value) → Heap → Prop} {YP : World → Heap → Prop} {d : DefRec} {K : PySem.Params → PySem.W.Frag} {sp : World → Sp} {x : Str}
    (hn : l.most = some n) (hn2 : n ≤ sizeLine) (hdf : d.params.defaults = []) (hr : Rm k callerA)
    (hY : ∀ (w : World) (h : Heap), YP w h → (K w.params).In h)
    (F : ∀ (w : World) (mg : Str → Option Value) (fa : Addr) (h : Heap), XP mg h → (K w.params).In h → h.Ns mainGlobals mg → mg d.name = some (.ref fa) →
      ∃ fd : FuncData, (∀ (s : Shared) (u : Value), BindsTo s fd ⟨[u], []⟩ [(x, u)]) ∧ ∀ base : Heap, (K w.params).In base → base.Ns mainGlobals mg → FnG l.prog w (K w.params) mg base k fa fd [x] (sp w))
    (hsp : ∀ (w : World) (H : Hp) (a : Addr) (ns : List Int), ns.length ≤ n → (∀ z ∈ ns, Builtin.Int.intBits z ≤ 1048576) → Only H → SqL (K w.params) H a (ns.map V.int) → sp w [.ref a] H (fun v _ => v = .bl true) fun _ _ _ => False) :
    PySem.W.WalkO q loose XP YP l.row.toRowW d [] (fun f vs => PySem.call f vs) := by
  refine Att.attach_callB hn hdf fun w s₀ s₁ mg mb fa o pm cd doc a vs ns GG Y ho hd hcd hmg hobj hints hlen hbits hg => ?_
  obtain ⟨fd, hb, hF⟩ := F w mg fa _ GG.X (hY w _ Y) GG.T.g hmg
  exact law_callG (hY w _ Y) GG.T.g GG.T.b GG.T.builtins GG.T.nolimit hg hobj hints (Nat.le_trans hlen hn2) hr hF hb (fun H hO hS => hsp w H a ns hlen hbits hO hS)
/-- a law: of a script of at most 63 numbers of at most 2 ^ 20 bits it gives True -/
def spTrue : SpD := fun ds _ Q _ => ∃ ns : List Int, ds = [.scr ns] ∧ ns.length ≤ 63 ∧ (∀ z ∈ ns, Builtin.Int.intBits z ≤ 1048576) ∧ ∀ W, Q (.bl true) W
theorem toSp_true {K : PySem.W.Frag} {H : Hp} {a : Addr} {ns : List Int} (h1 : ns.length ≤ 63) (h2 : ∀ z ∈ ns, Builtin.Int.intBits z ≤ 1048576) (hS : SqL K H a (ns.map V.int)) : toSp K 1 spTrue [.ref a] H (fun v _ => v = .bl true) fun _ _ _ => False := by
  have cb : Cb K (fun _ => False) (fun _ => False) H (fun _ => none) := ⟨fun _ h => h.elim, fun _ h => h, fun _ _ h => by cases h⟩
  refine ⟨_, _, _, [.scr ns], fun d _ => d = .bl true, fun _ _ _ => False, cb, Reps.cons (Rep.scr_iff.mpr ⟨a, rfl, ?_⟩) Reps.nil, rfl, ⟨ns, rfl, h1, h2, fun _ => rfl⟩, fun S' H' W' d v _ _ r e => ?_, fun _ _ _ _ _ _ _ _ _ h => h⟩
  · rcases hS with h | h
    · exact .inl ⟨h, fun z => z⟩
    · exact .inr (.inr h)
  · subst e
    exact Rep.v_iff.mp r
theorem cx_none {P : Program} {w : World} {H : Hp} {s s' : Shared} {e : Value} (h : L2.CX P w [] H s (fun _ _ _ => False) e s') : False := by
  obtain ⟨_, _, _, _, _, _, _, _, _, _, _, _, h⟩ := h
  exact h
/-- what a top reckoned -/
theorem loose_int {lv : List (Str × PySem.W.WData)} {p : Program} {mg : Str → Option Value} {h : Heap} {x : Str} {n : Int} (X : PySem.W.XL p lv mg h) (m : (x, PySem.W.WData.int n) ∈ lv) : ∃ u, mg x = some u ∧ RelV (.int n) u := by
  obtain ⟨v, h1, h2⟩ := X.2.val _ m
  refine ⟨v, h1, ?_⟩
  cases h2
  exact ⟨_, rfl⟩
end G

namespace G
open PySem PySem.Spec L2
section
variable {K : PySem.W.Frag}
/-! ### operators of several kinds at once -/
def dSub : D → D → (D → Prop) → Prop := d2J fun i j => .int (i - j)
def dFdv : D → D → (D → Prop) → Prop := d2I CDivW fun i j => .int (i / j)
def dMod : D → D → (D → Prop) → Prop := d2I (fun _ j => 0 < j) fun i j => .int (i % j)
def dPow : D → D → (D → Prop) → Prop := d2I CPow fun i j => .int (i ^ j.toNat)
def dMulA : D → D → (D → Prop) → Prop := fun d e Q => match d, e with
  | .v (.int i), .v (.int j) => CMulX i j ∧ Q (.int (i * j))
  | .lst i, .v (.int j) => -(2 ^ 63) ≤ j ∧ j < 2 ^ 63 ∧ i.length * j.toNat ≤ sizeLine ∧ Q (.lst (List.replicate j.toNat i).flatten)
  | .v (.str s), .v (.int n) => -(2 ^ 63) ≤ n ∧ n < 2 ^ 63 ∧ s.length * n.toNat ≤ sizeLine ∧ Q (.str (repS s n))
  | _, _ => False
def rMulA : R2 := fun x y H Q => (rI CMulX (fun i j => .int (i * j)) x y H Q ∨ rRep x y H Q) ∨ rRepS x y H Q
theorem rs_mulA : RSnd K rMulA dMulA := rs_imp (rs_or rs_mul rs_repS) fun d e Q h => by
  unfold dMulA at h
  split at h
  · exact .inl h
  · exact .inl h
  · exact .inr h
  · exact h.elim
theorem op_mulAll {X : Cx} : OpR X (binaryOp .Mult) rMulA := op_mulA.or op_repS
/-- the order of texts -/
def ltS (a b : Str) : Bool := decide (a.cps.toList < b.cps.toList)
def leS (a b : Str) : Bool := decide (a.cps.toList ≤ b.cps.toList)
def dCmp (g : Int → Int → Bool) (h : Str → Str → Bool) : D → D → (D → Prop) → Prop := fun d e Q => match d, e with
  | .v (.int i), .v (.int j) => Q (.bl (g i j))
  | .v (.str i), .v (.str j) => Q (.bl (h i j))
  | _, _ => False
def rCmp (g : Int → Int → Bool) (h : Str → Str → Bool) : R2 := fun x y H Q => rI0 (fun i j => .bl (g i j)) x y H Q ∨ (fun x y H Q => ∃ i j, x = .str i ∧ y = .str j ∧ Q (.bl (h i j)) H) x y H Q
theorem rs_cmp {g : Int → Int → Bool} {h : Str → Str → Bool} : RSnd K (rCmp g h) (dCmp g h) :=
  rs_imp (rs_or (rs_J (g := fun i j => .bl (g i j))) (rs_S (g := fun i j => .bl (h i j)))) fun d e Q q => by
    unfold dCmp at q
    split at q
    · exact .inl q
    · exact .inr q
    · exact q.elim
abbrev dLt := dCmp (fun i j => decide (i < j)) ltS
abbrev dLe := dCmp (fun i j => decide (i ≤ j)) (fun a b => !ltS b a)
abbrev dGt := dCmp (fun i j => decide (j < i)) (fun a b => ltS b a)
abbrev dGe := dCmp (fun i j => decide (j ≤ i)) (fun a b => !ltS a b)
end
section
variable {X : Cx}
theorem op_ltA : OpR X (compareOp .Lt) (rCmp (fun i j => decide (i < j)) ltS) := OpR.or op_lt op_lt_str
theorem op_leA : OpR X (compareOp .LtE) (rCmp (fun i j => decide (i ≤ j)) (fun a b => !ltS b a)) := OpR.or op_le op_le_str
theorem op_gtA : OpR X (compareOp .Gt) (rCmp (fun i j => decide (j < i)) (fun a b => ltS b a)) := OpR.or op_gt op_gt_str
theorem op_geA : OpR X (compareOp .GtE) (rCmp (fun i j => decide (j ≤ i)) (fun a b => !ltS a b)) := OpR.or op_ge op_ge_str
end
end G

namespace G
open PySem PySem.Spec L2
/-! ### readings in short -/
abbrev noX : KX := fun _ _ _ _ => False
/-- a def's reading keeps the promise -/
abbrev Rd (N : List Str) (m : Nat) (sp : SpD) (d : TSD) : Prop := ∀ ds W Qd Qx, ds.length = m → sp ds W Qd Qx → d { nx := fun _ W' => Qd .non W', rt := Qd, ex := fun cls x _ W' => Qx cls x W' } (ds.map (fun d => some (Sl.sh d)) ++ List.replicate (N.length - ds.length) none) W
/-- a comprehension by what holds of the list so far -/
theorem dLc_inv {fi : TID} {gd : TGD} {ft : TB} {fe : TD} {vs : List Nat} {ρ : Env} {W : Wd} {Q : KL} {Qx : KX} (ds : List D) (W0 : Wd) (I : Nat → List D → Wd → Prop) (hno : noOwn ρ vs) (hl : ds.length ≤ sizeLine) (hi : ∀ P : KL, P ds ρ W0 → fi ρ W P Qx) (h0 : I 0 [] W0)
    (hs : ∀ (i : Nat) d acc W, ds[i]? = some d → acc.length ≤ i → I i acc W → gd d (wipeD ρ vs) W fun ρ1 W1 => ft ρ1 W1 (fun b ρ2 W2 => ρ2 = ρ1 ∧ if b = true then fe ρ1 W2 (fun y ρ3 W3 => ρ3 = ρ1 ∧ I (i + 1) (acc ++ [y]) W3) noX else I (i + 1) acc W2) noX)
    (hd : ∀ acc W, acc.length ≤ ds.length → I ds.length acc W → Q acc ρ W) : dLc fi gd ft fe vs ρ W Q Qx := by
  unfold dLc
  exact ⟨hno, hi _ ⟨rfl, hl, I, h0, hs, hd⟩⟩
/-- every item gives one, the state is as it was -/
theorem dLc_map {fi : TID} {fe : TD} {i : Nat} {ρ : Env} {W : Wd} {Q : KL} {Qx : KX} (ds : List D) (g : D → D) (hno : noOwn ρ [i]) (hl : ds.length ≤ sizeLine) (hi : ∀ P : KL, P ds ρ W → fi ρ W P Qx)
    (he : ∀ d ∈ ds, ∀ P : KD, P (g d) ((ρ.set i none).set i (some (.sh d))) W → fe ((ρ.set i none).set i (some (.sh d))) W P noX) (hq : Q (ds.map g) ρ W) : dLc fi (gdName i) dYes fe [i] ρ W Q Qx := by
  refine dLc_inv ds W (fun j acc W' => W' = W ∧ acc = (ds.take j).map g) hno hl hi ⟨rfl, by simp⟩ (fun j d acc W' hj _ hI => ?_) (fun acc W' _ hI => ?_)
  · obtain ⟨rfl, rfl⟩ := hI
    refine ⟨rfl, ?_⟩
    show fe _ W' _ noX
    refine he d (List.mem_of_getElem? hj) _ ⟨rfl, rfl, ?_⟩
    have hlt := (List.getElem?_eq_some_iff.mp hj).1
    rw [List.take_add_one, hj]
    simp
  · obtain ⟨rfl, rfl⟩ := hI
    rw [List.take_length]
    exact hq
/-- .. with a test -/
theorem dLc_filter {fi : TID} {ft : TB} {fe : TD} {i : Nat} {ρ : Env} {W : Wd} {Q : KL} {Qx : KX} (ds : List D) (p : D → Bool) (g : D → D) (hno : noOwn ρ [i]) (hl : ds.length ≤ sizeLine) (hi : ∀ P : KL, P ds ρ W → fi ρ W P Qx)
    (ht : ∀ d ∈ ds, ∀ P : KB, P (p d) ((ρ.set i none).set i (some (.sh d))) W → ft ((ρ.set i none).set i (some (.sh d))) W P noX)
    (he : ∀ d ∈ ds, p d = true → ∀ P : KD, P (g d) ((ρ.set i none).set i (some (.sh d))) W → fe ((ρ.set i none).set i (some (.sh d))) W P noX) (hq : Q ((ds.filter p).map g) ρ W) : dLc fi (gdName i) ft fe [i] ρ W Q Qx := by
  refine dLc_inv ds W (fun j acc W' => W' = W ∧ acc = ((ds.take j).filter p).map g) hno hl hi ⟨rfl, by simp⟩ (fun j d acc W' hj _ hI => ?_) (fun acc W' _ hI => ?_)
  · obtain ⟨rfl, rfl⟩ := hI
    have hm := List.mem_of_getElem? hj
    refine ht d hm _ ⟨rfl, ?_⟩
    cases hp : p d with
    | true =>
      rw [if_pos rfl]
      refine he d hm hp _ ⟨rfl, rfl, ?_⟩
      rw [List.take_add_one, hj]
      simp [hp]
    | false =>
      rw [if_neg Bool.false_ne_true]
      refine ⟨rfl, ?_⟩
      rw [List.take_add_one, hj]
      simp [hp]
  · obtain ⟨rfl, rfl⟩ := hI
    rw [List.take_length]
    exact hq
/-- each turn keeps the state's word S and gives an item of which A holds -/
theorem dLc_each {fi : TID} {fe : TD} {i : Nat} {ρ : Env} {W : Wd} {Q : KL} {Qx : KX} (ds : List D) (S : Nat → Wd → Prop) (A : D → Prop) (hno : noOwn ρ [i]) (hl : ds.length ≤ sizeLine) (W0 : Wd) (hi : ∀ P : KL, P ds ρ W0 → fi ρ W P Qx) (h0 : S 0 W0)
    (he : ∀ (j : Nat) d W, ds[j]? = some d → S j W → ∀ P : KD, (∀ y W', A y → S (j + 1) W' → P y ((ρ.set i none).set i (some (.sh d))) W') → fe ((ρ.set i none).set i (some (.sh d))) W P noX)
    (hq : ∀ ys W', ys.length = ds.length → (∀ y ∈ ys, A y) → S ds.length W' → Q ys ρ W') : dLc fi (gdName i) dYes fe [i] ρ W Q Qx := by
  refine dLc_inv ds W0 (fun j acc W' => S j W' ∧ acc.length = j ∧ ∀ y ∈ acc, A y) hno hl hi ⟨h0, rfl, by simp⟩ (fun j d acc W' hj _ hI => ?_) (fun acc W' _ hI => hq acc W' hI.2.1 hI.2.2 hI.1)
  refine ⟨rfl, ?_⟩
  show fe _ W' _ noX
  refine he j d W' hj hI.1 _ fun y W2 ha hs => ⟨rfl, hs, by simp [hI.2.1], fun z hz => ?_⟩
  rcases List.mem_append.mp hz with hz | hz
  · exact hI.2.2 z hz
  · rw [List.mem_singleton.mp hz]; exact ha
theorem iScr_of {fe : TD} {ρ : Env} {W : Wd} {P : KL} {Qx : KX} {ns : List Int} (h : fe ρ W (fun d ρ' W' => match d with | .scr ns => P (ns.map D.int) ρ' W' | _ => False) Qx) : iScr fe ρ W P Qx := h
/-- == of the same data -/
theorem eqD_self {d : D} {n : Nat} (g : D.good n d = true) : eqD d d = true := by
  unfold eqD
  exact SeqAt.eqv_refl _ (lay_of g).1
/-! ### texts as lists of signs -/
def mkS (l : List Nat) : Str := ⟨l.toArray⟩
theorem tl_mkS (l : List Nat) : TL.tl (mkS l) = l := rfl
theorem mkS_tl (s : Str) : mkS (TL.tl s) = s := TL.mk_tl s
theorem len_mkS (l : List Nat) : (mkS l).length = l.length := by simp [mkS, Str.length]
theorem str_eq {s : Str} {l : List Nat} (h : TL.tl s = l) : s = mkS l := by rw [← h, mkS_tl]
theorem mkS_inj {l m : List Nat} : mkS l = mkS m ↔ l = m := ⟨fun h => by have := congrArg TL.tl h; exact this, fun h => by rw [h]⟩
theorem one_mkS (c : Nat) : (⟨#[c]⟩ : Str) = mkS [c] := rfl
theorem app_mkS (a b : List Nat) : mkS a ++ mkS b = mkS (a ++ b) := str_eq (by rw [TL.tl_append]; rfl)
theorem take_drop_min (l : List Nat) (a b : Nat) : (l.drop (min a l.length)).take (min b l.length - min a l.length) = (l.drop a).take (b - a) := by
  by_cases ha : a ≤ l.length
  · rw [Nat.min_eq_left ha]
    by_cases hb : b ≤ l.length
    · rw [Nat.min_eq_left hb]
    · rw [Nat.min_eq_right (by omega)]
      rw [List.take_of_length_le (by rw [List.length_drop]; omega), List.take_of_length_le (by rw [List.length_drop]; omega)]
  · rw [Nat.min_eq_right (by omega : l.length ≤ a), List.drop_length, List.drop_of_length_le (by omega : l.length ≤ a)]
    simp
theorem len_tl' (s : Str) : s.length = (TL.tl s).length := TL.len_tl s
theorem cut_ab (s : Str) (a b : Nat) : cutS s (some (a : Int)) (some (b : Int)) = mkS (((TL.tl s).drop a).take (b - a)) := by
  unfold cutS
  rw [HT.sIx_nat, HT.sIx_nat, len_tl', take_drop_min]
  rfl
theorem cut_a (s : Str) (a : Nat) : cutS s (some (a : Int)) none = mkS ((TL.tl s).drop a) := by
  unfold cutS
  rw [HT.sIx_nat, HT.sIx_none, len_tl']
  have := take_drop_min (TL.tl s) a (TL.tl s).length
  rw [Nat.min_self] at this
  rw [show s.cps.toList = TL.tl s from rfl, this]
  by_cases ha : a ≤ (TL.tl s).length
  · rw [List.take_of_length_le (by rw [List.length_drop]; omega)]; rfl
  · rw [List.drop_of_length_le (by omega)]; simp [mkS]
theorem cut_b (s : Str) (b : Nat) : cutS s none (some (b : Int)) = mkS ((TL.tl s).take b) := by
  unfold cutS
  rw [HT.sIx_nat, HT.sIx_none, len_tl']
  have := take_drop_min (TL.tl s) 0 b
  rw [Nat.zero_min] at this
  rw [show s.cps.toList = TL.tl s from rfl, this]
  simp [mkS]
theorem rep_mkS (s : Str) (n : Nat) : repS s (n : Int) = mkS (List.replicate n (TL.tl s)).flatten := by
  unfold repS
  rw [Int.toNat_natCast]; rfl
theorem ltS_mk (a b : List Nat) : ltS (mkS a) (mkS b) = decide (a < b) := rfl
theorem ltS_one (c d : Nat) : ltS (mkS [c]) (mkS [d]) = decide (c < d) := by
  rw [ltS_mk]
  by_cases h : c < d
  · rw [decide_eq_true h, decide_eq_true]
    exact List.Lex.rel h
  · rw [decide_eq_false h, decide_eq_false]
    intro q
    rw [List.cons_lt_cons_iff] at q
    rcases q with q | ⟨_, q⟩
    · exact h q
    · exact absurd q (List.not_lt_nil _)
theorem signs_mk (s : Str) : signs s = (TL.tl s).map fun c => D.str (mkS [c]) := rfl
theorem atI_of {α : Type} {l : List α} {i : Nat} {x : α} (h : l[i]? = some x) : atI l (i : Int) = some x := atI_nat h
theorem sz (n : Nat) (h : n ≤ 16777216) : n ≤ sizeLine := Nat.le_trans h (by decide)
theorem noOwn1 {ρ : Env} {i : Nat} (h : ∀ o, ρ[i]? ≠ some (some (.om o))) : noOwn ρ [i] := fun j hj ds => by
  rw [List.mem_singleton.mp hj]; exact h ds
theorem all_map_true {α : Type} (l : List α) : ∃ bs, blsOf (l.map fun _ => D.bl true) = some bs ∧ bs.all id = true := by
  induction l with
  | nil => exact ⟨[], rfl, rfl⟩
  | cons a r ih =>
    obtain ⟨bs, h1, h2⟩ := ih
    exact ⟨true :: bs, by simp [blsOf, h1], by simpa using h2⟩
theorem bls_map {α : Type} (l : List α) (p : α → Bool) : blsOf (l.map fun x => D.bl (p x)) = some (l.map p) := by
  induction l with
  | nil => rfl
  | cons a r ih => simp [blsOf, ih]
end G
namespace G
open PySem PySem.Spec L2
theorem dFor_mk {fi : TID} {gd : TGD} {fb : TSD} {De : EndsD} {ρ : Env} {W : Wd} (h : fi ρ W (fun ds ρ0 W0 => ∃ I : Nat → Env → Wd → Prop, I 0 ρ0 W0 ∧
  (∀ (i : Nat) d ρ W, ds[i]? = some d → I i ρ W → gd d ρ W fun ρ' W' => fb { De with nx := I (i + 1), ct := I (i + 1), bk := De.nx } ρ' W') ∧ ∀ ρ W, I ds.length ρ W → De.nx ρ W) De.ex) : dFor fi gd fb De ρ W := by unfold dFor; exact h
theorem dFor_of {fi : TID} {gd : TGD} {fb : TSD} {De : EndsD} {ρ : Env} {W : Wd} (ds : List D) (I : Nat → Env → Wd → Prop) (hi : ∀ P : KL, P ds ρ W → fi ρ W P De.ex) (h0 : I 0 ρ W)
    (hs : ∀ (i : Nat) d ρ W, ds[i]? = some d → I i ρ W → gd d ρ W fun ρ' W' => fb { De with nx := I (i + 1), ct := I (i + 1), bk := De.nx } ρ' W') (hd : ∀ ρ W, I ds.length ρ W → De.nx ρ W) : dFor fi gd fb De ρ W :=
  dFor_mk (hi _ ⟨I, h0, hs, hd⟩)
theorem dWhile_of {fc : TB} {fb : TSD} {De : EndsD} {ρ : Env} {W : Wd} (I : Nat → Env → Wd → Prop) (m : Nat) (h0 : I m ρ W) (hs : ∀ m ρ W, I m ρ W → fc ρ W (fun b ρ' W' => if b = true then
  fb { De with nx := fun ρ2 W2 => ∃ m', m' < m ∧ I m' ρ2 W2, ct := fun ρ2 W2 => ∃ m', m' < m ∧ I m' ρ2 W2, bk := De.nx } ρ' W' else De.nx ρ' W') De.ex) : dWhile fc fb De ρ W := by unfold dWhile; exact ⟨I, ⟨m, h0⟩, hs⟩

theorem dEq_str {a b : Str} {Q : D → Prop} (h : Q (.bl (decide (a = b)))) : dEq (.str a) (.str b) Q := by
  have : decide (V.str a = V.str b) = decide (a = b) := by
    rw [Bool.eq_iff_iff, decide_eq_true_eq, decide_eq_true_eq]
    exact ⟨fun h => by injection h, fun h => by rw [h]⟩
  unfold dEq
  show (if scal _ _ = true then _ else _)
  rw [if_pos (rfl : scal _ _ = true), this]
  exact h
theorem dEq_int {a b : Int} {Q : D → Prop} (h : Q (.bl (decide (a = b)))) : dEq (.int a) (.int b) Q := by
  have : decide (V.int a = V.int b) = decide (a = b) := by
    rw [Bool.eq_iff_iff, decide_eq_true_eq, decide_eq_true_eq]
    exact ⟨fun h => by injection h, fun h => by rw [h]⟩
  unfold dEq
  show (if scal _ _ = true then _ else _)
  rw [if_pos (rfl : scal _ _ = true), this]
  exact h
/-- the same good data -/
theorem dEq_self {d : D} {Q : D → Prop} (g : D.good 64 d = true) (h : Q (.bl true)) : dEq d d Q := by
  have key : dEqN d d Q := ⟨g, g, by rw [eqD_self g]; exact h⟩
  cases d with
  | v x =>
    unfold dEq
    show (if scal x x = true then Q (.bl (decide (x = x))) else dEqN (.v x) (.v x) Q)
    split
    · rw [decide_eq_true rfl]; exact h
    · exact key
  | tup ds => unfold dEq; exact key
  | lst ds => unfold dEq; exact key
  | scr ds => unfold dEq; exact key
  | dct ks ds => unfold dEq; exact key
  | exc c ks ds => unfold dEq; exact key
  | tpf ds => unfold dEq; exact key
theorem dNe_self {d : D} {Q : D → Prop} (g : D.good 64 d = true) (h : Q (.bl false)) : dNe d d Q := by
  have key : dNeN d d Q := ⟨g, g, by rw [eqD_self g]; exact h⟩
  cases d with
  | v x =>
    unfold dNe
    show (if scal x x = true then Q (.bl (!decide (x = x))) else dNeN (.v x) (.v x) Q)
    split
    · rw [decide_eq_true rfl]; exact h
    · exact key
  | tup ds => unfold dNe; exact key
  | lst ds => unfold dNe; exact key
  | scr ds => unfold dNe; exact key
  | dct ks ds => unfold dNe; exact key
  | exc c ks ds => unfold dNe; exact key
  | tpf ds => unfold dNe; exact key
/-- .. the items known by B alone -/
theorem dLc_eachB {fi : TID} {fe : TD} {i : Nat} {ρ : Env} {W : Wd} {Q : KL} {Qx : KX} (B : List D → Wd → Prop) (S : Nat → Wd → Prop) (A : D → Prop) (hno : noOwn ρ [i]) (hi : ∀ P : KL, (∀ ds W0, B ds W0 → P ds ρ W0) → fi ρ W P Qx)
    (h0 : ∀ ds W0, B ds W0 → ds.length ≤ sizeLine ∧ S 0 W0)
    (he : ∀ ds W0, B ds W0 → ∀ (j : Nat) d W, ds[j]? = some d → S j W → ∀ P : KD, (∀ y W', A y → S (j + 1) W' → P y ((ρ.set i none).set i (some (.sh d))) W') → fe ((ρ.set i none).set i (some (.sh d))) W P noX)
    (hq : ∀ ds W0, B ds W0 → ∀ ys W', ys.length = ds.length → (∀ y ∈ ys, A y) → S ds.length W' → Q ys ρ W') : dLc fi (gdName i) dYes fe [i] ρ W Q Qx := by
  unfold dLc
  refine ⟨hno, hi _ fun ds W0 b => ⟨rfl, (h0 ds W0 b).1, fun j acc W' => S j W' ∧ acc.length = j ∧ ∀ y ∈ acc, A y, ⟨(h0 ds W0 b).2, rfl, by simp⟩, fun j d acc W' hj _ hI => ?_, fun acc W' _ hI => hq ds W0 b acc W' hI.2.1 hI.2.2 hI.1⟩⟩
  refine ⟨rfl, ?_⟩
  show fe _ W' _ noX
  refine he ds W0 b j d W' hj hI.1 _ fun y W2 ha hs => ⟨rfl, hs, by simp [hI.2.1], fun z hz => ?_⟩
  rcases List.mem_append.mp hz with hz | hz
  · exact hI.2.2 z hz
  · rw [List.mem_singleton.mp hz]; exact ha
theorem rng_len (lo : Int) (n : Nat) : (rng lo n).length = n := by unfold rng; rw [List.length_map, List.length_range]
/-- no promise at all -/
def spNo : SpD := fun _ _ _ _ => False
theorem cal_no {P : Program} {w : World} {K : PySem.W.Frag} {mg : Str → Option Value} {base : Heap} {k : Nat} {x : Str} {st : Stmt} {ps : List Str} (T : DefAt K mg x st ps) : Cal P w K mg base k x st ps spNo := by
  obtain ⟨f, fd, a, b, c⟩ := T
  have no : ∀ vs H Q E, toSp K ps.length spNo vs H Q E → False := fun vs H Q E h => by
    obtain ⟨_, _, _, _, _, _, _, _, _, h, _⟩ := h
    exact h
  exact ⟨f, fd, a, b, c, ⟨fun h => (no _ _ _ _ h).elim, fun _ _ _ _ h => (no _ _ _ _ h).elim⟩⟩
/-- the law's own def for the end -/
theorem law_fn {P : Program} {w : World} {K : PySem.W.Frag} {mg : Str → Option Value} {k : Nat} {x y : Str} {st : Stmt} {sp : SpD} {fa : Addr} (T : DefAt K mg x st [y])
    (hb : ∀ (kV doc pm : Value) (an : Option Addr) (cdv ct u : Value), bindArgs (PySem.W.fnOf x x (defArgs st) (defBody st) (defScope st) .none kV doc pm an cdv ct) ⟨[u], []⟩ = pure [(y, u)])
    (C : ∀ base : Heap, Cal P w K mg base k x st [y] sp) (hm : mg x = some (.ref fa)) :
    ∃ fd : FuncData, (∀ (s : Shared) (u : Value), BindsTo s fd ⟨[u], []⟩ [(y, u)]) ∧ ∀ base : Heap, FnG P w K mg base k fa fd [y] (toSp K 1 sp) := by
  obtain ⟨f, fd, a, F, c⟩ := T.ex
  have e := hm.symm.trans a
  cases e
  obtain ⟨oc, od, kV, doc, pm, an, cdv, ct, osl, e1, lk, hcd⟩ := F.ex
  refine ⟨fd, fun s u => .of_eq (by rw [e1]; exact hb kV doc pm an cdv ct u), fun base => ?_⟩
  obtain ⟨f2, fd2, a2, F2, c2, d2⟩ := (C base).ex
  have e2 := a.symm.trans a2
  cases e2
  obtain ⟨oc2, od2, kV2, doc2, pm2, an2, cdv2, ct2, osl2, e3, lk2, hcd2⟩ := F2.ex
  have e4 := lk.symm.trans lk2
  injection e4 with e4
  injection e4 with _ _ e4 _
  injection e4 with e4
  rw [e4]
  exact d2
end G

namespace G
open PySem PySem.Spec L2
section
variable {K : PySem.W.Frag} {F S : Reg} {H : Hp} {σ : St} {ρ : Env} {W : Wd}
/-- x += e -/
def dIadd : D → D → (D → Prop) → Prop := d2J fun i j => .int (i + j)
def dIsub : D → D → (D → Prop) → Prop := d2J fun i j => .int (i - j)
theorem rs_ip {g : Int → Int → Int} : RSnd K (ipI g) (d2J fun i j => .int (g i j)) := fun F S H W d e x y P R cb rd re hp k => by
  unfold d2J at hp
  split at hp
  · rw [Rep.v_iff] at rd re
    subst rd
    subst re
    exact ⟨_, _, rfl, rfl, k _ _ H (Same.refl H) (Rep.v_iff.mpr rfl) hp⟩
  · exact hp.elim
/-- the strange list comes back: it was nobody's, now it is a new one -/
theorem Cf.alienBack {S1 S2 : Reg} {H1 H2 : Hp} {p : Addr} {xs : List V} {acc : List D} (c1 : Cf K F S1 H1 σ ρ W) (hp : H1 p = none) {σ2 : St} {ρ2 : Env} {W2 : Wd} (e2 : Stp F S1 H1 S2 H2) (c2 : Cf K (Add F p) S2 H2 σ2 ρ2 W2) (r2 : Reps K S2 H2 acc xs) (hp2 : H2 p = some (.lst xs)) :
    Stp F S1 H1 (Rem S2 p) (del H2 p) ∧ Cf K F (Rem S2 p) (del H2 p) σ2 ρ2 W2 ∧ Reps K (Rem S2 p) (del H2 p) acc xs ∧ (del H2 p) p = none ∧ upd (del H2 p) p (.lst xs) = H2 := by
  have nF : ¬ F p := fun z => c1.cb.sd p (c1.cb.fs p z) hp
  have sp : S2 p := c2.cb.fs p (.inr rfl)
  refine ⟨⟨fun a o h1 h2 => ?_, fun a h1 h2 => e2.new a h1.1 h2, fun a h => ?_, fun a h => ?_⟩, c2.unalien nF, r2.del sp, del_same, upd_del hp2⟩
  · have : a ≠ p := fun z => by rw [z, hp] at h2; cases h2
    rw [del_ne this]; exact e2.keep a o h1 h2
  · by_cases ha : a = p
    · rw [ha]; exact hp
    · rw [del_ne ha] at h; exact e2.dom a h
  · rw [del_ne (fun (z : a = p) => nF (z ▸ h))]; exact e2.frn a h
end
section
variable {X : Cx} {Wx : WX} {st : Stmt} {rest : List Stmt} {f g : TSD} {e o a b c i : Expr} {es : List Expr} {fe fo fa fb fc fi : TD} {fl : TL} {pos : Pos}
theorem op_iadd : PIp X .Add (ipI fun i j => i + j) := ip_add
/-- x, y = [..], e: the list the frame's own -/
def dParO1 (i j : Nat) (fl : TL) (fe : TD) : TSD := fun De ρ W => fl ρ W (fun ds ρ1 W1 => fe ρ1 W1 (fun d ρ2 W2 => De.nx ((ρ2.set i (some (.ol ds))).set j (some (.sh d))) W2) noX) De.ex
theorem gs_parO1 {i j : Nat} {x y : Str} {px py pt : Pos} {kt k2 pt2} (hc : X.calm = true) (hN : X.N.Nodup) (hi : X.N[i]? = some x) (hj : X.N[j]? = some y) (hij : i ≠ j)
    (hx : X.env.scope.names.lookup x = some .local) (hy : X.env.scope.names.lookup y = some .local) (ha : GN X Wx a fl) (hb : GE X Wx b fe)
    (hw : swappedStores [.Tuple [.Name x px, .Name y py] kt pt] (.Tuple [a, b] k2 pt2) X.env = pure (some [x, y])) (he : starEach [a, b] X.env = (false, eval a X.env) :: starEach [b] X.env := by rfl) (he2 : starEach [b] X.env = (false, eval b X.env) :: starEach [] X.env := by rfl)
    (hs : swapsWithSole [.Tuple [.Name x px, .Name y py] kt pt] (.Tuple [a, b] k2 pt2) pos.line X.env = pure false := by rfl) :
    GS X Wx (.Assign [.Tuple [.Name x px, .Name y py] kt pt] (.Tuple [a, b] k2 pt2) pos) (dParO1 i j fl fe) := by
  obtain ⟨ta, pa, sa⟩ := ha
  obtain ⟨tb, pb, sb⟩ := hb
  refine ⟨_, ps_par hc hN hi hj hij hx hy (pa_cons pa (pa_cons pb pa_nil he2) he) hw hs, fun F S H σ ρ W De Dh cf hf l => ?_⟩
  refine sa F S H σ ρ W _ De.ex _ cf hf l.ex fun S1 H1 ρ1 W1 ds xs p e1 c1 r1 hp q1 => ?_
  obtain ⟨ea, ca⟩ := c1.alien (o := .lst xs) hp
  refine sb (Add F p) (Add S1 p) (upd H1 p (.lst xs)) σ ρ1 W1 _ noX _ ca q1 lkx_none fun S2 H2 ρ2 W2 d v e2 c2 r2 q2 => ?_
  refine ⟨_, _, rfl, ?_⟩
  have hp2 : H2 p = some (.lst xs) := (e2.frn p (.inr rfl)).trans upd_same
  have e2' := e2.mono (F' := F) fun _ h => .inl h
  have rr := (r1.up ea).up e2'
  obtain ⟨b1, b2, b3, b4, b5⟩ := c1.alienBack hp (ea.trans e2') c2 rr hp2
  have sp : S2 p := c2.cb.fs p (.inr rfl)
  have r2' := r2.del sp
  obtain ⟨st, c4⟩ := b2.newOl i b4 b3
  rw [b5] at st c4
  exact l.nx _ _ _ _ W2 ((e1.trans b1).trans st) (c4.setSh j (r2'.up st)) q2
/-- x, y = e, [..]: the list the frame's own -/
def dParO2 (i j : Nat) (fe : TD) (fl : TL) : TSD := fun De ρ W => fe ρ W (fun d ρ1 W1 => fl ρ1 W1 (fun ds ρ2 W2 => De.nx ((ρ2.set i (some (.sh d))).set j (some (.ol ds))) W2) De.ex) De.ex
theorem gs_parO2 {i j : Nat} {x y : Str} {px py pt : Pos} {kt k2 pt2} (hc : X.calm = true) (hN : X.N.Nodup) (hi : X.N[i]? = some x) (hj : X.N[j]? = some y) (hij : i ≠ j)
    (hx : X.env.scope.names.lookup x = some .local) (hy : X.env.scope.names.lookup y = some .local) (ha : GE X Wx a fe) (hb : GN X Wx b fl)
    (hw : swappedStores [.Tuple [.Name x px, .Name y py] kt pt] (.Tuple [a, b] k2 pt2) X.env = pure (some [x, y])) (he : starEach [a, b] X.env = (false, eval a X.env) :: starEach [b] X.env := by rfl) (he2 : starEach [b] X.env = (false, eval b X.env) :: starEach [] X.env := by rfl)
    (hs : swapsWithSole [.Tuple [.Name x px, .Name y py] kt pt] (.Tuple [a, b] k2 pt2) pos.line X.env = pure false := by rfl) :
    GS X Wx (.Assign [.Tuple [.Name x px, .Name y py] kt pt] (.Tuple [a, b] k2 pt2) pos) (dParO2 i j fe fl) := by
  obtain ⟨ta, pa, sa⟩ := ha
  obtain ⟨tb, pb, sb⟩ := hb
  refine ⟨_, ps_par hc hN hi hj hij hx hy (pa_cons pa (pa_cons pb pa_nil he2) he) hw hs, fun F S H σ ρ W De Dh cf hf l => ?_⟩
  refine sa F S H σ ρ W _ De.ex _ cf hf l.ex fun S1 H1 ρ1 W1 d v e1 c1 r1 q1 => ?_
  refine sb F S1 H1 σ ρ1 W1 _ De.ex _ c1 q1 (l.ex.up e1) fun S2 H2 ρ2 W2 ds xs p e2 c2 r2 hp q2 => ?_
  refine ⟨_, _, rfl, ?_⟩
  obtain ⟨st, c4⟩ := (c2.setSh i (r1.up e2)).newOl j hp r2
  exact l.nx _ _ _ _ W2 ((e1.trans e2).trans st) c4 q2
/-- a new list that others may hold and change -/
def dNewW (fl : TL) : TD := fun ρ W Q Qx => fl ρ W (fun ds ρ' W' => ∀ p, W' p = none → Q (.ref p) ρ' (updW W' p (.lst ds))) Qx
theorem ge_newW (he : GN X Wx e fl) : GE X Wx e (dNewW fl) := by
  obtain ⟨te, pe, se⟩ := he
  refine ⟨_, pe, fun F S H σ ρ W Q Qx R cf hf hx hE => ?_⟩
  refine se F S H σ ρ W _ Qx _ cf hf hx fun S' H' ρ' W' ds xs p e' c r hp q => ?_
  obtain ⟨hw, st, c2⟩ := c.newW hp r
  exact hE _ _ ρ' _ _ _ (e'.trans st) c2 (Rep.v_iff.mpr rfl) (q p hw)
/-- list(x), a new one -/
def itemsOf : D → Option (List D)
  | .lst ds => some ds
  | .tup ds => some ds
  | .scr ns => some (ns.map D.int)
  | _ => none
def dListN (fe : TD) : TL := fun ρ W Q Qx => fe ρ W (fun d ρ' W' => ∃ ds, itemsOf d = some ds ∧ Q ds ρ' W') Qx
theorem gn_list {x : Str} {p : Pos} (hg : Gl X x) (hm : X.mg x = none) (hv : bootBuiltins x = some (.type "list")) (ha : GE X Wx e fe) (hn : x ≠ "__name__" := by decide) (hdb : (x == ("__debug__" : Str)) = false := by decide)
    (he : starEach [e] X.env = (false, eval e X.env) :: starEach [] X.env := by rfl) (hpl : (backTo pos (starEach [] X.env)).any (·.1) = false := by rfl) : GN X Wx (.Call (.Name x p) [e] [] pos) (dListN fe) := by
  obtain ⟨te, pe, se⟩ := ha
  refine ⟨_, pe_callTy call_list_of hg hm hv (pa_cons pe pa_nil he) hn hdb he hpl, fun F S H σ ρ W Q Qx R cf hf hx hE => ?_⟩
  refine se F S H σ ρ W _ Qx _ cf hf hx fun S' H' ρ' W' d v e' c r q => ?_
  obtain ⟨ds, e1, q⟩ := q
  have key : ∃ p ys, v = .ref p ∧ (SqL X.K H' p ys ∨ SqT X.K H' p ys) ∧ Reps X.K S' H' ds ys := by
    cases d with
    | v x => cases e1
    | tup xs =>
      cases e1
      obtain ⟨a, ys, rfl, h1, h2⟩ := Rep.tup_iff.mp r
      exact ⟨a, ys, rfl, .inr h1.sq, h2⟩
    | lst xs =>
      cases e1
      obtain ⟨a, ys, rfl, h1, h2⟩ := Rep.lst_iff.mp r
      exact ⟨a, ys, rfl, .inl h1.sq, h2⟩
    | dct ks ds => cases e1
    | exc c ks ds => cases e1
    | tpf ds => cases e1
    | scr ns =>
      cases e1
      obtain ⟨a, rfl, h1⟩ := Rep.scr_iff.mp r
      refine ⟨a, _, rfl, .inl h1.sq, ?_⟩
      have := Reps.map_v (K := X.K) (S := S') (H := H') (ns.map V.int)
      rw [List.map_map] at this
      exact this
  obtain ⟨p, ys, rfl, h1, h2⟩ := key
  exact ⟨p, ys, rfl, h1, fun l hl => hE S' H' ρ' W' ds ys l e' c h2 hl q⟩
/-- p.pop(i) for its value -/
def dPopE (fo fi : TD) : TD := fun ρ W Q Qx => fo ρ W (fun x ρ1 W1 => (∃ p ds, x = .ref p ∧ W1 p = some (.lst ds)) ∧ fi ρ1 W1 (fun y ρ2 W2 => match x, y with
  | .v (.ref p), .v (.int k) => ∃ ds j z, W2 p = some (.lst ds) ∧ -(2 ^ 63) ≤ k ∧ k < 2 ^ 63 ∧ seqIndex? k ds.length = some j ∧ ds[j]? = some z ∧ Q z ρ2 (updW W2 p (.lst (ds.eraseIdx j)))
  | _, _ => False) Qx) Qx
theorem ge_popE {apos cpos : Pos} (ho : GE X Wx o fo) (hi : GE X Wx i fi) (hbase : attributeBase o "pop" X.env (eval o X.env) = eval o X.env := by rfl)
    (hfew : ((backTo cpos (starEach (i :: []) X.env)).all (fun x => !x.1) && (backToKw cpos (keywordEach [] X.env)).all (fun x => x.1.isSome) && decide ((i :: ([] : List Expr)).length + ([] : List Keyword).length + (if ([] : List Keyword).isEmpty then 0 else 1) < 30)) = true := by rfl)
    (hline : (apos.endLine == cpos.line) = true := by rfl) (hse : starEach (i :: []) X.env = (false, eval i X.env) :: starEach [] X.env := by rfl) (hplain : (backTo cpos (starEach [] X.env)).any (·.1) = false := by rfl) :
    GE X Wx (.Call (.Attribute o "pop" apos) [i] [] cpos) (dPopE fo fi) := by
  obtain ⟨to, po, so⟩ := ho
  obtain ⟨ti, pi, si⟩ := hi
  refine ⟨_, pe_bm PySem.F.plainAttrs_list PySem.F.slot_list_pop PySem.F.type_list_pop mt_popAt po (pa_cons pi pa_nil hse) hbase hfew hline hse hplain, fun F S H σ ρ W Q Qx R cf hf hx hE => ?_⟩
  refine so F S H σ ρ W _ Qx _ cf hf hx fun S1 H1 ρ1 W1 d v e1 c1 r1 q1 => ?_
  obtain ⟨⟨p0, ds0, rfl, hw0⟩, q1⟩ := q1
  obtain ⟨_, _, xs0, h0, _⟩ := c1.cb.w p0 _ hw0
  have ev := Rep.v_iff.mp r1
  subst ev
  refine ⟨.inl ⟨rfl, xs0, SqL.of h0⟩, ?_⟩
  refine si F S1 H1 σ ρ1 W1 _ Qx _ c1 q1 (hx.up e1) fun S2 H2 ρ2 W2 d2 v2 e2 c2 r2 q2 => ?_
  split at q2
  · rename_i p k he
    cases he
    obtain ⟨ds, j, z, hw, hk1, hk2, hj, hz, q⟩ := q2
    obtain ⟨_, _, xs, h1, h2⟩ := c2.cb.w p0 _ hw
    obtain ⟨v, hv, rv⟩ := h2.get hz
    refine ⟨p0, xs, k, j, v, rfl, by rw [Rep.v_iff.mp r2], h1, hk1, hk2, by rw [h2.length]; exact hj, hv, ?_⟩
    obtain ⟨st, c4⟩ := c2.chW (o := .lst (ds.eraseIdx j)) (u := .lst (xs.eraseIdx j)) hw fun S' H' e' hp => ⟨_, hp, (Reps.erase j h2).up e'⟩
    exact hE _ _ _ _ _ _ ((e1.trans e2).trans st) c4 (rv.up st) q
  · exact q2.elim
end
/-- one statement, then the rest from what I says -/
theorem seq_gen {f g : TSD} {De : EndsD} {ρ : Env} {W : Wd} (I : Env → Wd → Prop) (hg : ∀ ρ W, I ρ W → g De ρ W) (hf : ∀ N : KS, (∀ ρ W, I ρ W → N ρ W) → f { De with nx := N } ρ W) : dSeq f g De ρ W := hf (g De) hg
theorem ite_t {A B : Prop} (h : A) : if true = true then A else B := by rw [if_pos rfl]; exact h
theorem ite_f {A B : Prop} (h : B) : if false = true then A else B := by rw [if_neg Bool.false_ne_true]; exact h
theorem ite_b {b : Bool} {A B : Prop} (h1 : b = true → A) (h2 : b = false → B) : if b = true then A else B := by
  cases b with
  | true => exact ite_t (h1 rfl)
  | false => exact ite_f (h2 rfl)
theorem ite_d {p : Prop} [Decidable p] {A B : Prop} (h1 : p → A) (h2 : ¬ p → B) : if decide p = true then A else B := by
  by_cases h : p
  · rw [decide_eq_true h]; exact ite_t (h1 h)
  · rw [decide_eq_false h]; exact ite_f (h2 h)
theorem ite_n {p : Prop} [Decidable p] {A B : Prop} (h1 : ¬ p → A) (h2 : p → B) : if (!decide p) = true then A else B := by
  by_cases h : p
  · rw [decide_eq_true h]; exact ite_f (h2 h)
  · rw [decide_eq_false h]; exact ite_t (h1 h)
end G

namespace G
open PySem PySem.Spec L2 PyProof.Rows
section
variable {prog : Program} {w : World} {A : Around} {E : Value → Shared → Prop} {s : Shared} {l : Addr} {xs : Array (Int × Tok)}
/-- a tuple of ints walked by min, max -/
theorem iter_intTup {Q : Value → Shared → Prop} (hl : s.heap.IsTuple l (intItems xs))
    (h : ∀ s₂ : Shared, s₂ = { s with heap := s.heap.push { cls := .type "tuple_iterator", data := .fields #[.ref l, .int 0 0] } } →
      (s₂.heap.IsTupleIter s.heap.objs.size l 0 ∧ s₂.heap.IsTuple l (intItems xs)) → (∀ b ∈ [s.heap.objs.size, l], b < s₂.heap.objs.size) → l ≠ s.heap.objs.size → Q (.ref s.heap.objs.size) s₂) :
    wpAny (model prog w) A (pyIter (.ref l)) Q E s := by
  have hlt : l < s.heap.objs.size := by obtain ⟨_, e, _⟩ := hl; exact Heap.lt_size e
  refine wpAny_pyIter_tuple hl (h _ rfl ⟨⟨_, Heap.get?_push_size _ rfl, rfl, rfl⟩, hl.push _⟩ (fun b hb => ?_) (Nat.ne_of_lt hlt))
  show b < (s.heap.push _).objs.size
  rw [Heap.size_push]
  simp only [List.mem_cons, List.not_mem_nil, or_false] at hb
  rcases hb with rfl | rfl
  · exact Nat.lt_succ_self _
  · exact Nat.lt_succ_of_lt hlt
theorem old_keptT {h' : Heap} (hk : ∀ b o, b ∉ [s.heap.objs.size] → (s.heap.push { cls := .type "tuple_iterator", data := .fields #[.ref l, .int 0 0] }).get? b = some o → h'.get? b = some o) :
    ∀ b o, s.heap.get? b = some o → h'.get? b = some o := fun b o e => by
  refine hk b o (fun hm => ?_) (Heap.get?_push_of_some _ e)
  rw [List.mem_singleton.mp hm] at e
  exact absurd (Heap.lt_size e) (Nat.lt_irrefl _)
theorem max_intTup {Q : Value → Shared → Prop} (hh : A.handled = none) (hl : s.heap.IsTuple l (intItems xs)) (hne : 0 < xs.size)
    (h : ∀ v h' tk, (intItems xs)[argBest (fun i j => decide (numAt xs i > numAt xs j)) (xs.size - 1)]? = some v → (∀ b o, s.heap.get? b = some o → h'.get? b = some o) → Q v { s with heap := h', toks := tk }) :
    wpAny (model prog w) A (call (.builtin "max") [.ref l]) Q E s := by
  refine call_max_walk (iter_intTup hl fun s₂ e st hfp hlI => ?_)
  subst e
  refine ⟨_, _, _, _, _, _, _, rfl, Walks.tuple (A := A.in1) hh _ l hlI (intItems xs), st, hfp, by simpa [intItems] using hne, CmpOf.ints_gt (numAt xs) (fun _ _ => intItems_at), fun v h' tk hP hk => ?_⟩
  exact h v h' tk (by simpa [intItems] using hP) (old_keptT hk)
theorem min_intTup {Q : Value → Shared → Prop} (hh : A.handled = none) (hl : s.heap.IsTuple l (intItems xs)) (hne : 0 < xs.size)
    (h : ∀ v h' tk, (intItems xs)[argBest (fun i j => decide (numAt xs i < numAt xs j)) (xs.size - 1)]? = some v → (∀ b o, s.heap.get? b = some o → h'.get? b = some o) → Q v { s with heap := h', toks := tk }) :
    wpAny (model prog w) A (call (.builtin "min") [.ref l]) Q E s := by
  refine call_min_walk (iter_intTup hl fun s₂ e st hfp hlI => ?_)
  subst e
  refine ⟨_, _, _, _, _, _, _, rfl, Walks.tuple (A := A.in1) hh _ l hlI (intItems xs), st, hfp, by simpa [intItems] using hne, CmpOf.ints_lt (numAt xs) (fun _ _ => intItems_at), fun v h' tk hP hk => ?_⟩
  exact h v h' tk (by simpa [intItems] using hP) (old_keptT hk)
variable {its : List Value} {ns : List Int}
theorem max_rawT {Q : Value → Shared → Prop} (hh : A.handled = none) (hl : s.heap.IsTuple l its.toArray) (hi : IntsAre its ns) (hne : 0 < ns.length)
    (h : ∀ h' tk M t', (∀ b o, s.heap.get? b = some o → h'.get? b = some o) → M ∈ ns → (∀ a, a ∈ ns → a ≤ M) → Q (.int M t') { s with heap := h', toks := tk }) : wpAny (model prog w) A (call (.builtin "max") [.ref l]) Q E s := by
  obtain ⟨xs, e⟩ := hi.allInts.items
  have hn : numsOf (intItems xs).toList = ns := by rw [← e]; exact hi.numsOf
  rw [nums_intItems] at hn
  subst hn
  rw [e] at hl
  have hsz : 0 < xs.size := by simpa using hne
  refine max_intTup hh hl hsz fun v h' tk hv hk => ?_
  obtain ⟨t, rfl⟩ := intItems_at hv
  obtain ⟨h1, h2⟩ := argBest_gt (numAt xs) (xs.size - 1)
  refine h h' tk _ t hk ?_ fun a ha => ?_
  · rw [numAt_eq]; exact PySem.getD_mem (by rw [List.length_map, Array.length_toList]; omega)
  · obtain ⟨j, hj, rfl⟩ := mem_getD ha
    rw [List.length_map, Array.length_toList] at hj
    rw [← numAt_eq]; exact h2 j (by omega)
theorem min_rawT {Q : Value → Shared → Prop} (hh : A.handled = none) (hl : s.heap.IsTuple l its.toArray) (hi : IntsAre its ns) (hne : 0 < ns.length)
    (h : ∀ h' tk M t', (∀ b o, s.heap.get? b = some o → h'.get? b = some o) → M ∈ ns → (∀ a, a ∈ ns → M ≤ a) → Q (.int M t') { s with heap := h', toks := tk }) : wpAny (model prog w) A (call (.builtin "min") [.ref l]) Q E s := by
  obtain ⟨xs, e⟩ := hi.allInts.items
  have hn : numsOf (intItems xs).toList = ns := by rw [← e]; exact hi.numsOf
  rw [nums_intItems] at hn
  subst hn
  rw [e] at hl
  have hsz : 0 < xs.size := by simpa using hne
  refine min_intTup hh hl hsz fun v h' tk hv hk => ?_
  obtain ⟨t, rfl⟩ := intItems_at hv
  obtain ⟨h1, h2⟩ := argBest_lt (numAt xs) (xs.size - 1)
  refine h h' tk _ t hk ?_ fun a ha => ?_
  · rw [numAt_eq]; exact PySem.getD_mem (by rw [List.length_map, Array.length_toList]; omega)
  · obtain ⟨j, hj, rfl⟩ := mem_getD ha
    rw [List.length_map, Array.length_toList] at hj
    rw [← numAt_eq]; exact h2 j (by omega)
end
section
variable {X : Cx}
def rMaxT (K : PySem.W.Frag) : List V → Hp → VK → Prop := fun vs H Q => ∃ (a : Addr) (ns : List Int), vs = [V.ref a] ∧ SqT K H a (ns.map V.int) ∧ 0 < ns.length ∧ ∀ m, m ∈ ns → (∀ y, y ∈ ns → y ≤ m) → Q (.int m) H
def rMinT (K : PySem.W.Frag) : List V → Hp → VK → Prop := fun vs H Q => ∃ (a : Addr) (ns : List Int), vs = [V.ref a] ∧ SqT K H a (ns.map V.int) ∧ 0 < ns.length ∧ ∀ m, m ∈ ns → (∀ y, y ∈ ns → m ≤ y) → Q (.int m) H
theorem cr_maxT (hc : X.calm = true) : CallR X (.builtin "max") (rMaxT X.K) := by
  intro pins s σ H vs us Q I r h
  obtain ⟨a, ns, rfl, hs, hne, q⟩ := h
  obtain ⟨its, rv, hl, _⟩ := I.tuple hs
  rw [Vals.ref1 r]
  exact max_rawT (I.ok.hd hc) hl rv.ints hne fun h' tk m t' hk h1 h2 => ⟨.int _, H, I.kept hk, ⟨_, rfl⟩, q m h1 h2⟩
theorem cr_minT (hc : X.calm = true) : CallR X (.builtin "min") (rMinT X.K) := by
  intro pins s σ H vs us Q I r h
  obtain ⟨a, ns, rfl, hs, hne, q⟩ := h
  obtain ⟨its, rv, hl, _⟩ := I.tuple hs
  rw [Vals.ref1 r]
  exact min_rawT (I.ok.hd hc) hl rv.ints hne fun h' tk m t' hk h1 h2 => ⟨.int _, H, I.kept hk, ⟨_, rfl⟩, q m h1 h2⟩
theorem cr_maxA (hc : X.calm = true) : CallR X (.builtin "max") (fun xs H Q => rMax X.K xs H Q ∨ rMaxT X.K xs H Q) := CallR.or (cr_max hc) (cr_maxT hc)
theorem cr_minA (hc : X.calm = true) : CallR X (.builtin "min") (fun xs H Q => rMin X.K xs H Q ∨ rMinT X.K xs H Q) := CallR.or (cr_min hc) (cr_minT hc)
def dMin1A : List D → (D → Prop) → Prop := fun ds Q => match ds with
  | [.lst xs] => ∃ ns, intsOf xs = some ns ∧ 0 < ns.length ∧ ∀ m, m ∈ ns → (∀ y, y ∈ ns → m ≤ y) → Q (.int m)
  | [.tup xs] => ∃ ns, intsOf xs = some ns ∧ 0 < ns.length ∧ ∀ m, m ∈ ns → (∀ y, y ∈ ns → m ≤ y) → Q (.int m)
  | _ => False
def dMax1A : List D → (D → Prop) → Prop := fun ds Q => match ds with
  | [.lst xs] => ∃ ns, intsOf xs = some ns ∧ 0 < ns.length ∧ ∀ m, m ∈ ns → (∀ y, y ∈ ns → y ≤ m) → Q (.int m)
  | [.tup xs] => ∃ ns, intsOf xs = some ns ∧ 0 < ns.length ∧ ∀ m, m ∈ ns → (∀ y, y ∈ ns → y ≤ m) → Q (.int m)
  | _ => False
variable {K : PySem.W.Frag}
theorem cs_min1A : CSnd K (fun xs H Q => rMin K xs H Q ∨ rMinT K xs H Q) dMin1A := fun F S H W ds xs P R cb rd hp k => by
  unfold dMin1A at hp
  split at hp
  · obtain ⟨x, rfl, h⟩ := reps1 rd
    obtain ⟨a, ys, rfl, h1, h2⟩ := Rep.lst_iff.mp h
    obtain ⟨bs, hb, hl, hp⟩ := hp
    rw [reps_ints hb h2] at h1
    exact .inl ⟨a, bs, rfl, h1.sq, hl, fun m m1 m2 => k _ _ H (Same.refl H) (Rep.v_iff.mpr rfl) (hp m m1 m2)⟩
  · obtain ⟨x, rfl, h⟩ := reps1 rd
    obtain ⟨a, ys, rfl, h1, h2⟩ := Rep.tup_iff.mp h
    obtain ⟨bs, hb, hl, hp⟩ := hp
    rw [reps_ints hb h2] at h1
    exact .inr ⟨a, bs, rfl, h1.sq, hl, fun m m1 m2 => k _ _ H (Same.refl H) (Rep.v_iff.mpr rfl) (hp m m1 m2)⟩
  · exact hp.elim
theorem cs_max1A : CSnd K (fun xs H Q => rMax K xs H Q ∨ rMaxT K xs H Q) dMax1A := fun F S H W ds xs P R cb rd hp k => by
  unfold dMax1A at hp
  split at hp
  · obtain ⟨x, rfl, h⟩ := reps1 rd
    obtain ⟨a, ys, rfl, h1, h2⟩ := Rep.lst_iff.mp h
    obtain ⟨bs, hb, hl, hp⟩ := hp
    rw [reps_ints hb h2] at h1
    exact .inl ⟨a, bs, rfl, h1.sq, hl, fun m m1 m2 => k _ _ H (Same.refl H) (Rep.v_iff.mpr rfl) (hp m m1 m2)⟩
  · obtain ⟨x, rfl, h⟩ := reps1 rd
    obtain ⟨a, ys, rfl, h1, h2⟩ := Rep.tup_iff.mp h
    obtain ⟨bs, hb, hl, hp⟩ := hp
    rw [reps_ints hb h2] at h1
    exact .inr ⟨a, bs, rfl, h1.sq, hl, fun m m1 m2 => k _ _ H (Same.refl H) (Rep.v_iff.mpr rfl) (hp m m1 m2)⟩
  · exact hp.elim
end
end G

namespace G
open PySem PySem.Spec L2
/-! ### dicts: keys are numbers or texts -/
def keyOf : D → Option Key
  | .v (.int i) => some (.inl i)
  | .v (.str s) => some (.inr s)
  | _ => none
def keyD : Key → D
  | .inl i => .int i
  | .inr s => .str s
def valD (kvs : List (Key × D)) (k : Key) : Option D := (kvs.find? fun kv => decide (kv.1 = k)).map (·.2)
def putD (kvs : List (Key × D)) (k : Key) (v : D) : List (Key × D) :=
  if (kvs.any fun kv => decide (kv.1 = k)) = true then kvs.map (fun kv => if kv.1 = k then (kv.1, v) else kv) else kvs ++ [(k, v)]
def dropD (kvs : List (Key × D)) (k : Key) : List (Key × D) := kvs.filter fun kv => decide (kv.1 ≠ k)
section
variable {K : PySem.W.Frag} {F S S' : Reg} {H H' : Hp}
def KR (K : PySem.W.Frag) (S : Reg) (H : Hp) (kvs : List (Key × D)) (vs : List (Key × V)) : Prop := vs.map (·.1) = kvs.map (·.1) ∧ Reps K S H (kvs.map (·.2)) (vs.map (·.2))
theorem KR.nil : KR K S H [] [] := ⟨rfl, Reps.nil⟩
theorem KR.cons_iff {k : Key} {d : D} {kvs : List (Key × D)} {vs : List (Key × V)} : KR K S H ((k, d) :: kvs) vs ↔ ∃ v r, vs = (k, v) :: r ∧ Rep K S H d v ∧ KR K S H kvs r := by
  constructor
  · rintro ⟨h1, h2⟩
    cases vs with
    | nil => cases h1
    | cons p r =>
      simp only [List.map_cons, List.cons.injEq] at h1
      obtain ⟨x, y, e, h3, h4⟩ := Reps.cons_iff.mp h2
      simp only [List.map_cons, List.cons.injEq] at e
      obtain ⟨k', v⟩ := p
      obtain ⟨rfl, rfl⟩ := e
      obtain ⟨rfl, h1⟩ := h1
      exact ⟨_, _, rfl, h3, h1, h4⟩
  · rintro ⟨v, r, rfl, h1, h2, h3⟩
    exact ⟨by rw [List.map_cons, List.map_cons, h2], Reps.cons h1 h3⟩
theorem KR.up (e : Stp F S H S' H') {kvs : List (Key × D)} {vs : List (Key × V)} (h : KR K S H kvs vs) : KR K S' H' kvs vs := ⟨h.1, h.2.up e⟩
theorem KR.len {kvs : List (Key × D)} {vs : List (Key × V)} (h : KR K S H kvs vs) : vs.length = kvs.length := by
  have := congrArg List.length h.1
  rwa [List.length_map, List.length_map] at this
theorem valD_cons {k k' : Key} {d : D} {r : List (Key × D)} : valD ((k', d) :: r) k = if k' = k then some d else valD r k := by
  unfold valD
  rw [List.find?_cons]
  by_cases h : k' = k
  · rw [if_pos h]; simp [h]
  · rw [if_neg h]; simp [h]
theorem valV_cons {k k' : Key} {d : V} {r : List (Key × V)} : valV ((k', d) :: r) k = if k' = k then some d else valV r k := by
  by_cases h : k' = k
  · rw [if_pos h]; exact valV_pos h
  · rw [if_neg h]; exact valV_neg h
theorem KR.val (k : Key) : ∀ {kvs : List (Key × D)} {vs : List (Key × V)}, KR K S H kvs vs → (∀ z, valD kvs k = some z → ∃ v, valV vs k = some v ∧ Rep K S H z v) ∧ (valD kvs k = none → valV vs k = none)
  | [], vs, h => by
    have : vs = [] := by
      have := h.len
      simpa using this
    subst this
    refine ⟨fun z e => ?_, fun _ => rfl⟩
    have e : none = some z := e
    cases e
  | (k', d) :: kvs, vs, h => by
    obtain ⟨v, r, rfl, h1, h2⟩ := KR.cons_iff.mp h
    obtain ⟨i1, i2⟩ := KR.val k h2
    rw [valD_cons, valV_cons]
    by_cases e : k' = k
    · rw [if_pos e, if_pos e]
      exact ⟨fun z q => by cases q; exact ⟨v, rfl, h1⟩, fun q => by cases q⟩
    · rw [if_neg e, if_neg e]
      exact ⟨i1, i2⟩
theorem KR.any (k : Key) : ∀ {kvs : List (Key × D)} {vs : List (Key × V)}, KR K S H kvs vs → (vs.any fun kv => decide (kv.1 = k)) = (kvs.any fun kv => decide (kv.1 = k))
  | [], vs, h => by
    have : vs = [] := by
      have := h.len
      simpa using this
    subst this
    rfl
  | (k', d) :: kvs, vs, h => by
    obtain ⟨v, r, rfl, h1, h2⟩ := KR.cons_iff.mp h
    rw [List.any_cons, List.any_cons, KR.any k h2]
theorem KR.append : ∀ {kvs kvs' : List (Key × D)} {vs vs' : List (Key × V)}, KR K S H kvs vs → KR K S H kvs' vs' → KR K S H (kvs ++ kvs') (vs ++ vs') := fun h h' =>
  ⟨by rw [List.map_append, List.map_append, h.1, h'.1], by rw [List.map_append, List.map_append]; exact h.2.append h'.2⟩
theorem KR.mapPut (k : Key) {d : D} {v : V} (hv : Rep K S H d v) : ∀ {kvs : List (Key × D)} {vs : List (Key × V)}, KR K S H kvs vs → KR K S H (kvs.map fun kv => if kv.1 = k then (kv.1, d) else kv) (vs.map fun kv => if kv.1 = k then (kv.1, v) else kv)
  | [], vs, h => by
    have : vs = [] := by
      have := h.len
      simpa using this
    subst this
    exact KR.nil
  | (k', d') :: kvs, vs, h => by
    obtain ⟨v', r, rfl, h1, h2⟩ := KR.cons_iff.mp h
    rw [List.map_cons, List.map_cons]
    by_cases e : k' = k
    · rw [if_pos e, if_pos e]
      exact KR.cons_iff.mpr ⟨v, _, rfl, hv, KR.mapPut k hv h2⟩
    · rw [if_neg e, if_neg e]
      exact KR.cons_iff.mpr ⟨v', _, rfl, h1, KR.mapPut k hv h2⟩
theorem KR.put (k : Key) {d : D} {v : V} (hv : Rep K S H d v) {kvs : List (Key × D)} {vs : List (Key × V)} (h : KR K S H kvs vs) : KR K S H (putD kvs k d) (putK vs k v) := by
  unfold putD putK
  rw [h.any k]
  split
  · exact h.mapPut k hv
  · exact h.append (KR.cons_iff.mpr ⟨v, [], rfl, hv, KR.nil⟩)
theorem KR.drop (k : Key) : ∀ {kvs : List (Key × D)} {vs : List (Key × V)}, KR K S H kvs vs → KR K S H (dropD kvs k) (dropK vs k)
  | [], vs, h => by
    have : vs = [] := by
      have := h.len
      simpa using this
    subst this
    exact KR.nil
  | (k', d') :: kvs, vs, h => by
    obtain ⟨v', r, rfl, h1, h2⟩ := KR.cons_iff.mp h
    unfold dropD dropK
    rw [List.filter_cons, List.filter_cons]
    by_cases e : k' = k
    · rw [if_neg (by simp [e]), if_neg (by simp [e])]
      exact KR.drop k h2
    · rw [if_pos (by simp [e]), if_pos (by simp [e])]
      exact KR.cons_iff.mpr ⟨v', _, rfl, h1, KR.drop k h2⟩
theorem key_rep {d : D} {k : Key} {v : V} (e : keyOf d = some k) (h : Rep K S H d v) : v = kV k := by
  cases d with
  | v x =>
    rw [Rep.v_iff.mp h]
    cases x <;> simp only [keyOf, Option.some.injEq] at e <;> first | (subst e; rfl) | cases e
  | _ => cases e
theorem MRep.dK_iff {p : Addr} {kvs : List (Key × D)} : MRep K S H p (.dK kvs) ↔ ∃ vs, H p = some (.dK vs) ∧ KR K S H kvs vs := Iff.rfl
theorem zip_fst_snd {α β : Type} : ∀ l : List (α × β), (l.map (·.1)).zip (l.map (·.2)) = l
  | [] => rfl
  | (a, b) :: r => by rw [List.map_cons, List.map_cons, List.zip_cons_cons, zip_fst_snd r]
/-- a dict that nobody changes any more -/
abbrev D.dk (kvs : List (Key × D)) : D := .dct (kvs.map (·.1)) (kvs.map (·.2))
theorem Rep.dk_of {p : Addr} {kvs : List (Key × D)} {vs : List (Key × V)} (h : H p = some (.dK vs)) (hs : ¬ S p) (r : KR K S H kvs vs) : Rep K S H (.dk kvs) (.ref p) :=
  Rep.dct_iff.mpr ⟨p, vs.map (·.2), rfl, ⟨by rw [← r.1, zip_fst_snd]; exact h, hs⟩, by rw [List.length_map, List.length_map], r.2⟩
theorem zip_kr {a : Addr} : ∀ {ks : List Key} {ds : List D} {xs : List V}, ks.length = ds.length → Reps K S H ds xs → KR K S H (ks.zip ds) (ks.zip xs)
  | [], [], xs, _, h => by rw [Reps.nil_iff.mp h]; exact KR.nil
  | k :: ks, d :: ds, xs, hl, h => by
    obtain ⟨x, r, rfl, h1, h2⟩ := Reps.cons_iff.mp h
    exact KR.cons_iff.mpr ⟨x, _, rfl, h1, zip_kr (a := a) (by simpa using hl) h2⟩
/-- what is read as a dict -/
theorem Rep.dct_rd {ks : List Key} {ds : List D} {v : V} (h : Rep K S H (.dct ks ds) v) : ∃ a vs, v = .ref a ∧ H a = some (.dK vs) ∧ ¬ S a ∧ KR K S H (ks.zip ds) vs := by
  obtain ⟨a, xs, rfl, ⟨h1, hs⟩, hl, r⟩ := Rep.dct_iff.mp h
  exact ⟨a, _, rfl, h1, hs, zip_kr (a := a) hl r⟩
end
section
variable {X : Cx} {Wx : WX} {st : Stmt} {rest : List Stmt} {f g : TSD} {e o a b c i : Expr} {es : List Expr} {fe fo fa fb fc fi : TD} {fl : TL} {pos : Pos}
/-- d[k] of a dict that stands -/
def dDGet (fo fi : TD) : TD := fun ρ W Q Qx => fo ρ W (fun x ρ1 W1 => fi ρ1 W1 (fun y ρ2 W2 => match x with
  | .dct ks ds => ∃ k z, keyOf y = some k ∧ valD (ks.zip ds) k = some z ∧ Q z ρ2 W2
  | _ => False) Qx) Qx
theorem ge_dget (hu : X.A.units + 1 < cLine) (ho : GE X Wx o fo) (hi : GE X Wx i fi) (hs : NoSl i) : GE X Wx (.Subscript o i pos) (dDGet fo fi) := by
  obtain ⟨to, po, so⟩ := ho
  obtain ⟨ti, pi, si⟩ := hi
  refine ⟨_, pe_dget hu po pi hs, fun F S H σ ρ W Q Qx R cf hf hx hE => ?_⟩
  refine so F S H σ ρ W _ Qx _ cf hf hx fun S1 H1 ρ1 W1 d v e1 c1 r1 q1 => ?_
  refine si F S1 H1 σ ρ1 W1 _ Qx _ c1 q1 (hx.up e1) fun S2 H2 ρ2 W2 d2 v2 e2 c2 r2 q2 => ?_
  split at q2
  · rename_i ks ds
    obtain ⟨k, z, hk, hz, q⟩ := q2
    obtain ⟨a, vs, rfl, ha, hs, kr⟩ := (r1.up e2).dct_rd
    obtain ⟨w, hw, rw'⟩ := (kr.val k).1 z hz
    exact ⟨a, w, rfl, .inl ⟨vs, k, .inl ha, key_rep hk r2, hw.symm⟩, hE S2 H2 ρ2 W2 z w (e1.trans e2) c2 rw' q⟩
  · exact q2.elim
/-- x[k], x the frame's own dict -/
def dDGetO (j : Nat) (fi : TD) : TD := fun ρ W Q Qx => (∃ kvs, ρ[j]? = some (some (.od kvs))) ∧ fi ρ W (fun y ρ2 W2 => match ρ2[j]? with
  | some (some (.om (.dK kvs))) => ∃ k z, keyOf y = some k ∧ valD kvs k = some z ∧ Q z ρ2 W2
  | _ => False) Qx
theorem ge_dgetO {j : Nat} {x : Str} {px : Pos} (hu : X.A.units + 1 < cLine) (hi : GE X Wx i fi) (hs : NoSl i) (hN : X.N[j]? = some x := by rfl) (hv : Vis X.env.scope x := by first | exact Or.inl rfl | exact Or.inr (Or.inl rfl) | exact Or.inr (Or.inr rfl)) (hd : (x == ("__debug__" : Str)) = false := by decide) (hcd : (x == ("__classdict__" : Str)) = false := by decide) :
    GE X Wx (.Subscript (.Name x px) i pos) (dDGetO j fi) := by
  obtain ⟨ti, pi, si⟩ := hi
  refine ⟨_, pe_dget hu (pe_var hN hv hd hcd) pi hs, fun F S H σ ρ W Q Qx R cf hf hx hE => ?_⟩
  obtain ⟨⟨kvs0, h0⟩, hf⟩ := hf
  obtain ⟨p, hp, _⟩ := cf.om j _ h0
  refine ⟨_, hp, ?_⟩
  refine si F S H σ ρ W _ Qx _ cf hf hx fun S2 H2 ρ2 W2 d2 v2 e2 c2 r2 q2 => ?_
  split at q2
  · rename_i kvs hk0
    obtain ⟨k, z, hk, hz, q⟩ := q2
    obtain ⟨p', hp', ⟨vs, h1, kr⟩, _⟩ := c2.om j _ hk0
    rw [hp] at hp'; cases hp'
    obtain ⟨w, hw, rw'⟩ := (KR.val k kr).1 z hz
    exact ⟨p, w, rfl, .inl ⟨vs, k, .inl h1, key_rep hk r2, hw.symm⟩, hE S2 H2 ρ2 W2 z w e2 c2 rw' q⟩
  · exact q2.elim
/-- x[k] = e, x the frame's own dict -/
def dDPutO (j : Nat) (fe fi : TD) : TSD := fun De ρ W => fe ρ W (fun d ρ1 W1 => (∃ kvs, ρ1[j]? = some (some (.od kvs))) ∧ fi ρ1 W1 (fun y ρ2 W2 => match ρ2[j]? with
  | some (some (.om (.dK kvs))) => ∃ k, keyOf y = some k ∧ kvs.length < sizeLine ∧ De.nx (ρ2.set j (some (.od (putD kvs k d)))) W2
  | _ => False) De.ex) De.ex
theorem gs_dputO {j : Nat} {x : Str} {px tpos : Pos} (hu : X.A.units + 1 < cLine) (he : GE X Wx e fe) (hi : GE X Wx i fi) (hN : X.N[j]? = some x := by rfl) (hv : Vis X.env.scope x := by first | exact Or.inl rfl | exact Or.inr (Or.inl rfl) | exact Or.inr (Or.inr rfl)) (hd : (x == ("__debug__" : Str)) = false := by decide) (hcd : (x == ("__classdict__" : Str)) = false := by decide)
    (hs : swapsWith e (some (.Subscript (.Name x px) i tpos)) pos.line X.env = pure false := by rfl) : GS X Wx (.Assign [.Subscript (.Name x px) i tpos] e pos) (dDPutO j fe fi) := by
  obtain ⟨te, pe, se⟩ := he
  obtain ⟨ti, pi, si⟩ := hi
  refine ⟨_, ps_dput hu (pe_var hN hv hd hcd) pi pe hs, fun F S H σ ρ W De Dh cf hf l => ?_⟩
  refine se F S H σ ρ W _ De.ex _ cf hf l.ex fun S1 H1 ρ1 W1 d v e1 c1 r1 q1 => ?_
  obtain ⟨⟨kvs0, h0⟩, q1⟩ := q1
  obtain ⟨p, hp, _⟩ := c1.om j _ h0
  refine ⟨_, hp, ?_⟩
  refine si F S1 H1 σ ρ1 W1 _ De.ex _ c1 q1 (l.ex.up e1) fun S2 H2 ρ2 W2 d2 v2 e2 c2 r2 q2 => ?_
  split at q2
  · rename_i kvs hk0
    obtain ⟨k, hk, hl, q⟩ := q2
    obtain ⟨p', hp', ⟨vs, h1, kr⟩, _⟩ := c2.om j _ hk0
    rw [hp] at hp'; cases hp'
    have kr : KR X.K S2 H2 kvs vs := kr
    have r1' := r1.up e2
    obtain ⟨st, c4⟩ := c2.chOm (u := .dK (putK vs k v)) (o1 := .dK (putD kvs k d)) hk0 hp fun S' H' e' hh => ⟨_, hh, (kr.put k r1').up e'⟩
    exact ⟨p, _, rfl, .inl ⟨vs, k, h1, key_rep hk r2, by rw [kr.len]; exact hl, rfl⟩, l.nx _ _ _ _ _ ((e1.trans e2).trans st) c4 q⟩
  · exact q2.elim
/-- nobody changes the dict of slot j from here on -/
def dFrzD (j : Nat) (f : TSD) : TSD := fun De ρ W => match ρ[j]? with
  | some (some (.om (.dK kvs))) => f De (ρ.set j (some (.sh (.dk kvs)))) W
  | _ => False
theorem gss_frzD (j : Nat) (h : GSs X Wx rest f) : GSs X Wx rest (dFrzD j f) := by
  obtain ⟨t, p, s⟩ := h
  refine ⟨t, p, fun F S H σ ρ W De Dh cf hf l => ?_⟩
  unfold dFrzD at hf
  split at hf
  · rename_i kvs h0
    obtain ⟨S', e, c2⟩ := cf.freezeM (d := .dk kvs) h0 fun p S' _ hn ⟨vs, h1, kr⟩ => Rep.dk_of h1 hn kr
    exact s F S' H σ _ W De Dh c2 hf (l.up e)
  · exact hf.elim
/-- an expression that makes a new dict, last of all -/
def EndND (K : PySem.W.Frag) (F S : Reg) (H : Hp) (σ : St) (Q : List (Key × D) → G.Env → Wd → Prop) (R : VK) : Prop :=
  ∀ S' H' ρ' W' kvs vs p, Stp F S H S' H' → Cf K F S' H' σ ρ' W' → KR K S' H' kvs vs → H' p = none → Q kvs ρ' W' → R (.ref p) (upd H' p (.dK vs))
abbrev TDD := G.Env → Wd → (List (Key × D) → G.Env → Wd → Prop) → KX → Prop
def SndND (K : PySem.W.Frag) (Wx : WX) (te : TE) (f : TDD) : Prop :=
  ∀ F S H σ ρ W Q Qx R, Cf K F S H σ ρ W → f ρ W Q Qx → LkX K F S H Wx Qx → EndND K F S H σ Q R → te σ H R
def GD (X : Cx) (Wx : WX) (e : Expr) (f : TDD) : Prop := ∃ te, PE X e te ∧ SndND X.K Wx te f
def dEmp : TDD := fun ρ W Q _ => Q [] ρ W
theorem gd_emp : GD X Wx (.Dict [] [] pos) dEmp := ⟨_, pe_dnewK, fun F S H σ ρ W Q Qx R cf hf hx hE p hp => hE S H ρ W [] [] p .refl cf KR.nil hp hf⟩
/-- dict(d) -/
def dCopy (fe : TD) : TDD := fun ρ W Q Qx => fe ρ W (fun d ρ' W' => match d with | .dct ks ds => Q (ks.zip ds) ρ' W' | _ => False) Qx
theorem gd_copy {x : Str} {p : Pos} (hg : Gl X x) (hm : X.mg x = none) (hv : bootBuiltins x = some (.type "dict")) (ha : GE X Wx e fe) (hn : x ≠ "__name__" := by decide) (hdb : (x == ("__debug__" : Str)) = false := by decide)
    (he : starEach [e] X.env = (false, eval e X.env) :: starEach [] X.env := by rfl) (hpl : (backTo pos (starEach [] X.env)).any (·.1) = false := by rfl) : GD X Wx (.Call (.Name x p) [e] [] pos) (dCopy fe) := by
  obtain ⟨te, pe, se⟩ := ha
  refine ⟨_, pe_callTy call_dictD hg hm hv (pa_cons pe pa_nil he) hn hdb he hpl, fun F S H σ ρ W Q Qx R cf hf hx hE => ?_⟩
  refine se F S H σ ρ W _ Qx _ cf hf hx fun S' H' ρ' W' d v e' c r q => ?_
  split at q
  · rename_i ks ds
    obtain ⟨a, vs, rfl, ha, hs, kr⟩ := r.dct_rd
    exact ⟨a, vs, rfl, .inl ha, fun l hl => hE S' H' ρ' W' _ vs l e' c kr hl q⟩
  · exact q.elim
/-- x = {..}, the dict the frame's own -/
def dAsgD (j : Nat) (fd : TDD) : TSD := fun De ρ W => fd ρ W (fun kvs ρ' W' => De.nx (ρ'.set j (some (.od kvs))) W') De.ex
theorem gs_setD {j : Nat} {x : Str} {pos' : Pos} {fd : TDD} (hN : X.N.Nodup) (hi : X.N[j]? = some x) (hx : Loc X.env.scope x) (he : GD X Wx e fd) (hs : swapsWith e (some (.Name x pos')) pos.line X.env = pure false := by rfl) (hf : X.fn x = true ∨ X.env.scope.names.lookup x = some .local := by first | exact .inl rfl | exact .inr rfl | assumption) :
    GS X Wx (.Assign [.Name x pos'] e pos) (dAsgD j fd) := by
  obtain ⟨te, pe, se⟩ := he
  refine ⟨_, ps_set hN hi hx pe hs hf, fun F S H σ ρ W De Dh cf hf l => ?_⟩
  refine se F S H σ ρ W _ De.ex _ cf hf l.ex fun S' H' ρ' W' kvs vs p e' c r hp q => ?_
  obtain ⟨st, c2⟩ := c.newOm (u := .dK vs) (o := .dK kvs) j hp fun S2 H2 e2 hh => ⟨vs, hh, r.up e2⟩
  exact l.nx _ _ _ _ W' (e'.trans st) c2 q
/-- a dict, for reading alone -/
def dFreshD (fd : TDD) : TD := fun ρ W Q Qx => fd ρ W (fun kvs ρ' W' => Q (.dk kvs) ρ' W') Qx
theorem GD.ge {fd : TDD} (h : GD X Wx e fd) : GE X Wx e (dFreshD fd) := by
  obtain ⟨te, pe, se⟩ := h
  refine ⟨_, pe, fun F S H σ ρ W Q Qx R cf hf hx hE => ?_⟩
  refine se F S H σ ρ W _ Qx _ cf hf hx fun S1 H1 ρ1 W1 kvs vs p e1 c1 r1 hp q1 => ?_
  have nS : ¬ S1 p := fun z => c1.cb.sd p z hp
  have sm : Same H1 (upd H1 p (.dK vs)) := same_new hp
  exact hE S1 _ ρ1 W1 _ _ (e1.trans (stp_same c1.cb sm)) (c1.same sm) (Rep.dk_of upd_same nS (r1.up (stp_same c1.cb sm))) q1
/-- sorted(d), the keys texts, fewer than 64 -/
def dSortD (fe : TD) : TL := fun ρ W Q Qx => fe ρ W (fun d ρ' W' => match d with
  | .dct ks ds => ∃ zs : List Str, ks = zs.map Sum.inr ∧ zs.length < 64 ∧ ∀ ys : List Str, ys.Perm zs → PyProof.Rows.sortedS ys = true → Q (ys.map D.str) ρ' W'
  | _ => False) Qx
theorem gn_sortD {x : Str} {p : Pos} (hc : X.calm = true) (hg : Gl X x) (hm : X.mg x = none) (hv : bootBuiltins x = some (.builtin "sorted")) (ha : GE X Wx e fe) (hn : x ≠ "__name__" := by decide) (hdb : (x == ("__debug__" : Str)) = false := by decide)
    (he : starEach [e] X.env = (false, eval e X.env) :: starEach [] X.env := by rfl) (hpl : (backTo pos (starEach [] X.env)).any (·.1) = false := by rfl) : GN X Wx (.Call (.Name x p) [e] [] pos) (dSortD fe) := by
  obtain ⟨te, pe, se⟩ := ha
  refine ⟨_, pe_callB (call_sortedD hc) hg hm hv (pa_cons pe pa_nil he) hn hdb he hpl, fun F S H σ ρ W Q Qx R cf hf hx hE => ?_⟩
  refine se F S H σ ρ W _ Qx _ cf hf hx fun S' H' ρ' W' d v e' c r q => ?_
  split at q
  · rename_i ks ds
    obtain ⟨a, vs, rfl, ha, hs, kr⟩ := r.dct_rd
    obtain ⟨zs, hk, h64, q⟩ := q
    have hlen : ks.length = ds.length := by
      obtain ⟨_, _, _, _, hl, _⟩ := Rep.dct_iff.mp r
      exact hl
    have hkeys : vs.map (·.1) = zs.map Sum.inr := by
      rw [kr.1, ← hk]
      exact List.map_fst_zip (by omega)
    refine ⟨a, vs, zs, rfl, .inl ha, hkeys, h64, fun ys l hp hs2 hl => hE S' H' ρ' W' _ _ l e' c ?_ hl (q ys hp hs2)⟩
    have := Reps.map_v (K := X.K) (S := S') (H := H') (ys.map V.str)
    rw [List.map_map] at this
    exact this
  · exact q.elim
/-- d.get(k) -/
def dDGet1 (fo fi : TD) : TD := fun ρ W Q Qx => fo ρ W (fun x ρ1 W1 => (∃ ks ds, x = .dct ks ds) ∧ fi ρ1 W1 (fun y ρ2 W2 => match x with
  | .dct ks ds => ∃ k, keyOf y = some k ∧ Q ((valD (ks.zip ds) k).getD .non) ρ2 W2
  | _ => False) Qx) Qx
theorem ge_dget1 {apos cpos : Pos} (hu : X.A.units + 1 < cLine) (ho : GE X Wx o fo) (hi : GE X Wx i fi) (m : M1 X o "get" apos i cpos) : GE X Wx (.Call (.Attribute o "get" apos) [i] [] cpos) (dDGet1 fo fi) := by
  obtain ⟨to, po, so⟩ := ho
  obtain ⟨ti, pi, si⟩ := hi
  refine ⟨_, pe_dget1 hu po pi m, fun F S H σ ρ W Q Qx R cf hf hx hE => ?_⟩
  refine so F S H σ ρ W _ Qx _ cf hf hx fun S1 H1 ρ1 W1 d v e1 c1 r1 q1 => ?_
  obtain ⟨⟨ks, ds, rfl⟩, q1⟩ := q1
  obtain ⟨a, vs, rfl, ha, hs, kr⟩ := r1.dct_rd
  refine ⟨a, rfl, .inl ⟨vs, .inl ha⟩, ?_⟩
  refine si F S1 H1 σ ρ1 W1 _ Qx _ c1 q1 (hx.up e1) fun S2 H2 ρ2 W2 d2 v2 e2 c2 r2 q2 => ?_
  obtain ⟨k, hk, q⟩ := q2
  have ha2 := e2.keep a _ hs ha
  have kr2 := kr.up e2
  obtain ⟨k1, k2⟩ := kr2.val k
  cases hz : valD (ks.zip ds) k with
  | some z =>
    rw [hz] at q
    obtain ⟨w, hw, rw'⟩ := k1 z hz
    exact ⟨some w, .inl ⟨vs, k, .inl ha2, key_rep hk r2, hw.symm⟩, hE S2 H2 ρ2 W2 z w (e1.trans e2) c2 rw' q⟩
  | none =>
    rw [hz] at q
    exact ⟨none, .inl ⟨vs, k, .inl ha2, key_rep hk r2, (k2 hz).symm⟩, hE S2 H2 ρ2 W2 .non .non (e1.trans e2) c2 (Rep.v_iff.mpr rfl) q⟩
end
end G

namespace G
open PySem PySem.Spec L2 PyProof.Rows HT
section
variable {prog : Program} {w : World} {A : Around} {E : Value → Shared → Prop} {s : Shared}
/-! ### t[::-1] -/
theorem sliceApplied_rev {sl : Addr} {vs : Value} {n : Nat} {Q : Int × Int × Nat → Shared → Prop} (hs : s.heap.IsSliceOf sl .none .none vs) (ps : IsPart vs (some (-1)))
    (h : Q ((n : Int) - 1, -1, n) s) : wpAny (model prog w) A (Builtin.Slice.sliceApplied (.ref sl) (pure (n : Int))) Q E s := by
  obtain ⟨os, hos, hcs, hds⟩ := id hs
  unfold Builtin.Slice.sliceApplied Builtin.Slice.sliceFields
  refine wpAny_bind (wpAny_bind (wpAny_field hos hds (x := .none) rfl (wpAny_bind (wpAny_field hos hds (x := .none) rfl (wpAny_bind (wpAny_field hos hds (x := vs) rfl (wpAny_pure ?_)))))))
  refine wpAny_bind (slicePart_ ps ?_)
  show wpAny _ _ (if ((-1 : Int) == 0) = true then _ else _) _ _ s
  rw [if_neg (by decide)]
  refine wpAny_bind (slicePart_none (wpAny_bind (slicePart_none (wpAny_bind (wpAny_pure ?_)))))
  show wpAny _ _ (pure ((n : Int) - 1, (-1 : Int), Builtin.Slice.slicePlaces ((n : Int) - 1) (-1) (-1))) _ _ s
  have e : Builtin.Slice.slicePlaces ((n : Int) - 1) (-1) (-1) = n := by
    unfold Builtin.Slice.slicePlaces
    rw [if_neg (by decide)]
    by_cases h0 : n = 0
    · subst h0; rfl
    · rw [if_pos (by omega)]
      have : (((n : Int) - 1 - -1 - 1) / - -1 + 1) = (n : Int) := by
        rw [show (- -1 : Int) = 1 by decide, Int.ediv_one]; omega
      rw [this, Int.toNat_natCast]
  rw [e]
  exact wpAny_pure h
theorem pick_rev (xs : Array Value) : ((List.range xs.size).filterMap fun (m : Nat) => xs[((xs.size : Int) - 1 + (m : Int) * -1).toNat]?).toArray = xs.toList.reverse.toArray := by
  have k := PySem.W.krv_pick xs
  unfold slicePick at k
  rw [PySem.W.krv_bounds] at k
  have k' : ((sliceRange ((xs.size : Int) - 1) (-1) (-1)).filterMap (xs[·]?)).toArray = xs.toList.reverse.toArray := k
  rw [PySem.W.krv_sliceRange, List.filterMap_map] at k'
  rw [← k']
  congr 2
  funext m
  show xs[((xs.size : Int) - 1 + (m : Int) * -1).toNat]? = xs[xs.size - 1 - m]?
  congr 1
  omega
theorem is_bool_gen {v : Value} {b : Bool} {Q : Value → Shared → Prop} (hv : ∀ p, v ≠ .builtin p) (h : Q (.bool (v == .bool b)) s) : wpAny (model prog w) A (compareOp .Is v (.bool b)) Q E s := by
  cases v <;> first | exact wpAny_pure h | exact absurd rfl (hv _)
theorem isnot_bool_gen {v : Value} {b : Bool} {Q : Value → Shared → Prop} (hv : ∀ p, v ≠ .builtin p) (h : Q (.bool (!(v == .bool b))) s) : wpAny (model prog w) A (compareOp .IsNot v (.bool b)) Q E s := by
  cases v <;> first | exact wpAny_pure h | exact absurd rfl (hv _)
theorem getItem_tuple_rev {t sl : Addr} {items : Array Value} {vs : Value} {Q : Value → Shared → Prop} (ht : IsTup s.heap t items) (hs : s.heap.IsSliceOf sl .none .none vs) (ps : IsPart vs (some (-1)))
    (h : Q (.ref s.heap.objs.size) { s with heap := s.heap.push { cls := .type "tuple", data := .seq items.toList.reverse.toArray } }) (hsz : items.size ≤ sizeLine) : wpAny (model prog w) A (getItem (.ref t) (.ref sl)) Q E s := by
  have htake : sizeOk (.seq items.toList.reverse.toArray) := by
    show items.toList.reverse.toArray.size ≤ sizeLine
    rw [List.size_toArray, List.length_reverse, Array.length_toList]
    exact hsz
  obtain ⟨os, hos, hcs, hds⟩ := id hs
  have hTs : s.TypeIs (.ref sl) "slice" := ⟨os, hos, hcs⟩
  unfold getItem
  try with_reducible refine wpAny_holding ?_
  first | refine wpAny_bind (wpAny_pure ?_) | skip
  refine wpAny_bind (wpAny_sequenceKey ht.typeIs (by decide) ?_)
  refine wpAny_bind (wpAny_callSpecial?_slot (name := Str.ofString "__getitem__") ht.typeIs PyProof.Rows.slot_tuple_getitem
    (wpAny_call_entry PyProof.Rows.slot_tuple_getitem ht.typeIs PyProof.Rows.entry_tuple_getitem ?_ (PyProof.Rows.args_tuple_getitem _ _)))
  show wpAny _ _ (Builtin.Tuple.tupleItemsOf (.ref t) >>= _) _ _ s
  refine wpAny_bind (tupleItemsOf_ ht ?_)
  refine wpAny_bind (wpAny_typeOf hTs ?_)
  rw [if_pos (by decide)]
  refine wpAny_bind (sliceApplied_rev hs ps ?_)
  have hno : ¬ ((((items.size : Int) - 1) == 0 && (-1 : Int) == 1 && items.size == items.size) = true) := by
    intro q
    rw [Bool.and_eq_true, Bool.and_eq_true] at q
    exact absurd q.1.2 (by decide)
  show wpAny _ _ (if (((items.size : Int) - 1) == 0 && (-1 : Int) == 1 && items.size == items.size) = true then _ else _) _ _ s
  rw [if_neg hno, pick_rev]
  first
    | exact wpAny_bind (m := Builtin.Tuple.tupleExact _) (wpAny_newObj_type (wpAny_pure ⟨_, rfl, wpAny_pure h⟩) htake)
    | exact wpAny_bind (m := Builtin.Tuple.tupleExact _) (wpAny_newObj_type (wpAny_bind (wpAny_pure (wpAny_pure ⟨_, rfl, wpAny_pure h⟩))) htake)
    | exact wpAny_bind (wpAny_bind (m := Builtin.Tuple.tupleExact _) (wpAny_newObj_type (wpAny_pure (wpAny_pure ⟨_, rfl, wpAny_pure h⟩)) htake))
    | exact wpAny_bind (wpAny_bind (m := Builtin.Tuple.tupleExact _) (wpAny_newObj_type (wpAny_pure ⟨_, rfl, wpAny_pure h⟩) htake))
end
section
variable {X : Cx}
def tRevT (K : PySem.W.Frag) (te : TE) : TE := fun σ H Q => te σ H fun x H1 => ∃ a xs, x = .ref a ∧ SqT K H1 a xs ∧ ∀ p, H1 p = none → Q (.ref p) (upd H1 p (.tup xs.reverse))
theorem pe_revT {e : Expr} {te : TE} {k : Nat} {p1 p2 p3 pos : Pos} (he : PE X e te) : PE X (.Subscript e (.Slice none none (some (.UnaryOp .USub (.Constant (.int 1) k p1) p2)) p3) pos) (tRevT X.K te) := by
  refine ⟨fun pins s σ H Q I h => ?_⟩
  refine Subscript_ (thn (he.run pins s σ H _ I h) fun v s1 ⟨x, H1, I1, r1, q1⟩ => ?_)
  obtain ⟨a, xs, ex, hx, q⟩ := q1
  subst ex
  cases r1
  have hst : PO X (some (.UnaryOp .USub (.Constant (.int 1) k p1) p2)) (tPart (tUn (rU fun i => .int (-i)) (tC (.int 1)))) := po_some (pe_un un_neg pe_int)
  refine wpAny_Slice (thn (po_none.run pins s1 σ H1 (fun o H2 => o = none ∧ H2 = H1) I1 ⟨rfl, rfl⟩) fun vl s2 ⟨l, H2, I2, pl, el, e2⟩ => ?_)
  subst el e2
  refine thn (po_none.run pins s2 σ H2 (fun o H3 => o = none ∧ H3 = H2) I2 ⟨rfl, rfl⟩) fun vu s3 ⟨u, H3, I3, pu, eu, e3⟩ => ?_
  subst eu e3
  refine thn (hst.run pins s3 σ H3 (fun o H4 => o = some (-1) ∧ H4 = H3) I3 ⟨1, rfl, -1, rfl, rfl, rfl⟩) fun vs s4 ⟨o, H4, I4, ps, eo, e4⟩ => ?_
  subst eo e4
  have I5 : Inv X pins σ H4 { s4 with heap := s4.heap.push { cls := .type "slice", data := .fields #[vl, vu, vs] } } := I4.kept (t' := s4.toks) fun b ob q => Heap.get?_push_of_some _ q
  obtain ⟨its, r, ht, hz⟩ := I5.tuple hx
  have hlen := r.length
  cases pl
  cases pu
  show wpAny (model X.prog X.w) X.A (subscriptTail e (.Slice none none (some (.UnaryOp .USub (.Constant (.int 1) k p1) p2)) p3) (.ref a) (.ref s4.heap.objs.size)) (EP X pins σ Q) X.xe { s4 with heap := s4.heap.push { cls := .type "slice", data := .fields #[.none, .none, vs] } }
  refine tail_any (ops := [.ref a, .ref s4.heap.objs.size]) ht.typeIs (PyProof.Rows.slot_tuple_getitem.lookup) ?_ (by with_unfolding_all rfl)
  refine getItem_tuple_rev ht (Heap.IsSliceOf.new _ .none .none vs) ps ?_ (by rw [List.size_toArray]; omega)
  refine ⟨.ref _, _, I5.laid (t' := s4.toks) (o := .tup xs.reverse) (fun b ob q => Heap.get?_push_of_some _ q) (Nat.le_refl _) ?_, rfl, q _ (I5.hok.fresh (Nat.le_refl _))⟩
  exact ⟨by rw [List.length_reverse]; exact hz, _, r.reverse, IsTup.new _ _⟩
/-- x is True -/
def rIsBA : R2 := fun x y H Q => ∃ b : Bool, y = .bl b ∧ Q (.bl (decide (x = .bl b))) H
def rNotBA : R2 := fun x y H Q => ∃ b : Bool, y = .bl b ∧ Q (.bl (!decide (x = .bl b))) H
theorem bool_at {x : V} {v : Value} (b : Bool) (r : RelV x v) : (∀ p, v ≠ .builtin p) ∧ (v == Value.bool b) = decide (x = .bl b) := by
  cases x with
  | bl a =>
    cases r
    refine ⟨fun p q => (by cases q), ?_⟩
    rw [Bool.eq_iff_iff, beq_iff_eq, decide_eq_true_eq]
    exact ⟨fun h => by injection h with h; rw [h], fun h => by injection h with h; rw [h]⟩
  | _ => first
    | (obtain ⟨t, rfl⟩ := r; exact ⟨fun p q => by (first | cases q | (simp at q)), by simp⟩)
    | (cases r; exact ⟨fun p q => by (first | cases q | (simp at q)), by simp⟩)
theorem op_isBA : OpR X (compareOp .Is) rIsBA := by
  intro pins s σ H x y v u Q I rx ry h
  obtain ⟨b, rfl, q⟩ := h
  cases (show u = Value.bool b from ry)
  obtain ⟨h1, h2⟩ := bool_at b rx
  exact is_bool_gen h1 ⟨.bl _, H, I, by rw [h2]; rfl, q⟩
theorem op_notBA : OpR X (compareOp .IsNot) rNotBA := by
  intro pins s σ H x y v u Q I rx ry h
  obtain ⟨b, rfl, q⟩ := h
  cases (show u = Value.bool b from ry)
  obtain ⟨h1, h2⟩ := bool_at b rx
  exact isnot_bool_gen h1 ⟨.bl _, H, I, by rw [h2]; rfl, q⟩
theorem op_isA : OpR X (compareOp .Is) (fun x y H Q => (y = .non ∧ Q (.bl (decide (x = .non))) H) ∨ rIsBA x y H Q) := OpR.or op_isN op_isBA
theorem op_notA : OpR X (compareOp .IsNot) (fun x y H Q => (y = .non ∧ Q (.bl (!decide (x = .non))) H) ∨ rNotBA x y H Q) := OpR.or op_notN op_notBA
def D.isV : D → V → Bool
  | .v x, y => decide (x = y)
  | _, _ => false
def dIsA : D → D → (D → Prop) → Prop := fun d e Q => match e with
  | .v .non => Q (.bl (d.isV .non))
  | .v (.bl b) => Q (.bl (d.isV (.bl b)))
  | _ => False
def dNotA : D → D → (D → Prop) → Prop := fun d e Q => match e with
  | .v .non => Q (.bl (!d.isV .non))
  | .v (.bl b) => Q (.bl (!d.isV (.bl b)))
  | _ => False
variable {K : PySem.W.Frag}
theorem isV_rep {S : Reg} {H : Hp} {d : D} {x y : V} (r : Rep K S H d x) (hy : ∀ a, y ≠ .ref a) : decide (x = y) = d.isV y := by
  cases d with
  | v z => rw [Rep.v_iff.mp r]; rfl
  | tup ds => obtain ⟨a, _, rfl, _⟩ := Rep.tup_iff.mp r; exact decide_eq_false fun q => hy a q.symm
  | lst ds => obtain ⟨a, _, rfl, _⟩ := Rep.lst_iff.mp r; exact decide_eq_false fun q => hy a q.symm
  | scr ds => obtain ⟨a, rfl, _⟩ := Rep.scr_iff.mp r; exact decide_eq_false fun q => hy a q.symm
  | dct ks ds => obtain ⟨a, _, rfl, _⟩ := Rep.dct_iff.mp r; exact decide_eq_false fun q => hy a q.symm
  | exc c ks ds => obtain ⟨a, _, _, rfl, _⟩ := Rep.exc_iff.mp r; exact decide_eq_false fun q => hy a q.symm
  | tpf ds => obtain ⟨a, _, _, rfl, _⟩ := Rep.tpf_iff.mp r; exact decide_eq_false fun q => hy a q.symm
theorem rs_isA : RSnd K (fun x y H Q => (y = .non ∧ Q (.bl (decide (x = .non))) H) ∨ rIsBA x y H Q) dIsA := fun F S H W d e x y P R cb rd re hp k => by
  unfold dIsA at hp
  split at hp
  · rw [Rep.v_iff] at re
    exact .inl ⟨re, k _ _ H (Same.refl H) (Rep.v_iff.mpr (by rw [isV_rep rd fun a q => by cases q])) hp⟩
  · rw [Rep.v_iff] at re
    exact .inr ⟨_, re, k _ _ H (Same.refl H) (Rep.v_iff.mpr (by rw [isV_rep rd fun a q => by cases q])) hp⟩
  · exact hp.elim
theorem rs_notA : RSnd K (fun x y H Q => (y = .non ∧ Q (.bl (!decide (x = .non))) H) ∨ rNotBA x y H Q) dNotA := fun F S H W d e x y P R cb rd re hp k => by
  unfold dNotA at hp
  split at hp
  · rw [Rep.v_iff] at re
    exact .inl ⟨re, k _ _ H (Same.refl H) (Rep.v_iff.mpr (by rw [isV_rep rd fun a q => by cases q])) hp⟩
  · rw [Rep.v_iff] at re
    exact .inr ⟨_, re, k _ _ H (Same.refl H) (Rep.v_iff.mpr (by rw [isV_rep rd fun a q => by cases q])) hp⟩
  · exact hp.elim
end
section
variable {X : Cx} {Wx : WX} {e : Expr} {fe : TD} {pos : Pos} {k : Nat} {p1 p2 p3 : Pos}
def dRevT (fe : TD) : TD := fun ρ W Q Qx => fe ρ W (fun d ρ' W' => match d with | .tup ds => Q (.tup ds.reverse) ρ' W' | _ => False) Qx
theorem Reps.rev {K : PySem.W.Frag} {S : Reg} {H : Hp} : ∀ {ds : List D} {vs : List V}, Reps K S H ds vs → Reps K S H ds.reverse vs.reverse
  | [], vs, h => by rw [Reps.nil_iff.mp h]; exact Reps.nil
  | d :: ds, vs, h => by
    obtain ⟨x, r, rfl, h1, h2⟩ := Reps.cons_iff.mp h
    rw [List.reverse_cons, List.reverse_cons]
    exact (Reps.rev h2).append (Reps.cons h1 Reps.nil)
theorem ge_revT (he : GE X Wx e fe) : GE X Wx (.Subscript e (.Slice none none (some (.UnaryOp .USub (.Constant (.int 1) k p1) p2)) p3) pos) (dRevT fe) := by
  obtain ⟨te, pe, se⟩ := he
  refine ⟨_, pe_revT pe, fun F S H σ ρ W Q Qx R cf hf hx hE => ?_⟩
  refine se F S H σ ρ W _ Qx _ cf hf hx fun S' H' ρ' W' d v e' c r q => ?_
  split at q
  · obtain ⟨a, xs, rfl, h1, h2⟩ := Rep.tup_iff.mp r
    refine ⟨a, xs, rfl, h1.sq, fun p hp => ?_⟩
    have sm : Same H' (upd H' p (.tup xs.reverse)) := same_new hp
    exact hE S' _ ρ' W' _ _ (e'.trans (stp_same c.cb sm)) (c.same sm) (rep_newT c.cb hp h2.rev) q
  · exact q.elim
def dRevL (fe : TD) : TL := fun ρ W Q Qx => fe ρ W (fun d ρ' W' => match d with | .lst ds => Q ds.reverse ρ' W' | _ => False) Qx
theorem gn_revL (he : GE X Wx e fe) : GN X Wx (.Subscript e (.Slice none none (some (.UnaryOp .USub (.Constant (.int 1) k p1) p2)) p3) pos) (dRevL fe) := by
  obtain ⟨te, pe, se⟩ := he
  refine ⟨_, pe_revL pe, fun F S H σ ρ W Q Qx R cf hf hx hE => ?_⟩
  refine se F S H σ ρ W _ Qx _ cf hf hx fun S' H' ρ' W' d v e' c r q => ?_
  split at q
  · obtain ⟨a, xs, rfl, h1, h2⟩ := Rep.lst_iff.mp r
    exact ⟨a, xs, rfl, h1.sq, fun p hp => hE S' H' ρ' W' _ _ p e' c h2.rev hp q⟩
  · exact q.elim
/-- a, b, c = e1, e2, e3 with three local names -/
def dPar3 (i j l : Nat) (fl : TL) : TSD := fun De ρ W => fl ρ W (fun ds ρ' W' => match ds with | [d, d', d''] => De.nx (((ρ'.set i (some (.sh d))).set j (some (.sh d'))).set l (some (.sh d''))) W' | _ => False) De.ex
theorem gs_par3 {i j l : Nat} {x y z : Str} {a b c : Expr} {fl : TL} {px py pz pt : Pos} {kt k2 pt2} (hc : X.calm = true) (hN : X.N.Nodup) (hi : X.N[i]? = some x) (hj : X.N[j]? = some y) (hl : X.N[l]? = some z) (hij : i ≠ j) (hil : i ≠ l) (hjl : j ≠ l)
    (hx : X.env.scope.names.lookup x = some .local) (hy : X.env.scope.names.lookup y = some .local) (hz : X.env.scope.names.lookup z = some .local) (ha : GA X Wx [a, b, c] fl)
    (hw : swappedStores [.Tuple [.Name x px, .Name y py, .Name z pz] kt pt] (.Tuple [a, b, c] k2 pt2) X.env = pure (some [x, y, z]))
    (hs : swapsWithSole [.Tuple [.Name x px, .Name y py, .Name z pz] kt pt] (.Tuple [a, b, c] k2 pt2) pos.line X.env = pure false := by rfl) :
    GS X Wx (.Assign [.Tuple [.Name x px, .Name y py, .Name z pz] kt pt] (.Tuple [a, b, c] k2 pt2) pos) (dPar3 i j l fl) := by
  obtain ⟨ta, pa, sa⟩ := ha
  refine ⟨_, ps_par3 hc hN hi hj hl hij hil hjl hx hy hz pa hw hs, fun F S H σ ρ W De Dh cf hf lk => ?_⟩
  refine sa F S H σ ρ W _ De.ex _ cf hf lk.ex fun S' H' ρ' W' ds vs e' c r q => ?_
  split at q
  · rename_i d d' d''
    obtain ⟨v, rv, rfl, r1, r2⟩ := Reps.cons_iff.mp r
    obtain ⟨w, rw', rfl, r3, r4⟩ := Reps.cons_iff.mp r2
    obtain ⟨u, ru, rfl, r5, r6⟩ := Reps.cons_iff.mp r4
    rw [Reps.nil_iff.mp r6]
    exact ⟨v, w, u, rfl, lk.nx S' H' _ _ W' e' (((c.setSh i r1).setSh j r3).setSh l r5) q⟩
  · exact q.elim
end
end G

namespace G
open PySem PySem.Spec L2
/-! ### repr -/
def rRepr (K : PySem.W.Frag) : List V → Hp → VK → Prop := fun xs H Q => ∃ (v : V) (d : PyData), xs = [v] ∧ Dp K H v d ∧ d.showable = true ∧ d.hasDict = false ∧ d.depth ≤ 60 ∧ d.shown.length ≤ sizeLine ∧ Q (.str d.shown) H
theorem cr_repr {X : Cx} (hu : X.A.units + 64 < cLine) (hg : X.A.guards = some []) : CallR X (.builtin "repr") (rRepr X.K) := by
  intro pins s σ H vs us Q I r h
  obtain ⟨v, d, rfl, dp, hs, hd, h60, hz, q⟩ := h
  cases r with
  | cons rel r' =>
  cases r'
  cases dp with
  | non =>
    cases rel
    exact P.repr_of_none ⟨.str _, H, I.tok _, ⟨_, rfl⟩, by rw [PyData.shown] at q; exact q⟩
  | bl b =>
    cases rel
    exact P.repr_of_bool ⟨.str _, H, I.tok _, ⟨_, rfl⟩, by rw [PyData.shown] at q; exact q⟩
  | int i =>
    obtain ⟨t, rfl⟩ := rel
    have : i.natAbs.log2 < 1920 := by simpa [PyData.showable] using hs
    exact P.repr_of_int this ⟨.str _, H, I.tok _, ⟨_, rfl⟩, by rw [PyData.shown] at q; exact q⟩
  | str x =>
    obtain ⟨t, rfl⟩ := rel
    exact P.repr_of_str ⟨.str _, H, I.tok _, ⟨_, rfl⟩, by rw [PyData.shown] at q; exact q⟩ (by rw [PyData.shown] at hz; exact hz)
  | lst h1 h2 =>
    cases rel
    obtain ⟨as, rd⟩ := Dp.reads I _ _ (Value.ref _) (.lst h1 h2) rfl
    exact repr_of_reads' rd hs (PyData.noDict_hsm hd) hg (by omega) (fun _ _ e => e) (fun h' u tk hk => ⟨.str _, H, I.kept hk, ⟨u, rfl⟩, q⟩) hz
  | tup h1 h2 =>
    cases rel
    obtain ⟨as, rd⟩ := Dp.reads I _ _ (Value.ref _) (.tup h1 h2) rfl
    exact repr_of_reads' rd hs (PyData.noDict_hsm hd) hg (by omega) (fun _ _ e => e) (fun h' u tk hk => ⟨.str _, H, I.kept hk, ⟨u, rfl⟩, q⟩) hz
@[irreducible] def shownD (d : D) : Str := d.py.shown
def dRepr : List D → (D → Prop) → Prop := fun ds Q => match ds with
  | [d] => D.good 60 d = true ∧ d.py.showable = true ∧ (shownD d).length ≤ sizeLine ∧ Q (.str (shownD d))
  | _ => False
theorem cs_repr {K : PySem.W.Frag} : CSnd K (rRepr K) dRepr := fun F S H W ds xs P R cb rd hp k => by
  unfold dRepr at hp
  split at hp
  · obtain ⟨x, rfl, h⟩ := reps1 rd
    obtain ⟨h1, h2, h3, h4⟩ := hp
    unfold shownD at h3 h4
    obtain ⟨l1, l2⟩ := lay_of h1
    exact ⟨x, _, rfl, dp_of h1 h, h2, PyData.hasDict_of_canLay _ l1, l2, h3, k _ _ H (Same.refl H) (Rep.v_iff.mpr rfl) h4⟩
  · exact hp.elim
/-! ### how long it is -/
mutual
def wt : D → Nat
  | .v .non => 5
  | .v (.bl _) => 6
  | .v (.int i) => i.natAbs.log2 + 3
  | .v (.str s) => 10 * s.length + 2
  | .tup ds => wts ds + 5
  | .lst ds => wts ds + 5
  | _ => 0
def wts : List D → Nat
  | [] => 0
  | d :: ds => wt d + 2 + wts ds
end
theorem wts_app : ∀ a b : List D, wts (a ++ b) = wts a + wts b
  | [], b => by simp [wts]
  | d :: a, b => by
    rw [List.cons_append, wts, wts, wts_app a b]; omega
theorem wts_mem : ∀ {ds : List D} {d : D}, d ∈ ds → wt d + 2 ≤ wts ds
  | e :: ds, d, h => by
    rw [wts]
    rcases List.mem_cons.mp h with rfl | h
    · omega
    · have := wts_mem h; omega
theorem wts_len : ∀ ds : List D, 2 * ds.length ≤ wts ds
  | [] => Nat.zero_le _
  | d :: ds => by rw [wts, List.length_cons]; have := wts_len ds; omega
theorem wts_sub : ∀ {a b : List D}, a.Sublist b → wts a ≤ wts b
  | _, _, .slnil => Nat.le_refl _
  | _, _, .cons x h => by rw [wts]; have := wts_sub h; omega
  | _, _, .cons₂ x h => by rw [wts, wts]; have := wts_sub h; omega
mutual
def iOk : D → Bool
  | .v (.int i) => decide (i.natAbs.log2 < 1920)
  | .tup ds => iOks ds
  | .lst ds => iOks ds
  | .scr _ => false
  | _ => true
def iOks : List D → Bool
  | [] => true
  | d :: ds => iOk d && iOks ds
end
theorem iOks_all : ∀ ds : List D, iOks ds = ds.all iOk
  | [] => rfl
  | d :: ds => by rw [iOks, List.all_cons, iOks_all ds]
theorem goods_all (n : Nat) : ∀ ds : List D, goods n ds = ds.all (D.good n)
  | [] => rfl
  | d :: ds => by rw [goods, List.all_cons, goods_all n ds]
mutual
theorem show_of : ∀ {n : Nat} {d : D}, D.good n d = true → iOk d = true → d.py.showable = true ∧ d.py.shown.length ≤ wt d
  | _, .v .non, _, _ => by rw [D.py, PyData.shown, wt]; exact ⟨rfl, by decide +kernel⟩
  | _, .v (.bl b), _, _ => by rw [D.py, PyData.shown, wt]; exact ⟨rfl, by cases b <;> decide +kernel⟩
  | _, .v (.int i), _, h => by
    rw [iOk, decide_eq_true_eq] at h
    rw [D.py, PyData.shown, wt, PyData.showable]
    have := int_text_length_le (a := i) (k := i.natAbs.log2 + 1) (by omega) (by omega)
    refine ⟨decide_eq_true h, ?_⟩
    rw [ofString_length]; omega
  | _, .v (.str b), g, _ => by
    rw [D.good] at g
    rw [D.py, PyData.shown, wt, PyData.showable]
    refine ⟨rfl, StrLaws.reprText_len b fun c hc => ?_⟩
    unfold PyData.strOk at g
    rw [Array.all_eq_true_iff_forall_mem] at g
    have := g c (by simpa using hc)
    have : c < 0x110000 := by simpa using this
    omega
  | _, .v (.byt _), h, _ => by simp [D.good] at h
  | _, .v (.flt _), h, _ => by simp [D.good] at h
  | _, .v (.ref _), h, _ => by simp [D.good] at h
  | _, .v (.ty _), h, _ => by simp [D.good] at h
  | 0, .tup _, h, _ => by simp [D.good] at h
  | 0, .lst _, h, _ => by simp [D.good] at h
  | 0, .scr _, h, _ => by simp [D.good] at h
  | 0, .dct _ _, h, _ => by simp [D.good] at h
  | _ + 1, .dct _ _, h, _ => by simp [D.good] at h
  | 0, .exc _ _ _, h, _ => by simp [D.good] at h
  | _ + 1, .exc _ _ _, h, _ => by simp [D.good] at h
  | 0, .tpf _, h, _ => by simp [D.good] at h
  | _ + 1, .tpf _, h, _ => by simp [D.good] at h
  | n + 1, .tup ds, g, h => by
    obtain ⟨a1, a2⟩ := shows_of (n := n) (ds := ds) (by simpa [D.good] using g) (by simpa [iOk] using h)
    rw [D.py, PyData.shown, wt, PyData.showable]
    have := tupleText_len_le (PyData.shownAll (pys ds))
    exact ⟨a1, by omega⟩
  | n + 1, .lst ds, g, h => by
    obtain ⟨a1, a2⟩ := shows_of (n := n) (ds := ds) (by simpa [D.good] using g) (by simpa [iOk] using h)
    rw [D.py, PyData.shown, wt, PyData.showable]
    have := listText_len_le (PyData.shownAll (pys ds))
    exact ⟨a1, by omega⟩
  | n + 1, .scr ns, g, h => by simp [iOk] at h
theorem shows_of : ∀ {n : Nat} {ds : List D}, goods n ds = true → iOks ds = true → PyData.showableAll (pys ds) = true ∧ ((PyData.shownAll (pys ds)).map (·.length)).sum + 2 * (PyData.shownAll (pys ds)).length ≤ wts ds
  | _, [], _, _ => by rw [pys, PyData.shownAll, wts]; exact ⟨rfl, by simp⟩
  | n, d :: ds, g, h => by
    rw [goods, Bool.and_eq_true] at g
    rw [iOks, Bool.and_eq_true] at h
    obtain ⟨a1, a2⟩ := show_of g.1 h.1
    obtain ⟨b1, b2⟩ := shows_of g.2 h.2
    rw [pys, PyData.shownAll, wts, PyData.showableAll, a1, b1]
    rw [List.map_cons, List.sum_cons, List.length_cons]
    exact ⟨rfl, by omega⟩
end
mutual
theorem good_up : ∀ {n m : Nat} {d : D}, n ≤ m → D.good n d = true → D.good m d = true
  | _, _, .v .non, _, _ => by simp [D.good]
  | _, _, .v (.bl _), _, _ => by simp [D.good]
  | _, _, .v (.int _), _, _ => by simp [D.good]
  | _, _, .v (.str b), _, g => by rw [D.good] at g ⊢; exact g
  | _, _, .v (.byt _), _, h => by simp [D.good] at h
  | _, _, .v (.flt _), _, h => by simp [D.good] at h
  | _, _, .v (.ref _), _, h => by simp [D.good] at h
  | _, _, .v (.ty _), _, h => by simp [D.good] at h
  | 0, _, .tup _, _, h => by simp [D.good] at h
  | 0, _, .lst _, _, h => by simp [D.good] at h
  | 0, _, .scr _, _, h => by simp [D.good] at h
  | 0, _, .dct _ _, _, h => by simp [D.good] at h
  | _ + 1, _, .dct _ _, _, h => by simp [D.good] at h
  | 0, _, .exc _ _ _, _, h => by simp [D.good] at h
  | _ + 1, _, .exc _ _ _, _, h => by simp [D.good] at h
  | 0, _, .tpf _, _, h => by simp [D.good] at h
  | _ + 1, _, .tpf _, _, h => by simp [D.good] at h
  | n + 1, 0, _, l, _ => absurd l (by omega)
  | n + 1, m + 1, .tup ds, l, g => by
    rw [D.good] at g ⊢
    exact goods_up (by omega) g
  | n + 1, m + 1, .lst ds, l, g => by
    rw [D.good] at g ⊢
    exact goods_up (by omega) g
  | n + 1, m + 1, .scr _, _, _ => by simp [D.good]
theorem goods_up : ∀ {n m : Nat} {ds : List D}, n ≤ m → goods n ds = true → goods m ds = true
  | _, _, [], _, _ => by simp [goods]
  | n, m, d :: ds, l, g => by
    rw [goods, Bool.and_eq_true] at g ⊢
    exact ⟨good_up l g.1, goods_up l g.2⟩
end
/-- data of this depth and weight at most -/
structure Nice (n B : Nat) (d : D) : Prop where
  good : D.good n d = true
  ok : iOk d = true
  le : wt d ≤ B
structure NiceL (n B : Nat) (ds : List D) : Prop where
  good : goods n ds = true
  ok : iOks ds = true
  le : wts ds ≤ B
theorem Nice.up {n B m C : Nat} {d : D} (h : Nice n B d) (h1 : n ≤ m) (h2 : B ≤ C) : Nice m C d := ⟨good_up h1 h.good, h.ok, Nat.le_trans h.le h2⟩
theorem NiceL.up {n B m C : Nat} {d : List D} (h : NiceL n B d) (h1 : n ≤ m) (h2 : B ≤ C) : NiceL m C d := ⟨goods_up h1 h.good, h.ok, Nat.le_trans h.le h2⟩
theorem NiceL.nil {n B : Nat} : NiceL n B [] := ⟨rfl, rfl, Nat.zero_le _⟩
theorem NiceL.cons {n B C : Nat} {d : D} {ds : List D} (h : Nice n B d) (t : NiceL n C ds) : NiceL n (B + 2 + C) (d :: ds) := by
  refine ⟨?_, ?_, ?_⟩
  · rw [goods, h.good, t.good]; rfl
  · rw [iOks, h.ok, t.ok]; rfl
  · rw [wts]; have := h.le; have := t.le; omega
theorem NiceL.app {n B C : Nat} {a b : List D} (h : NiceL n B a) (t : NiceL n C b) : NiceL n (B + C) (a ++ b) := by
  refine ⟨?_, ?_, ?_⟩
  · rw [goods_all, List.all_append, ← goods_all, ← goods_all, h.good, t.good]; rfl
  · rw [iOks_all, List.all_append, ← iOks_all, ← iOks_all, h.ok, t.ok]; rfl
  · rw [wts_app]; have := h.le; have := t.le; omega
theorem NiceL.mem {n B : Nat} {ds : List D} {d : D} (h : NiceL n B ds) (hd : d ∈ ds) : Nice n B d := by
  refine ⟨?_, ?_, ?_⟩
  · have := h.good; rw [goods_all, List.all_eq_true] at this; exact this d hd
  · have := h.ok; rw [iOks_all, List.all_eq_true] at this; exact this d hd
  · have := wts_mem hd; have := h.le; omega
theorem NiceL.of {n B : Nat} {ds : List D} {C : Nat} (h : ∀ d ∈ ds, Nice n B d) (hc : ds.length * (B + 2) ≤ C) : NiceL n C ds := by
  induction ds generalizing C with
  | nil => exact .nil
  | cons d ds ih =>
    rw [List.length_cons, Nat.add_mul, Nat.one_mul] at hc
    have a := h d List.mem_cons_self
    have b := ih (C := ds.length * (B + 2)) (fun x hx => h x (List.mem_cons_of_mem _ hx)) (Nat.le_refl _)
    exact (NiceL.cons a b).up (Nat.le_refl _) (by omega)
theorem NiceL.sub {n B : Nat} {a b : List D} (h : NiceL n B b) (s : a.Sublist b) : NiceL n B a := by
  refine ⟨?_, ?_, Nat.le_trans (wts_sub s) h.le⟩
  · have := h.good; rw [goods_all, List.all_eq_true] at this ⊢; exact fun d hd => this d (s.subset hd)
  · have := h.ok; rw [iOks_all, List.all_eq_true] at this ⊢; exact fun d hd => this d (s.subset hd)
theorem NiceL.rev {n B : Nat} {a : List D} (h : NiceL n B a) : NiceL n B a.reverse := by
  have e : ∀ l : List D, wts l.reverse = wts l := fun l => by
    induction l with
    | nil => rfl
    | cons d l ih => rw [List.reverse_cons, wts_app, ih, wts, wts, wts]; omega
  refine ⟨?_, ?_, by rw [e]; exact h.le⟩
  · have := h.good; rw [goods_all] at this ⊢; rw [List.all_reverse]; exact this
  · have := h.ok; rw [iOks_all] at this ⊢; rw [List.all_reverse]; exact this
theorem NiceL.len {n B : Nat} {ds : List D} (h : NiceL n B ds) : 2 * ds.length ≤ B := Nat.le_trans (wts_len ds) h.le
theorem Nice.tup {n B : Nat} {ds : List D} (h : NiceL n B ds) : Nice (n + 1) (B + 5) (.tup ds) := ⟨by rw [D.good]; exact h.good, by rw [iOk]; exact h.ok, by rw [G.wt]; have := h.le; omega⟩
theorem Nice.lst {n B : Nat} {ds : List D} (h : NiceL n B ds) : Nice (n + 1) (B + 5) (.lst ds) := ⟨by rw [D.good]; exact h.good, by rw [iOk]; exact h.ok, by rw [G.wt]; have := h.le; omega⟩
theorem Nice.untup {n B : Nat} {ds : List D} (h : Nice (n + 1) B (.tup ds)) : NiceL n B ds := ⟨by have := h.good; rwa [D.good] at this, by have := h.ok; rwa [iOk] at this, by have := h.le; rw [G.wt] at this; omega⟩
theorem Nice.unlst {n B : Nat} {ds : List D} (h : Nice (n + 1) B (.lst ds)) : NiceL n B ds := ⟨by have := h.good; rwa [D.good] at this, by have := h.ok; rwa [iOk] at this, by have := h.le; rw [G.wt] at this; omega⟩
theorem Nice.slen {n B : Nat} {s : Str} (h : Nice n B (.str s)) : s.length ≤ B := by have := h.le; rw [G.wt] at this; omega
theorem Nice.str {n B : Nat} {s : Str} (h : PyData.strOk s = true) (hB : 10 * s.length + 2 ≤ B) : Nice n B (.str s) := ⟨by rw [D.good]; exact h, rfl, by rw [G.wt]; exact hB⟩
theorem Nice.int {n B : Nat} {i : Int} (h : i.natAbs.log2 + 3 ≤ B) (hi : i.natAbs.log2 < 1920) : Nice n B (.int i) := ⟨by simp [D.good], by rw [iOk, decide_eq_true_eq]; exact hi, by rw [G.wt]; exact h⟩
theorem Nice.bl {n B : Nat} {b : Bool} (h : 6 ≤ B) : Nice n B (.bl b) := ⟨by simp [D.good], rfl, by rw [G.wt]; exact h⟩
theorem Nice.non {n B : Nat} (h : 5 ≤ B) : Nice n B .non := ⟨by simp [D.good], rfl, by rw [G.wt]; exact h⟩
theorem repr_nice {n B : Nat} {d : D} (h : Nice n B d) (hn : n ≤ 60) (hB : B ≤ 16777216) {Q : D → Prop} (q : Q (.str (shownD d))) : dRepr [d] Q := by
  obtain ⟨a, b⟩ := show_of h.good h.ok
  refine ⟨good_up hn h.good, a, ?_, q⟩
  unfold shownD
  have := h.le
  rw [show sizeLine = 16777216 from rfl]; omega
end G

namespace G
open PySem PySem.Spec L2
/-! ### x.pop(k, e), x the frame's own dict -/
section
variable {X : Cx} {Wx : WX} {i e : Expr} {fi fx : TD}
def dDPopO (j : Nat) (fi fx : TD) : TD := fun ρ W Q Qx => (∃ kvs, ρ[j]? = some (some (.od kvs))) ∧ fi ρ W (fun y ρ2 W2 => fx ρ2 W2 (fun z ρ3 W3 => match ρ3[j]? with
  | some (some (.om (.dK kvs))) => ∃ k, keyOf y = some k ∧ (match valD kvs k with
    | some v => Q v (ρ3.set j (some (.od (dropD kvs k)))) W3
    | none => Q z ρ3 W3)
  | _ => False) Qx) Qx
theorem ge_dpopO {j : Nat} {x : Str} {px apos cpos : Pos} (hi : GE X Wx i fi) (he : GE X Wx e fx) (m : M2 X (.Name x px) "pop" apos i e cpos) (hN : X.N[j]? = some x := by rfl) (hv : Vis X.env.scope x := by first | exact Or.inl rfl | exact Or.inr (Or.inl rfl) | exact Or.inr (Or.inr rfl)) (hd : (x == ("__debug__" : Str)) = false := by decide) (hcd : (x == ("__classdict__" : Str)) = false := by decide) :
    GE X Wx (.Call (.Attribute (.Name x px) "pop" apos) [i, e] [] cpos) (dDPopO j fi fx) := by
  obtain ⟨ti, pi, si⟩ := hi
  obtain ⟨te, pe, se⟩ := he
  refine ⟨_, pe_dpop2 (pe_var hN hv hd hcd) pi pe m, fun F S H σ ρ W Q Qx R cf hf hx hE => ?_⟩
  obtain ⟨⟨kvs0, h0⟩, hf⟩ := hf
  obtain ⟨p, hp, ⟨vs0, m0, _⟩, _⟩ := cf.om j _ h0
  refine ⟨_, hp, p, rfl, .inl ⟨_, .inl m0⟩, ?_⟩
  refine si F S H σ ρ W _ Qx _ cf hf hx fun S2 H2 ρ2 W2 d2 v2 e2 c2 r2 q2 => ?_
  refine se F S2 H2 σ ρ2 W2 _ Qx _ c2 q2 (hx.up e2) fun S3 H3 ρ3 W3 d3 v3 e3 c3 r3 q3 => ?_
  split at q3
  · rename_i kvs hk0
    obtain ⟨k, hk, q⟩ := q3
    obtain ⟨p', hp', ⟨vs, h1, kr⟩, _⟩ := c3.om j _ hk0
    rw [hp] at hp'; cases hp'
    have kr : KR X.K S3 H3 kvs vs := kr
    refine ⟨vs, k, h1, key_rep hk r2, fun v hv => ?_, fun hv => ?_⟩
    · cases z : valD kvs k with
      | none => rw [(KR.val k kr).2 z] at hv; cases hv
      | some d =>
        rw [z] at q
        obtain ⟨v', hv', rv⟩ := (KR.val k kr).1 d z
        rw [hv] at hv'; cases hv'
        obtain ⟨st, c4⟩ := c3.chOm (u := .dK (dropK vs k)) (o1 := .dK (dropD kvs k)) hk0 hp fun S' H' e' hh => ⟨_, hh, (kr.drop k).up e'⟩
        exact hE S3 _ _ W3 d v ((e2.trans e3).trans (st.mono fun _ h => h)) c4 (rv.up st) q
    · cases z : valD kvs k with
      | some d =>
        obtain ⟨v', hv', rv⟩ := (KR.val k kr).1 d z
        rw [hv] at hv'; cases hv'
      | none =>
        rw [z] at q
        exact hE S3 H3 ρ3 W3 d3 v3 (e2.trans e3) c3 r3 q
  · exact q3.elim
end
/-! ### {k: v, ..}, for reading alone -/
section
variable {K : PySem.W.Frag} {F S : Reg} {H : Hp} {σ : St} {ρ : Env} {W : Wd} {p : Addr} {u : HO}
/-- a new object that nobody else may touch -/
theorem Cf.reg (c : Cf K F S H σ ρ W) (hp : H p = none) : Stp F S H (fun a => S a ∨ a = p) (upd H p u) ∧ Cf K (fun a => F a ∨ a = p) (fun a => S a ∨ a = p) (upd H p u) σ ρ W := by
  have st : Stp F S H (fun a => S a ∨ a = p) (upd H p u) :=
    ⟨fun a o _ h => same_new hp a o h, fun a h1 h2 => by
      rcases h1 with h1 | h1
      · exact absurd h1 h2
      · rw [h1]; exact hp, fun a h => by
      by_cases ha : a = p
      · rw [ha]; exact hp
      · rw [upd_ne ha] at h; exact h, fun a hf => by
      have : a ≠ p := fun q => by
        rw [q] at hf
        exact c.cb.sd p (c.cb.fs p hf) hp
      rw [upd_ne this]⟩
  have np : ∀ a, S a → a ≠ p := fun a hs q => c.cb.sd a hs (by rw [q]; exact hp)
  refine ⟨st, ⟨⟨fun a h => ?_, fun a h => ?_, fun q o hw => ?_⟩, c.len, fun j d h => ?_, fun j o h => ?_, c.dis⟩⟩
  · rcases h with h | h
    · rw [upd_ne (np a h)]; exact c.cb.sd a h
    · rw [h, upd_same]; simp
  · exact h.imp (c.cb.fs a) id
  · obtain ⟨h1, h2, h3⟩ := c.cb.w q o hw
    exact ⟨.inl h1, fun z => z.elim h2 (np q h1), h3.up st (upd_ne (np q h1))⟩
  · obtain ⟨w, h1, h2⟩ := c.sh j d h
    exact ⟨w, h1, h2.up st⟩
  · obtain ⟨q, h1, h2, h3, h4, h5⟩ := c.om j o h
    exact ⟨q, h1, h2.up st (upd_ne (np q h3)), .inl h3, fun z => z.elim h4 (np q h3), h5⟩
/-- it is let go -/
theorem Cf.unreg (c : Cf K (fun a => F a ∨ a = p) S H σ ρ W) (nf : ¬ F p) : Stp F S H (fun a => S a ∧ a ≠ p) (upd H p u) ∧ Cf K F (fun a => S a ∧ a ≠ p) (upd H p u) σ ρ W ∧ Stp (fun _ => False) S H (fun a => S a ∧ a ≠ p) (upd H p u) := by
  have sp : S p := c.cb.fs p (.inr rfl)
  have st : Stp F S H (fun a => S a ∧ a ≠ p) (upd H p u) :=
    ⟨fun a o h e => by
      have : a ≠ p := fun q => h (q ▸ sp)
      rw [upd_ne this]; exact e, fun a h1 h2 => absurd h1.1 h2, fun a h => by
      by_cases ha : a = p
      · rw [ha, upd_same] at h; cases h
      · rw [upd_ne ha] at h; exact h, fun a hf => by
      have : a ≠ p := fun q => nf (q ▸ hf)
      rw [upd_ne this]⟩
  refine ⟨st, ⟨⟨fun a h => ?_, fun a h => ⟨c.cb.fs a (.inl h), fun q => nf (q ▸ h)⟩, fun q o hw => ?_⟩, c.len, fun j d h => ?_, fun j o h => ?_, c.dis⟩, st.mono fun _ h => h.elim⟩
  · rw [upd_ne h.2]; exact c.cb.sd a h.1
  · obtain ⟨h1, h2, h3⟩ := c.cb.w q o hw
    have ne : q ≠ p := fun z => h2 (.inr z)
    exact ⟨⟨h1, ne⟩, fun z => h2 (.inl z), h3.up st (upd_ne ne)⟩
  · obtain ⟨w, h1, h2⟩ := c.sh j d h
    exact ⟨w, h1, h2.up st⟩
  · obtain ⟨q, h1, h2, h3, h4, h5⟩ := c.om j o h
    have ne : q ≠ p := fun z => h4 (.inr z)
    exact ⟨q, h1, h2.up st (upd_ne ne), ⟨h3, ne⟩, fun z => h4 (.inl z), h5⟩
end
def dPrs : List (TD × TD) → Env → Wd → (List (D × D) → Env → Wd → Prop) → KX → Prop
  | [], ρ, W, Q, _ => Q [] ρ W
  | (fk, fv) :: r, ρ, W, Q, Qx => fk ρ W (fun x ρ1 W1 => fv ρ1 W1 (fun y ρ2 W2 => dPrs r ρ2 W2 (fun ps => Q ((x, y) :: ps)) Qx) Qx) Qx
/-- the pairs, a later one in the place of an earlier one -/
def putsD (kvs : List (Key × D)) : List (Key × D) := kvs.foldl (fun acc kv => putD acc kv.1 kv.2) []
def dDisp (fs : List (TD × TD)) : TD := fun ρ W Q Qx => dPrs fs ρ W (fun ps ρ' W' => ∃ kvs : List (Key × D), ps = kvs.map (fun kv => (keyD kv.1, kv.2)) ∧ kvs.length ≤ 15 ∧ Q (.dk (putsD kvs)) ρ' W') Qx
section
variable {K : PySem.W.Frag} {Wx : WX}
def SPs (K : PySem.W.Frag) (Wx : WX) : List (TE × TE) → List (TD × TD) → Prop
  | [], [] => True
  | a :: r, b :: s => Snd K Wx a.1 b.1 ∧ Snd K Wx a.2 b.2 ∧ SPs K Wx r s
  | _, _ => False
def RPs (K : PySem.W.Frag) (S : Reg) (H : Hp) : List (D × D) → List (V × V) → Prop
  | [], [] => True
  | a :: r, b :: s => Rep K S H a.1 b.1 ∧ Rep K S H a.2 b.2 ∧ RPs K S H r s
  | _, _ => False
theorem snd_prs : ∀ {trs : List (TE × TE)} {fs : List (TD × TD)}, SPs K Wx trs fs → ∀ (F S : Reg) (H : Hp) (σ : St) (ρ : Env) (W : Wd) (Q : List (D × D) → Env → Wd → Prop) (Qx : KX) (R : List (V × V) → Hp → Prop), Cf K F S H σ ρ W → dPrs fs ρ W Q Qx → LkX K F S H Wx Qx →
    (∀ S' H' ρ' W' ps vs, Stp F S H S' H' → Cf K F S' H' σ ρ' W' → RPs K S' H' ps vs → Q ps ρ' W' → R vs H') → tPairs trs σ H R
  | [], [], _, F, S, H, σ, ρ, W, Q, Qx, R, c, h, _, hE => hE S H ρ W [] [] .refl c trivial h
  | (_, _) :: _, (_, _) :: _, hs, F, S, H, σ, ρ, W, Q, Qx, R, c, h, hx, hE => by
    obtain ⟨s1, s2, s3⟩ := hs
    refine s1 F S H σ ρ W _ Qx _ c h hx fun S1 H1 ρ1 W1 d v e1 c1 r1 q1 => ?_
    refine s2 F S1 H1 σ ρ1 W1 _ Qx _ c1 q1 (hx.up e1) fun S2 H2 ρ2 W2 d2 v2 e2 c2 r2 q2 => ?_
    refine snd_prs s3 F S2 H2 σ ρ2 W2 _ Qx _ c2 q2 (hx.up (e1.trans e2)) fun S3 H3 ρ3 W3 ps vs e3 c3 r3 q3 => ?_
    exact hE S3 H3 ρ3 W3 ((d, d2) :: ps) ((v, v2) :: vs) ((e1.trans e2).trans e3) c3 ⟨r1.up (e2.trans e3), r2.up e3, r3⟩ q3
  | [], _ :: _, h, _, _, _, _, _, _, _, _, _, _, _, _, _ => h.elim
  | _ :: _, [], h, _, _, _, _, _, _, _, _, _, _, _, _, _ => h.elim
theorem keyOf_keyD (k : Key) : keyOf (keyD k) = some k := by cases k <;> rfl
theorem kr_of_rps {S : Reg} {H : Hp} : ∀ {kvs : List (Key × D)} {vs : List (V × V)}, RPs K S H (kvs.map fun kv => (keyD kv.1, kv.2)) vs → ∃ ws : List (Key × V), vs = ws.map (fun kv => (kV kv.1, kv.2)) ∧ ws.length = kvs.length ∧ KR K S H kvs ws
  | [], [], _ => ⟨[], rfl, rfl, KR.nil⟩
  | [], _ :: _, h => h.elim
  | _ :: _, [], h => h.elim
  | (k, d) :: kvs, (x, y) :: vs, h => by
    obtain ⟨h1, h2, h3⟩ := h
    obtain ⟨ws, e, l, kr⟩ := kr_of_rps h3
    refine ⟨(k, y) :: ws, ?_, by rw [List.length_cons, List.length_cons, l], KR.cons_iff.mpr ⟨y, ws, rfl, h2, kr⟩⟩
    have : x = kV k := key_rep (keyOf_keyD k) h1
    rw [e, this]; rfl
theorem kr_merge {S : Reg} {H : Hp} : ∀ {more : List (Key × D)} {ws : List (Key × V)} {kvs : List (Key × D)} {vs : List (Key × V)}, KR K S H more ws → KR K S H kvs vs → KR K S H (more.foldl (fun acc kv => putD acc kv.1 kv.2) kvs) (mergeK vs ws)
  | [], ws, kvs, vs, h, h2 => by
    have : ws = [] := by
      have := h.1
      simpa using this
    subst this
    exact h2
  | (k, d) :: more, ws, kvs, vs, h, h2 => by
    obtain ⟨v, r, rfl, rv, kr⟩ := KR.cons_iff.mp h
    show KR K S H (more.foldl _ (putD kvs k d)) (mergeK (putK vs k v) r)
    exact kr_merge (more := more) kr (h2.put k rv)
theorem upd_id {H : Hp} {p : Addr} {u : HO} (h : H p = some u) : upd H p u = H := by
  funext a
  by_cases e : a = p
  · rw [e, upd_same, h]
  · rw [upd_ne e]
variable {X : Cx} {pos : Pos} {keys : List (Option Expr)} {values : List Expr} {k v : Expr} {fk fv : TD} {fs : List (TD × TD)}
def GPs (X : Cx) (Wx : WX) (pos : Pos) (keys : List (Option Expr)) (values : List Expr) (fs : List (TD × TD)) : Prop := ∃ trs, PPs X pos keys values trs ∧ SPs X.K Wx trs fs
theorem gps_nil : GPs X Wx pos [] [] [] := ⟨[], pps_nil, trivial⟩
theorem gps_cons (hk : GE X Wx k fk) (hv : GE X Wx v fv) (h : GPs X Wx pos keys values fs) : GPs X Wx pos (some k :: keys) (v :: values) ((fk, fv) :: fs) := by
  obtain ⟨tk, pk, sk⟩ := hk
  obtain ⟨tv, pv, sv⟩ := hv
  obtain ⟨trs, pr, sr⟩ := h
  exact ⟨_, pps_cons pk pv pr, sk, sv, sr⟩
theorem ge_disp (h : GPs X Wx pos keys values fs) (hall : keys.all (·.isSome) = true := by rfl) (hl : keys.length = values.length := by rfl) (h0 : keys ≠ [] := by decide) (h15 : keys.length ≤ 15 := by decide) : GE X Wx (.Dict keys values pos) (dDisp fs) := by
  obtain ⟨trs, pr, sr⟩ := h
  refine ⟨_, pe_disp pr hall hl h0 h15, fun F S H σ ρ W Q Qx R cf hf hx hE => ?_⟩
  intro p hp
  have nS : ¬ S p := fun z => cf.cb.sd p z hp
  have nF : ¬ F p := fun z => nS (cf.cb.fs p z)
  obtain ⟨st, c1⟩ := cf.reg (u := .dK []) hp
  refine snd_prs sr _ _ _ σ ρ W _ Qx _ c1 hf (fun S' H' σ' ρ' W' cls x od e c xr q => ?_) fun S' H' ρ' W' ps vs e c r q => ?_
  · have hp2 : H' p = some (.dK []) := (e.frn p (.inr rfl)).trans upd_same
    obtain ⟨s1, c2, s2⟩ := c.unreg (u := .dK []) nF
    rw [upd_id hp2] at s1 c2 s2
    refine hx _ H' σ' ρ' W' cls x od ((st.trans (e.mono fun _ z => .inl z)).trans s1) c2 ?_ q
    cases x with
    | none => exact xr
    | some fs =>
      obtain ⟨a, vs, h1, h2, h3, h4, h5⟩ := xr
      exact ⟨a, vs, h1, h2, fun z => h3 z.1, h4, h5.up s2⟩
  · have hp2 : H' p = some (.dK []) := (e.frn p (.inr rfl)).trans upd_same
    obtain ⟨kvs, rfl, hl15, q⟩ := q
    obtain ⟨ws, rfl, lw, kr⟩ := kr_of_rps r
    refine ⟨hp2, ws, rfl, by rw [lw]; exact hl15, ?_⟩
    obtain ⟨s1, c2, s2⟩ := c.unreg (u := .dK (mergeK [] ws)) nF
    refine hE _ _ ρ' W' _ _ ((st.trans (e.mono fun _ z => .inl z)).trans s1) c2 (Rep.dk_of upd_same (fun z => z.2 rfl) ?_) q
    exact kr_merge (kr.up s2) KR.nil
end
/-! ### x + e, x the frame's own list -/
section
variable {X : Cx} {Wx : WX} {e : Expr} {fe : TD} {pos : Pos}
def dCatO (k : Nat) (fe : TD) : TL := fun ρ W Q Qx => (∃ ds, ρ[k]? = some (some (.ol ds))) ∧ fe ρ W (fun d ρ' W' => match ρ'[k]?, d with
  | some (some (.om (.lst ds))), .lst xs => ds.length + xs.length ≤ sizeLine ∧ Q (ds ++ xs) ρ' W'
  | _, _ => False) Qx
theorem gn_catO (k : Nat) {x : Str} {px : Pos} (he : GE X Wx e fe) (hN : X.N[k]? = some x := by rfl) (hv : Vis X.env.scope x := by first | exact Or.inl rfl | exact Or.inr (Or.inl rfl) | exact Or.inr (Or.inr rfl)) (hd : (x == ("__debug__" : Str)) = false := by decide) (hcd : (x == ("__classdict__" : Str)) = false := by decide) :
    GN X Wx (.BinOp (.Name x px) .Add e pos) (dCatO k fe) := by
  obtain ⟨te, pe, se⟩ := he
  refine ⟨_, pe_op op_cat (pe_var hN hv hd hcd) pe, fun F S H σ ρ W Q Qx R cf hf hx hE => ?_⟩
  obtain ⟨⟨ds0, h0⟩, hf⟩ := hf
  obtain ⟨p, xs0, hp, _⟩ := cf.ol k ds0 h0
  refine ⟨_, hp, ?_⟩
  refine se F S H σ ρ W _ Qx _ cf hf hx fun S2 H2 ρ2 W2 d2 v2 e2 c2 r2 q2 => ?_
  split at q2
  · rename_i ds xs hk
    obtain ⟨p', ys, hp', h2, h3, _⟩ := c2.ol k ds hk
    rw [hp] at hp'; cases hp'
    obtain ⟨b, zs, rfl, h4, h5⟩ := Rep.lst_iff.mp r2
    exact ⟨p, b, ys, zs, rfl, rfl, h2, h4.1, by rw [h3.length, h5.length]; exact q2.1, fun p' hn => hE S2 H2 ρ2 W2 (ds ++ xs) (ys ++ zs) p' e2 c2 (h3.append h5) hn q2.2⟩
  · exact q2.elim
end
/-! ### x, y = [..], e through a tuple: x the frame's own list -/
section
variable {X : Cx} {Wx : WX} {a b : Expr} {fl : TL} {fe : TD} {pos : Pos}
theorem gs_parU1 {i j : Nat} {x y : Str} {px py pt : Pos} {kt k2 pt2} (hc : X.calm = true) (hN : X.N.Nodup) (hi : X.N[i]? = some x) (hj : X.N[j]? = some y) (hx : Loc X.env.scope x) (hy : Loc X.env.scope y) (ha : GN X Wx a fl) (hb : GE X Wx b fe)
    (he : starEach [a, b] X.env = (false, eval a X.env) :: starEach [b] X.env := by rfl) (he2 : starEach [b] X.env = (false, eval b X.env) :: starEach [] X.env := by rfl)
    (hs : swapsWithSole [.Tuple [.Name x px, .Name y py] kt pt] (.Tuple [a, b] k2 pt2) pos.line X.env = pure false := by rfl) (hw : swappedStores [.Tuple [.Name x px, .Name y py] kt pt] (.Tuple [a, b] k2 pt2) X.env = pure none := by rfl)
    (h1 : (assignEach [.Tuple [.Name x px, .Name y py] kt pt] X.env).map (·.2) = [assign (.Tuple [.Name x px, .Name y py] kt pt) X.env] := by rfl)
    (hn : (assignEach [.Name x px, .Name y py] X.env).length = 2 := by rfl) (hst : (assignEach [.Name x px, .Name y py] X.env).findIdx? (·.1) = none := by rfl)
    (g1 : (assignEach [.Name x px, .Name y py] X.env).map (·.2) = assign (.Name x px) X.env :: (assignEach [.Name y py] X.env).map (·.2) := by rfl) (g2 : (assignEach [.Name y py] X.env).map (·.2) = assign (.Name y py) X.env :: (assignEach [] X.env).map (·.2) := by rfl)
    (fx : X.fn x = true ∨ X.env.scope.names.lookup x = some .local := by first | exact .inl rfl | exact .inr rfl) (fy : X.fn y = true ∨ X.env.scope.names.lookup y = some .local := by first | exact .inl rfl | exact .inr rfl) :
    GS X Wx (.Assign [.Tuple [.Name x px, .Name y py] kt pt] (.Tuple [a, b] k2 pt2) pos) (dParO1 i j fl fe) := by
  obtain ⟨ta, pa, sa⟩ := ha
  obtain ⟨tb, pb, sb⟩ := hb
  refine ⟨_, ps_asg (pe_tup (pa_cons pa (pa_cons pb pa_nil he2) he)) (pg_tup hc (pgs_cons (pg_name hN hi hx fx) (pgs_cons (pg_name hN hj hy fy) pgs_nil g2) g1) hn hst) hs hw h1, fun F S H σ ρ W De Dh cf hf l => ?_⟩
  refine sa F S H σ ρ W _ De.ex _ cf hf l.ex fun S1 H1 ρ1 W1 ds xs p e1 c1 r1 hp q1 => ?_
  obtain ⟨ea, ca⟩ := c1.alien (o := .lst xs) hp
  refine sb (Add F p) (Add S1 p) (upd H1 p (.lst xs)) σ ρ1 W1 _ noX _ ca q1 lkx_none fun S2 H2 ρ2 W2 d v e2 c2 r2 q2 => ?_
  refine ⟨by show 2 ≤ sizeLine; decide, fun p' hp' => ?_⟩
  refine ⟨p', _, rfl, .inl (.inl upd_same), rfl, _, _, rfl, _, _, rfl, rfl, ?_⟩
  have hp2 : H2 p = some (.lst xs) := (e2.frn p (.inr rfl)).trans upd_same
  have e2' := e2.mono (F' := F) fun _ h => .inl h
  have rr := (r1.up ea).up e2'
  obtain ⟨b1, b2, b3, b4, b5⟩ := c1.alienBack hp (ea.trans e2') c2 rr hp2
  have sp : S2 p := c2.cb.fs p (.inr rfl)
  have r2' := r2.del sp
  obtain ⟨st, c4⟩ := b2.newOl i b4 b3
  rw [b5] at st c4
  have sm : Same H2 (upd H2 p' (.tup [.ref p, v])) := same_new hp'
  have c5 := c4.setSh j (r2'.up st)
  exact l.nx _ _ _ _ W2 (((e1.trans b1).trans st).trans (stp_same c5.cb sm)) (c5.same sm) q2
end
/-! ### e in x, x the frame's own list -/
section
variable {X : Cx} {Wx : WX} {e : Expr} {fe : TD} {pos : Pos} {neg : Bool}
def dInO (neg : Bool) (fe : TD) (k : Nat) : TD := fun ρ W Q Qx => fe ρ W (fun d ρ' W' => match ρ'[k]?, d with
  | some (some (.om (.lst ds))), .v x => ∃ vs, flatOf ds = some vs ∧ flatV x = true ∧ vs.all flatV = true ∧ Q (.bl (if neg then !inV x vs else inV x vs)) ρ' W'
  | _, _ => False) Qx
theorem snd_inO (k : Nat) {K : PySem.W.Frag} {te : TE} (se : Snd K Wx te fe) : Snd K Wx (tOp (rIn K neg) te (tVar k)) (dInO neg fe k) := by
  intro F S H σ ρ W Q Qx R cf hf hx hE
  refine se F S H σ ρ W _ Qx _ cf hf hx fun S2 H2 ρ2 W2 d2 v2 e2 c2 r2 q2 => ?_
  split at q2
  · rename_i ds x hk
    obtain ⟨p, ys, hp, h2, h3, _⟩ := c2.ol k ds hk
    obtain ⟨vs, f1, f2, f3, q⟩ := q2
    cases Rep.v_iff.mp r2
    rw [reps_flat f1 h3] at h2
    exact ⟨_, hp, p, vs, rfl, .inl (SqL.of h2), f2, f3, hE S2 H2 ρ2 W2 _ _ e2 c2 (Rep.v_iff.mpr rfl) q⟩
  · exact q2.elim
theorem ge_inO (k : Nat) {x : Str} {px : Pos} (he : GE X Wx e fe) (hN : X.N[k]? = some x := by rfl) (hv : Vis X.env.scope x := by first | exact Or.inl rfl | exact Or.inr (Or.inl rfl) | exact Or.inr (Or.inr rfl)) (hd : (x == ("__debug__" : Str)) = false := by decide) (hcd : (x == ("__classdict__" : Str)) = false := by decide) :
    GE X Wx (.Compare e [.In] [.Name x px] pos) (dInO false fe k) := by
  obtain ⟨te, pe, se⟩ := he
  exact ⟨_, pe_cmpR op_in_seq pe (pe_var hN hv hd hcd) rfl, snd_inO k se⟩
theorem ge_niO (k : Nat) {x : Str} {px : Pos} (he : GE X Wx e fe) (hN : X.N[k]? = some x := by rfl) (hv : Vis X.env.scope x := by first | exact Or.inl rfl | exact Or.inr (Or.inl rfl) | exact Or.inr (Or.inr rfl)) (hd : (x == ("__debug__" : Str)) = false := by decide) (hcd : (x == ("__classdict__" : Str)) = false := by decide) :
    GE X Wx (.Compare e [.NotIn] [.Name x px] pos) (dInO true fe k) := by
  obtain ⟨te, pe, se⟩ := he
  exact ⟨_, pe_cmpR op_notIn_seq pe (pe_var hN hv hd hcd) rfl, snd_inO k se⟩
theorem gt_inO (k : Nat) {x : Str} {px : Pos} (he : GE X Wx e fe) (hN : X.N[k]? = some x := by rfl) (hv : Vis X.env.scope x := by first | exact Or.inl rfl | exact Or.inr (Or.inl rfl) | exact Or.inr (Or.inr rfl)) (hd : (x == ("__debug__" : Str)) = false := by decide) (hcd : (x == ("__classdict__" : Str)) = false := by decide) :
    GT X Wx (.Compare e [.In] [.Name x px] pos) (dBool (dInO false fe k)) := by
  obtain ⟨te, pe, se⟩ := he
  exact ⟨_, pt_cmpR op_in_seq pe (pe_var hN hv hd hcd) rfl, snd_tB (snd_inO k se)⟩
theorem gt_niO (k : Nat) {x : Str} {px : Pos} (he : GE X Wx e fe) (hN : X.N[k]? = some x := by rfl) (hv : Vis X.env.scope x := by first | exact Or.inl rfl | exact Or.inr (Or.inl rfl) | exact Or.inr (Or.inr rfl)) (hd : (x == ("__debug__" : Str)) = false := by decide) (hcd : (x == ("__classdict__" : Str)) = false := by decide) :
    GT X Wx (.Compare e [.NotIn] [.Name x px] pos) (dBool (dInO true fe k)) := by
  obtain ⟨te, pe, se⟩ := he
  exact ⟨_, pt_cmpR op_notIn_seq pe (pe_var hN hv hd hcd) rfl, snd_tB (snd_inO k se)⟩
end
end G

namespace G
open PySem PySem.Spec L2
/-! ### raise C("..") -/
section
variable {X : Cx} {Wx : WX}
def dRaise (c : Value) : TSD := fun De ρ W => De.ex c none ρ W
/-- what is known of a class whose instances are raised -/
structure ExcAt (K : PySem.W.Frag) (mg : Str → Option Value) (x : Str) (C : Addr) : Prop where
  mg : mg x = some (.ref C)
  ex : PySem.W.excIn K C [.type "ValueError", .type "Exception", .type "BaseException", .type "object"] "ValueError.__new__" = true
  kp : PySem.W.keepIn K (.ref C) = true
  sb : PySem.W.subIn K (.ref C) (.type "BaseException") = some true
  ty : PySem.W.typeIn K (.ref C) = some (.type "type")
theorem gs_raise {x m : Str} {C : Addr} {j : Nat} {p p2 pos pos' : Pos} (hc : X.calm = true) (tk : Takes X Wx) (F : ExcAt X.K X.mg x C) (hg : Gl X x := by rfl) (hdb : (x == ("__debug__" : Str)) = false := by decide) :
    GS X Wx (.Raise (some (.Call (.Name x p) [.Constant (.str m) j p2] [] pos)) none pos') (dRaise (.ref C)) :=
  ⟨_, ps_raise hc tk (pmk_own PySem.F.excBase_ValueError F.ex F.mg F.kp (raises_own F.sb F.ty) hg hdb), fun F S H σ ρ W De Dh cf hf l => l.ex S H σ ρ W _ none none .refl cf rfl hf⟩
end
/-! ### try: .. except .. -/
/-- the weakest reading over the heap that a reading over data allows -/
def tOf (K : PySem.W.Frag) (Wx : WX) (f : TSD) : TS := fun D σ H => ∃ F S ρ W De, Cf K F S H σ ρ W ∧ f De ρ W ∧ Lnk K Wx F S H De D
theorem pss_tOf {X : Cx} {Wx : WX} {st : List Stmt} {f : TSD} (h : GSs X Wx st f) : PSs X st (tOf X.K Wx f) := by
  obtain ⟨t, pt, sg⟩ := h
  refine ⟨fun pins s σ H D I q => ?_⟩
  obtain ⟨F, S, ρ, W, De, cf, hf, l⟩ := q
  exact pt.run pins s σ H D I (sg F S H σ ρ W De D cf hf l)
def WXno : WX := fun _ _ _ _ => False
end G

namespace G
open PySem PySem.Spec L2
/-! ### sorted of a list of tuples, their items ints and texts, one shape -/
abbrev TKey := List (Int ⊕ List Nat)
def keyV (sh : Nat → Bool) : Nat → List V → Option TKey
  | _, [] => some []
  | i, .int n :: r => if sh i = true then none else (keyV sh (i + 1) r).map (Sum.inl n :: ·)
  | i, .str x :: r => if sh i = true then (keyV sh (i + 1) r).map (Sum.inr x.cps.toList :: ·) else none
  | _, _ => none
def keyDs (sh : Nat → Bool) : Nat → List D → Option TKey
  | _, [] => some []
  | i, .v (.int n) :: r => if sh i = true then none else (keyDs sh (i + 1) r).map (Sum.inl n :: ·)
  | i, .v (.str x) :: r => if sh i = true then (keyDs sh (i + 1) r).map (Sum.inr x.cps.toList :: ·) else none
  | _, _ => none
def tlt (a b : TKey) : Bool := PyProof.Rows.lexLt PyProof.Rows.itemOrd a b
theorem keyDs_v {K : PySem.W.Frag} {S : Reg} {H : Hp} {sh : Nat → Bool} : ∀ {i : Nat} {ds : List D} {vs : List V} {k : TKey}, Reps K S H ds vs → keyDs sh i ds = some k → keyV sh i vs = some k
  | i, [], vs, k, r, h => by cases Reps.nil_iff.mp r; exact h
  | i, d :: ds, vs, k, r, h => by
    obtain ⟨x, y, rfl, r1, r2⟩ := Reps.cons_iff.mp r
    unfold keyDs at h
    split at h
    · rename_i e; cases e
    · rename_i n r' e
      cases e
      cases Rep.v_iff.mp r1
      split at h
      · cases h
      · rename_i c
        obtain ⟨k', h1, rfl⟩ := Option.map_eq_some_iff.mp h
        unfold keyV
        rw [if_neg c, keyDs_v r2 h1]; rfl
    · rename_i n r' e
      cases e
      cases Rep.v_iff.mp r1
      split at h
      · rename_i c
        obtain ⟨k', h1, rfl⟩ := Option.map_eq_some_iff.mp h
        unfold keyV
        rw [if_pos c, keyDs_v r2 h1]; rfl
      · cases h
    · cases h
theorem keyV_items {sh : Nat → Bool} : ∀ {i : Nat} {vs : List V} {us : List Value} {k : TKey}, Vals vs us → keyV sh i vs = some k → PyProof.Rows.tupItems sh i us = some k
  | i, [], _, k, .nil, h => h
  | i, x :: vs, _, k, .cons (b := u) r t, h => by
    unfold keyV at h
    split at h
    · rename_i e; cases e
    · rename_i n r' e
      cases e
      obtain ⟨tk, rfl⟩ := (show ∃ t, u = Value.int n t from r)
      split at h
      · cases h
      · rename_i c
        obtain ⟨k', h1, rfl⟩ := Option.map_eq_some_iff.mp h
        unfold PyProof.Rows.tupItems
        rw [if_neg c, keyV_items t h1]; rfl
    · rename_i n r' e
      cases e
      obtain ⟨tk, rfl⟩ := (show ∃ t, u = Value.str n t from r)
      split at h
      · rename_i c
        obtain ⟨k', h1, rfl⟩ := Option.map_eq_some_iff.mp h
        unfold PyProof.Rows.tupItems
        rw [if_pos c, keyV_items t h1]; rfl
      · cases h
    · cases h
/-- x is a tuple of that key -/
def HasKey (K : PySem.W.Frag) (H : Hp) (sh : Nat → Bool) (x : V) (k : TKey) : Prop := ∃ t zs, x = .ref t ∧ SqT K H t zs ∧ keyV sh 0 zs = some k
def rSortT (K : PySem.W.Frag) (sh : Nat → Bool) : List V → Hp → VK → Prop := fun vs H Q => ∃ (a : Addr) (xs : List V), vs = [V.ref a] ∧ SqL K H a xs ∧ (∀ x ∈ xs, ∃ k, HasKey K H sh x k ∧ k ≠ []) ∧
  ∀ ys p, ys.Perm xs → ys.Pairwise (fun x y => ∀ kx ky, HasKey K H sh x kx → HasKey K H sh y ky → tlt ky kx = false) → H p = none → Q (.ref p) (upd H p (.lst ys))
theorem key_c {X : Cx} {pins : List (Addr × Obj)} {σ : St} {H : Hp} {s : Shared} (I : Inv X pins σ H s) {sh : Nat → Bool} {x : V} {u : Value} {k : TKey} (r : RelV x u) (h : HasKey X.K H sh x k) :
    PyProof.Rows.G.tupKeyC s.heap sh u = some k ∧ (k ≠ [] → ∃ f, PyProof.Rows.TupOf s.heap sh u f) := by
  obtain ⟨t, zs, rfl, hs, hk⟩ := h
  cases (show u = Value.ref t from r)
  obtain ⟨its, rv, ⟨o, ho, hc, n, hd⟩, _⟩ := I.tuple hs
  have e := keyV_items rv hk
  have hd' : o.data = .seq its.toArray n := hd
  refine ⟨?_, fun hne => ?_⟩
  · unfold PyProof.Rows.G.tupKeyC
    have h1 : PyProof.Rows.G.isTupObj s.heap (.ref t) = true := by
      simp only [PyProof.Rows.G.isTupObj, ho, hc]
      decide
    rw [if_pos h1]
    simp only [PyProof.Rows.tupKey, ho, hd']
    exact e
  · cases rv with
    | nil => cases hk; exact absurd rfl hne
    | cons r0 rt =>
      unfold keyV at hk
      split at hk
      · rename_i e; cases e
      · rename_i m r' e'
        cases e'
        obtain ⟨tk, rfl⟩ := r0
        by_cases c : sh 0 = true
        · rw [if_pos c] at hk; cases hk
        · exact ⟨.int m tk, t, o, _, n, rfl, ho, hc, hd', by simp, fun _ => ⟨_, _, rfl⟩, fun z => absurd z c⟩
      · rename_i m r' e'
        cases e'
        obtain ⟨tk, rfl⟩ := r0
        by_cases c : sh 0 = true
        · exact ⟨.str m tk, t, o, _, n, rfl, ho, hc, hd', by simp, fun z => absurd c (by rw [z]; decide), fun _ => ⟨_, _, rfl⟩⟩
        · rw [if_neg c] at hk; cases hk
      · cases hk
theorem tups_c {X : Cx} {pins : List (Addr × Obj)} {σ : St} {H : Hp} {s : Shared} (I : Inv X pins σ H s) {sh : Nat → Bool} : ∀ {xs : List V} {us : List Value}, Vals xs us → (∀ x ∈ xs, ∃ k, HasKey X.K H sh x k ∧ k ≠ []) → ∃ fs, PyProof.Rows.TupsOf s.heap sh us fs
  | _, _, .nil, _ => ⟨[], .nil⟩
  | _, _, .cons r t, h => by
    obtain ⟨fs, q⟩ := tups_c I t fun x hx => h x (List.mem_cons_of_mem _ hx)
    obtain ⟨k, h1, h2⟩ := h _ List.mem_cons_self
    obtain ⟨f, p⟩ := (key_c I r h1).2 h2
    exact ⟨f :: fs, .cons p q⟩
theorem back_rel : ∀ {u : Value}, (∃ a, u = Value.ref a) → RelV (backV u) u := fun ⟨a, e⟩ => by subst e; exact (rfl : Value.ref a = Value.ref a)
open PyProof.Rows in
theorem cr_sortT {X : Cx} (sh : Nat → Bool) : CallR X (.builtin "sorted") (rSortT X.K sh) := by
  intro pins s σ H vs us Q I r h
  obtain ⟨a, xs, rfl, hs, hx, q⟩ := h
  obtain ⟨its, rv, hl, hz⟩ := I.list hs
  rw [Vals.ref1 r]
  obtain ⟨e1, e2⟩ := refs_back rv fun x m => by
    obtain ⟨k, ⟨t, _, e, _⟩, _⟩ := hx x m
    exact ⟨t, e⟩
  obtain ⟨fs, ht⟩ := tups_c I rv hx
  have hk : ∀ v ∈ its, ∃ k, PyProof.Rows.G.tupKeyC s.heap sh v = some k ∧ HasKey X.K H sh (backV v) k := fun v hv => by
    have m : backV v ∈ xs := by rw [e1]; exact List.mem_map.mpr ⟨v, hv, rfl⟩
    obtain ⟨k, h1, _⟩ := hx _ m
    exact ⟨k, (key_c I (back_rel (e2 v hv)) h1).1, h1⟩
  refine PyProof.Rows.G.sorted_tups (shape := sh) hl.isList ht (fun v hv => ⟨_, (hk v hv).choose_spec.1⟩) (by rw [← rv.length]; exact hz) fun st' a1 a2 a3 => ?_
  have p1 : (arrOf st').toList.Perm (its.zip its) := by
    have := Array.perm_iff_toList_perm.mp a1
    rwa [pairsOf_toList] at this
  have hm : ∀ p ∈ (arrOf st').toList, p.1 = p.2 ∧ p.1 ∈ its := fun p hp => mem_zip_self (p1.mem_iff.mp hp)
  obtain ⟨ep, he'⟩ := PyProof.Rows.sortedAll_at s.heap its ((arrOf st').map (·.2))
  have ho : ((arrOf st').map (·.2)).toList = (arrOf st').toList.map (·.2) := by simp
  have p2 : ((arrOf st').toList.map (·.2)).Perm its := by
    have z := p1.map Prod.snd
    rw [List.map_snd_zip (Nat.le_refl _)] at z
    exact z
  have hr : ∀ u ∈ (arrOf st').toList.map (·.2), ∃ a, u = Value.ref a := fun u hu => e2 u (p2.mem_iff.mp hu)
  have hp : (((arrOf st').toList.map (·.2)).map backV).Perm xs := by rw [e1]; exact p2.map backV
  have hsz : (arrOf st').toList.length = (pairsOf its).size := by
    rw [pairsOf_size, p1.length_eq, List.length_zip, Nat.min_self]
  refine ⟨.ref _, upd H (s.heap.objs.size + 1) (.lst (((arrOf st').toList.map (·.2)).map backV)), I.laid (t' := s.toks) (fun _ _ => PyProof.Rows.sortedAll_old) (Nat.le_succ _) ⟨by rw [hp.length_eq]; exact hz, _, ep, vals_back hr, by rw [← ho]; exact he'⟩, rfl, q _ _ hp ?_ (I.hok.fresh (Nat.le_succ _))⟩
  rw [List.map_map, List.pairwise_iff_getElem]
  intro i j hi hj hij kx ky gx gy
  rw [List.length_map] at hi hj
  rw [List.getElem_map] at gx gy
  have hji : j < (pairsOf its).size := by rw [← hsz]; exact hj
  have w := a2 i j (Nat.le_of_lt hij) hji
  have key : ∀ (n : Nat) (hn : n < (arrOf st').toList.length) (k : TKey), HasKey X.K H sh ((backV ∘ fun x => x.2) (arrOf st').toList[n]) k → KK (PyProof.Rows.G.tupKindC s.heap sh) (arrOf st') n = k := fun n hn k g => by
    obtain ⟨m1, m2⟩ := hm _ (List.getElem_mem hn)
    have g2 := (key_c I (back_rel (e2 _ (show (arrOf st').toList[n].2 ∈ its by rw [← m1]; exact m2))) g).1
    unfold KK
    have e : (arrOf st')[n]? = some (arrOf st').toList[n] := by rw [← Array.getElem?_toList]; exact List.getElem?_eq_getElem hn
    rw [e]
    show (PyProof.Rows.G.tupKeyC s.heap sh (arrOf st').toList[n].1).getD [] = k
    rw [m1, g2]
    rfl
  rw [key i hi kx gx, key j hj ky gy] at w
  exact w
/-! over data -/
theorem reps_perm {K : PySem.W.Frag} {S : Reg} {H : Hp} {xs ys : List V} (p : ys.Perm xs) : ∀ {ds : List D}, Reps K S H ds xs → ∃ es, es.Perm ds ∧ Reps K S H es ys := by
  induction p with
  | nil => exact fun h => ⟨_, .refl _, h⟩
  | cons x p ih =>
    intro ds h
    cases ds with
    | nil => cases Reps.nil_iff.mp h
    | cons d ds =>
      obtain ⟨x', r, e, h1, h2⟩ := Reps.cons_iff.mp h
      cases e
      obtain ⟨es, e1, e2⟩ := ih h2
      exact ⟨d :: es, e1.cons d, Reps.cons h1 e2⟩
  | swap x y l =>
    intro ds h
    cases ds with
    | nil => cases Reps.nil_iff.mp h
    | cons d ds =>
      obtain ⟨x', r, e, h1, h2⟩ := Reps.cons_iff.mp h
      cases e
      cases ds with
      | nil => cases Reps.nil_iff.mp h2
      | cons d2 ds =>
        obtain ⟨x', r, e, h3, h4⟩ := Reps.cons_iff.mp h2
        cases e
        exact ⟨d2 :: d :: ds, .swap _ _ _, Reps.cons h3 (Reps.cons h1 h4)⟩
  | trans p1 p2 i1 i2 =>
    intro ds h
    obtain ⟨es, a1, a2⟩ := i2 h
    obtain ⟨fs, b1, b2⟩ := i1 a2
    exact ⟨fs, b1.trans a1, b2⟩
def dSortT (sh : Nat → Bool) (fe : TD) : TL := fun ρ W Q Qx => fe ρ W (fun d ρ' W' => match d with
  | .lst ds => ∃ k : D → TKey, (∀ d ∈ ds, ∃ its, d = .tup its ∧ keyDs sh 0 its = some (k d) ∧ k d ≠ []) ∧ ∀ ys : List D, ys.Perm ds → ys.Pairwise (fun x y => tlt (k y) (k x) = false) → Q ys ρ' W'
  | _ => False) Qx
section
variable {X : Cx} {Wx : WX} {e : Expr} {fe : TD} {pos : Pos}
theorem gn_sortT (sh : Nat → Bool) {x : Str} {p : Pos} (hg : Gl X x) (hm : X.mg x = none) (hv : bootBuiltins x = some (.builtin "sorted")) (ha : GE X Wx e fe) (hn : x ≠ "__name__" := by decide) (hdb : (x == ("__debug__" : Str)) = false := by decide)
    (he : starEach [e] X.env = (false, eval e X.env) :: starEach [] X.env := by rfl) (hpl : (backTo pos (starEach [] X.env)).any (·.1) = false := by rfl) : GN X Wx (.Call (.Name x p) [e] [] pos) (dSortT sh fe) := by
  obtain ⟨te, pe, se⟩ := ha
  refine ⟨_, pe_callB (cr_sortT sh) hg hm hv (pa_cons pe pa_nil he) hn hdb he hpl, fun F S H σ ρ W Q Qx R cf hf hx hE => ?_⟩
  refine se F S H σ ρ W _ Qx _ cf hf hx fun S' H' ρ' W' d v e' c r q => ?_
  split at q
  · rename_i ds
    obtain ⟨a, xs, rfl, ha, hr⟩ := Rep.lst_iff.mp r
    obtain ⟨k, hk, q⟩ := q
    have hkey : ∀ (n : Nat) (d : D) (x : V), d ∈ ds → Rep X.K S' H' d x → HasKey X.K H' sh x (k d) ∧ k d ≠ [] := fun n d x hd hr => by
      obtain ⟨its, rfl, h1, h2⟩ := hk d hd
      obtain ⟨t, zs, rfl, h3, h4⟩ := Rep.tup_iff.mp hr
      exact ⟨⟨t, zs, rfl, h3.sq, keyDs_v h4 h1⟩, h2⟩
    refine ⟨a, xs, rfl, ha.sq, fun x hx => ?_, fun ys l hp hs hl => ?_⟩
    · obtain ⟨i, hi, rfl⟩ := List.getElem_of_mem hx
      obtain ⟨d, h1, h2⟩ := hr.get' (List.getElem?_eq_getElem hi)
      exact ⟨k d, hkey 0 d _ (List.mem_of_getElem? h1) h2⟩
    · obtain ⟨es, h1, h2⟩ := reps_perm hp hr
      refine hE S' H' ρ' W' es ys l e' c h2 hl (q es h1 ?_)
      rw [List.pairwise_iff_getElem] at hs ⊢
      intro i j hi hj hij
      obtain ⟨x, a1, a2⟩ := h2.get (List.getElem?_eq_getElem hi)
      obtain ⟨y, b1, b2⟩ := h2.get (List.getElem?_eq_getElem hj)
      obtain ⟨hi', rfl⟩ := List.getElem?_eq_some_iff.mp a1
      obtain ⟨hj', rfl⟩ := List.getElem?_eq_some_iff.mp b1
      exact hs i j hi' hj' hij _ _ (hkey 0 _ _ (h1.mem_iff.mp (List.getElem_mem hi)) a2).1 (hkey 0 _ _ (h1.mem_iff.mp (List.getElem_mem hj)) b2).1
  · exact q.elim
end
end G

namespace G
open PySem PySem.Spec L2
/-! ### try: .. with several clauses, each with a name or without; a named exception is tracked, and may be kept -/
theorem exH_ok {P : Program} {w : World} {H : Hp} {h : Heap} {a : Addr} {c : Value} {od : Option Addr} {oe : Obj} {vs : Array Value} (e : h.get? a = some oe) (z : Zc c od oe) (d : oe.data = .fields vs) : ObjOk P w H h a (ExH c od a) :=
  ⟨⟨oe, vs, e, z, d⟩, ⟨oe, e⟩, fun _ _ ⟨o, v, q, r⟩ k => ⟨o, v, k o q, r⟩⟩
section
variable {X : Cx} {pins : List (Addr × Obj)} {σ : St} {H : Hp} {sI s s' : Shared}
/-- an object that stands is tracked from here on: it was not there at the entry -/
theorem track {a : Addr} {o : HO} (J : Inv X pins σ H sI) (hI : sI.heap.get? a = none) (I : Inv X pins σ H s') (na : H a = none) (nL : a ≠ X.env.locals) (new : ObjOk X.prog X.w (upd H a o) s'.heap a o) : Inv X pins σ (upd H a o) s' where
  ok := I.ok
  os := I.os
  bare := I.bare
  base := ⟨I.base.keep, I.base.slot, fun b u q n hx => by
      rw [upd_ne (fun z => by
        obtain ⟨o', e⟩ := J.base.there b u q hx
        rw [z, hI] at e; cases e)]
      exact I.base.free b u q n hx, I.base.there,
    fun b xs q => by have := I.base.tups b xs q; rw [upd_ne (ne_of_none this na)]; exact this,
    fun b u v q => by have := I.base.frzs b u v q; rw [upd_ne (ne_of_none this na)]; exact this,
    fun b ps q => by obtain ⟨m, this⟩ := I.base.tbls b ps q; exact ⟨m, by rw [upd_ne (ne_of_none this na)]; exact this⟩⟩
  loc := I.loc
  cell := I.cell
  free := by rw [upd_ne (Ne.symm nL)]; exact I.free
  freeC := fun x c e => by
    rw [upd_ne (fun z => by
      obtain ⟨v, q⟩ := J.cell x c e
      obtain ⟨o', q, _⟩ := q
      rw [z, hI] at q
      cases q)]
    exact I.freeC x c e
  pin := fun p hp => by
    obtain ⟨p1, p2, p3, p4, p5⟩ := I.pin p hp
    refine ⟨p1, ?_, p3, p4, p5⟩
    rw [upd_ne (fun z => by
      obtain ⟨q, _⟩ := J.pin p hp
      rw [z, hI] at q; cases q)]
    exact p2
  hok := fun b u e => by
    by_cases hb : b = a
    · subst hb
      rw [upd_same] at e
      cases e
      exact new
    · rw [upd_ne hb] at e
      exact (I.hok b u e).stay (fun _ _ _ q => q) (fun c q => by rw [upd_ne (ne_of_none q na)]; exact q) fun c xs q => by rw [upd_ne (ne_of_none q na)]; exact q
  len := I.len
/-- into a suite whose exception is tracked, and out of it -/
theorem suite0 {a : Addr} (I : Inv X pins σ H s) : Inv (X.suite a (X.pn ++ pins)) [] σ H s :=
  ⟨I.ok.suite _ _, I.os, I.bare, I.base, I.loc, I.cell, I.free, I.freeC, fun p hp => I.pin p (by rw [List.append_nil] at hp; exact hp), I.hok, I.len⟩
theorem unsuite0 {a : Addr} {pn' : List (Addr × Obj)} (I : Inv (X.suite a (X.pn ++ pins)) pn' σ H s) (ok : X.Ok) : Inv X pins σ H s :=
  ⟨ok, I.os, I.bare, I.base, I.loc, I.cell, I.free, I.freeC, fun p hp => I.pin p (List.mem_append_left _ hp), I.hok, I.len⟩
end
abbrev HdT := Value × Option Nat × (Addr → Value → Option Addr → TS)
/-- the ends of a suite whose name goes -/
def gone (D : Ends) (i : Nat) : Ends := { nx := fun σ' H' => D.nx (σ'.set i none) H', rt := D.rt, bk := fun σ' H' => D.bk (σ'.set i none) H', ct := fun σ' H' => D.ct (σ'.set i none) H' }
def wMA (K : PySem.W.Frag) (Wout : WX) (D : Ends) : List HdT → WX
  | [] => Wout
  | (c, none, ts) :: r => fun cls d σ H => ∃ b, PySem.W.exmOne K cls c = some b ∧ (b = true → ∀ a, H a = none → ts a cls d D σ H) ∧ (b = false → wMA K Wout D r cls d σ H)
  | (c, some i, ts) :: r => fun cls d σ H => ∃ b, PySem.W.exmOne K cls c = some b ∧ (b = true → ∀ a, H a = none → ts a cls d (gone D i) (σ.set i (some (.ref a))) (upd H a (ExH cls d a))) ∧ (b = false → wMA K Wout D r cls d σ H)
inductive HdA (X : Cx) : List ExceptHandler → List HdT → Prop
  | nil : HdA X [] []
  | bare {x : Str} {c : Value} {ts : Addr → Value → Option Addr → TS} {b₀ : Stmt} {suite : List Stmt} {np pos' : Pos} {hds : List ExceptHandler} {l : List HdT} (hc : Names X x c)
      (hsu : ∀ (a : Addr) (cls : Value) (d : Option Addr) (pn : List (Addr × Obj)), PSs (X.suite a pn) (b₀ :: suite) (ts a cls d)) (r : HdA X hds l) : HdA X (.ExceptHandler (some (.Name x np)) none (b₀ :: suite) pos' :: hds) ((c, none, ts) :: l)
  | named {x n : Str} {i : Nat} {c : Value} {ts : Addr → Value → Option Addr → TS} {b₀ : Stmt} {suite : List Stmt} {np pos' : Pos} {hds : List ExceptHandler} {l : List HdT} (hc : Names X x c) (hN : X.N.Nodup) (hi : X.N[i]? = some n) (hln : X.env.kindOf n = some .local)
      (hsu : ∀ (a : Addr) (cls : Value) (d : Option Addr) (pn : List (Addr × Obj)), PSs (X.suite a pn) (b₀ :: suite) (ts a cls d)) (r : HdA X hds l) : HdA X (.ExceptHandler (some (.Name x np)) (some n) (b₀ :: suite) pos' :: hds) ((c, some i, ts) :: l)
section
variable {X : Cx} {body : List Stmt} {h₀ : ExceptHandler} {hds : List ExceptHandler} {l : List HdT} {pos : Pos} {tb : WX → TS} {Wout : WX}
theorem ps_tryA (hs : X.stack = X.env :: X.outer) (hf : X.env.frame = some X.env.locals) (tk : Takes X Wout)
    (hb : ∀ (W : WX) (pn : List (Addr × Obj)) (xe : Value → Shared → Prop), Takes (X.tr pn xe) W → PassesOwn (model X.prog X.w) X.A X.env xe → PSs (X.tr pn xe) body (tb W))
    (hh : HdA X (h₀ :: hds) l) : PS X (.Try body (h₀ :: hds) [] [] pos) (fun D σ H => tb (wMA X.K Wout D l) D σ H) := by
  refine ⟨fun pins s σ H D I h => ?_⟩
  have ok := I.ok
  have hfr : X.A.frames = some (X.env :: X.outer) := by rw [ok.frames, hs]
  refine wpAny_Try_except ?_
  refine wpAny_mono ((hb (wMA X.K Wout D l) (X.pn ++ pins) (fun e s₁ => wpAny (model X.prog X.w) X.A (noteFrame e X.env) (fun _ s₂ => wpAny (model X.prog X.w) X.A (setFlight e none) (fun _ s₃ =>
    wpAny (model X.prog X.w) X.A (handleBy e X.env (h₀ :: hds)) (SP X pins D) X.xe s₃) X.xe s₂) X.xe s₁) (fun u s' xx => ?_) PassesOwn.looking).run [] s σ H D (I.toTry _) h) (fun f s1 hsp => ?_) (fun e s1 he => he)
  · obtain ⟨a, B, sI, pins', σ', H', cls, d, rfl, J', nb, up, sky, na, os, ag, w⟩ := xx
    have J : Inv X pins σ' H' sI := J'.ofTry ok
    have sky' : Sky B (X.env :: X.outer) a (Zc cls d) X.env.locals s'.heap := by rw [← hs]; exact sky
    show wpAny (model X.prog X.w) X.A (noteFrame (.ref a) X.env) _ _ _
    refine Sky.land Zc.steady hfr hf sky' fun h3 fl3 up3 => ?_
    have J3 : Inv X pins σ' H' { s' with heap := h3 } := J.landed nb fl3.1 (up.trans up3) os ag
    obtain ⟨oe3, vs3, he3, hz3, hd3⟩ := fl3.there
    have notFr : ∀ {h : Heap} {o : Obj} {vs : Array Value}, h.FunFrames B (X.env :: X.outer) → h.get? a = some o → o.data = .fields vs → a ∉ frs (X.env :: X.outer) := fun {h o vs} ff e dd hm => by
      obtain ⟨_, o', e', hnf⟩ := ff.mem hm
      rw [e] at e'; cases e'
      exact hnf _ dd
    have nfr := notFr fl3.2.2.1 he3 hd3
    have nL : a ≠ X.env.locals := fun z => nfr (List.mem_filterMap.mpr ⟨X.env, List.mem_cons_self, by rw [hf, z]⟩)
    have nF : a ∉ X.fs := fun hm => by
      obtain ⟨e, he, q⟩ := List.mem_filterMap.mp hm
      exact nfr (List.mem_filterMap.mpr ⟨e, List.mem_cons_of_mem _ he, q⟩)
    have hI : sI.heap.get? a = none := by
      cases e : sI.heap.get? a with
      | none => rfl
      | some o =>
        have z := nb a o e (by rw [hs]; exact nfr)
        rw [fl3.2.1] at z; cases z
    have S3 := J3.suite he3 hd3 na nL nF
    have go : ∀ {hds' : List ExceptHandler} {l' : List HdT}, HdA X hds' l' → wMA X.K Wout D l' cls d σ' H' →
        wpAny (model X.prog X.w) X.A (handleBy (.ref a) X.env hds') (SP X pins D) X.xe { s' with heap := h3 } := by
      have LT : PySem.W.Looks (model X.prog X.w) h3 (typeOf (.ref a)) cls := fun A Q E s k q => wpAny_typeOf_ref (k _ _ he3) (by rw [hz3.1]; exact q)
      have test : ∀ {x : Str} {c : Value} {np : Pos}, Names X x c → ∀ {Q : Value → Shared → Prop} {E : Value → Shared → Prop}, Q c { s' with heap := h3 } → wpAny (model X.prog X.w) (X.A.mark (some (.ref a))) (eval (.Name x np) X.env) Q E { s' with heap := h3 } := fun {x c np} hc {Q E} q => by
        obtain ⟨hg, hdbg, hm | ⟨hm, hv, hnn⟩⟩ := hc
        · exact ld_glob (X := X.suite a ((a, oe3) :: (X.pn ++ pins))) S3 hg hm q hdbg
        · exact ld_blt (X := X.suite a ((a, oe3) :: (X.pn ++ pins))) S3 hg hm hv q hnn hdbg
      intro hds' l' hk
      induction hk with
      | nil =>
        intro w
        refine wpAny_handleBy_nil ?_
        obtain ⟨k1, k2, k3, oe, vs, T, oT, ts', he, hz, hd, h1, hr⟩ := id fl3
        unfold PySem.passOn
        refine wpAny_bind (wpAny_field he hd h1 ?_)
        rw [if_neg (show ¬ ((Value.ref T == Value.none) = true) from by simp)]
        have fin : wpAny (model X.prog X.w) X.A (setFlight (.ref a) X.env.frame) (fun _ s4 => wpAny (model X.prog X.w) X.A (throw (.ref a) : Sem Flow) (SP X pins D) X.xe s4) X.xe { s' with heap := h3 } := by
          rw [hf]
          refine HandSPX.setFlight_upZ fl3 fun h4 hh4 up4 => wpAny_throw (tk _ _ ?_)
          exact ⟨a, B, sI, pins, σ', H', cls, d, rfl, J, nb, (up.trans up3).trans up4, .inr (.inr (by rw [hs]; exact hh4)), na, os, ag, w⟩
        first
          | exact wpAny_bind (wpAny_pure (wpAny_bind fin))
          | exact wpAny_bind fin
      | @bare x c ts b₀ suite np pos' hds2 l2 hc hsu r ih =>
        intro w
        obtain ⟨b, hb1, hyes, hno⟩ := w
        refine wpAny_handleBy_cons (codeAny_handlers_test ?_) (by intro q; cases q)
        have LM := PySem.W.exm_one (M := model X.prog X.w) (J3.kIn) LT hb1
        refine test hc (LM.here ?_)
        cases b with
        | true =>
          refine codeAny_handlers_suite ?_
          refine HandSPX.lands_againZ fl3 fun h4 fl4 up4 => ?_
          have J4 : Inv X pins σ' H' { s' with heap := h4 } := J.landed nb fl4.1 ((up.trans up3).trans up4) os ag
          obtain ⟨oe4, vs4, he4, hz4, hd4⟩ := fl4.there
          have S4 := J4.suite he4 hd4 na nL nF
          refine wpAny_mono ((hsu a cls d ((a, oe4) :: (X.pn ++ pins))).run [] _ _ H' _ S4 (hyes rfl a na)) (fun f s6 hsp => ?_) (fun _ _ z => False.elim z)
          cases f with
          | next =>
            obtain ⟨σ6, H6, S6, q6⟩ := hsp
            exact ⟨_, _, S6.unsuite ok, q6⟩
          | brk =>
            obtain ⟨σ6, H6, S6, q6⟩ := hsp
            exact ⟨_, _, S6.unsuite ok, q6⟩
          | cont =>
            obtain ⟨σ6, H6, S6, q6⟩ := hsp
            exact ⟨_, _, S6.unsuite ok, q6⟩
          | ret u =>
            obtain ⟨v6, σ6, H6, S6, r6, q6⟩ := hsp
            exact ⟨_, _, _, S6.unsuite ok, r6, q6⟩
        | false =>
          show wpAny _ X.A (handleBy (.ref a) X.env hds2) _ _ _
          exact ih (hno rfl)
      | @named x n i c ts b₀ suite np pos' hds2 l2 hc hN hi hln hsu r ih =>
        intro w
        obtain ⟨b, hb1, hyes, hno⟩ := w
        refine wpAny_handleBy_cons (codeAny_handlers_test ?_) (by intro q; cases q)
        have LM := PySem.W.exm_one (M := model X.prog X.w) (J3.kIn) LT hb1
        refine test hc (LM.here ?_)
        cases b with
        | true =>
          refine codeAny_handlers_suite_as ?_
          refine HandSPX.lands_againZ fl3 fun h4 fl4 up4 => ?_
          have J4 : Inv X pins σ' H' { s' with heap := h4 } := J.landed nb fl4.1 ((up.trans up3).trans up4) os ag
          obtain ⟨oe4, vs4, he4, hz4, hd4⟩ := fl4.there
          have S4 := suite0 (a := a) (track J hI J4 na nL (exH_ok (c := cls) (od := d) he4 hz4 hd4))
          refine store_ok (X := X.suite a (X.pn ++ pins)) (v := .ref a) S4 hN hi (.inl hln) rfl (fun s5 S5 => ?_) (.inr hln)
          refine wpAny_mono ((hsu a cls d (X.pn ++ pins)).run [] s5 _ _ _ S5 (hyes rfl a na)) (fun f s6 hsp => ?_) (fun _ _ z => False.elim z)
          have end_ : ∀ {σ6 : St} {H6 : Hp} {Q : Shared → Prop}, Inv (X.suite a (X.pn ++ pins)) [] σ6 H6 s6 → (∀ s7, Inv X pins (σ6.set i none) H6 s7 → Q s7) →
              wpAny (model X.prog X.w) X.A (do bindName X.env n .none; unbindBehindTheSuite X.env n pos') (fun _ s7 => Q s7) X.xe s6 := fun {σ6 H6 Q} S6 hq => gone_ok (unsuite0 S6 ok) hN hi hln hq
          cases f with
          | next =>
            obtain ⟨σ6, H6, S6, q6⟩ := hsp
            exact end_ S6 fun s7 J7 => ⟨_, _, J7, q6⟩
          | brk =>
            obtain ⟨σ6, H6, S6, q6⟩ := hsp
            exact end_ S6 fun s7 J7 => ⟨_, _, J7, q6⟩
          | cont =>
            obtain ⟨σ6, H6, S6, q6⟩ := hsp
            exact end_ S6 fun s7 J7 => ⟨_, _, J7, q6⟩
          | ret u =>
            obtain ⟨v6, σ6, H6, S6, r6, q6⟩ := hsp
            exact end_ S6 fun s7 J7 => ⟨_, _, _, J7, r6, q6⟩
        | false =>
          show wpAny _ X.A (handleBy (.ref a) X.env hds2) _ _ _
          exact ih (hno rfl)
    exact go hh w
  · cases f with
    | next =>
      obtain ⟨σ', H', J', q⟩ := hsp
      exact wpAny_execs_nil ⟨σ', H', J'.ofTry ok, q⟩
    | brk =>
      obtain ⟨σ', H', J', q⟩ := hsp
      exact ⟨σ', H', J'.ofTry ok, q⟩
    | cont =>
      obtain ⟨σ', H', J', q⟩ := hsp
      exact ⟨σ', H', J'.ofTry ok, q⟩
    | ret u =>
      obtain ⟨v, σ', H', J', r, q⟩ := hsp
      exact ⟨v, σ', H', J'.ofTry ok, r, q⟩
end
/-! over data -/
def excD (c : Value) (x : Option (List (Str × D))) : D := .exc c (x.map (·.map (·.1))) ((x.getD []).map (·.2))
theorem rep_exc {K : PySem.W.Frag} {S : Reg} {H : Hp} {c : Value} {x : Option (List (Str × D))} {od : Option Addr} {a : Addr} (h : XRep K S H x od) (na : ¬ S a) (ha : H a = some (ExH c od a)) : Rep K S H (excD c x) (.ref a) := by
  refine Rep.exc_iff.mpr ?_
  cases x with
  | none => exact ⟨a, od, [], rfl, ⟨ha, na⟩, h, Reps.nil⟩
  | some fs =>
    obtain ⟨b, vs, e, h1, h2, h3, h4⟩ := h
    have zp : ∀ l : List (Str × V), (l.map (·.1)).zip (l.map (·.2)) = l := fun l => by
      induction l with
      | nil => rfl
      | cons p l ih => simp only [List.map_cons, List.zip_cons_cons, ih]
    have h5 : Reps K S H (((some fs).getD []).map fun p : Str × D => p.2) (vs.map fun p : Str × V => p.2) := h4
    refine ⟨a, od, vs.map fun p : Str × V => p.2, rfl, ⟨ha, na⟩, ⟨b, e, ⟨?_, h2⟩, by simp⟩, h5⟩
    show H b = some (.xd ((fs.map (·.1)).zip (vs.map (·.2))))
    rw [h1, ← h3, zp]
structure HA where
  cls : Value
  yes : List Value
  no : List Value
  as : Option Nat
  body : TSD
def goneD (De : EndsD) : Option Nat → EndsD
  | none => { De with ex := fun _ _ _ _ => False }
  | some i => { nx := fun ρ W => De.nx (ρ.set i none) W, rt := De.rt, bk := fun ρ W => De.bk (ρ.set i none) W, ct := fun ρ W => De.ct (ρ.set i none) W, ex := fun _ _ _ _ => False }
def setAs (ρ : Env) (cls : Value) (x : Option (List (Str × D))) : Option Nat → Env
  | none => ρ
  | some i => ρ.set i (some (.sh (excD cls x)))
/-- what becomes of an exception of the body, clause by clause -/
def hdX (De : EndsD) : List HA → KX
  | [] => De.ex
  | h :: r => fun cls x ρ W => (cls ∈ h.yes ∧ h.body (goneD De h.as) (setAs ρ cls x h.as) W) ∨ (cls ∈ h.no ∧ hdX De r cls x ρ W)
def dTry (f : TSD) (hs : List HA) : TSD := fun De ρ W => f { De with ex := hdX De hs } ρ W
theorem al0 {p : Value → Prop} : ∀ v ∈ ([] : List Value), p v := fun v h => by cases h
theorem al1 {p : Value → Prop} {a : Value} {l : List Value} (h : p a) (r : ∀ v ∈ l, p v) : ∀ v ∈ a :: l, p v := fun v hv => by
  rcases List.mem_cons.mp hv with e | hv
  · rw [e]; exact h
  · exact r v hv
inductive HdG (X : Cx) : List ExceptHandler → List HA → Prop
  | nil : HdG X [] []
  | bare {x : Str} {c : Value} {y n : List Value} {f : TSD} {b₀ : Stmt} {suite : List Stmt} {np pos' : Pos} {hds : List ExceptHandler} {l : List HA} (hc : Names X x c) (hy : ∀ v ∈ y, PySem.W.exmOne X.K v c = some true) (hn : ∀ v ∈ n, PySem.W.exmOne X.K v c = some false)
      (hsu : ∀ (a : Addr) (pn : List (Addr × Obj)), GSs (X.suite a pn) WXno (b₀ :: suite) f) (r : HdG X hds l) : HdG X (.ExceptHandler (some (.Name x np)) none (b₀ :: suite) pos' :: hds) (⟨c, y, n, none, f⟩ :: l)
  | named {x m : Str} {i : Nat} {c : Value} {y n : List Value} {f : TSD} {b₀ : Stmt} {suite : List Stmt} {np pos' : Pos} {hds : List ExceptHandler} {l : List HA} (hc : Names X x c) (hN : X.N.Nodup) (hi : X.N[i]? = some m) (hln : X.env.kindOf m = some .local)
      (hy : ∀ v ∈ y, PySem.W.exmOne X.K v c = some true) (hn : ∀ v ∈ n, PySem.W.exmOne X.K v c = some false)
      (hsu : ∀ (a : Addr) (pn : List (Addr × Obj)), GSs (X.suite a pn) WXno (b₀ :: suite) f) (r : HdG X hds l) : HdG X (.ExceptHandler (some (.Name x np)) (some m) (b₀ :: suite) pos' :: hds) (⟨c, y, n, some i, f⟩ :: l)
section
variable {X : Cx} {Wx : WX} {body : List Stmt} {h₀ : ExceptHandler} {hds : List ExceptHandler} {l : List HA} {pos : Pos} {f : TSD}
def hdT (K : PySem.W.Frag) (h : HA) : HdT := (h.cls, h.as, fun _ _ _ => tOf K WXno h.body)
theorem HdG.ok {hds : List ExceptHandler} {l : List HA} (h : HdG X hds l) : HdA X hds (l.map (hdT X.K)) := by
  induction h with
  | nil => exact .nil
  | bare hc hy hn hsu r ih => exact .bare hc (fun a cls d pn => pss_tOf (hsu a _)) ih
  | named hc hN hi hln hy hn hsu r ih => exact .named hc hN hi hln (fun a cls d pn => pss_tOf (hsu a _)) ih
theorem HdG.wish {K : PySem.W.Frag} (hK : X.K = K) {F S : Reg} {H : Hp} {De : EndsD} {Dh : Ends} (lk : Lnk K Wx F S H De Dh) {hds : List ExceptHandler} {l : List HA} (h : HdG X hds l) : LkX K F S H (wMA K Wx Dh (l.map (hdT K))) (hdX De l) := by
  subst hK
  induction h with
  | nil => exact lk.ex
  | @bare x cc y n f b₀ suite np pos' hds l hc hy hn hsu r ih =>
    intro S' H' σ' ρ' W' cls x od e c xr q
    rcases q with ⟨q1, q2⟩ | ⟨q1, q2⟩
    · refine ⟨true, hy cls q1, fun _ a _ => ?_, fun z => by cases z⟩
      exact ⟨F, S', ρ', W', _, c, q2, ⟨(lk.up e).nx, (lk.up e).rt, (lk.up e).bk, (lk.up e).ct, fun _ _ _ _ _ _ _ _ _ _ _ z => z.elim⟩⟩
    · exact ⟨false, hn cls q1, fun z => (by cases z), fun _ => ih S' H' σ' ρ' W' cls x od e c xr q2⟩
  | @named x m i cc y n f b₀ suite np pos' hds l hc hN hi hln hy hn hsu r ih =>
    intro S' H' σ' ρ' W' cls x od e c xr q
    rcases q with ⟨q1, q2⟩ | ⟨q1, q2⟩
    · refine ⟨true, hy cls q1, fun _ a na => ?_, fun z => by cases z⟩
      have sm : Same H' (upd H' a (ExH cls od a)) := same_new na
      have nS : ¬ S' a := fun z => c.cb.sd a z na
      have st := stp_same c.cb sm
      have xr2 : XRep X.K S' (upd H' a (ExH cls od a)) x od := by
        cases x with
        | none => exact xr
        | some fs =>
          obtain ⟨b, vs, e0, h1, h2, h3, h4⟩ := xr
          exact ⟨b, vs, e0, by rw [upd_ne (ne_of_none h1 na)]; exact h1, h2, h3, h4.up st⟩
      refine ⟨F, S', _, W', _, (c.same sm).setSh i (rep_exc xr2 nS upd_same), q2, ?_⟩
      have lk2 := lk.up (e.trans st)
      exact ⟨fun S2 H2 σ2 ρ2 W2 e2 c2 q => lk2.nx S2 H2 _ _ W2 e2 (c2.setNone i) q, lk2.rt, fun S2 H2 σ2 ρ2 W2 e2 c2 q => lk2.bk S2 H2 _ _ W2 e2 (c2.setNone i) q, fun S2 H2 σ2 ρ2 W2 e2 c2 q => lk2.ct S2 H2 _ _ W2 e2 (c2.setNone i) q, fun _ _ _ _ _ _ _ _ _ _ _ z => z.elim⟩
    · exact ⟨false, hn cls q1, fun z => (by cases z), fun _ => ih S' H' σ' ρ' W' cls x od e c xr q2⟩
theorem gs_try (hs : X.stack = X.env :: X.outer) (hf : X.env.frame = some X.env.locals) (tk : Takes X Wx)
    (hb : ∀ (W : WX) (pn : List (Addr × Obj)) (xe : Value → Shared → Prop), Takes (X.tr pn xe) W → PassesOwn (model X.prog X.w) X.A X.env xe → GSs (X.tr pn xe) W body f) (hh : HdG X (h₀ :: hds) l) : GS X Wx (.Try body (h₀ :: hds) [] [] pos) (dTry f l) :=
  ⟨_, ps_tryA (tb := fun W => tOf X.K W f) hs hf tk (fun W pn xe t p => pss_tOf (hb W pn xe t p)) hh.ok, fun F S H σ ρ W De Dh cf hf lk =>
    ⟨F, S, ρ, W, _, cf, hf, ⟨lk.nx, lk.rt, lk.bk, lk.ct, hh.wish rfl lk⟩⟩⟩
end
/-! isinstance(e, C), e a caught exception without fields -/
def rIsX (K : PySem.W.Frag) : List V → Hp → VK → Prop := fun xs H Q => ∃ (a D C : Addr) (b : Bool), xs = [.ref a, .ref C] ∧ H a = some (ExH (.ref D) none a) ∧ ExcC K D ∧ PySem.W.kitOne K (.ref D) (.ref C) = some b ∧ Q (.bl b) H
theorem cr_isX {X : Cx} : CallR X (.builtin "isinstance") (rIsX X.K) := by
  intro pins s σ H xs us Q I r h
  obtain ⟨a, D, C, b, rfl, ha, T, e, q⟩ := h
  cases r with
  | cons rx rr =>
    cases rr with
    | cons rt rr =>
      cases rr
      cases rx
      cases rt
      obtain ⟨⟨oe, vs, hget, hz, hv⟩, _, _⟩ : ObjOk X.prog X.w H s.heap a (ExH (.ref D) none a) := I.hok a _ ha
      have J : PySem.W.InstAt s.heap a oe D none := by
        obtain ⟨oc, od, oda, osl⟩ := oe
        obtain ⟨h1, h2⟩ := hz
        dsimp only at h1 h2 hv
        subst h1 h2 hv
        exact ⟨hget, rfl, rfl, trivial⟩
      exact PySem.W.kia_one (PySem.W.handS_kitx_exc T.hg T.hk T.hs T.hd T.ha T.hn T.ht T.hm) I.kIn J e (fun z => nomatch z) fun tk => ⟨.bl b, H, I.kept (t' := tk) fun _ _ z => z, rfl, q⟩
/-- what isinstance says of a caught exception of the class D -/
structure IsAt (K : PySem.W.Frag) (D C : Addr) (b : Bool) : Prop where
  ex : ExcC K D
  kit : PySem.W.kitOne K (.ref D) (.ref C) = some b
def dIsX (l : List (Value × Bool)) : List D → (D → Prop) → Prop := fun ds Q => match ds with
  | [.exc c none _, .v (.ref _)] => ∃ b, (c, b) ∈ l ∧ Q (.bl b)
  | _ => False
/-- isinstance(e, C): l tells the classes that e may have, and the answers -/
theorem ge_isX {X : Cx} {Wx : WX} {e : Expr} {fe : TD} {C : Addr} {x : Str} {p px pos : Pos} {l : List (Value × Bool)} (hl : ∀ q ∈ l, ∃ D, q.1 = .ref D ∧ IsAt X.K D C q.2) (hC : X.mg x = some (.ref C)) (hm : X.mg "isinstance" = none) (ha : GE X Wx e fe)
    (hg : Gl X "isinstance" := by rfl) (hgx : Gl X x := by rfl) (hdx : (x == ("__debug__" : Str)) = false := by decide)
    (he : starEach [e, .Name x px] X.env = (false, eval e X.env) :: starEach [.Name x px] X.env := by rfl) (he2 : starEach [.Name x px] X.env = (false, eval (.Name x px) X.env) :: starEach [] X.env := by rfl) (hpl : (backTo pos (starEach [.Name x px] X.env)).any (·.1) = false := by rfl) :
    GE X Wx (.Call (.Name "isinstance" p) [e, .Name x px] [] pos) (fun ρ W Q Qx => fe ρ W (fun d ρ' W' => dIsX l [d, .ref C] fun y => Q y ρ' W') Qx) := by
  obtain ⟨te, pe, se⟩ := ha
  refine ⟨_, pe_callB cr_isX hg hm (by decide +kernel) (pa_cons pe (pa_cons (pe_glob (v := .ref C) hgx hC rfl hdx) pa_nil he2) he) (by decide) (by decide) he hpl, fun F S H σ ρ W Q Qx R cf hf hx hE => ?_⟩
  refine se F S H σ ρ W _ Qx _ cf hf hx fun S' H' ρ' W' d v e' c r q => ?_
  unfold dIsX at q
  split at q
  · rename_i ds cc ds0 C' e0
    cases e0
    obtain ⟨b, hb, q⟩ := q
    obtain ⟨D, e1, T⟩ := hl _ hb
    simp only at e1
    subst e1
    obtain ⟨a, od, xs, rfl, h1, h2, h3⟩ := Rep.exc_iff.mp r
    cases h2
    exact ⟨a, D, C, b, rfl, h1.1, T.ex, T.kit, hE S' H' ρ' W' _ _ e' c (Rep.v_iff.mpr rfl) q⟩
  · exact q.elim
def dIsE (l : List (Value × Bool)) (C : V) (fe : TD) : TD := fun ρ W Q Qx => fe ρ W (fun d ρ' W' => dIsX l [d, .v C] fun y => Q y ρ' W') Qx
theorem al0q {p : Value × Bool → Prop} : ∀ v ∈ ([] : List (Value × Bool)), p v := fun v h => by cases h
theorem al1q {K : PySem.W.Frag} {C D : Addr} {b : Bool} {l : List (Value × Bool)} (h : IsAt K D C b) (r : ∀ q ∈ l, ∃ D, q.1 = .ref D ∧ IsAt K D C q.2) : ∀ q ∈ (Value.ref D, b) :: l, ∃ D, q.1 = .ref D ∧ IsAt K D C q.2 := fun v hv => by
  rcases List.mem_cons.mp hv with e | hv
  · rw [e]; exact ⟨D, rfl, h⟩
  · exact r v hv
theorem ge_isE {X : Cx} {Wx : WX} {e : Expr} {fe : TD} {C : Addr} {x : Str} {p px pos : Pos} {l : List (Value × Bool)} (hl : ∀ q ∈ l, ∃ D, q.1 = .ref D ∧ IsAt X.K D C q.2) (hC : X.mg x = some (.ref C)) (hm : X.mg "isinstance" = none) (ha : GE X Wx e fe)
    (hg : Gl X "isinstance" := by rfl) (hgx : Gl X x := by rfl) (hdx : (x == ("__debug__" : Str)) = false := by decide)
    (he : starEach [e, .Name x px] X.env = (false, eval e X.env) :: starEach [.Name x px] X.env := by rfl) (he2 : starEach [.Name x px] X.env = (false, eval (.Name x px) X.env) :: starEach [] X.env := by rfl) (hpl : (backTo pos (starEach [.Name x px] X.env)).any (·.1) = false := by rfl) :
    GE X Wx (.Call (.Name "isinstance" p) [e, .Name x px] [] pos) (dIsE l (.ref C) fe) := ge_isX hl hC hm ha hg hgx hdx he he2 hpl
end G

/-! ### len(set(x)), x a tuple of texts, any of them twice -/
namespace GS
open PySem PySem.Spec PyProof.Rows
def put (σ : List Str) (v : Str) : List Str := if v ∈ σ then σ else σ ++ [v]
/-- without the later ones -/
def dd (xs : List Str) : List Str := xs.foldl put []
theorem put_any (σ : List Str) (v k : Str) : decide (k ∈ put σ v) = (decide (k ∈ σ) || decide (k = v)) := by
  unfold put
  split
  · rename_i h
    by_cases e : k = v
    · subst e; simp [h]
    · simp [e]
  · by_cases e : k = v
    · subst e; simp
    · simp [e]
theorem put_len (σ : List Str) (v : Str) : (put σ v).length = if decide (v ∈ σ) = true then σ.length else σ.length + 1 := by
  unfold put
  by_cases h : v ∈ σ <;> simp [h]
theorem dd_take {xs : List Str} {i : Nat} (h : i < xs.length) : dd (xs.take (i + 1)) = put (dd (xs.take i)) xs[i] := by
  unfold dd
  rw [List.take_add_one, List.foldl_append, List.getElem?_eq_getElem h]
  rfl
theorem dd_le (xs : List Str) : (dd xs).length ≤ xs.length := by
  have : ∀ (xs σ : List Str), (xs.foldl put σ).length ≤ σ.length + xs.length := fun xs => by
    induction xs with
    | nil => intro σ; simp
    | cons x xs ih =>
      intro σ
      have := ih (put σ x)
      have h2 := put_len σ x
      rw [List.foldl_cons, List.length_cons]
      split at h2 <;> omega
  have := this xs []
  simpa [dd] using this
abbrev Has (prog : Program) (w : World) (h : Heap) (S : Addr) (ys : List Str) : Prop := h.SetOf (PySem.strKind prog w) S (fun k => decide (k ∈ ys)) ys.length
theorem Has.keeps {prog : Program} {w : World} {h h' : Heap} {S : Addr} {ys : List Str} (x : Has prog w h S ys) (k : ∀ o, h.get? S = some o → h'.get? S = some o) : Has prog w h' S ys := by
  obtain ⟨o, es, ep, t, ho, r⟩ := x
  exact ⟨o, es, ep, t, k o ho, r⟩
section
variable {prog : Program} {w : World} {A : Around} {R : Result → Shared → Prop} {I : Addr} {fp wr : List Addr} {G : Array GenState → Array GenState → Prop} {n : Nat} {P : Nat → Value → Prop} {St : Nat → Shared → Prop}
theorem fills (W : WalksS prog w A.in1 I fp wr G n P St) (S : Addr) (hSf : S ∉ fp) (xs : List Str) (hn : xs.length = n) (hb : n + 1 < scanBound) (hval : ∀ i v, P i v → ∃ x t, xs[i]? = some x ∧ v = .str x t) :
    ∀ (k i : Nat) (s : Shared), n - i = k → i ≤ n → St i s → Has prog w s.heap S (dd (xs.take i)) →
      (∀ s', Moved (S :: wr) G s s' → Has prog w s'.heap S (dd xs) → R (.ok (.ret .none)) s') → codeAny (model prog w) A (.builtin "set.update.loop" ⟨[.ref S, .ref I], []⟩) R s := by
  have hSw : S ∉ wr := fun h => hSf (W.sub _ h)
  have more : ∀ b ∈ wr, b ∈ S :: wr := fun b hb => List.mem_cons_of_mem _ hb
  intro k
  induction k with
  | zero =>
    intro i s hk hi hst hS hR
    obtain rfl : i = n := by omega
    refine codeAny_builtin PyProof.Rows.F.entry_set_update_loop ?_
    rw [Around.under_plainId PyProof.Rows.F.plain_set_update_loop _]
    show wpAny _ A.in1 (pyNext (.ref I) >>= _) _ _ s
    refine wpAny_bind (W.done s _ _ hst fun s' hm => ?_)
    show wpAny _ A.in1 (ret Value.none) _ _ s'
    rw [← hn, List.take_length] at hS
    exact wpAny_pure (hR s' (hm.mono more) (hS.keeps fun o e => hm.heap S o hSw e))
  | succ k ih =>
    intro i s hk hi hst hS hR
    have hlt : i < n := by omega
    refine codeAny_builtin PyProof.Rows.F.entry_set_update_loop ?_
    rw [Around.under_plainId PyProof.Rows.F.plain_set_update_loop _]
    show wpAny _ A.in1 (pyNext (.ref I) >>= _) _ _ s
    refine wpAny_bind (W.item i s _ _ hlt hst fun v s' hP hst' hm => ?_)
    obtain ⟨x, t, hx, rfl⟩ := hval i v hP
    obtain ⟨hx1, hx2⟩ := List.getElem?_eq_some_iff.mp hx
    have hS' : Has prog w s'.heap S (dd (xs.take i)) := hS.keeps fun o e => hm.heap S o hSw e
    show wpAny _ A.in1 (holding [Value.str x t] (setAdd S (.str x t)) >>= _) _ _ s'
    refine wpAny_bind (wpAny_holding ?_)
    unfold setAdd
    refine wpAny_holding ?_
    refine wpAny_bind ((PySem.strKind prog w).pyHash (k := x) (strKind_is _ _ _ _) ?_)
    have room : (dd (xs.take i)).length + 1 < scanBound := by
      have := dd_le (xs.take i)
      rw [List.length_take] at this
      omega
    refine wpAny_setAddHashed_of (knd := PySem.strKind prog w) (s := { s' with toks := s'.toks + 1 }) (strKind_is _ _ _ _) rfl hS' room fun h' hsb hS2 => ?_
    have e1 : dd (xs.take (i + 1)) = put (dd (xs.take i)) x := by rw [dd_take hx1, hx2]
    have next : Has prog w h' S (dd (xs.take (i + 1))) := SetOf_congr hS2 (fun k' => by rw [e1, put_any]) (by rw [e1, put_len])
    refine wpAny_pure ⟨plainId_quiet PyProof.Rows.F.plain_set_update_loop _, ih (i + 1) _ (by omega) hlt (W.frame _ s' _ _ hst' (Nat.le_succ _) fun b hb o e => ?_) next fun s'' hm'' hS'' => ?_⟩
    · rw [hsb.2 b (fun h : b = S => hSf (by rw [← h]; exact hb))]; exact e
    · refine hR s'' (Moved.trans W.gtrans ((hm.mono more).then_heap (Nat.le_succ _) fun b o hb e => ?_) hm'') hS''
      rw [hsb.2 b (fun h : b = S => hb (by rw [h]; exact List.mem_cons_self))]; exact e
end
section
variable {prog : Program} {w : World} {A : Around} {E : Value → Shared → Prop} {s : Shared}
set_option maxHeartbeats 3200000 in
/-- set(t), t a tuple of texts -/
theorem set_of_tuple {l : Addr} {items : Array Value} {xs : List Str} {Q : Value → Shared → Prop} (hh : A.handled = none) (hl : s.heap.IsTuple l items) (hi : StrsAre items.toList xs) (hb : xs.length + 1 < scanBound)
    (h : ∀ (h' : Heap) (tk : Nat), Has prog w h' s.heap.objs.size (dd xs) → (∀ b o, b < s.heap.objs.size → s.heap.get? b = some o → h'.get? b = some o) → Q (.ref s.heap.objs.size) { s with heap := h', toks := tk }) :
    wpAny (model prog w) A (call (.type "set") [.ref l]) Q E s := by
  have hsz : xs.length = items.size := by rw [← StrsAre.len_eq hi, Array.length_toList]
  obtain ⟨c, tl, hmro⟩ := PySem.F.called_set.mro
  have hmade := PySem.F.called_set.made
  have hsub := PySem.F.called_set.sub
  refine wpAny_call (codeAny_of_tree ?_)
  show wpAny _ _ (callAny (.type "set") _) _ _ _
  refine wpAny_pure ⟨Code.quiet_builtin _ (by decide +kernel), codeAny_builtin PySem.F.entry_type_call ?_⟩
  rw [Around.under_plain (weight_type_call_type "set" [.ref l] []) rfl]
  have h1 := PySem.F.called_set.notType
  have h2 := PySem.F.called_set.canCreate
  have hct := PySem.F.typeCall_set_1 (.ref l)
  repeat (any_goals (first | assumption | wp_step))
  refine codeAny_mono (code_set_new_1 (.ref l) (E := E) (Q₁ := fun obj s₁ => ∃ led : Bool, obj = .ref s.heap.objs.size ∧ s₁ = { s with heap := s.heap.push { cls := .type "set", dict := none, data := .set #[] 0 (.fresh 0 0 led) } }) fun led => ⟨led, rfl, rfl⟩) fun r s₁ hr => ?_
  rcases r with e | fl
  · exact hr
  rcases fl with _ | _ | _ | obj
  all_goals first | exact hr.elim | skip
  obtain ⟨led, rfl, rfl⟩ := hr
  generalize hN : s.heap.push { cls := .type "set", dict := none, data := .set #[] 0 (.fresh 0 0 led) } = hp1
  have hS : hp1.get? s.heap.objs.size = some { cls := .type "set", dict := none, data := .set #[] 0 (.fresh 0 0 led) } := by rw [← hN]; exact Heap.get?_push_size _ rfl
  have old : ∀ b o, s.heap.get? b = some o → hp1.get? b = some o := fun b o e => by rw [← hN]; exact Heap.get?_push_of_some _ e
  have size1 : hp1.objs.size = s.heap.objs.size + 1 := by rw [← hN, Heap.size_push]
  have hT : Shared.TypeIs { s with heap := hp1 } (.ref s.heap.objs.size) "set" := ⟨_, hS, rfl⟩
  have hli := PySem.F.called_set.init.lookup
  have hbi := PySem.F.called_set.init.bind (.ref s.heap.objs.size)
  repeat (any_goals (first | assumption | wp_step))
  refine codeAny_mono (codeAny_call_builtin (R := wants (fun r s₂ => r = .none ∧ ∃ h' tk, s₂ = { s with heap := h', toks := tk } ∧ Has prog w h' s.heap.objs.size (dd xs) ∧ (∀ b o, b < s.heap.objs.size → s.heap.get? b = some o → h'.get? b = some o)) E) PySem.F.called_set.init.plain PySem.F.entry_set_init (check_set_init_1 hT ?_)) fun r₂ s₂ hr₂ => ?_
  · obtain ⟨⟨ocls, odict, odata, oslots⟩, hol, hcl, nl, hdl⟩ := hl
    simp only at hcl hdl
    subst hcl; subst hdl
    have hol' := old _ _ hol
    have hsls := PySem.F.sub_tuple_set
    have hslf := PySem.F.sub_tuple_frozenset
    have hne : (Value.type "tuple" == Value.type "dict") = false := by decide
    have hl1 : hp1.IsTuple l items := ⟨_, hol', rfl, nl, rfl⟩
    unfold Builtin.«set.__init__» noKeywords Builtin.Frozenset.updateFrom
    generalize hPI : pyIter = PI
    wp_walk
    subst hPI
    refine wpAny_pyIter_tuple hl1 ?_
    refine wpAny_bind (wpAny_runValue ?_)
    have hlS : l < s.heap.objs.size := Heap.lt_size hol
    have hh3 : A.in1.in1.in1.handled = none := by simp [hh]
    have hneI : l ≠ hp1.objs.size := by rw [size1]; exact Nat.ne_of_lt (Nat.lt_succ_of_lt hlS)
    have hSf : s.heap.objs.size ∉ [hp1.objs.size, l] := by
      rw [size1]; simp only [List.mem_cons, List.mem_singleton, List.not_mem_nil, or_false, not_or]
      exact ⟨Nat.ne_of_lt (Nat.lt_succ_self _), Nat.ne_of_gt hlS⟩
    refine fills ((Walks.tuple hh3 _ l hneI items).toS) s.heap.objs.size hSf xs hsz (by rw [← hsz]; exact hb) (fun i v hv => ?_) (items.size - 0) 0 _ (by omega) (Nat.zero_le _) ⟨⟨_, Heap.get?_push_size _ rfl, rfl, rfl⟩, (hl1.push _)⟩ ?_ fun s' hm hS' => ?_
    · obtain ⟨t, e⟩ := SS.strs_at hi i v (by rw [Array.getElem?_toList]; exact hv)
      have hlt : i < xs.length := by
        rw [hsz]
        exact (Array.getElem?_eq_some_iff.mp hv).1
      refine ⟨xs[i], t, List.getElem?_eq_getElem hlt, ?_⟩
      rw [e, List.getD_eq_getElem?_getD, List.getElem?_eq_getElem hlt]; rfl
    · have hget : (hp1.push { cls := .type "tuple_iterator", data := .fields #[.ref l, .int 0 0] }).get? s.heap.objs.size = some { cls := .type "set", dict := none, data := .set #[] 0 (.fresh 0 0 led) } := Heap.get?_push_of_some _ hS
      exact PyProof.Rows.SetOf_congr ((PyProof.Rows.setObjOf_fresh (knd := PySem.strKind prog w) led).setOf hget (by unfold scanBound; omega)) (fun _ => by simp [dd]) rfl
    · obtain ⟨h', g', d', tk', os'⟩ := s'
      have eg : g' = s.gens := hm.gens
      have ed : d' = s.drawn := hm.drawn
      have eo : os' = s.os := hm.os
      subst eg; subst ed; subst eo
      show wpAny _ _ _ _ _ _
      refine wpAny_pure ?_
      show wpAny _ _ (ret Value.none) _ _ _
      refine wpAny_pure ⟨rfl, h', tk', rfl, hS', fun b o hb e => ?_⟩
      have hb1 : b ≠ s.heap.objs.size := Nat.ne_of_lt hb
      have hb2 : b ≠ hp1.objs.size := by rw [size1]; exact Nat.ne_of_lt (Nat.lt_succ_of_lt hb)
      exact hm.heap b o (by simp only [List.mem_cons, List.mem_singleton, List.not_mem_nil, or_false, not_or]; exact ⟨hb1, hb2⟩) (Heap.get?_push_of_some _ (old _ _ e))
  · rcases r₂ with e | fl₂
    · exact hr₂
    rcases fl₂ with _ | _ | _ | r
    all_goals first | exact hr₂.elim | skip
    obtain ⟨rfl, h', tk, rfl, hS', hk'⟩ := hr₂
    repeat (any_goals (first | assumption | wp_step))
    exact h _ _ hS' hk'
end
end GS

namespace G
open PySem PySem.Spec L2
/-! ### len(x), x the frame's own list -/
section
variable {X : Cx} {Wx : WX} {pos : Pos}
theorem ge_lenO (k : Nat) {x : Str} {p px : Pos} (hm : X.mg "len" = none) (hg : Gl X "len" := by rfl) (hN : X.N[k]? = some x := by rfl) (hvx : Vis X.env.scope x := by first | exact Or.inl rfl | exact Or.inr (Or.inl rfl) | exact Or.inr (Or.inr rfl)) (hd : (x == ("__debug__" : Str)) = false := by decide) (hcd : (x == ("__classdict__" : Str)) = false := by decide)
    (he : starEach [.Name x px] X.env = (false, eval (.Name x px) X.env) :: starEach [] X.env := by rfl) (hpl : (backTo pos (starEach [] X.env)).any (·.1) = false := by rfl) : GE X Wx (.Call (.Name "len" p) [.Name x px] [] pos) (dLenO k) := by
  refine ⟨_, pe_callB call_len hg hm (by decide +kernel) (pa_cons (pe_var hN hvx hd hcd) pa_nil he) (by decide) (by decide) he hpl, fun F S H σ ρ W Q Qx R cf hf hx hE => ?_⟩
  unfold dLenO at hf
  split at hf
  · rename_i ds hk
    obtain ⟨p', ys, hp, h2, h3, _⟩ := cf.ol k ds hk
    exact ⟨_, hp, _, _, rfl, .inl ⟨ys, .inl (.inl h2), rfl⟩, hE S H ρ W _ _ .refl cf (Rep.v_iff.mpr (by rw [h3.length])) hf⟩
  · exact hf.elim
end
/-! ### tuple(xs) of a list: a tuple that is known to have no dict -/
def rTupF (K : PySem.W.Frag) : List V → Hp → VK → Prop := fun xs H Q => ∃ (p : Addr) (ys : List V), xs = [.ref p] ∧ SqL K H p ys ∧ ∀ (l : Addr) (o : Obj), H l = none → o.dict = none → Q (.ref l) (upd H l (.frz o (.tup ys)))
theorem cr_tupF {X : Cx} : CallR X (.type "tuple") (rTupF X.K) := by
  intro pins s σ H xs us Q I r h
  obtain ⟨p, ys, rfl, hq, q⟩ := h
  obtain ⟨u, rfl, rx⟩ := vals1 r
  cases rx
  obtain ⟨its, rv, pl, hz⟩ := I.list hq
  have hlen := rv.length
  refine call_tuple_list pl.isList (fun h' kp => ?_) (by simp only [List.size_toArray] <;> omega)
  have I1 : Inv X pins σ H { s with heap := h' } := I.kept (t' := s.toks) kp
  have new : (h'.push { cls := .type "tuple", data := .seq its.toArray }).get? h'.objs.size = some { cls := .type "tuple", data := .seq its.toArray } := Heap.get?_push_size _ rfl
  refine ⟨.ref h'.objs.size, _, I1.laid (t' := s.toks) (o := .frz { cls := .type "tuple", data := .seq its.toArray } (.tup ys)) (fun b o e => Heap.get?_push_of_some _ e) (Nat.le_refl _) ⟨new, hz, its, rv, _, new, rfl, _, rfl⟩, rfl, q _ _ (I1.hok.fresh (Nat.le_refl _)) rfl⟩
def dTupF : List D → (D → Prop) → Prop := fun ds Q => match ds with
  | [.lst xs] => Q (.tpf xs)
  | _ => False
theorem cs_tupF {K : PySem.W.Frag} : CSnd K (rTupF K) dTupF := fun F S H W ds xs P R cb rd hp k => by
  unfold dTupF at hp
  split at hp
  · obtain ⟨x, rfl, h⟩ := reps1 rd
    obtain ⟨a, ys, rfl, h1, h2⟩ := Rep.lst_iff.mp h
    refine ⟨a, ys, rfl, h1.sq, fun p o hn hd => k _ _ _ (same_new hn) ?_ hp⟩
    exact Rep.tpf_iff.mpr ⟨p, ys, o, rfl, ⟨upd_same, fun z => cb.sd p z hn⟩, hd, h2.up (stp_same (F := F) cb (same_new hn))⟩
  · exact hp.elim
/-- such a tuple, read as any tuple -/
def wk : D → D
  | .tpf ds => .tup ds
  | d => d
theorem rep_wk {K : PySem.W.Frag} {S : Reg} {H : Hp} {d : D} {v : V} (h : Rep K S H d v) : Rep K S H (wk d) v := by
  unfold wk
  split
  · obtain ⟨a, xs, o, rfl, h1, _, h2⟩ := Rep.tpf_iff.mp h
    exact Rep.tup_iff.mpr ⟨a, xs, rfl, .inr (.inr ⟨o, h1⟩), h2⟩
  · exact h
def dWk (fe : TD) : TD := fun ρ W Q Qx => fe ρ W (fun d ρ' W' => Q (wk d) ρ' W') Qx
theorem ge_wk {X : Cx} {Wx : WX} {e : Expr} {fe : TD} (h : GE X Wx e fe) : GE X Wx e (dWk fe) := by
  obtain ⟨te, pe, se⟩ := h
  exact ⟨te, pe, fun F S H σ ρ W Q Qx R cf hf hx hE => se F S H σ ρ W _ Qx _ cf hf hx fun S' H' ρ' W' d v e c r q => hE S' H' ρ' W' _ v e c (rep_wk r) q⟩
/-! ### dict(t), t such a tuple, of pairs -/
section
variable {X : Cx}
theorem pairs2 {pins : List (Addr × Obj)} {σ : St} {H : Hp} {s : Shared} (I : Inv X pins σ H s) : ∀ {ps : List Addr} {kvs : List (Key × V)}, Paired (fun p kv => SqT X.K H p [kV kv.1, kv.2]) ps kvs →
    ∃ (prs : List (Key × Value)) (pvs : List (Value × Value)), KV kvs prs ∧ prs.length = ps.length ∧ pvs.length = ps.length ∧ ∀ (j : Nat) (k v : Value), pvs[j]? = some (k, v) → (∃ b, ps[j]? = some b ∧ PyProof.Rows.IsTup s.heap b #[k, v]) ∧ ∃ q, prs[j]? = some (q, v) ∧ keyIs q k = true
  | _, _, .nil => ⟨[], [], .nil, rfl, rfl, fun j k v e => by simp at e⟩
  | _, _, .cons (a := p) (b := kv) h t => by
    obtain ⟨prs, pvs, r, hl, hm, hp⟩ := pairs2 I t
    obtain ⟨its, rv, ht, _⟩ := I.tuple h
    obtain ⟨u, y, ei, ru, ry⟩ := vals2 rv
    subst ei
    refine ⟨(kv.1, y) :: prs, (u, y) :: pvs, .cons ⟨rfl, ry⟩ r, by simp [hl], by simp [hm], fun j k v e => ?_⟩
    cases j with
    | zero =>
      simp only [List.getElem?_cons_zero, Option.some.injEq, Prod.mk.injEq] at e
      obtain ⟨rfl, rfl⟩ := e
      exact ⟨⟨p, rfl, ht⟩, kv.1, rfl, kV_is (P := X.prog) (w := X.w) ru⟩
    | succ j =>
      obtain ⟨⟨b, h1, h2⟩, q, h3, h4⟩ := hp j k v (by simpa using e)
      exact ⟨⟨b, by simpa using h1, h2⟩, q, by simpa using h3, h4⟩
def rDictF (K : PySem.W.Frag) : List V → Hp → VK → Prop := fun xs H Q => ∃ (a : Addr) (o : Obj) (ps : List Addr) (kvs : List (Key × V)), xs = [.ref a] ∧ H a = some (.frz o (.tup (ps.map V.ref))) ∧ o.dict = none ∧ Paired (fun p kv => SqT K H p [kV kv.1, kv.2]) ps kvs ∧ ∀ p, H p = none → Q (.ref p) (upd H p (.dK (mergeK [] kvs)))
theorem cr_dictF (hcalm : X.calm = true) : CallR X (.type "dict") (rDictF X.K) := by
  intro pins s σ H xs us Q I r q
  obtain ⟨a, o, ps, kvs, rfl, hq, hd, hp, q⟩ := q
  obtain ⟨u, rfl, rx⟩ := vals1 r
  cases rx
  obtain ⟨ho, hz, its, rv, o', e', hc, n, hdat⟩ : ObjOk X.prog X.w H s.heap a (.frz o (.tup (ps.map V.ref))) := I.hok a _ hq
  rw [ho] at e'; cases e'
  have ei := refs_at rv
  subst ei
  obtain ⟨prs, pvs, rel, hl, hm, hpr⟩ := pairs2 I hp
  rw [List.length_map] at hz
  have hit : PySem.PairItems s.heap (ps.map Value.ref).toArray (fun j => (ps[j]?).getD 0) pvs := by
    refine ⟨by simp [hm], fun j k v e => ?_⟩
    obtain ⟨⟨b, h1, h2⟩, _⟩ := hpr j k v e
    exact ⟨by simp [h1], by show PySem.PairAt s.heap ((ps[j]?).getD 0) k v; rw [h1]; exact .inl h2⟩
  have P := PySem.PairArg.tuple (prog := X.prog) (w := X.w) a (ps.map Value.ref).toArray (fun j => (ps[j]?).getD 0) pvs
  refine _root_.PySem.call_dict_pairs (knd := mixKind X.prog X.w) (kvs := prs) P (I.ok.hd hcalm) ⟨⟨o, n, ho, hc, hd, hdat⟩, hit⟩ ⟨by rw [hl, hm], fun i key v e => ?_⟩ (by rw [hm]; exact hz) fun h' tk hd' k => ?_
  · obtain ⟨_, k, h3, h4⟩ := hpr i key v e
    exact ⟨k, h3, h4⟩
  · have hs : (s.heap.objs.size == sysModules) = false := beq_eq_false_iff_ne.mpr (Nat.ne_of_gt I.big)
    have hlen : (mergeK [] kvs).length ≤ sizeLine := by
      refine Nat.le_trans (length_mergeK kvs []) ?_
      rw [List.length_nil, Nat.zero_add, rel.length, hl]
      exact hz
    have kk : ∀ b o, s.heap.get? b = some o → h'.get? b = some o := fun b o e => k b o (by simp) e
    exact ⟨.ref s.heap.objs.size, upd H s.heap.objs.size (.dK (mergeK [] kvs)), I.laid (t' := tk) kk (Nat.le_refl _) (show ObjOk X.prog X.w _ _ _ (.dK (mergeK [] kvs)) from ⟨hlen, hs, merged [] prs, KV.merge rel .nil, hd'⟩), rfl, q _ (I.hok.fresh (Nat.le_refl _))⟩
end
def pairD (kv : Key × D) : D := .tup [keyD kv.1, kv.2]
theorem reps_pairs {K : PySem.W.Frag} {S : Reg} {H : Hp} : ∀ {kvs : List (Key × D)} {xs : List V}, Reps K S H (kvs.map pairD) xs → ∃ (ps : List Addr) (ws : List (Key × V)), xs = ps.map V.ref ∧ KR K S H kvs ws ∧ Paired (fun p kv => SqT K H p [kV kv.1, kv.2]) ps ws
  | [], xs, h => by
    cases Reps.nil_iff.mp h
    exact ⟨[], [], rfl, KR.nil, .nil⟩
  | (k, d) :: kvs, xs, h => by
    obtain ⟨x, r, rfl, h1, h2⟩ := Reps.cons_iff.mp h
    obtain ⟨ps, ws, rfl, h3, h4⟩ := reps_pairs h2
    obtain ⟨p, zs, rfl, h5, h6⟩ := Rep.tup_iff.mp h1
    obtain ⟨y, r1, rfl, h7, h8⟩ := Reps.cons_iff.mp h6
    obtain ⟨z, r2, rfl, h9, h10⟩ := Reps.cons_iff.mp h8
    cases Reps.nil_iff.mp h10
    have ey : y = kV k := by cases k <;> exact Rep.v_iff.mp h7
    subst ey
    exact ⟨p :: ps, (k, z) :: ws, rfl, KR.cons_iff.mpr ⟨z, ws, rfl, h9, h3⟩, .cons h5.sq h4⟩
section
variable {X : Cx} {Wx : WX} {e : Expr} {fe : TD} {pos : Pos}
/-- dict(t), as a dict of the frame's own -/
def dDictT (fe : TD) : TDD := fun ρ W Q Qx => fe ρ W (fun d ρ' W' => match d with | .tpf ds => ∃ kvs : List (Key × D), ds = kvs.map pairD ∧ Q (putsD kvs) ρ' W' | _ => False) Qx
theorem gd_dictT {x : Str} {p : Pos} (hc : X.calm = true) (hg : Gl X x) (hm : X.mg x = none) (hv : bootBuiltins x = some (.type "dict")) (ha : GE X Wx e fe) (hn : x ≠ "__name__" := by decide) (hdb : (x == ("__debug__" : Str)) = false := by decide)
    (he : starEach [e] X.env = (false, eval e X.env) :: starEach [] X.env := by rfl) (hpl : (backTo pos (starEach [] X.env)).any (·.1) = false := by rfl) : GD X Wx (.Call (.Name x p) [e] [] pos) (dDictT fe) := by
  obtain ⟨te, pe, se⟩ := ha
  refine ⟨_, pe_callTy (cr_dictF hc) hg hm hv (pa_cons pe pa_nil he) hn hdb he hpl, fun F S H σ ρ W Q Qx R cf hf hx hE => ?_⟩
  refine se F S H σ ρ W _ Qx _ cf hf hx fun S' H' ρ' W' d v e' c r q => ?_
  split at q
  · rename_i ds
    obtain ⟨kvs, rfl, q⟩ := q
    obtain ⟨a, xs, o, rfl, h1, h2, h3⟩ := Rep.tpf_iff.mp r
    obtain ⟨ps, ws, rfl, h4, h5⟩ := reps_pairs h3
    exact ⟨a, o, ps, ws, rfl, h1.1, h2, h5, fun l hl => hE S' H' ρ' W' _ _ l e' c (kr_merge h4 KR.nil) hl q⟩
  · exact q.elim
end
/-! ### repr(d), d a dict of texts -/
def pyKV (l : List (Str × Str)) : PyData := .dict (l.map fun p => (.str p.1, .str p.2))
@[irreducible] def shownK (l : List (Str × Str)) : Str := (pyKV l).shown
def kvsOf (l : List (Str × Str)) : List (Key × V) := l.map fun p => (.inr p.1, .str p.2)
theorem depth_kv : ∀ l : List (Str × Str), PyData.depthKv (l.map fun p => (PyData.str p.1, PyData.str p.2)) = 0
  | [] => by simp [PyData.depthKv]
  | p :: l => by simp [PyData.depthKv, PyData.depth, depth_kv l]
theorem show_kv : ∀ l : List (Str × Str), PyData.showableKv (l.map fun p => (PyData.str p.1, PyData.str p.2)) = true
  | [] => by simp [PyData.showableKv]
  | p :: l => by simp [PyData.showableKv, PyData.showable, show_kv l]
def rReprK : List V → Hp → VK → Prop := fun xs H Q => ∃ (a : Addr) (l : List (Str × Str)), xs = [.ref a] ∧ H a = some (.dK (kvsOf l)) ∧ (shownK l).length ≤ sizeLine ∧ Q (.str (shownK l)) H
theorem reads_kv {prog : Program} {w : World} {h : Heap} : ∀ {l : List (Str × Str)} {vs : List (Key × Value)} {es : List DictEntry}, KV (kvsOf l) vs → PySem.Pairs (mixKind prog w) es vs →
    ReadsAll h (es.map (·.key)) ((l.map fun p => (PyData.str p.1, PyData.str p.2)).map (·.1)) [] ∧ ReadsAll h (es.map (·.val)) ((l.map fun p => (PyData.str p.1, PyData.str p.2)).map (·.2)) []
  | [], _, _, .nil, .nil => ⟨.nil, .nil⟩
  | p :: l, _, _, .cons ⟨e1, r1⟩ rt, .cons (e := e) hk hv ht => by
    obtain ⟨a1, a2⟩ := reads_kv rt ht
    obtain ⟨t, hu⟩ := r1
    rw [← e1] at hk
    have hk' : keyIs (.inr p.1) e.key = true := hk
    obtain ⟨_, _, z, _⟩ | ⟨x, t2, z, hkey⟩ := keyIs_shape hk'
    · cases z
    · cases z
      refine ⟨?_, ?_⟩
      · show ReadsAll h (e.key :: _) (PyData.str p.1 :: _) []
        rw [hkey]
        exact .cons (.str _ _) a1
      · show ReadsAll h (e.val :: _) (PyData.str p.2 :: _) []
        rw [hv, hu]
        exact .cons (.str _ _) a2
theorem cr_reprK {X : Cx} (hu : X.A.units + 64 < cLine) (hg : X.A.guards = some []) : CallR X (.builtin "repr") rReprK := by
  intro pins s σ H xs us Q I r h
  obtain ⟨a, l, rfl, ha, hz, q⟩ := h
  obtain ⟨u, rfl, rx⟩ := vals1 r
  cases rx
  obtain ⟨_, hs, vs, rel, o, es, ep, ho, hex, hdat, _, hp, _⟩ := dk_of I.hok ha
  obtain ⟨r1, r2⟩ := reads_kv (h := s.heap) rel hp
  have rd : Reads s.heap (.ref a) (pyKV l) ([a]) := by
    have := Reads.dict (h := s.heap) (a := a) (kvs := l.map fun p => (PyData.str p.1, PyData.str p.2)) ho hex.1 hdat r1 r2
    simpa [pyKV] using this
  unfold shownK at hz q
  refine repr_of_reads' rd (by rw [pyKV, PyData.showable]; exact show_kv l) (fun _ hm => ?_) hg (by rw [pyKV, PyData.depth, depth_kv]; omega) (fun _ _ e => e) (fun h' u tk hk => ⟨.str _, H, I.kept hk, ⟨u, rfl⟩, q⟩) hz
  rw [List.mem_singleton] at hm
  rw [hm] at hs
  exact absurd hs (by simp)
def dctOf (l : List (Str × Str)) : D := .dct (l.map fun p => .inr p.1) (l.map fun p => .str p.2)
def dReprK : List D → (D → Prop) → Prop := fun ds Q => ∃ l, ds = [dctOf l] ∧ (shownK l).length ≤ sizeLine ∧ Q (.str (shownK l))
theorem cs_reprK {K : PySem.W.Frag} : CSnd K rReprK dReprK := fun F S H W ds xs P R cb rd hp k => by
  obtain ⟨l, rfl, h1, h2⟩ := hp
  obtain ⟨x, rfl, h⟩ := reps1 rd
  obtain ⟨a, ys, rfl, h3, h4, h5⟩ := Rep.dct_iff.mp h
  refine ⟨a, l, rfl, ?_, h1, k _ _ H (Same.refl H) (Rep.v_iff.mpr rfl) h2⟩
  have e : ys = l.map fun p => V.str p.2 := Reps.of_map_v (xs := l.map fun p => V.str p.2) (by rw [List.map_map]; exact h5)
  rw [h3.1, e]
  congr 2
  unfold kvsOf
  clear h h3 h4 h5 e h1 h2 rd k
  induction l with
  | nil => rfl
  | cons p l ih => simp only [List.map_cons, List.zip_cons_cons, ih]
end G

namespace G
open PySem PySem.Spec L2 Builtin
/-! ### what repr shows is a text that may be compared: each sign a sign -/
def OkS (s : Str) : Prop := ∀ c ∈ s.cps.toList, c < 0x110000
theorem okS_iff {s : Str} : PyData.strOk s = true ↔ OkS s := by
  unfold PyData.strOk OkS
  rw [Array.all_eq_true_iff_forall_mem]
  exact ⟨fun h c hc => of_decide_eq_true (h c (by simpa using hc)), fun h c hc => decide_eq_true (h c (by simpa using hc))⟩
theorem char_lt (c : Char) : c.toNat < 0x110000 := by
  have := c.valid
  unfold UInt32.isValidChar Nat.isValidChar at this
  show c.val.toNat < _
  omega
theorem okS_of (s : String) : OkS (Str.ofString s) := fun c hc => by
  rw [Str.ofString_eq_toList] at hc
  simp only [List.mem_map] at hc
  obtain ⟨x, _, rfl⟩ := hc
  exact char_lt x
theorem okS_app {a b : Str} (h1 : OkS a) (h2 : OkS b) : OkS (a ++ b) := fun c hc => by
  have e : (a ++ b).cps.toList = a.cps.toList ++ b.cps.toList := by
    show (a.cps ++ b.cps).toList = _
    simp
  rw [e] at hc
  rcases List.mem_append.mp hc with hc | hc
  · exact h1 c hc
  · exact h2 c hc
theorem okS_join {sep : Str} (hs : OkS sep) : ∀ {ts : List Str}, (∀ t ∈ ts, OkS t) → OkS (Str.join sep ts)
  | [], _ => fun c hc => by cases hc
  | [x], h => h x List.mem_cons_self
  | x :: y :: r, h => okS_app (okS_app (h x List.mem_cons_self) hs) (okS_join hs fun t ht => h t (List.mem_cons_of_mem _ ht))
theorem okS_textFrom : ∀ {ts : List Str} {k : Nat} {acc : Str}, OkS acc → (∀ t ∈ ts, OkS t) → OkS (textFrom k acc ts)
  | [], _, _, h, _ => h
  | t :: ts, k, acc, h, ht => okS_textFrom (ts := ts) (okS_app (okS_app h (okS_of _)) (ht t List.mem_cons_self)) fun x hx => ht x (List.mem_cons_of_mem _ hx)
theorem okS_list {ts : List Str} (h : ∀ t ∈ ts, OkS t) : OkS (listText ts) := okS_app (okS_textFrom (okS_of _) h) (okS_of _)
theorem okS_tuple {ts : List Str} (h : ∀ t ∈ ts, OkS t) : OkS (tupleText ts) := okS_app (okS_app (okS_of _) (okS_join (okS_of _) h)) (okS_of _)
theorem okS_dict {ts : List Str} (h : ∀ t ∈ ts, OkS t) : OkS (dictText ts) := okS_app (okS_app (okS_of _) (okS_join (okS_of _) h)) (okS_of _)
theorem reprChar_lt {q c : Nat} (hc : c < 0x110000) : ∀ x ∈ Str.reprChar q c, x < 0x110000 := by
  have hex : ∀ w, ∀ x ∈ List.replicate (w - ((Nat.toDigits 16 c).map Char.toNat).length) 48 ++ (Nat.toDigits 16 c).map Char.toNat, x < 0x110000 := fun w x hx => by
    rcases List.mem_append.mp hx with hx | hx
    · rw [(List.mem_replicate.mp hx).2]; decide
    · rw [List.mem_map] at hx
      obtain ⟨y, _, rfl⟩ := hx
      exact char_lt y
  have two : ∀ a b : Nat, a < 0x110000 → b < 0x110000 → ∀ x ∈ [a, b], x < 0x110000 := fun a b ha hb x hx => by
    simp only [List.mem_cons, List.not_mem_nil, or_false] at hx
    rcases hx with rfl | rfl
    · exact ha
    · exact hb
  intro x hx
  unfold Str.reprChar at hx
  dsimp only at hx
  split at hx
  · exact two _ _ (by decide) hc x hx
  split at hx
  · exact two _ _ (by decide) (by decide) x hx
  split at hx
  · exact two _ _ (by decide) (by decide) x hx
  split at hx
  · exact two _ _ (by decide) (by decide) x hx
  split at hx
  · rw [List.mem_singleton.mp hx]; exact hc
  split at hx
  · rcases List.mem_append.mp hx with hx | hx
    · exact two _ _ (by decide) (by decide) x hx
    · exact hex 2 x hx
  split at hx
  · rcases List.mem_append.mp hx with hx | hx
    · exact two _ _ (by decide) (by decide) x hx
    · exact hex 4 x hx
  · rcases List.mem_append.mp hx with hx | hx
    · exact two _ _ (by decide) (by decide) x hx
    · exact hex 8 x hx
theorem foldl_repr_lt (q : Nat) : ∀ (l : List Nat) (acc : Array Nat), (∀ c ∈ l, c < 0x110000) → (∀ c ∈ acc.toList, c < 0x110000) → ∀ c ∈ (l.foldl (fun out c => out ++ (Str.reprChar q c).toArray) acc).toList, c < 0x110000
  | [], acc, _, h => h
  | d :: r, acc, h, ha => by
    rw [List.foldl_cons]
    refine foldl_repr_lt q r _ (fun c hc => h c (List.mem_cons_of_mem _ hc)) fun c hc => ?_
    rw [Array.toList_append] at hc
    rcases List.mem_append.mp hc with hc | hc
    · exact ha c hc
    · exact reprChar_lt (h d List.mem_cons_self) c (by simpa using hc)
theorem okS_repr {x : Str} (h : OkS x) : OkS (reprText x) := fun c hc => by
  have hq : reprQuote x < 0x110000 := by
    unfold reprQuote
    split <;> decide
  unfold reprText at hc
  have hc : c ∈ ((x.cps.foldl (fun out c => out ++ (Str.reprChar (reprQuote x) c).toArray) #[reprQuote x]).push (reprQuote x)).toList := hc
  rw [Array.toList_push, ← Array.foldl_toList] at hc
  rcases List.mem_append.mp hc with hc | hc
  · refine foldl_repr_lt (reprQuote x) x.cps.toList _ h (fun c hc => ?_) c hc
    rw [List.mem_singleton.mp hc]; exact hq
  · rw [List.mem_singleton.mp hc]; exact hq
mutual
theorem shown_ok : ∀ {n : Nat} {d : D}, D.good n d = true → OkS d.py.shown
  | _, .v .non, _ => by rw [D.py, PyData.shown]; exact okS_of _
  | _, .v (.bl b), _ => by rw [D.py, PyData.shown]; cases b <;> exact okS_of _
  | _, .v (.int i), _ => by rw [D.py, PyData.shown]; exact okS_of _
  | _, .v (.str b), g => by
    rw [D.good] at g
    rw [D.py, PyData.shown]
    exact okS_repr (okS_iff.mp g)
  | _, .v (.byt _), h => by simp [D.good] at h
  | _, .v (.flt _), h => by simp [D.good] at h
  | _, .v (.ref _), h => by simp [D.good] at h
  | _, .v (.ty _), h => by simp [D.good] at h
  | 0, .tup _, h => by simp [D.good] at h
  | 0, .lst _, h => by simp [D.good] at h
  | 0, .scr _, h => by simp [D.good] at h
  | 0, .dct _ _, h => by simp [D.good] at h
  | _ + 1, .dct _ _, h => by simp [D.good] at h
  | 0, .exc _ _ _, h => by simp [D.good] at h
  | _ + 1, .exc _ _ _, h => by simp [D.good] at h
  | 0, .tpf _, h => by simp [D.good] at h
  | _ + 1, .tpf _, h => by simp [D.good] at h
  | n + 1, .tup ds, g => by
    rw [D.py, PyData.shown]
    exact okS_tuple (showns_ok (n := n) (ds := ds) (by simpa [D.good] using g))
  | n + 1, .lst ds, g => by
    rw [D.py, PyData.shown]
    exact okS_list (showns_ok (n := n) (ds := ds) (by simpa [D.good] using g))
  | n + 1, .scr ns, g => by
    rw [D.py, PyData.shown]
    refine okS_list fun t ht => ?_
    clear g
    induction ns with
    | nil => rw [List.map_nil, PyData.shownAll] at ht; cases ht
    | cons i r ih =>
      rw [List.map_cons, PyData.shownAll] at ht
      rcases List.mem_cons.mp ht with rfl | ht
      · rw [PyData.shown]; exact okS_of _
      · exact ih ht
theorem showns_ok : ∀ {n : Nat} {ds : List D}, goods n ds = true → ∀ t ∈ PyData.shownAll (pys ds), OkS t
  | _, [], _ => fun t ht => by rw [pys, PyData.shownAll] at ht; cases ht
  | n, d :: ds, g => fun t ht => by
    rw [goods, Bool.and_eq_true] at g
    rw [pys, PyData.shownAll] at ht
    rcases List.mem_cons.mp ht with rfl | ht
    · exact shown_ok g.1
    · exact showns_ok g.2 t ht
end
/-! the dicts of texts -/
theorem shownK_ok {l : List (Str × Str)} (h : ∀ p ∈ l, PyData.strOk p.1 = true ∧ PyData.strOk p.2 = true) : PyData.strOk (shownK l) = true := by
  rw [okS_iff]
  unfold shownK pyKV
  rw [PyData.shown]
  refine okS_dict fun t ht => ?_
  induction l with
  | nil => rw [List.map_nil, PyData.shownKv] at ht; cases ht
  | cons p l ih =>
    rw [List.map_cons, PyData.shownKv] at ht
    rcases List.mem_cons.mp ht with rfl | ht
    · have := h p List.mem_cons_self
      rw [PyData.shown, PyData.shown]
      exact okS_app (okS_app (okS_repr (okS_iff.mp this.1)) (okS_of _)) (okS_repr (okS_iff.mp this.2))
    · exact ih (fun p hp => h p (List.mem_cons_of_mem _ hp)) ht
theorem shownK_len {l : List (Str × Str)} {B : Nat} (h : ∀ p ∈ l, PyData.strOk p.1 = true ∧ PyData.strOk p.2 = true ∧ p.1.length ≤ B ∧ p.2.length ≤ B) : (shownK l).length ≤ l.length * (20 * B + 8) + 3 := by
  unfold shownK pyKV
  rw [PyData.shown]
  have h1 := dictText_len_le (PyData.shownKv (l.map fun p => (.str p.1, .str p.2)))
  have h2 : ((PyData.shownKv (l.map fun p => (PyData.str p.1, PyData.str p.2))).map (·.length)).sum + 2 * (PyData.shownKv (l.map fun p => (PyData.str p.1, PyData.str p.2))).length ≤ l.length * (20 * B + 8) := by
    clear h1
    induction l with
    | nil => simp [PyData.shownKv]
    | cons p l ih =>
      have ih := ih fun p hp => h p (List.mem_cons_of_mem _ hp)
      have lt16 : ∀ {s : Str}, PyData.strOk s = true → ∀ c ∈ s.cps.toList, c < 16 ^ 8 := fun hs c hc => Nat.lt_of_lt_of_le (okS_iff.mp hs c hc) (by decide)
      obtain ⟨a1, a2, a3, a4⟩ := h p List.mem_cons_self
      have b1 := StrLaws.reprText_len p.1 (lt16 a1)
      have b2 := StrLaws.reprText_len p.2 (lt16 a2)
      rw [List.map_cons, PyData.shownKv, List.map_cons, List.sum_cons, List.length_cons, List.length_cons, PyData.shown, PyData.shown, strLen_append, strLen_append]
      have e : (l.length + 1) * (20 * B + 8) = l.length * (20 * B + 8) + (20 * B + 8) := Nat.succ_mul _ _
      have : (": " : Str).length = 2 := rfl
      omega
  omega
end G

namespace C
open PySem PySem.Spec L2 G TL
def Printable (s : Str) : Prop := ∀ c ∈ tl s, 32 ≤ c ∧ c ≤ 126
/-- the k digits of n -/
def digs : Nat → Nat → List Nat
  | 0, _ => []
  | k + 1, n => digs k (n / 10) ++ [48 + n % 10]
def isDig (c : Nat) : Bool := decide (48 ≤ c) && decide (c ≤ 57)
def numIn (l : List Nat) (at_ k : Nat) : Int :=
  if ((l.drop at_).take k).length < k ∨ ((l.drop at_).take k).all isDig = false then -1 else ((NumText.digitsVal ((l.drop at_).take k) : Nat) : Int)
theorem so_sp : Str.ofString " " = mkS [32] := by decide +kernel
theorem so_ti : Str.ofString "~" = mkS [126] := by decide +kernel
theorem so_0 : Str.ofString "0" = mkS [48] := by decide +kernel
theorem so_9 : Str.ofString "9" = mkS [57] := by decide +kernel
theorem so_pl : Str.ofString "+" = mkS [43] := by decide +kernel
theorem so_dot : Str.ofString "." = mkS [46] := by decide +kernel
theorem digs_len : ∀ (k n : Nat), (digs k n).length = k
  | 0, _ => rfl
  | k + 1, n => by rw [digs, List.length_append, digs_len k]; rfl
theorem pad_digs : ∀ (k n : Nat), 0 < k → n < 10 ^ k → List.replicate (k - (numL n).length) 48 ++ numL n = digs k n
  | 0, _, h, _ => absurd h (by decide)
  | 1, n, _, h => by
    have h' : n < 10 := by simpa using h
    rw [numL_lt h', digs, digs]
    simp [Nat.mod_eq_of_lt h']
  | k + 2, n, _, h => by
    have h2 : n / 10 < 10 ^ (k + 1) := by
      rw [Nat.div_lt_iff_lt_mul (by decide)]
      rw [Nat.pow_succ] at h; exact h
    rw [digs, ← pad_digs (k + 1) (n / 10) (by omega) h2]
    by_cases h10 : n < 10
    · have : n / 10 = 0 := Nat.div_eq_of_lt h10
      rw [this, numL_lt h10, numL_lt (by decide : 0 < 10), Nat.mod_eq_of_lt h10]
      show List.replicate (k + 1) 48 ++ [48 + n] = (List.replicate k 48 ++ [48]) ++ [48 + n]
      rw [List.replicate_succ']
    · rw [numL_step (by omega : 10 ≤ n), List.length_append, ← List.append_assoc]
      congr 2
      congr 1
      show k + 2 - ((numL (n / 10)).length + 1) = _
      omega
theorem log2_small {n k : Nat} (h : n < 2 ^ k) (hk : 0 < k) : n.log2 < k := by
  by_cases h0 : n = 0
  · rw [h0]; exact hk
  · exact (Nat.log2_lt h0).mpr h
theorem ten_le_two : ∀ k : Nat, 10 ^ k ≤ 2 ^ (4 * k)
  | 0 => by decide
  | k + 1 => by
    have e : 2 ^ (4 * (k + 1)) = 2 ^ (4 * k) * 2 ^ 4 := by rw [← Nat.pow_add]; rfl
    rw [e, Nat.pow_succ]
    exact Nat.mul_le_mul (ten_le_two k) (by decide)
theorem rjust_tl (n k : Nat) (hk : 0 < k) (h : n < 10 ^ k) : Txt.rjustF (toString ((n : Nat) : Int) : String) (k : Int) 48 = mkS (digs k n) := by
  refine str_eq ?_
  rw [← pad_digs k n hk h]
  have hl : (Str.ofString (toString ((n : Nat) : Int))).length = (numL n).length := by rw [len_tl, tl_num]
  unfold Txt.rjustF
  split
  · rename_i h1
    rw [hl] at h1
    rw [tl_num, show k - (numL n).length = 0 by omega]
    rfl
  · rename_i h1
    rw [hl] at h1
    unfold Builtin.Str.padded
    rw [hl]
    show (Array.replicate _ 48 ++ (Str.ofString (toString ((n : Nat) : Int))).cps ++ Array.replicate 0 48).toList = _
    simp only [Array.toList_append, Array.toList_replicate, List.replicate_zero, List.append_nil]
    rw [Int.toNat_natCast]
    congr 1
    exact tl_num n
theorem pad_ok : ∀ k : Fin 101, PySem.PadOk ((k.val : Nat) : Int) = true := by decide +kernel
theorem isDig_all {l : List Nat} (h : l.all isDig = true) : NumText.AllDigits l := fun c hc => by
  have := List.all_eq_true.mp h c hc
  unfold isDig at this
  rw [Bool.and_eq_true, decide_eq_true_eq, decide_eq_true_eq] at this
  exact this
theorem numIn_range (l : List Nat) (a k : Nat) : -1 ≤ numIn l a k := by
  unfold numIn
  split <;> omega
theorem inV2 (z a b : List Nat) : inV (.str (mkS z)) [.str (mkS a), .str (mkS b)] = (decide (z = a) || decide (z = b)) := by
  have e : ∀ x y : List Nat, eqV (.str (mkS x)) (.str (mkS y)) = decide (y = x) := fun x y => by
    show ((mkS x) == (mkS y)) = _
    rw [Bool.eq_iff_iff, beq_iff_eq, decide_eq_true_eq, mkS_inj, eq_comm]
  unfold inV
  rw [List.any_cons, List.any_cons, List.any_nil, e, e, Bool.or_false]
theorem rgc_up {b c : Nat} (hc : 0 < c) (hc2 : c < 1073741824) (hb : b < 1073741824) : RgC 0 b c ((b + c - 1) / c) := by
  have fit : ∀ i : Int, -(2 ^ 62) ≤ i → i < 2 ^ 62 → Builtin.Range.rangeFitsLong i = true := fun i h1 h2 => by
    unfold Builtin.Range.rangeFitsLong
    simp
    omega
  have e : Builtin.Range.rangeSize 0 (b : Int) (c : Int) = (((b + c - 1) / c : Nat) : Int) := by
    unfold Builtin.Range.rangeSize
    rw [if_pos (by omega)]
    by_cases h0 : b = 0
    · subst h0
      rw [if_neg (by omega), Nat.div_eq_of_lt (by omega)]
      rfl
    · rw [if_pos (by omega)]
      have h1 : (b : Int) - 0 - 1 = ((b - 1 : Nat) : Int) := by omega
      have h2 : (b + c - 1) / c = (b - 1) / c + 1 := by
        rw [show b + c - 1 = (b - 1) + c by omega, Nat.add_div_right _ hc]
      rw [h1, h2, ← Int.natCast_ediv]
      rfl
  have hle : (b + c - 1) / c ≤ b + c := Nat.le_trans (Nat.div_le_self _ _) (by omega)
  generalize (b + c - 1) / c = q at e hle ⊢
  refine ⟨by omega, by omega, ?_, e⟩
  unfold Builtin.Range.small
  rw [e, fit 0 (by omega) (by omega), fit b (by omega) (by omega), fit c (by omega) (by omega), fit _ (by omega) (by omega), if_pos (by omega), fit _ (by omega) (by omega)]
  simp
theorem mulX_of {i j : Int} (a b : Nat) (hi : i.natAbs < 2 ^ a) (hj : j.natAbs < 2 ^ b) (ha : 0 < a) (hb : 0 < b) (h : a + b ≤ 60000000) : CMulX i j := by
  unfold CMulX
  have := log2_small hi ha
  have := log2_small hj hb
  omega
theorem goods_ints (gs : List Int) : goods 63 (gs.map D.int) = true := by
  induction gs with
  | nil => rfl
  | cons a r ih => simp [goods, D.good, ih]
theorem ixN0 {n : Nat} (h : 0 < n) : ixN n 0 = some 0 := by
  unfold ixN
  rw [if_pos (by decide), if_pos (by omega)]; rfl
theorem atI0 {α : Type} {a : α} {l : List α} : atI (a :: l) 0 = some a := by
  unfold atI
  rw [ixN0 (by simp : 0 < (a :: l).length)]; rfl
theorem joinL_nil : ∀ ys : List (List Nat), TL.joinL [] ys = ys.flatten
  | [] => rfl
  | [x] => by simp [TL.joinL]
  | x :: y :: r => by
    have := joinL_nil (y :: r)
    rw [List.flatten_cons, ← this]
    simp [TL.joinL]
theorem join_mkS (ys : List (List Nat)) : Txt.join (mkS []) (ys.map mkS) = mkS ys.flatten := by
  rw [← joinL_nil]; exact SX.join_S [] ys
def signs1 : List Nat := [32, 33, 34, 35, 36, 38, 39, 40, 41, 42, 43, 44, 45, 46, 47, 48, 49, 50, 51, 52, 53, 54, 55, 56, 57, 58, 59, 60, 61, 62, 63, 64, 65, 66, 67, 68, 69, 70, 71, 72, 73, 74, 75, 76, 77, 78, 79, 80, 81, 82, 83, 84, 85, 86, 87, 88, 89, 90, 91, 92, 93, 94, 95, 96, 97, 98, 99, 100, 101, 102, 103, 104, 105, 106, 107, 108, 109, 110, 111, 112, 113, 114, 115, 116, 117, 118, 119, 120, 121, 122, 123, 124, 125, 126]
theorem so_s1 : Str.ofString " !\"#$&'()*+,-./0123456789:;<=>?@ABCDEFGHIJKLMNOPQRSTUVWXYZ[\\]^_`abcdefghijklmnopqrstuvwxyz{|}~" = mkS signs1 := by decide +kernel
theorem so_nil : Str.ofString "" = mkS [] := by decide +kernel
def Pr (l : List Nat) : Prop := ∀ c ∈ l, 32 ≤ c ∧ c ≤ 126
theorem pr_s1 : Pr signs1 := by unfold Pr; decide +kernel
/-- one sign of a text -/
theorem at_mkS (l : List Nat) (r : Int) (h0 : 0 ≤ r) (h1 : r < l.length) (hp : Pr l) : ∃ c, atI (mkS l).cps.toList r = some c ∧ 32 ≤ c ∧ c ≤ 126 := by
  obtain ⟨n, rfl⟩ : ∃ n : Nat, r = n := ⟨r.toNat, by omega⟩
  have hn : n < l.length := by omega
  have e : (mkS l).cps.toList[n]? = some l[n] := List.getElem?_eq_getElem hn
  exact ⟨l[n], atI_of e, hp _ (List.getElem_mem hn)⟩
/-- an item of a list -/
theorem at_lst {α : Type} (l : List α) (r : Int) (h0 : 0 ≤ r) (h1 : r < l.length) : ∃ c, c ∈ l ∧ atI l r = some c := by
  obtain ⟨n, rfl⟩ : ∃ n : Nat, r = n := ⟨r.toNat, by omega⟩
  have hn : n < l.length := by omega
  exact ⟨l[n], List.getElem_mem hn, atI_of (List.getElem?_eq_getElem hn)⟩
theorem flat_ones (ys : List D) (h : ∀ y ∈ ys, ∃ c, y = .str (mkS [c]) ∧ 32 ≤ c ∧ c ≤ 126) : ∃ l : List Nat, l.length = ys.length ∧ Pr l ∧ ys = (l.map fun c => [c]).map fun x => D.str (mkS x) := by
  induction ys with
  | nil => exact ⟨[], rfl, fun _ h => absurd h List.not_mem_nil, rfl⟩
  | cons y r ih =>
    obtain ⟨l, h1, h2, h3⟩ := ih fun z hz => h z (List.mem_cons_of_mem _ hz)
    obtain ⟨c, rfl, hc⟩ := h y (List.mem_cons_self ..)
    refine ⟨c :: l, by simp [h1], fun d hd => ?_, by rw [h3]; rfl⟩
    rcases List.mem_cons.mp hd with rfl | hd
    · exact hc
    · exact h2 d hd
theorem flat_sing (l : List Nat) : (l.map fun c => [c]).flatten = l := by
  induction l with
  | nil => rfl
  | cons a r ih => simp [ih]
theorem sum_ones (l : List Nat) : (((l.map fun c => [c]).map mkS).map (·.length)).sum = l.length := by
  induction l with
  | nil => rfl
  | cons a r ih =>
    simp only [List.map_cons, List.sum_cons, List.length_cons, len_mkS] at ih ⊢
    rw [ih]; simp; omega
/-- a text again and again, cut -/
theorem rep_cut {l : List Nat} (n : Nat) (h : 0 < l.length) : ((List.replicate n l).flatten.take n).length = n := by
  rw [List.length_take, List.length_flatten, List.map_replicate, List.sum_replicate_nat]
  have : n ≤ n * l.length := Nat.le_mul_of_pos_right _ h
  omega
theorem rep_pr {l : List Nat} (n : Nat) (h : Pr l) : Pr ((List.replicate n l).flatten) := fun c hc => by
  rw [List.mem_flatten] at hc
  obtain ⟨z, hz, hc⟩ := hc
  rw [List.mem_replicate] at hz
  exact h c (hz.2 ▸ hc)
theorem find_dg (c : Nat) : Txt.find (mkS [48, 49, 50, 51, 52, 53, 54, 55, 56, 57]) (mkS [c]) = if isDig c then (c : Int) - 48 else -1 := by
  have all : ∀ r : Fin 10, Txt.find (mkS [48, 49, 50, 51, 52, 53, 54, 55, 56, 57]) (mkS [48 + r.val]) = (r.val : Int) := by decide +kernel
  by_cases h : isDig c = true
  · rw [if_pos h]
    unfold isDig at h
    rw [Bool.and_eq_true, decide_eq_true_eq, decide_eq_true_eq] at h
    have := all ⟨c - 48, by omega⟩
    rw [show 48 + (⟨c - 48, by omega⟩ : Fin 10).val = c by simp; omega] at this
    rw [this]
    simp; omega
  · rw [if_neg h]
    have hf := StrLaws.found_one (mkS [48, 49, 50, 51, 52, 53, 54, 55, 56, 57]) c
    have hn : c ∉ (mkS [48, 49, 50, 51, 52, 53, 54, 55, 56, 57]).cps.toList := by
      intro q
      refine h ?_
      show isDig c = true
      have q : c ∈ [48, 49, 50, 51, 52, 53, 54, 55, 56, 57] := q
      simp only [List.mem_cons, List.not_mem_nil, or_false] at q
      unfold isDig
      rw [Bool.and_eq_true, decide_eq_true_eq, decide_eq_true_eq]
      omega
    rw [decide_eq_false hn] at hf
    unfold Txt.find
    show (match Builtin.Str.occurrences (mkS [48, 49, 50, 51, 52, 53, 54, 55, 56, 57]) ⟨#[c]⟩ 0 (mkS [48, 49, 50, 51, 52, 53, 54, 55, 56, 57]).length 1 with | i :: _ => (i : Int) | [] => -1) = -1
    cases q : Builtin.Str.occurrences (mkS [48, 49, 50, 51, 52, 53, 54, 55, 56, 57]) ⟨#[c]⟩ 0 (mkS [48, 49, 50, 51, 52, 53, 54, 55, 56, 57]).length 1 with
    | nil => rfl
    | cons i r => rw [q] at hf; cases hf
theorem so_dg : Str.ofString "0123456789" = mkS [48, 49, 50, 51, 52, 53, 54, 55, 56, 57] := by decide +kernel
theorem at_dg (r : Nat) (h : r < 10) : atI (mkS [48, 49, 50, 51, 52, 53, 54, 55, 56, 57]).cps.toList (r : Int) = some (48 + r) := by
  have : ∀ r : Fin 10, atI (mkS [48, 49, 50, 51, 52, 53, 54, 55, 56, 57]).cps.toList ((r : Nat) : Int) = some (48 + r.val) := by decide +kernel
  exact this ⟨r, h⟩
theorem digs_cons : ∀ (j x : Nat), digs (j + 1) x = (48 + x / 10 ^ j % 10) :: digs j x
  | 0, x => by simp [digs]
  | j + 1, x => by
    rw [digs, digs_cons j (x / 10), digs, Nat.div_div_eq_div_mul, Nat.pow_succ', List.cons_append]
theorem cut_len (s : Str) (lo hi : Option Int) : (cutS s lo hi).length ≤ s.length := by
  unfold cutS
  show (List.toArray _).size ≤ _
  rw [List.size_toArray, List.length_take, List.length_drop]
  have := len_tl' s
  have e : s.cps.toList.length = s.length := this.symm
  omega
theorem ix_all {L : List D} {r : Int} {P : D → Prop} (h0 : 0 ≤ r) (h1 : r < L.length) (h : ∀ z ∈ L, P z) : ∃ z, atI L r = some z ∧ P z := by
  obtain ⟨z, hz, e⟩ := at_lst L r h0 h1
  exact ⟨z, e, h z hz⟩
theorem digs_val : ∀ (k n : Nat), n < 10 ^ k → NumText.digitsVal (digs k n) = n
  | 0, n, h => by simp [digs, NumText.digitsVal]; simp at h; exact h.symm
  | k + 1, n, h => by
    have ih := digs_val k (n / 10) (by rw [Nat.div_lt_iff_lt_mul (by decide)]; rw [Nat.pow_succ] at h; exact h)
    unfold NumText.digitsVal at ih ⊢
    rw [digs, List.foldl_append, ih]
    simp; omega
theorem digs_dig : ∀ (k n : Nat), (digs k n).all isDig = true
  | 0, n => rfl
  | k + 1, n => by
    rw [digs, List.all_append, digs_dig k]
    simp [isDig]; omega
theorem numIn_digs {l x y : List Nat} {n a : Nat} (h : l = x ++ (digs 6 n ++ y)) (ha : x.length = a) (hn : n < 1000000) : numIn l a 6 = (n : Int) := by
  subst h ha
  unfold numIn
  rw [List.drop_left, List.take_left' (digs_len 6 n), digs_len, digs_dig, digs_val 6 n (by omega), if_neg (by simp)]
/-- the bound of a script's numbers -/
@[irreducible] def bigB : Nat := 2 ^ 1048576
theorem big_log {n : Nat} (h : n < bigB) : n.log2 < 1048576 := by
  unfold bigB at h
  exact log2_small h (by decide)
theorem bits_big {z : Int} (h : Builtin.Int.intBits z ≤ 1048576) : z.natAbs < bigB := by
  unfold bigB
  by_cases h0 : z = 0
  · subst h0; exact Nat.two_pow_pos _
  · unfold Builtin.Int.intBits at h
    rw [if_neg (by simpa using h0)] at h
    exact (Nat.log2_lt (by omega)).mp (by omega)
theorem mulX_big {i j : Int} (b : Nat) (hi : i.natAbs < bigB) (hj : j.natAbs < 2 ^ b) (hb : 0 < b) (h : b ≤ 50000000) : CMulX i j := by
  unfold CMulX
  have := big_log hi
  have := log2_small hj hb
  omega
/-- eqD with the empty list -/
theorem eqD_nil (ds : List D) : eqD (.lst ds) (.lst []) = ds.isEmpty := by
  unfold eqD
  cases ds <;> simp [D.py, pys, PyData.eqv, PyData.eqvAll]
theorem dNe_nil {ds : List D} {Q : D → Prop} (g : goods 63 ds = true) (h : Q (.bl (!ds.isEmpty))) : dNe (.lst ds) (.lst []) Q := by
  have key : dNeN (.lst ds) (.lst []) Q := ⟨by simpa [D.good] using g, by simp [D.good, goods], by rw [eqD_nil]; exact h⟩
  unfold dNe
  exact key
theorem goods_strs {l : List Nat} (h : Pr l) : goods 63 (l.map fun c => D.str (mkS [c])) = true := by
  induction l with
  | nil => rfl
  | cons a r ih =>
    have ha := h a (List.mem_cons_self ..)
    simp only [List.map_cons, goods, D.good, Bool.and_eq_true]
    refine ⟨?_, ih fun c hc => h c (List.mem_cons_of_mem _ hc)⟩
    unfold PyData.strOk mkS
    simp; omega
theorem inS_one (c : Nat) (s : Str) : inS (mkS [c]) s = decide (c ∈ tl s) := StrLaws.found_one s c
theorem pr_lower {l : List Nat} (h : Pr l) : ∃ l', Txt.lower (mkS l) = mkS l' ∧ Pr l' ∧ l'.length = l.length := by
  refine ⟨l.map PyProof.Rows.lo1, ?_, fun c hc => ?_, by simp⟩
  · rw [PyProof.Rows.lower_ascii (fun c hc => by have := h c hc; omega)]
    refine str_eq ?_
    show (Array.map _ _).toList = _
    rw [Array.toList_map]; rfl
  · rw [List.mem_map] at hc
    obtain ⟨d, hd, rfl⟩ := hc
    have := h d hd
    unfold PyProof.Rows.lo1
    split <;> omega
theorem numL_ge (n : Nat) : ∀ c ∈ numL n, 48 ≤ c := by
  induction n using Nat.strongRecOn with
  | _ n ih =>
    by_cases h : n < 10
    · rw [numL_lt h]; intro c hc; simp at hc; omega
    · rw [numL_step (by omega : 10 ≤ n)]
      intro c hc
      rcases List.mem_append.mp hc with hc | hc
      · exact ih (n / 10) (by omega) c hc
      · simp at hc; omega
theorem zfill_tl (n k : Nat) (hk : 0 < k) (h : n < 10 ^ k) : Txt.zfill (toString ((n : Nat) : Int) : String) (k : Int) = mkS (digs k n) := by
  rw [← rjust_tl n k hk h]
  unfold Txt.zfill Txt.rjustF
  split
  · rfl
  · unfold zfilled
    split
    · rename_i hc
      have : 43 ∈ numL n := by
        rw [← tl_num n]
        exact Array.mem_toList_iff.mpr (Array.mem_of_getElem? hc)
      have := numL_ge n _ this
      omega
    · rename_i hc
      have : 45 ∈ numL n := by
        rw [← tl_num n]
        exact Array.mem_toList_iff.mpr (Array.mem_of_getElem? hc)
      have := numL_ge n _ this
      omega
    · rw [Int.toNat_natCast]
theorem big_pos : 0 < bigB := by unfold bigB; exact Nat.two_pow_pos _
theorem mod61 (X : Int) : (X % 2305843009213693951).natAbs < 2 ^ 61 := by omega
theorem mod61d (X d : Int) (hd : 0 < d) : (X % 2305843009213693951 / d).natAbs < 2 ^ 61 := by
  have h0 : 0 ≤ X % 2305843009213693951 := by omega
  have h1 := Int.ediv_le_self d h0
  have h2 := Int.ediv_nonneg h0 (by omega : 0 ≤ d)
  omega
theorem dLc_mapF {α : Type} {fi : TID} {fe : TD} {i : Nat} {ρ : G.Env} {W : Wd} {Q : KL} {Qx : KX} (xs : List α) (f g : α → D) (hno : noOwn ρ [i]) (hl : xs.length ≤ sizeLine) (hi : ∀ P : KL, P (xs.map f) ρ W → fi ρ W P Qx)
    (he : ∀ x ∈ xs, ∀ P : KD, P (g x) ((ρ.set i none).set i (some (.sh (f x)))) W → fe ((ρ.set i none).set i (some (.sh (f x)))) W P noX) (hq : Q (xs.map g) ρ W) : dLc fi (gdName i) dYes fe [i] ρ W Q Qx := by
  refine dLc_inv (xs.map f) W (fun j acc W' => W' = W ∧ acc = (xs.take j).map g) hno (by rw [List.length_map]; exact hl) hi ⟨rfl, by simp⟩ (fun j d acc W' hj _ hI => ?_) (fun acc W' _ hI => ?_)
  · obtain ⟨rfl, rfl⟩ := hI
    rw [List.getElem?_map] at hj
    cases hx : xs[j]? with
    | none => rw [hx] at hj; cases hj
    | some x =>
      rw [hx] at hj; cases hj
      refine ⟨rfl, ?_⟩
      show fe _ W' _ noX
      refine he x (List.mem_of_getElem? hx) _ ⟨rfl, rfl, ?_⟩
      rw [List.take_add_one, hx]
      simp
  · obtain ⟨rfl, rfl⟩ := hI
    rw [List.length_map, List.take_length]
    exact hq
/-- .. the items pairs -/
theorem dLc_map2 {α : Type} {fi : TID} {fe : TD} {i j : Nat} {ρ : G.Env} {W : Wd} {Q : KL} {Qx : KX} (xs : List α) (f1 f2 g : α → D) (hno : noOwn ρ [i, j]) (hl : xs.length ≤ sizeLine) (hi : ∀ P : KL, P (xs.map fun x => .tup [f1 x, f2 x]) ρ W → fi ρ W P Qx)
    (he : ∀ x ∈ xs, ∀ P : KD, P (g x) ((((ρ.set j none).set i none).set i (some (.sh (f1 x)))).set j (some (.sh (f2 x)))) W → fe ((((ρ.set j none).set i none).set i (some (.sh (f1 x)))).set j (some (.sh (f2 x)))) W P noX) (hq : Q (xs.map g) ρ W) :
    dLc fi (gdTup 2 (gdCons (gdName i) (gdCons (gdName j) gdNil))) dYes fe [i, j] ρ W Q Qx := by
  refine dLc_inv (xs.map fun x => .tup [f1 x, f2 x]) W (fun j acc W' => W' = W ∧ acc = (xs.take j).map g) hno (by rw [List.length_map]; exact hl) hi ⟨rfl, by simp⟩ (fun n d acc W' hj _ hI => ?_) (fun acc W' _ hI => ?_)
  · obtain ⟨rfl, rfl⟩ := hI
    rw [List.getElem?_map] at hj
    cases hx : xs[n]? with
    | none => rw [hx] at hj; cases hj
    | some x =>
      rw [hx] at hj; cases hj
      refine ⟨rfl, rfl, ?_⟩
      show fe _ W' _ noX
      refine he x (List.mem_of_getElem? hx) _ ⟨rfl, rfl, ?_⟩
      rw [List.take_add_one, hx]
      simp
  · obtain ⟨rfl, rfl⟩ := hI
    rw [List.length_map, List.take_length]
    exact hq
theorem sum_le {l : List Nat} {B : Nat} (h : ∀ x ∈ l, x ≤ B) : l.sum ≤ l.length * B := by
  induction l with
  | nil => simp
  | cons a r ih =>
    have h1 := h a (List.mem_cons_self ..)
    have h2 := ih fun x hx => h x (List.mem_cons_of_mem _ hx)
    rw [List.sum_cons, List.length_cons, Nat.add_mul]
    omega
theorem flat_len {ys : List (List Nat)} {n B : Nat} (hn : ys.length ≤ n) (hB : ∀ y ∈ ys, y.length ≤ B) : ys.flatten.length ≤ n * B := by
  rw [List.length_flatten]
  have := sum_le (l := ys.map List.length) (B := B) (fun x hx => by
    rw [List.mem_map] at hx
    obtain ⟨y, hy, rfl⟩ := hx
    exact hB y hy)
  rw [List.length_map] at this
  exact Nat.le_trans this (Nat.mul_le_mul_right _ hn)
theorem dJoin_mkS {ys : List (List Nat)} {n B : Nat} {Q : D → Prop} (hn : ys.length ≤ n) (hB : ∀ y ∈ ys, y.length ≤ B) (hs : n * B ≤ 16777216) (h : Q (.str (mkS ys.flatten))) : dJoin (.str (mkS [])) [.lst (ys.map fun x => .str (mkS x))] Q := by
  refine ⟨ys.map mkS, ?_, ?_, ?_⟩
  · have := strsOf_map (ys.map mkS)
    rw [List.map_map] at this
    exact this
  · have e : (ys.map mkS).map (·.length) = ys.map List.length := by
      rw [List.map_map]
      exact List.map_congr_left fun y _ => len_mkS y
    have := flat_len hn hB
    rw [List.length_flatten] at this
    rw [e, len_mkS, List.length_nil, Nat.mul_zero]
    omega
  · rw [join_mkS]; exact h
theorem str_small {n : Nat} (h : n < 10) : (Str.ofString (toString ((n : Nat) : Int))) = mkS (digs 1 n) := by
  refine str_eq ?_
  rw [tl_num, numL_lt h, digs, digs]
  simp [Nat.mod_eq_of_lt h]
theorem join_parts {ys : List (List Nat)} {n B : Nat} (hn : ys.length ≤ n) (hB : ∀ y ∈ ys, y.length ≤ B) (hs : n * B ≤ 16777216) : strsOf (ys.map fun x => .str (mkS x)) = some (ys.map mkS) ∧ ((ys.map mkS).map (·.length)).sum + (ys.map mkS).length * (mkS []).length ≤ 16777216 := by
  refine ⟨?_, ?_⟩
  · have := strsOf_map (ys.map mkS)
    rw [List.map_map] at this
    exact this
  · have e : (ys.map mkS).map (·.length) = ys.map List.length := by
      rw [List.map_map]
      exact List.map_congr_left fun y _ => len_mkS y
    have := flat_len hn hB
    rw [List.length_flatten] at this
    rw [e, len_mkS, List.length_nil, Nat.mul_zero]
    omega
theorem dLc_filtF {α : Type} {fi : TID} {ft : TB} {fe : TD} {i : Nat} {ρ : G.Env} {W : Wd} {Q : KL} {Qx : KX} (xs : List α) (f g : α → D) (p : α → Bool) (hno : noOwn ρ [i]) (hl : xs.length ≤ sizeLine) (hi : ∀ P : KL, P (xs.map f) ρ W → fi ρ W P Qx)
    (ht : ∀ x ∈ xs, ∀ P : KB, P (p x) ((ρ.set i none).set i (some (.sh (f x)))) W → ft ((ρ.set i none).set i (some (.sh (f x)))) W P noX)
    (he : ∀ x ∈ xs, p x = true → ∀ P : KD, P (g x) ((ρ.set i none).set i (some (.sh (f x)))) W → fe ((ρ.set i none).set i (some (.sh (f x)))) W P noX) (hq : Q ((xs.filter p).map g) ρ W) : dLc fi (gdName i) ft fe [i] ρ W Q Qx := by
  refine dLc_inv (xs.map f) W (fun j acc W' => W' = W ∧ acc = ((xs.take j).filter p).map g) hno (by rw [List.length_map]; exact hl) hi ⟨rfl, by simp⟩ (fun j d acc W' hj _ hI => ?_) (fun acc W' _ hI => ?_)
  · obtain ⟨rfl, rfl⟩ := hI
    rw [List.getElem?_map] at hj
    cases hx : xs[j]? with
    | none => rw [hx] at hj; cases hj
    | some x =>
      rw [hx] at hj; cases hj
      refine ht x (List.mem_of_getElem? hx) _ ⟨rfl, ?_⟩
      cases hp : p x with
      | true =>
        rw [if_pos rfl]
        refine he x (List.mem_of_getElem? hx) hp _ ⟨rfl, rfl, ?_⟩
        rw [List.take_add_one, hx]
        simp [hp]
      | false =>
        rw [if_neg Bool.false_ne_true]
        refine ⟨rfl, ?_⟩
        rw [List.take_add_one, hx]
        simp [hp]
  · obtain ⟨rfl, rfl⟩ := hI
    rw [List.length_map, List.take_length]
    exact hq
theorem dNe_str {a b : Str} {Q : D → Prop} (h : Q (.bl (!decide (a = b)))) : dNe (.str a) (.str b) Q := by
  have : decide (V.str a = V.str b) = decide (a = b) := by
    rw [Bool.eq_iff_iff, decide_eq_true_eq, decide_eq_true_eq]
    exact ⟨fun h => by injection h, fun h => by rw [h]⟩
  unfold dNe
  show (if scal _ _ = true then _ else _)
  rw [if_pos (rfl : scal _ _ = true), this]
  exact h
theorem dNe_int {a b : Int} {Q : D → Prop} (h : Q (.bl (!decide (a = b)))) : dNe (.int a) (.int b) Q := by
  have : decide (V.int a = V.int b) = decide (a = b) := by
    rw [Bool.eq_iff_iff, decide_eq_true_eq, decide_eq_true_eq]
    exact ⟨fun h => by injection h, fun h => by rw [h]⟩
  unfold dNe
  show (if scal _ _ = true then _ else _)
  rw [if_pos (rfl : scal _ _ = true), this]
  exact h
theorem dNe_bl {a b : Bool} {Q : D → Prop} (h : Q (.bl (!decide (a = b)))) : dNe (.bl a) (.bl b) Q := by
  have : decide (V.bl a = V.bl b) = decide (a = b) := by
    rw [Bool.eq_iff_iff, decide_eq_true_eq, decide_eq_true_eq]
    exact ⟨fun h => by injection h, fun h => by rw [h]⟩
  unfold dNe
  show (if scal _ _ = true then _ else _)
  rw [if_pos (rfl : scal _ _ = true), this]
  exact h
theorem dEq_bl {a b : Bool} {Q : D → Prop} (h : Q (.bl (decide (a = b)))) : dEq (.bl a) (.bl b) Q := by
  have : decide (V.bl a = V.bl b) = decide (a = b) := by
    rw [Bool.eq_iff_iff, decide_eq_true_eq, decide_eq_true_eq]
    exact ⟨fun h => by injection h, fun h => by rw [h]⟩
  unfold dEq
  show (if scal _ _ = true then _ else _)
  rw [if_pos (rfl : scal _ _ = true), this]
  exact h
/-- the items known by B alone: a comprehension over each such list -/
theorem dLc_of {fi : TID} {gd : TGD} {ft : TB} {fe : TD} {vs : List Nat} {ρ : G.Env} {W : Wd} {Q : KL} {Qx : KX} (B : List D → Prop) (hno : noOwn ρ vs) (hi : ∀ P : KL, (∀ ds, B ds → P ds ρ W) → fi ρ W P Qx)
    (h : ∀ ds, B ds → dLc (fun ρ W P _ => P ds ρ W) gd ft fe vs ρ W Q Qx) : dLc fi gd ft fe vs ρ W Q Qx := by
  unfold dLc
  refine ⟨hno, hi _ fun ds b => ?_⟩
  have := h ds b
  unfold dLc at this
  exact this.2
end C

namespace J
open PySem PySem.Spec L2 G TL C
/-! the judge's data: texts, rows, notes, commits -/
def isTextD : D → Bool
  | .v (.str s) => (tl s).all fun c => decide (32 ≤ c) && decide (c ≤ 126)
  | _ => false
def isIntD : D → Bool
  | .v (.int _) => true
  | _ => false
def isBlD : D → Bool
  | .v (.bl _) => true
  | _ => false
/-- None, or a text -/
def isTonD (d : D) : Bool := D.isV d .non || isTextD d
/-- a row; may its value go? -/
def isRowM (b : Bool) : D → Bool
  | .tup [a, v] => isTextD a && ((b && D.isV v .non) || isTextD v)
  | _ => false
def isRowD (d : D) : Bool := isRowM true d
def keyL : D → List Nat
  | .tup (.v (.str s) :: _) => tl s
  | _ => []
/-- each less than the next -/
def ordL : List (List Nat) → Bool
  | a :: b :: r => decide (a < b) && ordL (b :: r)
  | _ => true
def isRowsD (b : Bool) : D → Bool
  | .tup ds => ds.all (isRowM b) && ordL (ds.map keyL)
  | _ => false
def isChD (d : D) : Bool := isRowsD true d
def isEntD (d : D) : Bool := isRowsD false d
def isNoteD : D → Bool
  | .tup [a, b, c] => D.isV a (.str (Str.ofString "value")) && (isTextD b && isTonD c)
  | .tup [a, b, c, e] => D.isV a (.str (Str.ofString "entries")) && (isTonD b && (isTonD c && isEntD e))
  | _ => false
def isNumD (n : Int) : D → Bool
  | .v (.int i) => decide (0 ≤ i) && decide (i ≤ n - 1)
  | _ => false
def areNotesD : D → Bool
  | .tup ns => ns.all isNoteD
  | _ => false
def isComD (n : Int) : D → Bool
  | .tup [a, b, c, e] => isNumD n a && (isBlD b && (areNotesD c && isChD e))
  | _ => false
def isHistD : D → Bool
  | .tup cs => (List.range cs.length).all fun k => isComD ((k : Int) + 1) (cs.getD k .non)
  | _ => false
abbrev NC (d : D) : Prop := Nice 12 8000000 d
abbrev Rw := List Nat × Option (List Nat)
def optD : Option (List Nat) → D
  | none => .non
  | some l => .str (mkS l)
def rowD (r : Rw) : D := .tup [.str (mkS r.1), optD r.2]
def rowsD (rs : List Rw) : D := .tup (rs.map rowD)
def TxB (l : List Nat) : Prop := l.length ≤ 40 ∧ Pr l
def OpB (o : Option (List Nat)) : Prop := ∀ v, o = some v → TxB v
/-- small printable rows -/
def RowB (r : Rw) : Prop := TxB r.1 ∧ OpB r.2
inductive Nt
  | v (k : List Nat) (x : Option (List Nat))
  | e (lo hi : Option (List Nat)) (rs : List Rw)
  deriving DecidableEq
def ntD : Nt → D
  | .v k x => .tup [.str (Str.ofString "value"), .str (mkS k), optD x]
  | .e lo hi rs => .tup [.str (Str.ofString "entries"), optD lo, optD hi, rowsD rs]
/-- the changes of a commit, the entries of a note -/
structure ChOk (m : Nat) (rs : List Rw) : Prop where
  len : rs.length ≤ m
  row : ∀ r ∈ rs, RowB r
  ord : ordL (rs.map (·.1)) = true
def NtOk : Nt → Prop
  | .v k x => TxB k ∧ OpB x
  | .e lo hi rs => OpB lo ∧ OpB hi ∧ ChOk 60 rs ∧ ∀ r ∈ rs, r.2 ≠ none
def lowB : Option (List Nat) → List Nat → Bool
  | some a, l => decide (l < a)
  | none, _ => false
def highB : Option (List Nat) → List Nat → Bool
  | some a, l => !decide (l < a)
  | none, _ => false
def hasN : Nt → List Nat → Bool
  | .v k _, l => decide (l = k)
  | .e lo hi _, l => !lowB lo l && !highB hi l
structure Cm where
  snap : Nat
  ser : Bool
  nts : List Nt
  ch : List Rw
def cmD (c : Cm) : D := .tup [.int c.snap, .bl c.ser, .tup (c.nts.map ntD), rowsD c.ch]
structure CmOk (k : Nat) (c : Cm) : Prop where
  snap : c.snap ≤ k
  many : c.nts.length ≤ 9
  nts : ∀ t ∈ c.nts, NtOk t
  ch : ChOk 4 c.ch
/-- a history, each commit by its place -/
structure CsOk (cs : List Cm) : Prop where
  len : cs.length ≤ 8
  cm : ∀ k (h : k < cs.length), CmOk k cs[k]
/-- the entries of a past: each key once, none of them gone -/
structure RsOk (m : Nat) (rs : List Rw) : Prop where
  len : rs.length ≤ m
  nd : (rs.map (·.1)).Nodup
  row : ∀ r ∈ rs, RowB r
  some : ∀ r ∈ rs, r.2 ≠ none
def kvD (r : Rw) : Key × D := (Sum.inr (mkS r.1), optD r.2)
def txsD (ls : List (List Nat)) : D := .lst (ls.map fun l => .str (mkS l))
structure PoolOk (ls : List (List Nat)) : Prop where
  ne : ls ≠ []
  len : ls.length ≤ 6
  tx : ∀ l ∈ ls, TxB l
/-- a well with n draws left at least -/
def WellOk (W : Wd) (p : Addr) (n : Nat) : Prop := ∃ a b c : Int, W p = some (.lst [.int a, .int b, .int c]) ∧ 0 ≤ a ∧ a.natAbs < bigB ∧ 0 ≤ b ∧ b < 2147483648 ∧ 0 ≤ c ∧ c + n ≤ 1000000
theorem WellOk.less {W : Wd} {p : Addr} {n m : Nat} (h : WellOk W p n) (hm : m ≤ n) : WellOk W p m := by
  obtain ⟨a, b, c, h1, h2, h3, h4, h5, h6, h7⟩ := h
  exact ⟨a, b, c, h1, h2, h3, h4, h5, h6, by omega⟩
/-! ### laws of lists and texts -/
theorem mk_len (l : List Nat) : ((mkS l).length : Int) = (l.length : Int) := by rw [len_mkS]
theorem noOwn2 {ρ : G.Env} {i j : Nat} (h : ∀ o, ρ[i]? ≠ some (some (.om o))) (h2 : ∀ o, ρ[j]? ≠ some (some (.om o))) : noOwn ρ [i, j] := fun k hk ds => by
  simp only [List.mem_cons, List.not_mem_nil, or_false] at hk
  rcases hk with rfl | rfl
  · exact h ds
  · exact h2 ds
theorem cut_ii (l : List Nat) (a b : Nat) (x y : Int) (hx : x = (a : Int)) (hy : y = ((a + b : Nat) : Int)) : cutS (mkS l) (some x) (some y) = mkS ((l.drop a).take b) := by
  subst hx hy
  have := cut_ab (mkS l) a (a + b)
  rw [Nat.add_sub_cancel_left] at this
  exact this
theorem hno {P Q' : Prop} (q : Q') : (if (!true) = true then P else Q') := by rw [if_neg (by decide)]; exact q
theorem ord_range : ∀ L : List (List Nat), ((List.range (L.length - 1)).all fun k => decide (L.getD k [] < L.getD (k + 1) [])) = ordL L
  | [] => rfl
  | [a] => rfl
  | a :: b :: r => by
    have ih := ord_range (b :: r)
    have e : (a :: b :: r).length - 1 = ((b :: r).length - 1) + 1 := by simp
    rw [e, List.range_succ_eq_map, List.all_cons, List.all_map]
    show (decide (a < b) && _) = (decide (a < b) && ordL (b :: r))
    rw [← ih]
    rfl
theorem row_of {b : Bool} {d : D} (h : isRowM b d = true) : ∃ s v, d = .tup [.str s, v] := by
  unfold isRowM at h
  split at h
  · rename_i a v
    rw [Bool.and_eq_true] at h
    cases a with
    | v x =>
      cases x with
      | str s => exact ⟨s, v, rfl⟩
      | _ => cases h.1
    | _ => cases h.1
  · cases h
theorem lt_of_nlt : ∀ {a b : List Nat}, ¬ b < a → a ≠ b → a < b
  | [], [], _, h => absurd rfl h
  | [], _ :: _, _, _ => List.nil_lt_cons ..
  | _ :: _, [], h, _ => absurd (List.nil_lt_cons ..) h
  | x :: a, y :: b, h, hn => by
    rw [List.cons_lt_cons_iff] at h ⊢
    by_cases e : x = y
    · subst e
      exact .inr ⟨rfl, lt_of_nlt (fun q => h (.inr ⟨rfl, q⟩)) fun q => hn (by rw [q])⟩
    · by_cases q : x < y
      · exact .inl q
      · exact absurd (.inl (by omega)) h
theorem rising_ord : ∀ (x : Str) (r : List Str), PyProof.Rows.risingS x r = true → (x :: r).Nodup → ordL ((x :: r).map tl) = true
  | x, [], _, _ => rfl
  | x, y :: r, h, hn => by
    unfold PyProof.Rows.risingS at h
    rw [Bool.and_eq_true, PyProof.Rows.ltCps_eq, Bool.not_eq_true', decide_eq_false_iff_not] at h
    rw [List.nodup_cons] at hn
    have hne : tl x ≠ tl y := fun q => hn.1 (by
      have : x = y := TL.ext_tl q
      rw [this]; exact List.mem_cons_self ..)
    show (decide (tl x < tl y) && ordL ((y :: r).map tl)) = true
    rw [rising_ord y r h.2 hn.2, decide_eq_true (lt_of_nlt h.1 hne)]
    rfl
theorem sorted_ord {ys : List Str} (h : PyProof.Rows.sortedS ys = true) (hn : ys.Nodup) : ordL (ys.map tl) = true := by
  cases ys with
  | nil => rfl
  | cons x r => exact rising_ord x r h hn
def putR (rs : List Rw) (w : List Nat) (v : Option (List Nat)) : List Rw := if (rs.any fun r => decide (r.1 = w)) = true then rs.map (fun r => if r.1 = w then (r.1, v) else r) else rs ++ [(w, v)]
theorem key_eq (a b : List Nat) : (Sum.inr (mkS a) : Key) = Sum.inr (mkS b) ↔ a = b := ⟨fun h => mkS_inj.mp (Sum.inr.inj h), fun h => by rw [h]⟩
theorem put_kv (rs : List Rw) (w : List Nat) (v : Option (List Nat)) : putD (rs.map kvD) (Sum.inr (mkS w)) (optD v) = (putR rs w v).map kvD := by
  unfold putD putR
  rw [List.any_map]
  have e : (rs.any ((fun kv : Key × D => decide (kv.1 = Sum.inr (mkS w))) ∘ kvD)) = rs.any fun r => decide (r.1 = w) := by
    congr 1
    funext r
    show decide ((Sum.inr (mkS r.1) : Key) = Sum.inr (mkS w)) = _
    rw [Bool.eq_iff_iff, decide_eq_true_eq, decide_eq_true_eq, key_eq]
  rw [e]
  split
  · rw [List.map_map, List.map_map]
    refine List.map_congr_left fun r _ => ?_
    show (if (Sum.inr (mkS r.1) : Key) = Sum.inr (mkS w) then _ else _) = kvD (if r.1 = w then _ else _)
    by_cases q : r.1 = w
    · rw [if_pos ((key_eq _ _).mpr q), if_pos q]; rfl
    · rw [if_neg (fun z => q ((key_eq _ _).mp z)), if_neg q]
  · rw [List.map_append]; rfl
theorem put_len (rs : List Rw) (w : List Nat) (v : Option (List Nat)) : (putR rs w v).length ≤ rs.length + 1 := by
  unfold putR
  split
  · rw [List.length_map]; omega
  · rw [List.length_append]; simp
theorem put_keys (rs : List Rw) (w : List Nat) (v : Option (List Nat)) (h : (rs.map (·.1)).Nodup) : ((putR rs w v).map (·.1)).Nodup := by
  unfold putR
  split
  · rw [List.map_map]
    have : (fun r : Rw => r.1) ∘ (fun r : Rw => if r.1 = w then (r.1, v) else r) = fun r => r.1 := by
      funext r
      show (if r.1 = w then (r.1, v) else r).1 = r.1
      split <;> rfl
    rw [this]; exact h
  · rename_i hn
    rw [List.map_append, List.nodup_append]
    refine ⟨h, by simp, fun a ha b hb q => hn ?_⟩
    rw [List.mem_map] at ha
    obtain ⟨r, hr, rfl⟩ := ha
    rw [List.mem_singleton.mp hb] at q
    rw [List.any_eq_true]
    exact ⟨r, hr, decide_eq_true q⟩
theorem put_ok {rs : List Rw} {w : List Nat} {v : Option (List Nat)} (h : ∀ r ∈ rs, RowB r) (hw : RowB (w, v)) : ∀ r ∈ putR rs w v, RowB r := fun r hr => by
  unfold putR at hr
  split at hr
  · rw [List.mem_map] at hr
    obtain ⟨x, hx, rfl⟩ := hr
    split
    · rename_i e
      rw [e]; exact hw
    · exact h x hx
  · rcases List.mem_append.mp hr with hr | hr
    · exact h r hr
    · rw [List.mem_singleton.mp hr]; exact hw
theorem val_kv (w : List Nat) : ∀ rs : List Rw, w ∈ rs.map (·.1) → ∃ r ∈ rs, r.1 = w ∧ valD (rs.map kvD) (Sum.inr (mkS w)) = some (optD r.2)
  | [], h => by cases h
  | x :: r, h => by
    rw [List.map_cons]
    show ∃ y ∈ x :: r, _ ∧ valD ((Sum.inr (mkS x.1), optD x.2) :: r.map kvD) _ = _
    rw [valD_cons]
    by_cases e : x.1 = w
    · rw [if_pos ((key_eq _ _).mpr e)]
      exact ⟨x, List.mem_cons_self .., e, rfl⟩
    · rw [if_neg fun q => e ((key_eq _ _).mp q)]
      rw [List.map_cons] at h
      rcases List.mem_cons.mp h with h | h
      · exact absurd h.symm e
      · obtain ⟨y, hy, h1, h2⟩ := val_kv w r h
        exact ⟨y, List.mem_cons_of_mem _ hy, h1, h2⟩
theorem pr_app {a b : List Nat} (h1 : Pr a) (h2 : Pr b) : Pr (a ++ b) := fun c hc => by
  rcases List.mem_append.mp hc with hc | hc
  · exact h1 c hc
  · exact h2 c hc
theorem pr_take {a : List Nat} (n : Nat) (h : Pr a) : Pr (a.take n) := fun c hc => h c (List.mem_of_mem_take hc)
theorem pr_drop {a : List Nat} (n : Nat) (h : Pr a) : Pr (a.drop n) := fun c hc => h c (List.mem_of_mem_drop hc)
theorem all_take_succ {α : Type} (p : α → Bool) {l : List α} {i : Nat} {x : α} (h : l[i]? = some x) (h1 : (l.take i).all p = true) (h2 : p x = true) : (l.take (i + 1)).all p = true := by
  rw [List.take_add_one, h, List.all_append, h1]
  simp [h2]
theorem all_false {α : Type} (p : α → Bool) {l : List α} {i : Nat} {x : α} (h : l[i]? = some x) (h2 : p x = false) : l.all p = false := by
  rw [List.all_eq_false]
  exact ⟨x, List.mem_of_getElem? h, by rw [h2]; decide⟩
theorem pr_cons {c : Nat} {l : List Nat} (h1 : 32 ≤ c) (h2 : c ≤ 126) (h : Pr l) : Pr (c :: l) := fun x hx => by
  rcases List.mem_cons.mp hx with rfl | hx
  · exact ⟨h1, h2⟩
  · exact h x hx
/-- what NC data can be -/
theorem nc_cases {n B : Nat} {d : D} (h : Nice n B d) : d = .non ∨ (∃ b, d = .bl b) ∨ (∃ i, d = .int i) ∨ (∃ s, d = .str s) ∨ (∃ ds, d = .tup ds) ∨ ∃ ds, d = .lst ds := by
  have g := h.good
  have k := h.ok
  cases d with
  | v x =>
    cases x with
    | non => exact .inl rfl
    | bl b => exact .inr (.inl ⟨b, rfl⟩)
    | int b => exact .inr (.inr (.inl ⟨b, rfl⟩))
    | str b => exact .inr (.inr (.inr (.inl ⟨b, rfl⟩)))
    | _ => cases n <;> simp [D.good] at g
  | tup ds => exact .inr (.inr (.inr (.inr (.inl ⟨ds, rfl⟩))))
  | lst ds => exact .inr (.inr (.inr (.inr (.inr ⟨ds, rfl⟩))))
  | scr ns => simp [iOk] at k
  | dct ks ds => cases n <;> simp [D.good] at g
  | tpf ds => cases n <;> simp [D.good] at g
  | exc c ks ds => cases n <;> simp [D.good] at g
theorem nc_item {ds : List D} {d : D} (h : NC (.tup ds)) (hd : d ∈ ds) : NC d := (h.untup.mem hd).up (by decide) (Nat.le_refl _)
theorem nc_len {ds : List D} (h : NC (.tup ds)) : ds.length ≤ 4000000 := by have := h.untup.len; omega
theorem nc_slen {s : Str} (h : NC (.str s)) : s.length ≤ 8000000 := h.slen
def isStrD : D → Bool
  | .v (.str _) => true
  | _ => false
def isTupD : D → Bool
  | .tup _ => true
  | _ => false
/-- as isinstance(.., int) tells -/
def isIntB : D → Bool
  | .v (.int _) => true
  | .v (.bl _) => true
  | _ => false
section
variable {n B : Nat} {d : D} {Q : D → Prop}
theorem ty_tup (h : Nice n B d) : ∃ t, tyD d = some t ∧ kitB t "tuple" = some (isTupD d) := by
  rcases nc_cases h with rfl | ⟨_, rfl⟩ | ⟨_, rfl⟩ | ⟨_, rfl⟩ | ⟨_, rfl⟩ | ⟨_, rfl⟩ <;> exact ⟨_, rfl, rfl⟩
theorem ty_str (h : Nice n B d) : ∃ t, tyD d = some t ∧ kitB t "str" = some (isStrD d) := by
  rcases nc_cases h with rfl | ⟨_, rfl⟩ | ⟨_, rfl⟩ | ⟨_, rfl⟩ | ⟨_, rfl⟩ | ⟨_, rfl⟩ <;> exact ⟨_, rfl, rfl⟩
theorem ty_bool (h : Nice n B d) : ∃ t, tyD d = some t ∧ kitB t "bool" = some (isBlD d) := by
  rcases nc_cases h with rfl | ⟨_, rfl⟩ | ⟨_, rfl⟩ | ⟨_, rfl⟩ | ⟨_, rfl⟩ | ⟨_, rfl⟩ <;> exact ⟨_, rfl, rfl⟩
theorem ty_int (h : Nice n B d) : ∃ t, tyD d = some t ∧ kitB t "int" = some (isIntB d) := by
  rcases nc_cases h with rfl | ⟨_, rfl⟩ | ⟨_, rfl⟩ | ⟨_, rfl⟩ | ⟨_, rfl⟩ | ⟨_, rfl⟩ <;> exact ⟨_, rfl, rfl⟩
theorem eq_str {s : Str} (hs : PyData.strOk s = true) (h : NC d) (q : Q (.bl (D.isV d (.str s)))) : dEq d (.str s) Q := by
  have gs : D.good 64 (.v (.str s)) = true := by rw [D.good]; exact hs
  have gd := good_up (m := 64) (by decide) h.good
  unfold dEq
  rcases nc_cases h with rfl | ⟨_, rfl⟩ | ⟨_, rfl⟩ | ⟨t, rfl⟩ | ⟨xs, rfl⟩ | ⟨xs, rfl⟩
  · exact q
  · exact q
  · exact q
  · exact q
  · exact ⟨gd, gs, by have : eqD (.tup xs) (.v (.str s)) = false := (by simp [eqD, D.py, PyData.eqv]); rw [this]; exact q⟩
  · exact ⟨gd, gs, by have : eqD (.lst xs) (.v (.str s)) = false := (by simp [eqD, D.py, PyData.eqv]); rw [this]; exact q⟩
theorem ne_str {s : Str} (hs : PyData.strOk s = true) (h : NC d) (q : Q (.bl (!D.isV d (.str s)))) : dNe d (.str s) Q := by
  have gs : D.good 64 (.v (.str s)) = true := by rw [D.good]; exact hs
  have gd := good_up (m := 64) (by decide) h.good
  unfold dNe
  rcases nc_cases h with rfl | ⟨_, rfl⟩ | ⟨_, rfl⟩ | ⟨t, rfl⟩ | ⟨xs, rfl⟩ | ⟨xs, rfl⟩
  · exact q
  · exact q
  · exact q
  · exact q
  · exact ⟨gd, gs, by have : eqD (.tup xs) (.v (.str s)) = false := (by simp [eqD, D.py, PyData.eqv]); rw [this]; exact q⟩
  · exact ⟨gd, gs, by have : eqD (.lst xs) (.v (.str s)) = false := (by simp [eqD, D.py, PyData.eqv]); rw [this]; exact q⟩
theorem eq_tnil {ds : List D} (h : NC (.tup ds)) (q : Q (.bl ds.isEmpty)) : dEq (.tup ds) (.tup []) Q := by
  have gd := good_up (m := 64) (by decide) h.good
  unfold dEq
  refine ⟨gd, by simp [D.good, goods], ?_⟩
  have : eqD (.tup ds) (.tup []) = ds.isEmpty := by
    cases ds <;> simp [eqD, D.py, pys, PyData.eqv, PyData.eqvAll]
  rw [this]; exact q
theorem ne_tnil {ds : List D} (h : NC (.tup ds)) (q : Q (.bl (!ds.isEmpty))) : dNe (.tup ds) (.tup []) Q := by
  have gd := good_up (m := 64) (by decide) h.good
  unfold dNe
  refine ⟨gd, by simp [D.good, goods], ?_⟩
  have : eqD (.tup ds) (.tup []) = ds.isEmpty := by
    cases ds <;> simp [eqD, D.py, pys, PyData.eqv, PyData.eqvAll]
  rw [this]; exact q
end
theorem lt_trans' : ∀ {a b c : List Nat}, a < b → b < c → a < c := fun h1 h2 => List.lt_trans h1 h2
theorem ord_pw : ∀ {L : List (List Nat)}, ordL L = true → L.Pairwise (· < ·)
  | [], _ => .nil
  | [a], _ => List.pairwise_singleton _ _
  | a :: b :: r, h => by
    have h' : (decide (a < b) && ordL (b :: r)) = true := h
    rw [Bool.and_eq_true, decide_eq_true_eq] at h'
    have ih := ord_pw h'.2
    refine List.Pairwise.cons (fun x hx => ?_) ih
    rcases List.mem_cons.mp hx with rfl | hx
    · exact h'.1
    · exact lt_trans' h'.1 ((List.pairwise_cons.mp ih).1 x hx)
theorem pw_ord : ∀ {L : List (List Nat)}, L.Pairwise (· < ·) → ordL L = true
  | [], _ => rfl
  | [a], _ => rfl
  | a :: b :: r, h => by
    show (decide (a < b) && ordL (b :: r)) = true
    rw [List.pairwise_cons] at h
    rw [pw_ord h.2, decide_eq_true (h.1 b List.mem_cons_self)]; rfl
theorem ord_sub {L M : List (List Nat)} (h : ordL L = true) (s : M.Sublist L) : ordL M = true := pw_ord ((ord_pw h).sublist s)
theorem drop_kv (rs : List Rw) (w : List Nat) : dropD (rs.map kvD) (Sum.inr (mkS w)) = (rs.filter fun r => decide (r.1 ≠ w)).map kvD := by
  unfold dropD
  rw [List.filter_map]
  congr 1
  refine List.filter_congr fun r _ => ?_
  show decide ((Sum.inr (mkS r.1) : Key) ≠ Sum.inr (mkS w)) = decide (r.1 ≠ w)
  exact decide_eq_decide.mpr (not_congr (key_eq _ _))
/-- a value that is looked for -/
theorem val_get (w : List Nat) (rs : List Rw) : (valD (rs.map kvD) (Sum.inr (mkS w)) = none) ∨ ∃ r ∈ rs, valD (rs.map kvD) (Sum.inr (mkS w)) = some (optD r.2) := by
  induction rs with
  | nil => exact .inl rfl
  | cons x r ih =>
    rw [List.map_cons]
    show valD ((Sum.inr (mkS x.1), optD x.2) :: r.map kvD) _ = none ∨ ∃ y ∈ x :: r, valD ((Sum.inr (mkS x.1), optD x.2) :: r.map kvD) _ = _
    rw [valD_cons]
    by_cases e : x.1 = w
    · rw [if_pos ((key_eq _ _).mpr e)]
      exact .inr ⟨x, List.mem_cons_self, rfl⟩
    · rw [if_neg fun q => e ((key_eq _ _).mp q)]
      rcases ih with h | ⟨y, hy, h⟩
      · exact .inl h
      · exact .inr ⟨y, List.mem_cons_of_mem _ hy, h⟩
theorem put_some {rs : List Rw} {w v : List Nat} (h : ∀ r ∈ rs, r.2 ≠ none) : ∀ r ∈ putR rs w (some v), r.2 ≠ none := fun r hr => by
  unfold putR at hr
  split at hr
  · rw [List.mem_map] at hr
    obtain ⟨x, hx, rfl⟩ := hr
    split
    · simp
    · exact h x hx
  · rcases List.mem_append.mp hr with hr | hr
    · exact h r hr
    · rw [List.mem_singleton.mp hr]; simp
theorem flat_txs (ls : List (List Nat)) : flatOf (ls.map fun l => D.str (mkS l)) = some (ls.map fun l => V.str (mkS l)) ∧ (ls.map fun l => V.str (mkS l)).all flatV = true := by
  induction ls with
  | nil => exact ⟨rfl, rfl⟩
  | cons a r ih =>
    refine ⟨?_, ?_⟩
    · rw [List.map_cons, flatOf, ih.1]; rfl
    · rw [List.map_cons, List.all_cons, ih.2]; rfl
theorem at_last {α : Type} {L : List α} (h : L ≠ []) : ∃ x ∈ L, atI L (-1) = some x := by
  have hl : 0 < L.length := List.length_pos_iff.mpr h
  have e : atI L (-1) = L[L.length - 1]? := by
    unfold atI ixN
    rw [if_neg (by omega), if_pos (by omega)]
    show L[((L.length : Int) + -1).toNat]? = _
    rw [show ((L.length : Int) + -1).toNat = L.length - 1 by omega]
  exact ⟨L[L.length - 1], List.getElem_mem (by omega), by rw [e]; exact List.getElem?_eq_getElem (by omega)⟩
/-! ### weights -/
theorem ok_pr {l : List Nat} (h : Pr l) : PyData.strOk (mkS l) = true := by
  unfold PyData.strOk mkS
  rw [Array.all_eq_true_iff_forall_mem]
  intro c hc
  have := h c (by simpa using hc)
  exact decide_eq_true (by omega)
theorem nice_tx (n : Nat) {l : List Nat} (h : TxB l) : Nice n 402 (.str (mkS l)) := Nice.str (ok_pr h.2) (by rw [len_mkS]; have := h.1; omega)
theorem nice_op (n : Nat) {o : Option (List Nat)} (h : OpB o) : Nice n 402 (optD o) := by
  cases o with
  | none => exact Nice.non (by decide)
  | some l => exact nice_tx n (h l rfl)
theorem nice_row (n : Nat) {r : Rw} (h : RowB r) : Nice (n + 1) 813 (rowD r) := by
  have := Nice.tup (NiceL.cons (nice_tx n h.1) (NiceL.cons (nice_op n h.2) NiceL.nil) (C := 402 + 2 + 0))
  exact this.up (Nat.le_refl _) (by decide)
theorem niceL_rows (n k : Nat) {rs : List Rw} (hl : rs.length ≤ k) (h : ∀ r ∈ rs, RowB r) : NiceL (n + 1) (815 * k) (rs.map rowD) :=
  NiceL.of (B := 813) (fun d hd => by
    rw [List.mem_map] at hd
    obtain ⟨r, hr, rfl⟩ := hd
    exact nice_row n (h r hr)) (by rw [List.length_map]; omega)
theorem nice_rows (n k : Nat) {rs : List Rw} (hl : rs.length ≤ k) (h : ∀ r ∈ rs, RowB r) : Nice (n + 2) (815 * k + 5) (rowsD rs) := Nice.tup (niceL_rows n k hl h)
theorem nice_nt (n : Nat) {t : Nt} (h : NtOk t) : Nice (n + 3) 51000 (ntD t) := by
  cases t with
  | v k x =>
    have hv : Nice (n + 2) 60 (.str (Str.ofString "value")) := Nice.str (by decide +kernel) (by decide +kernel)
    have := Nice.tup (NiceL.cons hv (NiceL.cons (nice_tx (n + 2) h.1) (NiceL.cons (nice_op (n + 2) h.2) (NiceL.nil (B := 0)))))
    exact this.up (Nat.le_refl _) (by omega)
  | e lo hi rs =>
    have hv : Nice (n + 2) 80 (.str (Str.ofString "entries")) := Nice.str (by decide +kernel) (by decide +kernel)
    have := Nice.tup (NiceL.cons hv (NiceL.cons (nice_op (n + 2) h.1) (NiceL.cons (nice_op (n + 2) h.2.1) (NiceL.cons (nice_rows n 60 h.2.2.1.len h.2.2.1.row) (NiceL.nil (B := 0))))))
    exact this.up (Nat.le_refl _) (by omega)
theorem log_small {i : Int} {k : Nat} (h : i.natAbs < 2 ^ k) (hk : 0 < k) : i.natAbs.log2 < k := log2_small h hk
theorem nice_cm (n : Nat) {k : Nat} {c : Cm} (h : CmOk k c) (hk : k ≤ 10) : Nice (n + 5) 470000 (cmD c) := by
  have h1 : Nice (n + 4) 7 (.int (c.snap : Int)) := by
    have : (c.snap : Int).natAbs.log2 < 4 := log_small (by have := h.snap; omega) (by decide)
    exact Nice.int (by omega) (by omega)
  have h2 : Nice (n + 4) 6 (.bl c.ser) := Nice.bl (Nat.le_refl _)
  have h3 : NiceL (n + 3) (51002 * 9) (c.nts.map ntD) := NiceL.of (B := 51000) (fun d hd => by
    rw [List.mem_map] at hd
    obtain ⟨t, ht, rfl⟩ := hd
    exact nice_nt n (h.nts t ht)) (by rw [List.length_map]; have := h.many; omega)
  have h4 : Nice (n + 4) (815 * 4 + 5) (rowsD c.ch) := (nice_rows n 4 h.ch.len h.ch.row).up (by omega) (Nat.le_refl _)
  have := Nice.tup (NiceL.cons h1 (NiceL.cons h2 (NiceL.cons (Nice.tup h3) (NiceL.cons h4 (NiceL.nil (B := 0))))))
  exact this.up (Nat.le_refl _) (by omega)
theorem niceL_cs (n : Nat) {cs : List Cm} (h : CsOk cs) : NiceL (n + 5) 3760016 (cs.map cmD) :=
  NiceL.of (B := 470000) (fun d hd => by
    rw [List.mem_map] at hd
    obtain ⟨c, hc, rfl⟩ := hd
    obtain ⟨k, hk, rfl⟩ := List.getElem_of_mem hc
    exact nice_cm n (h.cm k hk) (by have := h.len; omega)) (by rw [List.length_map]; have := h.len; omega)
theorem good_txs (n : Nat) {ls : List (List Nat)} (h : ∀ l ∈ ls, TxB l) : goods n (ls.map fun l => D.str (mkS l)) = true := by
  rw [goods_all, List.all_eq_true]
  intro d hd
  rw [List.mem_map] at hd
  obtain ⟨l, hl, rfl⟩ := hd
  rw [D.good]; exact ok_pr (h l hl).2
theorem all_nts {ys : List D} (h : ∀ y ∈ ys, ∃ t, NtOk t ∧ y = ntD t) : ∃ ts : List Nt, ys = ts.map ntD ∧ ts.length = ys.length ∧ ∀ t ∈ ts, NtOk t := by
  induction ys with
  | nil => exact ⟨[], rfl, rfl, by simp⟩
  | cons y r ih =>
    obtain ⟨ts, h1, h2, h3⟩ := ih fun z hz => h z (List.mem_cons_of_mem _ hz)
    obtain ⟨t, ht, rfl⟩ := h y List.mem_cons_self
    refine ⟨t :: ts, by rw [List.map_cons, h1], by rw [List.length_cons, List.length_cons, h2], fun x hx => ?_⟩
    rcases List.mem_cons.mp hx with rfl | hx
    · exact ht
    · exact h3 x hx
theorem cut_map_a {α : Type} (f : α → D) (rs : List α) (n : Nat) : cutD (rs.map f) (some (n : Int)) none = (rs.drop n).map f := by
  unfold cutD
  rw [HT.sIx_nat, HT.sIx_none, List.length_map, List.map_drop]
  by_cases h : n ≤ rs.length
  · rw [Nat.min_eq_left h, List.take_of_length_le (by rw [List.length_drop, List.length_map]; omega)]
  · rw [Nat.min_eq_right (by omega), List.drop_of_length_le (by rw [List.length_map]; omega), List.drop_of_length_le (by rw [List.length_map]; omega)]; simp
theorem cut_b' (rs : List D) (n : Nat) : cutD rs none (some (n : Int)) = rs.take n := by
  unfold cutD
  rw [HT.sIx_nat, HT.sIx_none, List.drop_zero, Nat.sub_zero]
  by_cases h : n ≤ rs.length
  · rw [Nat.min_eq_left h]
  · rw [Nat.min_eq_right (by omega), List.take_of_length_le (Nat.le_refl _), List.take_of_length_le (by omega)]
theorem cut_a' (rs : List D) (n : Nat) : cutD rs (some (n : Int)) none = rs.drop n := by
  have := cut_map_a id rs n
  rwa [List.map_id, List.map_id] at this
theorem cut_sub (rs : List D) (lo hi : Option Int) : (cutD rs lo hi).Sublist rs := by
  unfold cutD
  exact (List.take_sublist _ _).trans (List.drop_sublist _ _)
/-! ### what is drawn is as it should be -/
theorem text_ok {l : List Nat} (h : Pr l) : isTextD (.str (mkS l)) = true := by
  show l.all (fun c => decide (32 ≤ c) && decide (c ≤ 126)) = true
  rw [List.all_eq_true]
  intro c hc
  have := h c hc
  rw [decide_eq_true this.1, decide_eq_true this.2]; rfl
theorem ton_ok {o : Option (List Nat)} (h : OpB o) : isTonD (optD o) = true := by
  unfold isTonD
  cases o with
  | none => rfl
  | some l =>
    show (_ || isTextD (.str (mkS l))) = true
    rw [text_ok (h l rfl).2, Bool.or_true]
theorem rows_ok {b : Bool} {rs : List Rw} (h : ∀ r ∈ rs, RowB r) (ho : ordL (rs.map (·.1)) = true) (hb : b = true ∨ ∀ r ∈ rs, r.2 ≠ none) : isRowsD b (rowsD rs) = true := by
  show ((rs.map rowD).all (isRowM b) && ordL ((rs.map rowD).map keyL)) = true
  have e1 : (rs.map rowD).all (isRowM b) = true := by
    rw [List.all_eq_true]
    intro d hd
    rw [List.mem_map] at hd
    obtain ⟨r, hr, rfl⟩ := hd
    obtain ⟨h1, h2⟩ := h r hr
    show (isTextD (.str (mkS r.1)) && ((b && D.isV (optD r.2) .non) || isTextD (optD r.2))) = true
    rw [text_ok h1.2, Bool.true_and]
    cases q : r.2 with
    | none =>
      rcases hb with rfl | hb
      · rfl
      · exact absurd q (hb r hr)
    | some v =>
      show (_ || isTextD (.str (mkS v))) = true
      rw [text_ok (h2 v q).2, Bool.or_true]
  have e2 : (rs.map rowD).map keyL = rs.map (·.1) := by
    rw [List.map_map]
    exact List.map_congr_left fun r _ => rfl
  rw [e1, e2, ho]; rfl
theorem note_ok {t : Nt} (h : NtOk t) : isNoteD (ntD t) = true := by
  cases t with
  | v k x =>
    show (D.isV (.str (Str.ofString "value")) (.str (Str.ofString "value")) && (isTextD (.str (mkS k)) && isTonD (optD x))) = true
    rw [text_ok h.1.2, ton_ok h.2]
    simp [D.isV]
  | e lo hi rs =>
    show (D.isV (.str (Str.ofString "entries")) (.str (Str.ofString "entries")) && (isTonD (optD lo) && (isTonD (optD hi) && isRowsD false (rowsD rs)))) = true
    rw [ton_ok h.1, ton_ok h.2.1, rows_ok h.2.2.1.row h.2.2.1.ord (.inr h.2.2.2)]
    simp [D.isV]
theorem com_ok {k : Nat} {c : Cm} (h : CmOk k c) : isComD ((k : Int) + 1) (cmD c) = true := by
  show (isNumD ((k : Int) + 1) (.int c.snap) && (true && (areNotesD (.tup (c.nts.map ntD)) && isRowsD true (rowsD c.ch)))) = true
  rw [rows_ok h.ch.row h.ch.ord (.inl rfl)]
  have e1 : isNumD ((k : Int) + 1) (.int c.snap) = true := by
    show (decide (0 ≤ (c.snap : Int)) && decide ((c.snap : Int) ≤ (k : Int) + 1 - 1)) = true
    have := h.snap
    rw [decide_eq_true (by omega), decide_eq_true (by omega)]; rfl
  have e2 : areNotesD (.tup (c.nts.map ntD)) = true := by
    show (c.nts.map ntD).all isNoteD = true
    rw [List.all_eq_true]
    intro d hd
    rw [List.mem_map] at hd
    obtain ⟨t, ht, rfl⟩ := hd
    exact note_ok (h.nts t ht)
  rw [e1, e2]; rfl
theorem hist_ok {cs : List Cm} (h : CsOk cs) : isHistD (.tup (cs.map cmD)) = true := by
  show ((List.range (cs.map cmD).length).all fun (k : Nat) => isComD ((k : Int) + 1) ((cs.map cmD).getD k .non)) = true
  rw [List.all_eq_true]
  intro k hk
  rw [List.mem_range, List.length_map] at hk
  rw [List.getD_eq_getElem?_getD, List.getElem?_map, List.getElem?_eq_getElem hk]
  exact com_ok (h.cm k hk)
theorem repr_facts {d : D} (h : NC d) : D.good 60 d = true ∧ d.py.showable = true ∧ (shownD d).length ≤ sizeLine := by
  obtain ⟨a, b⟩ := show_of h.good h.ok
  refine ⟨good_up (by decide) h.good, a, ?_⟩
  unfold shownD
  have := h.le
  rw [show sizeLine = 16777216 from rfl]; omega
end J

namespace J
open PySem PySem.Spec L2 G TL C
/-! ### a past: its rows by their keys -/
abbrev Tx := List Nat
/-- what stands under a key -/
def lk (rs : List Rw) (w : Tx) : Option Tx := (rs.find? fun r => decide (r.1 = w)).bind (·.2)
structure EsOk (m : Nat) (es : List Rw) : Prop where
  len : es.length ≤ m
  ord : ordL (es.map (·.1)) = true
  row : ∀ r ∈ es, RowB r
  some : ∀ r ∈ es, r.2 ≠ none
theorem EsOk.up {m n : Nat} {es : List Rw} (h : EsOk m es) (k : m ≤ n) : EsOk n es := ⟨Nat.le_trans h.len k, h.ord, h.row, h.some⟩
theorem EsOk.nd {m : Nat} {es : List Rw} (h : EsOk m es) : (es.map (·.1)).Nodup := (ord_pw h.ord).imp fun {a b} q e => by
  rw [e] at q; exact absurd q (List.lt_irrefl b)
theorem EsOk.rs {m : Nat} {es : List Rw} (h : EsOk m es) : RsOk m es := ⟨h.len, h.nd, h.row, h.some⟩
theorem lk_cons (x : Rw) (rs : List Rw) (w : Tx) : lk (x :: rs) w = if x.1 = w then x.2 else lk rs w := by
  unfold lk
  rw [List.find?_cons]
  by_cases h : x.1 = w
  · rw [if_pos h]; simp [h]
  · rw [if_neg h]; simp [h]
theorem lk_none {rs : List Rw} {w : Tx} (h : w ∉ rs.map (·.1)) : lk rs w = none := by
  induction rs with
  | nil => rfl
  | cons x r ih =>
    rw [List.map_cons, List.mem_cons, not_or] at h
    rw [lk_cons, if_neg (Ne.symm h.1), ih h.2]
theorem lk_mem {rs : List Rw} (nd : (rs.map (·.1)).Nodup) {w : Tx} {v : Option Tx} (h : (w, v) ∈ rs) : lk rs w = v := by
  induction rs with
  | nil => cases h
  | cons x r ih =>
    rw [List.map_cons, List.nodup_cons] at nd
    rw [lk_cons]
    rcases List.mem_cons.mp h with e | h
    · rw [← e, if_pos rfl]
    · rw [if_neg fun q => nd.1 (by rw [q]; exact List.mem_map.mpr ⟨_, h, rfl⟩), ih nd.2 h]
theorem mem_lk {rs : List Rw} {w v : Tx} (h : lk rs w = some v) : (w, some v) ∈ rs := by
  induction rs with
  | nil => cases h
  | cons x r ih =>
    rw [lk_cons] at h
    split at h
    · rename_i e
      have : x = (w, some v) := by rw [← e, ← h]
      rw [this]; exact List.mem_cons_self
    · exact List.mem_cons_of_mem _ (ih h)
theorem lk_iff {rs : List Rw} (nd : (rs.map (·.1)).Nodup) {w v : Tx} : lk rs w = some v ↔ (w, some v) ∈ rs := ⟨mem_lk, lk_mem nd⟩
theorem lk_key {rs : List Rw} (nd : (rs.map (·.1)).Nodup) (hs : ∀ r ∈ rs, r.2 ≠ none) {w : Tx} : lk rs w = none ↔ w ∉ rs.map (·.1) := by
  refine ⟨fun h hm => ?_, lk_none⟩
  rw [List.mem_map] at hm
  obtain ⟨⟨k, v⟩, hr, rfl⟩ := hm
  have := lk_mem nd hr
  rw [this] at h
  exact hs _ hr h
/-- two rising lists of the same rows are one -/
theorem ext_ord : ∀ {a b : List Rw}, ordL (a.map (·.1)) = true → ordL (b.map (·.1)) = true → (∀ x, x ∈ a ↔ x ∈ b) → a = b
  | [], b, _, _, h => by
    cases b with
    | nil => rfl
    | cons y r => exact absurd ((h y).mpr List.mem_cons_self) (by simp)
  | x :: a, [], _, _, h => absurd ((h x).mp List.mem_cons_self) (by simp)
  | x :: a, y :: b, ha, hb, h => by
    have pa := ord_pw ha
    have pb := ord_pw hb
    rw [List.map_cons, List.pairwise_cons] at pa pb
    have lt_a : ∀ z ∈ a, x.1 < z.1 := fun z hz => pa.1 _ (List.mem_map.mpr ⟨z, hz, rfl⟩)
    have lt_b : ∀ z ∈ b, y.1 < z.1 := fun z hz => pb.1 _ (List.mem_map.mpr ⟨z, hz, rfl⟩)
    have e : x = y := by
      rcases List.mem_cons.mp ((h x).mp List.mem_cons_self) with e | h1
      · exact e
      · rcases List.mem_cons.mp ((h y).mpr List.mem_cons_self) with e | h2
        · exact e.symm
        · exact absurd (lt_trans' (lt_b x h1) (lt_a y h2)) (List.lt_irrefl _)
    subst e
    have tail : ∀ z, z ∈ a ↔ z ∈ b := fun z => by
      constructor
      · intro hz
        rcases List.mem_cons.mp ((h z).mp (List.mem_cons_of_mem _ hz)) with e | h1
        · exact absurd (lt_a z hz) (by rw [e]; exact List.lt_irrefl _)
        · exact h1
      · intro hz
        rcases List.mem_cons.mp ((h z).mpr (List.mem_cons_of_mem _ hz)) with e | h1
        · exact absurd (lt_b z hz) (by rw [e]; exact List.lt_irrefl _)
        · exact h1
    rw [ext_ord (pw_ord pa.2) (pw_ord pb.2) tail]
theorem EsOk.ext {m n : Nat} {a b : List Rw} (ha : EsOk m a) (hb : EsOk n b) (h : ∀ w, lk a w = lk b w) : a = b := by
  refine ext_ord ha.ord hb.ord fun x => ?_
  obtain ⟨w, v⟩ := x
  cases v with
  | none => exact ⟨fun q => absurd rfl (ha.some _ q), fun q => absurd rfl (hb.some _ q)⟩
  | some v => rw [← lk_iff ha.nd, ← lk_iff hb.nd, h]
/-- a row laid into a past -/
def ins (r : Rw) : List Rw → List Rw
  | [] => match r.2 with | none => [] | some _ => [r]
  | x :: es => if x.1 < r.1 then x :: ins r es else match r.2 with
    | none => if x.1 = r.1 then es else x :: es
    | some _ => if x.1 = r.1 then r :: es else r :: x :: es
def laidE (es ch : List Rw) : List Rw := ch.foldl (fun es r => ins r es) es
theorem ins_mem {r : Rw} : ∀ {es : List Rw}, ordL (es.map (·.1)) = true → ∀ x, x ∈ ins r es ↔ (x ∈ es ∧ x.1 ≠ r.1) ∨ (x = r ∧ r.2 ≠ none)
  | [], _, x => by
    obtain ⟨w, v⟩ := r
    cases v <;> simp [ins]
  | y :: es, h, x => by
    have pw := ord_pw h
    rw [List.map_cons, List.pairwise_cons] at pw
    have lt : ∀ z ∈ es, y.1 < z.1 := fun z hz => pw.1 _ (List.mem_map.mpr ⟨z, hz, rfl⟩)
    obtain ⟨w, v⟩ := r
    unfold ins
    by_cases c : y.1 < w
    · rw [if_pos c, List.mem_cons, ins_mem (pw_ord pw.2), List.mem_cons]
      have ne : y.1 ≠ w := fun e => by rw [e] at c; exact List.lt_irrefl _ c
      constructor
      · rintro (rfl | (⟨h1, h2⟩ | h1))
        · exact .inl ⟨.inl rfl, ne⟩
        · exact .inl ⟨.inr h1, h2⟩
        · exact .inr h1
      · rintro (⟨rfl | h1, h2⟩ | h1)
        · exact .inl rfl
        · exact .inr (.inl ⟨h1, h2⟩)
        · exact .inr (.inr h1)
    · rw [if_neg c]
      by_cases e : y.1 = w
      · have out : ∀ z ∈ es, z.1 ≠ w := fun z hz q => by
          have := lt z hz
          rw [q, e] at this
          exact List.lt_irrefl _ this
        cases v with
        | none =>
          show x ∈ (if y.1 = w then es else y :: es) ↔ _
          rw [if_pos e]
          constructor
          · exact fun hx => .inl ⟨List.mem_cons_of_mem _ hx, out x hx⟩
          · rintro (⟨h1, h2⟩ | ⟨_, h2⟩)
            · rcases List.mem_cons.mp h1 with rfl | h1
              · exact absurd e h2
              · exact h1
            · exact absurd rfl h2
        | some v =>
          show x ∈ (if y.1 = w then (w, some v) :: es else _) ↔ _
          rw [if_pos e, List.mem_cons]
          constructor
          · rintro (h1 | hx)
            · exact .inr ⟨h1, by simp⟩
            · exact .inl ⟨List.mem_cons_of_mem _ hx, out x hx⟩
          · rintro (⟨h1, h2⟩ | ⟨h1, _⟩)
            · rcases List.mem_cons.mp h1 with rfl | h1
              · exact absurd e h2
              · exact .inr h1
            · exact .inl h1
      · have lw : w < y.1 := lt_of_nlt c (fun q => e q.symm)
        have out : ∀ z ∈ y :: es, z.1 ≠ w := fun z hz q => by
          rcases List.mem_cons.mp hz with rfl | hz
          · exact e q
          · have := lt_trans' lw (lt z hz)
            rw [q] at this
            exact List.lt_irrefl _ this
        cases v with
        | none =>
          show x ∈ (if y.1 = w then es else y :: es) ↔ _
          rw [if_neg e]
          constructor
          · exact fun hx => .inl ⟨hx, out x hx⟩
          · rintro (⟨h1, _⟩ | ⟨_, h2⟩)
            · exact h1
            · exact absurd rfl h2
        | some v =>
          show x ∈ (if y.1 = w then (w, some v) :: es else (w, some v) :: y :: es) ↔ _
          rw [if_neg e, List.mem_cons]
          constructor
          · rintro (h1 | hx)
            · exact .inr ⟨h1, by simp⟩
            · exact .inl ⟨hx, out x hx⟩
          · rintro (⟨h1, _⟩ | ⟨h1, _⟩)
            · exact .inr h1
            · exact .inl h1
theorem ins_pw {r : Rw} : ∀ {es : List Rw}, (es.map (·.1)).Pairwise (· < ·) → ((ins r es).map (·.1)).Pairwise (· < ·)
  | [], _ => by
    obtain ⟨w, v⟩ := r
    cases v <;> simp [ins]
  | y :: es, h => by
    have h0 := h
    rw [List.map_cons, List.pairwise_cons] at h
    obtain ⟨w, v⟩ := r
    unfold ins
    by_cases c : y.1 < w
    · rw [if_pos c, List.map_cons, List.pairwise_cons]
      refine ⟨fun z hz => ?_, ins_pw h.2⟩
      rw [List.mem_map] at hz
      obtain ⟨x, hx, rfl⟩ := hz
      rcases (ins_mem (pw_ord h.2) x).mp hx with ⟨h1, _⟩ | ⟨rfl, _⟩
      · exact h.1 _ (List.mem_map.mpr ⟨x, h1, rfl⟩)
      · exact c
    · rw [if_neg c]
      by_cases e : y.1 = w
      · cases v with
        | none => show ((if y.1 = w then es else y :: es).map (·.1)).Pairwise _; rw [if_pos e]; exact h.2
        | some v =>
          show ((if y.1 = w then (w, some v) :: es else _).map (·.1)).Pairwise _
          rw [if_pos e, List.map_cons, List.pairwise_cons]
          exact ⟨fun z hz => by show w < z; rw [← e]; exact h.1 z hz, h.2⟩
      · have lw : w < y.1 := lt_of_nlt c (fun q => e q.symm)
        cases v with
        | none => show ((if y.1 = w then es else y :: es).map (·.1)).Pairwise _; rw [if_neg e]; exact h0
        | some v =>
          show ((if y.1 = w then (w, some v) :: es else (w, some v) :: y :: es).map (·.1)).Pairwise _
          rw [if_neg e, List.map_cons, List.pairwise_cons]
          refine ⟨fun z hz => ?_, h0⟩
          rw [List.map_cons] at hz
          rcases List.mem_cons.mp hz with rfl | hz
          · exact lw
          · exact lt_trans' lw (h.1 z hz)
theorem ins_len (r : Rw) : ∀ es : List Rw, (ins r es).length ≤ es.length + 1
  | [] => by
    obtain ⟨w, v⟩ := r
    cases v <;> simp [ins]
  | y :: es => by
    have ih := ins_len r es
    obtain ⟨w, v⟩ := r
    unfold ins
    split
    · rw [List.length_cons, List.length_cons]; omega
    · cases v with
      | none => show (if y.1 = w then es else y :: es).length ≤ _; split <;> simp <;> omega
      | some v => show (if y.1 = w then (w, some v) :: es else (w, some v) :: y :: es).length ≤ _; split <;> simp
theorem EsOk.ins {m : Nat} {es : List Rw} (h : EsOk m es) {r : Rw} (hr : RowB r) : EsOk (m + 1) (ins r es) := by
  refine ⟨Nat.le_trans (ins_len r es) (by have := h.len; omega), pw_ord (ins_pw (ord_pw h.ord)), fun x hx => ?_, fun x hx => ?_⟩
  · rcases (ins_mem h.ord x).mp hx with ⟨h1, _⟩ | ⟨rfl, _⟩
    · exact h.row x h1
    · exact hr
  · rcases (ins_mem h.ord x).mp hx with ⟨h1, _⟩ | ⟨rfl, h2⟩
    · exact h.some x h1
    · exact h2
theorem lk_ins {m : Nat} {es : List Rw} (h : EsOk m es) {r : Rw} (hr : RowB r) (w : Tx) : lk (ins r es) w = if r.1 = w then r.2 else lk es w := by
  have h' := h.ins hr
  have key : ∀ v : Tx, lk (J.ins r es) w = some v ↔ (if r.1 = w then r.2 else lk es w) = some v := fun v => by
    rw [lk_iff h'.nd, ins_mem h.ord]
    by_cases e : r.1 = w
    · rw [if_pos e]
      constructor
      · rintro (⟨_, h2⟩ | ⟨h1, _⟩)
        · exact absurd e.symm h2
        · rw [← h1]
      · intro q
        refine .inr ⟨?_, by rw [q]; simp⟩
        rw [← e, ← q]
    · rw [if_neg e, lk_iff h.nd]
      constructor
      · rintro (⟨h1, _⟩ | ⟨h1, _⟩)
        · exact h1
        · exact absurd (by rw [← h1]) e
      · exact fun q => .inl ⟨q, fun z => e z.symm⟩
  cases q : (if r.1 = w then r.2 else lk es w) with
  | some v => exact (key v).mpr q
  | none =>
    cases q2 : lk (J.ins r es) w with
    | none => rfl
    | some v =>
      have := (key v).mp q2
      rw [q] at this; cases this
theorem EsOk.laid {m : Nat} : ∀ {ch es : List Rw}, EsOk m es → (∀ r ∈ ch, RowB r) → EsOk (m + ch.length) (laidE es ch)
  | [], es, h, _ => h
  | r :: ch, es, h, hc => by
    have := (h.ins (hc r List.mem_cons_self)).laid (ch := ch) fun x hx => hc x (List.mem_cons_of_mem _ hx)
    exact this.up (by rw [List.length_cons]; omega)
/-- a lookup with a row laid over it -/
def upF (f : Tx → Option Tx) (r : Rw) : Tx → Option Tx := fun w => if r.1 = w then r.2 else f w
theorem lk_laid {m : Nat} : ∀ {ch es : List Rw}, EsOk m es → (∀ r ∈ ch, RowB r) → lk (laidE es ch) = ch.foldl upF (lk es)
  | [], es, h, _ => rfl
  | r :: ch, es, h, hc => by
    have := lk_laid (m := m + 1) (ch := ch) (h.ins (hc r List.mem_cons_self)) fun x hx => hc x (List.mem_cons_of_mem _ hx)
    show lk (laidE (ins r es) ch) = _
    rw [this, List.foldl_cons]
    congr 1
    funext w
    exact lk_ins h (hc r List.mem_cons_self) w
/-! dicts -/
theorem val_lk {rs : List Rw} (hs : ∀ r ∈ rs, r.2 ≠ none) (w : Tx) : valD (rs.map kvD) (Sum.inr (mkS w)) = (lk rs w).map fun v => .str (mkS v) := by
  induction rs with
  | nil => rfl
  | cons x r ih =>
    rw [List.map_cons]
    show valD ((Sum.inr (mkS x.1), optD x.2) :: r.map kvD) _ = _
    rw [valD_cons, lk_cons]
    by_cases e : x.1 = w
    · rw [if_pos ((key_eq _ _).mpr e), if_pos e]
      cases q : x.2 with
      | none => exact absurd q (hs x List.mem_cons_self)
      | some v => rfl
    · rw [if_neg fun q => e ((key_eq _ _).mp q), if_neg e]
      exact ih fun z hz => hs z (List.mem_cons_of_mem _ hz)
theorem lk_put (rs : List Rw) (w : Tx) (v : Option Tx) (k : Tx) : lk (putR rs w v) k = if w = k then v else lk rs k := by
  unfold putR
  split
  · rename_i h
    have key : ∀ l : List Rw, lk (l.map fun r => if r.1 = w then (r.1, v) else r) k = if w = k then (if (l.any fun r => decide (r.1 = w)) = true then v else none) else lk l k := fun l => by
      induction l with
      | nil => simp [lk]
      | cons x l ih =>
        rw [List.map_cons, lk_cons, ih, lk_cons, List.any_cons]
        by_cases e : x.1 = w
        · subst e
          by_cases q : x.1 = k
          · simp [q]
          · simp [q]
        · rw [if_neg e]
          by_cases q : w = k
          · have : ¬ x.1 = k := fun z => e (z.trans q.symm)
            rw [if_neg this, if_pos q, if_pos q, decide_eq_false e, Bool.false_or]
          · simp [q, e]
    rw [key, h]
    simp
  · rename_i h
    rw [Bool.not_eq_true, List.any_eq_false] at h
    have key : ∀ l : List Rw, (∀ r ∈ l, ¬ decide (r.1 = w) = true) → lk (l ++ [(w, v)]) k = if w = k then v else lk l k := fun l => by
      induction l with
      | nil => intro _; rw [List.nil_append, lk_cons]
      | cons x l ih =>
        intro hl
        have h1 : ¬ x.1 = w := fun z => hl x List.mem_cons_self (decide_eq_true z)
        rw [List.cons_append, lk_cons, ih (fun r hr => hl r (List.mem_cons_of_mem _ hr)), lk_cons]
        by_cases q : w = k
        · have : ¬ x.1 = k := fun z => h1 (z.trans q.symm)
          simp [q, this]
        · simp [q]
    exact key rs h
theorem lk_drop (rs : List Rw) (w k : Tx) : lk (rs.filter fun r => decide (r.1 ≠ w)) k = if w = k then none else lk rs k := by
  induction rs with
  | nil => simp [lk]
  | cons x r ih =>
    rw [List.filter_cons]
    by_cases e : x.1 = w
    · have : decide (x.1 ≠ w) = false := decide_eq_false (fun q => q e)
      rw [this, if_neg (by decide), ih, lk_cons]
      by_cases q : w = k
      · simp [q]
      · have : ¬ x.1 = k := fun z => q (e.symm.trans z)
        simp [q, this]
    · rw [if_pos (decide_eq_true e), lk_cons, lk_cons, ih]
      by_cases q : w = k
      · have : ¬ x.1 = k := fun z => e (z.trans q.symm)
        simp [q, this]
      · simp [q]
/-! notes told by a past -/
def gvE (es : List Rw) : Nt → Nt
  | .v k _ => .v k (lk es k)
  | .e lo hi rs => .e lo hi (es.filter fun r => hasN (.e lo hi rs) r.1)
def tellsB (es : List Rw) (t : Nt) : Bool := decide (gvE es t = t)
theorem EsOk.filter {m : Nat} {es : List Rw} (h : EsOk m es) (p : Rw → Bool) : EsOk m (es.filter p) :=
  ⟨Nat.le_trans (List.length_filter_le _ _) h.len, ord_sub h.ord ((List.filter_sublist).map _), fun r hr => h.row r (List.mem_filter.mp hr).1, fun r hr => h.some r (List.mem_filter.mp hr).1⟩
theorem OpB.lk {m : Nat} {rs : List Rw} (h : RsOk m rs) (w : Tx) : OpB (lk rs w) := fun v q => (h.row _ (mem_lk q)).2 v rfl
theorem gv_ok {m : Nat} {es : List Rw} (h : EsOk m es) (hm : m ≤ 60) {t : Nt} (ht : NtOk t) : NtOk (gvE es t) := by
  cases t with
  | v k x => exact ⟨ht.1, OpB.lk h.rs k⟩
  | e lo hi rs =>
    have := h.filter fun r => hasN (.e lo hi rs) r.1
    exact ⟨ht.1, ht.2.1, ⟨Nat.le_trans this.len hm, this.row, this.ord⟩, this.some⟩
theorem gv_tells {es : List Rw} (t : Nt) : tellsB es (gvE es t) = true := by
  unfold tellsB
  refine decide_eq_true ?_
  cases t with
  | v k x => rfl
  | e lo hi rs =>
    show Nt.e lo hi (es.filter fun r => hasN (.e lo hi (es.filter _)) r.1) = _
    rfl
end J

namespace J
open PySem PySem.Spec L2 G TL C
/-! ### == of rows and notes -/
theorem eqv_str (a b : List Nat) : PyData.eqv (.str (mkS a)) (.str (mkS b)) = decide (a = b) := by
  unfold PyData.eqv
  by_cases h : a = b
  · rw [h, decide_eq_true rfl]; simp
  · rw [decide_eq_false h]
    have : ¬ mkS a = mkS b := fun q => h (mkS_inj.mp q)
    simp [this]
theorem eqv_opt (a b : Option Tx) : PyData.eqv (optD a).py (optD b).py = decide (a = b) := by
  cases a with
  | none =>
    cases b with
    | none => simp [optD, D.py, PyData.eqv]
    | some b => simp [optD, D.py, PyData.eqv]
  | some a =>
    cases b with
    | none => simp [optD, D.py, PyData.eqv]
    | some b =>
      show PyData.eqv (.str (mkS a)) (.str (mkS b)) = _
      rw [eqv_str]
      exact decide_eq_decide.mpr (by simp)
theorem eqv_row (a b : Rw) : PyData.eqv (rowD a).py (rowD b).py = decide (a = b) := by
  obtain ⟨a1, a2⟩ := a
  obtain ⟨b1, b2⟩ := b
  show PyData.eqv (.tuple [.str (mkS a1), (optD a2).py]) (.tuple [.str (mkS b1), (optD b2).py]) = _
  have e : PyData.eqv (.tuple [.str (mkS a1), (optD a2).py]) (.tuple [.str (mkS b1), (optD b2).py]) = (PyData.eqv (.str (mkS a1)) (.str (mkS b1)) && (PyData.eqv (optD a2).py (optD b2).py && true)) := by
    simp [PyData.eqv, PyData.eqvAll]
  rw [e, eqv_str, eqv_opt, Bool.and_true, ← Bool.decide_and]
  exact decide_eq_decide.mpr (by simp)
theorem eqv_rows : ∀ a b : List Rw, PyData.eqvAll (pys (a.map rowD)) (pys (b.map rowD)) = decide (a = b)
  | [], [] => by simp [pys, PyData.eqvAll]
  | [], b :: bs => by simp [pys, PyData.eqvAll]
  | a :: as, [] => by simp [pys, PyData.eqvAll]
  | a :: as, b :: bs => by
    have e : PyData.eqvAll (pys ((a :: as).map rowD)) (pys ((b :: bs).map rowD)) = (PyData.eqv (rowD a).py (rowD b).py && PyData.eqvAll (pys (as.map rowD)) (pys (bs.map rowD))) := by
      simp [pys, PyData.eqvAll]
    rw [e, eqv_row, eqv_rows as bs, ← Bool.decide_and]
    exact decide_eq_decide.mpr (by simp)
theorem eq_rowsD (a b : List Rw) : eqD (rowsD a) (rowsD b) = decide (a = b) := by
  have e : eqD (rowsD a) (rowsD b) = PyData.eqvAll (pys (a.map rowD)) (pys (b.map rowD)) := by
    unfold eqD rowsD
    simp [D.py, PyData.eqv]
  rw [e, eqv_rows]
theorem ve_ne : ¬ Str.ofString "value" = Str.ofString "entries" := by decide +kernel
theorem eqv_cons (a b : PyData) (as bs : List PyData) : PyData.eqv (.tuple (a :: as)) (.tuple (b :: bs)) = (PyData.eqv a b && PyData.eqvAll as bs) := by simp [PyData.eqv, PyData.eqvAll]
theorem eqv_strs {a b : Str} (h : ¬ a = b) : PyData.eqv (.str a) (.str b) = false := by unfold PyData.eqv; simp [h]
theorem eq_ntD (a b : Nt) : eqD (ntD a) (ntD b) = decide (a = b) := by
  cases a with
  | v k x =>
    cases b with
    | v k2 x2 =>
      have e : eqD (ntD (.v k x)) (ntD (.v k2 x2)) = (PyData.eqv (.str (mkS k)) (.str (mkS k2)) && PyData.eqv (optD x).py (optD x2).py) := by
        unfold eqD ntD
        simp [D.py, pys, PyData.eqv, PyData.eqvAll]
      rw [e, eqv_str, eqv_opt, ← Bool.decide_and]
      exact decide_eq_decide.mpr (by simp)
    | e lo hi rs =>
      rw [decide_eq_false (by simp)]
      unfold eqD ntD
      simp only [D.py, pys]
      rw [eqv_cons, eqv_strs ve_ne, Bool.false_and]
  | e lo hi rs =>
    cases b with
    | v k x =>
      rw [decide_eq_false (by simp)]
      unfold eqD ntD
      simp only [D.py, pys]
      rw [eqv_cons, eqv_strs (fun q => ve_ne q.symm), Bool.false_and]
    | e lo2 hi2 rs2 =>
      have e : eqD (ntD (.e lo hi rs)) (ntD (.e lo2 hi2 rs2)) = (PyData.eqv (optD lo).py (optD lo2).py && (PyData.eqv (optD hi).py (optD hi2).py && PyData.eqv (rowsD rs).py (rowsD rs2).py)) := by
        unfold eqD ntD
        simp [D.py, pys, PyData.eqv, PyData.eqvAll]
      have e2 : PyData.eqv (rowsD rs).py (rowsD rs2).py = decide (rs = rs2) := eq_rowsD rs rs2
      rw [e, eqv_opt, eqv_opt, e2, ← Bool.decide_and, ← Bool.decide_and]
      exact decide_eq_decide.mpr (by simp)
section
variable {Q : D → Prop}
theorem good_rows {m : Nat} {a : List Rw} (h : EsOk m a) : D.good 64 (rowsD a) = true := good_up (by decide) (nice_rows 0 m h.len h.row).good
theorem deq_rows {m n : Nat} {a b : List Rw} (ha : EsOk m a) (hb : EsOk n b) (q : Q (.bl (decide (a = b)))) : dEq (rowsD a) (rowsD b) Q := by
  unfold dEq
  refine ⟨good_rows ha, good_rows hb, ?_⟩
  rw [eq_rowsD]; exact q
theorem deq_nt {a b : Nt} (ha : NtOk a) (hb : NtOk b) (q : Q (.bl (decide (a = b)))) : dEq (ntD a) (ntD b) Q := by
  have ga := good_up (m := 64) (by decide) (nice_nt 0 ha).good
  have gb := good_up (m := 64) (by decide) (nice_nt 0 hb).good
  have e := eq_ntD a b
  cases a <;> cases b <;> (unfold dEq; exact ⟨ga, gb, by rw [e]; exact q⟩)
theorem dne_nt {a b : Nt} (ha : NtOk a) (hb : NtOk b) (q : Q (.bl (!decide (a = b)))) : dNe (ntD a) (ntD b) Q := by
  have ga := good_up (m := 64) (by decide) (nice_nt 0 ha).good
  have gb := good_up (m := 64) (by decide) (nice_nt 0 hb).good
  have e := eq_ntD a b
  cases a <;> cases b <;> (unfold dNe; exact ⟨ga, gb, by rw [e]; exact q⟩)
end
/-! ### the pasts of a history -/
def past (es : List Rw) (cs : List Cm) (k : Nat) : List Rw := (cs.take k).foldl (fun es c => laidE es c.ch) es
theorem past_zero (es : List Rw) (cs : List Cm) : past es cs 0 = es := by unfold past; rw [List.take_zero]; rfl
theorem past_succ {es : List Rw} {cs : List Cm} {k : Nat} {c : Cm} (h : cs[k]? = some c) : past es cs (k + 1) = laidE (past es cs k) c.ch := by
  unfold past
  rw [List.take_add_one, h, List.foldl_append]; rfl
theorem past_ok {es : List Rw} {cs : List Cm} (he : EsOk 10 es) (hc : CsOk cs) : ∀ k, EsOk (10 + 4 * k) (past es cs k)
  | 0 => by rw [past_zero]; exact he
  | k + 1 => by
    cases q : cs[k]? with
    | none =>
      have : past es cs (k + 1) = past es cs k := by unfold past; rw [List.take_add_one, q]; simp
      rw [this]; exact (past_ok he hc k).up (by omega)
    | some c =>
      obtain ⟨hk, rfl⟩ := List.getElem?_eq_some_iff.mp q
      rw [past_succ q]
      have := (hc.cm k hk).ch
      exact ((past_ok he hc k).laid this.row).up (by have := this.len; omega)
def ovB (a b : Cm) : Bool := (a.ch.map (·.1)).any fun w => decide (w ∈ b.ch.map (·.1))
def comB (es : List Rw) (cs : List Cm) (k : Nat) (c : Cm) : Bool := c.nts.all (tellsB (past es cs c.snap)) && !((cs.take k).drop c.snap).any fun d => ovB d c
def snapB (es : List Rw) (cs : List Cm) : Bool := (List.range cs.length).all fun k => match cs[k]? with | some c => comB es cs k c | none => true
def CsQ (q : Nat) (cs : List Cm) : Prop := CsOk cs ∧ ∀ c ∈ cs, c.nts.length ≤ q
/-- is it a number of commits? -/
def inR (n : Nat) : D → Bool
  | .v (.int i) => decide (0 ≤ i) && decide (i ≤ n)
  | _ => false
/-- the other notes that are tried -/
def OthOk (d : D) : Prop := (∃ t, d = ntD t ∧ NtOk t) ∨ (∃ l, d = .lst l ∧ NC (.lst l)) ∨ (∃ k : Tx, d = .tup [.str (Str.ofString "value"), .str (mkS k)] ∧ TxB k) ∨ ∃ lo hi, d = .tup [.str (Str.ofString "entries"), optD lo, optD hi] ∧ OpB lo ∧ OpB hi
theorem nc_nt {t : Nt} (h : NtOk t) : NC (ntD t) := (nice_nt 0 h).up (by decide) (by decide)
theorem nc_cs {cs : List Cm} (h : CsOk cs) : NC (.tup (cs.map cmD)) := (Nice.tup (niceL_cs 0 h)).up (by decide) (by decide)
theorem nc_rows {m : Nat} {es : List Rw} (h : EsOk m es) (hm : m ≤ 60) : NC (rowsD es) := (nice_rows 0 m h.len h.row).up (by decide) (by omega)
theorem ent_ok {m : Nat} {es : List Rw} (h : EsOk m es) : isEntD (rowsD es) = true := rows_ok h.row h.ord (.inr h.some)
end J

namespace J
open PySem PySem.Spec L2 G TL C
/-! ### sorted keys of a dict of rows -/
theorem val_mem : ∀ {rs : List Rw}, (rs.map (·.1)).Nodup → ∀ {r : Rw}, r ∈ rs → valD (rs.map kvD) (Sum.inr (mkS r.1)) = some (optD r.2)
  | [], _, r, h => by cases h
  | x :: rs, nd, r, h => by
    rw [List.map_cons, List.nodup_cons] at nd
    rw [List.map_cons]
    show valD ((Sum.inr (mkS x.1), optD x.2) :: rs.map kvD) _ = _
    rw [valD_cons]
    rcases List.mem_cons.mp h with rfl | h
    · rw [if_pos rfl]
    · rw [if_neg fun q => nd.1 (by rw [(key_eq _ _).mp q]; exact List.mem_map.mpr ⟨_, h, rfl⟩)]
      exact val_mem nd.2 h
theorem sort_rows {rs : List Rw} (nd : (rs.map (·.1)).Nodup) {ys : List Str} (hp : ys.Perm (rs.map fun r => mkS r.1)) (hs : PyProof.Rows.sortedS ys = true) : ∃ L : List Rw, ys = L.map (fun r => mkS r.1) ∧ L.Perm rs ∧ ordL (L.map (·.1)) = true := by
  have ndk : (rs.map fun r => mkS r.1).Nodup := by
    have : (rs.map fun r => mkS r.1) = (rs.map (·.1)).map mkS := by rw [List.map_map]; rfl
    rw [this]
    exact List.Pairwise.map mkS (fun a b q z => q (mkS_inj.mp z)) nd
  obtain ⟨f, hf⟩ : ∃ f : Str → Rw, ∀ r ∈ rs, f (mkS r.1) = r := by
    refine ⟨fun y => (rs.find? fun r => decide (mkS r.1 = y)).getD ([], none), fun r hr => ?_⟩
    have : ∀ l : List Rw, (l.map (·.1)).Nodup → r ∈ l → l.find? (fun x => decide (mkS x.1 = mkS r.1)) = some r := fun l => by
      induction l with
      | nil => intro _ h; cases h
      | cons x l ih =>
        intro n h
        rw [List.map_cons, List.nodup_cons] at n
        rw [List.find?_cons]
        rcases List.mem_cons.mp h with rfl | h
        · simp
        · have : ¬ mkS x.1 = mkS r.1 := fun q => n.1 (by rw [mkS_inj.mp q]; exact List.mem_map.mpr ⟨_, h, rfl⟩)
          simp only [this, decide_false]
          exact ih n.2 h
    show (rs.find? _).getD _ = r
    rw [this rs nd hr]; rfl
  have pL : (ys.map f).Perm rs := by
    have := hp.map f
    rw [List.map_map] at this
    have e : rs.map (f ∘ fun r => mkS r.1) = rs := by
      have : rs.map (f ∘ fun r => mkS r.1) = rs.map id := List.map_congr_left fun r hr => hf r hr
      rw [this, List.map_id]
    rwa [e] at this
  have ey : ys = (ys.map f).map fun r => mkS r.1 := by
    rw [List.map_map]
    have : ys.map ((fun r : Rw => mkS r.1) ∘ f) = ys.map id := List.map_congr_left fun y hy => by
      have := hp.mem_iff.mp hy
      rw [List.mem_map] at this
      obtain ⟨r, hr, rfl⟩ := this
      show mkS (f (mkS r.1)).1 = mkS r.1
      rw [hf r hr]
    rw [this, List.map_id]
  refine ⟨ys.map f, ey, pL, ?_⟩
  have := sorted_ord hs (hp.nodup_iff.mpr ndk)
  rw [ey, List.map_map] at this
  exact this
theorem perm_es {m : Nat} {rs L : List Rw} (h : RsOk m rs) (p : L.Perm rs) (o : ordL (L.map (·.1)) = true) : EsOk m L := ⟨by rw [p.length_eq]; exact h.len, o, fun r hr => h.row r (p.mem_iff.mp hr), fun r hr => h.some r (p.mem_iff.mp hr)⟩
theorem perm_lk {rs L : List Rw} (nd : (rs.map (·.1)).Nodup) (p : L.Perm rs) : lk L = lk rs := by
  have ndL : (L.map (·.1)).Nodup := (p.map (·.1)).nodup_iff.mpr nd
  funext w
  have key : ∀ v : Tx, lk L w = some v ↔ lk rs w = some v := fun v => by rw [lk_iff ndL, lk_iff nd, p.mem_iff]
  cases q : lk rs w with
  | some v => exact (key v).mpr q
  | none =>
    cases q2 : lk L w with
    | none => rfl
    | some v => rw [(key v).mp q2] at q; cases q
/-- the sorted rows of a dict are its past -/
theorem sort_es {m : Nat} {rs es : List Rw} (hr : RsOk m rs) (he : EsOk m es) (hk : lk es = lk rs) {ys : List Str} (hp : ys.Perm (rs.map fun r => mkS r.1)) (hs : PyProof.Rows.sortedS ys = true) : ys = es.map (fun r => mkS r.1) ∧ ∀ r ∈ es, valD (rs.map kvD) (Sum.inr (mkS r.1)) = some (optD r.2) := by
  obtain ⟨L, h1, h2, h3⟩ := sort_rows hr.nd hp hs
  have e : L = es := (perm_es hr h2 h3).ext he fun w => by rw [perm_lk hr.nd h2, hk]
  subst e
  exact ⟨h1, fun r hr' => val_mem hr.nd (h2.mem_iff.mp hr')⟩
/-- what a dict tells for a key -/
theorem get_lk {m : Nat} {rs es : List Rw} (hr : RsOk m rs) (hk : lk es = lk rs) (w : Tx) : (valD (rs.map kvD) (Sum.inr (mkS w))).getD .non = optD (lk es w) := by
  rw [val_lk hr.some, hk]
  cases lk rs w <;> rfl
/-- laid over, one after the other -/
theorem foldl_upF {es : List Rw} (nd : (es.map (·.1)).Nodup) (f : Tx → Option Tx) (w : Tx) : es.foldl upF f w = if w ∈ es.map (·.1) then lk es w else f w := by
  induction es generalizing f with
  | nil => rfl
  | cons x es ih =>
    rw [List.map_cons, List.nodup_cons] at nd
    rw [List.foldl_cons, ih nd.2, List.map_cons, lk_cons]
    by_cases h : w ∈ es.map (·.1)
    · have : ¬ x.1 = w := fun q => nd.1 (by rw [q]; exact h)
      rw [if_pos h, if_pos (List.mem_cons_of_mem _ h), if_neg this]
    · rw [if_neg h]
      unfold upF
      by_cases e : x.1 = w
      · rw [if_pos e, if_pos (by rw [e]; exact List.mem_cons_self), if_pos e]
      · rw [if_neg e, if_neg (fun q => by rcases List.mem_cons.mp q with q | q; exact e q.symm; exact h q)]
/-- a dict whose values may be None -/
structure RnOk (m : Nat) (rs : List Rw) : Prop where
  len : rs.length ≤ m
  nd : (rs.map (·.1)).Nodup
  row : ∀ r ∈ rs, RowB r
theorem RnOk.put {m : Nat} {rs : List Rw} (h : RnOk m rs) {r : Rw} (hr : RowB r) : RnOk (m + 1) (putR rs r.1 r.2) := ⟨by have := put_len rs r.1 r.2; have := h.len; omega, put_keys _ _ _ h.nd, put_ok h.row hr⟩
theorem lk_putF (rs : List Rw) (r : Rw) : lk (putR rs r.1 r.2) = upF (lk rs) r := by
  funext w
  rw [lk_put]; rfl
theorem puts_kv : ∀ (es rs : List Rw), (es.map kvD).foldl (fun acc kv => putD acc kv.1 kv.2) (rs.map kvD) = (es.foldl (fun rs r => putR rs r.1 r.2) rs).map kvD
  | [], rs => rfl
  | r :: es, rs => by
    rw [List.map_cons, List.foldl_cons, List.foldl_cons]
    have := put_kv rs r.1 r.2
    show (es.map kvD).foldl _ (putD (rs.map kvD) (Sum.inr (mkS r.1)) (optD r.2)) = _
    rw [this, puts_kv es]
theorem puts_ok : ∀ {es rs : List Rw} {m : Nat}, RnOk m rs → (∀ r ∈ es, RowB r) → RnOk (m + es.length) (es.foldl (fun rs r => putR rs r.1 r.2) rs) ∧ lk (es.foldl (fun rs r => putR rs r.1 r.2) rs) = es.foldl upF (lk rs)
  | [], rs, m, h, _ => ⟨h, rfl⟩
  | r :: es, rs, m, h, hr => by
    obtain ⟨a, b⟩ := puts_ok (m := m + 1) (h.put (hr r List.mem_cons_self)) fun x hx => hr x (List.mem_cons_of_mem _ hx)
    rw [List.foldl_cons, List.foldl_cons]
    refine ⟨⟨by have := a.len; rw [List.length_cons]; omega, a.nd, a.row⟩, ?_⟩
    rw [b, lk_putF]
/-- dict(t), t a past -/
theorem puts_es {m : Nat} {es : List Rw} (h : EsOk m es) : ∃ rs, putsD (es.map kvD) = rs.map kvD ∧ RnOk m rs ∧ lk rs = lk es := by
  obtain ⟨a, b⟩ := puts_ok (es := es) (rs := []) (m := 0) ⟨Nat.le_refl _, by simp, by simp⟩ h.row
  refine ⟨_, puts_kv es [], ⟨by have := a.len; have := h.len; omega, a.nd, a.row⟩, ?_⟩
  rw [b]
  funext w
  rw [foldl_upF h.nd]
  split
  · rfl
  · rename_i q
    rw [lk_none q]; rfl
theorem filt_ok {m : Nat} {rs L : List Rw} (h : RnOk m rs) (p : L.Perm rs) (o : ordL (L.map (·.1)) = true) : EsOk m (L.filter fun r => r.2.isSome) ∧ lk (L.filter fun r => r.2.isSome) = lk rs := by
  have e : EsOk m (L.filter fun r => r.2.isSome) := by
    refine ⟨Nat.le_trans (List.length_filter_le _ _) (by rw [p.length_eq]; exact h.len), ord_sub o ((List.filter_sublist).map _), fun r hr => h.row r (p.mem_iff.mp (List.mem_filter.mp hr).1), fun r hr q => ?_⟩
    have := (List.mem_filter.mp hr).2
    rw [q] at this; cases this
  refine ⟨e, ?_⟩
  funext w
  have key : ∀ v : Tx, lk (L.filter fun r => r.2.isSome) w = some v ↔ lk rs w = some v := fun v => by
    rw [lk_iff e.nd, lk_iff h.nd, List.mem_filter, p.mem_iff]
    exact ⟨fun q => q.1, fun q => ⟨q, rfl⟩⟩
  cases q : lk rs w with
  | some v => exact (key v).mpr q
  | none =>
    cases q2 : lk (L.filter fun r => r.2.isSome) w with
    | none => rfl
    | some v => rw [(key v).mp q2] at q; cases q
theorem filt_key {es : List Rw} (nd : (es.map (·.1)).Nodup) (hs : ∀ r ∈ es, r.2 ≠ none) (k : Tx) : es.filter (fun r => decide (r.1 = k)) = match lk es k with | none => [] | some v => [(k, some v)] := by
  induction es with
  | nil => rfl
  | cons x es ih =>
    rw [List.map_cons, List.nodup_cons] at nd
    rw [List.filter_cons, lk_cons]
    by_cases e : x.1 = k
    · rw [if_pos (decide_eq_true e), if_pos e]
      have : es.filter (fun r => decide (r.1 = k)) = [] := List.filter_eq_nil_iff.mpr fun r hr q => nd.1 (by rw [e, ← of_decide_eq_true q]; exact List.mem_map.mpr ⟨r, hr, rfl⟩)
      rw [this]
      obtain ⟨w, v⟩ := x
      cases v with
      | none => exact absurd rfl (hs _ List.mem_cons_self)
      | some v => simp only at e; subst e; rfl
    · rw [if_neg (by simp [e]), if_neg e]
      exact ih nd.2 fun r hr => hs r (List.mem_cons_of_mem _ hr)
theorem inV_txs (w : Tx) (ls : List Tx) : inV (.str (mkS w)) (ls.map fun l => V.str (mkS l)) = decide (w ∈ ls) := by
  unfold inV
  induction ls with
  | nil => rfl
  | cons a ls ih =>
    rw [List.map_cons, List.any_cons, ih]
    have e : eqV (.str (mkS a)) (.str (mkS w)) = decide (w = a) := by
      show ((mkS a) == (mkS w)) = _
      rw [Bool.eq_iff_iff, beq_iff_eq, decide_eq_true_eq, mkS_inj, eq_comm]
    have e2 : eqV (.str (mkS w)) (.str (mkS a)) = decide (w = a) := by
      show ((mkS w) == (mkS a)) = _
      rw [Bool.eq_iff_iff, beq_iff_eq, decide_eq_true_eq, mkS_inj]
    first
      | rw [e, ← Bool.decide_or]; exact decide_eq_decide.mpr (by rw [List.mem_cons])
      | rw [e2, ← Bool.decide_or]; exact decide_eq_decide.mpr (by rw [List.mem_cons])
theorem map_row (rs : List Rw) : rs.map rowD = rs.map fun r => D.tup [.str (mkS r.1), optD r.2] := rfl
end J
namespace J
open PySem PySem.Spec L2 G TL C
theorem RsOk.up {m n : Nat} {rs : List Rw} (h : RsOk m rs) (k : m ≤ n) : RsOk n rs := ⟨Nat.le_trans h.len k, h.nd, h.row, h.some⟩
/-- each dict of rows has its past -/
theorem can_es {m : Nat} {rs : List Rw} (h : RsOk m rs) : ∃ es, EsOk m es ∧ lk es = lk rs := by
  have e0 : EsOk 0 ([] : List Rw) := ⟨Nat.le_refl _, rfl, by simp, by simp⟩
  refine ⟨laidE [] rs, (e0.laid h.row).up (by have := h.len; omega), ?_⟩
  rw [lk_laid e0 h.row]
  funext w
  rw [foldl_upF h.nd]
  split
  · rfl
  · rename_i q; rw [lk_none q]; rfl
end J

namespace J
open PySem PySem.Spec L2 G TL C
theorem dLc_filt2 {α : Type} {fi : TID} {ft : TB} {fe : TD} {i j : Nat} {ρ : G.Env} {W : Wd} {Q : KL} {Qx : KX} (xs : List α) (f1 f2 g : α → D) (p : α → Bool) (hno : noOwn ρ [i, j]) (hl : xs.length ≤ sizeLine) (hi : ∀ P : KL, P (xs.map fun x => .tup [f1 x, f2 x]) ρ W → fi ρ W P Qx)
    (ht : ∀ x ∈ xs, ∀ P : KB, P (p x) ((((ρ.set j none).set i none).set i (some (.sh (f1 x)))).set j (some (.sh (f2 x)))) W → ft ((((ρ.set j none).set i none).set i (some (.sh (f1 x)))).set j (some (.sh (f2 x)))) W P noX)
    (he : ∀ x ∈ xs, p x = true → ∀ P : KD, P (g x) ((((ρ.set j none).set i none).set i (some (.sh (f1 x)))).set j (some (.sh (f2 x)))) W → fe ((((ρ.set j none).set i none).set i (some (.sh (f1 x)))).set j (some (.sh (f2 x)))) W P noX) (hq : Q ((xs.filter p).map g) ρ W) :
    dLc fi (gdTup 2 (gdCons (gdName i) (gdCons (gdName j) gdNil))) ft fe [i, j] ρ W Q Qx := by
  refine dLc_inv (xs.map fun x => .tup [f1 x, f2 x]) W (fun j acc W' => W' = W ∧ acc = ((xs.take j).filter p).map g) hno (by rw [List.length_map]; exact hl) hi ⟨rfl, by simp⟩ (fun n d acc W' hj _ hI => ?_) (fun acc W' _ hI => ?_)
  · obtain ⟨rfl, rfl⟩ := hI
    rw [List.getElem?_map] at hj
    cases hx : xs[n]? with
    | none => rw [hx] at hj; cases hj
    | some x =>
      rw [hx] at hj; cases hj
      refine ⟨rfl, ?_⟩
      refine ht x (List.mem_of_getElem? hx) _ ⟨rfl, ?_⟩
      cases hp : p x with
      | true =>
        rw [if_pos rfl]
        refine he x (List.mem_of_getElem? hx) hp _ ⟨rfl, rfl, ?_⟩
        rw [List.take_add_one, hx]
        simp [hp]
      | false =>
        rw [if_neg Bool.false_ne_true]
        refine ⟨rfl, ?_⟩
        rw [List.take_add_one, hx]
        simp [hp]
  · obtain ⟨rfl, rfl⟩ := hI
    rw [List.length_map, List.take_length]
    exact hq
def optB {α : Type} (f : α → Bool) : Option α → Bool
  | some x => f x
  | none => false
theorem any_idx {α : Type} (f : α → Bool) : ∀ L : List α, ((List.range L.length).any fun j => optB f L[j]?) = L.any f
  | [] => rfl
  | x :: L => by
    rw [List.length_cons, List.range_succ_eq_map, List.any_cons, List.any_map, List.any_cons, ← any_idx f L]
    rfl
theorem cut_map_ab {α : Type} (f : α → D) (rs : List α) (a b : Nat) (hb : b ≤ rs.length) : cutD (rs.map f) (some (a : Int)) (some (b : Int)) = ((rs.take b).drop a).map f := by
  unfold cutD
  rw [HT.sIx_nat, HT.sIx_nat, List.length_map, Nat.min_eq_left hb, List.drop_take, ← List.map_drop, List.map_take]
  by_cases h : a ≤ rs.length
  · rw [Nat.min_eq_left h]
  · rw [Nat.min_eq_right (by omega), show b - rs.length = 0 by omega, show b - a = 0 by omega]; simp
theorem ov_comm (a b : Cm) : ovB a b = ovB b a := by
  unfold ovB
  rw [Bool.eq_iff_iff, List.any_eq_true, List.any_eq_true]
  constructor
  · rintro ⟨w, h1, h2⟩
    exact ⟨w, of_decide_eq_true h2, decide_eq_true h1⟩
  · rintro ⟨w, h1, h2⟩
    exact ⟨w, of_decide_eq_true h2, decide_eq_true h1⟩
theorem snap_false {es : List Rw} {cs : List Cm} {k : Nat} {c : Cm} (h : cs[k]? = some c) (hc : comB es cs k c = false) : snapB es cs = false := by
  unfold snapB
  rw [List.all_eq_false]
  refine ⟨k, List.mem_range.mpr (List.getElem?_eq_some_iff.mp h).1, ?_⟩
  rw [h]
  show ¬ comB es cs k c = true
  rw [hc]; decide
theorem snap_true {es : List Rw} {cs : List Cm} (h : ∀ k, k < cs.length → ∀ c, cs[k]? = some c → comB es cs k c = true) : snapB es cs = true := by
  unfold snapB
  rw [List.all_eq_true]
  intro k hk
  rw [List.mem_range] at hk
  rw [List.getElem?_eq_getElem hk]
  exact h k hk _ (List.getElem?_eq_getElem hk)
theorem goods_nts {ts : List Nt} (h : ∀ t ∈ ts, NtOk t) : goods 63 (ts.map ntD) = true := by
  rw [goods_all, List.all_eq_true]
  intro d hd
  rw [List.mem_map] at hd
  obtain ⟨t, ht, rfl⟩ := hd
  exact good_up (by decide) (nice_nt 0 (h t ht)).good
theorem isEmpty_filter {α : Type} (p : α → Bool) (l : List α) : (l.filter p).isEmpty = !l.any p := by
  induction l with
  | nil => rfl
  | cons x l ih =>
    rw [List.filter_cons, List.any_cons]
    cases h : p x with
    | true => simp
    | false => simp [ih]
end J
namespace J
open PySem PySem.Spec L2 G TL C
theorem ov_any (L : List Cm) (c : Cm) : (c.ch.any fun r => decide (r.1 ∈ L.flatMap fun d => d.ch.map (·.1))) = L.any fun d => ovB d c := by
  rw [Bool.eq_iff_iff, List.any_eq_true, List.any_eq_true]
  constructor
  · rintro ⟨r, h1, h2⟩
    have h2 := of_decide_eq_true h2
    rw [List.mem_flatMap] at h2
    obtain ⟨d, hd, hr⟩ := h2
    refine ⟨d, hd, ?_⟩
    rw [ov_comm]
    unfold ovB
    rw [List.any_eq_true]
    exact ⟨r.1, List.mem_map.mpr ⟨r, h1, rfl⟩, decide_eq_true hr⟩
  · rintro ⟨d, hd, h⟩
    unfold ovB at h
    rw [List.any_eq_true] at h
    obtain ⟨w, h1, h2⟩ := h
    have h2 := of_decide_eq_true h2
    rw [List.mem_map] at h2
    obtain ⟨r, hr, rfl⟩ := h2
    exact ⟨r, hr, decide_eq_true (List.mem_flatMap.mpr ⟨d, hd, h1⟩)⟩
theorem all_not_any {α : Type} (p : α → Bool) (l : List α) : (l.any fun x => !p x) = !l.all p := by
  induction l with
  | nil => rfl
  | cons x l ih => rw [List.any_cons, List.all_cons, ih]; cases p x <;> simp
end J

namespace K46
open PySem PySem.Spec L2 G TL C J
def top (i : Nat) : Stmt := PySem.Challenge.pw_heldlevels_k46_pasts_and_given_notes.main.body.getD i (.Pass ⟨0, 0, 0, 0⟩)
abbrev s_is_integer : Stmt := top 8
abbrev n_is_integer : List Str := ["value"]
theorem sc_is_integer : FnScope n_is_integer ["value"] (defScope s_is_integer) := ⟨rfl, rfl, rfl, by decide +kernel, rfl, by decide +kernel, by decide +kernel⟩

abbrev s_is_between : Stmt := top 9
abbrev n_is_between : List Str := ["least", "value", "most"]
theorem sc_is_between : FnScope n_is_between ["least", "value", "most"] (defScope s_is_between) := ⟨rfl, rfl, rfl, by decide +kernel, rfl, by decide +kernel, by decide +kernel⟩

abbrev s_is_tuple_of : Stmt := top 10
abbrev n_is_tuple_of : List Str := ["length", "value"]
theorem sc_is_tuple_of : FnScope n_is_tuple_of ["length", "value"] (defScope s_is_tuple_of) := ⟨rfl, rfl, rfl, by decide +kernel, rfl, by decide +kernel, by decide +kernel⟩

abbrev s_is_text : Stmt := top 11
abbrev n_is_text : List Str := ["value", "sign"]
theorem sc_is_text : FnScope n_is_text ["value"] (defScope s_is_text) := ⟨rfl, rfl, rfl, by decide +kernel, rfl, by decide +kernel, by decide +kernel⟩

abbrev s_is_change : Stmt := top 13
abbrev n_is_change : List Str := ["value"]
theorem sc_is_change : FnScope n_is_change ["value"] (defScope s_is_change) := ⟨rfl, rfl, rfl, by decide +kernel, rfl, by decide +kernel, by decide +kernel⟩

abbrev s_is_changes : Stmt := top 14
abbrev n_is_changes : List Str := ["value", "change", "k"]
theorem sc_is_changes : FnScope n_is_changes ["value"] (defScope s_is_changes) := ⟨rfl, rfl, rfl, by decide +kernel, rfl, by decide +kernel, by decide +kernel⟩

abbrev s_is_entries : Stmt := top 16
abbrev n_is_entries : List Str := ["value", "key", "text"]
theorem sc_is_entries : FnScope n_is_entries ["value"] (defScope s_is_entries) := ⟨rfl, rfl, rfl, by decide +kernel, rfl, by decide +kernel, by decide +kernel⟩

abbrev s_is_text_or_none : Stmt := top 17
abbrev n_is_text_or_none : List Str := ["value"]
theorem sc_is_text_or_none : FnScope n_is_text_or_none ["value"] (defScope s_is_text_or_none) := ⟨rfl, rfl, rfl, by decide +kernel, rfl, by decide +kernel, by decide +kernel⟩

abbrev s_is_note : Stmt := top 18
abbrev n_is_note : List Str := ["value"]
theorem sc_is_note : FnScope n_is_note ["value"] (defScope s_is_note) := ⟨rfl, rfl, rfl, by decide +kernel, rfl, by decide +kernel, by decide +kernel⟩

abbrev s_is_commit : Stmt := top 19
abbrev n_is_commit : List Str := ["number", "value", "note"]
theorem sc_is_commit : FnScope n_is_commit ["number", "value"] (defScope s_is_commit) := ⟨rfl, rfl, rfl, by decide +kernel, rfl, by decide +kernel, by decide +kernel⟩

abbrev s_is_history : Stmt := top 20
abbrev n_is_history : List Str := ["value", "k"]
theorem sc_is_history : FnScope n_is_history ["value"] (defScope s_is_history) := ⟨rfl, rfl, rfl, by decide +kernel, rfl, by decide +kernel, by decide +kernel⟩

abbrev s_check_entries : Stmt := top 21
abbrev n_check_entries : List Str := ["entries"]
theorem sc_check_entries : FnScope n_check_entries ["entries"] (defScope s_check_entries) := ⟨rfl, rfl, rfl, by decide +kernel, rfl, by decide +kernel, by decide +kernel⟩

abbrev s_check_history : Stmt := top 22
abbrev n_check_history : List Str := ["history"]
theorem sc_check_history : FnScope n_check_history ["history"] (defScope s_check_history) := ⟨rfl, rfl, rfl, by decide +kernel, rfl, by decide +kernel, by decide +kernel⟩

abbrev s_has : Stmt := top 23
abbrev n_has : List Str := ["note", "key"]
theorem sc_has : FnScope n_has ["note", "key"] (defScope s_has) := ⟨rfl, rfl, rfl, by decide +kernel, rfl, by decide +kernel, by decide +kernel⟩

abbrev s_tells : Stmt := top 24
abbrev n_tells : List Str := ["entries", "note", "rows", "entry"]
theorem sc_tells : FnScope n_tells ["entries", "note"] (defScope s_tells) := ⟨rfl, rfl, rfl, by decide +kernel, rfl, by decide +kernel, by decide +kernel⟩

abbrev s_is_given : Stmt := top 25
abbrev n_is_given : List Str := ["entries", "value"]
theorem sc_is_given : FnScope n_is_given ["entries", "value"] (defScope s_is_given) := ⟨rfl, rfl, rfl, by decide +kernel, rfl, by decide +kernel, by decide +kernel⟩

abbrev s_laid_over : Stmt := top 26
abbrev n_laid_over : List Str := ["entries", "changes", "rows", "key", "value"]
theorem sc_laid_over : FnScope n_laid_over ["entries", "changes"] (defScope s_laid_over) := ⟨rfl, rfl, rfl, by decide +kernel, rfl, by decide +kernel, by decide +kernel⟩

abbrev s_pasts_of : Stmt := top 27
abbrev n_pasts_of : List Str := ["entries", "history", "pasts", "commit"]
theorem sc_pasts_of : FnScope n_pasts_of ["entries", "history"] (defScope s_pasts_of) := ⟨rfl, rfl, rfl, by decide +kernel, rfl, by decide +kernel, by decide +kernel⟩

abbrev s_past_of : Stmt := top 28
abbrev n_past_of : List Str := ["entries", "history", "number"]
theorem sc_past_of : FnScope n_past_of ["entries", "history", "number"] (defScope s_past_of) := ⟨rfl, rfl, rfl, by decide +kernel, rfl, by decide +kernel, by decide +kernel⟩

abbrev s_changed : Stmt := top 29
abbrev n_changed : List Str := ["history", "number", "key", "value"]
theorem sc_changed : FnScope n_changed ["history", "number"] (defScope s_changed) := ⟨rfl, rfl, rfl, by decide +kernel, rfl, by decide +kernel, by decide +kernel⟩

abbrev s_share : Stmt := top 30
abbrev n_share : List Str := ["history", "one", "other", "key"]
theorem sc_share : FnScope n_share ["history", "one", "other"] (defScope s_share) := ⟨rfl, rfl, rfl, by decide +kernel, rfl, by decide +kernel, by decide +kernel⟩

abbrev s_is_snapshot_history : Stmt := top 31
abbrev n_is_snapshot_history : List Str := ["entries", "history", "pasts", "number", "snapshot", "serial", "notes", "changes", "other", "note"]
theorem sc_is_snapshot_history : FnScope n_is_snapshot_history ["entries", "history"] (defScope s_is_snapshot_history) := ⟨rfl, rfl, rfl, by decide +kernel, rfl, by decide +kernel, by decide +kernel⟩

abbrev s_law_well : Stmt := top 33
abbrev n_law_well : List Str := ["cell"]
theorem sc_law_well : FnScope n_law_well ["cell"] (defScope s_law_well) := ⟨rfl, rfl, rfl, by decide +kernel, rfl, by decide +kernel, by decide +kernel⟩

abbrev s_law_dip : Stmt := top 34
abbrev n_law_dip : List Str := ["well", "many", "drop"]
theorem sc_law_dip : FnScope n_law_dip ["well", "many"] (defScope s_law_dip) := ⟨rfl, rfl, rfl, by decide +kernel, rfl, by decide +kernel, by decide +kernel⟩

abbrev s_law_same : Stmt := top 35
abbrev n_law_same : List Str := ["found", "due", "k"]
theorem sc_law_same : FnScope n_law_same ["found", "due"] (defScope s_law_same) := ⟨rfl, rfl, rfl, by decide +kernel, rfl, by decide +kernel, by decide +kernel⟩

abbrev s_law_word : Stmt := top 36
abbrev n_law_word : List Str := ["well", "most", "signs", "k"]
theorem sc_law_word : FnScope n_law_word ["well", "most"] (defScope s_law_word) := ⟨rfl, rfl, rfl, by decide +kernel, rfl, by decide +kernel, by decide +kernel⟩

abbrev s_law_pool : Stmt := top 37
abbrev n_law_pool : List Str := ["well", "many", "pool", "k", "key"]
theorem sc_law_pool : FnScope n_law_pool ["well", "many"] (defScope s_law_pool) := ⟨rfl, rfl, rfl, by decide +kernel, rfl, by decide +kernel, by decide +kernel⟩

abbrev s_law_has : Stmt := top 38
abbrev n_law_has : List Str := ["note", "key"]
theorem sc_law_has : FnScope n_law_has ["note", "key"] (defScope s_law_has) := ⟨rfl, rfl, rfl, by decide +kernel, rfl, by decide +kernel, by decide +kernel⟩

abbrev s_law_given : Stmt := top 39
abbrev n_law_given : List Str := ["rows", "note", "found", "key"]
theorem sc_law_given : FnScope n_law_given ["rows", "note"] (defScope s_law_given) := ⟨rfl, rfl, rfl, by decide +kernel, rfl, by decide +kernel, by decide +kernel⟩

abbrev s_law_note : Stmt := top 40
abbrev n_law_note : List Str := ["well", "pool", "rows", "ends", "low", "high"]
theorem sc_law_note : FnScope n_law_note ["well", "pool", "rows"] (defScope s_law_note) := ⟨rfl, rfl, rfl, by decide +kernel, rfl, by decide +kernel, by decide +kernel⟩

abbrev s_law_laid : Stmt := top 41
abbrev n_law_laid : List Str := ["rows", "changes", "key", "value"]
theorem sc_law_laid : FnScope n_law_laid ["rows", "changes"] (defScope s_law_laid) := ⟨rfl, rfl, rfl, by decide +kernel, rfl, by decide +kernel, by decide +kernel⟩

abbrev s_law_changes : Stmt := top 42
abbrev n_law_changes : List Str := ["well", "keys", "most", "rows", "k", "value", "key"]
theorem sc_law_changes : FnScope n_law_changes ["well", "keys", "most"] (defScope s_law_changes) := ⟨rfl, rfl, rfl, by decide +kernel, rfl, by decide +kernel, by decide +kernel⟩

abbrev s_law_barred : Stmt := top 43
abbrev n_law_barred : List Str := ["commits", "keys", "commit", "row"]
theorem sc_law_barred : FnScope n_law_barred ["commits"] (defScope s_law_barred) := ⟨rfl, rfl, rfl, by decide +kernel, rfl, by decide +kernel, by decide +kernel⟩

abbrev s_law_history : Stmt := top 44
abbrev n_law_history : List Str := ["well", "pool", "rows", "many", "most", "pasts", "history", "k", "snapshot", "barred", "notes", "changes", "j", "key"]
theorem sc_law_history : FnScope n_law_history ["well", "pool", "rows", "many", "most"] (defScope s_law_history) := ⟨rfl, rfl, rfl, by decide +kernel, rfl, by decide +kernel, by decide +kernel⟩

abbrev s_law_rows : Stmt := top 45
abbrev n_law_rows : List Str := ["well", "pool", "rows", "key"]
theorem sc_law_rows : FnScope n_law_rows ["well", "pool"] (defScope s_law_rows) := ⟨rfl, rfl, rfl, by decide +kernel, rfl, by decide +kernel, by decide +kernel⟩

abbrev s_law_entries : Stmt := top 46
abbrev n_law_entries : List Str := ["rows", "key"]
theorem sc_law_entries : FnScope n_law_entries ["rows"] (defScope s_law_entries) := ⟨rfl, rfl, rfl, by decide +kernel, rfl, by decide +kernel, by decide +kernel⟩

abbrev s_law_told : Stmt := top 47
abbrev n_law_told : List Str := ["entries", "history", "number", "found"]
theorem sc_law_told : FnScope n_law_told ["entries", "history", "number"] (defScope s_law_told) := ⟨rfl, rfl, rfl, by decide +kernel, rfl, by decide +kernel, by decide +kernel⟩

abbrev s_law_judged : Stmt := top 48
abbrev n_law_judged : List Str := ["entries", "value", "found"]
theorem sc_law_judged : FnScope n_law_judged ["entries", "value"] (defScope s_law_judged) := ⟨rfl, rfl, rfl, by decide +kernel, rfl, by decide +kernel, by decide +kernel⟩

abbrev s_law_odd_entries : Stmt := top 49
abbrev n_law_odd_entries : List Str := ["well", "entries", "some", "odd"]
theorem sc_law_odd_entries : FnScope n_law_odd_entries ["well", "entries"] (defScope s_law_odd_entries) := ⟨rfl, rfl, rfl, by decide +kernel, rfl, by decide +kernel, by decide +kernel⟩

abbrev s_law_odd_history : Stmt := top 50
abbrev n_law_odd_history : List Str := ["well", "history", "odd"]
theorem sc_law_odd_history : FnScope n_law_odd_history ["well", "history"] (defScope s_law_odd_history) := ⟨rfl, rfl, rfl, by decide +kernel, rfl, by decide +kernel, by decide +kernel⟩

abbrev s_law_other_note : Stmt := top 51
abbrev n_law_other_note : List Str := ["well", "note", "pool", "other", "at", "rows", "more", "ends", "row"]
theorem sc_law_other_note : FnScope n_law_other_note ["well", "note", "pool"] (defScope s_law_other_note) := ⟨rfl, rfl, rfl, by decide +kernel, rfl, by decide +kernel, by decide +kernel⟩

abbrev s_law_notes_right : Stmt := top 52
abbrev n_law_notes_right : List Str := ["well", "rows", "pool", "entries", "turn", "note", "other", "due", "odd", "others", "dues", "value"]
theorem sc_law_notes_right : FnScope n_law_notes_right ["well", "rows", "pool"] (defScope s_law_notes_right) := ⟨rfl, rfl, rfl, by decide +kernel, rfl, by decide +kernel, by decide +kernel⟩

abbrev s_law_pasts_right : Stmt := top 53
abbrev n_law_pasts_right : List Str := ["well", "rows", "history", "entries", "here", "k", "due", "far", "odd", "odd_history", "one", "other", "number"]
theorem sc_law_pasts_right : FnScope n_law_pasts_right ["well", "rows", "history"] (defScope s_law_pasts_right) := ⟨rfl, rfl, rfl, by decide +kernel, rfl, by decide +kernel, by decide +kernel⟩

abbrev s_law_is_snapshots : Stmt := top 54
abbrev n_law_is_snapshots : List Str := ["rows", "history", "pasts", "snapshot", "serial", "notes", "changes", "barred", "note", "key", "value"]
theorem sc_law_is_snapshots : FnScope n_law_is_snapshots ["rows", "history"] (defScope s_law_is_snapshots) := ⟨rfl, rfl, rfl, by decide +kernel, rfl, by decide +kernel, by decide +kernel⟩

abbrev s_law_exchanged : Stmt := top 55
abbrev n_law_exchanged : List Str := ["well", "pool", "history", "at", "snapshot", "serial", "notes", "changes", "other", "j", "ways"]
theorem sc_law_exchanged : FnScope n_law_exchanged ["well", "pool", "history"] (defScope s_law_exchanged) := ⟨rfl, rfl, rfl, by decide +kernel, rfl, by decide +kernel, by decide +kernel⟩

abbrev s_law_snapshots_told : Stmt := top 56
abbrev n_law_snapshots_told : List Str := ["entries", "history", "found"]
theorem sc_law_snapshots_told : FnScope n_law_snapshots_told ["entries", "history"] (defScope s_law_snapshots_told) := ⟨rfl, rfl, rfl, by decide +kernel, rfl, by decide +kernel, by decide +kernel⟩

abbrev s_law_snapshots_right : Stmt := top 57
abbrev n_law_snapshots_right : List Str := ["well", "rows", "history", "pool", "entries", "some", "turn", "one", "due", "told", "odd", "other"]
theorem sc_law_snapshots_right : FnScope n_law_snapshots_right ["well", "rows", "history", "pool"] (defScope s_law_snapshots_right) := ⟨rfl, rfl, rfl, by decide +kernel, rfl, by decide +kernel, by decide +kernel⟩

abbrev s_law : Stmt := top 58
abbrev n_law : List Str := ["script", "cell", "well", "pool", "rows", "history", "kept"]
theorem sc_law : FnScope n_law ["script"] (defScope s_law) := ⟨rfl, rfl, rfl, by decide +kernel, rfl, by decide +kernel, by decide +kernel⟩

abbrev a_InvalidEntries : Addr := 61
abbrev a_InvalidHistory : Addr := 49
abbrev a_InvalidNumber : Addr := 37
abbrev a_StoreError : Addr := 24
structure Txt (K : PySem.W.Frag) (mg : Str → Option Value) : Prop where
  f_is_integer : DefAt K mg "is_integer" s_is_integer ["value"]
  f_is_between : DefAt K mg "is_between" s_is_between ["least", "value", "most"]
  f_is_tuple_of : DefAt K mg "is_tuple_of" s_is_tuple_of ["length", "value"]
  f_is_text : DefAt K mg "is_text" s_is_text ["value"]
  f_is_change : DefAt K mg "is_change" s_is_change ["value"]
  f_is_changes : DefAt K mg "is_changes" s_is_changes ["value"]
  f_is_entries : DefAt K mg "is_entries" s_is_entries ["value"]
  f_is_text_or_none : DefAt K mg "is_text_or_none" s_is_text_or_none ["value"]
  f_is_note : DefAt K mg "is_note" s_is_note ["value"]
  f_is_commit : DefAt K mg "is_commit" s_is_commit ["number", "value"]
  f_is_history : DefAt K mg "is_history" s_is_history ["value"]
  f_check_entries : DefAt K mg "check_entries" s_check_entries ["entries"]
  f_check_history : DefAt K mg "check_history" s_check_history ["history"]
  f_has : DefAt K mg "has" s_has ["note", "key"]
  f_tells : DefAt K mg "tells" s_tells ["entries", "note"]
  f_is_given : DefAt K mg "is_given" s_is_given ["entries", "value"]
  f_laid_over : DefAt K mg "laid_over" s_laid_over ["entries", "changes"]
  f_pasts_of : DefAt K mg "pasts_of" s_pasts_of ["entries", "history"]
  f_past_of : DefAt K mg "past_of" s_past_of ["entries", "history", "number"]
  f_changed : DefAt K mg "changed" s_changed ["history", "number"]
  f_share : DefAt K mg "share" s_share ["history", "one", "other"]
  f_is_snapshot_history : DefAt K mg "is_snapshot_history" s_is_snapshot_history ["entries", "history"]
  f_law_well : DefAt K mg "_law_well" s_law_well ["cell"]
  f_law_dip : DefAt K mg "_law_dip" s_law_dip ["well", "many"]
  f_law_same : DefAt K mg "_law_same" s_law_same ["found", "due"]
  f_law_word : DefAt K mg "_law_word" s_law_word ["well", "most"]
  f_law_pool : DefAt K mg "_law_pool" s_law_pool ["well", "many"]
  f_law_has : DefAt K mg "_law_has" s_law_has ["note", "key"]
  f_law_given : DefAt K mg "_law_given" s_law_given ["rows", "note"]
  f_law_note : DefAt K mg "_law_note" s_law_note ["well", "pool", "rows"]
  f_law_laid : DefAt K mg "_law_laid" s_law_laid ["rows", "changes"]
  f_law_changes : DefAt K mg "_law_changes" s_law_changes ["well", "keys", "most"]
  f_law_barred : DefAt K mg "_law_barred" s_law_barred ["commits"]
  f_law_history : DefAt K mg "_law_history" s_law_history ["well", "pool", "rows", "many", "most"]
  f_law_rows : DefAt K mg "_law_rows" s_law_rows ["well", "pool"]
  f_law_entries : DefAt K mg "_law_entries" s_law_entries ["rows"]
  f_law_told : DefAt K mg "_law_told" s_law_told ["entries", "history", "number"]
  f_law_judged : DefAt K mg "_law_judged" s_law_judged ["entries", "value"]
  f_law_odd_entries : DefAt K mg "_law_odd_entries" s_law_odd_entries ["well", "entries"]
  f_law_odd_history : DefAt K mg "_law_odd_history" s_law_odd_history ["well", "history"]
  f_law_other_note : DefAt K mg "_law_other_note" s_law_other_note ["well", "note", "pool"]
  f_law_notes_right : DefAt K mg "_law_notes_right" s_law_notes_right ["well", "rows", "pool"]
  f_law_pasts_right : DefAt K mg "_law_pasts_right" s_law_pasts_right ["well", "rows", "history"]
  f_law_is_snapshots : DefAt K mg "_law_is_snapshots" s_law_is_snapshots ["rows", "history"]
  f_law_exchanged : DefAt K mg "_law_exchanged" s_law_exchanged ["well", "pool", "history"]
  f_law_snapshots_told : DefAt K mg "_law_snapshots_told" s_law_snapshots_told ["entries", "history"]
  f_law_snapshots_right : DefAt K mg "_law_snapshots_right" s_law_snapshots_right ["well", "rows", "history", "pool"]
  f_law : DefAt K mg "law" s_law ["script"]
  b_all : mg "all" = none
  b_any : mg "any" = none
  b_bool : mg "bool" = none
  b_dict : mg "dict" = none
  b_int : mg "int" = none
  b_isinstance : mg "isinstance" = none
  b_len : mg "len" = none
  b_list : mg "list" = none
  b_range : mg "range" = none
  b_repr : mg "repr" = none
  b_sorted : mg "sorted" = none
  b_str : mg "str" = none
  b_tuple : mg "tuple" = none
  c_GREATEST_SIGN : ∃ u, mg "GREATEST_SIGN" = some u ∧ RelV (.str "~") u
  c_LEAST_SIGN : ∃ u, mg "LEAST_SIGN" = some u ∧ RelV (.str " ") u
  x_InvalidEntries : ExcAt K mg "InvalidEntries" a_InvalidEntries
  x_InvalidHistory : ExcAt K mg "InvalidHistory" a_InvalidHistory
  x_InvalidNumber : ExcAt K mg "InvalidNumber" a_InvalidNumber
  x_StoreError : ExcAt K mg "StoreError" a_StoreError
  m_InvalidEntries_InvalidEntries : PySem.W.exmOne K (.ref a_InvalidEntries) (.ref a_InvalidEntries) = some true
  m_InvalidEntries_InvalidHistory : PySem.W.exmOne K (.ref a_InvalidEntries) (.ref a_InvalidHistory) = some false
  m_InvalidEntries_InvalidNumber : PySem.W.exmOne K (.ref a_InvalidEntries) (.ref a_InvalidNumber) = some false
  m_InvalidEntries_StoreError : PySem.W.exmOne K (.ref a_InvalidEntries) (.ref a_StoreError) = some true
  m_InvalidHistory_InvalidEntries : PySem.W.exmOne K (.ref a_InvalidHistory) (.ref a_InvalidEntries) = some false
  m_InvalidHistory_InvalidHistory : PySem.W.exmOne K (.ref a_InvalidHistory) (.ref a_InvalidHistory) = some true
  m_InvalidHistory_InvalidNumber : PySem.W.exmOne K (.ref a_InvalidHistory) (.ref a_InvalidNumber) = some false
  m_InvalidHistory_StoreError : PySem.W.exmOne K (.ref a_InvalidHistory) (.ref a_StoreError) = some true
  m_InvalidNumber_InvalidEntries : PySem.W.exmOne K (.ref a_InvalidNumber) (.ref a_InvalidEntries) = some false
  m_InvalidNumber_InvalidHistory : PySem.W.exmOne K (.ref a_InvalidNumber) (.ref a_InvalidHistory) = some false
  m_InvalidNumber_InvalidNumber : PySem.W.exmOne K (.ref a_InvalidNumber) (.ref a_InvalidNumber) = some true
  m_InvalidNumber_StoreError : PySem.W.exmOne K (.ref a_InvalidNumber) (.ref a_StoreError) = some true

/-! ### what the defs promise -/
def sp_is_integer : SpD := fun ds W Q _ => ∃ d, ds = [d] ∧ NC d ∧ Q (.bl (isIntD d)) W
def d_is_integer : TSD := (dRet (dAnd (dCB dIsi (dCons (dVar 0) (dCons (dC (.ty "int")) dNil))) (dNot (dCB dIsi (dCons (dVar 0) (dCons (dC (.ty "bool")) dNil))))))

def sp_is_between : SpD := fun ds W Q _ => ∃ (a b : Int) (d : D), ds = [.int a, d, .int b] ∧ NC d ∧ Q (.bl (match d with | .v (.int i) => decide (a ≤ i) && decide (i ≤ b) | _ => false)) W
def d_is_between : TSD := (dRet (dAnd (dCall sp_is_integer 1 (dCons (dVar 1) dNil)) (dChain dLe dLe (dVar 0) (dVar 1) (dVar 2))))

def sp_is_tuple_of : SpD := fun ds W Q _ => ∃ (n : Int) (d : D), ds = [.int n, d] ∧ NC d ∧ Q (.bl (match d with | .tup xs => decide ((xs.length : Int) = n) | _ => false)) W
def d_is_tuple_of : TSD := (dRet (dAnd (dCB dIsi (dCons (dVar 1) (dCons (dC (.ty "tuple")) dNil))) (dOp dEq (dCB dLen (dCons (dVar 1) dNil)) (dVar 0))))

def sp_is_text : SpD := fun ds W Q _ => ∃ d, ds = [d] ∧ NC d ∧ Q (.bl (isTextD d)) W
def d_is_text : TSD := (dRet (dAnd (dCB dIsi (dCons (dVar 0) (dCons (dC (.ty "str")) dNil))) (dCB dAll (dCons (dFresh (dLc (iStrD (dVar 0)) (gdName 1) dYes (dChain dLe dLe (dC (.str " ")) (dVar 1) (dC (.str "~"))) [1])) dNil))))

def sp_is_change : SpD := fun ds W Q _ => ∃ d, ds = [d] ∧ NC d ∧ Q (.bl (isRowD d)) W
def d_is_change : TSD := (dRet (dAnd (dCall sp_is_tuple_of 2 (dCons (dC (.int 2)) (dCons (dVar 0) dNil))) (dAnd (dCall sp_is_text 1 (dCons (dOp dIx (dVar 0) (dC (.int 0))) dNil)) (dOr (dOp dIsA (dOp dIx (dVar 0) (dC (.int 1))) (dC .non)) (dCall sp_is_text 1 (dCons (dOp dIx (dVar 0) (dC (.int 1))) dNil))))))

def sp_is_changes : SpD := fun ds W Q _ => ∃ d, ds = [d] ∧ NC d ∧ Q (.bl (isChD d)) W
def d_is_changes : TSD := (dSeq (dIfS (dOrB (dNotB (dBool (dCB dIsi (dCons (dVar 0) (dCons (dC (.ty "tuple")) dNil))))) (dNotB (dBool (dCB dAll (dCons (dFresh (dLc (iTupD (dVar 0)) (gdName 1) dYes (dCall sp_is_change 1 (dCons (dVar 1) dNil)) [1])) dNil))))) (dRet (dC (.bl false))) dNext)
  (dRet (dCB dAll (dCons (dFresh (dLc (iRngD1 (dCons (dOp dSub (dCB dLen (dCons (dVar 0) dNil)) (dC (.int 1))) dNil)) (gdName 2) dYes (dOp dLt (dOp dIx (dOp dIx (dVar 0) (dVar 2)) (dC (.int 0))) (dOp dIx (dOp dIx (dVar 0) (dOp dAdd (dVar 2) (dC (.int 1)))) (dC (.int 0)))) [2])) dNil))))

def sp_is_entries : SpD := fun ds W Q _ => ∃ d, ds = [d] ∧ NC d ∧ Q (.bl (isEntD d)) W
def d_is_entries : TSD := (dRet (dAnd (dCall sp_is_changes 1 (dCons (dVar 0) dNil)) (dCB dAll (dCons (dFresh (dLc (iTupD (dVar 0)) (gdTup 2 (gdCons (gdName 1) (gdCons (gdName 2) gdNil))) dYes (dOp dNotA (dVar 2) (dC .non)) [1, 2])) dNil))))

def sp_is_text_or_none : SpD := fun ds W Q _ => ∃ d, ds = [d] ∧ NC d ∧ Q (.bl (isTonD d)) W
def d_is_text_or_none : TSD := (dRet (dOr (dOp dIsA (dVar 0) (dC .non)) (dCall sp_is_text 1 (dCons (dVar 0) dNil))))

def sp_is_note : SpD := fun ds W Q _ => ∃ d, ds = [d] ∧ NC d ∧ Q (.bl (isNoteD d)) W
def d_is_note : TSD := (dSeq (dIfS (dAndB (dBool (dCall sp_is_tuple_of 2 (dCons (dC (.int 3)) (dCons (dVar 0) dNil)))) (dBool (dOp dEq (dOp dIx (dVar 0) (dC (.int 0))) (dC (.str "value"))))) (dRet (dAnd (dCall sp_is_text 1 (dCons (dOp dIx (dVar 0) (dC (.int 1))) dNil)) (dCall sp_is_text_or_none 1 (dCons (dOp dIx (dVar 0) (dC (.int 2))) dNil)))) dNext)
  (dSeq (dIfS (dOrB (dNotB (dBool (dCall sp_is_tuple_of 2 (dCons (dC (.int 4)) (dCons (dVar 0) dNil))))) (dBool (dOp dNe (dOp dIx (dVar 0) (dC (.int 0))) (dC (.str "entries"))))) (dRet (dC (.bl false))) dNext)
  (dRet (dAnd (dCall sp_is_text_or_none 1 (dCons (dOp dIx (dVar 0) (dC (.int 1))) dNil)) (dAnd (dCall sp_is_text_or_none 1 (dCons (dOp dIx (dVar 0) (dC (.int 2))) dNil)) (dCall sp_is_entries 1 (dCons (dOp dIx (dVar 0) (dC (.int 3))) dNil)))))))

def sp_is_commit : SpD := fun ds W Q _ => ∃ (n : Int) (d : D), ds = [.int n, d] ∧ NC d ∧ Q (.bl (isComD n d)) W
def d_is_commit : TSD := (dSeq (dIfS (dOrB (dNotB (dBool (dCall sp_is_tuple_of 2 (dCons (dC (.int 4)) (dCons (dVar 1) dNil))))) (dOrB (dNotB (dBool (dCall sp_is_between 3 (dCons (dC (.int 0)) (dCons (dOp dIx (dVar 1) (dC (.int 0))) (dCons (dOp dSub (dVar 0) (dC (.int 1))) dNil)))))) (dNotB (dBool (dCB dIsi (dCons (dOp dIx (dVar 1) (dC (.int 1))) (dCons (dC (.ty "bool")) dNil))))))) (dRet (dC (.bl false))) dNext)
  (dRet (dAnd (dCB dIsi (dCons (dOp dIx (dVar 1) (dC (.int 2))) (dCons (dC (.ty "tuple")) dNil))) (dAnd (dCB dAll (dCons (dFresh (dLc (iTupD (dOp dIx (dVar 1) (dC (.int 2)))) (gdName 2) dYes (dCall sp_is_note 1 (dCons (dVar 2) dNil)) [2])) dNil)) (dCall sp_is_changes 1 (dCons (dOp dIx (dVar 1) (dC (.int 3))) dNil))))))

def sp_is_history : SpD := fun ds W Q _ => ∃ d, ds = [d] ∧ NC d ∧ Q (.bl (isHistD d)) W
def d_is_history : TSD := (dRet (dAnd (dCB dIsi (dCons (dVar 0) (dCons (dC (.ty "tuple")) dNil))) (dCB dAll (dCons (dFresh (dLc (iRngD1 (dCons (dCB dLen (dCons (dVar 0) dNil)) dNil)) (gdName 1) dYes (dCall sp_is_commit 2 (dCons (dOp dAdd (dVar 1) (dC (.int 1))) (dCons (dOp dIx (dVar 0) (dVar 1)) dNil))) [1])) dNil))))

def sp_check_entries : SpD := fun ds W Q Qx => ∃ e, ds = [e] ∧ NC e ∧ ((isEntD e = false ∧ Qx (.ref a_InvalidEntries) none W) ∨ (isEntD e = true ∧ Q .non W))
def d_check_entries : TSD := (dIfS (dNotB (dBool (dCall sp_is_entries 1 (dCons (dVar 0) dNil)))) (dRaise (.ref a_InvalidEntries)) dNext)

def sp_check_history : SpD := fun ds W Q Qx => ∃ e, ds = [e] ∧ NC e ∧ ((isHistD e = false ∧ Qx (.ref a_InvalidHistory) none W) ∨ (isHistD e = true ∧ Q .non W))
def d_check_history : TSD := (dIfS (dNotB (dBool (dCall sp_is_history 1 (dCons (dVar 0) dNil)))) (dRaise (.ref a_InvalidHistory)) dNext)

def sp_has : SpD := fun ds W Q _ => ∃ (t : Nt) (l : List Nat), ds = [ntD t, .str (mkS l)] ∧ Q (.bl (hasN t l)) W
def d_has : TSD := (dSeq (dIfS (dBool (dOp dEq (dOp dIx (dVar 0) (dC (.int 0))) (dC (.str "value")))) (dRet (dOp dEq (dOp dIx (dVar 0) (dC (.int 1))) (dVar 1))) dNext)
  (dRet (dAnd (dOr (dOp dIsA (dOp dIx (dVar 0) (dC (.int 1))) (dC .non)) (dOp dLe (dOp dIx (dVar 0) (dC (.int 1))) (dVar 1))) (dOr (dOp dIsA (dOp dIx (dVar 0) (dC (.int 2))) (dC .non)) (dOp dLt (dVar 1) (dOp dIx (dVar 0) (dC (.int 2))))))))

def sp_tells : SpD := fun ds W Q _ => ∃ (m : Nat) (es : List Rw) (t : Nt), ds = [rowsD es, ntD t] ∧ m ≤ 60 ∧ EsOk m es ∧ NtOk t ∧ Q (.bl (tellsB es t)) W
def d_tells : TSD := (dSeq (dAsg (dCB dTupC (dCons (dFresh (dLc (iTupD (dVar 0)) (gdName 3) (dBool (dCall sp_has 2 (dCons (dVar 1) (dCons (dOp dIx (dVar 3) (dC (.int 0))) dNil)))) (dVar 3) [3])) dNil)) (gdName 2))
  (dSeq (dIfS (dBool (dOp dEq (dOp dIx (dVar 1) (dC (.int 0))) (dC (.str "entries")))) (dRet (dOp dEq (dVar 2) (dOp dIx (dVar 1) (dC (.int 3))))) dNext)
  (dRet (dOp dEq (dVar 2) (dIf (dBool (dOp dIsA (dOp dIx (dVar 1) (dC (.int 2))) (dC .non))) (dTup dNil) (dTup (dCons (dSl dCut (dVar 1) (dPart (dC (.int 1))) dNoP) dNil)))))))

def sp_is_given : SpD := fun ds W Q Qx => ∃ e v, ds = [e, v] ∧ NC e ∧ NC v ∧ ((isEntD e = false ∧ Qx (.ref a_InvalidEntries) none W) ∨ ∃ es, e = rowsD es ∧ EsOk 60 es ∧ ((isNoteD v = false ∧ Q (.bl false) W) ∨ ∃ t, v = ntD t ∧ NtOk t ∧ Q (.bl (tellsB es t)) W))
def d_is_given : TSD := (dSeq (dDrop (dCall sp_check_entries 1 (dCons (dVar 0) dNil)))
  (dRet (dAnd (dCall sp_is_note 1 (dCons (dVar 1) dNil)) (dCall sp_tells 2 (dCons (dVar 0) (dCons (dVar 1) dNil))))))

def sp_laid_over : SpD := fun ds W Q _ => ∃ (m : Nat) (es ch : List Rw), ds = [.tpf (es.map rowD), rowsD ch] ∧ m ≤ 50 ∧ EsOk m es ∧ ChOk 4 ch ∧ Q (.tpf ((laidE es ch).map rowD)) W
def d_laid_over : TSD := (dSeq (dAsgD 2 (dDictT (dVar 0)))
  (dSeq (dFor (iTupD (dVar 1)) (gdTup 2 (gdCons (gdName 3) (gdCons (gdName 4) gdNil)))
  (dDPutO 2 (dVar 4) (dVar 3)))
  (dFrzD 2 (dRet (dCB dTupF (dCons (dFresh (dLc (iSeq (dFresh (dSortD (dVar 2)))) (gdName 3) (dBool (dOp dNotA (dDGet (dVar 2) (dVar 3)) (dC .non))) (dTup (dCons (dVar 3) (dCons (dDGet (dVar 2) (dVar 3)) dNil))) [3])) dNil))))))

def sp_pasts_of : SpD := fun ds W Q _ => ∃ (es : List Rw) (cs : List Cm), ds = [.tpf (es.map rowD), .tup (cs.map cmD)] ∧ EsOk 10 es ∧ CsOk cs ∧ Q (.lst ((List.range (cs.length + 1)).map fun k => .tpf ((past es cs k).map rowD))) W
def d_pasts_of : TSD := (dSeq (dAsgO 2 (dLstN (dCons (dVar 0) dNil)))
  (dSeq (dFor (iTupD (dVar 1)) (gdName 3)
  (dApp 2 (dCall sp_laid_over 2 (dCons (dIxO 2 (dNeg (dC (.int 1)))) (dCons (dOp dIx (dVar 3) (dC (.int 3))) dNil)))))
  (dFrz 2 (dRet (dVar 2)))))

def sp_past_of : SpD := fun ds W Q Qx => ∃ e h d, ds = [e, h, d] ∧ NC h ∧ NC d ∧ ((NC e ∧ isEntD e = false ∧ Qx (.ref a_InvalidEntries) none W) ∨ ∃ es, e = .tpf (es.map rowD) ∧ EsOk 10 es ∧ ((isHistD h = false ∧ Qx (.ref a_InvalidHistory) none W) ∨ ∃ cs, h = .tup (cs.map cmD) ∧ CsOk cs ∧ ((inR cs.length d = false ∧ Qx (.ref a_InvalidNumber) none W) ∨ ∃ k : Nat, k ≤ cs.length ∧ d = .int k ∧ Q (rowsD (past es cs k)) W)))
def d_past_of : TSD := (dSeq (dDrop (dCall sp_check_entries 1 (dCons (dWk (dVar 0)) dNil)))
  (dSeq (dDrop (dCall sp_check_history 1 (dCons (dVar 1) dNil)))
  (dSeq (dIfS (dNotB (dBool (dCall sp_is_between 3 (dCons (dC (.int 0)) (dCons (dVar 2) (dCons (dCB dLen (dCons (dVar 1) dNil)) dNil)))))) (dRaise (.ref a_InvalidNumber)) dNext)
  (dRet (dWk (dOp dIx (dCall sp_pasts_of 2 (dCons (dVar 0) (dCons (dVar 1) dNil))) (dVar 2)))))))

def sp_changed : SpD := fun ds W Q _ => ∃ (cs : List Cm) (k : Nat) (c : Cm), ds = [.tup (cs.map cmD), .int ((k : Int) + 1)] ∧ cs[k]? = some c ∧ CsOk cs ∧ Q (txsD (c.ch.map (·.1))) W
def d_changed : TSD := (dRet (dFresh (dLc (iTupD (dOp dIx (dOp dIx (dVar 0) (dOp dSub (dVar 1) (dC (.int 1)))) (dC (.int 3)))) (gdTup 2 (gdCons (gdName 2) (gdCons (gdName 3) gdNil))) dYes (dVar 2) [2, 3])))

def sp_share : SpD := fun ds W Q _ => ∃ (cs : List Cm) (i j : Nat) (a b : Cm), ds = [.tup (cs.map cmD), .int ((i : Int) + 1), .int ((j : Int) + 1)] ∧ cs[i]? = some a ∧ cs[j]? = some b ∧ CsOk cs ∧ Q (.bl (ovB a b)) W
def d_share : TSD := (dRet (dCB dAny (dCons (dFresh (dLc (iSeq (dCall sp_changed 2 (dCons (dVar 0) (dCons (dVar 1) dNil)))) (gdName 3) dYes (dOp (dIn false) (dVar 3) (dCall sp_changed 2 (dCons (dVar 0) (dCons (dVar 2) dNil)))) [3])) dNil)))

def sp_is_snapshot_history : SpD := fun ds W Q Qx => ∃ e h, ds = [e, h] ∧ NC h ∧ ((NC e ∧ isEntD e = false ∧ Qx (.ref a_InvalidEntries) none W) ∨ ∃ es, e = .tpf (es.map rowD) ∧ EsOk 10 es ∧ ((isHistD h = false ∧ Qx (.ref a_InvalidHistory) none W) ∨ ∃ cs, h = .tup (cs.map cmD) ∧ CsOk cs ∧ Q (.bl (snapB es cs)) W))
def d_is_snapshot_history : TSD := (dSeq (dDrop (dCall sp_check_entries 1 (dCons (dWk (dVar 0)) dNil)))
  (dSeq (dDrop (dCall sp_check_history 1 (dCons (dVar 1) dNil)))
  (dSeq (dAsg (dCall sp_pasts_of 2 (dCons (dVar 0) (dCons (dVar 1) dNil))) (gdName 2))
  (dSeq (dFor (iRngD2 (dCons (dC (.int 1)) (dCons (dOp dAdd (dCB dLen (dCons (dVar 1) dNil)) (dC (.int 1))) dNil))) (gdName 3)
  (dSeq (dAsg (dOp dIx (dVar 1) (dOp dSub (dVar 3) (dC (.int 1)))) (gdTup 4 (gdCons (gdName 4) (gdCons (gdName 5) (gdCons (gdName 6) (gdCons (gdName 7) gdNil))))))
  (dSeq (dIfS (dNotB (dBool (dCB dAll (dCons (dFresh (dLc (iTupD (dVar 6)) (gdName 9) dYes (dCall sp_tells 2 (dCons (dWk (dOp dIx (dVar 2) (dVar 4))) (dCons (dVar 9) dNil))) [9])) dNil)))) (dRet (dC (.bl false))) dNext)
  (dIfS (dBool (dCB dAny (dCons (dFresh (dLc (iRngD2 (dCons (dOp dAdd (dVar 4) (dC (.int 1))) (dCons (dVar 3) dNil))) (gdName 8) dYes (dCall sp_share 3 (dCons (dVar 1) (dCons (dVar 8) (dCons (dVar 3) dNil)))) [8])) dNil))) (dRet (dC (.bl false))) dNext))))
  (dRet (dC (.bl true)))))))

def sp_law_well : SpD := fun ds W Q _ => ∃ z : Int, ds = [.int z] ∧ z.natAbs < bigB ∧ ∀ W' p, WellOk W' p 1000000 → Q (.ref p) W'
def d_law_well : TSD := (dSeq (dAsg (dCB dIntC (dCons (dVar 0) dNil)) (gdName 0))
  (dRetW (dLstN (dCons (dIf (dBool (dOp dGe (dVar 0) (dOp dPow (dC (.int 10)) (dC (.int 18))))) (dOp dSub (dVar 0) (dOp dPow (dC (.int 10)) (dC (.int 18)))) (dC (.int 0))) (dCons (dOp dAdd (dOp dMod (dVar 0) (dC (.int 1999999973))) (dC (.int 17))) (dCons (dC (.int 0)) dNil))))))

def sp_law_dip : SpD := fun ds W Q _ => ∃ (p : Addr) (many : Int) (n : Nat), ds = [.ref p, .int many] ∧ WellOk W p (n + 1) ∧ 0 < many ∧ many ≤ 1000000000 ∧ ∀ r W', 0 ≤ r → r < many → WellOk W' p n → Q (.int r) W'
def d_law_dip : TSD := (dSeq (dIfS (dBool (dOp dGt (dIxW (dVar 0) (dC (.int 0))) (dC (.int 0)))) (dSeq (dAsg (dOp dMod (dCB dIntC (dCons (dIxW (dVar 0) (dC (.int 0))) dNil)) (dVar 1)) (gdName 2))
  (dSeq (dSetW (dOp dFdv (dCB dIntC (dCons (dIxW (dVar 0) (dC (.int 0))) dNil)) (dVar 1)) (dVar 0) (dC (.int 0)))
  (dRet (dVar 2)))) dNext)
  (dSeq (dSetW (dOp dAdd (dIxW (dVar 0) (dC (.int 2))) (dC (.int 1))) (dVar 0) (dC (.int 2)))
  (dSeq (dSetW (dOp dMod (dCB dIntC (dCons (dOp dAdd (dOp dAdd (dOp dMulA (dIxW (dVar 0) (dC (.int 1))) (dC (.int 44497))) (dOp dMulA (dOp dMulA (dIxW (dVar 0) (dC (.int 2))) (dIxW (dVar 0) (dC (.int 2)))) (dC (.int 7001)))) (dC (.int 13))) dNil)) (dC (.int 2147483629))) (dVar 0) (dC (.int 1)))
  (dRet (dOp dMod (dOp dFdv (dOp dMod (dCB dIntC (dCons (dOp dMulA (dIxW (dVar 0) (dC (.int 1))) (dIxW (dVar 0) (dC (.int 1)))) dNil)) (dC (.int 2147483587))) (dC (.int 64))) (dVar 1))))))

/-- None, truths, ints, texts and what is made of them, n deep -/
def plainN : Nat → D → Prop
  | _, .v .non => True
  | _, .v (.bl _) => True
  | _, .v (.int _) => True
  | _, .v (.str _) => True
  | n + 1, .tup ds => ds.length ≤ 100000 ∧ ∀ d ∈ ds, plainN n d
  | n + 1, .lst ds => ds.length ≤ 100000 ∧ ∀ d ∈ ds, plainN n d
  | _, _ => False
def spn_law_same (n : Nat) : SpD := fun ds W Q _ => ∃ d, ds = [d, d] ∧ plainN n d ∧ Q (.bl true) W
abbrev sp_law_same : SpD := spn_law_same 4
def d_law_same (sp0 : SpD) : TSD := (dSeq (dIfS (dBool (dOp dIsA (dVar 1) (dC .non))) (dRet (dOp dIsA (dVar 0) (dC .non))) dNext)
  (dSeq (dIfS (dBool (dCB dIsi (dCons (dVar 1) (dCons (dC (.ty "bool")) dNil)))) (dRet (dAnd (dCB dIsi (dCons (dVar 0) (dCons (dC (.ty "bool")) dNil))) (dOp dEq (dVar 0) (dVar 1)))) dNext)
  (dSeq (dIfS (dBool (dCB dIsi (dCons (dVar 1) (dCons (dC (.ty "int")) dNil)))) (dRet (dAnd (dCB dIsi (dCons (dVar 0) (dCons (dC (.ty "int")) dNil))) (dAnd (dNot (dCB dIsi (dCons (dVar 0) (dCons (dC (.ty "bool")) dNil)))) (dOp dEq (dVar 0) (dVar 1))))) dNext)
  (dSeq (dIfS (dBool (dCB dIsi (dCons (dVar 1) (dCons (dC (.ty "str")) dNil)))) (dRet (dAnd (dCB dIsi (dCons (dVar 0) (dCons (dC (.ty "str")) dNil))) (dOp dEq (dVar 0) (dVar 1)))) dNext)
  (dSeq (dIfS (dOrB (dBool (dOp dNe (dCB dIsi (dCons (dVar 1) (dCons (dC (.ty "list")) dNil))) (dCB dIsi (dCons (dVar 0) (dCons (dC (.ty "list")) dNil))))) (dBool (dOp dNe (dCB dIsi (dCons (dVar 1) (dCons (dC (.ty "tuple")) dNil))) (dCB dIsi (dCons (dVar 0) (dCons (dC (.ty "tuple")) dNil)))))) (dRet (dC (.bl false))) dNext)
  (dRet (dAnd (dOp dEq (dCB dLen (dCons (dVar 0) dNil)) (dCB dLen (dCons (dVar 1) dNil))) (dCB dAll (dCons (dFresh (dLc (iRngD1 (dCons (dCB dLen (dCons (dVar 1) dNil)) dNil)) (gdName 2) dYes (dCall sp0 2 (dCons (dOp dIx (dVar 0) (dVar 2)) (dCons (dOp dIx (dVar 1) (dVar 2)) dNil))) [2])) dNil)))))))))

def sp_law_word : SpD := fun ds W Q _ => ∃ (p : Addr) (m n : Nat), ds = [.ref p, .int m] ∧ m ≤ 3 ∧ WellOk W p (n + 4) ∧ ∀ l W', Pr l → l.length ≤ m → WellOk W' p n → Q (.str (mkS l)) W'
def d_law_word : TSD := (dSeq (dAsg (dC (.str " !\"#$&'()*+,-./0123456789:;<=>?@ABCDEFGHIJKLMNOPQRSTUVWXYZ[\\]^_`abcdefghijklmnopqrstuvwxyz{|}~")) (gdName 2))
  (dRet (dM dJoin (dC (.str "")) (dCons (dFresh (dLc (iRngD1 (dCons (dCall sp_law_dip 2 (dCons (dVar 0) (dCons (dOp dAdd (dVar 1) (dC (.int 1))) dNil))) dNil)) (gdName 3) dYes (dOp dIx (dVar 2) (dCall sp_law_dip 2 (dCons (dVar 0) (dCons (dC (.int 94)) dNil)))) [3])) dNil))))

def sp_law_pool : SpD := fun ds W Q _ => ∃ (p : Addr) (m n : Nat), ds = [.ref p, .int m] ∧ 1 ≤ m ∧ m ≤ 6 ∧ WellOk W p (n + 100) ∧ ∀ ls W', PoolOk ls → WellOk W' p n → Q (txsD ls) W'
def d_law_pool : TSD := (dSeq (dAsgO 2 (dLstN (dCons (dCall sp_law_word 2 (dCons (dVar 0) (dCons (dC (.int 2)) dNil))) dNil)))
  (dSeq (dFor (iRngD1 (dCons (dOp dSub (dVar 1) (dC (.int 1))) dNil)) (gdName 3)
  (dSeq (dAsg (dOp dIx (dLst (dCons (dCall sp_law_word 2 (dCons (dVar 0) (dCons (dC (.int 3)) dNil))) (dCons (dOp dAdd (dIxO 2 (dNeg (dC (.int 1)))) (dCall sp_law_word 2 (dCons (dVar 0) (dCons (dC (.int 1)) dNil)))) (dCons (dOp dAdd (dCall sp_law_word 2 (dCons (dVar 0) (dCons (dC (.int 1)) dNil))) (dIxO 2 (dC (.int 0)))) dNil)))) (dCall sp_law_dip 2 (dCons (dVar 0) (dCons (dC (.int 3)) dNil)))) (gdName 4))
  (dIfS (dBool (dInO true (dVar 4) 2)) (dApp 2 (dVar 4)) dNext)))
  (dFrz 2 (dRet (dVar 2)))))

def sp_law_has : SpD := fun ds W Q _ => ∃ (t : Nt) (l : List Nat), ds = [ntD t, .str (mkS l)] ∧ Q (.bl (hasN t l)) W
def d_law_has : TSD := (dSeq (dIfS (dBool (dOp dEq (dOp dIx (dVar 0) (dC (.int 0))) (dC (.str "value")))) (dRet (dOp dEq (dVar 1) (dOp dIx (dVar 0) (dC (.int 1))))) dNext)
  (dRet (dAnd (dNot (dAnd (dOp dNotA (dOp dIx (dVar 0) (dC (.int 1))) (dC .non)) (dOp dLt (dVar 1) (dOp dIx (dVar 0) (dC (.int 1)))))) (dNot (dAnd (dOp dNotA (dOp dIx (dVar 0) (dC (.int 2))) (dC .non)) (dOp dGe (dVar 1) (dOp dIx (dVar 0) (dC (.int 2)))))))))

def sp_law_given : SpD := fun ds W Q _ => ∃ (m : Nat) (rs es : List Rw) (t : Nt), ds = [.dk (rs.map kvD), ntD t] ∧ m ≤ 60 ∧ RsOk m rs ∧ EsOk m es ∧ lk es = lk rs ∧ NtOk t ∧ Q (ntD (gvE es t)) W
def d_law_given : TSD := (dSeq (dIfS (dBool (dOp dEq (dOp dIx (dVar 1) (dC (.int 0))) (dC (.str "value")))) (dRet (dTup (dCons (dC (.str "value")) (dCons (dOp dIx (dVar 1) (dC (.int 1))) (dCons (dDGet1 (dVar 0) (dOp dIx (dVar 1) (dC (.int 1)))) dNil))))) dNext)
  (dSeq (dAsg (dCB dTupC (dCons (dFresh (dLc (iSeq (dFresh (dSortD (dVar 0)))) (gdName 3) (dBool (dCall sp_law_has 2 (dCons (dVar 1) (dCons (dVar 3) dNil)))) (dTup (dCons (dVar 3) (dCons (dDGet (dVar 0) (dVar 3)) dNil))) [3])) dNil)) (gdName 2))
  (dRet (dTup (dCons (dC (.str "entries")) (dCons (dOp dIx (dVar 1) (dC (.int 1))) (dCons (dOp dIx (dVar 1) (dC (.int 2))) (dCons (dVar 2) dNil))))))))

def sp_law_note : SpD := fun ds W Q _ => ∃ (p : Addr) (ls : List (List Nat)) (m : Nat) (rs es : List Rw) (n : Nat), ds = [.ref p, txsD ls, .dk (rs.map kvD)] ∧ PoolOk ls ∧ m ≤ 60 ∧ RsOk m rs ∧ EsOk m es ∧ lk es = lk rs ∧ WellOk W p (n + 10) ∧ ∀ t W', NtOk t → WellOk W' p n → Q (ntD (gvE es t)) W'
def d_law_note : TSD := (dSeq (dAsg (dOp dAdd (dOp dAdd (dLst (dCons (dC .non) (dCons (dC .non) dNil))) (dVar 1)) (dLst (dCons (dCall sp_law_word 2 (dCons (dVar 0) (dCons (dC (.int 2)) dNil))) dNil))) (gdName 3))
  (dSeq (dPar 4 5 (dCons (dOp dIx (dVar 3) (dCall sp_law_dip 2 (dCons (dVar 0) (dCons (dCB dLen (dCons (dVar 3) dNil)) dNil)))) (dCons (dOp dIx (dVar 3) (dCall sp_law_dip 2 (dCons (dVar 0) (dCons (dCB dLen (dCons (dVar 3) dNil)) dNil)))) dNil)))
  (dSeq (dIfS (dBool (dOp dEq (dCall sp_law_dip 2 (dCons (dVar 0) (dCons (dC (.int 3)) dNil))) (dC (.int 0)))) (dRet (dCall sp_law_given 2 (dCons (dVar 2) (dCons (dTup (dCons (dC (.str "entries")) (dCons (dVar 4) (dCons (dVar 5) (dCons (dTup dNil) dNil))))) dNil)))) dNext)
  (dRet (dCall sp_law_given 2 (dCons (dVar 2) (dCons (dTup (dCons (dC (.str "value")) (dCons (dOp dIx (dVar 3) (dOp dAdd (dC (.int 2)) (dCall sp_law_dip 2 (dCons (dVar 0) (dCons (dOp dSub (dCB dLen (dCons (dVar 3) dNil)) (dC (.int 2))) dNil))))) (dCons (dC .non) dNil)))) dNil)))))))

def sp_law_laid : SpD := fun ds W Q _ => ∃ (m : Nat) (rs ch : List Rw), ds = [.dk (rs.map kvD), rowsD ch] ∧ m ≤ 1000 ∧ RsOk m rs ∧ ChOk 10 ch ∧ ∀ rs', RsOk (m + ch.length) rs' → lk rs' = ch.foldl upF (lk rs) → Q (.dk (rs'.map kvD)) W
def d_law_laid : TSD := (dSeq (dAsgD 0 (dCopy (dVar 0)))
  (dSeq (dFor (iTupD (dVar 1)) (gdTup 2 (gdCons (gdName 2) (gdCons (gdName 3) gdNil)))
  (dIfS (dBool (dOp dIsA (dVar 3) (dC .non))) (dDrop (dDPopO 0 (dVar 2) (dC .non))) (dDPutO 0 (dVar 3) (dVar 2))))
  (dFrzD 0 (dRet (dVar 0)))))

def sp_law_changes : SpD := fun ds W Q _ => ∃ (p : Addr) (ls : List (List Nat)) (m n : Nat), ds = [.ref p, txsD ls, .int m] ∧ ls.length ≤ 10 ∧ (∀ l ∈ ls, TxB l) ∧ m ≤ 4 ∧ WellOk W p (n + 40) ∧ ∀ ch W', ChOk m ch → WellOk W' p n → Q (rowsD ch) W'
def d_law_changes : TSD := (dSeq (dAsgD 3 dEmp)
  (dSeq (dFor (iRngD1 (dCons (dCall sp_law_dip 2 (dCons (dVar 0) (dCons (dOp dAdd (dVar 2) (dC (.int 1))) dNil))) dNil)) (gdName 4)
  (dSeq (dAsg (dCall sp_law_word 2 (dCons (dVar 0) (dCons (dC (.int 3)) dNil))) (gdName 5))
  (dIfS (dBool (dOp dNe (dVar 1) (dLst dNil))) (dDPutO 3 (dOp dIx (dLst (dCons (dVar 5) (dCons (dC .non) (dCons (dVar 5) dNil)))) (dCall sp_law_dip 2 (dCons (dVar 0) (dCons (dC (.int 3)) dNil)))) (dOp dIx (dVar 1) (dCall sp_law_dip 2 (dCons (dVar 0) (dCons (dCB dLen (dCons (dVar 1) dNil)) dNil))))) dNext)))
  (dFrzD 3 (dRet (dCB dTupC (dCons (dFresh (dLc (iSeq (dFresh (dSortD (dVar 3)))) (gdName 6) dYes (dTup (dCons (dVar 6) (dCons (dDGet (dVar 3) (dVar 6)) dNil))) [6])) dNil))))))

def sp_law_barred : SpD := fun ds W Q _ => ∃ cs : List Cm, ds = [.tup (cs.map cmD)] ∧ cs.length ≤ 10 ∧ (∀ c ∈ cs, ChOk 4 c.ch) ∧ Q (txsD (cs.flatMap fun c => c.ch.map (·.1))) W
def d_law_barred : TSD := (dSeq (dAsg (dLst dNil) (gdName 1))
  (dSeq (dFor (iTupD (dVar 0)) (gdName 2)
  (dAsg (dOp dAdd (dVar 1) (dFresh (dLc (iTupD (dOp dIx (dVar 2) (dC (.int 3)))) (gdName 3) dYes (dOp dIx (dVar 3) (dC (.int 0))) [3]))) (gdName 1)))
  (dRet (dVar 1))))

def sp_law_history : SpD := fun ds W Q _ => ∃ (p : Addr) (ls : List (List Nat)) (rs es : List Rw) (m n : Nat), ds = [.ref p, txsD ls, .dk (rs.map kvD), .int m, .int 4] ∧ PoolOk ls ∧ RsOk 8 rs ∧ EsOk 8 es ∧ lk es = lk rs ∧ m ≤ 7 ∧ WellOk W p (n + 1000) ∧ ∀ cs W', CsQ 4 cs → cs.length = m → WellOk W' p n → Q (.tup (cs.map cmD)) W'
def d_law_history : TSD := (dSeq (dParO1 5 6 (dLstN (dCons (dVar 2) dNil)) (dTup dNil))
  (dSeq (dFor (iRngD1 (dCons (dVar 3) dNil)) (gdName 7)
  (dSeq (dAsg (dOp dIx (dLst (dCons (dVar 7) (dCons (dCall sp_law_dip 2 (dCons (dVar 0) (dCons (dOp dAdd (dVar 7) (dC (.int 1))) dNil))) (dCons (dC (.int 0)) dNil)))) (dCall sp_law_dip 2 (dCons (dVar 0) (dCons (dC (.int 3)) dNil)))) (gdName 8))
  (dSeq (dAsg (dCall sp_law_barred 1 (dCons (dSl dCut (dVar 6) (dPart (dVar 8)) dNoP) dNil)) (gdName 9))
  (dSeq (dAsg (dCB dTupC (dCons (dFresh (dLc (iRngD1 (dCons (dCall sp_law_dip 2 (dCons (dVar 0) (dCons (dOp dAdd (dVar 4) (dC (.int 1))) dNil))) dNil)) (gdName 12) dYes (dCall sp_law_note 3 (dCons (dVar 0) (dCons (dVar 1) (dCons (dIxO 5 (dVar 8)) dNil)))) [12])) dNil)) (gdName 10))
  (dSeq (dAsg (dCall sp_law_changes 3 (dCons (dVar 0) (dCons (dFresh (dLc (iSeq (dVar 1)) (gdName 13) (dBool (dOp (dIn true) (dVar 13) (dVar 9))) (dVar 13) [13])) (dCons (dVar 4) dNil)))) (gdName 11))
  (dSeq (dAsg (dOp dAdd (dVar 6) (dTup (dCons (dTup (dCons (dVar 8) (dCons (dOp dGt (dCall sp_law_dip 2 (dCons (dVar 0) (dCons (dC (.int 4)) dNil))) (dC (.int 0))) (dCons (dVar 10) (dCons (dVar 11) dNil))))) dNil))) (gdName 6))
  (dApp 5 (dCall sp_law_laid 2 (dCons (dIxO 5 (dNeg (dC (.int 1)))) (dCons (dVar 11) dNil))))))))))
  (dFrz 5 (dRet (dVar 6)))))

def sp_law_rows : SpD := fun ds W Q _ => ∃ (p : Addr) (ls : List (List Nat)) (n : Nat), ds = [.ref p, txsD ls] ∧ PoolOk ls ∧ WellOk W p (n + 40) ∧ ∀ rs W', RsOk 7 rs → WellOk W' p n → Q (.dk (rs.map kvD)) W'
def d_law_rows : TSD := (dSeq (dAsgD 2 dEmp)
  (dSeq (dFor (iSeq (dVar 1)) (gdName 3)
  (dIfS (dBool (dOp dEq (dCall sp_law_dip 2 (dCons (dVar 0) (dCons (dC (.int 2)) dNil))) (dC (.int 0)))) (dDPutO 2 (dCall sp_law_word 2 (dCons (dVar 0) (dCons (dC (.int 2)) dNil))) (dVar 3)) dNext))
  (dSeq (dIfS (dBool (dOp dEq (dCall sp_law_dip 2 (dCons (dVar 0) (dCons (dC (.int 3)) dNil))) (dC (.int 0)))) (dDPutO 2 (dCall sp_law_word 2 (dCons (dVar 0) (dCons (dC (.int 2)) dNil))) (dCall sp_law_word 2 (dCons (dVar 0) (dCons (dC (.int 2)) dNil)))) dNext)
  (dFrzD 2 (dRet (dVar 2))))))

def sp_law_entries : SpD := fun ds W Q _ => ∃ (m : Nat) (rs es : List Rw), ds = [.dk (rs.map kvD)] ∧ m ≤ 60 ∧ RsOk m rs ∧ EsOk m es ∧ lk es = lk rs ∧ Q (.tpf (es.map rowD)) W
def d_law_entries : TSD := (dRet (dCB dTupF (dCons (dFresh (dLc (iSeq (dFresh (dSortD (dVar 0)))) (gdName 1) dYes (dTup (dCons (dVar 1) (dCons (dDGet (dVar 0) (dVar 1)) dNil))) [1])) dNil)))

def sp_law_told : SpD := fun ds W Q _ => ∃ e h d, ds = [e, h, d] ∧ NC h ∧ NC d ∧ ((NC e ∧ isEntD e = false ∧ Q (.str (Str.ofString "entries")) W) ∨ ∃ es, e = .tpf (es.map rowD) ∧ EsOk 10 es ∧ ((isHistD h = false ∧ Q (.str (Str.ofString "history")) W) ∨ ∃ cs, h = .tup (cs.map cmD) ∧ CsOk cs ∧ ((inR cs.length d = false ∧ Q (.str (Str.ofString "number")) W) ∨ ∃ k : Nat, k ≤ cs.length ∧ d = .int k ∧ Q (rowsD (past es cs k)) W)))
def d_law_told : TSD := (dSeq (dAsg (dC (.str "other")) (gdName 3))
  (dSeq (dTry (dAsg (dCall sp_past_of 3 (dCons (dVar 0) (dCons (dVar 1) (dCons (dVar 2) dNil)))) (gdName 3)) [⟨.ref a_InvalidEntries, [.ref a_InvalidEntries], [.ref a_InvalidHistory, .ref a_InvalidNumber], none, (dAsg (dC (.str "entries")) (gdName 3))⟩, ⟨.ref a_InvalidHistory, [.ref a_InvalidHistory], [.ref a_InvalidEntries, .ref a_InvalidNumber], none, (dAsg (dC (.str "history")) (gdName 3))⟩, ⟨.ref a_InvalidNumber, [.ref a_InvalidNumber], [.ref a_InvalidEntries, .ref a_InvalidHistory], none, (dAsg (dC (.str "number")) (gdName 3))⟩, ⟨.ref a_StoreError, [.ref a_InvalidEntries, .ref a_InvalidHistory, .ref a_InvalidNumber], [], none, (dAsg (dC (.str "other")) (gdName 3))⟩])
  (dRet (dVar 3))))

def sp_law_judged : SpD := fun ds W Q _ => ∃ e v, ds = [e, v] ∧ NC e ∧ NC v ∧ ((isEntD e = false ∧ Q (.str (Str.ofString "entries")) W) ∨ ∃ es, e = rowsD es ∧ EsOk 60 es ∧ ((isNoteD v = false ∧ Q (.bl false) W) ∨ ∃ t, v = ntD t ∧ NtOk t ∧ Q (.bl (tellsB es t)) W))
def d_law_judged : TSD := (dSeq (dAsg (dC (.str "other")) (gdName 2))
  (dSeq (dTry (dAsg (dCall sp_is_given 2 (dCons (dVar 0) (dCons (dVar 1) dNil))) (gdName 2)) [⟨.ref a_InvalidEntries, [.ref a_InvalidEntries], [.ref a_InvalidHistory, .ref a_InvalidNumber], none, (dAsg (dC (.str "entries")) (gdName 2))⟩, ⟨.ref a_StoreError, [.ref a_InvalidEntries, .ref a_InvalidHistory, .ref a_InvalidNumber], [], none, (dAsg (dC (.str "other")) (gdName 2))⟩])
  (dRet (dVar 2))))

def sp_law_odd_entries : SpD := fun ds W Q _ => ∃ (p : Addr) (es : List Rw) (n : Nat), ds = [.ref p, rowsD es] ∧ EsOk 10 es ∧ WellOk W p (n + 1) ∧ ∀ d W', NC d → isEntD d = false → WellOk W' p n → Q d W'
def d_law_odd_entries : TSD := (dSeq (dAsg (dOp dAdd (dVar 1) (dTup (dCons (dTup (dCons (dC (.str "{")) (dCons (dC (.str "}")) dNil))) dNil))) (gdName 2))
  (dSeq (dAsg (dLst (dCons (dCB dListC (dCons (dVar 1) dNil)) (dCons (dOp dAdd (dVar 2) (dSl dCut (dVar 2) dNoP (dPart (dC (.int 1))))) (dCons (dOp dAdd (dVar 2) (dTup (dCons (dTup (dCons (dC (.str "~~~~~")) (dCons (dC .non) dNil))) dNil))) (dCons (dOp dAdd (dVar 2) (dTup (dCons (dC (.str "ab")) dNil))) (dCons (dOp dAdd (dVar 2) (dTup (dCons (dTup (dCons (dC (.str "~~~~~")) (dCons (dC (.str "v")) (dCons (dC (.str "v")) dNil)))) dNil))) dNil)))))) (gdName 3))
  (dSeq (dAsg (dOp dAdd (dVar 3) (dLst (dCons (dC .non) (dCons (dC (.int 0)) (dCons (dC (.str "")) (dCons (dTup (dCons (dTup (dCons (dC (.str "a")) (dCons (dC (.int 1)) dNil))) dNil)) (dCons (dTup (dCons (dTup (dCons (dC (.str "b")) (dCons (dC (.str "v")) dNil))) (dCons (dTup (dCons (dC (.str "a")) (dCons (dC (.str "v")) dNil))) dNil))) (dCons (dTup (dCons (dTup (dCons (dC .non) (dCons (dC (.str "v")) dNil))) dNil)) (dCons (dTup (dCons (dLst (dCons (dC (.str "a")) (dCons (dC (.str "v")) dNil))) dNil)) (dCons (dTup (dCons (dTup (dCons (dC (.str "a\n")) (dCons (dC (.str "v")) dNil))) dNil)) dNil)))))))))) (gdName 3))
  (dRet (dOp dIx (dVar 3) (dCall sp_law_dip 2 (dCons (dVar 0) (dCons (dC (.int 13)) dNil))))))))

def sp_law_odd_history : SpD := fun ds W Q _ => ∃ (p : Addr) (cs : List Cm) (n : Nat), ds = [.ref p, .tup (cs.map cmD)] ∧ CsOk cs ∧ WellOk W p (n + 1) ∧ ∀ d W', NC d → isHistD d = false → WellOk W' p n → Q d W'
def d_law_odd_history : TSD := (dSeq (dAsg (dLst (dCons (dCB dListC (dCons (dVar 1) dNil)) (dCons (dOp dAdd (dVar 1) (dTup (dCons (dC .non) dNil))) (dCons (dOp dAdd (dVar 1) (dTup (dCons (dTup (dCons (dOp dAdd (dCB dLen (dCons (dVar 1) dNil)) (dC (.int 1))) (dCons (dC (.bl true)) (dCons (dTup dNil) (dCons (dTup dNil) dNil))))) dNil))) (dCons (dC .non) (dCons (dC (.int 0)) (dCons (dC (.str "")) (dCons (dTup (dCons (dTup (dCons (dC (.int 0)) (dCons (dC (.bl true)) (dCons (dTup dNil) dNil)))) dNil)) dNil)))))))) (gdName 2))
  (dSeq (dAsg (dOp dAdd (dVar 2) (dLst (dCons (dTup (dCons (dTup (dCons (dC (.int 0)) (dCons (dC (.int 1)) (dCons (dTup dNil) (dCons (dTup dNil) dNil))))) dNil)) (dCons (dTup (dCons (dTup (dCons (dC (.int 0)) (dCons (dC (.bl true)) (dCons (dLst dNil) (dCons (dTup dNil) dNil))))) dNil)) (dCons (dTup (dCons (dTup (dCons (dC (.int 0)) (dCons (dC (.bl true)) (dCons (dTup dNil) (dCons (dTup (dCons (dTup (dCons (dC (.str "a")) (dCons (dC (.int 0)) dNil))) dNil)) dNil))))) dNil)) (dCons (dTup (dCons (dTup (dCons (dNeg (dC (.int 1))) (dCons (dC (.bl true)) (dCons (dTup dNil) (dCons (dTup dNil) dNil))))) dNil)) (dCons (dTup (dCons (dTup (dCons (dC (.int 0)) (dCons (dC (.bl true)) (dCons (dTup (dCons (dC .non) dNil)) (dCons (dTup dNil) dNil))))) dNil)) dNil))))))) (gdName 2))
  (dRet (dOp dIx (dVar 2) (dCall sp_law_dip 2 (dCons (dVar 0) (dCons (dC (.int 12)) dNil)))))))

def sp_law_other_note : SpD := fun ds W Q _ => ∃ (p : Addr) (ls : List (List Nat)) (t : Nt) (n : Nat), ds = [.ref p, ntD t, txsD ls] ∧ PoolOk ls ∧ NtOk t ∧ (∀ lo hi rs, t = .e lo hi rs → rs.length ≤ 50) ∧ WellOk W p (n + 20) ∧ ∀ d W', OthOk d → WellOk W' p n → Q d W'
def d_law_other_note : TSD := (dSeq (dIfS (dBool (dOp dEq (dOp dIx (dVar 1) (dC (.int 0))) (dC (.str "value")))) (dSeq (dAsg (dLst (dCons (dTup (dCons (dC (.str "value")) (dCons (dOp dIx (dVar 1) (dC (.int 1))) (dCons (dC .non) dNil)))) (dCons (dTup (dCons (dC (.str "value")) (dCons (dOp dIx (dVar 1) (dC (.int 1))) (dCons (dC (.str "")) dNil)))) (dCons (dTup (dCons (dC (.str "value")) (dCons (dOp dIx (dVar 1) (dC (.int 1))) (dCons (dCall sp_law_word 2 (dCons (dVar 0) (dCons (dC (.int 2)) dNil))) dNil)))) (dCons (dTup (dCons (dC (.str "value")) (dCons (dOp dIx (dVar 1) (dC (.int 1))) dNil))) dNil))))) (gdName 3))
  (dRet (dOp dIx (dOp dAdd (dVar 3) (dLst (dCons (dTup (dCons (dC (.str "value")) (dCons (dOp dIx (dVar 2) (dC (.int 0))) (dCons (dOp dIx (dVar 1) (dC (.int 2))) dNil)))) (dCons (dCB dListC (dCons (dVar 1) dNil)) (dCons (dTup (dCons (dC (.str "entries")) (dCons (dOp dIx (dVar 1) (dC (.int 1))) (dCons (dC .non) (dCons (dTup dNil) dNil))))) dNil))))) (dCall sp_law_dip 2 (dCons (dVar 0) (dCons (dC (.int 7)) dNil)))))) dNext)
  (dSeq (dAsg (dCall sp_law_dip 2 (dCons (dVar 0) (dCons (dOp dAdd (dCB dLen (dCons (dOp dIx (dVar 1) (dC (.int 3))) dNil)) (dC (.int 1))) dNil))) (gdName 4))
  (dSeq (dAsg (dOp dAdd (dSl dCut (dOp dIx (dVar 1) (dC (.int 3))) dNoP (dPart (dVar 4))) (dSl dCut (dOp dIx (dVar 1) (dC (.int 3))) (dPart (dOp dAdd (dVar 4) (dC (.int 1)))) dNoP)) (gdName 5))
  (dSeq (dAsg (dCB dTupC (dCons (dFresh (dSortT (fun _ => true) (dOp dAdd (dFresh (dLc (iTupD (dOp dIx (dVar 1) (dC (.int 3)))) (gdName 8) (dBool (dOp dNe (dOp dIx (dVar 8) (dC (.int 0))) (dOp dIx (dVar 2) (dC (.int 0))))) (dVar 8) [8])) (dLst (dCons (dTup (dCons (dOp dIx (dVar 2) (dC (.int 0))) (dCons (dCall sp_law_word 2 (dCons (dVar 0) (dCons (dC (.int 1)) dNil))) dNil))) dNil))))) dNil)) (gdName 6))
  (dSeq (dAsg (dLst (dCons (dTup (dCons (dC (.str "entries")) (dCons (dOp dIx (dVar 2) (dC (.int 0))) (dCons (dOp dIx (dVar 1) (dC (.int 2))) (dCons (dOp dIx (dVar 1) (dC (.int 3))) dNil))))) (dCons (dTup (dCons (dC (.str "entries")) (dCons (dOp dIx (dVar 1) (dC (.int 1))) (dCons (dOp dIx (dVar 2) (dNeg (dC (.int 1)))) (dCons (dOp dIx (dVar 1) (dC (.int 3))) dNil))))) dNil))) (gdName 7))
  (dRet (dOp dIx (dOp dAdd (dVar 7) (dLst (dCons (dTup (dCons (dC (.str "entries")) (dCons (dOp dIx (dVar 1) (dC (.int 1))) (dCons (dOp dIx (dVar 1) (dC (.int 2))) (dCons (dVar 5) dNil))))) (dCons (dTup (dCons (dC (.str "entries")) (dCons (dOp dIx (dVar 1) (dC (.int 1))) (dCons (dOp dIx (dVar 1) (dC (.int 2))) (dCons (dVar 6) dNil))))) (dCons (dSl dCut (dVar 1) dNoP (dPart (dC (.int 3)))) (dCons (dCB dListC (dCons (dVar 1) dNil)) dNil)))))) (dCall sp_law_dip 2 (dCons (dVar 0) (dCons (dC (.int 6)) dNil))))))))))

def sp_law_notes_right : SpD := fun ds W Q _ => ∃ (p : Addr) (ls : List (List Nat)) (rs es : List Rw) (n : Nat), ds = [.ref p, .dk (rs.map kvD), txsD ls] ∧ PoolOk ls ∧ RsOk 8 rs ∧ EsOk 8 es ∧ lk es = lk rs ∧ WellOk W p (n + 300) ∧ ∀ W', WellOk W' p n → Q (.bl true) W'
def d_law_notes_right : TSD := (dSeq (dAsg (dCall sp_law_entries 1 (dCons (dVar 1) dNil)) (gdName 3))
  (dSeq (dFor (iRngD1 (dCons (dC (.int 4)) dNil)) (gdName 4)
  (dSeq (dAsg (dCall sp_law_note 3 (dCons (dVar 0) (dCons (dVar 2) (dCons (dVar 1) dNil)))) (gdName 5))
  (dSeq (dIfS (dNotB (dBool (dCall sp_law_same 2 (dCons (dLst (dCons (dCall sp_law_judged 2 (dCons (dWk (dVar 3)) (dCons (dVar 5) dNil))) (dCons (dCallK sp_is_given 2 2 [0, 1] (dCons (dWk (dVar 3)) (dCons (dVar 5) dNil))) dNil))) (dCons (dLst (dCons (dC (.bl true)) (dCons (dC (.bl true)) dNil))) dNil))))) (dRet (dC (.bl false))) dNext)
  (dSeq (dAsg (dCall sp_law_other_note 3 (dCons (dVar 0) (dCons (dVar 5) (dCons (dVar 2) dNil)))) (gdName 6))
  (dSeq (dAsg (dAnd (dCB dIsi (dCons (dVar 6) (dCons (dC (.ty "tuple")) dNil))) (dAnd (dOp dEq (dCB dLen (dCons (dVar 6) dNil)) (dOp dAdd (dC (.int 3)) (dCB dIntC (dCons (dOp dEq (dOp dIx (dVar 6) (dC (.int 0))) (dC (.str "entries"))) dNil)))) (dOp dEq (dCall sp_law_given 2 (dCons (dVar 1) (dCons (dVar 6) dNil))) (dVar 6)))) (gdName 7))
  (dIfS (dNotB (dBool (dCall sp_law_same 2 (dCons (dCall sp_law_judged 2 (dCons (dWk (dVar 3)) (dCons (dVar 6) dNil))) (dCons (dVar 7) dNil))))) (dRet (dC (.bl false))) dNext))))))
  (dSeq (dAsg (dCall sp_law_odd_entries 2 (dCons (dVar 0) (dCons (dWk (dVar 3)) dNil))) (gdName 8))
  (dSeq (dAsg (dLst (dCons (dC .non) (dCons (dC (.int 0)) (dCons (dC (.str "value")) (dCons (dTup dNil) (dCons (dTup (dCons (dC (.str "value")) (dCons (dC (.str "a")) dNil))) (dCons (dTup (dCons (dC (.str "entries")) (dCons (dC .non) (dCons (dC .non) (dCons (dWk (dVar 3)) dNil))))) (dCons (dTup (dCons (dC (.str "entries")) (dCons (dC .non) (dCons (dC .non) (dCons (dLst dNil) dNil))))) dNil)))))))) (gdName 9))
  (dSeq (dAsg (dLst (dCons (dC (.bl false)) (dCons (dC (.bl false)) (dCons (dC (.bl false)) (dCons (dC (.bl false)) (dCons (dC (.bl false)) (dCons (dC (.bl true)) (dCons (dC (.bl false)) dNil)))))))) (gdName 10))
  (dSeq (dIfS (dNotB (dBool (dCall sp_law_same 2 (dCons (dFresh (dLc (iSeq (dVar 9)) (gdName 11) dYes (dCall sp_law_judged 2 (dCons (dWk (dVar 3)) (dCons (dVar 11) dNil))) [11])) (dCons (dVar 10) dNil))))) (dRet (dC (.bl false))) dNext)
  (dRet (dCall sp_law_same 2 (dCons (dFresh (dLc (iSeq (dVar 9)) (gdName 11) dYes (dCall sp_law_judged 2 (dCons (dVar 8) (dCons (dVar 11) dNil))) [11])) (dCons (dOp dMulA (dLst (dCons (dC (.str "entries")) dNil)) (dC (.int 7))) dNil))))))))))

def sp_law_pasts_right : SpD := fun ds W Q _ => ∃ (p : Addr) (rs es : List Rw) (cs : List Cm) (n : Nat), ds = [.ref p, .dk (rs.map kvD), .tup (cs.map cmD)] ∧ RsOk 8 rs ∧ EsOk 8 es ∧ lk es = lk rs ∧ CsOk cs ∧ WellOk W p (n + 10) ∧ ∀ W', WellOk W' p n → Q (.bl true) W'
def d_law_pasts_right : TSD := (dSeq (dAsg (dTup (dCons (dCall sp_law_entries 1 (dCons (dVar 1) dNil)) (dCons (dVar 1) dNil))) (gdTup 2 (gdCons (gdName 3) (gdCons (gdName 4) gdNil))))
  (dSeq (dFor (iRngD1 (dCons (dOp dAdd (dCB dLen (dCons (dVar 2) dNil)) (dC (.int 1))) dNil)) (gdName 5)
  (dSeq (dAsg (dCall sp_law_entries 1 (dCons (dVar 4) dNil)) (gdName 6))
  (dSeq (dIfS (dNotB (dBool (dCall sp_law_same 2 (dCons (dLst (dCons (dCall sp_law_told 3 (dCons (dVar 3) (dCons (dVar 2) (dCons (dVar 5) dNil)))) (dCons (dCallK sp_past_of 3 3 [0, 1, 2] (dCons (dVar 3) (dCons (dVar 2) (dCons (dVar 5) dNil)))) dNil))) (dCons (dLst (dCons (dWk (dVar 6)) (dCons (dWk (dVar 6)) dNil))) dNil))))) (dRet (dC (.bl false))) dNext)
  (dIfS (dBool (dOp dLt (dVar 5) (dCB dLen (dCons (dVar 2) dNil)))) (dAsg (dCall sp_law_laid 2 (dCons (dVar 4) (dCons (dOp dIx (dOp dIx (dVar 2) (dVar 5)) (dC (.int 3))) dNil))) (gdName 4)) dNext))))
  (dSeq (dAsg (dLst (dCons (dNeg (dC (.int 1))) (dCons (dOp dAdd (dCB dLen (dCons (dVar 2) dNil)) (dC (.int 1))) (dCons (dOp dAdd (dCB dLen (dCons (dVar 2) dNil)) (dC (.int 2))) (dCons (dOp dPow (dC (.int 10)) (dC (.int 30))) (dCons (dNeg (dOp dPow (dC (.int 10)) (dC (.int 30)))) (dCons (dC .non) (dCons (dC (.str "0")) (dCons (dC (.bl true)) (dCons (dC (.bl false)) (dCons (dTup (dCons (dC (.int 0)) dNil)) (dCons (dC (.str "")) (dCons (dLst (dCons (dC (.int 0)) dNil)) dNil))))))))))))) (gdName 7))
  (dSeq (dIfS (dNotB (dBool (dCall sp_law_same 2 (dCons (dFresh (dLc (iSeq (dVar 7)) (gdName 12) dYes (dCall sp_law_told 3 (dCons (dVar 3) (dCons (dVar 2) (dCons (dVar 12) dNil)))) [12])) (dCons (dOp dMulA (dLst (dCons (dC (.str "number")) dNil)) (dC (.int 12))) dNil))))) (dRet (dC (.bl false))) dNext)
  (dSeq (dAsg (dTup (dCons (dCall sp_law_odd_entries 2 (dCons (dVar 0) (dCons (dWk (dVar 3)) dNil))) (dCons (dCall sp_law_odd_history 2 (dCons (dVar 0) (dCons (dVar 2) dNil))) dNil))) (gdTup 2 (gdCons (gdName 8) (gdCons (gdName 9) gdNil))))
  (dSeq (dPar 10 11 (dCons (dCall sp_law_dip 2 (dCons (dVar 0) (dCons (dOp dAdd (dCB dLen (dCons (dVar 2) dNil)) (dC (.int 1))) dNil))) (dCons (dOp dIx (dVar 7) (dCall sp_law_dip 2 (dCons (dVar 0) (dCons (dC (.int 12)) dNil)))) dNil)))
  (dSeq (dIfS (dNotB (dBool (dCall sp_law_same 2 (dCons (dLst (dCons (dCall sp_law_told 3 (dCons (dVar 8) (dCons (dVar 2) (dCons (dVar 10) dNil)))) (dCons (dCall sp_law_told 3 (dCons (dVar 8) (dCons (dVar 9) (dCons (dVar 10) dNil)))) dNil))) (dCons (dLst (dCons (dC (.str "entries")) (dCons (dC (.str "entries")) dNil))) dNil))))) (dRet (dC (.bl false))) dNext)
  (dSeq (dIfS (dNotB (dBool (dCall sp_law_same 2 (dCons (dLst (dCons (dCall sp_law_told 3 (dCons (dVar 8) (dCons (dVar 9) (dCons (dVar 11) dNil)))) (dCons (dCall sp_law_told 3 (dCons (dVar 8) (dCons (dVar 2) (dCons (dVar 11) dNil)))) dNil))) (dCons (dLst (dCons (dC (.str "entries")) (dCons (dC (.str "entries")) dNil))) dNil))))) (dRet (dC (.bl false))) dNext)
  (dRet (dCall sp_law_same 2 (dCons (dFresh (dLc (iSeq (dLst (dCons (dVar 10) (dCons (dVar 11) (dCons (dC (.int 0)) dNil))))) (gdName 12) dYes (dCall sp_law_told 3 (dCons (dVar 3) (dCons (dVar 9) (dCons (dVar 12) dNil)))) [12])) (dCons (dOp dMulA (dLst (dCons (dC (.str "history")) dNil)) (dC (.int 3))) dNil))))))))))))

def sp_law_is_snapshots : SpD := fun ds W Q _ => ∃ (rs es : List Rw) (cs : List Cm), ds = [.dk (rs.map kvD), .tup (cs.map cmD)] ∧ RsOk 8 rs ∧ EsOk 8 es ∧ lk es = lk rs ∧ CsOk cs ∧ Q (.bl (snapB es cs)) W
def d_law_is_snapshots : TSD := (dSeq (dAsgO 2 (dLstN (dCons (dVar 0) dNil)))
  (dSeq (dFor (iTupD (dVar 1)) (gdTup 4 (gdCons (gdName 3) (gdCons (gdName 4) (gdCons (gdName 5) (gdCons (gdName 6) gdNil)))))
  (dSeq (dIfS (dBool (dOp dNe (dFresh (dLc (iTupD (dVar 5)) (gdName 8) (dBool (dOp dNe (dCall sp_law_given 2 (dCons (dIxO 2 (dVar 3)) (dCons (dVar 8) dNil))) (dVar 8))) (dVar 8) [8])) (dLst dNil))) (dRet (dC (.bl false))) dNext)
  (dSeq (dAsg (dCall sp_law_barred 1 (dCons (dSl dCut (dVar 1) (dPart (dVar 3)) (dPart (dOp dSub (dLenO 2) (dC (.int 1))))) dNil)) (gdName 7))
  (dSeq (dIfS (dBool (dOp dNe (dFresh (dLc (iTupD (dVar 6)) (gdTup 2 (gdCons (gdName 9) (gdCons (gdName 10) gdNil))) (dBool (dOp (dIn false) (dVar 9) (dVar 7))) (dVar 9) [9, 10])) (dLst dNil))) (dRet (dC (.bl false))) dNext)
  (dApp 2 (dCall sp_law_laid 2 (dCons (dIxO 2 (dNeg (dC (.int 1)))) (dCons (dVar 6) dNil))))))))
  (dFrz 2 (dRet (dC (.bl true))))))

def sp_law_exchanged : SpD := fun ds W Q _ => ∃ (p : Addr) (ls : List (List Nat)) (cs : List Cm) (q n : Nat), ds = [.ref p, txsD ls, .tup (cs.map cmD)] ∧ PoolOk ls ∧ CsQ q cs ∧ q ≤ 8 ∧ cs ≠ [] ∧ WellOk W p (n + 100) ∧ ∀ cs' W', CsQ (q + 1) cs' → cs' ≠ [] → WellOk W' p n → Q (.tup (cs'.map cmD)) W'
def d_law_exchanged : TSD := (dSeq (dAsg (dCall sp_law_dip 2 (dCons (dVar 0) (dCons (dCB dLen (dCons (dVar 2) dNil)) dNil))) (gdName 3))
  (dSeq (dAsg (dOp dIx (dVar 2) (dVar 3)) (gdTup 4 (gdCons (gdName 4) (gdCons (gdName 5) (gdCons (gdName 6) (gdCons (gdName 7) gdNil))))))
  (dSeq (dAsg (dTup (dCons (dC (.str "value")) (dCons (dOp dIx (dVar 1) (dCall sp_law_dip 2 (dCons (dVar 0) (dCons (dCB dLen (dCons (dVar 1) dNil)) dNil)))) (dCons (dOp dIx (dLst (dCons (dC .non) (dCons (dC (.str "")) (dCons (dCall sp_law_word 2 (dCons (dVar 0) (dCons (dC (.int 2)) dNil))) dNil)))) (dCall sp_law_dip 2 (dCons (dVar 0) (dCons (dC (.int 3)) dNil)))) dNil)))) (gdName 8))
  (dSeq (dAsg (dCall sp_law_dip 2 (dCons (dVar 0) (dCons (dOp dAdd (dCB dLen (dCons (dVar 6) dNil)) (dC (.int 1))) dNil))) (gdName 9))
  (dSeq (dAsgO 10 (dLstN (dCons (dTup (dCons (dVar 4) (dCons (dVar 5) (dCons (dOp dAdd (dOp dAdd (dSl dCut (dVar 6) dNoP (dPart (dVar 9))) (dTup (dCons (dVar 8) dNil))) (dSl dCut (dVar 6) (dPart (dOp dAdd (dVar 9) (dC (.int 1)))) dNoP)) (dCons (dVar 7) dNil))))) (dCons (dTup (dCons (dCall sp_law_dip 2 (dCons (dVar 0) (dCons (dOp dAdd (dVar 3) (dC (.int 1))) dNil))) (dCons (dVar 5) (dCons (dVar 6) (dCons (dVar 7) dNil))))) dNil))))
  (dSeq (dAsgO 10 (dCatO 10 (dLst (dCons (dTup (dCons (dVar 4) (dCons (dVar 5) (dCons (dVar 6) (dCons (dCall sp_law_changes 3 (dCons (dVar 0) (dCons (dVar 1) (dCons (dC (.int 2)) dNil)))) dNil))))) (dCons (dTup (dCons (dVar 4) (dCons (dNot (dVar 5)) (dCons (dVar 6) (dCons (dVar 7) dNil))))) dNil)))))
  (dSeq (dApp 10 (dTup (dCons (dVar 4) (dCons (dVar 5) (dCons (dOp dAdd (dSl dCut (dVar 6) dNoP (dPart (dVar 9))) (dSl dCut (dVar 6) (dPart (dOp dAdd (dVar 9) (dC (.int 1)))) dNoP)) (dCons (dVar 7) dNil))))))
  (dFrz 10 (dRet (dOp dAdd (dOp dAdd (dSl dCut (dVar 2) dNoP (dPart (dVar 3))) (dTup (dCons (dOp dIx (dVar 10) (dCall sp_law_dip 2 (dCons (dVar 0) (dCons (dC (.int 5)) dNil)))) dNil))) (dSl dCut (dVar 2) (dPart (dOp dAdd (dVar 3) (dC (.int 1)))) dNoP)))))))))))

def sp_law_snapshots_told : SpD := fun ds W Q _ => ∃ e h, ds = [e, h] ∧ NC h ∧ ((NC e ∧ isEntD e = false ∧ Q (.str (Str.ofString "entries")) W) ∨ ∃ es, e = .tpf (es.map rowD) ∧ EsOk 10 es ∧ ((isHistD h = false ∧ Q (.str (Str.ofString "history")) W) ∨ ∃ cs, h = .tup (cs.map cmD) ∧ CsOk cs ∧ Q (.bl (snapB es cs)) W))
def d_law_snapshots_told : TSD := (dSeq (dAsg (dC (.str "other")) (gdName 2))
  (dSeq (dTry (dAsg (dCall sp_is_snapshot_history 2 (dCons (dVar 0) (dCons (dVar 1) dNil))) (gdName 2)) [⟨.ref a_InvalidEntries, [.ref a_InvalidEntries], [.ref a_InvalidHistory, .ref a_InvalidNumber], none, (dAsg (dC (.str "entries")) (gdName 2))⟩, ⟨.ref a_InvalidHistory, [.ref a_InvalidHistory], [.ref a_InvalidEntries, .ref a_InvalidNumber], none, (dAsg (dC (.str "history")) (gdName 2))⟩, ⟨.ref a_StoreError, [.ref a_InvalidEntries, .ref a_InvalidHistory, .ref a_InvalidNumber], [], none, (dAsg (dC (.str "other")) (gdName 2))⟩])
  (dRet (dVar 2))))

def sp_law_snapshots_right : SpD := fun ds W Q _ => ∃ (p : Addr) (ls : List (List Nat)) (rs es : List Rw) (cs : List Cm) (n : Nat), ds = [.ref p, .dk (rs.map kvD), .tup (cs.map cmD), txsD ls] ∧ PoolOk ls ∧ RsOk 8 rs ∧ EsOk 8 es ∧ lk es = lk rs ∧ CsQ 4 cs ∧ WellOk W p (n + 600) ∧ ∀ W', WellOk W' p n → Q (.bl true) W'
def d_law_snapshots_right : TSD := (dSeq (dParO2 4 5 (dCall sp_law_entries 1 (dCons (dVar 1) dNil)) (dLstN (dCons (dVar 2) dNil)))
  (dSeq (dFor (iRngD1 (dCons (dIf (dBool (dOp dNe (dVar 2) (dTup dNil))) (dC (.int 4)) (dC (.int 0))) dNil)) (gdName 6)
  (dApp 5 (dCall sp_law_exchanged 3 (dCons (dVar 0) (dCons (dVar 3) (dCons (dIxO 5 (dCall sp_law_dip 2 (dCons (dVar 0) (dCons (dLenO 5) dNil)))) dNil))))))
  (dFrz 5 (dSeq (dFor (iSeq (dVar 5)) (gdName 7)
  (dSeq (dAsg (dCall sp_law_is_snapshots 2 (dCons (dVar 1) (dCons (dVar 7) dNil))) (gdName 8))
  (dSeq (dAsg (dLst (dCons (dCall sp_law_snapshots_told 2 (dCons (dVar 4) (dCons (dVar 7) dNil))) (dCons (dCallK sp_is_snapshot_history 2 2 [1, 0] (dCons (dVar 7) (dCons (dVar 4) dNil))) dNil))) (gdName 9))
  (dIfS (dNotB (dBool (dCall sp_law_same 2 (dCons (dVar 9) (dCons (dLst (dCons (dVar 8) (dCons (dVar 8) dNil))) dNil))))) (dRet (dC (.bl false))) dNext))))
  (dSeq (dPar 10 11 (dCons (dCall sp_law_odd_entries 2 (dCons (dVar 0) (dCons (dWk (dVar 4)) dNil))) (dCons (dCall sp_law_odd_history 2 (dCons (dVar 0) (dCons (dVar 2) dNil))) dNil)))
  (dSeq (dAsg (dLst (dCons (dCall sp_law_snapshots_told 2 (dCons (dVar 10) (dCons (dVar 2) dNil))) (dCons (dCall sp_law_snapshots_told 2 (dCons (dVar 10) (dCons (dVar 11) dNil))) (dCons (dCall sp_law_snapshots_told 2 (dCons (dVar 4) (dCons (dVar 11) dNil))) dNil)))) (gdName 9))
  (dRet (dCall sp_law_same 2 (dCons (dVar 9) (dCons (dLst (dCons (dC (.str "entries")) (dCons (dC (.str "entries")) (dCons (dC (.str "history")) dNil)))) dNil))))))))))

def sp_law : SpD := spTrue

def d_law : TSD := (dSeq (dFor (iSeq (dOp dAdd (dLst (dCons (dC (.int 511)) (dCons (dOp dAdd (dOp dPow (dC (.int 10)) (dC (.int 50))) (dC (.int 77))) dNil))) (dSl dCut (dVar 0) dNoP (dPart (dC (.int 8)))))) (gdName 1)
  (dSeq (dAsg (dCall sp_law_well 1 (dCons (dVar 1) dNil)) (gdName 2))
  (dSeq (dAsg (dCall sp_law_pool 2 (dCons (dVar 2) (dCons (dOp dAdd (dC (.int 1)) (dCall sp_law_dip 2 (dCons (dVar 2) (dCons (dC (.int 6)) dNil)))) dNil))) (gdName 3))
  (dSeq (dAsg (dCall sp_law_rows 2 (dCons (dVar 2) (dCons (dVar 3) dNil))) (gdName 4))
  (dSeq (dAsg (dCall sp_law_history 5 (dCons (dVar 2) (dCons (dVar 3) (dCons (dVar 4) (dCons (dCall sp_law_dip 2 (dCons (dVar 2) (dCons (dC (.int 8)) dNil))) (dCons (dC (.int 4)) dNil)))))) (gdName 5))
  (dSeq (dIfS (dBool (dOp dEq (dCall sp_law_dip 2 (dCons (dVar 2) (dCons (dC (.int 2)) dNil))) (dC (.int 0)))) (dAsg (dOp dAdd (dVar 5) (dSl dCut (dVar 5) (dPart (dNeg (dC (.int 1)))) dNoP)) (gdName 5)) dNext)
  (dSeq (dAsg (dTup (dCons (dCB dReprK (dCons (dVar 4) dNil)) (dCons (dCB dRepr (dCons (dVar 5) dNil)) dNil))) (gdName 6))
  (dSeq (dIfS (dOrB (dNotB (dBool (dCall sp_law_pasts_right 3 (dCons (dVar 2) (dCons (dVar 4) (dCons (dVar 5) dNil)))))) (dNotB (dBool (dCall sp_law_notes_right 3 (dCons (dVar 2) (dCons (dVar 4) (dCons (dVar 3) dNil))))))) (dRet (dC (.bl false))) dNext)
  (dSeq (dIfS (dNotB (dBool (dCall sp_law_snapshots_right 4 (dCons (dVar 2) (dCons (dVar 4) (dCons (dVar 5) (dCons (dVar 3) dNil))))))) (dRet (dC (.bl false))) dNext)
  (dIfS (dBool (dOp dNe (dTup (dCons (dCB dReprK (dCons (dVar 4) dNil)) (dCons (dCB dRepr (dCons (dVar 5) dNil)) dNil))) (dVar 6))) (dRet (dC (.bl false))) dNext))))))))))
  (dRet (dC (.bl true))))

end K46

namespace K46
open PySem PySem.Spec L2 G TL C J
theorem rd_is_integer : Rd n_is_integer 1 sp_is_integer d_is_integer := by
  rintro ds W Q Qx _ ⟨d, rfl, hs, h⟩
  rcases nc_cases hs with rfl | ⟨_, rfl⟩ | ⟨_, rfl⟩ | ⟨_, rfl⟩ | ⟨_, rfl⟩ | ⟨_, rfl⟩
  · exact ⟨_, false, rfl, rfl, h⟩
  · exact ⟨_, true, rfl, rfl, _, true, rfl, rfl, h⟩
  · exact ⟨_, true, rfl, rfl, _, false, rfl, rfl, h⟩
  · exact ⟨_, false, rfl, rfl, h⟩
  · exact ⟨_, false, rfl, rfl, h⟩
  · exact ⟨_, false, rfl, rfl, h⟩
theorem rd_is_between : Rd n_is_between 3 sp_is_between d_is_between := by
  rintro ds W Q Qx _ ⟨a, b, d, rfl, hs, h⟩
  refine ⟨rfl, d, rfl, hs, ?_⟩
  rcases nc_cases hs with rfl | ⟨_, rfl⟩ | ⟨i, rfl⟩ | ⟨_, rfl⟩ | ⟨_, rfl⟩ | ⟨_, rfl⟩
  · exact h
  · exact h
  · have h : Q (.bl (decide (a ≤ i) && decide (i ≤ b))) W := h
    show (match D.bl (decide (a ≤ i)) with | .v (.bl true) => _ | .v (.bl false) => _ | _ => False)
    cases e : decide (a ≤ i) with
    | false => rw [e] at h; exact h
    | true => rw [e] at h; exact h
  · exact h
  · exact h
  · exact h
theorem rd_is_tuple_of : Rd n_is_tuple_of 2 sp_is_tuple_of d_is_tuple_of := by
  rintro ds W Q Qx _ ⟨n, d, rfl, hs, h⟩
  rcases nc_cases hs with rfl | ⟨_, rfl⟩ | ⟨i, rfl⟩ | ⟨_, rfl⟩ | ⟨_, rfl⟩ | ⟨_, rfl⟩
  · exact ⟨_, false, rfl, rfl, h⟩
  · exact ⟨_, false, rfl, rfl, h⟩
  · exact ⟨_, false, rfl, rfl, h⟩
  · exact ⟨_, false, rfl, rfl, h⟩
  · exact ⟨_, true, rfl, rfl, dEq_int h⟩
  · exact ⟨_, false, rfl, rfl, h⟩
theorem le_signs (c : Nat) {P : D → Prop} (hP : P (.bl (decide (32 ≤ c) && decide (c ≤ 126)))) : (match D.bl (!ltS (mkS [c]) (mkS [32])) with | .v (.bl true) => P (.bl (!ltS (mkS [126]) (mkS [c]))) | .v (.bl false) => P (.bl false) | _ => False) := by
  by_cases h32 : c < 32
  · rw [ltS_one, decide_eq_true h32]
    rw [decide_eq_false (by omega : ¬ 32 ≤ c)] at hP
    exact hP
  · rw [ltS_one, ltS_one, decide_eq_false h32]
    have e : decide (c ≤ 126) = !decide (126 < c) := by
      by_cases h : c ≤ 126
      · rw [decide_eq_true h, decide_eq_false (by omega)]; rfl
      · rw [decide_eq_false h, decide_eq_true (by omega)]; rfl
    rw [decide_eq_true (by omega : 32 ≤ c), Bool.true_and, e] at hP
    exact hP
theorem rd_is_text : Rd n_is_text 1 sp_is_text d_is_text := by
  rintro ds W Q Qx _ ⟨d, rfl, hs, h⟩
  show d_is_text _ [some (.sh d), none] W
  unfold d_is_text
  rw [so_sp, so_ti]
  rcases nc_cases hs with rfl | ⟨_, rfl⟩ | ⟨i, rfl⟩ | ⟨s, rfl⟩ | ⟨_, rfl⟩ | ⟨_, rfl⟩
  · exact ⟨_, false, rfl, rfl, h⟩
  · exact ⟨_, false, rfl, rfl, h⟩
  · exact ⟨_, false, rfl, rfl, h⟩
  · have hl : s.length ≤ 8000000 := nc_slen hs
    refine ⟨_, true, rfl, rfl, ?_⟩
    refine dLc_mapF (tl s) (fun c => .str (mkS [c])) (fun c => .bl (decide (32 ≤ c) && decide (c ≤ 126))) (noOwn1 (by simp)) (sz _ (by rw [← len_tl s]; omega)) (fun P hP => hP) (fun c hc P hP => ?_) ?_
    · exact le_signs c (P := fun z => P z _ _) hP
    · refine ⟨(tl s).map fun c => decide (32 ≤ c) && decide (c ≤ 126), bls_map _ _, ?_⟩
      rw [List.all_map]
      exact h
  · exact ⟨_, false, rfl, rfl, h⟩
  · exact ⟨_, false, rfl, rfl, h⟩
theorem no_row {b : Bool} {d : D} (hn : ∀ x y, d ≠ .tup [x, y]) : isRowM b d = false := by
  unfold isRowM
  split
  · exact absurd rfl (hn _ _)
  · rfl
theorem rd_is_change : Rd n_is_change 1 sp_is_change d_is_change := by
  rintro ds W Q Qx _ ⟨d, rfl, hs, h⟩
  show d_is_change _ [some (.sh d)] W
  unfold d_is_change
  refine ⟨rfl, 2, d, rfl, hs, ?_⟩
  unfold isRowD at h
  cases d with
  | tup xs =>
    show (match D.bl (decide ((xs.length : Int) = 2)) with | .v (.bl true) => _ | .v (.bl false) => _ | _ => False)
    by_cases h2 : xs.length = 2
    · rw [decide_eq_true (by omega : (xs.length : Int) = 2)]
      match xs, h2 with
      | [a, b], _ =>
        have sa := nc_item hs (d := a) (by simp)
        have sb := nc_item hs (d := b) (by simp)
        have er : isRowM true (.tup [a, b]) = (isTextD a && (D.isV b .non || isTextD b)) := rfl
        rw [er] at h
        refine ⟨a, rfl, rfl, a, rfl, sa, ?_⟩
        cases ta : isTextD a with
        | false => rw [ta, Bool.false_and] at h; exact h
        | true =>
          rw [ta, Bool.true_and] at h
          refine ⟨b, rfl, ?_⟩
          show (match D.bl (D.isV b .non) with | .v (.bl true) => _ | .v (.bl false) => _ | _ => False)
          cases tb : D.isV b .non with
          | true => rw [tb, Bool.true_or] at h; exact h
          | false =>
            rw [tb, Bool.false_or] at h
            exact ⟨b, rfl, rfl, b, rfl, sb, h⟩
    · rw [decide_eq_false (by omega : ¬ (xs.length : Int) = 2)]
      rw [no_row (fun a b q => by cases q; exact h2 rfl)] at h
      exact h
  | _ => rw [no_row (fun a b q => by cases q)] at h; exact h
theorem rd_is_changes : Rd n_is_changes 1 sp_is_changes d_is_changes := by
  rintro ds W Q Qx _ ⟨d, rfl, hs, h⟩
  show d_is_changes _ [some (.sh d), none, none] W
  unfold d_is_changes
  rcases nc_cases hs with rfl | ⟨_, rfl⟩ | ⟨i, rfl⟩ | ⟨s, rfl⟩ | ⟨xs, rfl⟩ | ⟨_, rfl⟩
  · exact ⟨_, false, rfl, rfl, h⟩
  · exact ⟨_, false, rfl, rfl, h⟩
  · exact ⟨_, false, rfl, rfl, h⟩
  · exact ⟨_, false, rfl, rfl, h⟩
  · have hl := nc_len hs
    refine ⟨_, true, rfl, rfl, ?_⟩
    have er : isChD (.tup xs) = (xs.all isRowD && ordL (xs.map keyL)) := rfl
    rw [er] at h
    refine dLc_mapF xs id (fun d => .bl (isRowD d)) (noOwn1 (by simp)) (sz _ (by omega)) (fun P hP => by rw [List.map_id] at hP; exact hP) (fun d hd P hP => ⟨rfl, d, rfl, nc_item hs hd, hP⟩) ?_
    refine ⟨xs.map isRowD, bls_map _ _, ?_⟩
    rw [List.all_map]
    show (if (!xs.all (id ∘ isRowD)) = true then _ else _)
    have e2 : xs.all (id ∘ isRowD) = xs.all isRowD := rfl
    rw [e2]
    cases ha : xs.all isRowD with
    | false => rw [ha, Bool.false_and] at h; exact h
    | true =>
      rw [ha, Bool.true_and] at h
      have rows : ∀ (k : Nat) (hk : k < xs.length), ∃ s b, xs[k] = .tup [.str s, b] := fun k hk => row_of (List.all_eq_true.mp ha _ (List.getElem_mem hk))
      refine dLc_mapF (List.range (xs.length - 1)) (fun i => .int (0 + (i : Int))) (fun k => .bl (decide ((xs.map keyL).getD k [] < (xs.map keyL).getD (k + 1) []))) (noOwn1 (by simp)) ?_ (fun P hP => ?_) (fun k hk P hP => ?_) ?_
      · rw [List.length_range]; exact sz _ (by omega)
      · have e3 : ((xs.length : Int) - 1).toNat = xs.length - 1 := by omega
        refine ⟨by omega, by omega, ?_⟩
        show P (rng 0 ((xs.length : Int) - 1).toNat) _ _
        rw [e3]; exact hP
      · rw [List.mem_range] at hk
        obtain ⟨s1, b1, r1⟩ := rows k (by omega)
        obtain ⟨s2, b2, r2⟩ := rows (k + 1) (by omega)
        have a1 : atI xs (0 + (k : Int)) = some (.tup [.str s1, b1]) := by
          rw [Int.zero_add]; exact atI_of (by rw [List.getElem?_eq_getElem (by omega), r1])
        have a2 : atI xs (0 + (k : Int) + 1) = some (.tup [.str s2, b2]) := by
          rw [show (0 : Int) + (k : Int) + 1 = ((k + 1 : Nat) : Int) by omega]; exact atI_of (by rw [List.getElem?_eq_getElem (by omega), r2])
        refine ⟨_, a1, .str s1, rfl, _, a2, .str s2, rfl, ?_⟩
        have k1 : (xs.map keyL).getD k [] = tl s1 := by
          rw [List.getD_eq_getElem?_getD, List.getElem?_map, List.getElem?_eq_getElem (by omega), r1]; rfl
        have k2 : (xs.map keyL).getD (k + 1) [] = tl s2 := by
          rw [List.getD_eq_getElem?_getD, List.getElem?_map, List.getElem?_eq_getElem (by omega), r2]; rfl
        rw [k1, k2] at hP
        exact hP
      · refine ⟨(List.range (xs.length - 1)).map fun k => decide ((xs.map keyL).getD k [] < (xs.map keyL).getD (k + 1) []), bls_map _ _, ?_⟩
        rw [List.all_map]
        have := ord_range (xs.map keyL)
        rw [List.length_map] at this
        rw [← this] at h
        exact h
  · exact ⟨_, false, rfl, rfl, h⟩
end K46

namespace K46
open PySem PySem.Spec L2 G TL C J
def fstD : D → D
  | .tup (a :: _) => a
  | d => d
def sndD : D → D
  | .tup [_, b] => b
  | d => d
theorem row_mf {d : D} (h : isRowM true d = true) : isRowM false d = !D.isV (sndD d) .non := by
  obtain ⟨s, v, rfl⟩ := row_of h
  have h' : (isTextD (.str s) && (D.isV v .non || isTextD v)) = true := h
  rw [Bool.and_eq_true] at h'
  show (isTextD (.str s) && (false || isTextD v)) = !D.isV v .non
  rw [h'.1, Bool.true_and, Bool.false_or]
  cases e : D.isV v .non with
  | false => rw [e, Bool.false_or] at h'; exact h'.2
  | true =>
    cases v with
    | v x =>
      have : x = .non := by simpa [D.isV] using e
      rw [this]; rfl
    | _ => cases e
theorem rd_is_entries : Rd n_is_entries 1 sp_is_entries d_is_entries := by
  rintro ds W Q Qx _ ⟨d, rfl, hs, h⟩
  show d_is_entries _ [some (.sh d), none, none] W
  unfold d_is_entries
  refine ⟨rfl, d, rfl, hs, ?_⟩
  cases hc : isChD d with
  | false =>
    have : isEntD d = false := by
      cases d with
      | tup xs =>
        have e1 : isChD (.tup xs) = (xs.all (isRowM true) && ordL (xs.map keyL)) := rfl
        have e2 : isEntD (.tup xs) = (xs.all (isRowM false) && ordL (xs.map keyL)) := rfl
        rw [e1] at hc
        rw [e2]
        cases ha : xs.all (isRowM true) with
        | true =>
          rw [ha, Bool.true_and] at hc
          rw [hc, Bool.and_false]
        | false =>
          rw [List.all_eq_false] at ha
          obtain ⟨x, hx, nx⟩ := ha
          have : xs.all (isRowM false) = false := by
            rw [List.all_eq_false]
            refine ⟨x, hx, fun q => nx ?_⟩
            unfold isRowM at q ⊢
            split at q
            · rename_i a v
              rw [Bool.and_eq_true] at q ⊢
              refine ⟨q.1, ?_⟩
              rw [Bool.false_and, Bool.false_or] at q
              rw [q.2, Bool.or_true]
            · cases q
          rw [this, Bool.false_and]
      | _ => rfl
    rw [this] at h
    exact h
  | true =>
    obtain ⟨xs, rfl⟩ : ∃ xs, d = .tup xs := by
      cases d with
      | tup xs => exact ⟨xs, rfl⟩
      | _ => cases hc
    have e1 : isChD (.tup xs) = (xs.all (isRowM true) && ordL (xs.map keyL)) := rfl
    rw [e1, Bool.and_eq_true] at hc
    have rows : ∀ x ∈ xs, isRowM true x = true := fun x hx => List.all_eq_true.mp hc.1 x hx
    have hl := nc_len hs
    have e3 : xs.map (fun x => D.tup [fstD x, sndD x]) = xs := by
      have : xs.map (fun x => D.tup [fstD x, sndD x]) = xs.map id := List.map_congr_left fun x hx => by
        obtain ⟨s, v, rfl⟩ := row_of (rows x hx)
        rfl
      rw [this, List.map_id]
    refine dLc_map2 xs fstD sndD (fun x => .bl (isRowM false x)) (noOwn2 (by simp) (by simp)) (sz _ (by omega)) (fun P hP => by rw [e3] at hP; exact hP) (fun x hx P hP => ?_) ?_
    · rw [row_mf (rows x hx)] at hP
      exact hP
    · refine ⟨xs.map (isRowM false), bls_map _ _, ?_⟩
      rw [List.all_map]
      have e2 : isEntD (.tup xs) = (xs.all (isRowM false) && ordL (xs.map keyL)) := rfl
      rw [e2, hc.2, Bool.and_true] at h
      exact h
theorem rd_is_text_or_none : Rd n_is_text_or_none 1 sp_is_text_or_none d_is_text_or_none := by
  rintro ds W Q Qx _ ⟨d, rfl, hs, h⟩
  show (match D.bl (D.isV d .non) with | .v (.bl true) => _ | .v (.bl false) => _ | _ => False)
  unfold isTonD at h
  cases e : D.isV d .non with
  | true => rw [e, Bool.true_or] at h; exact h
  | false => rw [e, Bool.false_or] at h; exact ⟨rfl, d, rfl, hs, h⟩
theorem ok_value : PyData.strOk (Str.ofString "value") = true := by decide +kernel
theorem ok_entries : PyData.strOk (Str.ofString "entries") = true := by decide +kernel
theorem no_note {xs : List D} (h3 : xs.length ≠ 3) (h4 : xs.length ≠ 4) : isNoteD (.tup xs) = false := by
  unfold isNoteD
  split
  · rename_i e; cases e; exact absurd rfl h3
  · rename_i e; cases e; exact absurd rfl h4
  · rfl
theorem rd_is_note : Rd n_is_note 1 sp_is_note d_is_note := by
  rintro ds W Q Qx _ ⟨d, rfl, hs, h⟩
  show d_is_note _ [some (.sh d)] W
  unfold d_is_note
  refine ⟨rfl, 3, d, rfl, hs, ?_⟩
  rcases nc_cases hs with rfl | ⟨_, rfl⟩ | ⟨i, rfl⟩ | ⟨s, rfl⟩ | ⟨xs, rfl⟩ | ⟨_, rfl⟩
  · exact ⟨rfl, 4, _, rfl, hs, h⟩
  · exact ⟨rfl, 4, _, rfl, hs, h⟩
  · exact ⟨rfl, 4, _, rfl, hs, h⟩
  · exact ⟨rfl, 4, _, rfl, hs, h⟩
  · show (if decide ((xs.length : Int) = 3) = true then _ else _)
    by_cases h3 : xs.length = 3
    · rw [decide_eq_true (by omega)]
      match xs, h3 with
      | [a, b, c], _ =>
        have sa := nc_item hs (d := a) (by simp)
        have sb := nc_item hs (d := b) (by simp)
        have sc := nc_item hs (d := c) (by simp)
        have er : isNoteD (.tup [a, b, c]) = (D.isV a (.str (Str.ofString "value")) && (isTextD b && isTonD c)) := rfl
        rw [er] at h
        refine ⟨a, rfl, eq_str ok_value sa ?_⟩
        cases ea : D.isV a (.str (Str.ofString "value")) with
        | false =>
          rw [ea, Bool.false_and] at h
          exact ⟨rfl, 4, _, rfl, hs, h⟩
        | true =>
          rw [ea, Bool.true_and] at h
          refine ⟨b, rfl, rfl, b, rfl, sb, ?_⟩
          cases eb : isTextD b with
          | false => rw [eb, Bool.false_and] at h; exact h
          | true =>
            rw [eb, Bool.true_and] at h
            exact ⟨c, rfl, rfl, c, rfl, sc, h⟩
    · rw [decide_eq_false (by omega)]
      refine ⟨rfl, 4, _, rfl, hs, ?_⟩
      show (if (!decide ((xs.length : Int) = 4)) = true then _ else _)
      by_cases h4 : xs.length = 4
      · rw [decide_eq_true (by omega)]
        match xs, h4 with
        | [a, b, c, e], _ =>
          have sa := nc_item hs (d := a) (by simp)
          have sb := nc_item hs (d := b) (by simp)
          have sc := nc_item hs (d := c) (by simp)
          have se := nc_item hs (d := e) (by simp)
          have er : isNoteD (.tup [a, b, c, e]) = (D.isV a (.str (Str.ofString "entries")) && (isTonD b && (isTonD c && isEntD e))) := rfl
          rw [er] at h
          refine ⟨a, rfl, ne_str ok_entries sa ?_⟩
          cases ea : D.isV a (.str (Str.ofString "entries")) with
          | false => rw [ea, Bool.false_and] at h; exact h
          | true =>
            rw [ea, Bool.true_and] at h
            refine ⟨b, rfl, rfl, b, rfl, sb, ?_⟩
            cases eb : isTonD b with
            | false => rw [eb, Bool.false_and] at h; exact h
            | true =>
              rw [eb, Bool.true_and] at h
              refine ⟨c, rfl, rfl, c, rfl, sc, ?_⟩
              cases ec : isTonD c with
              | false => rw [ec, Bool.false_and] at h; exact h
              | true =>
                rw [ec, Bool.true_and] at h
                exact ⟨e, rfl, rfl, e, rfl, se, h⟩
      · rw [decide_eq_false (by omega)]
        rw [no_note h3 h4] at h
        exact h
  · exact ⟨rfl, 4, _, rfl, hs, h⟩
theorem no_com {n : Int} {xs : List D} (h4 : xs.length ≠ 4) : isComD n (.tup xs) = false := by
  unfold isComD
  split
  · rename_i e; cases e; exact absurd rfl h4
  · rfl
theorem rd_is_commit : Rd n_is_commit 2 sp_is_commit d_is_commit := by
  rintro ds W Q Qx _ ⟨n, d, rfl, hs, h⟩
  show d_is_commit _ [some (.sh (.int n)), some (.sh d), none] W
  unfold d_is_commit
  refine ⟨rfl, 4, d, rfl, hs, ?_⟩
  rcases nc_cases hs with rfl | ⟨_, rfl⟩ | ⟨i, rfl⟩ | ⟨s, rfl⟩ | ⟨xs, rfl⟩ | ⟨_, rfl⟩
  · exact h
  · exact h
  · exact h
  · exact h
  · show (if (!decide ((xs.length : Int) = 4)) = true then _ else _)
    by_cases h4 : xs.length = 4
    · rw [decide_eq_true (by omega)]
      match xs, h4 with
      | [a, b, c, e], _ =>
        have sa := nc_item hs (d := a) (by simp)
        have sb := nc_item hs (d := b) (by simp)
        have sc := nc_item hs (d := c) (by simp)
        have se := nc_item hs (d := e) (by simp)
        refine ⟨a, rfl, rfl, 0, n - 1, a, rfl, sa, ?_⟩
        have er : isComD n (.tup [a, b, c, e]) = (isNumD n a && (isBlD b && (areNotesD c && isChD e))) := rfl
        rw [er] at h
        show (if (!isNumD n a) = true then _ else _)
        cases ba : isNumD n a with
        | false => rw [ba, Bool.false_and] at h; exact h
        | true =>
          rw [ba, Bool.true_and] at h
          refine ⟨b, rfl, ?_⟩
          obtain ⟨t1, t2, t3⟩ := ty_bool sb
          refine ⟨t1, _, t2, t3, ?_⟩
          cases eb : isBlD b with
          | false => rw [eb, Bool.false_and] at h; exact h
          | true =>
            rw [eb, Bool.true_and] at h
            refine ⟨c, rfl, ?_⟩
            rcases nc_cases sc with rfl | ⟨_, rfl⟩ | ⟨i, rfl⟩ | ⟨s, rfl⟩ | ⟨ns, rfl⟩ | ⟨_, rfl⟩
            · exact ⟨_, false, rfl, rfl, h⟩
            · exact ⟨_, false, rfl, rfl, h⟩
            · exact ⟨_, false, rfl, rfl, h⟩
            · exact ⟨_, false, rfl, rfl, h⟩
            · refine ⟨_, true, rfl, rfl, ?_⟩
              have hl := nc_len sc
              have h' : Q (.bl (ns.all isNoteD && isChD e)) W := h
              refine dLc_mapF ns id (fun d => .bl (isNoteD d)) (noOwn1 (by simp)) (sz _ (by omega)) (fun P hP => by rw [List.map_id] at hP; exact ⟨_, rfl, hP⟩) (fun d hd P hP => ⟨rfl, d, rfl, nc_item sc hd, hP⟩) ?_
              refine ⟨ns.map isNoteD, bls_map _ _, ?_⟩
              rw [List.all_map]
              have e2 : ns.all (id ∘ isNoteD) = ns.all isNoteD := rfl
              rw [e2]
              cases en : ns.all isNoteD with
              | false => rw [en, Bool.false_and] at h'; exact h'
              | true =>
                rw [en, Bool.true_and] at h'
                exact ⟨e, rfl, rfl, e, rfl, se, h'⟩
            · exact ⟨_, false, rfl, rfl, h⟩
    · rw [decide_eq_false (by omega)]
      rw [no_com h4] at h
      exact h
  · exact h
theorem rd_is_history : Rd n_is_history 1 sp_is_history d_is_history := by
  rintro ds W Q Qx _ ⟨d, rfl, hs, h⟩
  show d_is_history _ [some (.sh d), none] W
  unfold d_is_history
  rcases nc_cases hs with rfl | ⟨_, rfl⟩ | ⟨i, rfl⟩ | ⟨s, rfl⟩ | ⟨xs, rfl⟩ | ⟨_, rfl⟩
  · exact ⟨_, false, rfl, rfl, h⟩
  · exact ⟨_, false, rfl, rfl, h⟩
  · exact ⟨_, false, rfl, rfl, h⟩
  · exact ⟨_, false, rfl, rfl, h⟩
  · have hl := nc_len hs
    refine ⟨_, true, rfl, rfl, ?_⟩
    refine dLc_mapF (List.range xs.length) (fun i => .int (0 + (i : Int))) (fun (k : Nat) => .bl (isComD ((k : Int) + 1) (xs.getD k .non))) (noOwn1 (by simp)) ?_ (fun P hP => ?_) (fun k hk P hP => ?_) ?_
    · rw [List.length_range]; exact sz _ (by omega)
    · exact ⟨by omega, by omega, hP⟩
    · rw [List.mem_range] at hk
      have a1 : atI xs (0 + (k : Int)) = some (xs.getD k .non) := by
        rw [Int.zero_add]; exact atI_of (by rw [List.getD_eq_getElem?_getD, List.getElem?_eq_getElem hk]; rfl)
      have hm : xs.getD k .non ∈ xs := by
        rw [List.getD_eq_getElem?_getD, List.getElem?_eq_getElem hk]; exact List.getElem_mem hk
      refine ⟨_, a1, rfl, (k : Int) + 1, _, ?_, nc_item hs hm, hP⟩
      show [D.int (0 + (k : Int) + 1), _] = _
      rw [Int.zero_add]
    · refine ⟨(List.range xs.length).map fun (k : Nat) => isComD ((k : Int) + 1) (xs.getD k .non), bls_map _ _, ?_⟩
      rw [List.all_map]
      exact h
  · exact ⟨_, false, rfl, rfl, h⟩
end K46

namespace K46
open PySem PySem.Spec L2 G TL C J
theorem rd_law_well : Rd n_law_well 1 sp_law_well d_law_well := by
  rintro ds W Q Qx _ ⟨z, rfl, hz, h⟩
  show d_law_well _ [some (.sh (.int z))] W
  unfold d_law_well
  refine ⟨⟨by decide, by decide, by decide⟩, ?_⟩
  have p18 : ((10 : Int) ^ (18 : Int).toNat) = 1000000000000000000 := by decide
  have big1 : 2 ^ 70 ≤ bigB := by unfold bigB; exact Nat.pow_le_pow_right (by decide) (by decide)
  refine ite_d (fun h0 => ?_) (fun h0 => ?_)
  · refine ⟨⟨by decide, by decide, by decide⟩, (by decide : (0 : Int) < 1999999973), sz 3 (by decide), fun p hp => h _ p ⟨_, _, _, updW_same, ?_, ?_, ?_, ?_, by decide, by decide⟩⟩
    · rw [p18] at h0 ⊢; omega
    · rw [p18] at h0 ⊢; omega
    · omega
    · omega
  · refine ⟨(by decide : (0 : Int) < 1999999973), sz 3 (by decide), fun p hp => h _ p ⟨_, _, _, updW_same, by decide, ?_, ?_, ?_, by decide, by decide⟩⟩
    · show 0 < bigB; omega
    · omega
    · omega
theorem rd_law_dip : Rd n_law_dip 2 sp_law_dip d_law_dip := by
  rintro ds W Q Qx _ ⟨p, many, n, rfl, ⟨a, b, c, hp, ha0, ha1, hb0, hb1, hc0, hc1⟩, hM0, hM1, h⟩
  show d_law_dip _ [some (.sh (.ref p)), some (.sh (.int many)), none] W
  unfold d_law_dip
  refine ⟨_, .int a, hp, rfl, ?_⟩
  refine ite_d (fun h0 => ?_) (fun h0 => ?_)
  · have hd : a / many ≤ a := Int.ediv_le_self _ ha0
    have hd0 : 0 ≤ a / many := Int.ediv_nonneg ha0 (by omega)
    have hlt : (a / many).natAbs < bigB := by omega
    refine ⟨_, .int a, hp, rfl, hM0, _, .int a, hp, rfl, ⟨hM0, Nat.lt_of_lt_of_le (log2_small (k := 30) (by omega) (by decide)) (by decide)⟩, _, 0, hp, rfl, ?_⟩
    exact h _ _ (Int.emod_nonneg _ (by omega)) (Int.emod_lt_of_pos _ hM0) ⟨a / many, b, c, updW_same, hd0, hlt, hb0, hb1, hc0, by omega⟩
  · refine ⟨_, .int c, hp, rfl, _, 2, hp, rfl, ?_⟩
    have m1 : CMulX b 44497 := mulX_of 31 16 (by omega) (by decide) (by decide) (by decide) (by decide)
    have hcc : (c + 1) * (c + 1) ≤ 1000001 * 1000001 := Int.mul_le_mul (by omega) (by omega) (by omega) (by decide)
    have hcc0 : 0 ≤ (c + 1) * (c + 1) := Int.mul_nonneg (by omega) (by omega)
    have m2 : CMulX (c + 1) (c + 1) := mulX_of 21 21 (by omega) (by omega) (by decide) (by decide) (by decide)
    have m3 : CMulX ((c + 1) * (c + 1)) 7001 := mulX_of 42 13 (by omega) (by decide) (by decide) (by decide) (by decide)
    refine ⟨_, .int b, updW_same, rfl, m1, _, .int (c + 1), updW_same, rfl, _, .int (c + 1), updW_same, rfl, m2, m3, (by decide : (0 : Int) < 2147483629), _, 1, updW_same, rfl, ?_⟩
    obtain ⟨f, hf⟩ : ∃ f, (b * 44497 + (c + 1) * (c + 1) * 7001 + 13) % 2147483629 = f := ⟨_, rfl⟩
    have f0 : 0 ≤ f := by rw [← hf]; exact Int.emod_nonneg _ (by decide)
    have f1 : f < 2147483648 := by rw [← hf]; have := Int.emod_lt_of_pos (b * 44497 + (c + 1) * (c + 1) * 7001 + 13) (show (0 : Int) < 2147483629 by decide); omega
    have f2 : f.natAbs < 2 ^ 31 := by omega
    have m4 : CMulX f f := mulX_of 31 31 f2 f2 (by decide) (by decide) (by decide)
    have up : ∀ X : Wd, updW X p (.lst [.int a, .int ((b * 44497 + (c + 1) * (c + 1) * 7001 + 13) % 2147483629), .int (c + 1)]) p = some (.lst [.int a, .int f, .int (c + 1)]) := fun X => by rw [hf]; exact updW_same
    refine ⟨_, .int f, up _, rfl, _, .int f, up _, rfl, m4, (by decide : (0 : Int) < 2147483587), ⟨by decide, by decide⟩, hM0, ?_⟩
    exact h _ _ (Int.emod_nonneg _ (by omega)) (Int.emod_lt_of_pos _ hM0) ⟨a, f, c + 1, up _, ha0, ha1, f0, f1, by omega, by omega⟩
end K46

namespace K46
open PySem PySem.Spec L2 G TL C J
theorem rdn_law_same (n : Nat) (sp0 : SpD) (h0 : ∀ m, n = m + 1 → sp0 = spn_law_same m) : Rd n_law_same 2 (spn_law_same n) (d_law_same sp0) := by
  rintro ds W Q Qx _ ⟨d, rfl, hp, h⟩
  show d_law_same sp0 _ [some (.sh d), some (.sh d), none] W
  unfold d_law_same
  have deep : ∀ (ds : List D), ds.length ≤ 100000 → (∀ m, n = m + 1 → ∀ z ∈ ds, plainN m z) → n ≠ 0 → (∀ i z, atI ds i = some z → ∀ P : D → Prop, P z → dIx d (.int i) P) → (∀ P : D → Prop, P (.int ds.length) → dLen [d] P) →
      dLc (iRngD1 (dCons (dCB dLen (dCons (dVar 1) dNil)) dNil)) (gdName 2) dYes (dCall sp0 2 (dCons (dOp dIx (dVar 0) (dVar 2)) (dCons (dOp dIx (dVar 1) (dVar 2)) dNil))) [2] [some (.sh d), some (.sh d), none] W (fun ys _ W' => dAll [.lst ys] fun z => Q z W') (fun cls x _ W' => Qx cls x W') := fun ds hl hz hn hix hlen => by
    refine dLc_mapF (List.range ds.length) (fun i => .int (0 + (i : Int))) (fun _ => .bl true) (noOwn1 (by simp)) ?_ (fun P hP => ?_) (fun i hi P hP => ?_) ?_
    · rw [List.length_range]; exact sz _ (by omega)
    · refine hlen (fun z => match [z] with | [.v (.int j)] => -(2 ^ 62) ≤ j ∧ j < 2 ^ 62 ∧ P (rng 0 j.toNat) _ W | _ => False) ⟨by omega, by omega, ?_⟩
      rw [Int.toNat_natCast]; exact hP
    · rw [List.mem_range] at hi
      obtain ⟨m, rfl⟩ : ∃ m, n = m + 1 := ⟨n - 1, by omega⟩
      rw [h0 m rfl]
      have e := atI_of (List.getElem?_eq_getElem hi)
      rw [show (0 : Int) + (i : Int) = (i : Int) by omega] at hP ⊢
      exact hix _ _ e _ (hix _ _ e _ ⟨rfl, _, rfl, hz m rfl _ (List.getElem_mem hi), hP⟩)
    · obtain ⟨bs, h1, h2⟩ := all_map_true (List.range ds.length)
      refine ⟨bs, h1, ?_⟩
      rw [h2]
      exact h
  cases d with
  | v x =>
    cases x with
    | non => exact h
    | bl b => exact ⟨_, true, rfl, rfl, _, true, rfl, rfl, dEq_self (by simp [D.good]) h⟩
    | int b =>
      refine ⟨_, false, rfl, rfl, _, true, rfl, rfl, _, true, rfl, rfl, _, false, rfl, rfl, dEq_int ?_⟩
      rw [decide_eq_true rfl]; exact h
    | str b =>
      refine ⟨_, false, rfl, rfl, _, false, rfl, rfl, _, true, rfl, rfl, _, true, rfl, rfl, dEq_str ?_⟩
      rw [decide_eq_true rfl]; exact h
    | _ => unfold plainN at hp; cases n <;> exact hp.elim
  | tup ds =>
    cases n with
    | zero => unfold plainN at hp; exact hp.elim
    | succ m =>
      have hp' : ds.length ≤ 100000 ∧ ∀ d ∈ ds, plainN m d := by unfold plainN at hp; exact hp
      refine ⟨_, false, rfl, rfl, _, false, rfl, rfl, _, false, rfl, rfl, _, false, rfl, rfl, _, false, rfl, rfl, dNe_bl ?_⟩
      rw [decide_eq_true rfl]
      refine ⟨_, true, rfl, rfl, _, true, rfl, rfl, dNe_bl ?_⟩
      rw [decide_eq_true rfl]
      refine dEq_int ?_
      rw [decide_eq_true rfl]
      exact deep ds hp'.1 (fun m' e => by cases e; exact hp'.2) (by omega) (fun i z hz P hP => ⟨z, hz, hP⟩) fun P hP => hP
  | lst ds =>
    cases n with
    | zero => unfold plainN at hp; exact hp.elim
    | succ m =>
      have hp' : ds.length ≤ 100000 ∧ ∀ d ∈ ds, plainN m d := by unfold plainN at hp; exact hp
      refine ⟨_, false, rfl, rfl, _, false, rfl, rfl, _, false, rfl, rfl, _, true, rfl, rfl, _, true, rfl, rfl, dNe_bl ?_⟩
      rw [decide_eq_true rfl]
      refine ⟨_, false, rfl, rfl, _, false, rfl, rfl, dNe_bl ?_⟩
      rw [decide_eq_true rfl]
      refine dEq_int ?_
      rw [decide_eq_true rfl]
      exact deep ds hp'.1 (fun m' e => by cases e; exact hp'.2) (by omega) (fun i z hz P hP => ⟨z, hz, hP⟩) fun P hP => hP
  | _ => unfold plainN at hp; cases n <;> exact hp.elim
theorem rd_law_word : Rd n_law_word 2 sp_law_word d_law_word := by
  rintro ds W Q Qx _ ⟨p, m, n, rfl, hm, hs, h⟩
  show d_law_word _ [some (.sh (.ref p)), some (.sh (.int m)), none, none] W
  unfold d_law_word
  rw [so_nil, so_s1]
  refine ⟨⟨_, rfl⟩, ?_⟩
  refine dLc_eachB (fun ds W' => ds.length ≤ m ∧ WellOk W' p (n + 3)) (fun j W' => WellOk W' p (n + (3 - j))) (fun d => ∃ c, d = .str (mkS [c]) ∧ 32 ≤ c ∧ c ≤ 126) (noOwn1 (by simp)) (fun P hP => ?_) (fun ds W' hb => ⟨sz _ (by omega), hb.2⟩) (fun ds W' hb j d W2 hj hs2 P hP => ?_) (fun ds W' hb ys W2 hyl hya hs2 => ?_)
  · refine ⟨rfl, p, _, n + 3, rfl, hs.less (by omega), by omega, by omega, fun r W1 hr0 hr1 hs1 => ?_⟩
    exact ⟨by omega, by omega, hP _ _ ⟨by rw [rng_len]; omega, hs1⟩⟩
  · have hj' : j < ds.length := (List.getElem?_eq_some_iff.mp hj).1
    have := hb.1
    refine ⟨rfl, p, _, n + (3 - (j + 1)), rfl, hs2.less (by omega), by decide, by decide, fun r W3 hr0 hr1 hs3 => ⟨sz _ (by decide), ?_⟩⟩
    obtain ⟨c, hc, hcc⟩ := at_mkS signs1 r hr0 hr1 pr_s1
    exact ⟨c, hc, hP _ _ ⟨c, rfl, hcc⟩ hs3⟩
  obtain ⟨l, hll, hlp, rfl⟩ := flat_ones ys hya
  have hl4 : l.length ≤ m := by have := hb.1; omega
  refine ⟨((l.map fun c => [c]).map mkS), ?_, ?_, ?_⟩
  · have := strsOf_map ((l.map fun c => [c]).map mkS)
    rw [List.map_map] at this
    exact this
  · rw [sum_ones, len_mkS, List.length_map, List.length_map]
    simp; omega
  rw [join_mkS, flat_sing]
  exact h l W2 hlp hl4 (hs2.less (by omega))
end K46

namespace K46
open PySem PySem.Spec L2 G TL C J
theorem tx_app {a b : List Nat} {m n : Nat} (h1 : Pr a) (h2 : Pr b) (l1 : a.length ≤ m) (l2 : b.length ≤ n) : Pr (a ++ b) ∧ (a ++ b).length ≤ m + n := ⟨pr_app h1 h2, by rw [List.length_append]; omega⟩
theorem rd_law_pool : Rd n_law_pool 2 sp_law_pool d_law_pool := by
  rintro ds W Q Qx _ ⟨p, m, n, rfl, hm1, hm, hs, h⟩
  show d_law_pool _ [some (.sh (.ref p)), some (.sh (.int m)), none, none, none] W
  unfold d_law_pool
  refine seq_gen (fun ρ W' => ∃ l, Pr l ∧ l.length ≤ 2 ∧ WellOk W' p (n + 96) ∧ ρ = [some (.sh (.ref p)), some (.sh (.int m)), some (.ol [.str (mkS l)]), none, none]) (fun ρ W' hI => ?_) (fun N hN => ?_)
  case refine_2 => exact ⟨rfl, p, 2, n + 96, rfl, by decide, hs.less (by omega), fun l W1 l1 l2 hs => ⟨sz 1 (by decide), hN _ _ ⟨l, l1, l2, hs, rfl⟩⟩⟩
  obtain ⟨l0, p0, q0, hs, rfl⟩ := hI
  refine seq_gen (fun ρ W' => ∃ (ls : List (List Nat)) (x3 x4 : Option Sl), PoolOk ls ∧ WellOk W' p n ∧ ρ = [some (.sh (.ref p)), some (.sh (.int m)), some (.ol (ls.map fun l => .str (mkS l))), x3, x4]) (fun ρ W' hI => ?_) (fun N hN => ?_)
  · obtain ⟨ls, x3, x4, hp, hs, rfl⟩ := hI
    exact h ls _ hp hs
  refine dFor_of (rng 0 (m - 1)) (fun i ρ W' => ∃ (ls : List (List Nat)) (x3 x4 : Option Sl), ls ≠ [] ∧ ls.length ≤ i + 1 ∧ (∀ l ∈ ls, Pr l ∧ l.length ≤ 3 + i) ∧ WellOk W' p (n + (96 - 13 * i)) ∧ ρ = [some (.sh (.ref p)), some (.sh (.int m)), some (.ol (ls.map fun l => .str (mkS l))), x3, x4])
    (fun P hP => ?_) ⟨[l0], none, none, by simp, Nat.le_refl _, fun l hl => by rw [List.mem_singleton.mp hl]; exact ⟨p0, by omega⟩, hs, rfl⟩ (fun i d ρ W' hd hI => ?_) (fun ρ W' hI => ?_)
  · refine ⟨by omega, by omega, ?_⟩
    show P (rng 0 ((m : Int) - 1).toNat) _ _
    rw [show ((m : Int) - 1).toNat = m - 1 by omega]; exact hP
  · obtain ⟨ls, x3, x4, hne, hll, hl, hs, rfl⟩ := hI
    have hi : i < m - 1 := by have := (List.getElem?_eq_some_iff.mp hd).1; rwa [rng_len] at this
    have hi4 : i < 5 := by omega
    obtain ⟨N0, hN0⟩ : ∃ N0, n + (96 - 13 * (i + 1)) = N0 := ⟨_, rfl⟩
    have hs : WellOk W' p (N0 + 13) := hs.less (by omega)
    -- the new key
    have last : ∃ l ∈ ls, atI (ls.map fun l => D.str (mkS l)) (-1) = some (.str (mkS l)) := by
      obtain ⟨x, hx, e⟩ := at_last (L := ls.map fun l => D.str (mkS l)) (by simpa using hne)
      rw [List.mem_map] at hx
      obtain ⟨l, hl, rfl⟩ := hx
      exact ⟨l, hl, e⟩
    have first : ∃ l ∈ ls, atI (ls.map fun l => D.str (mkS l)) 0 = some (.str (mkS l)) := by
      cases ls with
      | nil => exact absurd rfl hne
      | cons a r => exact ⟨a, List.mem_cons_self, atI_of (i := 0) rfl⟩
    obtain ⟨lz, hz, ez⟩ := last
    obtain ⟨la, ha, ea⟩ := first
    obtain ⟨pz, lz'⟩ := hl lz hz
    obtain ⟨pa, la'⟩ := hl la ha
    refine seq_gen (fun ρ W' => ∃ k, Pr k ∧ k.length ≤ 3 + (i + 1) ∧ WellOk W' p N0 ∧ ρ = [some (.sh (.ref p)), some (.sh (.int m)), some (.ol (ls.map fun l => .str (mkS l))), some (.sh d), some (.sh (.str (mkS k)))]) (fun ρ W' hI => ?_) (fun N hN => ?_)
    case refine_2 =>
      refine ⟨rfl, p, 3, N0 + 9, rfl, by decide, hs.less (by omega), fun k1 W1 p1 q1 hs => ⟨⟨_, rfl⟩, _, ez, rfl, p, 1, N0 + 5, rfl, by decide, hs.less (by omega), fun k2 W2 p2 q2 hs => ⟨sz _ (by rw [len_mkS, len_mkS]; omega), rfl, p, 1, N0 + 1, rfl, by decide, hs.less (by omega), fun k3 W3 p3 q3 hs => ⟨⟨_, rfl⟩, _, ea, sz _ (by rw [len_mkS, len_mkS]; omega), sz 3 (by decide), rfl, p, 3, N0, rfl, hs, by decide, by decide, fun r W4 hr0 hr1 hs => ix_all hr0 hr1 fun z hz => ?_⟩⟩⟩⟩
      rw [app_mkS, app_mkS] at hz
      simp only [List.mem_cons, List.not_mem_nil, or_false] at hz
      rcases hz with rfl | rfl | rfl
      · exact hN _ _ ⟨k1, p1, by omega, hs, rfl⟩
      · obtain ⟨a, b⟩ := tx_app pz p2 lz' q2
        exact hN _ _ ⟨_, a, by omega, hs, rfl⟩
      · obtain ⟨a, b⟩ := tx_app p3 pa q3 la'
        exact hN _ _ ⟨_, a, by omega, hs, rfl⟩
    obtain ⟨k, pk, lk, hs, rfl⟩ := hI
    obtain ⟨f1, f2⟩ := flat_txs ls
    refine ⟨_, f1, rfl, f2, ?_⟩
    cases (if true = true then !inV (.str (mkS k)) (ls.map fun l => V.str (mkS l)) else inV (.str (mkS k)) (ls.map fun l => V.str (mkS l))) with
    | true =>
      refine ⟨⟨_, rfl⟩, ?_⟩
      refine ⟨Nat.lt_of_lt_of_le (by rw [List.length_map]; omega : (ls.map fun l => D.str (mkS l)).length < 16777216) (sz _ (Nat.le_refl _)), ls ++ [k], some (.sh d), some (.sh (.str (mkS k))), by simp, by rw [List.length_append, List.length_singleton]; omega, fun l hl' => ?_, by rw [hN0]; exact hs, ?_⟩
      · rcases List.mem_append.mp hl' with hl' | hl'
        · exact ⟨(hl l hl').1, by have := (hl l hl').2; omega⟩
        · rw [List.mem_singleton.mp hl']; exact ⟨pk, lk⟩
      · rw [List.map_append]; rfl
    | false => exact ⟨ls, _, _, hne, by omega, fun l hl' => ⟨(hl l hl').1, by have := (hl l hl').2; omega⟩, by rw [hN0]; exact hs, rfl⟩
  · obtain ⟨ls, x3, x4, hne, hll, hl, hs, rfl⟩ := hI
    rw [rng_len] at hll hl hs
    exact hN _ _ ⟨ls, x3, x4, ⟨hne, by omega, fun l hl' => ⟨by have := (hl l hl').2; omega, (hl l hl').1⟩⟩, hs.less (by omega), rfl⟩
theorem ne_ve : Str.ofString "value" ≠ Str.ofString "entries" := by decide +kernel
theorem lt_mk (a b : List Nat) {Q : D → Prop} (q : Q (.bl (decide (a < b)))) : Q (.bl (ltS (mkS a) (mkS b))) := q
theorem rd_law_has : Rd n_law_has 2 sp_law_has d_law_has := by
  rintro ds W Q Qx _ ⟨t, l, rfl, h⟩
  show d_law_has _ [some (.sh (ntD t)), some (.sh (.str (mkS l)))] W
  unfold d_law_has
  cases t with
  | v k x =>
    refine ⟨_, rfl, dEq_str ?_⟩
    rw [decide_eq_true rfl]
    refine ⟨_, rfl, dEq_str ?_⟩
    have e : decide (mkS l = mkS k) = decide (l = k) := decide_eq_decide.mpr mkS_inj
    rw [e]
    exact h
  | e lo hi rs =>
    refine ⟨_, rfl, dEq_str ?_⟩
    rw [decide_eq_false (fun q => ne_ve q.symm)]
    cases lo with
    | none =>
      refine ⟨_, rfl, ?_⟩
      cases hi with
      | none => exact ⟨_, rfl, h⟩
      | some b => exact ⟨_, rfl, _, rfl, h⟩
    | some a =>
      refine ⟨_, rfl, _, rfl, ?_⟩
      show (match D.bl (!decide (l < a)) with | .v (.bl true) => _ | .v (.bl false) => _ | _ => False)
      have h : Q (.bl (!decide (l < a) && !highB hi l)) W := h
      cases ea : decide (l < a) with
      | true => rw [ea] at h; exact h
      | false =>
        rw [ea] at h
        cases hi with
        | none => exact ⟨_, rfl, h⟩
        | some b => exact ⟨_, rfl, _, rfl, h⟩
end K46

namespace K46
open PySem PySem.Spec L2 G TL C J
theorem rd_has : Rd n_has 2 sp_has d_has := by
  rintro ds W Q Qx _ ⟨t, l, rfl, h⟩
  show d_has _ [some (.sh (ntD t)), some (.sh (.str (mkS l)))] W
  unfold d_has
  cases t with
  | v k x =>
    refine ⟨_, rfl, dEq_str ?_⟩
    rw [decide_eq_true rfl]
    refine ⟨_, rfl, dEq_str ?_⟩
    have e : decide (mkS k = mkS l) = decide (l = k) := decide_eq_decide.mpr (by rw [mkS_inj, eq_comm])
    rw [e]
    exact h
  | e lo hi rs =>
    refine ⟨_, rfl, dEq_str ?_⟩
    rw [decide_eq_false (fun q => ne_ve q.symm)]
    have fin : ∀ b : Bool, hasN (.e lo hi rs) l = (b && !highB hi l) → (match D.bl b with | .v (.bl true) => (dOr (dOp dIsA (dOp dIx (dVar 0) (dC (.int 2))) (dC .non)) (dOp dLt (dVar 1) (dOp dIx (dVar 0) (dC (.int 2))))) [some (.sh (ntD (.e lo hi rs))), some (.sh (.str (mkS l)))] W (fun d _ W' => Q d W') (fun cls x _ W' => Qx cls x W') | .v (.bl false) => Q (.bl b) W | _ => False) := fun b hb => by
      rw [hb] at h
      cases b with
      | false => exact h
      | true =>
        rw [Bool.true_and] at h
        cases hi with
        | none => exact ⟨_, rfl, h⟩
        | some c =>
          refine ⟨_, rfl, _, rfl, ?_⟩
          have e : highB (some c) l = !decide (l < c) := rfl
          rw [e, Bool.not_not] at h
          exact h
    cases lo with
    | none => exact ⟨_, rfl, fin true rfl⟩
    | some a =>
      refine ⟨_, rfl, _, rfl, ?_⟩
      show (match D.bl (!decide (l < a)) with | .v (.bl true) => _ | .v (.bl false) => _ | _ => False)
      have f := fin (!decide (l < a)) rfl
      cases ea : decide (l < a) with
      | true => rw [ea] at f; exact f
      | false => rw [ea] at f; exact f
theorem rd_check_entries : Rd n_check_entries 1 sp_check_entries d_check_entries := by
  rintro ds W Q Qx _ ⟨e, rfl, hn, h⟩
  show d_check_entries _ [some (.sh e)] W
  unfold d_check_entries
  refine ⟨rfl, e, rfl, hn, ?_⟩
  rcases h with ⟨h1, h2⟩ | ⟨h1, h2⟩
  · rw [h1]; exact h2
  · rw [h1]; exact h2
theorem rd_check_history : Rd n_check_history 1 sp_check_history d_check_history := by
  rintro ds W Q Qx _ ⟨e, rfl, hn, h⟩
  show d_check_history _ [some (.sh e)] W
  unfold d_check_history
  refine ⟨rfl, e, rfl, hn, ?_⟩
  rcases h with ⟨h1, h2⟩ | ⟨h1, h2⟩
  · rw [h1]; exact h2
  · rw [h1]; exact h2
theorem rd_tells : Rd n_tells 2 sp_tells d_tells := by
  rintro ds W Q Qx _ ⟨m, es, t, rfl, hm, he, ht, h⟩
  show d_tells _ [some (.sh (rowsD es)), some (.sh (ntD t)), none, none] W
  unfold d_tells
  refine seq_gen (fun ρ W' => W' = W ∧ ρ = [some (.sh (rowsD es)), some (.sh (ntD t)), some (.sh (rowsD (es.filter fun r => hasN t r.1))), none]) (fun ρ W' hI => ?_) (fun N hN => ?_)
  case refine_2 =>
    refine dLc_filtF es rowD rowD (fun r => hasN t r.1) (noOwn1 (by simp)) (sz _ (by have := he.len; omega)) (fun P hP => hP) (fun r hr P hP => ⟨_, rfl, rfl, t, r.1, rfl, hP⟩) (fun r hr _ P hP => hP) ?_
    exact hN _ _ ⟨rfl, rfl⟩
  obtain ⟨rfl, rfl⟩ := hI
  have hf := he.filter fun r => hasN t r.1
  cases t with
  | e lo hi rs =>
    refine ⟨_, rfl, dEq_str ?_⟩
    rw [decide_eq_true rfl]
    refine ⟨_, rfl, deq_rows hf (m := m) (n := 60) ⟨ht.2.2.1.len, ht.2.2.1.ord, ht.2.2.1.row, ht.2.2.2⟩ ?_⟩
    have e : tellsB es (.e lo hi rs) = decide (es.filter (fun r => hasN (.e lo hi rs) r.1) = rs) := decide_eq_decide.mpr (by show Nt.e lo hi _ = Nt.e lo hi rs ↔ _; simp)
    rw [e] at h; exact h
  | v k x =>
    refine ⟨_, rfl, dEq_str ?_⟩
    rw [decide_eq_false ne_ve]
    have ef : (es.filter fun r => hasN (.v k x) r.1) = match lk es k with | none => [] | some v => [(k, some v)] := filt_key he.nd he.some k
    have e : tellsB es (.v k x) = decide (lk es k = x) := decide_eq_decide.mpr (by show Nt.v k _ = Nt.v k x ↔ _; simp)
    rw [e] at h
    cases x with
    | none =>
      refine ⟨_, rfl, sz 0 (by decide), ?_⟩
      show dEq (rowsD _) (rowsD []) _
      refine deq_rows hf (m := m) (n := 0) (b := []) ⟨by simp, rfl, by simp, by simp⟩ ?_
      have e2 : decide ((es.filter fun r => hasN (.v k none) r.1) = []) = decide (lk es k = none) := by
        rw [ef]
        refine decide_eq_decide.mpr ?_
        cases lk es k <;> simp
      rw [e2]; exact h
    | some v =>
      refine ⟨_, rfl, ?_⟩
      refine ⟨sz 1 (by decide), ?_⟩
      show dEq (rowsD _) (rowsD [(k, some v)]) _
      refine deq_rows hf (m := m) (n := 1) (b := [(k, some v)]) ⟨by simp, rfl, fun r hr => ?_, fun r hr => ?_⟩ ?_
      · rw [List.mem_singleton.mp hr]; exact ht
      · rw [List.mem_singleton.mp hr]; simp
      have e2 : decide ((es.filter fun r => hasN (.v k (some v)) r.1) = [(k, some v)]) = decide (lk es k = some v) := by
        rw [ef]
        refine decide_eq_decide.mpr ?_
        cases lk es k <;> simp
      rw [e2]; exact h
theorem rd_is_given : Rd n_is_given 2 sp_is_given d_is_given := by
  rintro ds W Q Qx _ ⟨e, v, rfl, hne, hnv, h⟩
  show d_is_given _ [some (.sh e), some (.sh v)] W
  unfold d_is_given
  refine ⟨rfl, e, rfl, hne, ?_⟩
  rcases h with ⟨h1, h2⟩ | ⟨es, rfl, he, h⟩
  · exact .inl ⟨h1, h2⟩
  · refine .inr ⟨ent_ok he, rfl, v, rfl, hnv, ?_⟩
    rcases h with ⟨h1, h2⟩ | ⟨t, rfl, ht, h2⟩
    · rw [h1]; exact h2
    · rw [note_ok ht]
      exact ⟨rfl, 60, es, t, rfl, by decide, he, ht, h2⟩
theorem rd_laid_over : Rd n_laid_over 2 sp_laid_over d_laid_over := by
  rintro ds W Q Qx _ ⟨m, es, ch, rfl, hm, he, hc, h⟩
  show d_laid_over _ [some (.sh (.tpf (es.map rowD))), some (.sh (rowsD ch)), none, none, none] W
  unfold d_laid_over
  refine seq_gen (fun ρ W' => W' = W ∧ ∃ rs, RnOk m rs ∧ lk rs = lk es ∧ ρ = [some (.sh (.tpf (es.map rowD))), some (.sh (rowsD ch)), some (.od (rs.map kvD)), none, none]) (fun ρ W' hI => ?_) (fun N hN => ?_)
  case refine_2 =>
    obtain ⟨rs, h1, h2, h3⟩ := puts_es he
    refine ⟨es.map kvD, ?_, ?_⟩
    · rw [List.map_map]; rfl
    · rw [h1]
      exact hN _ _ ⟨rfl, rs, h2, h3, rfl⟩
  obtain ⟨rfl, rs, hr, hk, rfl⟩ := hI
  refine seq_gen (fun ρ W2 => W2 = W' ∧ ∃ (rs' : List Rw) (x3 x4 : Option D), RnOk (m + ch.length) rs' ∧ lk rs' = ch.foldl upF (lk es) ∧ ρ = [some (.sh (.tpf (es.map rowD))), some (.sh (rowsD ch)), some (.od (rs'.map kvD)), x3.map Sl.sh, x4.map Sl.sh]) (fun ρ W2 hI => ?_) (fun N hN => ?_)
  case refine_2 =>
    refine dFor_of (ch.map rowD) (fun i ρ W2 => W2 = W' ∧ ∃ (rs' : List Rw) (x3 x4 : Option D), RnOk (m + i) rs' ∧ lk rs' = (ch.take i).foldl upF (lk es) ∧ ρ = [some (.sh (.tpf (es.map rowD))), some (.sh (rowsD ch)), some (.od (rs'.map kvD)), x3.map Sl.sh, x4.map Sl.sh]) (fun P hP => hP) ⟨rfl, rs, none, none, hr, hk, rfl⟩ (fun i d ρ W2 hd hI => ?_) (fun ρ W2 hI => ?_)
    · obtain ⟨rfl, rs', x3, x4, hr', hk', rfl⟩ := hI
      rw [List.getElem?_map] at hd
      cases q : ch[i]? with
      | none => rw [q] at hd; cases hd
      | some r =>
        rw [q] at hd
        cases hd
        have hrB := hc.row r (List.mem_of_getElem? q)
        have hlen : (rs'.map kvD).length < sizeLine := Nat.lt_of_lt_of_le (by rw [List.length_map]; have := hr'.len; have := hc.len; have := (List.getElem?_eq_some_iff.mp q).1; omega : (rs'.map kvD).length < 16777216) (sz _ (Nat.le_refl _))
        obtain ⟨w, v⟩ := r
        refine ⟨rfl, ⟨_, rfl⟩, Sum.inr (mkS w), rfl, hlen, rfl, putR rs' w v, some (.str (mkS w)), some (optD v), hr'.put hrB, ?_, ?_⟩
        · rw [List.take_add_one, q, List.foldl_append, ← hk']
          exact lk_putF rs' (w, v)
        · rw [← put_kv]; rfl
    · obtain ⟨rfl, rs', x3, x4, hr', hk', rfl⟩ := hI
      rw [List.length_map] at hr' hk'
      rw [List.take_length] at hk'
      exact hN _ _ ⟨rfl, rs', x3, x4, hr', hk', rfl⟩
  obtain ⟨rfl, rs', x3, x4, hr', hk', rfl⟩ := hI
  have hlen : rs'.length ≤ 54 := by have := hr'.len; have := hc.len; omega
  have hks : (rs'.map kvD).map (·.1) = (rs'.map fun r => mkS r.1).map Sum.inr := by rw [List.map_map, List.map_map]; rfl
  refine dLc_of (fun ds => ∃ ys : List Str, ds = ys.map D.str ∧ ys.Perm (rs'.map fun r => mkS r.1) ∧ PyProof.Rows.sortedS ys = true) (noOwn1 (fun o => by cases x3 <;> simp)) (fun P hP => ⟨_, hks, by rw [List.length_map]; omega, fun ys h1 h2 => hP _ ⟨ys, rfl, h1, h2⟩⟩) ?_
  rintro _ ⟨ys, rfl, hperm, hsort⟩
  obtain ⟨L, rfl, pL, oL⟩ := sort_rows hr'.nd hperm hsort
  obtain ⟨k1, k2⟩ := filt_ok hr' pL oL
  have get : ∀ r ∈ L, valD (((rs'.map kvD).map (·.1)).zip ((rs'.map kvD).map (·.2))) (Sum.inr (mkS r.1)) = some (optD r.2) := fun r hr2 => by
    rw [zip_fst_snd]; exact val_mem hr'.nd (pL.mem_iff.mp hr2)
  refine dLc_filtF L (fun r => .str (mkS r.1)) rowD (fun r => r.2.isSome) (noOwn1 (fun o => by cases x3 <;> simp)) (sz _ (by rw [pL.length_eq]; omega)) (fun P hP => by rw [List.map_map]; exact hP) (fun r hr2 P hP => ⟨Sum.inr (mkS r.1), optD r.2, rfl, get r hr2, ?_⟩) (fun r hr2 _ P hP => ⟨Sum.inr (mkS r.1), optD r.2, rfl, get r hr2, sz 2 (by decide), hP⟩) ?_
  · obtain ⟨w, v⟩ := r
    cases v <;> exact hP
  · have e : L.filter (fun r => r.2.isSome) = laidE es ch := k1.ext (n := m + ch.length) (he.laid hc.row) fun w => by rw [k2, hk', lk_laid he hc.row]
    rw [e]
    exact h
end K46

namespace K46
open PySem PySem.Spec L2 G TL C J
abbrev tpfD (es : List Rw) : D := .tpf (es.map rowD)
def pastsD (es : List Rw) (cs : List Cm) (n : Nat) : List D := (List.range n).map fun k => tpfD (past es cs k)
theorem pasts_len (es : List Rw) (cs : List Cm) (n : Nat) : (pastsD es cs n).length = n := by unfold pastsD; rw [List.length_map, List.length_range]
theorem pasts_one (es : List Rw) (cs : List Cm) : pastsD es cs 1 = [tpfD es] := by
  rw [show pastsD es cs 1 = [tpfD (past es cs 0)] from rfl, past_zero]
theorem pasts_at (es : List Rw) (cs : List Cm) {n k : Nat} (h : k < n) : atI (pastsD es cs n) (k : Int) = some (tpfD (past es cs k)) := by
  refine atI_of ?_
  unfold pastsD
  rw [List.getElem?_map, List.getElem?_range h]; rfl
theorem pasts_last (es : List Rw) (cs : List Cm) (n : Nat) : atI (pastsD es cs (n + 1)) (-1) = some (tpfD (past es cs n)) := by
  have e : atI (pastsD es cs (n + 1)) (-1) = (pastsD es cs (n + 1))[n]? := by
    unfold atI ixN
    rw [pasts_len, if_neg (by omega), if_pos (by omega)]
    show (pastsD es cs (n + 1))[(((n + 1 : Nat) : Int) + -1).toNat]? = _
    rw [show (((n + 1 : Nat) : Int) + -1).toNat = n by omega]
  rw [e]
  unfold pastsD
  rw [List.getElem?_map, List.getElem?_range (Nat.lt_succ_self n)]; rfl
theorem pasts_succ (es : List Rw) (cs : List Cm) (n : Nat) : pastsD es cs (n + 1) = pastsD es cs n ++ [tpfD (past es cs n)] := by
  unfold pastsD
  rw [List.range_succ, List.map_append]; rfl
theorem rd_pasts_of : Rd n_pasts_of 2 sp_pasts_of d_pasts_of := by
  rintro ds W Q Qx _ ⟨es, cs, rfl, he, hc, h⟩
  show d_pasts_of _ [some (.sh (tpfD es)), some (.sh (.tup (cs.map cmD))), none, none] W
  unfold d_pasts_of
  refine seq_gen (fun ρ W' => W' = W ∧ ρ = [some (.sh (tpfD es)), some (.sh (.tup (cs.map cmD))), some (.ol (pastsD es cs 1)), none]) (fun ρ W' hI => ?_) (fun N hN => ⟨sz 1 (by decide), hN _ _ ⟨rfl, by rw [pasts_one]; rfl⟩⟩)
  obtain ⟨rfl, rfl⟩ := hI
  refine seq_gen (fun ρ W2 => W2 = W' ∧ ∃ x3 : Option Sl, ρ = [some (.sh (tpfD es)), some (.sh (.tup (cs.map cmD))), some (.ol (pastsD es cs (cs.length + 1))), x3]) (fun ρ W2 hI => ?_) (fun N hN => ?_)
  · obtain ⟨rfl, x3, rfl⟩ := hI
    exact h
  refine dFor_of (cs.map cmD) (fun i ρ W2 => W2 = W' ∧ ∃ x3 : Option Sl, ρ = [some (.sh (tpfD es)), some (.sh (.tup (cs.map cmD))), some (.ol (pastsD es cs (i + 1))), x3]) (fun P hP => hP) ⟨rfl, none, rfl⟩ (fun i d ρ W2 hd hI => ?_) (fun ρ W2 hI => ?_)
  · obtain ⟨rfl, x3, rfl⟩ := hI
    rw [List.getElem?_map] at hd
    cases q : cs[i]? with
    | none => rw [q] at hd; cases hd
    | some c =>
      rw [q] at hd
      cases hd
      obtain ⟨hi, rfl⟩ := List.getElem?_eq_some_iff.mp q
      have hch := (hc.cm i hi).ch
      have hcl := hc.len
      refine ⟨⟨_, rfl⟩, ⟨_, rfl⟩, _, pasts_last es cs i, _, rfl, rfl, 10 + 4 * i, past es cs i, cs[i].ch, rfl, by omega, past_ok he hc i, hch, ?_⟩
      refine ⟨Nat.lt_of_lt_of_le (by rw [pasts_len]; omega : (pastsD es cs (i + 1)).length < 16777216) (sz _ (Nat.le_refl _)), rfl, some (.sh (cmD cs[i])), ?_⟩
      rw [← past_succ q, pasts_succ es cs (i + 1)]; rfl
  · obtain ⟨rfl, x3, rfl⟩ := hI
    rw [List.length_map]
    exact hN _ _ ⟨rfl, x3, rfl⟩
theorem rd_past_of : Rd n_past_of 3 sp_past_of d_past_of := by
  rintro ds W Q Qx _ ⟨e, hh, d, rfl, hnh, hnd, h⟩
  show d_past_of _ [some (.sh e), some (.sh hh), some (.sh d)] W
  unfold d_past_of
  rcases h with ⟨hne, h1, h2⟩ | ⟨es, rfl, he, h⟩
  · have ew : wk e = e := by
      rcases nc_cases hne with rfl | ⟨_, rfl⟩ | ⟨_, rfl⟩ | ⟨_, rfl⟩ | ⟨_, rfl⟩ | ⟨_, rfl⟩ <;> rfl
    exact ⟨rfl, wk e, rfl, by rw [ew]; exact hne, .inl ⟨by rw [ew]; exact h1, h2⟩⟩
  · refine ⟨rfl, rowsD es, rfl, nc_rows he (by decide), .inr ⟨ent_ok he, ?_⟩⟩
    rcases h with ⟨h1, h2⟩ | ⟨cs, rfl, hc, h⟩
    · exact ⟨rfl, hh, rfl, hnh, .inl ⟨h1, h2⟩⟩
    · refine ⟨rfl, _, rfl, hnh, .inr ⟨hist_ok hc, ?_⟩⟩
      refine ⟨rfl, 0, ((cs.map cmD).length : Int), d, rfl, hnd, ?_⟩
      rw [List.length_map]
      rcases h with ⟨h1, h2⟩ | ⟨k, hk, rfl, h2⟩
      · rcases nc_cases hnd with rfl | ⟨_, rfl⟩ | ⟨i, rfl⟩ | ⟨_, rfl⟩ | ⟨_, rfl⟩ | ⟨_, rfl⟩
        · exact h2
        · exact h2
        · have h1 : (decide ((0 : Int) ≤ i) && decide (i ≤ ((cs.length : Nat) : Int))) = false := h1
          show (if (!(decide ((0 : Int) ≤ i) && decide (i ≤ ((cs.length : Nat) : Int)))) = true then _ else _)
          rw [h1]
          exact h2
        · exact h2
        · exact h2
        · exact h2
      · show (if (!(decide ((0 : Int) ≤ (k : Int)) && decide ((k : Int) ≤ ((cs.length : Nat) : Int)))) = true then _ else _)
        rw [decide_eq_true (by omega), decide_eq_true (by omega)]
        refine hno ?_
        unfold dNext
        exact ⟨rfl, es, cs, rfl, he, hc, _, pasts_at es cs (by omega), h2⟩
theorem rd_changed : Rd n_changed 2 sp_changed d_changed := by
  rintro ds W Q Qx _ ⟨cs, k, c, rfl, hk, hc, h⟩
  show d_changed _ [some (.sh (.tup (cs.map cmD))), some (.sh (.int ((k : Int) + 1))), none, none] W
  unfold d_changed
  obtain ⟨hk', rfl⟩ := List.getElem?_eq_some_iff.mp hk
  have hch := (hc.cm k hk').ch
  have e1 : atI (cs.map cmD) ((k : Int) + 1 - 1) = some (cmD cs[k]) := by
    rw [show (k : Int) + 1 - 1 = (k : Int) by omega]
    exact atI_of (by rw [List.getElem?_map, hk]; rfl)
  refine dLc_map2 cs[k].ch (fun r => .str (mkS r.1)) (fun r => optD r.2) (fun r => .str (mkS r.1)) (noOwn2 (by simp) (by simp)) (sz _ (by have := hch.len; omega)) (fun P hP => ⟨_, e1, _, rfl, hP⟩) (fun r hr P hP => hP) ?_
  have e2 : cs[k].ch.map (fun r => D.str (mkS r.1)) = (cs[k].ch.map (·.1)).map fun l => D.str (mkS l) := by rw [List.map_map]; rfl
  rw [e2]
  exact h
theorem rd_share : Rd n_share 3 sp_share d_share := by
  rintro ds W Q Qx _ ⟨cs, i, j, a, b, rfl, ha, hb, hc, h⟩
  show d_share _ [some (.sh (.tup (cs.map cmD))), some (.sh (.int ((i : Int) + 1))), some (.sh (.int ((j : Int) + 1))), none] W
  unfold d_share
  have la : a.ch.length ≤ 4 := by
    obtain ⟨hk', rfl⟩ := List.getElem?_eq_some_iff.mp ha
    exact (hc.cm i hk').ch.len
  obtain ⟨f1, f2⟩ := flat_txs (b.ch.map (·.1))
  obtain ⟨A, hA⟩ : ∃ A : List Tx, A = a.ch.map (·.1) := ⟨_, rfl⟩
  refine dLc_mapF A (fun l => .str (mkS l)) (fun w => .bl (decide (w ∈ b.ch.map (·.1)))) (noOwn1 (by simp)) (sz _ (by rw [hA, List.length_map]; omega)) (fun P hP => ⟨rfl, cs, i, a, rfl, ha, hc, by rw [← hA]; exact hP⟩) (fun w hw P hP => ⟨rfl, cs, j, b, rfl, hb, hc, _, f1, rfl, f2, ?_⟩) ?_
  · show P (.bl (inV (.str (mkS w)) ((b.ch.map (·.1)).map fun l => V.str (mkS l)))) _ _
    rw [inV_txs]; exact hP
  · refine ⟨A.map fun w => decide (w ∈ b.ch.map (·.1)), bls_map _ _, ?_⟩
    rw [List.any_map, hA]
    exact h
end K46

namespace K46
open PySem PySem.Spec L2 G TL C J
theorem rd_law_given : Rd n_law_given 2 sp_law_given d_law_given := by
  rintro ds W Q Qx _ ⟨m, rs, es, t, rfl, hm, hr, he, hk, ht, h⟩
  show d_law_given _ [some (.sh (.dk (rs.map kvD))), some (.sh (ntD t)), none, none] W
  unfold d_law_given
  cases t with
  | v k x =>
    refine ⟨_, rfl, dEq_str ?_⟩
    rw [decide_eq_true rfl]
    refine ⟨_, rfl, ⟨_, _, rfl⟩, _, rfl, Sum.inr (mkS k), rfl, sz 3 (by decide), ?_⟩
    show Q (.tup [.str (Str.ofString "value"), .str (mkS k), (valD (((rs.map kvD).map (·.1)).zip ((rs.map kvD).map (·.2))) (Sum.inr (mkS k))).getD .non]) W
    rw [zip_fst_snd, get_lk hr hk]
    exact h
  | e lo hi rs0 =>
    refine ⟨_, rfl, dEq_str ?_⟩
    rw [decide_eq_false (fun q => ne_ve q.symm)]
    have hks : (rs.map kvD).map (·.1) = (rs.map fun r => mkS r.1).map Sum.inr := by rw [List.map_map, List.map_map]; rfl
    refine dLc_of (fun ds => ds = es.map (fun r => .str (mkS r.1)) ∧ ∀ r ∈ es, valD (rs.map kvD) (Sum.inr (mkS r.1)) = some (optD r.2)) (noOwn1 (by simp)) (fun P hP => ⟨_, hks, by rw [List.length_map]; have := hr.len; omega, fun ys h1 h2 => hP _ ?_⟩) ?_
    · obtain ⟨e1, e2⟩ := sort_es hr he hk h1 h2
      exact ⟨by rw [e1, List.map_map]; rfl, e2⟩
    rintro _ ⟨rfl, get⟩
    refine dLc_filtF es (fun r => .str (mkS r.1)) rowD (fun r => hasN (.e lo hi rs0) r.1) (noOwn1 (by simp)) (sz _ (by have := he.len; omega)) (fun P hP => hP) (fun r hr P hP => ⟨rfl, .e lo hi rs0, r.1, rfl, hP⟩) (fun r hr _ P hP => ⟨Sum.inr (mkS r.1), optD r.2, rfl, ?_, sz 2 (by decide), hP⟩) ?_
    · show valD (((rs.map kvD).map (·.1)).zip ((rs.map kvD).map (·.2))) _ = _
      rw [zip_fst_snd]; exact get r hr
    · exact ⟨_, rfl, _, rfl, sz 4 (by decide), h⟩
theorem rd_law_note : Rd n_law_note 3 sp_law_note d_law_note := by
  rintro ds W Q Qx _ ⟨p, ls, m, rs, es, n, rfl, hp, hm, hr, he, hk0, hs, h⟩
  show d_law_note _ [some (.sh (.ref p)), some (.sh (txsD ls)), some (.sh (.dk (rs.map kvD))), none, none, none] W
  unfold d_law_note
  obtain ⟨lne, llen, ltx⟩ := hp
  have hl5 : (ls.map fun l => D.str (mkS l)).length ≤ 6 := by rw [List.length_map]; exact llen
  refine seq_gen (fun ρ W' => ∃ w, TxB w ∧ WellOk W' p (n + 6) ∧ ρ = [some (.sh (.ref p)), some (.sh (txsD ls)), some (.sh (.dk (rs.map kvD))), some (.sh (.lst ([.non, .non] ++ (ls ++ [w]).map fun l => D.str (mkS l)))), none, none]) (fun ρ W' hI => ?_) (fun N hN => ?_)
  case refine_2 =>
    refine ⟨sz 2 (by decide), sz _ (by show 2 + _ ≤ _; omega), rfl, p, 2, n + 6, rfl, by decide, hs.less (by omega), fun w W1 pw lw hs => ⟨sz 1 (by decide), sz _ (by rw [List.length_append]; show 2 + _ + 1 ≤ _; omega), ?_⟩⟩
    refine hN _ _ ⟨w, ⟨by omega, pw⟩, hs, ?_⟩
    rw [List.map_append]; rfl
  obtain ⟨w, hw, hs, rfl⟩ := hI
  obtain ⟨T, hT⟩ : ∃ T, ls ++ [w] = T := ⟨_, rfl⟩
  have tT : ∀ l ∈ T, TxB l := fun l hl => by
    rw [← hT] at hl
    rcases List.mem_append.mp hl with hl | hl
    · exact ltx l hl
    · rw [List.mem_singleton.mp hl]; exact hw
  have lT : 1 ≤ T.length ∧ T.length ≤ 7 := by rw [← hT, List.length_append, List.length_singleton]; omega
  rw [hT]
  have el : ∀ d ∈ [D.non, .non] ++ T.map (fun l => D.str (mkS l)), ∃ o, OpB o ∧ d = optD o := fun d hd => by
    rcases List.mem_append.mp hd with hd | hd
    · simp only [List.mem_cons, List.not_mem_nil, or_false] at hd
      rcases hd with rfl | rfl <;> exact ⟨none, (fun v q => nomatch q), rfl⟩
    · rw [List.mem_map] at hd
      obtain ⟨l, hl, rfl⟩ := hd
      exact ⟨some l, fun v q => by cases q; exact tT l hl, rfl⟩
  have len : (([D.non, .non] ++ T.map (fun l => D.str (mkS l))).length : Int) = 2 + T.length := by rw [List.length_append, List.length_map]; show ((2 + T.length : Nat) : Int) = _; omega
  refine seq_gen (fun ρ W' => ∃ lo hi, OpB lo ∧ OpB hi ∧ WellOk W' p (n + 4) ∧ ρ = [some (.sh (.ref p)), some (.sh (txsD ls)), some (.sh (.dk (rs.map kvD))), some (.sh (.lst ([.non, .non] ++ T.map fun l => D.str (mkS l)))), some (.sh (optD lo)), some (.sh (optD hi))]) (fun ρ W' hI => ?_) (fun N hN => ?_)
  case refine_2 =>
    refine ⟨rfl, p, _, n + 5, rfl, hs.less (by omega), by rw [len]; omega, by rw [len]; omega, fun r1 W1 a1 b1 hs => ix_all a1 b1 fun z1 hz1 => ⟨rfl, p, _, n + 4, rfl, hs.less (by omega), by rw [len]; omega, by rw [len]; omega, fun r2 W2 a2 b2 hs => ix_all a2 b2 fun z2 hz2 => ?_⟩⟩
    obtain ⟨lo, h1, rfl⟩ := el z1 hz1
    obtain ⟨hi, h2, rfl⟩ := el z2 hz2
    exact hN _ _ ⟨lo, hi, h1, h2, hs, rfl⟩
  obtain ⟨lo, hi, h1, h2, hs, rfl⟩ := hI
  refine ⟨rfl, p, _, n + 3, rfl, hs, by decide, by decide, fun r3 W3 _ _ hs => dEq_int ?_⟩
  refine ite_d (fun _ => ?_) (fun _ => ?_)
  · refine ⟨sz 0 (by decide), sz 4 (by decide), rfl, m, rs, es, .e lo hi [], rfl, hm, hr, he, hk0, ⟨h1, h2, ⟨by simp, by simp, rfl⟩, by simp⟩, h (.e lo hi []) _ ⟨h1, h2, ⟨by simp, by simp, rfl⟩, by simp⟩ (hs.less (by omega))⟩
  · refine ⟨rfl, p, _, n + 2, rfl, hs, by show (0 : Int) < _ - 2; rw [len]; omega, by show (_ : Int) - 2 ≤ _; rw [len]; omega, fun r4 W4 a4 b4 hs => ?_⟩
    have b4 : r4 < (([D.non, .non] ++ T.map (fun l => D.str (mkS l))).length : Int) - 2 := b4
    rw [len] at b4
    obtain ⟨k, rfl⟩ : ∃ k : Nat, r4 = k := ⟨r4.toNat, by omega⟩
    have hk : k < T.length := by omega
    have e : atI ([D.non, .non] ++ T.map (fun l => D.str (mkS l))) (2 + (k : Int)) = some (.str (mkS T[k])) := by
      rw [show (2 : Int) + (k : Int) = ((k + 2 : Nat) : Int) by omega]
      refine atI_of ?_
      show ([D.non, .non] ++ T.map (fun l => D.str (mkS l)))[k + 2]? = _
      rw [List.getElem?_append_right (by simp)]
      show (T.map (fun l => D.str (mkS l)))[k + 2 - 2]? = _
      rw [Nat.add_sub_cancel, List.getElem?_map, List.getElem?_eq_getElem hk]; rfl
    exact ⟨_, e, sz 3 (by decide), rfl, m, rs, es, .v T[k] none, rfl, hm, hr, he, hk0, ⟨tT _ (List.getElem_mem hk), fun v q => by cases q⟩, h (.v T[k] none) _ ⟨tT _ (List.getElem_mem hk), fun v q => by cases q⟩ (hs.less (by omega))⟩
theorem rd_law_laid : Rd n_law_laid 2 sp_law_laid d_law_laid := by
  rintro ds W Q Qx _ ⟨m, rs, ch, rfl, hm, hr, hc, h⟩
  show d_law_laid _ [some (.sh (.dk (rs.map kvD))), some (.sh (rowsD ch)), none, none] W
  unfold d_law_laid
  refine seq_gen (fun ρ W' => W' = W ∧ ρ = [some (.od (rs.map kvD)), some (.sh (rowsD ch)), none, none]) (fun ρ W' hI => ?_) (fun N hN => ?_)
  case refine_2 =>
    show N [some (.od (((rs.map kvD).map (·.1)).zip ((rs.map kvD).map (·.2)))), some (.sh (rowsD ch)), none, none] W
    rw [zip_fst_snd]
    exact hN _ _ ⟨rfl, rfl⟩
  obtain ⟨rfl, rfl⟩ := hI
  refine seq_gen (fun ρ W2 => W2 = W' ∧ ∃ (rs' : List Rw) (x2 x3 : Option D), RsOk (m + ch.length) rs' ∧ lk rs' = ch.foldl upF (lk rs) ∧ ρ = [some (.od (rs'.map kvD)), some (.sh (rowsD ch)), x2.map Sl.sh, x3.map Sl.sh]) (fun ρ W2 hI => ?_) (fun N hN => ?_)
  · obtain ⟨rfl, rs', x2, x3, hr', hk', rfl⟩ := hI
    exact h rs' hr' hk'
  refine dFor_of (ch.map rowD) (fun i ρ W2 => W2 = W' ∧ ∃ (rs' : List Rw) (x2 x3 : Option D), RsOk (m + i) rs' ∧ lk rs' = (ch.take i).foldl upF (lk rs) ∧ ρ = [some (.od (rs'.map kvD)), some (.sh (rowsD ch)), x2.map Sl.sh, x3.map Sl.sh]) (fun P hP => hP) ⟨rfl, rs, none, none, hr, rfl, rfl⟩ (fun i d ρ W2 hd hI => ?_) (fun ρ W2 hI => ?_)
  · obtain ⟨rfl, rs', x2, x3, hr', hk', rfl⟩ := hI
    rw [List.getElem?_map] at hd
    cases q : ch[i]? with
    | none => rw [q] at hd; cases hd
    | some r =>
      rw [q] at hd
      cases hd
      have hrB := hc.row r (List.mem_of_getElem? q)
      have hlen : (rs'.map kvD).length < sizeLine := Nat.lt_of_lt_of_le (by rw [List.length_map]; have := hr'.len; have := hc.len; have := (List.getElem?_eq_some_iff.mp q).1; omega : (rs'.map kvD).length < 16777216) (sz _ (Nat.le_refl _))
      have hk2 : ∀ f : Tx → Option Tx, f = upF (lk rs') r → f = (ch.take (i + 1)).foldl upF (lk rs) := fun f hf => by
        rw [List.take_add_one, q, List.foldl_append, ← hk']; exact hf
      obtain ⟨w, v⟩ := r
      refine ⟨rfl, ?_⟩
      cases v with
      | none =>
        refine ⟨⟨_, rfl⟩, Sum.inr (mkS w), rfl, ?_⟩
        have pop : RsOk (m + (i + 1)) (rs'.filter fun r => decide (r.1 ≠ w)) := ⟨Nat.le_trans (List.length_filter_le _ _) (by have := hr'.len; omega), (hr'.nd).sublist ((List.filter_sublist).map _), fun r hr2 => hr'.row r ((List.mem_filter.mp hr2).1), fun r hr2 => hr'.some r ((List.mem_filter.mp hr2).1)⟩
        rw [val_lk hr'.some]
        cases e : lk rs' w with
        | none =>
          exact ⟨rfl, rs', some (.str (mkS w)), some .non, ⟨by have := hr'.len; omega, hr'.nd, hr'.row, hr'.some⟩, hk2 _ (by
            funext k
            show lk rs' k = if w = k then none else lk rs' k
            by_cases z : w = k
            · rw [if_pos z, ← z, e]
            · rw [if_neg z]), rfl⟩
        | some u =>
          refine ⟨rfl, _, some (.str (mkS w)), some .non, pop, hk2 _ (by
            funext k
            exact lk_drop rs' w k), ?_⟩
          rw [← drop_kv]; rfl
      | some v =>
        refine ⟨⟨_, rfl⟩, Sum.inr (mkS w), rfl, hlen, rfl, putR rs' w (some v), some (.str (mkS w)), some (.str (mkS v)), ⟨?_, put_keys _ _ _ hr'.nd, put_ok hr'.row hrB, put_some hr'.some⟩, hk2 _ (lk_putF rs' (w, some v)), ?_⟩
        · have := put_len rs' w (some v); have := hr'.len; omega
        · rw [← put_kv]; rfl
  · obtain ⟨rfl, rs', x2, x3, hr', hk', rfl⟩ := hI
    rw [List.length_map] at hr' hk'
    rw [List.take_length] at hk'
    exact hN _ _ ⟨rfl, rs', x2, x3, hr', hk', rfl⟩
theorem rd_law_barred : Rd n_law_barred 1 sp_law_barred d_law_barred := by
  rintro ds W Q Qx _ ⟨cs, rfl, hl, hc, h⟩
  show d_law_barred _ [some (.sh (.tup (cs.map cmD))), none, none, none] W
  unfold d_law_barred
  refine seq_gen (fun ρ W' => W' = W ∧ ρ = [some (.sh (.tup (cs.map cmD))), some (.sh (txsD [])), none, none]) (fun ρ W' hI => ?_) (fun N hN => ⟨sz 0 (by decide), hN _ _ ⟨rfl, rfl⟩⟩)
  obtain ⟨rfl, rfl⟩ := hI
  refine seq_gen (fun ρ W2 => W2 = W' ∧ ∃ (ls : List (List Nat)) (x2 x3 : Option D), ls = cs.flatMap (fun c => c.ch.map (·.1)) ∧ ρ = [some (.sh (.tup (cs.map cmD))), some (.sh (txsD ls)), x2.map Sl.sh, x3.map Sl.sh]) (fun ρ W2 hI => ?_) (fun N hN => ?_)
  · obtain ⟨rfl, ls, x2, x3, hls, rfl⟩ := hI
    rw [hls]; exact h
  refine dFor_of (cs.map cmD) (fun i ρ W2 => W2 = W' ∧ ∃ (ls : List (List Nat)) (x2 x3 : Option D), ls.length ≤ 4 * i ∧ ls = (cs.take i).flatMap (fun c => c.ch.map (·.1)) ∧ ρ = [some (.sh (.tup (cs.map cmD))), some (.sh (txsD ls)), x2.map Sl.sh, x3.map Sl.sh]) (fun P hP => hP) ⟨rfl, [], none, none, Nat.le_refl _, rfl, rfl⟩ (fun i d ρ W2 hd hI => ?_) (fun ρ W2 hI => ?_)
  · obtain ⟨rfl, ls, x2, x3, hls, hle, rfl⟩ := hI
    rw [List.getElem?_map] at hd
    cases q : cs[i]? with
    | none => rw [q] at hd; cases hd
    | some c =>
      rw [q] at hd
      cases hd
      have hi := (List.getElem?_eq_some_iff.mp q).1
      have hch := hc c (List.mem_of_getElem? q)
      refine dLc_mapF c.ch rowD (fun r => .str (mkS r.1)) (noOwn1 fun o => by cases x3 <;> simp) (sz _ (by have := hch.len; omega)) (fun P hP => ⟨_, rfl, hP⟩) (fun r hr P hP => ⟨_, rfl, hP⟩) ?_
      refine ⟨sz _ (by rw [List.length_map, List.length_map]; have := hch.len; omega), rfl, ls ++ c.ch.map (·.1), some (cmD c), x3, by rw [List.length_append, List.length_map]; have := hch.len; omega, by rw [List.take_add_one, q, List.flatMap_append, ← hle]; simp, ?_⟩
      unfold txsD
      rw [List.map_append, List.map_map]; rfl
  · obtain ⟨rfl, ls, x2, x3, hls, hle, rfl⟩ := hI
    rw [List.length_map, List.take_length] at hle
    exact hN _ _ ⟨rfl, ls, x2, x3, hle, rfl⟩
theorem rd_law_rows : Rd n_law_rows 2 sp_law_rows d_law_rows := by
  rintro ds W Q Qx _ ⟨p, ls, n, rfl, hp, hs, h⟩
  show d_law_rows _ [some (.sh (.ref p)), some (.sh (txsD ls)), none, none] W
  unfold d_law_rows
  have hl6 := hp.len
  refine seq_gen (fun ρ W' => W' = W ∧ ρ = [some (.sh (.ref p)), some (.sh (txsD ls)), some (.od []), none]) (fun ρ W' hI => ?_) (fun N hN => hN _ _ ⟨rfl, rfl⟩)
  obtain ⟨rfl, rfl⟩ := hI
  have put : ∀ {m : Nat} {rs : List Rw} {k v : Tx}, RsOk m rs → TxB k → TxB v → RsOk (m + 1) (putR rs k (some v)) := fun {m rs k v} hr hk hv => ⟨by have := put_len rs k (some v); have := hr.len; omega, put_keys _ _ _ hr.nd, put_ok hr.row ⟨hk, fun u q => by cases q; exact hv⟩, put_some hr.some⟩
  have small : ∀ {m : Nat} {rs : List Rw}, RsOk m rs → m ≤ 100 → (rs.map kvD).length < sizeLine := fun {m rs} hr hm => Nat.lt_of_lt_of_le (by rw [List.length_map]; have := hr.len; omega : (rs.map kvD).length < 16777216) (sz _ (Nat.le_refl _))
  refine seq_gen (fun ρ W' => ∃ (rs : List Rw) (x3 : Option Sl), RsOk 6 rs ∧ WellOk W' p (n + 10) ∧ ρ = [some (.sh (.ref p)), some (.sh (txsD ls)), some (.od (rs.map kvD)), x3]) (fun ρ W' hI => ?_) (fun N hN => ?_)
  case refine_2 =>
    refine dFor_of (ls.map fun l => .str (mkS l)) (fun i ρ W' => ∃ (rs : List Rw) (x3 : Option Sl), RsOk i rs ∧ WellOk W' p (n + (40 - 5 * i)) ∧ ρ = [some (.sh (.ref p)), some (.sh (txsD ls)), some (.od (rs.map kvD)), x3]) (fun P hP => hP) ⟨[], none, ⟨Nat.le_refl _, by simp, by simp, by simp⟩, hs, rfl⟩ (fun i d ρ W' hd hI => ?_) (fun ρ W' hI => ?_)
    · obtain ⟨rs, x3, hr, hs, rfl⟩ := hI
      rw [List.getElem?_map] at hd
      cases q : ls[i]? with
      | none => rw [q] at hd; cases hd
      | some l =>
        rw [q] at hd
        cases hd
        have hi := (List.getElem?_eq_some_iff.mp q).1
        have hl := hp.tx l (List.mem_of_getElem? q)
        obtain ⟨N0, hN0⟩ : ∃ N0, n + (40 - 5 * (i + 1)) = N0 := ⟨_, rfl⟩
        have hs : WellOk W' p (N0 + 5) := hs.less (by omega)
        refine ⟨rfl, p, 2, N0 + 4, rfl, hs, by decide, by decide, fun r W1 _ _ hs => dEq_int ?_⟩
        refine ite_d (fun _ => ?_) (fun _ => ?_)
        · refine ⟨rfl, p, 2, N0, rfl, by decide, hs, fun v W2 pv lv hs => ⟨⟨_, rfl⟩, Sum.inr (mkS l), rfl, small hr (by omega), putR rs l (some v), some (.sh (.str (mkS l))), put hr hl ⟨by omega, pv⟩, by rw [hN0]; exact hs, ?_⟩⟩
          rw [← put_kv]; rfl
        · exact ⟨rs, some (.sh (.str (mkS l))), hr.up (by omega), by rw [hN0]; exact hs.less (by omega), rfl⟩
    · obtain ⟨rs, x3, hr, hs, rfl⟩ := hI
      rw [List.length_map] at hr hs
      exact hN _ _ ⟨rs, x3, hr.up (by omega), hs.less (by omega), rfl⟩
  obtain ⟨rs, x3, hr, hs, rfl⟩ := hI
  refine seq_gen (fun ρ W' => ∃ (rs : List Rw) (x3 : Option Sl), RsOk 7 rs ∧ WellOk W' p n ∧ ρ = [some (.sh (.ref p)), some (.sh (txsD ls)), some (.od (rs.map kvD)), x3]) (fun ρ W' hI => ?_) (fun N hN => ?_)
  case refine_2 =>
    refine ⟨rfl, p, 3, n + 9, rfl, hs, by decide, by decide, fun r W1 _ _ hs => dEq_int ?_⟩
    refine ite_d (fun _ => ?_) (fun _ => ?_)
    · refine ⟨rfl, p, 2, n + 5, rfl, by decide, hs, fun v W2 pv lv hs => ⟨⟨_, rfl⟩, rfl, p, 2, n + 1, rfl, by decide, hs, fun k W3 pk lk' hs => ⟨Sum.inr (mkS k), rfl, small hr (by decide), hN _ _ ⟨putR rs k (some v), x3, put hr ⟨by omega, pk⟩ ⟨by omega, pv⟩, hs.less (by omega), ?_⟩⟩⟩⟩
      rw [← put_kv]; rfl
    · exact hN _ _ ⟨rs, x3, hr.up (by decide), hs.less (by omega), rfl⟩
  obtain ⟨rs, x3, hr, hs, rfl⟩ := hI
  exact h rs _ hr hs
theorem rd_law_entries : Rd n_law_entries 1 sp_law_entries d_law_entries := by
  rintro ds W Q Qx _ ⟨m, rs, es, rfl, hm, hr, he, hk, h⟩
  show d_law_entries _ [some (.sh (.dk (rs.map kvD))), none] W
  unfold d_law_entries
  have hks : (rs.map kvD).map (·.1) = (rs.map fun r => mkS r.1).map Sum.inr := by rw [List.map_map, List.map_map]; rfl
  refine dLc_of (fun ds => ds = es.map (fun r => .str (mkS r.1)) ∧ ∀ r ∈ es, valD (rs.map kvD) (Sum.inr (mkS r.1)) = some (optD r.2)) (noOwn1 (by simp)) (fun P hP => ⟨_, hks, by rw [List.length_map]; have := hr.len; omega, fun ys h1 h2 => hP _ ?_⟩) ?_
  · obtain ⟨e1, e2⟩ := sort_es hr he hk h1 h2
    exact ⟨by rw [e1, List.map_map]; rfl, e2⟩
  rintro _ ⟨rfl, get⟩
  refine dLc_mapF es (fun r => .str (mkS r.1)) rowD (noOwn1 (by simp)) (sz _ (by have := he.len; omega)) (fun P hP => hP) (fun r hr P hP => ⟨Sum.inr (mkS r.1), optD r.2, rfl, ?_, sz 2 (by decide), hP⟩) ?_
  · show valD (((rs.map kvD).map (·.1)).zip ((rs.map kvD).map (·.2))) _ = _
    rw [zip_fst_snd]; exact get r hr
  · exact h
theorem rd_law_changes : Rd n_law_changes 3 sp_law_changes d_law_changes := by
  rintro ds W Q Qx _ ⟨p, ls, m, n, rfl, hll, htx, hm, hs, h⟩
  show d_law_changes _ [some (.sh (.ref p)), some (.sh (txsD ls)), some (.sh (.int m)), none, none, none, none] W
  unfold d_law_changes
  refine seq_gen (fun ρ W' => W' = W ∧ ρ = [some (.sh (.ref p)), some (.sh (txsD ls)), some (.sh (.int m)), some (.od []), none, none, none]) (fun ρ W' hI => ?_) (fun N hN => hN _ _ ⟨rfl, rfl⟩)
  obtain ⟨rfl, rfl⟩ := hI
  refine seq_gen (fun ρ W' => WellOk W' p n ∧ ∃ (rs : List Rw) (x4 x5 : Option D), ρ = [some (.sh (.ref p)), some (.sh (txsD ls)), some (.sh (.int m)), some (.od (rs.map kvD)), x4.map Sl.sh, x5.map Sl.sh, none] ∧ rs.length ≤ m ∧ (rs.map (·.1)).Nodup ∧ ∀ r ∈ rs, RowB r) (fun ρ W' hI => ?_) (fun N hN => ?_)
  case refine_2 =>
    refine dFor_mk ?_
    refine ⟨rfl, p, _, n + 39, rfl, hs.less (by omega), by omega, by omega, fun q W1 hq0 hq1 hs1 => ⟨by omega, by omega, ?_⟩⟩
    obtain ⟨q, rfl⟩ : ∃ k : Nat, q = k := ⟨q.toNat, by omega⟩
    refine ⟨fun i ρ W' => WellOk W' p (n + (39 - 6 * i)) ∧ ∃ (rs : List Rw) (x4 x5 : Option D), ρ = [some (.sh (.ref p)), some (.sh (txsD ls)), some (.sh (.int m)), some (.od (rs.map kvD)), x4.map Sl.sh, x5.map Sl.sh, none] ∧ rs.length ≤ i ∧ (rs.map (·.1)).Nodup ∧ ∀ r ∈ rs, RowB r, ⟨hs1, [], none, none, rfl, Nat.le_refl _, by simp, by simp⟩, fun i d ρ W' hd hI => ?_, fun ρ W' hI => ?_⟩
    · obtain ⟨hs, rs, x4, x5, rfl, hl, hn, hr⟩ := hI
      have hi : i < q := by have := (List.getElem?_eq_some_iff.mp hd).1; rwa [rng_len, Int.toNat_natCast] at this
      obtain ⟨N0, hN0⟩ : ∃ N0, n + (39 - 6 * (i + 1)) = N0 := ⟨_, rfl⟩
      have hs : WellOk W' p (N0 + 6) := hs.less (by omega)
      refine seq_gen (fun ρ W' => ∃ v, TxB v ∧ WellOk W' p (N0 + 2) ∧ ρ = [some (.sh (.ref p)), some (.sh (txsD ls)), some (.sh (.int m)), some (.od (rs.map kvD)), some (.sh d), some (.sh (.str (mkS v))), none]) (fun ρ W' hI => ?_) (fun N hN => ?_)
      case refine_2 => exact ⟨rfl, p, 3, N0 + 2, rfl, by decide, hs, fun v W2 pv lv hs => hN _ _ ⟨v, ⟨by omega, pv⟩, hs, rfl⟩⟩
      obtain ⟨v, hv, hs, rfl⟩ := hI
      refine ⟨sz 0 (by decide), dNe_nil (good_txs 63 htx) ?_⟩
      cases ls with
      | nil => exact ⟨by rw [hN0]; exact hs.less (by omega), rs, some d, some (.str (mkS v)), rfl, by omega, hn, hr⟩
      | cons l0 lr =>
        have hlen : (rs.map kvD).length < sizeLine := Nat.lt_of_lt_of_le (by rw [List.length_map]; omega : (rs.map kvD).length < 16777216) (sz _ (Nat.le_refl _))
        have hL : (((l0 :: lr).map fun l => D.str (mkS l)).length : Int) = ((l0 :: lr).length : Nat) := by rw [List.length_map]
        have hL1 : 1 ≤ (l0 :: lr).length := by simp
        refine ⟨sz 3 (by decide), rfl, p, 3, N0 + 1, rfl, hs, by decide, by decide, fun r1 W2 a1 b1 hs => ix_all a1 b1 fun z hz => ⟨⟨_, rfl⟩, rfl, p, _, N0, rfl, hs, by rw [hL]; omega, by rw [hL]; omega, fun r2 W3 a2 b2 hs => ix_all a2 b2 fun y hy => ?_⟩⟩
        rw [List.mem_map] at hy
        obtain ⟨w, hw, rfl⟩ := hy
        have hz' : ∃ o, OpB o ∧ z = optD o := by
          simp only [List.mem_cons, List.not_mem_nil, or_false] at hz
          rcases hz with rfl | rfl | rfl
          · exact ⟨some v, fun u q => by cases q; exact hv, rfl⟩
          · exact ⟨none, (fun u q => nomatch q), rfl⟩
          · exact ⟨some v, fun u q => by cases q; exact hv, rfl⟩
        obtain ⟨o, ho, rfl⟩ := hz'
        refine ⟨Sum.inr (mkS w), rfl, hlen, by rw [hN0]; exact hs, putR rs w o, some d, some (.str (mkS v)), ?_, ?_, put_keys _ _ _ hn, put_ok hr ⟨htx w hw, ho⟩⟩
        · rw [← put_kv]; rfl
        · have := put_len rs w o; omega
    · obtain ⟨hs, rs, x4, x5, rfl, hl, hn, hr⟩ := hI
      rw [rng_len, Int.toNat_natCast] at hl
      exact hN _ _ ⟨hs.less (by omega), rs, x4, x5, rfl, by omega, hn, hr⟩
  obtain ⟨hs, rs, x4, x5, rfl, hl, hn, hr⟩ := hI
  have hks : (rs.map kvD).map (·.1) = (rs.map fun r => mkS r.1).map Sum.inr := by rw [List.map_map, List.map_map]; rfl
  show dLc (iSeq (dFresh (dSortD (dVar 3)))) (gdName 6) dYes (dTup (dCons (dVar 6) (dCons (dDGet (dVar 3) (dVar 6)) dNil))) [6] [some (.sh (.ref p)), some (.sh (txsD ls)), some (.sh (.int m)), some (.sh (.dk (rs.map kvD))), x4.map Sl.sh, x5.map Sl.sh, none] W' (fun ds _ W' => Q (.tup ds) W') (fun cls x _ W' => Qx cls x W')
  refine dLc_of (fun ds => ∃ ys : List Str, ds = ys.map D.str ∧ ys.Perm (rs.map fun r => mkS r.1) ∧ PyProof.Rows.sortedS ys = true) (noOwn1 (by simp)) (fun P hP => ⟨_, hks, by rw [List.length_map]; omega, fun ys h1 h2 => hP _ ⟨ys, rfl, h1, h2⟩⟩) ?_
  rintro _ ⟨ys, rfl, hperm, hsort⟩
  have nd : (rs.map fun r => mkS r.1).Nodup := by
    have : (rs.map fun r => mkS r.1) = (rs.map (·.1)).map mkS := by rw [List.map_map]; rfl
    rw [this]
    exact List.Pairwise.map mkS (fun a b q z => q (mkS_inj.mp z)) hn
  have look' : ∀ y : Str, ∃ r : Rw, y ∈ ys → r ∈ rs ∧ mkS r.1 = y ∧ valD (rs.map kvD) (Sum.inr y) = some (optD r.2) := fun y => by
    by_cases hy : y ∈ ys
    · have := hperm.mem_iff.mp hy
      rw [List.mem_map] at this
      obtain ⟨r, hr', rfl⟩ := this
      obtain ⟨r', h1, h2, h3⟩ := val_kv r.1 rs (List.mem_map.mpr ⟨r, hr', rfl⟩)
      exact ⟨r', fun _ => ⟨h1, by rw [h2], h3⟩⟩
    · exact ⟨([], none), fun q => absurd q hy⟩
  obtain ⟨f, hf⟩ := Classical.axiomOfChoice look'
  refine dLc_mapF ys D.str (fun y => rowD (f y)) (noOwn1 (by simp)) (sz _ (by rw [hperm.length_eq, List.length_map]; omega)) (fun P hP => hP) (fun y hy P hP => ?_) ?_
  · obtain ⟨f1, f2, f3⟩ := hf y hy
    refine ⟨Sum.inr y, optD (f y).2, rfl, ?_, sz 2 (by decide), ?_⟩
    · show valD (((rs.map kvD).map (·.1)).zip ((rs.map kvD).map (·.2))) (Sum.inr y) = _
      rw [zip_fst_snd]; exact f3
    · have e : rowD (f y) = .tup [.str y, optD (f y).2] := by
        unfold rowD; rw [f2]
      rw [e] at hP
      exact hP
  · have e : ys.map (fun y => rowD (f y)) = (ys.map f).map rowD := by rw [List.map_map]; rfl
    rw [e]
    have hkeys : (ys.map f).map (·.1) = ys.map tl := by
      rw [List.map_map]
      refine List.map_congr_left fun y hy => ?_
      exact congrArg tl (hf y hy).2.1
    refine h (ys.map f) W' ⟨?_, fun r hr' => ?_, ?_⟩ hs
    · rw [List.length_map, hperm.length_eq, List.length_map]; omega
    · rw [List.mem_map] at hr'
      obtain ⟨y, hy, rfl⟩ := hr'
      exact hr _ (hf y hy).1
    · rw [hkeys]
      exact sorted_ord hsort (hperm.nodup_iff.mpr nd)
end K46

namespace K46
open PySem PySem.Spec L2 G TL C J
theorem rd_law_history : Rd n_law_history 5 sp_law_history d_law_history := by
  rintro ds W Q Qx _ ⟨p, ls, rs, es, m, n, rfl, hp, hr, _, _, hm, hs, h⟩
  show d_law_history _ [some (.sh (.ref p)), some (.sh (txsD ls)), some (.sh (.dk (rs.map kvD))), some (.sh (.int m)), some (.sh (.int 4)), none, none, none, none, none, none, none, none, none] W
  unfold d_law_history
  refine seq_gen (fun ρ W' => W' = W ∧ ρ = [some (.sh (.ref p)), some (.sh (txsD ls)), some (.sh (.dk (rs.map kvD))), some (.sh (.int m)), some (.sh (.int 4)), some (.ol ([rs].map fun rs => .dk (rs.map kvD))), some (.sh (.tup (([] : List Cm).map cmD))), none, none, none, none, none, none, none]) (fun ρ W' hI => ?_) (fun N hN => ⟨sz 1 (by decide), sz 0 (by decide), hN _ _ ⟨rfl, rfl⟩⟩)
  obtain ⟨rfl, rfl⟩ := hI
  refine seq_gen (fun ρ W' => ∃ (ps : List (List Rw)) (cs : List Cm) (x7 x8 x9 x10 x11 x12 x13 : Option Sl), CsQ 4 cs ∧ cs.length = m ∧ WellOk W' p n ∧ ρ = [some (.sh (.ref p)), some (.sh (txsD ls)), some (.sh (.dk (rs.map kvD))), some (.sh (.int m)), some (.sh (.int 4)), some (.ol (ps.map fun rs => .dk (rs.map kvD))), some (.sh (.tup (cs.map cmD))), x7, x8, x9, x10, x11, x12, x13]) (fun ρ W2 hI => ?_) (fun N hN => ?_)
  · obtain ⟨ps, cs, x7, x8, x9, x10, x11, x12, x13, hc, hl, hs, rfl⟩ := hI
    exact h cs _ hc hl hs
  refine dFor_of (rng 0 m) (fun i ρ W' => ∃ (ps : List (List Rw)) (cs : List Cm) (x7 x8 x9 x10 x11 x12 x13 : Option D), ps.length = i + 1 ∧ cs.length = i ∧ (∀ q ∈ ps, RsOk (8 + 4 * i) q) ∧ (∀ k (h : k < cs.length), CmOk k cs[k] ∧ cs[k].nts.length ≤ 4) ∧ WellOk W' p (n + (1000 - 100 * i)) ∧ ρ = [some (.sh (.ref p)), some (.sh (txsD ls)), some (.sh (.dk (rs.map kvD))), some (.sh (.int m)), some (.sh (.int 4)), some (.ol (ps.map fun rs => .dk (rs.map kvD))), some (.sh (.tup (cs.map cmD))), x7.map Sl.sh, x8.map Sl.sh, x9.map Sl.sh, x10.map Sl.sh, x11.map Sl.sh, x12.map Sl.sh, x13.map Sl.sh])
    (fun P hP => ⟨by omega, by omega, hP⟩) ⟨[rs], [], none, none, none, none, none, none, none, rfl, rfl, fun q hq => by rw [List.mem_singleton.mp hq]; exact hr, fun k hk => absurd hk (by simp), hs, rfl⟩ (fun i d ρ W' hd hI => ?_) (fun ρ W' hI => ?_)
  case refine_2 =>
    obtain ⟨ps, cs, x7, x8, x9, x10, x11, x12, x13, hpl, hcl, hps, hcs, hs, rfl⟩ := hI
    rw [rng_len] at hcl
    exact hN _ _ ⟨ps, cs, _, _, _, _, _, _, _, ⟨⟨by omega, fun k hk => (hcs k hk).1⟩, fun c hc => by
      obtain ⟨k, hk, rfl⟩ := List.getElem_of_mem hc
      exact (hcs k hk).2⟩, hcl, hs.less (by omega), rfl⟩
  obtain ⟨ps, cs, x7, x8, x9, x10, x11, x12, x13, hpl, hcl, hps, hcs, hs, rfl⟩ := hI
  have hi : i < m := by have := (List.getElem?_eq_some_iff.mp hd).1; rwa [rng_len] at this
  obtain rfl : d = .int i := by
    have := hd
    unfold rng at this
    rw [List.getElem?_map, List.getElem?_range hi] at this
    simp at this
    exact this.symm
  obtain ⟨N0, hN0⟩ : ∃ N0, n + (1000 - 100 * (i + 1)) = N0 := ⟨_, rfl⟩
  have hs : WellOk W' p (N0 + 100) := hs.less (by omega)
  -- the snapshot
  refine seq_gen (fun ρ W' => ∃ s : Nat, s ≤ i ∧ WellOk W' p (N0 + 98) ∧ ρ = [some (.sh (.ref p)), some (.sh (txsD ls)), some (.sh (.dk (rs.map kvD))), some (.sh (.int m)), some (.sh (.int 4)), some (.ol (ps.map fun rs => .dk (rs.map kvD))), some (.sh (.tup (cs.map cmD))), some (.sh (.int i)), some (.sh (.int s)), x9.map Sl.sh, x10.map Sl.sh, x11.map Sl.sh, x12.map Sl.sh, x13.map Sl.sh]) (fun ρ W' hI => ?_) (fun N hN => ?_)
  case refine_2 =>
    refine ⟨rfl, p, _, N0 + 99, rfl, hs, by omega, by omega, fun r1 W1 a1 b1 hs => ⟨sz 3 (by decide), rfl, p, 3, N0 + 98, rfl, hs, by decide, by decide, fun r2 W2 a2 b2 hs => ix_all a2 b2 fun z hz => ?_⟩⟩
    have : ∃ s : Nat, s ≤ i ∧ z = .int s := by
      simp only [List.mem_cons, List.not_mem_nil, or_false] at hz
      rcases hz with rfl | rfl | rfl
      · exact ⟨i, Nat.le_refl _, rfl⟩
      · exact ⟨r1.toNat, by omega, by rw [Int.toNat_of_nonneg a1]⟩
      · exact ⟨0, Nat.zero_le _, rfl⟩
    obtain ⟨s, hsi, rfl⟩ := this
    exact hN _ _ ⟨s, hsi, hs, rfl⟩
  obtain ⟨s, hsi, hs, rfl⟩ := hI
  -- what is barred
  refine seq_gen (fun ρ W' => ∃ bl : List (List Nat), bl.length ≤ 100 ∧ WellOk W' p (N0 + 98) ∧ ρ = [some (.sh (.ref p)), some (.sh (txsD ls)), some (.sh (.dk (rs.map kvD))), some (.sh (.int m)), some (.sh (.int 4)), some (.ol (ps.map fun rs => .dk (rs.map kvD))), some (.sh (.tup (cs.map cmD))), some (.sh (.int i)), some (.sh (.int s)), some (.sh (txsD bl)), x10.map Sl.sh, x11.map Sl.sh, x12.map Sl.sh, x13.map Sl.sh]) (fun ρ W' hI => ?_) (fun N hN => ?_)
  case refine_2 =>
    refine ⟨rfl, cs.drop s, ?_, by rw [List.length_drop]; omega, fun c hc => ?_, hN _ _ ⟨_, ?_, hs, rfl⟩⟩
    · show [D.tup (cutD (cs.map cmD) (some (s : Int)) none)] = _
      rw [cut_map_a]
    · obtain ⟨k, hk, rfl⟩ := List.getElem_of_mem (List.mem_of_mem_drop hc)
      exact (hcs k hk).1.ch
    · have : ∀ l : List Cm, (∀ c ∈ l, c.ch.length ≤ 4) → (l.flatMap fun c => c.ch.map (·.1)).length ≤ 4 * l.length := fun l => by
        induction l with
        | nil => intro _; simp
        | cons c l ih =>
          intro hl
          have := ih fun x hx => hl x (List.mem_cons_of_mem _ hx)
          have := hl c List.mem_cons_self
          rw [List.flatMap_cons, List.length_append, List.length_map, List.length_cons]; omega
      have := this (cs.drop s) fun c hc => by
        obtain ⟨k, hk, rfl⟩ := List.getElem_of_mem (List.mem_of_mem_drop hc)
        exact (hcs k hk).1.ch.len
      rw [List.length_drop] at this; omega
  obtain ⟨bl, hbl, hs, rfl⟩ := hI
  -- the notes
  obtain ⟨q0, hq0⟩ : ∃ q, ps[s]? = some q := ⟨_, List.getElem?_eq_getElem (by omega : s < ps.length)⟩
  have hq0m := List.mem_of_getElem? hq0
  have hq : RsOk 60 q0 := (hps q0 hq0m).up (by omega)
  obtain ⟨e0, he0, hk0⟩ := can_es hq
  refine seq_gen (fun ρ W' => ∃ ts : List Nt, ts.length ≤ 4 ∧ (∀ t ∈ ts, NtOk t) ∧ WellOk W' p (N0 + 57) ∧ ρ = [some (.sh (.ref p)), some (.sh (txsD ls)), some (.sh (.dk (rs.map kvD))), some (.sh (.int m)), some (.sh (.int 4)), some (.ol (ps.map fun rs => .dk (rs.map kvD))), some (.sh (.tup (cs.map cmD))), some (.sh (.int i)), some (.sh (.int s)), some (.sh (txsD bl)), some (.sh (.tup (ts.map ntD))), x11.map Sl.sh, x12.map Sl.sh, x13.map Sl.sh]) (fun ρ W' hI => ?_) (fun N hN => ?_)
  case refine_2 =>
    refine dLc_eachB (fun ds W' => ds.length ≤ 4 ∧ WellOk W' p (N0 + 97)) (fun j W' => WellOk W' p (N0 + 57 + 10 * (4 - j))) (fun d => ∃ t, NtOk t ∧ d = ntD t) (noOwn1 fun o => by cases x12 <;> simp) (fun P hP => ?_) (fun ds W' hb => ⟨sz _ (by omega), hb.2⟩) (fun ds W' hb j d W2 hj hs2 P hP => ?_) (fun ds W' hb ys W2 hyl hya hs2 => ?_)
    · refine ⟨rfl, p, _, N0 + 97, rfl, hs, by decide, by decide, fun r W1 hr0 hr1 hs1 => ?_⟩
      exact ⟨by omega, by omega, hP _ _ ⟨by rw [rng_len]; omega, hs1⟩⟩
    · have hj' : j < ds.length := (List.getElem?_eq_some_iff.mp hj).1
      have := hb.1
      have at_s : atI (ps.map fun rs => D.dk (rs.map kvD)) (s : Int) = some (.dk (q0.map kvD)) := atI_of (by rw [List.getElem?_map, hq0]; rfl)
      refine ⟨⟨_, rfl⟩, _, at_s, rfl, p, ls, 60, q0, e0, N0 + 57 + 10 * (4 - (j + 1)), rfl, hp, Nat.le_refl _, hq, he0, hk0, hs2.less (by omega), fun t W3 ht hs3 => hP _ _ ⟨gvE e0 t, gv_ok he0 (Nat.le_refl _) ht, rfl⟩ hs3⟩
    · obtain ⟨ts, rfl, htl, hto⟩ := all_nts hya
      have := hb.1
      exact hN _ _ ⟨ts, by omega, hto, hs2.less (by omega), rfl⟩
  obtain ⟨ts, htl, hto, hs, rfl⟩ := hI
  -- the changes
  refine seq_gen (fun ρ W' => ∃ ch : List Rw, ChOk 4 ch ∧ WellOk W' p (N0 + 17) ∧ ρ = [some (.sh (.ref p)), some (.sh (txsD ls)), some (.sh (.dk (rs.map kvD))), some (.sh (.int m)), some (.sh (.int 4)), some (.ol (ps.map fun rs => .dk (rs.map kvD))), some (.sh (.tup (cs.map cmD))), some (.sh (.int i)), some (.sh (.int s)), some (.sh (txsD bl)), some (.sh (.tup (ts.map ntD))), some (.sh (rowsD ch)), x12.map Sl.sh, x13.map Sl.sh]) (fun ρ W' hI => ?_) (fun N hN => ?_)
  case refine_2 =>
    obtain ⟨f1, f2⟩ := flat_txs bl
    refine dLc_filtF ls (fun l => .str (mkS l)) (fun l => .str (mkS l)) (fun l => !inV (.str (mkS l)) (bl.map fun l => V.str (mkS l))) (noOwn1 fun o => by cases x13 <;> simp) (sz _ (by have := hp.len; omega)) (fun P hP => hP) (fun l hl P hP => ⟨_, f1, rfl, f2, hP⟩) (fun l hl _ P hP => hP) ?_
    obtain ⟨zs, hz⟩ : ∃ zs, ls.filter (fun l => !inV (.str (mkS l)) (bl.map fun l => V.str (mkS l))) = zs := ⟨_, rfl⟩
    have sub : zs.Sublist ls := by rw [← hz]; exact List.filter_sublist
    rw [hz]
    exact ⟨rfl, p, zs, 4, N0 + 17, rfl, by have := sub.length_le; have := hp.len; omega, fun l hl => hp.tx l (sub.subset hl), by decide, hs, fun ch W2 hch hs => hN _ _ ⟨ch, hch, hs, rfl⟩⟩
  obtain ⟨ch, hch, hs, rfl⟩ := hI
  -- the commit
  refine seq_gen (fun ρ W' => ∃ b : Bool, WellOk W' p (N0 + 16) ∧ ρ = [some (.sh (.ref p)), some (.sh (txsD ls)), some (.sh (.dk (rs.map kvD))), some (.sh (.int m)), some (.sh (.int 4)), some (.ol (ps.map fun rs => .dk (rs.map kvD))), some (.sh (.tup ((cs ++ [Cm.mk s b ts ch]).map cmD))), some (.sh (.int i)), some (.sh (.int s)), some (.sh (txsD bl)), some (.sh (.tup (ts.map ntD))), some (.sh (rowsD ch)), x12.map Sl.sh, x13.map Sl.sh]) (fun ρ W' hI => ?_) (fun N hN => ?_)
  case refine_2 =>
    refine ⟨rfl, p, 4, N0 + 16, rfl, hs, by decide, by decide, fun r W2 a b hs => ⟨sz 4 (by decide), sz 1 (by decide), sz _ (by rw [List.length_map]; show cs.length + 1 ≤ _; omega), hN _ _ ⟨decide (0 < r), hs, ?_⟩⟩⟩
    rw [List.map_append]; rfl
  obtain ⟨b, hs, rfl⟩ := hI
  -- the next past
  obtain ⟨z, hz, ez⟩ := at_last (L := ps.map fun rs => D.dk (rs.map kvD)) (by intro q; rw [List.map_eq_nil_iff] at q; rw [q] at hpl; simp at hpl)
  rw [List.mem_map] at hz
  obtain ⟨q1, hq1, rfl⟩ := hz
  refine ⟨⟨_, rfl⟩, ⟨_, rfl⟩, _, ez, rfl, 8 + 4 * i, q1, ch, rfl, by omega, hps q1 hq1, ⟨by have := hch.len; omega, hch.row, hch.ord⟩, fun rs' hrs' _ => ?_⟩
  refine ⟨Nat.lt_of_lt_of_le (by rw [List.length_map]; omega : (ps.map fun rs => D.dk (rs.map kvD)).length < 16777216) (sz _ (Nat.le_refl _)), ps ++ [rs'], cs ++ [Cm.mk s b ts ch], some (.int i), some (.int s), some (txsD bl), some (.tup (ts.map ntD)), some (rowsD ch), x12, x13, by rw [List.length_append, hpl]; rfl, by rw [List.length_append, hcl]; rfl, fun q hq => ?_, fun k hk => ?_, hs.less (by omega), ?_⟩
  · have up : ∀ {a b : Nat} {q : List Rw}, a ≤ b → RsOk a q → RsOk b q := fun h1 h2 => ⟨by have := h2.len; omega, h2.nd, h2.row, h2.some⟩
    rcases List.mem_append.mp hq with hq | hq
    · exact up (by omega) (hps q hq)
    · rw [List.mem_singleton.mp hq]; exact up (by have := hch.len; omega) hrs'
  · by_cases hk' : k < cs.length
    · rw [List.getElem_append_left hk']; exact hcs k hk'
    · have : k = cs.length := by rw [List.length_append, List.length_singleton] at hk; omega
      subst this
      rw [List.getElem_append_right (Nat.le_refl _)]
      simp only [Nat.sub_self, List.getElem_cons_zero]
      exact ⟨⟨by show s ≤ cs.length; omega, by show ts.length ≤ 9; omega, hto, hch⟩, htl⟩
  · rw [List.map_append, List.map_append]; rfl
end K46

namespace K46
open PySem PySem.Spec L2 G TL C J
theorem rd_is_snapshot_history : Rd n_is_snapshot_history 2 sp_is_snapshot_history d_is_snapshot_history := by
  rintro ds W Q Qx _ ⟨e, hh, rfl, hnh, h⟩
  show d_is_snapshot_history _ [some (.sh e), some (.sh hh), none, none, none, none, none, none, none, none] W
  unfold d_is_snapshot_history
  rcases h with ⟨hne, h1, h2⟩ | ⟨es, rfl, he, h⟩
  · have ew : wk e = e := by
      rcases nc_cases hne with rfl | ⟨_, rfl⟩ | ⟨_, rfl⟩ | ⟨_, rfl⟩ | ⟨_, rfl⟩ | ⟨_, rfl⟩ <;> rfl
    exact ⟨rfl, wk e, rfl, by rw [ew]; exact hne, .inl ⟨by rw [ew]; exact h1, h2⟩⟩
  refine ⟨rfl, rowsD es, rfl, nc_rows he (by decide), .inr ⟨ent_ok he, ?_⟩⟩
  rcases h with ⟨h1, h2⟩ | ⟨cs, rfl, hc, h⟩
  · exact ⟨rfl, hh, rfl, hnh, .inl ⟨h1, h2⟩⟩
  refine ⟨rfl, _, rfl, hnh, .inr ⟨hist_ok hc, ?_⟩⟩
  have hcl := hc.len
  dsimp only
  refine seq_gen (fun ρ W' => W' = W ∧ ρ = [some (.sh (tpfD es)), some (.sh (.tup (cs.map cmD))), some (.sh (.lst (pastsD es cs (cs.length + 1)))), none, none, none, none, none, none, none]) (fun ρ W' hI => ?_) (fun N hN => ⟨rfl, es, cs, rfl, he, hc, hN _ _ ⟨rfl, rfl⟩⟩)
  obtain ⟨rfl, rfl⟩ := hI
  refine seq_gen (fun ρ W2 => W2 = W' ∧ snapB es cs = true) (fun ρ W2 hI => ?_) (fun N hN => ?_)
  · obtain ⟨rfl, hs⟩ := hI
    rw [hs] at h
    exact h
  refine dFor_of (rng 1 cs.length) (fun i ρ W2 => W2 = W' ∧ (∀ k, k < i → ∀ c, cs[k]? = some c → comB es cs k c = true) ∧ ∃ (x3 x4 x5 x6 x7 x8 x9 : Option D), ρ = [some (.sh (tpfD es)), some (.sh (.tup (cs.map cmD))), some (.sh (.lst (pastsD es cs (cs.length + 1)))), x3.map Sl.sh, x4.map Sl.sh, x5.map Sl.sh, x6.map Sl.sh, x7.map Sl.sh, x8.map Sl.sh, x9.map Sl.sh]) (fun P hP => ?_) ⟨rfl, fun k hk => absurd hk (by omega), none, none, none, none, none, none, none, rfl⟩ (fun i d ρ W2 hd hI => ?_) (fun ρ W2 hI => ?_)
  · refine ⟨⟨by decide, by decide, ?_, ?_⟩, ?_⟩
    · rw [List.length_map]; omega
    · rw [List.length_map]; omega
    · show P (rng 1 ((((cs.map cmD).length : Int) + 1) - 1).toNat) _ _
      rw [List.length_map, show ((cs.length : Int) + 1 - 1).toNat = cs.length by omega]; exact hP
  · obtain ⟨rfl, hs, x3, x4, x5, x6, x7, x8, x9, rfl⟩ := hI
    have hi : i < cs.length := by have := (List.getElem?_eq_some_iff.mp hd).1; rwa [rng_length] at this
    obtain rfl : d = .int (1 + (i : Int)) := by
      have := hd
      unfold rng at this
      rw [List.getElem?_map, List.getElem?_range hi] at this
      simp at this
      exact this.symm
    obtain ⟨c, hc2⟩ : ∃ c, cs[i]? = some c := ⟨_, List.getElem?_eq_getElem hi⟩
    have hcm : CmOk i c := by
      obtain ⟨_, rfl⟩ := List.getElem?_eq_some_iff.mp hc2
      exact hc.cm i hi
    have e1 : atI (cs.map cmD) (1 + (i : Int) - 1) = some (cmD c) := by
      rw [show (1 : Int) + (i : Int) - 1 = (i : Int) by omega]
      exact atI_of (by rw [List.getElem?_map, hc2]; rfl)
    have hsn := hcm.snap
    refine seq_gen (fun ρ W3 => W3 = W2 ∧ ρ = [some (.sh (tpfD es)), some (.sh (.tup (cs.map cmD))), some (.sh (.lst (pastsD es cs (cs.length + 1)))), some (.sh (.int (1 + (i : Int)))), some (.sh (.int c.snap)), some (.sh (.bl c.ser)), some (.sh (.tup (c.nts.map ntD))), some (.sh (rowsD c.ch)), x8.map Sl.sh, x9.map Sl.sh]) (fun ρ W3 hI => ?_) (fun N hN => ⟨_, e1, rfl, hN _ _ ⟨rfl, rfl⟩⟩)
    obtain ⟨rfl, rfl⟩ := hI
    have bad : comB es cs i c = false → Q (.bl false) W3 := fun hb => by
      rw [snap_false hc2 hb] at h; exact h
    refine seq_gen (fun ρ W4 => W4 = W3 ∧ c.nts.all (tellsB (past es cs c.snap)) = true ∧ ρ = [some (.sh (tpfD es)), some (.sh (.tup (cs.map cmD))), some (.sh (.lst (pastsD es cs (cs.length + 1)))), some (.sh (.int (1 + (i : Int)))), some (.sh (.int c.snap)), some (.sh (.bl c.ser)), some (.sh (.tup (c.nts.map ntD))), some (.sh (rowsD c.ch)), x8.map Sl.sh, x9.map Sl.sh]) (fun ρ W4 hI => ?_) (fun N hN => ?_)
    case refine_2 =>
      refine dLc_mapF c.nts ntD (fun t => .bl (tellsB (past es cs c.snap) t)) (noOwn1 fun o => by cases x9 <;> simp) (sz _ (by have := hcm.many; omega)) (fun P hP => hP) (fun t ht P hP => ⟨_, pasts_at es cs (by omega), rfl, 10 + 4 * c.snap, past es cs c.snap, t, rfl, by omega, past_ok he hc c.snap, hcm.nts t ht, hP⟩) ?_
      refine ⟨c.nts.map (tellsB (past es cs c.snap)), bls_map _ _, ?_⟩
      rw [List.all_map]
      show (if (!c.nts.all (id ∘ tellsB (past es cs c.snap))) = true then _ else _)
      have e2 : c.nts.all (id ∘ tellsB (past es cs c.snap)) = c.nts.all (tellsB (past es cs c.snap)) := rfl
      rw [e2]
      cases ha : c.nts.all (tellsB (past es cs c.snap)) with
      | false => exact bad (by unfold comB; rw [ha]; rfl)
      | true => exact hN _ _ ⟨rfl, ha, rfl⟩
    obtain ⟨rfl, ha, rfl⟩ := hI
    refine dLc_mapF (List.range (i - c.snap)) (fun j => .int ((c.snap : Int) + 1 + (j : Int))) (fun j => .bl (optB (fun x => ovB x c) ((cs.take i).drop c.snap)[j]?)) (noOwn1 fun o => by cases x8 <;> simp) (sz _ (by rw [List.length_range]; omega)) (fun P hP => ?_) (fun j hj P hP => ?_) ?_
    · refine ⟨⟨by omega, by omega, by omega, by omega⟩, ?_⟩
      rw [show ((1 : Int) + (i : Int) - ((c.snap : Int) + 1)).toNat = i - c.snap by omega]
      exact hP
    · rw [List.mem_range] at hj
      obtain ⟨b, hb⟩ : ∃ b, cs[c.snap + j]? = some b := ⟨_, List.getElem?_eq_getElem (by omega)⟩
      have hb2 : ((cs.take i).drop c.snap)[j]? = some b := by
        rw [List.getElem?_drop, List.getElem?_take_of_lt (by omega)]; exact hb
      rw [hb2] at hP
      refine ⟨rfl, cs, c.snap + j, i, b, c, ?_, hb, hc2, hc, hP⟩
      rw [show ((c.snap + j : Nat) : Int) + 1 = (c.snap : Int) + 1 + (j : Int) by omega, show (i : Int) + 1 = 1 + (i : Int) by omega]
    · refine ⟨(List.range (i - c.snap)).map fun j => (optB (fun x => ovB x c) ((cs.take i).drop c.snap)[j]?), bls_map _ _, ?_⟩
      rw [List.any_map]
      have hl : ((cs.take i).drop c.snap).length = i - c.snap := by rw [List.length_drop, List.length_take]; omega
      have e3 := any_idx (fun x => ovB x c) ((cs.take i).drop c.snap)
      rw [hl] at e3
      show (if ((List.range (i - c.snap)).any fun j => (optB (fun x => ovB x c) ((cs.take i).drop c.snap)[j]?)) = true then _ else _)
      rw [e3]
      cases hv : ((cs.take i).drop c.snap).any fun x => ovB x c with
      | true => exact bad (by unfold comB; rw [hv]; simp)
      | false =>
        refine ⟨rfl, fun k hk c' hc' => ?_, some (.int (1 + (i : Int))), some (.int c.snap), some (.bl c.ser), some (.tup (c.nts.map ntD)), some (rowsD c.ch), x8, x9, rfl⟩
        by_cases hk' : k < i
        · exact hs k hk' c' hc'
        · have : k = i := by omega
          subst this
          rw [hc2] at hc'; cases hc'
          unfold comB; rw [ha, hv]; rfl
  · obtain ⟨rfl, hs, _⟩ := hI
    rw [rng_length] at hs
    exact hN _ _ ⟨rfl, snap_true hs⟩
end K46

namespace K46
open PySem PySem.Spec L2 G TL C J
def dksD (ps : List (List Rw)) : List D := ps.map fun rs => .dk (rs.map kvD)
theorem dks_at {ps : List (List Rw)} {k : Nat} {q : List Rw} (h : ps[k]? = some q) : atI (dksD ps) (k : Int) = some (.dk (q.map kvD)) := by
  refine atI_of ?_
  unfold dksD
  rw [List.getElem?_map, h]; rfl
theorem dks_last {ps : List (List Rw)} {k : Nat} {q : List Rw} (hl : ps.length = k + 1) (h : ps[k]? = some q) : atI (dksD ps) (-1) = some (.dk (q.map kvD)) := by
  have e : atI (dksD ps) (-1) = (dksD ps)[k]? := by
    unfold atI ixN
    have : (dksD ps).length = k + 1 := by unfold dksD; rw [List.length_map, hl]
    rw [this, if_neg (by omega), if_pos (by omega)]
    show (dksD ps)[(((k + 1 : Nat) : Int) + -1).toNat]? = _
    rw [show (((k + 1 : Nat) : Int) + -1).toNat = k by omega]
  rw [e]
  unfold dksD
  rw [List.getElem?_map, h]; rfl
/-- the dicts of the pasts, so far -/
def PsOk (es : List Rw) (cs : List Cm) (ps : List (List Rw)) : Prop := ∀ k q, ps[k]? = some q → RsOk (8 + 4 * k) q ∧ lk q = lk (past es cs k)
theorem PsOk.add {es : List Rw} {cs : List Cm} {ps : List (List Rw)} (h : PsOk es cs ps) {q : List Rw} (hq : RsOk (8 + 4 * ps.length) q ∧ lk q = lk (past es cs ps.length)) : PsOk es cs (ps ++ [q]) := fun k r hr => by
  by_cases hk : k < ps.length
  · rw [List.getElem?_append_left hk] at hr
    exact h k r hr
  · have : k = ps.length := by
      have := (List.getElem?_eq_some_iff.mp hr).1
      rw [List.length_append, List.length_singleton] at this; omega
    subst this
    rw [List.getElem?_append_right (Nat.le_refl _), Nat.sub_self] at hr
    cases hr
    exact hq
theorem rd_law_is_snapshots : Rd n_law_is_snapshots 2 sp_law_is_snapshots d_law_is_snapshots := by
  rintro ds W Q Qx _ ⟨rs, es, cs, rfl, hr, he, hk, hc, h⟩
  show d_law_is_snapshots _ [some (.sh (.dk (rs.map kvD))), some (.sh (.tup (cs.map cmD))), none, none, none, none, none, none, none, none, none] W
  unfold d_law_is_snapshots
  have hcl := hc.len
  have he10 := he.up (n := 10) (by decide)
  refine seq_gen (fun ρ W' => W' = W ∧ ρ = [some (.sh (.dk (rs.map kvD))), some (.sh (.tup (cs.map cmD))), some (.ol (dksD [rs])), none, none, none, none, none, none, none, none]) (fun ρ W' hI => ?_) (fun N hN => ⟨sz 1 (by decide), hN _ _ ⟨rfl, rfl⟩⟩)
  obtain ⟨rfl, rfl⟩ := hI
  refine seq_gen (fun ρ W2 => W2 = W' ∧ snapB es cs = true ∧ ∃ (ps : List (List Rw)) (x3 x4 x5 x6 x7 x8 x9 x10 : Option Sl), ρ = [some (.sh (.dk (rs.map kvD))), some (.sh (.tup (cs.map cmD))), some (.ol (dksD ps)), x3, x4, x5, x6, x7, x8, x9, x10]) (fun ρ W2 hI => ?_) (fun N hN => ?_)
  · obtain ⟨rfl, hs, ps, x3, x4, x5, x6, x7, x8, x9, x10, rfl⟩ := hI
    rw [hs] at h
    exact h
  have ps0 : PsOk es cs [rs] := fun k q hq => by
    have : k = 0 := by have := (List.getElem?_eq_some_iff.mp hq).1; simp at this; omega
    subst this
    cases hq
    rw [past_zero]
    exact ⟨hr, hk.symm⟩
  refine dFor_of (cs.map cmD) (fun i ρ W2 => W2 = W' ∧ (∀ k, k < i → ∀ c, cs[k]? = some c → comB es cs k c = true) ∧ ∃ (ps : List (List Rw)) (x3 x4 x5 x6 x7 x8 x9 x10 : Option D), ps.length = i + 1 ∧ PsOk es cs ps ∧ ρ = [some (.sh (.dk (rs.map kvD))), some (.sh (.tup (cs.map cmD))), some (.ol (dksD ps)), x3.map Sl.sh, x4.map Sl.sh, x5.map Sl.sh, x6.map Sl.sh, x7.map Sl.sh, x8.map Sl.sh, x9.map Sl.sh, x10.map Sl.sh]) (fun P hP => hP) ⟨rfl, fun k hk => absurd hk (by omega), [rs], none, none, none, none, none, none, none, none, rfl, ps0, rfl⟩ (fun i d ρ W2 hd hI => ?_) (fun ρ W2 hI => ?_)
  · obtain ⟨rfl, hs, ps, x3, x4, x5, x6, x7, x8, x9, x10, hpl, hps, rfl⟩ := hI
    rw [List.getElem?_map] at hd
    cases hc2 : cs[i]? with
    | none => rw [hc2] at hd; cases hd
    | some c =>
      rw [hc2] at hd
      cases hd
      have hi := (List.getElem?_eq_some_iff.mp hc2).1
      have hcm : CmOk i c := by
        obtain ⟨_, rfl⟩ := List.getElem?_eq_some_iff.mp hc2
        exact hc.cm i hi
      have hsn := hcm.snap
      have bad : comB es cs i c = false → Q (.bl false) W2 := fun hb => by
        rw [snap_false hc2 hb] at h; exact h
      obtain ⟨q0, hq0⟩ : ∃ q, ps[c.snap]? = some q := ⟨_, List.getElem?_eq_getElem (by omega)⟩
      obtain ⟨hq1, hq2⟩ := hps c.snap q0 hq0
      have hP := past_ok he10 hc c.snap
      refine ⟨rfl, ?_⟩
      simp only [gdCons, gdNil, gdName]
      show dSeq _ _ _ [some (.sh (.dk (rs.map kvD))), some (.sh (.tup (cs.map cmD))), some (.ol (dksD ps)), some (.sh (.int c.snap)), some (.sh (.bl c.ser)), some (.sh (.tup (c.nts.map ntD))), some (.sh (rowsD c.ch)), x7.map Sl.sh, x8.map Sl.sh, x9.map Sl.sh, x10.map Sl.sh] _
      refine seq_gen (fun ρ W4 => W4 = W2 ∧ c.nts.all (tellsB (past es cs c.snap)) = true ∧ ρ = [some (.sh (.dk (rs.map kvD))), some (.sh (.tup (cs.map cmD))), some (.ol (dksD ps)), some (.sh (.int c.snap)), some (.sh (.bl c.ser)), some (.sh (.tup (c.nts.map ntD))), some (.sh (rowsD c.ch)), x7.map Sl.sh, x8.map Sl.sh, x9.map Sl.sh, x10.map Sl.sh]) (fun ρ W4 hI => ?_) (fun N hN => ?_)
      case refine_2 =>
        refine dLc_filtF c.nts ntD ntD (fun t => !tellsB (past es cs c.snap) t) (noOwn1 fun o => by cases x8 <;> simp) (sz _ (by have := hcm.many; omega)) (fun P hP => hP) (fun t ht P hP2 => ?_) (fun t ht _ P hP => hP) ?_
        · refine ⟨⟨_, rfl⟩, _, dks_at hq0, rfl, 60, q0, past es cs c.snap, t, rfl, Nat.le_refl _, hq1.up (by omega), hP.up (by omega), hq2.symm, hcm.nts t ht, ?_⟩
          exact dne_nt (gv_ok hP (by omega) (hcm.nts t ht)) (hcm.nts t ht) hP2
        · refine ⟨sz 0 (by decide), dNe_nil (goods_nts fun t ht => hcm.nts t (List.mem_filter.mp ht).1) ?_⟩
          have e2 : ((c.nts.filter fun t => !tellsB (past es cs c.snap) t).map ntD).isEmpty = c.nts.all (tellsB (past es cs c.snap)) := by
            rw [List.isEmpty_map, isEmpty_filter, all_not_any, Bool.not_not]
          rw [e2]
          cases ha : c.nts.all (tellsB (past es cs c.snap)) with
          | false => exact bad (by unfold comB; rw [ha]; rfl)
          | true => exact hN _ _ ⟨rfl, ha, rfl⟩
      obtain ⟨rfl, ha, rfl⟩ := hI
      obtain ⟨B, hB⟩ : ∃ B, (((cs.take i).drop c.snap).flatMap fun d => d.ch.map (·.1)) = B := ⟨_, rfl⟩
      refine seq_gen (fun ρ W5 => W5 = W4 ∧ ρ = [some (.sh (.dk (rs.map kvD))), some (.sh (.tup (cs.map cmD))), some (.ol (dksD ps)), some (.sh (.int c.snap)), some (.sh (.bl c.ser)), some (.sh (.tup (c.nts.map ntD))), some (.sh (rowsD c.ch)), some (.sh (txsD B)), x8.map Sl.sh, x9.map Sl.sh, x10.map Sl.sh]) (fun ρ W5 hI => ?_) (fun N hN => ?_)
      case refine_2 =>
        have hcut : cutD (cs.map cmD) (some (c.snap : Int)) (some (((dksD ps).length : Int) - 1)) = ((cs.take i).drop c.snap).map cmD := by
          have : ((dksD ps).length : Int) - 1 = (i : Int) := by unfold dksD; rw [List.length_map, hpl]; omega
          rw [this]
          exact cut_map_ab cmD cs c.snap i (by omega)
        refine ⟨rfl, (cs.take i).drop c.snap, ?_, by rw [List.length_drop, List.length_take]; omega, fun d hd => ?_, ?_⟩
        · show [D.tup (cutD (cs.map cmD) (some (c.snap : Int)) (some (((dksD ps).length : Int) - 1)))] = _
          rw [hcut]
        · obtain ⟨k, hk, rfl⟩ := List.getElem_of_mem (List.mem_of_mem_take (List.mem_of_mem_drop hd))
          exact (hc.cm k hk).ch
        · rw [hB]
          exact hN _ _ ⟨rfl, rfl⟩
      obtain ⟨rfl, rfl⟩ := hI
      refine seq_gen (fun ρ W6 => W6 = W5 ∧ (((cs.take i).drop c.snap).any fun d => ovB d c) = false ∧ ρ = [some (.sh (.dk (rs.map kvD))), some (.sh (.tup (cs.map cmD))), some (.ol (dksD ps)), some (.sh (.int c.snap)), some (.sh (.bl c.ser)), some (.sh (.tup (c.nts.map ntD))), some (.sh (rowsD c.ch)), some (.sh (txsD B)), x8.map Sl.sh, x9.map Sl.sh, x10.map Sl.sh]) (fun ρ W6 hI => ?_) (fun N hN => ?_)
      case refine_2 =>
        obtain ⟨f1, f2⟩ := flat_txs B
        refine dLc_filt2 c.ch (fun r => .str (mkS r.1)) (fun r => optD r.2) (fun r => .str (mkS r.1)) (fun r => decide (r.1 ∈ B)) (noOwn2 (fun o => by cases x9 <;> simp) (fun o => by cases x10 <;> simp)) (sz _ (by have := hcm.ch.len; omega)) (fun P hP => hP) (fun r hr2 P hP => ⟨_, f1, rfl, f2, ?_⟩) (fun r hr2 _ P hP => hP) ?_
        · show P (inV (.str (mkS r.1)) (B.map fun l => V.str (mkS l))) _ _
          rw [inV_txs]; exact hP
        · have e3 : (c.ch.filter fun r => decide (r.1 ∈ B)).map (fun r => D.str (mkS r.1)) = ((c.ch.filter fun r => decide (r.1 ∈ B)).map (·.1)).map fun l => D.str (mkS l) := by rw [List.map_map]; rfl
          rw [e3]
          refine ⟨sz 0 (by decide), dNe_nil (good_txs 63 fun l hl => ?_) ?_⟩
          · rw [List.mem_map] at hl
            obtain ⟨r, hr2, rfl⟩ := hl
            exact (hcm.ch.row r (List.mem_filter.mp hr2).1).1
          have e2 : (((c.ch.filter fun r => decide (r.1 ∈ B)).map (·.1)).map fun l => D.str (mkS l)).isEmpty = !((cs.take i).drop c.snap).any fun d => ovB d c := by
            rw [List.isEmpty_map, List.isEmpty_map, isEmpty_filter, ← hB, ov_any]
          rw [e2, Bool.not_not]
          cases hv : ((cs.take i).drop c.snap).any fun d => ovB d c with
          | true => exact bad (by unfold comB; rw [hv]; simp)
          | false => exact hN _ _ ⟨rfl, hv, rfl⟩
      obtain ⟨rfl, hv, rfl⟩ := hI
      obtain ⟨q1, hq3⟩ : ∃ q, ps[i]? = some q := ⟨_, List.getElem?_eq_getElem (by omega)⟩
      obtain ⟨hq4, hq5⟩ := hps i q1 hq3
      refine ⟨⟨_, rfl⟩, ⟨_, rfl⟩, _, dks_last hpl hq3, rfl, 8 + 4 * i, q1, c.ch, rfl, by omega, hq4, ⟨by have := hcm.ch.len; omega, hcm.ch.row, hcm.ch.ord⟩, fun rs' hrs' hlk => ?_⟩
      refine ⟨Nat.lt_of_lt_of_le (by unfold dksD; rw [List.length_map, hpl]; omega : (dksD ps).length < 16777216) (sz _ (Nat.le_refl _)), rfl, fun k hk' c' hc' => ?_, ps ++ [rs'], some (.int c.snap), some (.bl c.ser), some (.tup (c.nts.map ntD)), some (rowsD c.ch), some (txsD B), x8, x9, x10, by rw [List.length_append, hpl]; rfl, hps.add ⟨?_, ?_⟩, ?_⟩
      · by_cases hk2 : k < i
        · exact hs k hk2 c' hc'
        · have : k = i := by omega
          subst this
          rw [hc2] at hc'; cases hc'
          unfold comB; rw [ha, hv]; rfl
      · exact hrs'.up (by have := hcm.ch.len; omega)
      · rw [hpl, past_succ hc2, lk_laid (past_ok he10 hc i) hcm.ch.row, hlk, hq5]
      · unfold dksD; rw [List.map_append]; rfl
  · obtain ⟨rfl, hs, ps, x3, x4, x5, x6, x7, x8, x9, x10, hpl, hps, rfl⟩ := hI
    rw [List.length_map] at hs
    exact hN _ _ ⟨rfl, snap_true hs, ps, _, _, _, _, _, _, _, _, rfl⟩
end K46

namespace K46
open PySem PySem.Spec L2 G TL C J
theorem rd_law_told : Rd n_law_told 3 sp_law_told d_law_told := by
  rintro ds W Q Qx _ ⟨e, hh, d, rfl, hnh, hnd, h⟩
  show d_law_told _ [some (.sh e), some (.sh hh), some (.sh d), none] W
  unfold d_law_told
  refine ⟨rfl, e, hh, d, rfl, hnh, hnd, ?_⟩
  rcases h with ⟨hne, h1, h2⟩ | ⟨es, rfl, he, h⟩
  · exact .inl ⟨hne, h1, Or.inl ⟨by simp, h2⟩⟩
  refine .inr ⟨es, rfl, he, ?_⟩
  rcases h with ⟨h1, h2⟩ | ⟨cs, rfl, hc, h⟩
  · exact .inl ⟨h1, Or.inr ⟨by simp, Or.inl ⟨by simp, h2⟩⟩⟩
  refine .inr ⟨cs, rfl, hc, ?_⟩
  rcases h with ⟨h1, h2⟩ | ⟨k, hk, rfl, h2⟩
  · exact .inl ⟨h1, Or.inr ⟨by simp, Or.inr ⟨by simp, Or.inl ⟨by simp, h2⟩⟩⟩⟩
  · exact .inr ⟨k, hk, rfl, h2⟩
theorem rd_law_judged : Rd n_law_judged 2 sp_law_judged d_law_judged := by
  rintro ds W Q Qx _ ⟨e, v, rfl, hne, hnv, h⟩
  show d_law_judged _ [some (.sh e), some (.sh v), none] W
  unfold d_law_judged
  refine ⟨rfl, e, v, rfl, hne, hnv, ?_⟩
  rcases h with ⟨h1, h2⟩ | ⟨es, rfl, he, h⟩
  · exact .inl ⟨h1, Or.inl ⟨by simp, h2⟩⟩
  refine .inr ⟨es, rfl, he, ?_⟩
  rcases h with ⟨h1, h2⟩ | ⟨t, rfl, ht, h2⟩
  · exact .inl ⟨h1, h2⟩
  · exact .inr ⟨t, rfl, ht, h2⟩
theorem rd_law_snapshots_told : Rd n_law_snapshots_told 2 sp_law_snapshots_told d_law_snapshots_told := by
  rintro ds W Q Qx _ ⟨e, hh, rfl, hnh, h⟩
  show d_law_snapshots_told _ [some (.sh e), some (.sh hh), none] W
  unfold d_law_snapshots_told
  refine ⟨rfl, e, hh, rfl, hnh, ?_⟩
  rcases h with ⟨hne, h1, h2⟩ | ⟨es, rfl, he, h⟩
  · exact .inl ⟨hne, h1, Or.inl ⟨by simp, h2⟩⟩
  refine .inr ⟨es, rfl, he, ?_⟩
  rcases h with ⟨h1, h2⟩ | ⟨cs, rfl, hc, h⟩
  · exact .inl ⟨h1, Or.inr ⟨by simp, Or.inl ⟨by simp, h2⟩⟩⟩
  · exact .inr ⟨cs, rfl, hc, h⟩
theorem ent_app {A : List D} {x : D} (h : isRowM false x = false) : isEntD (.tup (A ++ [x])) = false := by
  show ((A ++ [x]).all (isRowM false) && _) = false
  rw [List.all_append]
  simp [h]
theorem ent_dup {S : List Rw} (h : S ≠ []) : isEntD (.tup (S.map rowD ++ (S.take 1).map rowD)) = false := by
  rw [← List.map_append]
  show (((S ++ S.take 1).map rowD).all (isRowM false) && ordL (((S ++ S.take 1).map rowD).map keyL)) = false
  have e2 : ((S ++ S.take 1).map rowD).map keyL = (S ++ S.take 1).map (·.1) := by
    rw [List.map_map]
    exact List.map_congr_left fun r _ => rfl
  rw [e2]
  cases S with
  | nil => exact absurd rfl h
  | cons x r =>
    cases q : ordL (((x :: r) ++ (x :: r).take 1).map (·.1)) with
    | false => rw [Bool.and_false]
    | true =>
      have pw := ord_pw q
      rw [List.take_succ_cons, List.take_zero, List.cons_append, List.map_cons, List.pairwise_cons] at pw
      exact absurd (pw.1 x.1 (by simp)) (List.lt_irrefl _)
theorem hist_app {A : List D} {x : D} (h : isComD ((A.length : Int) + 1) x = false) : isHistD (.tup (A ++ [x])) = false := by
  show ((List.range (A ++ [x]).length).all fun (k : Nat) => isComD ((k : Int) + 1) ((A ++ [x]).getD k .non)) = false
  rw [List.all_eq_false]
  refine ⟨A.length, List.mem_range.mpr (by simp), ?_⟩
  have : (A ++ [x]).getD A.length .non = x := by
    rw [List.getD_eq_getElem?_getD, List.getElem?_append_right (Nat.le_refl _)]; simp
  rw [this, h]; decide
theorem niceB {n B : Nat} {d : D} (h : (D.good n d && (iOk d && decide (wt d ≤ B))) = true) : Nice n B d := by
  rw [Bool.and_eq_true, Bool.and_eq_true, decide_eq_true_eq] at h
  exact ⟨h.1, h.2.1, h.2.2⟩
theorem consts_e : ([D.non, .int 0, .str (Str.ofString ""), .tup [.tup [.str (Str.ofString "a"), .int 1]], .tup [.tup [.str (Str.ofString "b"), .str (Str.ofString "v")], .tup [.str (Str.ofString "a"), .str (Str.ofString "v")]], .tup [.tup [.non, .str (Str.ofString "v")]], .tup [.lst [.str (Str.ofString "a"), .str (Str.ofString "v")]], .tup [.tup [.str (Str.ofString "a\n"), .str (Str.ofString "v")]]] : List D).all (fun d => (D.good 5 d && (iOk d && decide (wt d ≤ 400))) && !isEntD d) = true := by decide +kernel
theorem rd_law_odd_entries : Rd n_law_odd_entries 2 sp_law_odd_entries d_law_odd_entries := by
  rintro ds W Q Qx _ ⟨p, es, n, rfl, he, hs, h⟩
  show d_law_odd_entries _ [some (.sh (.ref p)), some (.sh (rowsD es)), none, none] W
  unfold d_law_odd_entries
  obtain ⟨S, hS⟩ : ∃ S : List Rw, es ++ [([123], some [125])] = S := ⟨_, rfl⟩
  have c1 : Str.ofString "{" = mkS [123] := by decide +kernel
  have c2 : Str.ofString "}" = mkS [125] := by decide +kernel
  have nS : NiceL 10 20000 (S.map rowD) := by
    rw [← hS]
    have := niceL_rows 9 11 (rs := es ++ [([123], some [125])]) (by rw [List.length_append]; have := he.len; show _ + 1 ≤ _; omega) (fun r hr => by
      rcases List.mem_append.mp hr with hr | hr
      · exact he.row r hr
      · rw [List.mem_singleton.mp hr]
        exact ⟨⟨by decide, by unfold Pr; decide⟩, fun v q => by cases q; exact ⟨by decide, by unfold Pr; decide⟩⟩)
    exact this.up (Nat.le_refl _) (by decide)
  have lS : (S.map rowD).length ≤ 11 := by rw [List.length_map, ← hS, List.length_append]; have := he.len; show _ + 1 ≤ _; omega
  have neS : S ≠ [] := by rw [← hS]; simp
  refine seq_gen (fun ρ W' => W' = W ∧ ρ = [some (.sh (.ref p)), some (.sh (rowsD es)), some (.sh (.tup (S.map rowD))), none]) (fun ρ W' hI => ?_) (fun N hN => ?_)
  case refine_2 =>
    refine ⟨sz 2 (by decide), sz 1 (by decide), sz _ (by rw [List.length_map]; show es.length + 1 ≤ _; have := he.len; omega), hN _ _ ⟨rfl, ?_⟩⟩
    rw [← hS, List.map_append, c1, c2]; rfl
  obtain ⟨rfl, rfl⟩ := hI
  obtain ⟨T, hT⟩ : ∃ T, S.map rowD = T := ⟨_, rfl⟩
  have fin : ∀ (x : D), Nice 5 400 x → isRowM false x = false → NC (.tup (T ++ [x])) ∧ isEntD (.tup (T ++ [x])) = false := fun x hx h1 => ⟨(Nice.tup (n := 10) (B := 21000) (by rw [← hT]; exact (nS.app (NiceL.cons (hx.up (m := 10) (by decide) (Nat.le_refl _)) (NiceL.nil (B := 0)))).up (Nat.le_refl _) (by decide))).up (by decide) (by decide), ent_app h1⟩
  have odd : ∀ z, z ∈ ([D.lst (es.map rowD), .tup (T ++ cutD T none (some 1)), .tup (T ++ [.tup [.str (Str.ofString "~~~~~"), .non]]), .tup (T ++ [.str (Str.ofString "ab")]), .tup (T ++ [.tup [.str (Str.ofString "~~~~~"), .str (Str.ofString "v"), .str (Str.ofString "v")]])] ++ [D.non, .int 0, .str (Str.ofString ""), .tup [.tup [.str (Str.ofString "a"), .int 1]], .tup [.tup [.str (Str.ofString "b"), .str (Str.ofString "v")], .tup [.str (Str.ofString "a"), .str (Str.ofString "v")]], .tup [.tup [.non, .str (Str.ofString "v")]], .tup [.lst [.str (Str.ofString "a"), .str (Str.ofString "v")]], .tup [.tup [.str (Str.ofString "a\n"), .str (Str.ofString "v")]]] : List D) → NC z ∧ isEntD z = false := fun z hz => by
    rcases List.mem_append.mp hz with hz | hz
    · simp only [List.mem_cons, List.not_mem_nil, or_false] at hz
      rcases hz with rfl | rfl | rfl | rfl | rfl
      · exact ⟨(Nice.lst (n := 10) (niceL_rows 9 10 he.len he.row)).up (by decide) (by decide), rfl⟩
      · have e1 : cutD T none (some 1) = (S.take 1).map rowD := by
          rw [← hT]
          have := cut_b' (S.map rowD) 1
          rw [List.map_take]
          exact this
        rw [e1, ← hT]
        exact ⟨(Nice.tup (n := 10) (B := 40000) ((nS.app (nS.sub (by rw [List.map_take]; exact List.take_sublist _ _))).up (Nat.le_refl _) (by decide))).up (by decide) (by decide), ent_dup neS⟩
      · exact fin _ (niceB (by decide +kernel)) (by decide +kernel)
      · exact fin _ (niceB (by decide +kernel)) (by decide +kernel)
      · exact fin _ (niceB (by decide +kernel)) (by decide +kernel)
    · have := List.all_eq_true.mp consts_e z hz
      rw [Bool.and_eq_true, Bool.not_eq_true'] at this
      exact ⟨(niceB this.1).up (by decide) (by decide), this.2⟩
  have lT : T.length ≤ 11 := by rw [← hT]; exact lS
  rw [hT]
  have lc : (cutD T none (some 1)).length ≤ 11 := Nat.le_trans (cut_sub _ _ _).length_le lT
  refine ⟨sz _ (by omega), sz 2 (by decide), sz 1 (by decide), sz _ (by show T.length + 1 ≤ _; omega), sz 1 (by decide), sz _ (by show T.length + 1 ≤ _; omega), sz 3 (by decide), sz 1 (by decide), sz _ (by show T.length + 1 ≤ _; omega), sz 5 (by decide), ?_⟩
  refine ⟨sz 2 (by decide), sz 1 (by decide), sz 2 (by decide), sz 2 (by decide), sz 2 (by decide), sz 2 (by decide), sz 1 (by decide), sz 2 (by decide), sz 1 (by decide), sz 2 (by decide), sz 1 (by decide), sz 8 (by decide), sz 13 (by decide), ?_⟩
  exact ⟨rfl, p, 13, n, rfl, hs, by decide, by decide, fun r W1 h0 h1 hs => ix_all h0 h1 fun z hz => h z W1 (odd z hz).1 (odd z hz).2 hs⟩
end K46

namespace K46
open PySem PySem.Spec L2 G TL C J
theorem consts_h : ([D.non, .int 0, .str (Str.ofString ""), .tup [.tup [.int 0, .bl true, .tup []]], .tup [.tup [.int 0, .int 1, .tup [], .tup []]], .tup [.tup [.int 0, .bl true, .lst [], .tup []]], .tup [.tup [.int 0, .bl true, .tup [], .tup [.tup [.str (Str.ofString "a"), .int 0]]]], .tup [.tup [.int (-1), .bl true, .tup [], .tup []]], .tup [.tup [.int 0, .bl true, .tup [.non], .tup []]]] : List D).all (fun d => (D.good 6 d && (iOk d && decide (wt d ≤ 400))) && !isHistD d) = true := by decide +kernel
theorem rd_law_odd_history : Rd n_law_odd_history 2 sp_law_odd_history d_law_odd_history := by
  rintro ds W Q Qx _ ⟨p, cs, n, rfl, hc, hs, h⟩
  show d_law_odd_history _ [some (.sh (.ref p)), some (.sh (.tup (cs.map cmD))), none] W
  unfold d_law_odd_history
  obtain ⟨T, hT⟩ : ∃ T, cs.map cmD = T := ⟨_, rfl⟩
  have lT : T.length ≤ 8 := by rw [← hT, List.length_map]; exact hc.len
  have nT : NiceL 10 3760016 T := by rw [← hT]; exact niceL_cs 5 hc
  rw [hT]
  have fin : ∀ (x : D), Nice 5 400 x → isComD ((T.length : Int) + 1) x = false → NC (.tup (T ++ [x])) ∧ isHistD (.tup (T ++ [x])) = false := fun x hx h1 => ⟨(Nice.tup (n := 10) (B := 3770000) ((nT.app (NiceL.cons (hx.up (m := 10) (by decide) (Nat.le_refl _)) (NiceL.nil (B := 0)))).up (Nat.le_refl _) (by decide))).up (by decide) (by decide), hist_app h1⟩
  have odd : ∀ z, z ∈ ([D.lst T, .tup (T ++ [.non]), .tup (T ++ [.tup [.int ((T.length : Int) + 1), .bl true, .tup [], .tup []]])] ++ ([D.non, .int 0, .str (Str.ofString ""), .tup [.tup [.int 0, .bl true, .tup []]], .tup [.tup [.int 0, .int 1, .tup [], .tup []]], .tup [.tup [.int 0, .bl true, .lst [], .tup []]], .tup [.tup [.int 0, .bl true, .tup [], .tup [.tup [.str (Str.ofString "a"), .int 0]]]], .tup [.tup [.int (-1), .bl true, .tup [], .tup []]], .tup [.tup [.int 0, .bl true, .tup [.non], .tup []]]] : List D)) → NC z ∧ isHistD z = false := fun z hz => by
    rcases List.mem_append.mp hz with hz | hz
    · simp only [List.mem_cons, List.not_mem_nil, or_false] at hz
      rcases hz with rfl | rfl | rfl
      · exact ⟨(Nice.lst nT).up (by decide) (by decide), rfl⟩
      · exact fin _ (Nice.non (by decide)) rfl
      · refine fin _ ?_ ?_
        · have h1 : Nice 4 20 (.int ((T.length : Int) + 1)) := by
            have : ((T.length : Int) + 1).natAbs.log2 < 4 := log_small (by omega) (by decide)
            exact Nice.int (by omega) (by omega)
          exact (Nice.tup (n := 4) (NiceL.cons h1 (NiceL.cons (Nice.bl (B := 6) (by decide)) (NiceL.cons (Nice.tup (n := 3) (NiceL.nil (B := 0))) (NiceL.cons (Nice.tup (n := 3) (NiceL.nil (B := 0))) (NiceL.nil (B := 0))))))).up (Nat.le_refl _) (by decide)
        · show (isNumD ((T.length : Int) + 1) (.int ((T.length : Int) + 1)) && _) = false
          have : isNumD ((T.length : Int) + 1) (.int ((T.length : Int) + 1)) = false := by
            show (decide (0 ≤ (T.length : Int) + 1) && decide ((T.length : Int) + 1 ≤ (T.length : Int) + 1 - 1)) = false
            rw [decide_eq_false (p := (T.length : Int) + 1 ≤ (T.length : Int) + 1 - 1) (by omega), Bool.and_false]
          rw [this]; rfl
    · have := List.all_eq_true.mp consts_h z hz
      rw [Bool.and_eq_true, Bool.not_eq_true'] at this
      exact ⟨(niceB this.1).up (by decide) (by decide), this.2⟩
  refine ⟨sz 1 (by decide), sz _ (by show T.length + 1 ≤ _; omega), sz 0 (by decide), sz 0 (by decide), sz 4 (by decide), sz 1 (by decide), sz _ (by show T.length + 1 ≤ _; omega), sz 0 (by decide), sz 3 (by decide), sz 1 (by decide), sz 7 (by decide), ?_⟩
  refine ⟨sz 0 (by decide), sz 0 (by decide), sz 4 (by decide), sz 1 (by decide), sz 0 (by decide), sz 0 (by decide), sz 4 (by decide), sz 1 (by decide), sz 0 (by decide), sz 2 (by decide), sz 1 (by decide), sz 4 (by decide), sz 1 (by decide), sz 0 (by decide), sz 0 (by decide), sz 4 (by decide), sz 1 (by decide), sz 1 (by decide), sz 0 (by decide), sz 4 (by decide), sz 1 (by decide), sz 5 (by decide), sz 12 (by decide), ?_⟩
  exact ⟨rfl, p, 12, n, rfl, hs, by decide, by decide, fun r W1 h0 h1 hs => ix_all h0 h1 fun z hz => h z W1 (odd z hz).1 (odd z hz).2 hs⟩
end K46

namespace K46
open PySem PySem.Spec L2 G TL C J
def unrow : D → Rw
  | .tup [.v (.str s), .v (.str t)] => (tl s, some (tl t))
  | .tup [.v (.str s), _] => (tl s, none)
  | _ => ([], none)
theorem unrow_row (r : Rw) : unrow (rowD r) = r := by
  obtain ⟨a, o⟩ := r
  cases o <;> rfl
def keyT : D → TKey
  | .tup its => (keyDs (fun _ => true) 0 its).getD []
  | _ => []
theorem row_key {r : Rw} (h : r.2 ≠ none) : ∃ b, keyDs (fun _ => true) 0 [.str (mkS r.1), optD r.2] = some [Sum.inr r.1, Sum.inr b] := by
  obtain ⟨a, o⟩ := r
  cases o with
  | none => exact absurd rfl h
  | some b => exact ⟨b, rfl⟩
theorem sortT_ok {rs : List Rw} (nd : (rs.map (·.1)).Nodup) (hs : ∀ r ∈ rs, r.2 ≠ none) {ys : List D} (hp : ys.Perm (rs.map rowD)) (pw : ys.Pairwise (fun x y => tlt (keyT y) (keyT x) = false)) : ∃ L : List Rw, ys = L.map rowD ∧ L.Perm rs ∧ ordL (L.map (·.1)) = true := by
  have pL : (ys.map unrow).Perm rs := by
    have := hp.map unrow
    rw [List.map_map] at this
    have e : rs.map (unrow ∘ rowD) = rs := by
      have : rs.map (unrow ∘ rowD) = rs.map id := List.map_congr_left fun r hr => unrow_row r
      rw [this, List.map_id]
    rwa [e] at this
  have ey : ys = (ys.map unrow).map rowD := by
    rw [List.map_map]
    have : ys.map (rowD ∘ unrow) = ys.map id := List.map_congr_left fun y hy => by
      have := hp.mem_iff.mp hy
      rw [List.mem_map] at this
      obtain ⟨r, hr, rfl⟩ := this
      show rowD (unrow (rowD r)) = rowD r
      rw [unrow_row]
    rw [this, List.map_id]
  obtain ⟨L, hL⟩ : ∃ L, ys.map unrow = L := ⟨_, rfl⟩
  rw [hL] at pL ey
  subst ey
  refine ⟨L, rfl, pL, pw_ord ?_⟩
  have ndL : (L.map (·.1)).Nodup := (pL.map (·.1)).nodup_iff.mpr nd
  rw [List.Nodup, List.pairwise_map] at ndL
  rw [List.pairwise_map] at pw ⊢
  rw [List.pairwise_iff_getElem] at ndL pw ⊢
  intro i j hi hj hij
  have h1 := ndL i j hi hj hij
  have h2 := pw i j hi hj hij
  obtain ⟨b1, e1⟩ := row_key (hs _ (pL.mem_iff.mp (List.getElem_mem hi)))
  obtain ⟨b2, e2⟩ := row_key (hs _ (pL.mem_iff.mp (List.getElem_mem hj)))
  have k1 : keyT (rowD L[i]) = [Sum.inr L[i].1, Sum.inr b1] := congrArg (fun o => Option.getD o []) e1
  have k2 : keyT (rowD L[j]) = [Sum.inr L[j].1, Sum.inr b2] := congrArg (fun o => Option.getD o []) e2
  rw [k1, k2] at h2
  unfold tlt at h2
  rw [PyProof.Rows.lex_diff (fun q => h1 (Sum.inr.inj q).symm)] at h2
  have h3 : ¬ L[j].1 < L[i].1 := of_decide_eq_false h2
  exact lt_of_nlt h3 h1
theorem rd_law_other_note : Rd n_law_other_note 3 sp_law_other_note d_law_other_note := by
  rintro ds W Q Qx _ ⟨p, ls, t, n, rfl, hp, ht, h50, hs, h⟩
  show d_law_other_note _ [some (.sh (.ref p)), some (.sh (ntD t)), some (.sh (txsD ls)), none, none, none, none, none, none] W
  unfold d_law_other_note
  obtain ⟨lne, llen, ltx⟩ := hp
  obtain ⟨l0, lr, rfl⟩ : ∃ a b, ls = a :: b := by cases ls with | nil => exact absurd rfl lne | cons a b => exact ⟨a, b, rfl⟩
  have tx0 : TxB l0 := ltx l0 (by simp)
  have op0 : OpB (some l0) := fun v q => by cases q; exact tx0
  have opn : OpB none := fun v q => nomatch q
  have nnt := nc_nt ht
  cases t with
  | v k x =>
    obtain ⟨hk, hx⟩ := ht
    have opk : OpB (some k) := fun v q => by cases q; exact hk
    refine ⟨_, rfl, dEq_str ?_⟩
    rw [decide_eq_true rfl]
    refine ite_t ?_
    show dSeq _ _ _ [some (.sh (.ref p)), some (.sh (ntD (.v k x))), some (.sh (txsD (l0 :: lr))), none, none, none, none, none, none] W
    refine seq_gen (fun ρ W' => ∃ w, TxB w ∧ WellOk W' p (n + 1) ∧ ρ = [some (.sh (.ref p)), some (.sh (ntD (.v k x))), some (.sh (txsD (l0 :: lr))), some (.sh (.lst [ntD (.v k none), ntD (.v k (some [])), ntD (.v k (some w)), .tup [.str (Str.ofString "value"), .str (mkS k)]])), none, none, none, none, none]) (fun ρ W' hI => ?_) (fun N hN => ?_)
    case refine_2 =>
      exact ⟨_, rfl, sz 3 (by decide), _, rfl, sz 3 (by decide), _, rfl, rfl, p, 2, n + 1, rfl, by decide, hs.less (by omega), fun w W1 pw lw hs => ⟨sz 3 (by decide), _, rfl, sz 2 (by decide), sz 4 (by decide), hN _ _ ⟨w, ⟨by omega, pw⟩, hs, rfl⟩⟩⟩
    obtain ⟨w, hw, hs, rfl⟩ := hI
    refine ⟨_, atI0, _, rfl, sz 3 (by decide), _, rfl, sz 0 (by decide), sz 4 (by decide), sz 3 (by decide), sz 7 (by decide), rfl, p, 7, n, rfl, hs, by decide, by decide, fun r W1 h0 h1 hs => ix_all h0 h1 fun z hz => h z W1 ?_ hs⟩
    simp only [List.cons_append, List.nil_append, List.mem_cons, List.not_mem_nil, or_false] at hz
    rcases hz with rfl | rfl | rfl | rfl | rfl | rfl | rfl
    · exact .inl ⟨.v k none, rfl, hk, opn⟩
    · exact .inl ⟨.v k (some []), rfl, hk, fun v q => by cases q; exact ⟨by decide, by unfold Pr; decide⟩⟩
    · exact .inl ⟨.v k (some w), rfl, hk, fun v q => by cases q; exact hw⟩
    · exact .inr (.inr (.inl ⟨k, rfl, hk⟩))
    · exact .inl ⟨.v l0 x, rfl, tx0, hx⟩
    · exact .inr (.inl ⟨_, rfl, (Nice.lst (Nice.untup (nice_nt 0 (t := .v k x) ⟨hk, hx⟩))).up (by decide) (by decide)⟩)
    · exact .inl ⟨.e (some k) none [], rfl, opk, opn, ⟨by decide, fun r hr => absurd hr (by simp), rfl⟩, fun r hr => absurd hr (by simp)⟩
  | e lo hi rs =>
    obtain ⟨hlo, hhi, hrs, hsm⟩ := ht
    refine ⟨_, rfl, dEq_str ?_⟩
    rw [decide_eq_false (fun q => ne_ve q.symm)]
    refine ite_f ?_
    unfold dNext
    dsimp only
    show dSeq _ _ _ [some (.sh (.ref p)), some (.sh (ntD (.e lo hi rs))), some (.sh (txsD (l0 :: lr))), none, none, none, none, none, none] W
    have lrs : rs.length ≤ 50 := h50 lo hi rs rfl
    refine seq_gen (fun ρ W' => ∃ a : Nat, a ≤ rs.length ∧ WellOk W' p (n + 10) ∧ ρ = [some (.sh (.ref p)), some (.sh (ntD (.e lo hi rs))), some (.sh (txsD (l0 :: lr))), none, some (.sh (.int a)), none, none, none, none]) (fun ρ W' hI => ?_) (fun N hN => ?_)
    case refine_2 =>
      refine ⟨_, rfl, rfl, p, _, n + 10, rfl, hs.less (by omega), by rw [List.length_map]; omega, by rw [List.length_map]; omega, fun r W1 h0 h1 hs => ?_⟩
      obtain ⟨a, rfl⟩ : ∃ a : Nat, r = a := ⟨r.toNat, by omega⟩
      rw [List.length_map] at h1
      exact hN _ _ ⟨a, by omega, hs, rfl⟩
    obtain ⟨a, ha, hs, rfl⟩ := hI
    refine seq_gen (fun ρ W' => ∃ rs', ChOk 60 rs' ∧ (∀ r ∈ rs', r.2 ≠ none) ∧ WellOk W' p (n + 10) ∧ ρ = [some (.sh (.ref p)), some (.sh (ntD (.e lo hi rs))), some (.sh (txsD (l0 :: lr))), none, some (.sh (.int a)), some (.sh (rowsD rs')), none, none, none]) (fun ρ W' hI => ?_) (fun N hN => ?_)
    case refine_2 =>
      have e : cutD (rs.map rowD) none (some (a : Int)) ++ cutD (rs.map rowD) (some ((a : Int) + 1)) none = (rs.take a ++ rs.drop (a + 1)).map rowD := by
        rw [cut_b', show ((a : Int) + 1) = ((a + 1 : Nat) : Int) from rfl, cut_map_a, List.map_append, List.map_take]
      have sub : (rs.take a ++ rs.drop (a + 1)).Sublist rs := by
        rw [← List.eraseIdx_eq_take_drop_succ]; exact List.eraseIdx_sublist ..
      have lsub := sub.length_le
      refine ⟨_, rfl, _, rfl, ?_⟩
      show _ ∧ _
      refine ⟨sz _ ?_, ?_⟩
      · rw [← List.length_append, e, List.length_map]; omega
      · refine hN _ _ ⟨_, ⟨by have := hrs.len; omega, fun r hr => hrs.row r (sub.subset hr), ord_sub hrs.ord (sub.map _)⟩, fun r hr => hsm r (sub.subset hr), hs, ?_⟩
        show [_, _, _, _, _, some (Sl.sh (.tup _)), _, _, _] = _
        rw [e]; rfl
    obtain ⟨rs1, h1, h1s, hs, rfl⟩ := hI
    refine seq_gen (fun ρ W' => ∃ rs', ChOk 60 rs' ∧ (∀ r ∈ rs', r.2 ≠ none) ∧ WellOk W' p (n + 1) ∧ ρ = [some (.sh (.ref p)), some (.sh (ntD (.e lo hi rs))), some (.sh (txsD (l0 :: lr))), none, some (.sh (.int a)), some (.sh (rowsD rs1)), some (.sh (rowsD rs')), none, none]) (fun ρ W' hI => ?_) (fun N hN => ?_)
    case refine_2 =>
      refine dLc_filtF rs rowD rowD (fun r => decide (r.1 ≠ l0)) (noOwn1 (by simp)) (sz _ (by omega)) (fun P hP => ⟨_, rfl, hP⟩) (fun r hr P hP => ⟨_, rfl, _, atI0, ?_⟩) (fun r hr _ P hP => hP) ?_
      · refine dNe_str ?_
        have : (!decide (mkS r.1 = mkS l0)) = decide (r.1 ≠ l0) := by
          by_cases q : r.1 = l0
          · simp [q]
          · have : ¬ mkS r.1 = mkS l0 := fun z => q (mkS_inj.mp z)
            simp [q, this]
        rw [this]; exact hP
      · refine ⟨_, atI0, rfl, p, 1, n + 1, rfl, by decide, hs.less (by omega), fun w W1 pw lw hs => ⟨sz 2 (by decide), sz 1 (by decide), ?_⟩⟩
        have eE : EsOk 60 rs := ⟨hrs.len, hrs.ord, hrs.row, hsm⟩
        obtain ⟨M, hM⟩ : ∃ M, rs.filter (fun r => decide (r.1 ≠ l0)) ++ [(l0, some w)] = M := ⟨_, rfl⟩
        have lf : (rs.filter (fun r => decide (r.1 ≠ l0))).length ≤ 50 := Nat.le_trans (List.length_filter_le _ _) lrs
        have lM : M.length ≤ 51 := by rw [← hM, List.length_append, List.length_singleton]; omega
        have mM : ∀ r ∈ M, RowB r ∧ r.2 ≠ none := fun r hr => by
          rw [← hM] at hr
          rcases List.mem_append.mp hr with hr | hr
          · have := (List.mem_filter.mp hr).1
            exact ⟨hrs.row r this, hsm r this⟩
          · rw [List.mem_singleton.mp hr]
            exact ⟨⟨tx0, fun v q => by cases q; exact ⟨by omega, pw⟩⟩, by simp⟩
        have ndM : (M.map (·.1)).Nodup := by
          rw [← hM, List.map_append, List.nodup_append]
          refine ⟨(eE.filter _).nd, by simp, fun a ha b hb q => ?_⟩
          rw [List.mem_map] at ha
          obtain ⟨r, hr, rfl⟩ := ha
          have h1 := of_decide_eq_true (List.mem_filter.mp hr).2
          simp at hb
          exact h1 (q.trans hb)
        have eM : (rs.filter (fun r => decide (r.1 ≠ l0))).map rowD ++ [D.tup [.str (mkS l0), .str (mkS w)]] = M.map rowD := by
          rw [← hM, List.map_append]; rfl
        show _ ∧ _
        refine ⟨sz _ (by rw [List.length_map]; show _ + 1 ≤ _; omega), ?_⟩
        rw [eM]
        refine ⟨keyT, fun d hd => ?_, fun ys h1 h2 => ?_⟩
        · rw [List.mem_map] at hd
          obtain ⟨r, hr, rfl⟩ := hd
          obtain ⟨b, e⟩ := row_key (mM r hr).2
          have k1 : keyT (rowD r) = [Sum.inr r.1, Sum.inr b] := congrArg (fun o => Option.getD o []) e
          exact ⟨_, rfl, by rw [k1]; exact e, by rw [k1]; exact List.cons_ne_nil _ _⟩
        · obtain ⟨L, rfl, pL, oL⟩ := sortT_ok ndM (fun r hr => (mM r hr).2) h1 h2
          exact hN _ _ ⟨L, ⟨by rw [pL.length_eq]; omega, fun r hr => (mM r (pL.mem_iff.mp hr)).1, oL⟩, fun r hr => (mM r (pL.mem_iff.mp hr)).2, hs, rfl⟩
    obtain ⟨rs2, h2, h2s, hs, rfl⟩ := hI
    obtain ⟨x, hx, ex⟩ : ∃ x ∈ (l0 :: lr), atI ((l0 :: lr).map fun l => D.str (mkS l)) (-1) = some (.str (mkS x)) := by
      obtain ⟨d, hd, e⟩ := at_last (L := (l0 :: lr).map fun l => D.str (mkS l)) (by simp)
      rw [List.mem_map] at hd
      obtain ⟨x, hx, rfl⟩ := hd
      exact ⟨x, hx, e⟩
    refine ⟨_, atI0, _, rfl, _, rfl, sz 4 (by decide), _, rfl, _, ex, _, rfl, sz 4 (by decide), sz 2 (by decide), _, rfl, _, rfl, sz 4 (by decide), _, rfl, _, rfl, sz 4 (by decide), sz 4 (by decide), sz 6 (by decide), rfl, p, 6, n, rfl, hs, by decide, by decide, fun r W1 b0 b1 hs => ix_all b0 b1 fun z hz => h z W1 ?_ hs⟩
    simp only [List.cons_append, List.nil_append, List.mem_cons, List.not_mem_nil, or_false] at hz
    rcases hz with rfl | rfl | rfl | rfl | rfl | rfl
    · exact .inl ⟨.e (some l0) hi rs, rfl, op0, hhi, hrs, hsm⟩
    · exact .inl ⟨.e lo (some x) rs, rfl, hlo, (fun v q => by cases q; exact ltx x hx), hrs, hsm⟩
    · exact .inl ⟨.e lo hi rs1, rfl, hlo, hhi, h1, h1s⟩
    · exact .inl ⟨.e lo hi rs2, rfl, hlo, hhi, h2, h2s⟩
    · exact .inr (.inr (.inr ⟨lo, hi, rfl, hlo, hhi⟩))
    · exact .inr (.inl ⟨_, rfl, (Nice.lst (Nice.untup (nice_nt 0 (t := .e lo hi rs) ⟨hlo, hhi, hrs, hsm⟩))).up (by decide) (by decide)⟩)
end K46

namespace K46
open PySem PySem.Spec L2 G TL C J
theorem plainN_lst {n : Nat} {ds : List D} (hl : ds.length ≤ 100000) (h : ∀ d ∈ ds, plainN n d) : plainN (n + 1) (.lst ds) := by
  unfold plainN; exact ⟨hl, h⟩
theorem plainN_tup {n : Nat} {ds : List D} (hl : ds.length ≤ 100000) (h : ∀ d ∈ ds, plainN n d) : plainN (n + 1) (.tup ds) := by
  unfold plainN; exact ⟨hl, h⟩
theorem plainN_bl {n : Nat} (b : Bool) : plainN n (.bl b) := by unfold plainN; trivial
theorem plainN_str {n : Nat} (s : Str) : plainN n (.str s) := by unfold plainN; trivial
theorem plainN_opt {n : Nat} (o : Option (List Nat)) : plainN n (optD o) := by cases o <;> (unfold optD plainN; trivial)
theorem plainN_rows {n : Nat} {rs : List Rw} (h : rs.length ≤ 100000) : plainN (n + 2) (rowsD rs) := plainN_tup (by rw [List.length_map]; exact h) fun d hd => by
  rw [List.mem_map] at hd
  obtain ⟨r, _, rfl⟩ := hd
  exact plainN_tup (show 2 ≤ 100000 by decide) fun z hz => by
    simp only [List.mem_cons, List.not_mem_nil, or_false] at hz
    rcases hz with rfl | rfl
    · exact plainN_str _
    · exact plainN_opt _
theorem plain_bls {n : Nat} (bs : List Bool) (h : bs.length ≤ 100) : plainN (n + 1) (.lst (bs.map D.bl)) := plainN_lst (by rw [List.length_map]; omega) fun d hd => by
  rw [List.mem_map] at hd
  obtain ⟨b, _, rfl⟩ := hd
  exact plainN_bl b
theorem plain_strs {n : Nat} (bs : List Str) (h : bs.length ≤ 100) : plainN (n + 1) (.lst (bs.map D.str)) := plainN_lst (by rw [List.length_map]; omega) fun d hd => by
  rw [List.mem_map] at hd
  obtain ⟨b, _, rfl⟩ := hd
  exact plainN_str b
theorem nc_oth {d : D} (h : OthOk d) : NC d := by
  rcases h with ⟨t, rfl, ht⟩ | ⟨l, rfl, hl⟩ | ⟨k, rfl, hk⟩ | ⟨lo, hi, rfl, h1, h2⟩
  · exact nc_nt ht
  · exact hl
  · have hv : Nice 2 60 (.str (Str.ofString "value")) := Nice.str (by decide +kernel) (by decide +kernel)
    exact (Nice.tup (NiceL.cons hv (NiceL.cons (nice_tx 2 hk) (NiceL.nil (B := 0))))).up (by decide) (by decide)
  · have hv : Nice 2 80 (.str (Str.ofString "entries")) := Nice.str (by decide +kernel) (by decide +kernel)
    exact (Nice.tup (NiceL.cons hv (NiceL.cons (nice_op 2 h1) (NiceL.cons (nice_op 2 h2) (NiceL.nil (B := 0)))))).up (by decide) (by decide)
/-- what the judge says of d as a given note -/
def JB (es : List Rw) (d : D) (b : Bool) : Prop := (isNoteD d = false ∧ b = false) ∨ ∃ t, d = ntD t ∧ NtOk t ∧ b = tellsB es t
theorem dEq_intb {a b : Int} (c : Bool) {Q : D → Prop} (h : decide (a = b) = c) (q : Q (.bl c)) : dEq (.int a) (.int b) Q := dEq_int (by rw [h]; exact q)
theorem tells_all (es : List Rw) : tellsB es (.e none none es) = true := by
  have : gvE es (.e none none es) = .e none none es := by
    have e : (es.filter fun r => hasN (.e none none es) r.1) = es := List.filter_eq_self.mpr fun r _ => rfl
    show Nt.e none none (es.filter fun r => hasN (.e none none es) r.1) = _
    rw [e]
  unfold tellsB
  rw [this]; exact decide_eq_true rfl
theorem rd_law_notes_right : Rd n_law_notes_right 3 sp_law_notes_right d_law_notes_right := by
  rintro ds W Q Qx _ ⟨p, ls, rs, es, n, rfl, hp, hr, he, hk, hs, h⟩
  show d_law_notes_right _ [some (.sh (.ref p)), some (.sh (.dk (rs.map kvD))), some (.sh (txsD ls)), none, none, none, none, none, none, none, none, none] W
  unfold d_law_notes_right
  have he60 : EsOk 60 es := he.up (by decide)
  have ncE := nc_rows he60 (Nat.le_refl _)
  -- the entries
  refine seq_gen (fun ρ W' => W' = W ∧ ρ = [some (.sh (.ref p)), some (.sh (.dk (rs.map kvD))), some (.sh (txsD ls)), some (.sh (.tpf (es.map rowD))), none, none, none, none, none, none, none, none]) (fun ρ W' hI => ?_) (fun N hN => ⟨rfl, 8, rs, es, rfl, by decide, hr, he, hk, hN _ _ ⟨rfl, rfl⟩⟩)
  obtain ⟨rfl, rfl⟩ := hI
  -- four turns
  refine seq_gen (fun ρ W' => ∃ x4 x5 x6 x7 : Option D, WellOk W' p (n + 100) ∧ ρ = [some (.sh (.ref p)), some (.sh (.dk (rs.map kvD))), some (.sh (txsD ls)), some (.sh (.tpf (es.map rowD))), x4.map Sl.sh, x5.map Sl.sh, x6.map Sl.sh, x7.map Sl.sh, none, none, none, none]) (fun ρ W' hI => ?_) (fun N hN => ?_)
  case refine_2 =>
    refine dFor_of (rng 0 4) (fun i ρ W' => ∃ x4 x5 x6 x7 : Option D, WellOk W' p (n + (300 - 50 * i)) ∧ ρ = [some (.sh (.ref p)), some (.sh (.dk (rs.map kvD))), some (.sh (txsD ls)), some (.sh (.tpf (es.map rowD))), x4.map Sl.sh, x5.map Sl.sh, x6.map Sl.sh, x7.map Sl.sh, none, none, none, none]) (fun P hP => ⟨by decide, by decide, hP⟩) ⟨none, none, none, none, hs, rfl⟩ (fun i d ρ W' hd hI => ?_) (fun ρ W' hI => ?_)
    case refine_2 =>
      obtain ⟨x4, x5, x6, x7, hs, rfl⟩ := hI
      exact hN _ _ ⟨x4, x5, x6, x7, hs.less (by rw [show (rng 0 4).length = 4 from rfl]; omega), rfl⟩
    obtain ⟨x4, x5, x6, x7, hs, rfl⟩ := hI
    have hi : i < 4 := (List.getElem?_eq_some_iff.mp hd).1
    obtain ⟨N0, hN0⟩ : ∃ N0, n + (300 - 50 * (i + 1)) = N0 := ⟨_, rfl⟩
    have hs : WellOk W' p (N0 + 50) := hs.less (by omega)
    rw [hN0]
    -- the note
    refine seq_gen (fun ρ W' => ∃ t, NtOk t ∧ WellOk W' p (N0 + 40) ∧ ρ = [some (.sh (.ref p)), some (.sh (.dk (rs.map kvD))), some (.sh (txsD ls)), some (.sh (.tpf (es.map rowD))), some (.sh d), some (.sh (ntD (gvE es t))), x6.map Sl.sh, x7.map Sl.sh, none, none, none, none]) (fun ρ W' hI => ?_) (fun N hN => ⟨rfl, p, ls, 8, rs, es, N0 + 40, rfl, hp, by decide, hr, he, hk, hs, fun t W1 ht hs => hN _ _ ⟨t, ht, hs, rfl⟩⟩)
    obtain ⟨t0, ht0, hs, rfl⟩ := hI
    obtain ⟨t, et⟩ : ∃ t, gvE es t0 = t := ⟨_, rfl⟩
    have ht : NtOk t := by rw [← et]; exact gv_ok he (by decide) ht0
    have tt : tellsB es t = true := by rw [← et]; exact gv_tells t0
    have t50 : ∀ lo hi r, t = .e lo hi r → r.length ≤ 50 := fun lo hi r q => by
      cases t0 with
      | v k x => rw [q] at et; cases et
      | e lo' hi' r' =>
        rw [q] at et
        cases et
        have := he.len
        exact Nat.le_trans (List.length_filter_le _ _) (by omega)
    rw [et]
    refine seq_gen (fun ρ W' => WellOk W' p (N0 + 40) ∧ ρ = [some (.sh (.ref p)), some (.sh (.dk (rs.map kvD))), some (.sh (txsD ls)), some (.sh (.tpf (es.map rowD))), some (.sh d), some (.sh (ntD t)), x6.map Sl.sh, x7.map Sl.sh, none, none, none, none]) (fun ρ W' hI => ?_) (fun N hN => ?_)
    case refine_2 =>
      refine ⟨rfl, rowsD es, ntD t, rfl, ncE, nc_nt ht, .inr ⟨es, rfl, he60, .inr ⟨t, rfl, ht, ?_⟩⟩⟩
      refine ⟨rfl, rfl, rowsD es, ntD t, rfl, ncE, nc_nt ht, .inr ⟨es, rfl, he60, .inr ⟨t, rfl, ht, ?_⟩⟩⟩
      rw [tt]
      exact ⟨sz 2 (by decide), sz 2 (by decide), rfl, _, rfl, plain_bls (n := 3) [true, true] (by decide), hno (hN _ _ ⟨hs, rfl⟩)⟩
    obtain ⟨hs, rfl⟩ := hI
    -- the other note
    refine seq_gen (fun ρ W' => ∃ o, OthOk o ∧ WellOk W' p N0 ∧ ρ = [some (.sh (.ref p)), some (.sh (.dk (rs.map kvD))), some (.sh (txsD ls)), some (.sh (.tpf (es.map rowD))), some (.sh d), some (.sh (ntD t)), some (.sh o), x7.map Sl.sh, none, none, none, none]) (fun ρ W' hI => ?_) (fun N hN => ⟨rfl, p, ls, t, N0, rfl, hp, ht, t50, hs.less (by omega), fun o W1 ho hs => hN _ _ ⟨o, ho, hs, rfl⟩⟩)
    obtain ⟨o, ho, hs, rfl⟩ := hI
    refine seq_gen (fun ρ W' => ∃ b, JB es o b ∧ WellOk W' p N0 ∧ ρ = [some (.sh (.ref p)), some (.sh (.dk (rs.map kvD))), some (.sh (txsD ls)), some (.sh (.tpf (es.map rowD))), some (.sh d), some (.sh (ntD t)), some (.sh o), some (.sh (.bl b)), none, none, none, none]) (fun ρ W' hI => ?_) (fun N hN => ?_)
    case refine_2 =>
      rcases ho with ⟨t, rfl, ht⟩ | ⟨l, rfl, hl⟩ | ⟨k, rfl, hk⟩ | ⟨lo, hi, rfl, h1, h2⟩
      · cases t with
        | v k x =>
          refine ⟨_, _, rfl, rfl, _, rfl, dEq_str ?_⟩
          rw [decide_eq_false ne_ve]
          refine dEq_intb (c := true) rfl ?_
          exact ⟨rfl, 8, rs, es, .v k x, rfl, by decide, hr, he, hk, ht, deq_nt (gv_ok he (by decide) ht) ht (hN _ _ ⟨_, .inr ⟨_, rfl, ht, rfl⟩, hs, rfl⟩)⟩
        | e lo hi rs1 =>
          refine ⟨_, _, rfl, rfl, _, rfl, dEq_str ?_⟩
          rw [decide_eq_true rfl]
          refine dEq_intb (c := true) rfl ?_
          exact ⟨rfl, 8, rs, es, .e lo hi rs1, rfl, by decide, hr, he, hk, ht, deq_nt (gv_ok he (by decide) ht) ht (hN _ _ ⟨_, .inr ⟨_, rfl, ht, rfl⟩, hs, rfl⟩)⟩
      · exact ⟨_, _, rfl, rfl, hN _ _ ⟨false, .inl ⟨rfl, rfl⟩, hs, rfl⟩⟩
      · refine ⟨_, _, rfl, rfl, _, rfl, dEq_str ?_⟩
        rw [decide_eq_false ne_ve]
        refine dEq_intb (c := false) rfl ?_
        exact hN _ _ ⟨false, .inl ⟨rfl, rfl⟩, hs, rfl⟩
      · refine ⟨_, _, rfl, rfl, _, rfl, dEq_str ?_⟩
        rw [decide_eq_true rfl]
        refine dEq_intb (c := false) rfl ?_
        refine hN _ _ ⟨false, .inl ⟨?_, rfl⟩, hs, rfl⟩
        show (D.isV (.str (Str.ofString "entries")) (.str (Str.ofString "value")) && (isTextD (optD lo) && isTonD (optD hi))) = false
        rw [show D.isV (.str (Str.ofString "entries")) (.str (Str.ofString "value")) = false by decide +kernel]; rfl
    obtain ⟨b, hb, hs, rfl⟩ := hI
    have nco := nc_oth ho
    rcases hb with ⟨h1, rfl⟩ | ⟨t', rfl, ht', rfl⟩
    · exact ⟨rfl, rowsD es, o, rfl, ncE, nco, .inr ⟨es, rfl, he60, .inl ⟨h1, rfl, .bl false, rfl, plainN_bl _, hno ⟨some d, some (ntD t), some _, some _, hs, rfl⟩⟩⟩⟩
    · exact ⟨rfl, rowsD es, ntD t', rfl, ncE, nco, .inr ⟨es, rfl, he60, .inr ⟨t', rfl, ht', rfl, .bl _, rfl, plainN_bl _, hno ⟨some d, some (ntD t), some _, some _, hs, rfl⟩⟩⟩⟩
  obtain ⟨x4, x5, x6, x7, hs, rfl⟩ := hI
  -- the odd entries
  refine seq_gen (fun ρ W' => ∃ o, NC o ∧ isEntD o = false ∧ WellOk W' p n ∧ ρ = [some (.sh (.ref p)), some (.sh (.dk (rs.map kvD))), some (.sh (txsD ls)), some (.sh (.tpf (es.map rowD))), x4.map Sl.sh, x5.map Sl.sh, x6.map Sl.sh, x7.map Sl.sh, some (.sh o), none, none, none]) (fun ρ W' hI => ?_) (fun N hN => ⟨rfl, p, es, n, rfl, he.up (by decide), hs.less (by omega), fun o W1 h1 h2 hs => hN _ _ ⟨o, h1, h2, hs, rfl⟩⟩)
  obtain ⟨o, nco, hno', hs, rfl⟩ := hI
  obtain ⟨L, hL⟩ : ∃ L : List (D × Bool), L = [(.non, false), (.int 0, false), (.str (Str.ofString "value"), false), (.tup [], false), (.tup [.str (Str.ofString "value"), .str (Str.ofString "a")], false), (.tup [.str (Str.ofString "entries"), .non, .non, rowsD es], true), (.tup [.str (Str.ofString "entries"), .non, .non, .lst []], false)] := ⟨_, rfl⟩
  have hJ : ∀ x ∈ L, NC x.1 ∧ JB es x.1 x.2 := fun x hx => by
    rw [hL] at hx
    have no : ∀ d : D, (D.good 5 d && (iOk d && decide (wt d ≤ 400))) = true → isNoteD d = false → NC d ∧ JB es d false := fun d h1 h2 => ⟨(niceB h1).up (by decide) (by decide), .inl ⟨h2, rfl⟩⟩
    simp only [List.mem_cons, List.not_mem_nil, or_false] at hx
    rcases hx with rfl | rfl | rfl | rfl | rfl | rfl | rfl
    · exact no _ (by decide +kernel) (by decide +kernel)
    · exact no _ (by decide +kernel) (by decide +kernel)
    · exact no _ (by decide +kernel) (by decide +kernel)
    · exact no _ (by decide +kernel) (by decide +kernel)
    · exact no _ (by decide +kernel) (by decide +kernel)
    · have ht : NtOk (.e none none es) := ⟨(fun v q => nomatch q), (fun v q => nomatch q), ⟨by have := he.len; omega, he.row, he.ord⟩, he.some⟩
      exact ⟨nc_nt ht, .inr ⟨_, rfl, ht, (tells_all es).symm⟩⟩
    · exact no _ (by decide +kernel) (by decide +kernel)
  have lL : L.length = 7 := by rw [hL]; rfl
  refine seq_gen (fun ρ W' => WellOk W' p n ∧ ρ = [some (.sh (.ref p)), some (.sh (.dk (rs.map kvD))), some (.sh (txsD ls)), some (.sh (.tpf (es.map rowD))), x4.map Sl.sh, x5.map Sl.sh, x6.map Sl.sh, x7.map Sl.sh, some (.sh o), some (.sh (.lst (L.map (·.1)))), none, none]) (fun ρ W' hI => ?_) (fun N hN => ?_)
  case refine_2 =>
    exact ⟨sz 0 (by decide), sz 2 (by decide), sz 4 (by decide), sz 0 (by decide), sz 4 (by decide), sz 7 (by decide), hN _ _ ⟨hs, by rw [hL]; rfl⟩⟩
  obtain ⟨hs, rfl⟩ := hI
  refine seq_gen (fun ρ W' => WellOk W' p n ∧ ρ = [some (.sh (.ref p)), some (.sh (.dk (rs.map kvD))), some (.sh (txsD ls)), some (.sh (.tpf (es.map rowD))), x4.map Sl.sh, x5.map Sl.sh, x6.map Sl.sh, x7.map Sl.sh, some (.sh o), some (.sh (.lst (L.map (·.1)))), some (.sh (.lst (L.map fun x => .bl x.2))), none]) (fun ρ W' hI => ?_) (fun N hN => ?_)
  case refine_2 =>
    exact ⟨sz 7 (by decide), hN _ _ ⟨hs, by rw [hL]; rfl⟩⟩
  obtain ⟨hs, rfl⟩ := hI
  refine seq_gen (fun ρ W' => WellOk W' p n ∧ ρ = [some (.sh (.ref p)), some (.sh (.dk (rs.map kvD))), some (.sh (txsD ls)), some (.sh (.tpf (es.map rowD))), x4.map Sl.sh, x5.map Sl.sh, x6.map Sl.sh, x7.map Sl.sh, some (.sh o), some (.sh (.lst (L.map (·.1)))), some (.sh (.lst (L.map fun x => .bl x.2))), none]) (fun ρ W' hI => ?_) (fun N hN => ?_)
  case refine_2 =>
    refine dLc_mapF L (·.1) (fun x => .bl x.2) (noOwn1 (by simp)) (sz _ (by omega)) (fun P hP => hP) (fun x hx P hP => ?_) ?_
    · obtain ⟨h1, h2⟩ := hJ x hx
      obtain ⟨d, b⟩ := x
      rcases h2 with ⟨h2, rfl⟩ | ⟨t', rfl, ht', rfl⟩
      · exact ⟨rfl, rowsD es, d, rfl, ncE, h1, .inr ⟨es, rfl, he60, .inl ⟨h2, hP⟩⟩⟩
      · exact ⟨rfl, rowsD es, ntD t', rfl, ncE, h1, .inr ⟨es, rfl, he60, .inr ⟨t', rfl, ht', hP⟩⟩⟩
    · refine ⟨rfl, _, rfl, ?_, hno (hN _ _ ⟨hs, rfl⟩)⟩
      have := plain_bls (n := 3) (L.map (·.2)) (by rw [List.length_map]; omega)
      rw [List.map_map] at this
      exact this
  obtain ⟨hs, rfl⟩ := hI
  refine dLc_mapF L (·.1) (fun x => .str (Str.ofString "entries")) (noOwn1 (by simp)) (sz _ (by omega)) (fun P hP => hP) (fun x hx P hP => ?_) ?_
  · exact ⟨rfl, o, x.1, rfl, nco, (hJ x hx).1, .inl ⟨hno', hP⟩⟩
  · refine ⟨sz 1 (by decide), by decide, by decide, sz 7 (by decide), rfl, .lst (L.map fun x => .str (Str.ofString "entries")), by rw [hL]; rfl, ?_, h _ hs⟩
    have := plain_strs (n := 3) (L.map fun _ => Str.ofString "entries") (by rw [List.length_map]; omega)
    rw [List.map_map] at this
    exact this
end K46

namespace K46
open PySem PySem.Spec L2 G TL C J
theorem nc_nat {k : Nat} (h : k ≤ 100) : NC (.int (k : Int)) := by
  have : ((k : Nat) : Int).natAbs.log2 < 7 := log_small (by omega) (by decide)
  exact Nice.int (by omega) (by omega)
theorem dLt_int {a b : Int} {Q : D → Prop} (h : Q (.bl (decide (a < b)))) : dLt (.int a) (.int b) Q := h
theorem inR_f {n : Nat} {i : Int} (h : ¬ (0 ≤ i ∧ i ≤ (n : Int))) : inR n (.int i) = false := by
  unfold inR
  rw [Bool.and_eq_false_iff, decide_eq_false_iff_not, decide_eq_false_iff_not]
  omega
theorem rd_law_pasts_right : Rd n_law_pasts_right 3 sp_law_pasts_right d_law_pasts_right := by
  rintro ds W Q Qx _ ⟨p, rs, es, cs, n, rfl, hr, he, hk, hc, hs, h⟩
  show d_law_pasts_right _ [some (.sh (.ref p)), some (.sh (.dk (rs.map kvD))), some (.sh (.tup (cs.map cmD))), none, none, none, none, none, none, none, none, none, none] W
  unfold d_law_pasts_right
  have he10 : EsOk 10 es := he.up (by decide)
  have ncE := nc_rows (he.up (n := 60) (by decide)) (Nat.le_refl _)
  have ncH := nc_cs hc
  have lc := hc.len
  -- the entries
  refine seq_gen (fun ρ W' => W' = W ∧ ρ = [some (.sh (.ref p)), some (.sh (.dk (rs.map kvD))), some (.sh (.tup (cs.map cmD))), some (.sh (.tpf (es.map rowD))), some (.sh (.dk (rs.map kvD))), none, none, none, none, none, none, none, none]) (fun ρ W' hI => ?_) (fun N hN => ?_)
  case refine_2 =>
    refine ⟨rfl, 8, rs, es, rfl, by decide, hr, he, hk, sz 2 (by decide), ?_⟩
    exact ⟨rfl, hN _ _ ⟨rfl, rfl⟩⟩
  obtain ⟨rfl, rfl⟩ := hI
  -- each past
  refine seq_gen (fun ρ W' => WellOk W' p (n + 10) ∧ ∃ x4 x5 x6 : Option D, ρ = [some (.sh (.ref p)), some (.sh (.dk (rs.map kvD))), some (.sh (.tup (cs.map cmD))), some (.sh (.tpf (es.map rowD))), x4.map Sl.sh, x5.map Sl.sh, x6.map Sl.sh, none, none, none, none, none, none]) (fun ρ W' hI => ?_) (fun N hN => ?_)
  case refine_2 =>
    refine dFor_of (rng 0 (cs.length + 1)) (fun i ρ W' => WellOk W' p (n + 10) ∧ ∃ (q : List Rw) (j : Nat) (x5 x6 : Option D), j = min i cs.length ∧ RsOk (8 + 4 * j) q ∧ lk q = lk (past es cs j) ∧ ρ = [some (.sh (.ref p)), some (.sh (.dk (rs.map kvD))), some (.sh (.tup (cs.map cmD))), some (.sh (.tpf (es.map rowD))), some (.sh (.dk (q.map kvD))), x5.map Sl.sh, x6.map Sl.sh, none, none, none, none, none, none]) (fun P hP => ?_) ⟨hs, rs, 0, none, none, by omega, hr, by rw [past_zero]; exact hk.symm, rfl⟩ (fun i d ρ W' hd hI => ?_) (fun ρ W' hI => ?_)
    case refine_3 =>
      obtain ⟨hs, q, j, x5, x6, _, _, _, rfl⟩ := hI
      exact hN _ _ ⟨hs, some _, x5, x6, rfl⟩
    · refine ⟨by rw [List.length_map]; omega, by rw [List.length_map]; omega, ?_⟩
      rw [List.length_map]; exact hP
    obtain ⟨hs, q, j, x5, x6, hj, hq, hlq, rfl⟩ := hI
    have hi : i < cs.length + 1 := by
      have := (List.getElem?_eq_some_iff.mp hd).1
      rw [rng_len] at this; omega
    obtain rfl : d = .int i := by
      have := hd
      unfold rng at this
      rw [List.getElem?_map, List.getElem?_range (by omega)] at this
      simp at this
      exact this.symm
    obtain rfl : j = i := by omega
    obtain ⟨P, hP⟩ : ∃ P, past es cs j = P := ⟨_, rfl⟩
    have hPo : EsOk (10 + 4 * j) P := by rw [← hP]; exact past_ok he10 hc j
    rw [hP] at hlq
    refine seq_gen (fun ρ W2 => WellOk W2 p (n + 10) ∧ ρ = [some (.sh (.ref p)), some (.sh (.dk (rs.map kvD))), some (.sh (.tup (cs.map cmD))), some (.sh (.tpf (es.map rowD))), some (.sh (.dk (q.map kvD))), some (.sh (.int j)), some (.sh (.tpf (P.map rowD))), none, none, none, none, none, none]) (fun ρ W2 hI => ?_) (fun N hN => ⟨rfl, 10 + 4 * j, q, P, rfl, by omega, hq.up (by omega), hPo, hlq.symm, hN _ _ ⟨hs, rfl⟩⟩)
    obtain ⟨hs, rfl⟩ := hI
    refine seq_gen (fun ρ W2 => WellOk W2 p (n + 10) ∧ ρ = [some (.sh (.ref p)), some (.sh (.dk (rs.map kvD))), some (.sh (.tup (cs.map cmD))), some (.sh (.tpf (es.map rowD))), some (.sh (.dk (q.map kvD))), some (.sh (.int j)), some (.sh (.tpf (P.map rowD))), none, none, none, none, none, none]) (fun ρ W2 hI => ?_) (fun N hN => ?_)
    case refine_2 =>
      have nj := nc_nat (k := j) (by omega)
      refine ⟨rfl, _, _, _, rfl, ncH, nj, .inr ⟨es, rfl, he10, .inr ⟨cs, rfl, hc, .inr ⟨j, by omega, rfl, ?_⟩⟩⟩⟩
      refine ⟨rfl, rfl, _, _, _, rfl, ncH, nj, .inr ⟨es, rfl, he10, .inr ⟨cs, rfl, hc, .inr ⟨j, by omega, rfl, ?_⟩⟩⟩⟩
      rw [hP]
      refine ⟨sz 2 (by decide), sz 2 (by decide), rfl, _, rfl, plainN_lst (n := 3) (show 2 ≤ 100000 by decide) (fun d hd => ?_), hno (hN _ _ ⟨hs, rfl⟩)⟩
      simp only [List.mem_cons, List.not_mem_nil, or_false] at hd
      have : d = rowsD P := by rcases hd with rfl | rfl <;> rfl
      rw [this]
      exact plainN_rows (by have := hPo.len; omega)
    obtain ⟨hs, rfl⟩ := hI
    have hln : ((cs.map cmD).length : Int) = (cs.length : Int) := by rw [List.length_map]
    refine ite_b (b := decide ((j : Int) < ((cs.map cmD).length : Int))) (fun hb => ?_) (fun hb => ?_)
    case refine_2 =>
      have hlt : ¬ ((j : Int) < ((cs.map cmD).length : Int)) := of_decide_eq_false hb
      exact ⟨hs, q, j, some _, some _, by omega, hq, by rw [hP]; exact hlq, rfl⟩
    · have hlt : j < cs.length := by have : (j : Int) < ((cs.map cmD).length : Int) := of_decide_eq_true hb; omega
      have hcj : cs[j]? = some cs[j] := List.getElem?_eq_getElem hlt
      have hch := (hc.cm j hlt).ch
      refine ⟨cmD cs[j], atI_of (by rw [List.getElem?_map, hcj]; rfl), _, rfl, rfl, 8 + 4 * j, q, cs[j].ch, rfl, by omega, hq, ⟨by have := hch.len; omega, hch.row, hch.ord⟩, fun rs' h1 h2 => ?_⟩
      refine ⟨hs, rs', j + 1, some _, some _, by omega, h1.up (by have := hch.len; omega), ?_, rfl⟩
      rw [past_succ hcj, hP, lk_laid hPo hch.row, h2, hlq]
  obtain ⟨hs, x4, x5, x6, rfl⟩ := hI
  -- the far numbers
  obtain ⟨L, hL⟩ : ∃ L : List D, L = [.int (-1), .int ((cs.length : Int) + 1), .int ((cs.length : Int) + 2), .int (10 ^ 30), .int (-10 ^ 30), .non, .str (Str.ofString "0"), .bl true, .bl false, .tup [.int 0], .str (Str.ofString ""), .lst [.int 0]] := ⟨_, rfl⟩
  have hF : ∀ z ∈ L, NC z ∧ inR cs.length z = false := fun z hz => by
    rw [hL] at hz
    have no : ∀ d : D, (D.good 5 d && (iOk d && decide (wt d ≤ 400))) = true → inR cs.length d = false → NC d ∧ inR cs.length d = false := fun d h1 h2 => ⟨(niceB h1).up (by decide) (by decide), h2⟩
    simp only [List.mem_cons, List.not_mem_nil, or_false] at hz
    have e0 : Str.ofString "0" = mkS [48] := by decide +kernel
    rcases hz with rfl | rfl | rfl | rfl | rfl | rfl | rfl | rfl | rfl | rfl | rfl | rfl
    · exact no _ (by decide +kernel) rfl
    · exact ⟨nc_nat (k := cs.length + 1) (by omega), inR_f (by omega)⟩
    · exact ⟨nc_nat (k := cs.length + 2) (by omega), inR_f (by omega)⟩
    · exact no _ (by decide +kernel) (inR_f (by omega))
    · exact no _ (by decide +kernel) (inR_f (by omega))
    · exact no _ (by decide +kernel) rfl
    · exact no _ (by decide +kernel) rfl
    · exact no _ (by decide +kernel) rfl
    · exact no _ (by decide +kernel) rfl
    · exact no _ (by decide +kernel) rfl
    · exact no _ (by decide +kernel) rfl
    · exact no _ (by decide +kernel) rfl
  have lL : L.length = 12 := by rw [hL]; rfl
  refine seq_gen (fun ρ W' => WellOk W' p (n + 10) ∧ ρ = [some (.sh (.ref p)), some (.sh (.dk (rs.map kvD))), some (.sh (.tup (cs.map cmD))), some (.sh (.tpf (es.map rowD))), x4.map Sl.sh, x5.map Sl.sh, x6.map Sl.sh, some (.sh (.lst L)), none, none, none, none, none]) (fun ρ W' hI => ?_) (fun N hN => ?_)
  case refine_2 =>
    refine ⟨⟨by decide, by decide, by decide⟩, ⟨by decide, by decide, by decide⟩, sz 1 (by decide), sz 1 (by decide), sz 12 (by decide), hN _ _ ⟨hs, ?_⟩⟩
    rw [hL, List.length_map]
    rfl
  obtain ⟨hs, rfl⟩ := hI
  refine seq_gen (fun ρ W' => WellOk W' p (n + 10) ∧ ρ = [some (.sh (.ref p)), some (.sh (.dk (rs.map kvD))), some (.sh (.tup (cs.map cmD))), some (.sh (.tpf (es.map rowD))), x4.map Sl.sh, x5.map Sl.sh, x6.map Sl.sh, some (.sh (.lst L)), none, none, none, none, none]) (fun ρ W' hI => ?_) (fun N hN => ?_)
  case refine_2 =>
    refine dLc_mapF L id (fun _ => .str (Str.ofString "number")) (noOwn1 (by simp)) (sz _ (by omega)) (fun P hP => by rw [List.map_id] at hP; exact hP) (fun x hx P hP => ?_) ?_
    · exact ⟨rfl, _, _, x, rfl, ncH, (hF x hx).1, .inr ⟨es, rfl, he10, .inr ⟨cs, rfl, hc, .inl ⟨(hF x hx).2, hP⟩⟩⟩⟩
    · refine ⟨sz 1 (by decide), by decide, by decide, sz 12 (by decide), rfl, .lst (L.map fun x => .str (Str.ofString "number")), by rw [hL]; rfl, ?_, hno (hN _ _ ⟨hs, rfl⟩)⟩
      have := plain_strs (n := 3) (L.map fun _ => Str.ofString "number") (by rw [List.length_map]; omega)
      rw [List.map_map] at this
      exact this
  obtain ⟨hs, rfl⟩ := hI
  -- the odd ones
  refine seq_gen (fun ρ W' => ∃ o oh, NC o ∧ isEntD o = false ∧ NC oh ∧ isHistD oh = false ∧ WellOk W' p (n + 2) ∧ ρ = [some (.sh (.ref p)), some (.sh (.dk (rs.map kvD))), some (.sh (.tup (cs.map cmD))), some (.sh (.tpf (es.map rowD))), x4.map Sl.sh, x5.map Sl.sh, x6.map Sl.sh, some (.sh (.lst L)), some (.sh o), some (.sh oh), none, none, none]) (fun ρ W' hI => ?_) (fun N hN => ⟨rfl, p, es, n + 9, rfl, he10, hs, fun o W1 h1 h2 hs => ⟨rfl, p, cs, n + 8, rfl, hc, hs, fun oh W2 h3 h4 hs => ⟨sz 2 (by decide), rfl, hN _ _ ⟨o, oh, h1, h2, h3, h4, hs.less (by omega), rfl⟩⟩⟩⟩)
  obtain ⟨o, oh, n1, o1, n2, o2, hs, rfl⟩ := hI
  refine seq_gen (fun ρ W' => ∃ a b, NC a ∧ NC b ∧ WellOk W' p n ∧ ρ = [some (.sh (.ref p)), some (.sh (.dk (rs.map kvD))), some (.sh (.tup (cs.map cmD))), some (.sh (.tpf (es.map rowD))), x4.map Sl.sh, x5.map Sl.sh, x6.map Sl.sh, some (.sh (.lst L)), some (.sh o), some (.sh oh), some (.sh a), some (.sh b), none]) (fun ρ W' hI => ?_) (fun N hN => ?_)
  case refine_2 =>
    refine ⟨rfl, p, _, n + 1, rfl, hs, by rw [List.length_map]; omega, by rw [List.length_map]; omega, fun r W1 h0 h1 hs => ⟨rfl, p, 12, n, rfl, hs, by decide, by decide, fun r2 W2 b0 b1 hs => ix_all b0 (by rw [lL]; exact b1) fun z hz => ?_⟩⟩
    rw [List.length_map] at h1
    refine hN _ _ ⟨.int r, z, ?_, (hF z hz).1, hs, rfl⟩
    obtain ⟨k, rfl⟩ : ∃ k : Nat, r = k := ⟨r.toNat, by omega⟩
    exact nc_nat (by omega)
  obtain ⟨a, b, na, nb, hs, rfl⟩ := hI
  have two : plainN 4 (.lst [.str (Str.ofString "entries"), .str (Str.ofString "entries")]) := plain_strs (n := 3) [Str.ofString "entries", Str.ofString "entries"] (by decide)
  refine seq_gen (fun ρ W' => WellOk W' p n ∧ ρ = [some (.sh (.ref p)), some (.sh (.dk (rs.map kvD))), some (.sh (.tup (cs.map cmD))), some (.sh (.tpf (es.map rowD))), x4.map Sl.sh, x5.map Sl.sh, x6.map Sl.sh, some (.sh (.lst L)), some (.sh o), some (.sh oh), some (.sh a), some (.sh b), none]) (fun ρ W' hI => ?_) (fun N hN => ?_)
  case refine_2 =>
    refine ⟨rfl, _, _, _, rfl, ncH, na, .inl ⟨n1, o1, ?_⟩⟩
    refine ⟨rfl, _, _, _, rfl, n2, na, .inl ⟨n1, o1, ?_⟩⟩
    exact ⟨sz 2 (by decide), sz 2 (by decide), rfl, _, rfl, two, hno (hN _ _ ⟨hs, rfl⟩)⟩
  obtain ⟨hs, rfl⟩ := hI
  refine seq_gen (fun ρ W' => WellOk W' p n ∧ ρ = [some (.sh (.ref p)), some (.sh (.dk (rs.map kvD))), some (.sh (.tup (cs.map cmD))), some (.sh (.tpf (es.map rowD))), x4.map Sl.sh, x5.map Sl.sh, x6.map Sl.sh, some (.sh (.lst L)), some (.sh o), some (.sh oh), some (.sh a), some (.sh b), none]) (fun ρ W' hI => ?_) (fun N hN => ?_)
  case refine_2 =>
    refine ⟨rfl, _, _, _, rfl, n2, nb, .inl ⟨n1, o1, ?_⟩⟩
    refine ⟨rfl, _, _, _, rfl, ncH, nb, .inl ⟨n1, o1, ?_⟩⟩
    exact ⟨sz 2 (by decide), sz 2 (by decide), rfl, _, rfl, two, hno (hN _ _ ⟨hs, rfl⟩)⟩
  obtain ⟨hs, rfl⟩ := hI
  have nab : ∀ z ∈ [a, b, .int 0], NC z := fun z hz => by
    simp only [List.mem_cons, List.not_mem_nil, or_false] at hz
    rcases hz with rfl | rfl | rfl
    · exact na
    · exact nb
    · exact nc_nat (k := 0) (by decide)
  refine dLc_mapF [a, b, .int 0] id (fun _ => .str (Str.ofString "history")) (noOwn1 (by simp)) (sz 3 (by decide)) (fun P hP => ⟨sz 3 (by decide), hP⟩) (fun x hx P hP => ?_) ?_
  · exact ⟨rfl, _, _, x, rfl, n2, nab x hx, .inr ⟨es, rfl, he10, .inl ⟨o2, hP⟩⟩⟩
  · refine ⟨sz 1 (by decide), by decide, by decide, sz 3 (by decide), rfl, .lst [.str (Str.ofString "history"), .str (Str.ofString "history"), .str (Str.ofString "history")], rfl, ?_, h _ hs⟩
    exact plain_strs (n := 3) [Str.ofString "history", Str.ofString "history", Str.ofString "history"] (by decide)
end K46

namespace K46
open PySem PySem.Spec L2 G TL C J
def WayD (k q : Nat) (d : D) : Prop := ∃ c, d = cmD c ∧ CmOk k c ∧ c.nts.length ≤ q
theorem csq_set {q : Nat} {cs : List Cm} (h : CsQ q cs) {k : Nat} {c : Cm} (hk : k < cs.length) (h1 : CmOk k c) (h2 : c.nts.length ≤ q) : CsQ q (cs.set k c) := by
  refine ⟨⟨by rw [List.length_set]; exact h.1.len, fun i hi => ?_⟩, fun d hd => ?_⟩
  · rw [List.getElem_set]
    split
    · rename_i e; rw [← e]; exact h1
    · exact h.1.cm i (by rwa [List.length_set] at hi)
  · rcases List.mem_or_eq_of_mem_set hd with hd | rfl
    · exact h.2 d hd
    · exact h2
theorem cut_add1 {α : Type} (f : α → D) (xs : List α) (k : Nat) : cutD (xs.map f) (some ((k : Int) + 1)) none = (xs.drop (k + 1)).map f := by
  rw [show ((k : Int) + 1) = ((k + 1 : Nat) : Int) from rfl, cut_map_a]
theorem rd_law_exchanged : Rd n_law_exchanged 3 sp_law_exchanged d_law_exchanged := by
  rintro ds W Q Qx _ ⟨p, ls, cs, q, n, rfl, hp, hc, hq, hne, hs, h⟩
  show d_law_exchanged _ [some (.sh (.ref p)), some (.sh (txsD ls)), some (.sh (.tup (cs.map cmD))), none, none, none, none, none, none, none, none] W
  unfold d_law_exchanged
  have lc := hc.1.len
  have lpos : 0 < cs.length := List.length_pos_iff.mpr hne
  have lls : 0 < ls.length := List.length_pos_iff.mpr hp.ne
  refine seq_gen (fun ρ W' => ∃ k, k < cs.length ∧ WellOk W' p (n + 90) ∧ ρ = [some (.sh (.ref p)), some (.sh (txsD ls)), some (.sh (.tup (cs.map cmD))), some (.sh (.int (k : Nat))), none, none, none, none, none, none, none]) (fun ρ W' hI => ?_) (fun N hN => ?_)
  case refine_2 =>
    refine ⟨rfl, p, _, n + 99, rfl, hs, by rw [List.length_map]; omega, by rw [List.length_map]; omega, fun r W1 h0 h1 hs => ?_⟩
    rw [List.length_map] at h1
    obtain ⟨k, rfl⟩ : ∃ k : Nat, r = k := ⟨r.toNat, by omega⟩
    exact hN _ _ ⟨k, by omega, hs.less (by omega), rfl⟩
  obtain ⟨k, hk, hs, rfl⟩ := hI
  obtain ⟨c, ec⟩ : ∃ c, cs[k]? = some c := ⟨_, List.getElem?_eq_getElem hk⟩
  have hcm : CmOk k c ∧ c.nts.length ≤ q := by
    obtain ⟨h1, rfl⟩ := List.getElem?_eq_some_iff.mp ec
    exact ⟨hc.1.cm k h1, hc.2 _ (List.getElem_mem _)⟩
  obtain ⟨hcm, hcq⟩ := hcm
  refine seq_gen (fun ρ W' => WellOk W' p (n + 90) ∧ ρ = [some (.sh (.ref p)), some (.sh (txsD ls)), some (.sh (.tup (cs.map cmD))), some (.sh (.int (k : Nat))), some (.sh (.int c.snap)), some (.sh (.bl c.ser)), some (.sh (.tup (c.nts.map ntD))), some (.sh (rowsD c.ch)), none, none, none]) (fun ρ W' hI => ?_) (fun N hN => ⟨cmD c, atI_of (by rw [List.getElem?_map, ec]; rfl), rfl, hN _ _ ⟨hs, rfl⟩⟩)
  obtain ⟨hs, rfl⟩ := hI
  -- the other note
  refine seq_gen (fun ρ W' => ∃ t, NtOk t ∧ WellOk W' p (n + 80) ∧ ρ = [some (.sh (.ref p)), some (.sh (txsD ls)), some (.sh (.tup (cs.map cmD))), some (.sh (.int (k : Nat))), some (.sh (.int c.snap)), some (.sh (.bl c.ser)), some (.sh (.tup (c.nts.map ntD))), some (.sh (rowsD c.ch)), some (.sh (ntD t)), none, none]) (fun ρ W' hI => ?_) (fun N hN => ?_)
  case refine_2 =>
    refine ⟨rfl, p, _, n + 89, rfl, hs, by rw [List.length_map]; omega, by rw [List.length_map]; have := hp.len; omega, fun r W1 h0 h1 hs => ix_all h0 h1 fun z hz => ?_⟩
    rw [List.mem_map] at hz
    obtain ⟨l, hl, rfl⟩ := hz
    refine ⟨rfl, p, 2, n + 85, rfl, by decide, hs, fun w W2 pw lw hs => ⟨sz 3 (by decide), rfl, p, 3, n + 80, rfl, hs.less (by omega), by decide, by decide, fun r2 W3 h2 h3 hs => ix_all h2 h3 fun y hy => ⟨sz 3 (by decide), ?_⟩⟩⟩
    have : ∃ o, OpB o ∧ y = optD o := by
      simp only [List.mem_cons, List.not_mem_nil, or_false] at hy
      rcases hy with rfl | rfl | rfl
      · exact ⟨none, (fun v q => nomatch q), rfl⟩
      · exact ⟨some [], (fun v q => by cases q; exact ⟨by decide, by unfold Pr; decide⟩), rfl⟩
      · exact ⟨some w, (fun v q => by cases q; exact ⟨by omega, pw⟩), rfl⟩
    obtain ⟨o, ho, rfl⟩ := this
    exact hN _ _ ⟨.v l o, ⟨hp.tx l hl, ho⟩, hs, rfl⟩
  obtain ⟨t, ht, hs, rfl⟩ := hI
  refine seq_gen (fun ρ W' => ∃ j, j ≤ c.nts.length ∧ WellOk W' p (n + 79) ∧ ρ = [some (.sh (.ref p)), some (.sh (txsD ls)), some (.sh (.tup (cs.map cmD))), some (.sh (.int (k : Nat))), some (.sh (.int c.snap)), some (.sh (.bl c.ser)), some (.sh (.tup (c.nts.map ntD))), some (.sh (rowsD c.ch)), some (.sh (ntD t)), some (.sh (.int (j : Nat))), none]) (fun ρ W' hI => ?_) (fun N hN => ?_)
  case refine_2 =>
    refine ⟨rfl, p, _, n + 79, rfl, hs, by rw [List.length_map]; omega, by rw [List.length_map]; have := hcm.many; omega, fun r W1 h0 h1 hs => ?_⟩
    rw [List.length_map] at h1
    obtain ⟨j, rfl⟩ : ∃ j : Nat, r = j := ⟨r.toNat, by omega⟩
    exact hN _ _ ⟨j, by omega, hs, rfl⟩
  obtain ⟨j, hj, hs, rfl⟩ := hI
  have many := hcm.many
  have way : ∀ {snap : Nat} {ser : Bool} {nts : List Nt} {ch : List Rw}, snap ≤ k → nts.length ≤ q + 1 → (∀ t ∈ nts, NtOk t) → ChOk 4 ch → WayD k (q + 1) (cmD ⟨snap, ser, nts, ch⟩) := fun h1 h2 h3 h4 => ⟨_, rfl, ⟨h1, (by show _ ≤ 9; exact Nat.le_trans h2 (by omega)), h3, h4⟩, h2⟩
  -- the ways
  refine seq_gen (fun ρ W' => ∃ ws, ws.length = 2 ∧ (∀ w ∈ ws, WayD k (q + 1) w) ∧ WellOk W' p (n + 78) ∧ ρ = [some (.sh (.ref p)), some (.sh (txsD ls)), some (.sh (.tup (cs.map cmD))), some (.sh (.int (k : Nat))), some (.sh (.int c.snap)), some (.sh (.bl c.ser)), some (.sh (.tup (c.nts.map ntD))), some (.sh (rowsD c.ch)), some (.sh (ntD t)), some (.sh (.int (j : Nat))), some (.ol ws)]) (fun ρ W' hI => ?_) (fun N hN => ?_)
  case refine_2 =>
    have e1 : cutD (c.nts.map ntD) none (some (j : Int)) ++ [ntD t] ++ cutD (c.nts.map ntD) (some ((j : Int) + 1)) none = (c.nts.take j ++ [t] ++ c.nts.drop (j + 1)).map ntD := by
      rw [cut_b', cut_add1, List.map_append, List.map_append, List.map_take]; rfl
    have l1 : (c.nts.take j ++ [t] ++ c.nts.drop (j + 1)).length ≤ c.nts.length + 1 := by simp; omega
    have s1 : (cutD (c.nts.map ntD) none (some (j : Int))).length ≤ 9 := by
      have := (cut_sub (c.nts.map ntD) none (some (j : Int))).length_le
      rw [List.length_map] at this; omega
    have s2 : (cutD (c.nts.map ntD) none (some (j : Int)) ++ [ntD t]).length + (cutD (c.nts.map ntD) (some ((j : Int) + 1)) none).length ≤ 16777216 := by
      rw [← List.length_append, e1, List.length_map]; omega
    have m1 : ∀ x ∈ c.nts.take j ++ [t] ++ c.nts.drop (j + 1), NtOk x := fun x hx => by
      rcases List.mem_append.mp hx with hx | hx
      · rcases List.mem_append.mp hx with hx | hx
        · exact hcm.nts x (List.mem_of_mem_take hx)
        · rw [List.mem_singleton.mp hx]; exact ht
      · exact hcm.nts x (List.mem_of_mem_drop hx)
    refine ⟨sz 1 (by decide), sz _ (by show _ + 1 ≤ _; omega), sz _ s2, sz 4 (by decide), rfl, p, _, n + 78, rfl, hs, by omega, by omega, fun r W1 h0 h1 hs => ⟨sz 4 (by decide), sz 2 (by decide), hN _ _ ⟨_, ?_, fun w hw => ?_, hs, rfl⟩⟩⟩
    · rfl
    · obtain ⟨r, rfl⟩ : ∃ k : Nat, r = k := ⟨r.toNat, by omega⟩
      simp only [List.mem_cons, List.not_mem_nil, or_false] at hw
      rcases hw with rfl | rfl
      · have := way (snap := c.snap) (ser := c.ser) hcm.snap (by omega) m1 hcm.ch
        unfold cmD at this
        rw [← e1] at this
        exact this
      · exact way (snap := r) (ser := c.ser) (nts := c.nts) (ch := c.ch) (by omega) (by omega) hcm.nts hcm.ch
  obtain ⟨ws, lw, hw, hs, rfl⟩ := hI
  refine seq_gen (fun ρ W' => ∃ ws, ws.length = 4 ∧ (∀ w ∈ ws, WayD k (q + 1) w) ∧ WellOk W' p (n + 38) ∧ ρ = [some (.sh (.ref p)), some (.sh (txsD ls)), some (.sh (.tup (cs.map cmD))), some (.sh (.int (k : Nat))), some (.sh (.int c.snap)), some (.sh (.bl c.ser)), some (.sh (.tup (c.nts.map ntD))), some (.sh (rowsD c.ch)), some (.sh (ntD t)), some (.sh (.int (j : Nat))), some (.ol ws)]) (fun ρ W' hI => ?_) (fun N hN => ?_)
  case refine_2 =>
    refine ⟨⟨_, rfl⟩, rfl, p, ls, 2, n + 38, rfl, by have := hp.len; omega, hp.tx, by decide, hs, fun ch W1 hch hs => ⟨sz 4 (by decide), sz 4 (by decide), sz 2 (by decide), ?_⟩⟩
    refine ⟨sz _ (by rw [lw]; show 2 + 2 ≤ _; decide), hN _ _ ⟨_, ?_, fun w hw' => ?_, hs, rfl⟩⟩
    · rw [List.length_append, lw]; rfl
    · rcases List.mem_append.mp hw' with hw' | hw'
      · exact hw w hw'
      · simp only [List.mem_cons, List.not_mem_nil, or_false] at hw'
        rcases hw' with rfl | rfl
        · exact way (snap := c.snap) (ser := c.ser) (nts := c.nts) (ch := ch) hcm.snap (by omega) hcm.nts ⟨Nat.le_trans hch.len (by decide), hch.row, hch.ord⟩
        · exact way (snap := c.snap) (ser := !c.ser) (nts := c.nts) (ch := c.ch) hcm.snap (by omega) hcm.nts hcm.ch
  obtain ⟨ws, lw, hw, hs, rfl⟩ := hI
  refine seq_gen (fun ρ W' => ∃ ws, ws.length = 5 ∧ (∀ w ∈ ws, WayD k (q + 1) w) ∧ WellOk W' p (n + 38) ∧ ρ = [some (.sh (.ref p)), some (.sh (txsD ls)), some (.sh (.tup (cs.map cmD))), some (.sh (.int (k : Nat))), some (.sh (.int c.snap)), some (.sh (.bl c.ser)), some (.sh (.tup (c.nts.map ntD))), some (.sh (rowsD c.ch)), some (.sh (ntD t)), some (.sh (.int (j : Nat))), some (.ol ws)]) (fun ρ W' hI => ?_) (fun N hN => ?_)
  case refine_2 =>
    have e1 : cutD (c.nts.map ntD) none (some (j : Int)) ++ cutD (c.nts.map ntD) (some ((j : Int) + 1)) none = (c.nts.take j ++ c.nts.drop (j + 1)).map ntD := by
      rw [cut_b', cut_add1, List.map_append, List.map_take]
    have l1 : (c.nts.take j ++ c.nts.drop (j + 1)).length ≤ c.nts.length := by simp; omega
    have s2 : (cutD (c.nts.map ntD) none (some (j : Int))).length + (cutD (c.nts.map ntD) (some ((j : Int) + 1)) none).length ≤ 16777216 := by
      rw [← List.length_append, e1, List.length_map]; omega
    refine ⟨⟨_, rfl⟩, sz _ s2, sz 4 (by decide), Nat.lt_of_lt_of_le (by rw [lw]; decide : ws.length < 16777216) (sz _ (Nat.le_refl _)), hN _ _ ⟨_, ?_, fun w hw' => ?_, hs, rfl⟩⟩
    · rw [List.length_append, lw]; rfl
    · rcases List.mem_append.mp hw' with hw' | hw'
      · exact hw w hw'
      · rw [List.mem_singleton.mp hw']
        have := way (snap := c.snap) (ser := c.ser) (nts := c.nts.take j ++ c.nts.drop (j + 1)) (ch := c.ch) hcm.snap (by omega) (fun x hx => by
          rcases List.mem_append.mp hx with hx | hx
          · exact hcm.nts x (List.mem_of_mem_take hx)
          · exact hcm.nts x (List.mem_of_mem_drop hx)) hcm.ch
        unfold cmD at this
        rw [← e1] at this
        exact this
  obtain ⟨ws, lw, hw, hs, rfl⟩ := hI
  refine ⟨rfl, p, 5, n, rfl, hs.less (by omega), by decide, by decide, fun r W1 h0 h1 hs => ix_all h0 (by rw [lw]; exact h1) fun z hz => ?_⟩
  obtain ⟨c', rfl, h2, h3⟩ := hw z hz
  have e : cutD (cs.map cmD) none (some (k : Int)) ++ [cmD c'] ++ cutD (cs.map cmD) (some ((k : Int) + 1)) none = (cs.set k c').map cmD := by
    rw [cut_b', cut_add1, List.set_eq_take_append_cons_drop, if_pos hk, List.map_append, List.map_cons, List.map_take]; simp
  have s1 : (cutD (cs.map cmD) none (some (k : Int))).length ≤ 8 := by
    have := (cut_sub (cs.map cmD) none (some (k : Int))).length_le
    rw [List.length_map] at this; omega
  have s2 : (cutD (cs.map cmD) none (some (k : Int)) ++ [cmD c']).length + (cutD (cs.map cmD) (some ((k : Int) + 1)) none).length ≤ 16777216 := by
    rw [← List.length_append, e, List.length_map, List.length_set]; omega
  refine ⟨sz 1 (by decide), sz _ (by show _ + 1 ≤ _; omega), sz _ s2, ?_⟩
  rw [e]
  have hc' : CsQ (q + 1) cs := ⟨hc.1, fun d hd => Nat.le_succ_of_le (hc.2 d hd)⟩
  exact h (cs.set k c') W1 (csq_set hc' hk h2 h3) (fun z => hne (by rw [← List.length_eq_zero_iff] at z ⊢; rwa [List.length_set] at z)) hs
end K46

namespace K46
open PySem PySem.Spec L2 G TL C J
abbrev csD (cs : List Cm) : D := .tup (cs.map cmD)
theorem frz_of {j : Nat} {f : TSD} {De : EndsD} {ρ : G.Env} {W : Wd} {ds : List D} (h : ρ[j]? = some (some (.ol ds))) (q : f De (ρ.set j (some (.sh (.lst ds)))) W) : dFrz j f De ρ W := by
  unfold dFrz
  rw [h]; exact q
theorem rd_law_snapshots_right : Rd n_law_snapshots_right 4 sp_law_snapshots_right d_law_snapshots_right := by
  rintro ds W Q Qx _ ⟨p, ls, rs, es, cs, n, rfl, hp, hr, he, hk, hc, hs, h⟩
  show d_law_snapshots_right _ [some (.sh (.ref p)), some (.sh (.dk (rs.map kvD))), some (.sh (csD cs)), some (.sh (txsD ls)), none, none, none, none, none, none, none, none] W
  unfold d_law_snapshots_right
  have he10 : EsOk 10 es := he.up (by decide)
  have ncH := nc_cs hc.1
  refine seq_gen (fun ρ W' => WellOk W' p (n + 600) ∧ ρ = [some (.sh (.ref p)), some (.sh (.dk (rs.map kvD))), some (.sh (csD cs)), some (.sh (txsD ls)), some (.sh (.tpf (es.map rowD))), some (.ol ([cs].map csD)), none, none, none, none, none, none]) (fun ρ W' hI => ?_) (fun N hN => ⟨rfl, 8, rs, es, rfl, by decide, hr, he, hk, sz 1 (by decide), hN _ _ ⟨hs, rfl⟩⟩)
  obtain ⟨hs, rfl⟩ := hI
  -- the turns
  refine seq_gen (fun ρ W' => ∃ (L : List (List Cm)) (x6 : Option D), L.length ≤ 5 ∧ (∀ c ∈ L, CsOk c) ∧ WellOk W' p (n + 2) ∧ ρ = [some (.sh (.ref p)), some (.sh (.dk (rs.map kvD))), some (.sh (csD cs)), some (.sh (txsD ls)), some (.sh (.tpf (es.map rowD))), some (.ol (L.map csD)), x6.map Sl.sh, none, none, none, none, none]) (fun ρ W' hI => ?_) (fun N hN => ?_)
  case refine_2 =>
    obtain ⟨m, hm⟩ : ∃ m : Nat, m = if cs = [] then 0 else 4 := ⟨_, rfl⟩
    refine dFor_of (rng 0 m) (fun i ρ W' => ∃ (L : List (List Cm)) (x6 : Option D), L.length = i + 1 ∧ (∀ c ∈ L, CsQ (4 + i) c ∧ (m ≠ 0 → c ≠ [])) ∧ WellOk W' p (n + (600 - 110 * i)) ∧ ρ = [some (.sh (.ref p)), some (.sh (.dk (rs.map kvD))), some (.sh (csD cs)), some (.sh (txsD ls)), some (.sh (.tpf (es.map rowD))), some (.ol (L.map csD)), x6.map Sl.sh, none, none, none, none, none]) (fun P hP => ?_) ⟨[cs], none, rfl, fun c hc' => by
      rw [List.mem_singleton.mp hc']
      refine ⟨hc, fun hz q => hz ?_⟩
      rw [hm, if_pos q], hs, rfl⟩ (fun i d ρ W' hd hI => ?_) (fun ρ W' hI => ?_)
    · refine ⟨sz 0 (by decide), ne_tnil ncH ?_⟩
      rw [List.isEmpty_map]
      cases cs with
      | nil =>
        rw [if_pos rfl] at hm
        subst hm
        exact ⟨by decide, by decide, hP⟩
      | cons a r =>
        rw [if_neg (by simp)] at hm
        subst hm
        exact ⟨by decide, by decide, hP⟩
    case refine_3 =>
      obtain ⟨L, x6, hl, hL, hs, rfl⟩ := hI
      have m4 : m ≤ 4 := by rw [hm]; split <;> omega
      rw [rng_len] at hl hs
      exact hN _ _ ⟨L, x6, by omega, fun c hc => (hL c hc).1.1, hs.less (by omega), rfl⟩
    obtain ⟨L, x6, hl, hL, hs, rfl⟩ := hI
    have m4 : m ≤ 4 := by rw [hm]; split <;> omega
    have hi : i < m := by
      have := (List.getElem?_eq_some_iff.mp hd).1
      rw [rng_len] at this; omega
    obtain ⟨N0, hN0⟩ : ∃ N0, n + (600 - 110 * (i + 1)) = N0 := ⟨_, rfl⟩
    have hs : WellOk W' p (N0 + 110) := hs.less (by omega)
    rw [hN0]
    refine ⟨⟨_, rfl⟩, ⟨_, rfl⟩, rfl, p, ((L.map csD).length : Int), N0 + 109, rfl, hs, by rw [List.length_map]; omega, by rw [List.length_map]; omega, fun r W1 h0 h1 hs => ix_all h0 h1 fun z hz => ?_⟩
    rw [List.mem_map] at hz
    obtain ⟨c, hcL, rfl⟩ := hz
    refine ⟨rfl, p, ls, c, 4 + i, N0, rfl, hp, (hL c hcL).1, by omega, (hL c hcL).2 (by omega), hs.less (by omega), fun c' W2 h1 h2 hs => ?_⟩
    refine ⟨Nat.lt_of_lt_of_le (by rw [List.length_map]; omega : (L.map csD).length < 16777216) (sz _ (Nat.le_refl _)), L ++ [c'], some d, by rw [List.length_append, hl]; rfl, fun a ha => ?_, hs, by rw [List.map_append]; rfl⟩
    rcases List.mem_append.mp ha with ha | ha
    · exact ⟨⟨(hL a ha).1.1, fun x hx => Nat.le_trans ((hL a ha).1.2 x hx) (by omega)⟩, (hL a ha).2⟩
    · rw [List.mem_singleton.mp ha]; exact ⟨h1, fun _ => h2⟩
  obtain ⟨L, x6, hl, hL, hs, rfl⟩ := hI
  -- each of them
  refine frz_of (ds := L.map csD) rfl ?_
  refine seq_gen (fun ρ W' => ∃ x7 x8 x9 : Option D, WellOk W' p (n + 2) ∧ ρ = [some (.sh (.ref p)), some (.sh (.dk (rs.map kvD))), some (.sh (csD cs)), some (.sh (txsD ls)), some (.sh (.tpf (es.map rowD))), some (.sh (.lst (L.map csD))), x6.map Sl.sh, x7.map Sl.sh, x8.map Sl.sh, x9.map Sl.sh, none, none]) (fun ρ W' hI => ?_) (fun N hN => ?_)
  case refine_2 =>
    refine dFor_of (L.map csD) (fun i ρ W' => ∃ x7 x8 x9 : Option D, WellOk W' p (n + 2) ∧ ρ = [some (.sh (.ref p)), some (.sh (.dk (rs.map kvD))), some (.sh (csD cs)), some (.sh (txsD ls)), some (.sh (.tpf (es.map rowD))), some (.sh (.lst (L.map csD))), x6.map Sl.sh, x7.map Sl.sh, x8.map Sl.sh, x9.map Sl.sh, none, none]) (fun P hP => hP) ⟨none, none, none, hs, rfl⟩ (fun i d ρ W' hd hI => ?_) (fun ρ W' hI => hN _ _ hI)
    obtain ⟨x7, x8, x9, hs, rfl⟩ := hI
    have hdm := List.mem_of_getElem? hd
    rw [List.mem_map] at hdm
    obtain ⟨c, hcL, rfl⟩ := hdm
    have hc1 := hL c hcL
    have nc1 := nc_cs hc1
    refine seq_gen (fun ρ W' => WellOk W' p (n + 2) ∧ ρ = [some (.sh (.ref p)), some (.sh (.dk (rs.map kvD))), some (.sh (csD cs)), some (.sh (txsD ls)), some (.sh (.tpf (es.map rowD))), some (.sh (.lst (L.map csD))), x6.map Sl.sh, some (.sh (csD c)), some (.sh (.bl (snapB es c))), x9.map Sl.sh, none, none]) (fun ρ W' hI => ?_) (fun N hN => ⟨rfl, rs, es, c, rfl, hr, he, hk, hc1, hN _ _ ⟨hs, rfl⟩⟩)
    obtain ⟨hs, rfl⟩ := hI
    refine seq_gen (fun ρ W' => WellOk W' p (n + 2) ∧ ρ = [some (.sh (.ref p)), some (.sh (.dk (rs.map kvD))), some (.sh (csD cs)), some (.sh (txsD ls)), some (.sh (.tpf (es.map rowD))), some (.sh (.lst (L.map csD))), x6.map Sl.sh, some (.sh (csD c)), some (.sh (.bl (snapB es c))), some (.sh (.lst [.bl (snapB es c), .bl (snapB es c)])), none, none]) (fun ρ W' hI => ?_) (fun N hN => ?_)
    case refine_2 =>
      refine ⟨rfl, _, _, rfl, nc1, .inr ⟨es, rfl, he10, .inr ⟨c, rfl, hc1, ?_⟩⟩⟩
      refine ⟨rfl, rfl, _, _, rfl, nc1, .inr ⟨es, rfl, he10, .inr ⟨c, rfl, hc1, ?_⟩⟩⟩
      exact ⟨sz 2 (by decide), hN _ _ ⟨hs, rfl⟩⟩
    obtain ⟨hs, rfl⟩ := hI
    exact ⟨sz 2 (by decide), rfl, _, rfl, plain_bls (n := 3) [snapB es c, snapB es c] (show 2 ≤ 100 by decide), hno ⟨some _, some _, some _, hs, rfl⟩⟩
  obtain ⟨x7, x8, x9, hs, rfl⟩ := hI
  -- the odd ones
  refine seq_gen (fun ρ W' => ∃ o oh, NC o ∧ isEntD o = false ∧ NC oh ∧ isHistD oh = false ∧ WellOk W' p n ∧ ρ = [some (.sh (.ref p)), some (.sh (.dk (rs.map kvD))), some (.sh (csD cs)), some (.sh (txsD ls)), some (.sh (.tpf (es.map rowD))), some (.sh (.lst (L.map csD))), x6.map Sl.sh, x7.map Sl.sh, x8.map Sl.sh, x9.map Sl.sh, some (.sh o), some (.sh oh)]) (fun ρ W' hI => ?_) (fun N hN => ⟨rfl, p, es, n + 1, rfl, he10, hs, fun o W1 h1 h2 hs => ⟨rfl, p, cs, n, rfl, hc.1, hs, fun oh W2 h3 h4 hs => hN _ _ ⟨o, oh, h1, h2, h3, h4, hs, rfl⟩⟩⟩)
  obtain ⟨o, oh, n1, o1, n2, o2, hs, rfl⟩ := hI
  refine ⟨rfl, _, _, rfl, ncH, .inl ⟨n1, o1, ?_⟩⟩
  refine ⟨rfl, _, _, rfl, n2, .inl ⟨n1, o1, ?_⟩⟩
  refine ⟨rfl, _, _, rfl, n2, .inr ⟨es, rfl, he10, .inl ⟨o2, ?_⟩⟩⟩
  exact ⟨sz 3 (by decide), sz 3 (by decide), rfl, _, rfl, plain_strs (n := 3) [Str.ofString "entries", Str.ofString "entries", Str.ofString "history"] (by decide), h _ hs⟩
end K46

namespace K46
open PySem PySem.Spec L2 G TL C J
theorem csq_last {cs : List Cm} (h : CsQ 4 cs) (hl : cs.length ≤ 7) : ∃ cs', CsQ 4 cs' ∧ cutD (cs.map cmD) (some (-1)) none = (cs.drop (cs.length - 1)).map cmD ∧ cs ++ cs.drop (cs.length - 1) = cs' := by
  refine ⟨_, ⟨⟨?_, fun k hk => ?_⟩, fun c hc => ?_⟩, ?_, rfl⟩
  · rw [List.length_append, List.length_drop]; omega
  · rw [List.length_append, List.length_drop] at hk
    by_cases q : k < cs.length
    · rw [List.getElem_append_left q]; exact h.1.cm k q
    · rw [List.getElem_append_right (by omega), List.getElem_drop]
      have a := h.1.cm (cs.length - 1 + (k - cs.length)) (by omega)
      exact ⟨by have := a.snap; omega, a.many, a.nts, a.ch⟩
  · rcases List.mem_append.mp hc with hc | hc
    · exact h.2 c hc
    · exact h.2 c (List.mem_of_mem_drop hc)
  · unfold cutD
    rw [HT.sIx_none, List.length_map, ← List.map_drop]
    have e : HT.sIx cs.length 0 (some (-1)) = cs.length - 1 := by
      unfold HT.sIx
      simp
      omega
    rw [e, List.take_of_length_le (by rw [List.length_map, List.length_drop]; omega)]
def kvT (r : Rw) : Str × Str := (mkS r.1, mkS (r.2.getD []))
theorem dct_rs {rs : List Rw} (h : ∀ r ∈ rs, r.2 ≠ none) : D.dk (rs.map kvD) = dctOf (rs.map kvT) := by
  unfold dctOf
  show D.dct _ _ = D.dct _ _
  rw [List.map_map, List.map_map, List.map_map, List.map_map]
  congr 1
  refine List.map_congr_left fun r hr => ?_
  show optD r.2 = D.str (mkS (r.2.getD []))
  cases q : r.2 with
  | none => exact absurd q (h r hr)
  | some v => rfl
theorem shownK_rs {rs : List Rw} (h : RsOk 8 rs) : (shownK (rs.map kvT)).length ≤ sizeLine ∧ PyData.strOk (shownK (rs.map kvT)) = true := by
  have a : ∀ p ∈ rs.map kvT, PyData.strOk p.1 = true ∧ PyData.strOk p.2 = true ∧ p.1.length ≤ 40 ∧ p.2.length ≤ 40 := fun p hp => by
    rw [List.mem_map] at hp
    obtain ⟨r, hr, rfl⟩ := hp
    obtain ⟨h1, h2⟩ := h.row r hr
    refine ⟨ok_pr h1.2, ?_, ?_, ?_⟩
    · show PyData.strOk (mkS (r.2.getD [])) = true
      cases q : r.2 with
      | none => exact ok_pr fun c hc => by cases hc
      | some v => exact ok_pr (h2 v q).2
    · show (mkS r.1).length ≤ 40
      rw [len_mkS]; exact h1.1
    · show (mkS (r.2.getD [])).length ≤ 40
      rw [len_mkS]
      cases q : r.2 with
      | none => show 0 ≤ 40; omega
      | some v => exact (h2 v q).1
  refine ⟨?_, shownK_ok fun p hp => ⟨(a p hp).1, (a p hp).2.1⟩⟩
  have := shownK_len a
  have hl := h.len
  rw [List.length_map] at this
  have : (shownK (rs.map kvT)).length ≤ 8 * (20 * 40 + 8) + 3 := Nat.le_trans this (by have := Nat.mul_le_mul_right (20 * 40 + 8) hl; omega)
  rw [show sizeLine = 16777216 from rfl]; omega
theorem rd_law : Rd n_law 1 sp_law d_law := by
  rintro ds W Q Qx _ ⟨ns, rfl, hl, hb, h⟩
  show d_law _ [some (.sh (.scr ns)), none, none, none, none, none, none] W
  unfold d_law
  refine seq_gen (fun ρ W' => True) (fun ρ W' hI => h W') (fun N hN => ?_)
  have p50 : ((10 : Int) ^ (50 : Int).toNat + 77).natAbs < 2 ^ 210 := by decide
  have big1 : 2 ^ 300 ≤ bigB := by unfold bigB; exact Nat.pow_le_pow_right (by decide) (by decide)
  refine dFor_of ([D.int 511, .int (10 ^ (50 : Int).toNat + 77)] ++ (((ns.drop (HT.sIx ns.length 0 none)).take (HT.sIx ns.length ns.length (some 8) - HT.sIx ns.length 0 none)).map D.int)) (fun i ρ W' => ∃ (x1 x2 x3 x4 x5 x6 : Option Sl), ρ = [some (.sh (.scr ns)), x1, x2, x3, x4, x5, x6]) (fun P hP => ?_) ⟨none, none, none, none, none, none, rfl⟩ (fun i d ρ W' hd hI => ?_) (fun ρ W' hI => hN _ _ trivial)
  · refine ⟨⟨by decide, by decide, by decide⟩, sz 2 (by decide), sz _ (by show 2 + _ ≤ _; rw [List.length_map, List.length_take, List.length_drop]; omega), hP⟩
  obtain ⟨x1, x2, x3, x4, x5, x6, rfl⟩ := hI
  obtain ⟨z, hz, rfl⟩ : ∃ z : Int, z.natAbs < bigB ∧ d = .int z := by
    have := List.mem_of_getElem? hd
    rcases List.mem_append.mp this with this | this
    · simp only [List.mem_cons, List.not_mem_nil, or_false] at this
      rcases this with rfl | rfl
      · exact ⟨_, Nat.lt_of_lt_of_le (by decide) big1, rfl⟩
      · exact ⟨_, Nat.lt_of_lt_of_le (Nat.lt_of_lt_of_le p50 (Nat.pow_le_pow_right (by decide) (by decide))) big1, rfl⟩
    · rw [List.mem_map] at this
      obtain ⟨z, hz, rfl⟩ := this
      exact ⟨z, bits_big (hb z (List.mem_of_mem_drop (List.mem_of_mem_take hz))), rfl⟩
  -- the well
  refine seq_gen (fun ρ W' => ∃ p, WellOk W' p 5000 ∧ ρ = [some (.sh (.scr ns)), some (.sh (.int z)), some (.sh (.ref p)), x3, x4, x5, x6]) (fun ρ W1 hI => ?_) (fun N hN => ?_)
  case refine_2 => exact ⟨rfl, z, rfl, hz, fun W1 p hs => hN _ _ ⟨p, hs.less (by decide), rfl⟩⟩
  obtain ⟨p, hs, rfl⟩ := hI
  -- the pool
  refine seq_gen (fun ρ W' => ∃ ls, PoolOk ls ∧ WellOk W' p 4800 ∧ ρ = [some (.sh (.scr ns)), some (.sh (.int z)), some (.sh (.ref p)), some (.sh (txsD ls)), x4, x5, x6]) (fun ρ W1 hI => ?_) (fun N hN => ?_)
  case refine_2 =>
    refine ⟨rfl, p, 6, 4999, rfl, hs, by decide, by decide, fun r W1 h0 h1 hs => ⟨rfl, p, (1 + r).toNat, 4800, ?_, by omega, by omega, hs.less (by decide), fun ls W2 hls hs => hN _ _ ⟨ls, hls, hs, rfl⟩⟩⟩
    rw [Int.toNat_of_nonneg (by omega)]
  obtain ⟨ls, hls, hs, rfl⟩ := hI
  -- the rows
  refine seq_gen (fun ρ W' => ∃ rs, RsOk 8 rs ∧ WellOk W' p 4700 ∧ ρ = [some (.sh (.scr ns)), some (.sh (.int z)), some (.sh (.ref p)), some (.sh (txsD ls)), some (.sh (.dk (rs.map kvD))), x5, x6]) (fun ρ W1 hI => ?_) (fun N hN => ?_)
  case refine_2 => exact ⟨rfl, p, ls, 4700, rfl, hls, hs.less (by decide), fun rs W2 hrs hs => hN _ _ ⟨rs, hrs.up (by decide), hs, rfl⟩⟩
  obtain ⟨rs, hr, hs, rfl⟩ := hI
  obtain ⟨es, he, hk⟩ := can_es hr
  -- the history
  refine seq_gen (fun ρ W' => ∃ cs, CsQ 4 cs ∧ cs.length ≤ 7 ∧ WellOk W' p 3600 ∧ ρ = [some (.sh (.scr ns)), some (.sh (.int z)), some (.sh (.ref p)), some (.sh (txsD ls)), some (.sh (.dk (rs.map kvD))), some (.sh (csD cs)), x6]) (fun ρ W1 hI => ?_) (fun N hN => ?_)
  case refine_2 =>
    refine ⟨rfl, p, 8, 4699, rfl, hs, by decide, by decide, fun r W1 h0 h1 hs => ⟨rfl, p, ls, rs, es, r.toNat, 3600, ?_, hls, hr, he, hk, by omega, hs.less (by decide), fun cs W2 hcs hcl hs => hN _ _ ⟨cs, hcs, by omega, hs, rfl⟩⟩⟩
    rw [Int.toNat_of_nonneg h0]
  obtain ⟨cs0, hc0, hcl0, hs, rfl⟩ := hI
  refine seq_gen (fun ρ W' => ∃ cs, CsQ 4 cs ∧ WellOk W' p 3500 ∧ ρ = [some (.sh (.scr ns)), some (.sh (.int z)), some (.sh (.ref p)), some (.sh (txsD ls)), some (.sh (.dk (rs.map kvD))), some (.sh (csD cs)), x6]) (fun ρ W1 hI => ?_) (fun N hN => ?_)
  case refine_2 =>
    refine ⟨rfl, p, 2, 3599, rfl, hs, by decide, by decide, fun r W1 h0 h1 hs => dEq_int (ite_b (fun _ => ?_) fun _ => hN _ _ ⟨cs0, hc0, hs.less (by decide), rfl⟩)⟩
    obtain ⟨cs1, h1, h2, h3⟩ := csq_last hc0 hcl0
    have e3 : csD cs1 = .tup (cs0.map cmD ++ cutD (cs0.map cmD) (some (-1)) none) := by
      show D.tup _ = _
      rw [h2, ← List.map_append, h3]
    refine ⟨sz _ ?_, ?_⟩
    · show (cs0.map cmD).length + (cutD (cs0.map cmD) (some (-1)) none).length ≤ _
      rw [h2, ← List.length_append, ← List.map_append, List.length_map, h3]
      have := h1.1.len; omega
    · have := hN [some (.sh (.scr ns)), some (.sh (.int z)), some (.sh (.ref p)), some (.sh (txsD ls)), some (.sh (.dk (rs.map kvD))), some (.sh (csD cs1)), x6] W1 ⟨cs1, h1, hs.less (by decide), rfl⟩
      rw [e3] at this
      exact this
  obtain ⟨cs, hc, hs, rfl⟩ := hI
  obtain ⟨r1, r2, r3⟩ := repr_facts (nc_cs hc.1)
  have eK := dct_rs hr.some
  obtain ⟨k1, k2⟩ := shownK_rs hr
  have tOk : PyData.strOk (shownD (csD cs)) = true := by unfold shownD; exact okS_iff.mpr (shown_ok r1)
  -- what is kept
  refine seq_gen (fun ρ W' => WellOk W' p 3500 ∧ ρ = [some (.sh (.scr ns)), some (.sh (.int z)), some (.sh (.ref p)), some (.sh (txsD ls)), some (.sh (.dk (rs.map kvD))), some (.sh (csD cs)), some (.sh (.tup [.str (shownK (rs.map kvT)), .str (shownD (csD cs))]))]) (fun ρ W1 hI => ?_) (fun N hN => ?_)
  case refine_2 =>
    refine ⟨rs.map kvT, by rw [eK], k1, r1, r2, r3, sz 2 (by decide), hN _ _ ⟨hs, rfl⟩⟩
  obtain ⟨hs, rfl⟩ := hI
  refine seq_gen (fun ρ W' => WellOk W' p 2000 ∧ ρ = [some (.sh (.scr ns)), some (.sh (.int z)), some (.sh (.ref p)), some (.sh (txsD ls)), some (.sh (.dk (rs.map kvD))), some (.sh (csD cs)), some (.sh (.tup [.str (shownK (rs.map kvT)), .str (shownD (csD cs))]))]) (fun ρ W1 hI => ?_) (fun N hN => ?_)
  case refine_2 =>
    refine ⟨rfl, p, rs, es, cs, 3000, rfl, hr, he, hk, hc.1, hs.less (by decide), fun W1 hs => hno ?_⟩
    exact ⟨rfl, p, ls, rs, es, 2000, rfl, hls, hr, he, hk, hs.less (by decide), fun W2 hs => hno (hN _ _ ⟨hs, rfl⟩)⟩
  obtain ⟨hs, rfl⟩ := hI
  refine seq_gen (fun ρ W' => ρ = [some (.sh (.scr ns)), some (.sh (.int z)), some (.sh (.ref p)), some (.sh (txsD ls)), some (.sh (.dk (rs.map kvD))), some (.sh (csD cs)), some (.sh (.tup [.str (shownK (rs.map kvT)), .str (shownD (csD cs))]))]) (fun ρ W1 hI => ?_) (fun N hN => ?_)
  case refine_2 =>
    exact ⟨rfl, p, ls, rs, es, cs, 1000, rfl, hls, hr, he, hk, hc, hs.less (by decide), fun W2 hs => hno (hN _ _ rfl)⟩
  subst hI
  refine ⟨rs.map kvT, by rw [eK], k1, r1, r2, r3, sz 2 (by decide), dNe_self ?_ ?_⟩
  · simp [D.good, goods, k2, tOk]
  · exact ⟨_, _, _, _, _, _, rfl⟩
end K46

namespace K46
open PySem PySem.Spec L2 G TL C J
variable {P : Program} {w : World} {K : PySem.W.Frag} {mg : Str → Option Value} {base : Heap}
theorem ok_is_integer (T : Txt K mg)  : Cal P w K mg base 1 "is_integer" s_is_integer ["value"] sp_is_integer :=
  calD T.f_is_integer sc_is_integer fun f cdv A outer s H E hr => ⟨d_is_integer, (gss_one (gs_ret (ge_and (ge_callB call_isi cs_isi rfl T.b_isinstance (by decide +kernel) (ga_cons (gv 0) (ga_cons (ge_ty T.b_int (by decide +kernel)) ga_nil))) (ge_one (ge_not (ge_callB call_isi cs_isi rfl T.b_isinstance (by decide +kernel) (ga_cons (gv 0) (ga_cons (ge_ty T.b_bool (by decide +kernel)) ga_nil)))))))), rd_is_integer⟩

theorem ok_is_between (T : Txt K mg) (C_is_integer : Cal P w K mg base 1 "is_integer" s_is_integer ["value"] sp_is_integer) : Cal P w K mg base 2 "is_between" s_is_between ["least", "value", "most"] sp_is_between :=
  calD T.f_is_between sc_is_between fun f cdv A outer s H E hr => ⟨d_is_between, (gss_one (gs_ret (ge_and (ge_c (takes_of rfl rfl rfl rfl) C_is_integer hr (by decide) (ga_cons (gv 1) ga_nil)) (ge_one (ge_chain op_leA op_leA rs_cmp rs_cmp (gv 0) (gv 1) (gv 2)))))), rd_is_between⟩

theorem ok_is_tuple_of (T : Txt K mg)  : Cal P w K mg base 1 "is_tuple_of" s_is_tuple_of ["length", "value"] sp_is_tuple_of :=
  calD T.f_is_tuple_of sc_is_tuple_of fun f cdv A outer s H E hr => ⟨d_is_tuple_of, (gss_one (gs_ret (ge_and (ge_callB call_isi cs_isi rfl T.b_isinstance (by decide +kernel) (ga_cons (gv 1) (ga_cons (ge_ty T.b_tuple (by decide +kernel)) ga_nil))) (ge_one (ge_cmp (op_eqA hr.units) rs_eq (ge_callB call_len cs_len rfl T.b_len (by decide +kernel) (ga_cons (gv 1) ga_nil)) (gv 0) (nomark _)))))), rd_is_tuple_of⟩

theorem ok_is_text (T : Txt K mg)  : Cal P w K mg base 1 "is_text" s_is_text ["value"] sp_is_text :=
  calD T.f_is_text sc_is_text fun f cdv A outer s H E hr => ⟨d_is_text, (gss_one (gs_ret (ge_and (ge_callB call_isi cs_isi rfl T.b_isinstance (by decide +kernel) (ga_cons (gv 0) (ga_cons (ge_ty T.b_str (by decide +kernel)) ga_nil))) (ge_one (ge_callB (cr_all rfl) cs_all rfl T.b_all (by decide +kernel) (ga_cons (GN.ge (gn_lc [("sign", 1)] rfl sc_is_text.nd (gi_str (gv 0)) (blkOk_by (own := [("sign", 1)]) (N := n_is_text) (sc := defScope s_is_text) (by decide +kernel)) (by decide) (fun _ _ _ _ _ => (gg_name (i := 1) sc_is_text.nd rfl (Or.inl rfl))) (fun _ _ _ _ _ => gts_nil) (fun _ _ _ _ _ => (ge_chain op_leA op_leA rs_cmp rs_cmp (ge_gc T.c_LEAST_SIGN) (gv 1) (ge_gc T.c_GREATEST_SIGN))))) ga_nil)))))), rd_is_text⟩

theorem ok_is_change (T : Txt K mg) (C_is_tuple_of : Cal P w K mg base 1 "is_tuple_of" s_is_tuple_of ["length", "value"] sp_is_tuple_of) (C_is_text : Cal P w K mg base 1 "is_text" s_is_text ["value"] sp_is_text) : Cal P w K mg base 2 "is_change" s_is_change ["value"] sp_is_change :=
  calD T.f_is_change sc_is_change fun f cdv A outer s H E hr => ⟨d_is_change, (gss_one (gs_ret (ge_and (ge_c (takes_of rfl rfl rfl rfl) C_is_tuple_of hr (by decide) (ga_cons ge_int (ga_cons (gv 0) ga_nil))) (ge_and (ge_c (takes_of rfl rfl rfl rfl) C_is_text hr (by decide) (ga_cons (ge_ix ix_seq rs_ix (gv 0) ge_int (fun _ _ => rfl)) ga_nil)) (ge_one (ge_or (ge_cmp op_isA rs_isA (ge_ix ix_seq rs_ix (gv 0) ge_int (fun _ _ => rfl)) ge_non (nomark _)) (ge_one (ge_c (takes_of rfl rfl rfl rfl) C_is_text hr (by decide) (ga_cons (ge_ix ix_seq rs_ix (gv 0) ge_int (fun _ _ => rfl)) ga_nil))))))))), rd_is_change⟩

theorem ok_is_changes (T : Txt K mg) (C_is_change : Cal P w K mg base 2 "is_change" s_is_change ["value"] sp_is_change) : Cal P w K mg base 3 "is_changes" s_is_changes ["value"] sp_is_changes :=
  calD T.f_is_changes sc_is_changes fun f cdv A outer s H E hr => ⟨d_is_changes, (gss_cons (gs_if (GW.gt (gw_or (gt_not (gt_val (ge_callB call_isi cs_isi rfl T.b_isinstance (by decide +kernel) (ga_cons (gv 0) (ga_cons (ge_ty T.b_tuple (by decide +kernel)) ga_nil))))) (gw_or1 (gt_not (gt_val (ge_callB (cr_all rfl) cs_all rfl T.b_all (by decide +kernel) (ga_cons (GN.ge (gn_lc [("change", 1)] rfl sc_is_changes.nd (gi_tup (gv 0)) (blkOk_by (own := [("change", 1)]) (N := n_is_changes) (sc := defScope s_is_changes) (by decide +kernel)) (by decide) (fun _ _ _ _ _ => (gg_name (i := 1) sc_is_changes.nd rfl (Or.inl rfl))) (fun _ _ _ _ _ => gts_nil) (fun _ _ _ _ _ => (ge_c takes0 C_is_change hr (by decide) (ga_cons (gv 1) ga_nil))))) ga_nil))))))) (gss_one (gs_ret ge_bl)) gss_nil)
  (gss_one (gs_ret (ge_callB (cr_all rfl) cs_all rfl T.b_all (by decide +kernel) (ga_cons (GN.ge (gn_lc [("k", 2)] rfl sc_is_changes.nd (gi_range1 rfl T.b_range (ga_cons (ge_op op_sub rs_J (ge_callB call_len cs_len rfl T.b_len (by decide +kernel) (ga_cons (gv 0) ga_nil)) ge_int) ga_nil)) (blkOk_by (own := [("k", 2)]) (N := n_is_changes) (sc := defScope s_is_changes) (by decide +kernel)) (by decide) (fun _ _ _ _ _ => (gg_name (i := 2) sc_is_changes.nd rfl (Or.inl rfl))) (fun _ _ _ _ _ => gts_nil) (fun _ _ _ _ _ => (ge_cmp op_ltA rs_cmp (ge_ix ix_seq rs_ix (ge_ix ix_seq rs_ix (gv 0) (gv 2) (fun _ _ => rfl)) ge_int (fun _ _ => rfl)) (ge_ix ix_seq rs_ix (ge_ix ix_seq rs_ix (gv 0) (ge_op op_addA rs_add (gv 2) ge_int) (fun _ _ => rfl)) ge_int (fun _ _ => rfl)) (nomark _))))) ga_nil))))), rd_is_changes⟩

theorem ok_is_entries (T : Txt K mg) (C_is_changes : Cal P w K mg base 3 "is_changes" s_is_changes ["value"] sp_is_changes) : Cal P w K mg base 4 "is_entries" s_is_entries ["value"] sp_is_entries :=
  calD T.f_is_entries sc_is_entries fun f cdv A outer s H E hr => ⟨d_is_entries, (gss_one (gs_ret (ge_and (ge_c (takes_of rfl rfl rfl rfl) C_is_changes hr (by decide) (ga_cons (gv 0) ga_nil)) (ge_one (ge_callB (cr_all rfl) cs_all rfl T.b_all (by decide +kernel) (ga_cons (GN.ge (gn_lc [("key", 1), ("text", 2)] rfl sc_is_entries.nd (gi_tup (gv 0)) (blkOk_by (own := [("key", 1), ("text", 2)]) (N := n_is_entries) (sc := defScope s_is_entries) (by decide +kernel)) (by decide) (fun _ _ _ _ _ => (gg_tup rfl (ggs_cons (gg_name (i := 1) sc_is_entries.nd rfl (Or.inl rfl)) (ggs_cons (gg_name (i := 2) sc_is_entries.nd rfl (Or.inl rfl)) ggs_nil)))) (fun _ _ _ _ _ => gts_nil) (fun _ _ _ _ _ => (ge_cmp op_notA rs_notA (gv 2) ge_non (nomark _))))) ga_nil)))))), rd_is_entries⟩

theorem ok_is_text_or_none (T : Txt K mg) (C_is_text : Cal P w K mg base 1 "is_text" s_is_text ["value"] sp_is_text) : Cal P w K mg base 2 "is_text_or_none" s_is_text_or_none ["value"] sp_is_text_or_none :=
  calD T.f_is_text_or_none sc_is_text_or_none fun f cdv A outer s H E hr => ⟨d_is_text_or_none, (gss_one (gs_ret (ge_or (ge_cmp op_isA rs_isA (gv 0) ge_non (nomark _)) (ge_one (ge_c (takes_of rfl rfl rfl rfl) C_is_text hr (by decide) (ga_cons (gv 0) ga_nil)))))), rd_is_text_or_none⟩

theorem ok_is_note (T : Txt K mg) (C_is_tuple_of : Cal P w K mg base 1 "is_tuple_of" s_is_tuple_of ["length", "value"] sp_is_tuple_of) (C_is_text : Cal P w K mg base 1 "is_text" s_is_text ["value"] sp_is_text) (C_is_text_or_none : Cal P w K mg base 2 "is_text_or_none" s_is_text_or_none ["value"] sp_is_text_or_none) (C_is_entries : Cal P w K mg base 4 "is_entries" s_is_entries ["value"] sp_is_entries) : Cal P w K mg base 5 "is_note" s_is_note ["value"] sp_is_note :=
  calD T.f_is_note sc_is_note fun f cdv A outer s H E hr => ⟨d_is_note, (gss_cons (gs_if (GW.gt (gw_and (gt_val (ge_c (takes_of rfl rfl rfl rfl) C_is_tuple_of hr (by decide) (ga_cons ge_int (ga_cons (gv 0) ga_nil)))) (gw_and1 (gt_cmp (op_eqA hr.units) rs_eq (ge_ix ix_seq rs_ix (gv 0) ge_int (fun _ _ => rfl)) ge_str (nomark _))))) (gss_one (gs_ret (ge_and (ge_c (takes_of rfl rfl rfl rfl) C_is_text hr (by decide) (ga_cons (ge_ix ix_seq rs_ix (gv 0) ge_int (fun _ _ => rfl)) ga_nil)) (ge_one (ge_c (takes_of rfl rfl rfl rfl) C_is_text_or_none hr (by decide) (ga_cons (ge_ix ix_seq rs_ix (gv 0) ge_int (fun _ _ => rfl)) ga_nil)))))) gss_nil)
  (gss_cons (gs_if (GW.gt (gw_or (gt_not (gt_val (ge_c (takes_of rfl rfl rfl rfl) C_is_tuple_of hr (by decide) (ga_cons ge_int (ga_cons (gv 0) ga_nil))))) (gw_or1 (gt_cmp (op_neA hr.units) rs_ne (ge_ix ix_seq rs_ix (gv 0) ge_int (fun _ _ => rfl)) ge_str (nomark _))))) (gss_one (gs_ret ge_bl)) gss_nil)
  (gss_one (gs_ret (ge_and (ge_c (takes_of rfl rfl rfl rfl) C_is_text_or_none hr (by decide) (ga_cons (ge_ix ix_seq rs_ix (gv 0) ge_int (fun _ _ => rfl)) ga_nil)) (ge_and (ge_c (takes_of rfl rfl rfl rfl) C_is_text_or_none hr (by decide) (ga_cons (ge_ix ix_seq rs_ix (gv 0) ge_int (fun _ _ => rfl)) ga_nil)) (ge_one (ge_c (takes_of rfl rfl rfl rfl) C_is_entries hr (by decide) (ga_cons (ge_ix ix_seq rs_ix (gv 0) ge_int (fun _ _ => rfl)) ga_nil))))))))), rd_is_note⟩

theorem ok_is_commit (T : Txt K mg) (C_is_tuple_of : Cal P w K mg base 1 "is_tuple_of" s_is_tuple_of ["length", "value"] sp_is_tuple_of) (C_is_between : Cal P w K mg base 2 "is_between" s_is_between ["least", "value", "most"] sp_is_between) (C_is_note : Cal P w K mg base 5 "is_note" s_is_note ["value"] sp_is_note) (C_is_changes : Cal P w K mg base 3 "is_changes" s_is_changes ["value"] sp_is_changes) : Cal P w K mg base 6 "is_commit" s_is_commit ["number", "value"] sp_is_commit :=
  calD T.f_is_commit sc_is_commit fun f cdv A outer s H E hr => ⟨d_is_commit, (gss_cons (gs_if (GW.gt (gw_or (gt_not (gt_val (ge_c (takes_of rfl rfl rfl rfl) C_is_tuple_of hr (by decide) (ga_cons ge_int (ga_cons (gv 1) ga_nil))))) (gw_or (gt_not (gt_val (ge_c (takes_of rfl rfl rfl rfl) C_is_between hr (by decide) (ga_cons ge_int (ga_cons (ge_ix ix_seq rs_ix (gv 1) ge_int (fun _ _ => rfl)) (ga_cons (ge_op op_sub rs_J (gv 0) ge_int) ga_nil)))))) (gw_or1 (gt_not (gt_val (ge_callB call_isi cs_isi rfl T.b_isinstance (by decide +kernel) (ga_cons (ge_ix ix_seq rs_ix (gv 1) ge_int (fun _ _ => rfl)) (ga_cons (ge_ty T.b_bool (by decide +kernel)) ga_nil))))))))) (gss_one (gs_ret ge_bl)) gss_nil)
  (gss_one (gs_ret (ge_and (ge_callB call_isi cs_isi rfl T.b_isinstance (by decide +kernel) (ga_cons (ge_ix ix_seq rs_ix (gv 1) ge_int (fun _ _ => rfl)) (ga_cons (ge_ty T.b_tuple (by decide +kernel)) ga_nil))) (ge_and (ge_callB (cr_all rfl) cs_all rfl T.b_all (by decide +kernel) (ga_cons (GN.ge (gn_lc [("note", 2)] rfl sc_is_commit.nd (gi_tup (ge_ix ix_seq rs_ix (gv 1) ge_int (fun _ _ => rfl))) (blkOk_by (own := [("note", 2)]) (N := n_is_commit) (sc := defScope s_is_commit) (by decide +kernel)) (by decide) (fun _ _ _ _ _ => (gg_name (i := 2) sc_is_commit.nd rfl (Or.inl rfl))) (fun _ _ _ _ _ => gts_nil) (fun _ _ _ _ _ => (ge_c takes0 C_is_note hr (by decide) (ga_cons (gv 2) ga_nil))))) ga_nil)) (ge_one (ge_c (takes_of rfl rfl rfl rfl) C_is_changes hr (by decide) (ga_cons (ge_ix ix_seq rs_ix (gv 1) ge_int (fun _ _ => rfl)) ga_nil)))))))), rd_is_commit⟩

theorem ok_is_history (T : Txt K mg) (C_is_commit : Cal P w K mg base 6 "is_commit" s_is_commit ["number", "value"] sp_is_commit) : Cal P w K mg base 7 "is_history" s_is_history ["value"] sp_is_history :=
  calD T.f_is_history sc_is_history fun f cdv A outer s H E hr => ⟨d_is_history, (gss_one (gs_ret (ge_and (ge_callB call_isi cs_isi rfl T.b_isinstance (by decide +kernel) (ga_cons (gv 0) (ga_cons (ge_ty T.b_tuple (by decide +kernel)) ga_nil))) (ge_one (ge_callB (cr_all rfl) cs_all rfl T.b_all (by decide +kernel) (ga_cons (GN.ge (gn_lc [("k", 1)] rfl sc_is_history.nd (gi_range1 rfl T.b_range (ga_cons (ge_callB call_len cs_len rfl T.b_len (by decide +kernel) (ga_cons (gv 0) ga_nil)) ga_nil)) (blkOk_by (own := [("k", 1)]) (N := n_is_history) (sc := defScope s_is_history) (by decide +kernel)) (by decide) (fun _ _ _ _ _ => (gg_name (i := 1) sc_is_history.nd rfl (Or.inl rfl))) (fun _ _ _ _ _ => gts_nil) (fun _ _ _ _ _ => (ge_c takes0 C_is_commit hr (by decide) (ga_cons (ge_op op_addA rs_add (gv 1) ge_int) (ga_cons (ge_ix ix_seq rs_ix (gv 0) (gv 1) (fun _ _ => rfl)) ga_nil)))))) ga_nil)))))), rd_is_history⟩

theorem ok_check_entries (T : Txt K mg) (C_is_entries : Cal P w K mg base 4 "is_entries" s_is_entries ["value"] sp_is_entries) : Cal P w K mg base 5 "check_entries" s_check_entries ["entries"] sp_check_entries :=
  calD T.f_check_entries sc_check_entries fun f cdv A outer s H E hr => ⟨d_check_entries, (gss_one (gs_if (gt_not (gt_val (ge_c (takes_of rfl rfl rfl rfl) C_is_entries hr (by decide) (ga_cons (gv 0) ga_nil)))) (gss_one (gs_raise rfl (takes_of rfl rfl rfl rfl) T.x_InvalidEntries)) gss_nil)), rd_check_entries⟩

theorem ok_check_history (T : Txt K mg) (C_is_history : Cal P w K mg base 7 "is_history" s_is_history ["value"] sp_is_history) : Cal P w K mg base 8 "check_history" s_check_history ["history"] sp_check_history :=
  calD T.f_check_history sc_check_history fun f cdv A outer s H E hr => ⟨d_check_history, (gss_one (gs_if (gt_not (gt_val (ge_c (takes_of rfl rfl rfl rfl) C_is_history hr (by decide) (ga_cons (gv 0) ga_nil)))) (gss_one (gs_raise rfl (takes_of rfl rfl rfl rfl) T.x_InvalidHistory)) gss_nil)), rd_check_history⟩

theorem ok_has (T : Txt K mg)  : Cal P w K mg base 1 "has" s_has ["note", "key"] sp_has :=
  calD T.f_has sc_has fun f cdv A outer s H E hr => ⟨d_has, (gss_cons (gs_if (gt_cmp (op_eqA hr.units) rs_eq (ge_ix ix_seq rs_ix (gv 0) ge_int (fun _ _ => rfl)) ge_str (nomark _)) (gss_one (gs_ret (ge_cmp (op_eqA hr.units) rs_eq (ge_ix ix_seq rs_ix (gv 0) ge_int (fun _ _ => rfl)) (gv 1) (nomark _)))) gss_nil)
  (gss_one (gs_ret (ge_and (ge_or (ge_cmp op_isA rs_isA (ge_ix ix_seq rs_ix (gv 0) ge_int (fun _ _ => rfl)) ge_non (nomark _)) (ge_one (ge_cmp op_leA rs_cmp (ge_ix ix_seq rs_ix (gv 0) ge_int (fun _ _ => rfl)) (gv 1) (nomark _)))) (ge_one (ge_or (ge_cmp op_isA rs_isA (ge_ix ix_seq rs_ix (gv 0) ge_int (fun _ _ => rfl)) ge_non (nomark _)) (ge_one (ge_cmp op_ltA rs_cmp (gv 1) (ge_ix ix_seq rs_ix (gv 0) ge_int (fun _ _ => rfl)) (nomark _))))))))), rd_has⟩

theorem ok_tells (T : Txt K mg) (C_has : Cal P w K mg base 1 "has" s_has ["note", "key"] sp_has) : Cal P w K mg base 2 "tells" s_tells ["entries", "note"] sp_tells :=
  calD T.f_tells sc_tells fun f cdv A outer s H E hr => ⟨d_tells, (gss_cons (gs_set (i := 2) sc_tells.nd rfl (Or.inl rfl) (ge_callTy call_tuple_of cs_tup rfl T.b_tuple (by decide +kernel) (ga_cons (GN.ge (gn_lc [("entry", 3)] rfl sc_tells.nd (gi_tup (gv 0)) (blkOk_by (own := [("entry", 3)]) (N := n_tells) (sc := defScope s_tells) (by decide +kernel)) (by decide) (fun _ _ _ _ _ => (gg_name (i := 3) sc_tells.nd rfl (Or.inl rfl))) (fun _ _ _ _ _ => (gts_one (gt_val (ge_c takes0 C_has hr (by decide) (ga_cons (gv 1) (ga_cons (ge_ix ix_seq rs_ix (gv 3) ge_int (fun _ _ => rfl)) ga_nil)))))) (fun _ _ _ _ _ => (gv 3)))) ga_nil)))
  (gss_cons (gs_if (gt_cmp (op_eqA hr.units) rs_eq (ge_ix ix_seq rs_ix (gv 1) ge_int (fun _ _ => rfl)) ge_str (nomark _)) (gss_one (gs_ret (ge_cmp (op_eqA hr.units) rs_eq (gv 2) (ge_ix ix_seq rs_ix (gv 1) ge_int (fun _ _ => rfl)) (nomark _)))) gss_nil)
  (gss_one (gs_ret (ge_cmp (op_eqA hr.units) rs_eq (gv 2) (ge_if (gt_cmp op_isA rs_isA (ge_ix ix_seq rs_ix (gv 1) ge_int (fun _ _ => rfl)) ge_non (nomark _)) (ge_tup ga_nil) (ge_tup (ga_cons (ge_sl sl_any ss_cut (gv 1) (go_some ge_int) go_none) ga_nil))) (nomark _)))))), rd_tells⟩

theorem ok_is_given (T : Txt K mg) (C_check_entries : Cal P w K mg base 5 "check_entries" s_check_entries ["entries"] sp_check_entries) (C_is_note : Cal P w K mg base 5 "is_note" s_is_note ["value"] sp_is_note) (C_tells : Cal P w K mg base 2 "tells" s_tells ["entries", "note"] sp_tells) : Cal P w K mg base 6 "is_given" s_is_given ["entries", "value"] sp_is_given :=
  calD T.f_is_given sc_is_given fun f cdv A outer s H E hr => ⟨d_is_given, (gss_cons (gs_expr (ge_c (takes_of rfl rfl rfl rfl) C_check_entries hr (by decide) (ga_cons (gv 0) ga_nil)))
  (gss_one (gs_ret (ge_and (ge_c (takes_of rfl rfl rfl rfl) C_is_note hr (by decide) (ga_cons (gv 1) ga_nil)) (ge_one (ge_c (takes_of rfl rfl rfl rfl) C_tells hr (by decide) (ga_cons (gv 0) (ga_cons (gv 1) ga_nil)))))))), rd_is_given⟩

theorem ok_laid_over (T : Txt K mg)  : Cal P w K mg base 1 "laid_over" s_laid_over ["entries", "changes"] sp_laid_over :=
  calD T.f_laid_over sc_laid_over fun f cdv A outer s H E hr => ⟨d_laid_over, (gss_cons (gs_setD (j := 2) sc_laid_over.nd rfl (Or.inr rfl) (gd_dictT rfl rfl T.b_dict (by decide +kernel) (gv 0)))
  (gss_cons (gs_for (passes_of rfl) rfl (gi_tup (gv 1)) (gg_tup rfl (ggs_cons (gg_name (i := 3) sc_laid_over.nd rfl (Or.inl rfl)) (ggs_cons (gg_name (i := 4) sc_laid_over.nd rfl (Or.inl rfl)) ggs_nil)))
  (gss_one (gs_dputO (j := 2) (hu_of hr.toRoom) (gv 4) (gv 3))))
  (gss_frzD 2 (gss_one (gs_ret (ge_callTy cr_tupF cs_tupF rfl T.b_tuple (by decide +kernel) (ga_cons (GN.ge (gn_lc [("key", 3)] rfl sc_laid_over.nd (gi_list (GN.ge (gn_sortD rfl rfl T.b_sorted (by decide +kernel) (gv 2)))) (blkOk_by (own := [("key", 3)]) (N := n_laid_over) (sc := defScope s_laid_over) (by decide +kernel)) (by decide) (fun _ _ _ _ _ => (gg_name (i := 3) sc_laid_over.nd rfl (Or.inl rfl))) (fun _ _ _ _ _ => (gts_one (gt_cmp op_notA rs_notA (ge_dget (hu_of hr.toRoom) (gv 2) (gv 3) (fun _ _ => rfl)) ge_non (nomark _)))) (fun _ _ _ _ _ => (ge_tup (ga_cons (gv 3) (ga_cons (ge_dget (hu_of hr.toRoom) (gv 2) (gv 3) (fun _ _ => rfl)) ga_nil)))))) ga_nil))))))), rd_laid_over⟩

theorem ok_pasts_of (T : Txt K mg) (C_laid_over : Cal P w K mg base 1 "laid_over" s_laid_over ["entries", "changes"] sp_laid_over) : Cal P w K mg base 2 "pasts_of" s_pasts_of ["entries", "history"] sp_pasts_of :=
  calD T.f_pasts_of sc_pasts_of fun f cdv A outer s H E hr => ⟨d_pasts_of, (gss_cons (gs_setO (i := 2) sc_pasts_of.nd rfl (Or.inl rfl) (gn_lst (ga_cons (gv 0) ga_nil)))
  (gss_cons (gs_for (passes_of rfl) rfl (gi_tup (gv 1)) (gg_name (i := 3) sc_pasts_of.nd rfl (Or.inl rfl))
  (gss_one (gs_app (i := 2) (ge_c (takes_of rfl rfl rfl rfl) C_laid_over hr (by decide) (ga_cons (ge_ixO 2 (ge_neg ge_int) (fun _ _ => rfl)) (ga_cons (ge_ix ix_seq rs_ix (gv 3) ge_int (fun _ _ => rfl)) ga_nil))))))
  (gss_frz 2 (gss_one (gs_ret (gv 2)))))), rd_pasts_of⟩

theorem ok_past_of (T : Txt K mg) (C_check_entries : Cal P w K mg base 5 "check_entries" s_check_entries ["entries"] sp_check_entries) (C_check_history : Cal P w K mg base 8 "check_history" s_check_history ["history"] sp_check_history) (C_is_between : Cal P w K mg base 2 "is_between" s_is_between ["least", "value", "most"] sp_is_between) (C_pasts_of : Cal P w K mg base 2 "pasts_of" s_pasts_of ["entries", "history"] sp_pasts_of) : Cal P w K mg base 9 "past_of" s_past_of ["entries", "history", "number"] sp_past_of :=
  calD T.f_past_of sc_past_of fun f cdv A outer s H E hr => ⟨d_past_of, (gss_cons (gs_expr (ge_c (takes_of rfl rfl rfl rfl) C_check_entries hr (by decide) (ga_cons (ge_wk (gv 0)) ga_nil)))
  (gss_cons (gs_expr (ge_c (takes_of rfl rfl rfl rfl) C_check_history hr (by decide) (ga_cons (gv 1) ga_nil)))
  (gss_cons (gs_if (gt_not (gt_val (ge_c (takes_of rfl rfl rfl rfl) C_is_between hr (by decide) (ga_cons ge_int (ga_cons (gv 2) (ga_cons (ge_callB call_len cs_len rfl T.b_len (by decide +kernel) (ga_cons (gv 1) ga_nil)) ga_nil)))))) (gss_one (gs_raise rfl (takes_of rfl rfl rfl rfl) T.x_InvalidNumber)) gss_nil)
  (gss_one (gs_ret (ge_wk (ge_ix ix_seq rs_ix (ge_c (takes_of rfl rfl rfl rfl) C_pasts_of hr (by decide) (ga_cons (gv 0) (ga_cons (gv 1) ga_nil))) (gv 2) (fun _ _ => rfl)))))))), rd_past_of⟩

theorem ok_changed (T : Txt K mg)  : Cal P w K mg base 1 "changed" s_changed ["history", "number"] sp_changed :=
  calD T.f_changed sc_changed fun f cdv A outer s H E hr => ⟨d_changed, (gss_one (gs_ret (GN.ge (gn_lc [("key", 2), ("value", 3)] rfl sc_changed.nd (gi_tup (ge_ix ix_seq rs_ix (ge_ix ix_seq rs_ix (gv 0) (ge_op op_sub rs_J (gv 1) ge_int) (fun _ _ => rfl)) ge_int (fun _ _ => rfl))) (blkOk_by (own := [("key", 2), ("value", 3)]) (N := n_changed) (sc := defScope s_changed) (by decide +kernel)) (by decide) (fun _ _ _ _ _ => (gg_tup rfl (ggs_cons (gg_name (i := 2) sc_changed.nd rfl (Or.inl rfl)) (ggs_cons (gg_name (i := 3) sc_changed.nd rfl (Or.inl rfl)) ggs_nil)))) (fun _ _ _ _ _ => gts_nil) (fun _ _ _ _ _ => (gv 2)))))), rd_changed⟩

theorem ok_share (T : Txt K mg) (C_changed : Cal P w K mg base 1 "changed" s_changed ["history", "number"] sp_changed) : Cal P w K mg base 2 "share" s_share ["history", "one", "other"] sp_share :=
  calD T.f_share sc_share fun f cdv A outer s H E hr => ⟨d_share, (gss_one (gs_ret (ge_callB (cr_any rfl) cs_any rfl T.b_any (by decide +kernel) (ga_cons (GN.ge (gn_lc [("key", 3)] rfl sc_share.nd (gi_list (ge_c (takes_of rfl rfl rfl rfl) C_changed hr (by decide) (ga_cons (gv 0) (ga_cons (gv 1) ga_nil)))) (blkOk_by (own := [("key", 3)]) (N := n_share) (sc := defScope s_share) (by decide +kernel)) (by decide) (fun _ _ _ _ _ => (gg_name (i := 3) sc_share.nd rfl (Or.inl rfl))) (fun _ _ _ _ _ => gts_nil) (fun _ _ _ _ _ => (ge_cmp op_inA rs_in (gv 3) (ge_c takes0 C_changed hr (by decide) (ga_cons (gv 0) (ga_cons (gv 2) ga_nil))) rfl)))) ga_nil)))), rd_share⟩

theorem ok_is_snapshot_history (T : Txt K mg) (C_check_entries : Cal P w K mg base 5 "check_entries" s_check_entries ["entries"] sp_check_entries) (C_check_history : Cal P w K mg base 8 "check_history" s_check_history ["history"] sp_check_history) (C_pasts_of : Cal P w K mg base 2 "pasts_of" s_pasts_of ["entries", "history"] sp_pasts_of) (C_tells : Cal P w K mg base 2 "tells" s_tells ["entries", "note"] sp_tells) (C_share : Cal P w K mg base 2 "share" s_share ["history", "one", "other"] sp_share) : Cal P w K mg base 9 "is_snapshot_history" s_is_snapshot_history ["entries", "history"] sp_is_snapshot_history :=
  calD T.f_is_snapshot_history sc_is_snapshot_history fun f cdv A outer s H E hr => ⟨d_is_snapshot_history, (gss_cons (gs_expr (ge_c (takes_of rfl rfl rfl rfl) C_check_entries hr (by decide) (ga_cons (ge_wk (gv 0)) ga_nil)))
  (gss_cons (gs_expr (ge_c (takes_of rfl rfl rfl rfl) C_check_history hr (by decide) (ga_cons (gv 1) ga_nil)))
  (gss_cons (gs_set (i := 2) sc_is_snapshot_history.nd rfl (Or.inr rfl) (ge_c (takes_of rfl rfl rfl rfl) C_pasts_of hr (by decide) (ga_cons (gv 0) (ga_cons (gv 1) ga_nil))))
  (gss_cons (gs_for (passes_of rfl) rfl (gi_range2 rfl T.b_range (ga_cons ge_int (ga_cons (ge_op op_addA rs_add (ge_callB call_len cs_len rfl T.b_len (by decide +kernel) (ga_cons (gv 1) ga_nil)) ge_int) ga_nil))) (gg_name (i := 3) sc_is_snapshot_history.nd rfl (Or.inr rfl))
  (gss_cons (gs_asg (ge_ix ix_seq rs_ix (gv 1) (ge_op op_sub rs_J (gv 3) ge_int) (fun _ _ => rfl)) (gg_tup rfl (ggs_cons (gg_name (i := 4) sc_is_snapshot_history.nd rfl (Or.inr rfl)) (ggs_cons (gg_name (i := 5) sc_is_snapshot_history.nd rfl (Or.inl rfl)) (ggs_cons (gg_name (i := 6) sc_is_snapshot_history.nd rfl (Or.inl rfl)) (ggs_cons (gg_name (i := 7) sc_is_snapshot_history.nd rfl (Or.inl rfl)) ggs_nil))))))
  (gss_cons (gs_if (gt_not (gt_val (ge_callB (cr_all rfl) cs_all rfl T.b_all (by decide +kernel) (ga_cons (GN.ge (gn_lc [("note", 9)] rfl sc_is_snapshot_history.nd (gi_tup (gv 6)) (blkOk_by (own := [("note", 9)]) (N := n_is_snapshot_history) (sc := defScope s_is_snapshot_history) (by decide +kernel)) (by decide) (fun _ _ _ _ _ => (gg_name (i := 9) sc_is_snapshot_history.nd rfl (Or.inl rfl))) (fun _ _ _ _ _ => gts_nil) (fun _ _ _ _ _ => (ge_c takes0 C_tells hr (by decide) (ga_cons (ge_wk (ge_ix ix_seq rs_ix (gv 2) (gv 4) (fun _ _ => rfl))) (ga_cons (gv 9) ga_nil)))))) ga_nil)))) (gss_one (gs_ret ge_bl)) gss_nil)
  (gss_one (gs_if (gt_val (ge_callB (cr_any rfl) cs_any rfl T.b_any (by decide +kernel) (ga_cons (GN.ge (gn_lc [("other", 8)] rfl sc_is_snapshot_history.nd (gi_range2 rfl T.b_range (ga_cons (ge_op op_addA rs_add (gv 4) ge_int) (ga_cons (gv 3) ga_nil))) (blkOk_by (own := [("other", 8)]) (N := n_is_snapshot_history) (sc := defScope s_is_snapshot_history) (by decide +kernel)) (by decide) (fun _ _ _ _ _ => (gg_name (i := 8) sc_is_snapshot_history.nd rfl (Or.inl rfl))) (fun _ _ _ _ _ => gts_nil) (fun _ _ _ _ _ => (ge_c takes0 C_share hr (by decide) (ga_cons (gv 1) (ga_cons (gv 8) (ga_cons (gv 3) ga_nil))))))) ga_nil))) (gss_one (gs_ret ge_bl)) gss_nil)))))
  (gss_one (gs_ret ge_bl)))))), rd_is_snapshot_history⟩

theorem ok_law_well (T : Txt K mg)  : Cal P w K mg base 1 "_law_well" s_law_well ["cell"] sp_law_well :=
  calD T.f_law_well sc_law_well fun f cdv A outer s H E hr => ⟨d_law_well, (gss_cons (gs_set (i := 0) sc_law_well.nd rfl (Or.inl rfl) (ge_callTy call_intA cs_int rfl T.b_int (by decide +kernel) (ga_cons (gv 0) ga_nil)))
  (gss_one (gs_retW (gn_lst (ga_cons (ge_if (gt_cmp op_geA rs_cmp (gv 0) (ge_op op_pow rs_I ge_int ge_int) (nomark _)) (ge_op op_sub rs_J (gv 0) (ge_op op_pow rs_I ge_int ge_int)) ge_int) (ga_cons (ge_op op_addA rs_add (ge_op op_mod rs_I (gv 0) ge_int) ge_int) (ga_cons ge_int ga_nil))))))), rd_law_well⟩

theorem ok_law_dip (T : Txt K mg)  : Cal P w K mg base 1 "_law_dip" s_law_dip ["well", "many"] sp_law_dip :=
  calD T.f_law_dip sc_law_dip fun f cdv A outer s H E hr => ⟨d_law_dip, (gss_cons (gs_if (gt_cmp op_gtA rs_cmp (ge_ixW (gv 0) ge_int (fun _ _ => rfl)) ge_int (nomark _)) (gss_cons (gs_set (i := 2) sc_law_dip.nd rfl (Or.inl rfl) (ge_op op_mod rs_I (ge_callTy call_intA cs_int rfl T.b_int (by decide +kernel) (ga_cons (ge_ixW (gv 0) ge_int (fun _ _ => rfl)) ga_nil)) (gv 1)))
  (gss_cons (gs_setW (ge_op op_fdivW rs_I (ge_callTy call_intA cs_int rfl T.b_int (by decide +kernel) (ga_cons (ge_ixW (gv 0) ge_int (fun _ _ => rfl)) ga_nil)) (gv 1)) (gv 0) ge_int)
  (gss_one (gs_ret (gv 2))))) gss_nil)
  (gss_cons (gs_setW (ge_op op_addA rs_add (ge_ixW (gv 0) ge_int (fun _ _ => rfl)) ge_int) (gv 0) ge_int)
  (gss_cons (gs_setW (ge_op op_mod rs_I (ge_callTy call_intA cs_int rfl T.b_int (by decide +kernel) (ga_cons (ge_op op_addA rs_add (ge_op op_addA rs_add (ge_op op_mulAll rs_mulA (ge_ixW (gv 0) ge_int (fun _ _ => rfl)) ge_int) (ge_op op_mulAll rs_mulA (ge_op op_mulAll rs_mulA (ge_ixW (gv 0) ge_int (fun _ _ => rfl)) (ge_ixW (gv 0) ge_int (fun _ _ => rfl))) ge_int)) ge_int) ga_nil)) ge_int) (gv 0) ge_int)
  (gss_one (gs_ret (ge_op op_mod rs_I (ge_op op_fdivW rs_I (ge_op op_mod rs_I (ge_callTy call_intA cs_int rfl T.b_int (by decide +kernel) (ga_cons (ge_op op_mulAll rs_mulA (ge_ixW (gv 0) ge_int (fun _ _ => rfl)) (ge_ixW (gv 0) ge_int (fun _ _ => rfl))) ga_nil)) ge_int) ge_int) (gv 1))))))), rd_law_dip⟩

theorem step_law_same (T : Txt K mg)  {k : Nat} {sp0 sp1 : SpD} (C_law_same : Cal P w K mg base k "_law_same" s_law_same ["found", "due"] sp0) (hk : 0 ≤ k) (rd : ∀ ds W Qd Qx, ds.length = 2 → sp1 ds W Qd Qx → d_law_same sp0 { nx := fun _ W' => Qd .non W', rt := Qd, ex := fun cls x _ W' => Qx cls x W' } (ds.map (fun d => some (Sl.sh d)) ++ List.replicate (n_law_same.length - ds.length) none) W) : Cal P w K mg base (k + 1) "_law_same" s_law_same ["found", "due"] sp1 :=
  calD T.f_law_same sc_law_same fun f cdv A outer s H E hr => ⟨d_law_same sp0, (gss_cons (gs_if (gt_cmp op_isA rs_isA (gv 1) ge_non (nomark _)) (gss_one (gs_ret (ge_cmp op_isA rs_isA (gv 0) ge_non (nomark _)))) gss_nil)
  (gss_cons (gs_if (gt_val (ge_callB call_isi cs_isi rfl T.b_isinstance (by decide +kernel) (ga_cons (gv 1) (ga_cons (ge_ty T.b_bool (by decide +kernel)) ga_nil)))) (gss_one (gs_ret (ge_and (ge_callB call_isi cs_isi rfl T.b_isinstance (by decide +kernel) (ga_cons (gv 0) (ga_cons (ge_ty T.b_bool (by decide +kernel)) ga_nil))) (ge_one (ge_cmp (op_eqA hr.units) rs_eq (gv 0) (gv 1) (nomark _)))))) gss_nil)
  (gss_cons (gs_if (gt_val (ge_callB call_isi cs_isi rfl T.b_isinstance (by decide +kernel) (ga_cons (gv 1) (ga_cons (ge_ty T.b_int (by decide +kernel)) ga_nil)))) (gss_one (gs_ret (ge_and (ge_callB call_isi cs_isi rfl T.b_isinstance (by decide +kernel) (ga_cons (gv 0) (ga_cons (ge_ty T.b_int (by decide +kernel)) ga_nil))) (ge_and (ge_not (ge_callB call_isi cs_isi rfl T.b_isinstance (by decide +kernel) (ga_cons (gv 0) (ga_cons (ge_ty T.b_bool (by decide +kernel)) ga_nil)))) (ge_one (ge_cmp (op_eqA hr.units) rs_eq (gv 0) (gv 1) (nomark _))))))) gss_nil)
  (gss_cons (gs_if (gt_val (ge_callB call_isi cs_isi rfl T.b_isinstance (by decide +kernel) (ga_cons (gv 1) (ga_cons (ge_ty T.b_str (by decide +kernel)) ga_nil)))) (gss_one (gs_ret (ge_and (ge_callB call_isi cs_isi rfl T.b_isinstance (by decide +kernel) (ga_cons (gv 0) (ga_cons (ge_ty T.b_str (by decide +kernel)) ga_nil))) (ge_one (ge_cmp (op_eqA hr.units) rs_eq (gv 0) (gv 1) (nomark _)))))) gss_nil)
  (gss_cons (gs_if (GW.gt (gw_or (gt_cmp (op_neA hr.units) rs_ne (ge_callB call_isi cs_isi rfl T.b_isinstance (by decide +kernel) (ga_cons (gv 1) (ga_cons (ge_ty T.b_list (by decide +kernel)) ga_nil))) (ge_callB call_isi cs_isi rfl T.b_isinstance (by decide +kernel) (ga_cons (gv 0) (ga_cons (ge_ty T.b_list (by decide +kernel)) ga_nil))) (nomark _)) (gw_or1 (gt_cmp (op_neA hr.units) rs_ne (ge_callB call_isi cs_isi rfl T.b_isinstance (by decide +kernel) (ga_cons (gv 1) (ga_cons (ge_ty T.b_tuple (by decide +kernel)) ga_nil))) (ge_callB call_isi cs_isi rfl T.b_isinstance (by decide +kernel) (ga_cons (gv 0) (ga_cons (ge_ty T.b_tuple (by decide +kernel)) ga_nil))) (nomark _))))) (gss_one (gs_ret ge_bl)) gss_nil)
  (gss_one (gs_ret (ge_and (ge_cmp (op_eqA hr.units) rs_eq (ge_callB call_len cs_len rfl T.b_len (by decide +kernel) (ga_cons (gv 0) ga_nil)) (ge_callB call_len cs_len rfl T.b_len (by decide +kernel) (ga_cons (gv 1) ga_nil)) (nomark _)) (ge_one (ge_callB (cr_all rfl) cs_all rfl T.b_all (by decide +kernel) (ga_cons (GN.ge (gn_lc [("k", 2)] rfl sc_law_same.nd (gi_range1 rfl T.b_range (ga_cons (ge_callB call_len cs_len rfl T.b_len (by decide +kernel) (ga_cons (gv 1) ga_nil)) ga_nil)) (blkOk_by (own := [("k", 2)]) (N := n_law_same) (sc := defScope s_law_same) (by decide +kernel)) (by decide) (fun _ _ _ _ _ => (gg_name (i := 2) sc_law_same.nd rfl (Or.inl rfl))) (fun _ _ _ _ _ => gts_nil) (fun _ _ _ _ _ => (ge_c takes0 C_law_same hr (Nat.le_refl _) (ga_cons (ge_ix ix_seq rs_ix (gv 0) (gv 2) (fun _ _ => rfl)) (ga_cons (ge_ix ix_seq rs_ix (gv 1) (gv 2) (fun _ _ => rfl)) ga_nil)))))) ga_nil))))))))))), rd⟩
theorem ok_law_same (T : Txt K mg)  : Cal P w K mg base 6 "_law_same" s_law_same ["found", "due"] sp_law_same := by
  have c0 := step_law_same (P := P) (w := w) (base := base) T  (cal_no (k := 1) T.f_law_same) (by decide) (rdn_law_same 0 spNo fun m h => by cases h)
  have c1 := step_law_same T  c0 (by decide) (rdn_law_same 1 (spn_law_same 0) fun m h => by cases h; rfl)
  have c2 := step_law_same T  c1 (by decide) (rdn_law_same 2 (spn_law_same 1) fun m h => by cases h; rfl)
  have c3 := step_law_same T  c2 (by decide) (rdn_law_same 3 (spn_law_same 2) fun m h => by cases h; rfl)
  have c4 := step_law_same T  c3 (by decide) (rdn_law_same 4 (spn_law_same 3) fun m h => by cases h; rfl)
  exact c4

theorem ok_law_word (T : Txt K mg) (C_law_dip : Cal P w K mg base 1 "_law_dip" s_law_dip ["well", "many"] sp_law_dip) : Cal P w K mg base 2 "_law_word" s_law_word ["well", "most"] sp_law_word :=
  calD T.f_law_word sc_law_word fun f cdv A outer s H E hr => ⟨d_law_word, (gss_cons (gs_set (i := 2) sc_law_word.nd rfl (Or.inr rfl) ge_str)
  (gss_one (gs_ret (ge_strM PySem.F.slot_str_join PySem.F.type_str_join mt_joinA ms_join ge_str (ga_cons (GN.ge (gn_lc [("k", 3)] rfl sc_law_word.nd (gi_range1 rfl T.b_range (ga_cons (ge_c (takes_of rfl rfl rfl rfl) C_law_dip hr (by decide) (ga_cons (gv 0) (ga_cons (ge_op op_addA rs_add (gv 1) ge_int) ga_nil))) ga_nil)) (blkOk_by (own := [("k", 3)]) (N := n_law_word) (sc := defScope s_law_word) (by decide +kernel)) (by decide) (fun _ _ _ _ _ => (gg_name (i := 3) sc_law_word.nd rfl (Or.inl rfl))) (fun _ _ _ _ _ => gts_nil) (fun _ _ _ _ _ => (ge_ix ix_seq rs_ix (gv 2) (ge_c takes0 C_law_dip hr (by decide) (ga_cons (gv 0) (ga_cons ge_int ga_nil))) (fun _ _ => rfl))))) ga_nil))))), rd_law_word⟩

theorem ok_law_pool (T : Txt K mg) (C_law_word : Cal P w K mg base 2 "_law_word" s_law_word ["well", "most"] sp_law_word) (C_law_dip : Cal P w K mg base 1 "_law_dip" s_law_dip ["well", "many"] sp_law_dip) : Cal P w K mg base 3 "_law_pool" s_law_pool ["well", "many"] sp_law_pool :=
  calD T.f_law_pool sc_law_pool fun f cdv A outer s H E hr => ⟨d_law_pool, (gss_cons (gs_setO (i := 2) sc_law_pool.nd rfl (Or.inl rfl) (gn_lst (ga_cons (ge_c (takes_of rfl rfl rfl rfl) C_law_word hr (by decide) (ga_cons (gv 0) (ga_cons ge_int ga_nil))) ga_nil)))
  (gss_cons (gs_for (passes_of rfl) rfl (gi_range1 rfl T.b_range (ga_cons (ge_op op_sub rs_J (gv 1) ge_int) ga_nil)) (gg_name (i := 3) sc_law_pool.nd rfl (Or.inl rfl))
  (gss_cons (gs_set (i := 4) sc_law_pool.nd rfl (Or.inl rfl) (ge_ix ix_seq rs_ix (ge_lst (ga_cons (ge_c (takes_of rfl rfl rfl rfl) C_law_word hr (by decide) (ga_cons (gv 0) (ga_cons ge_int ga_nil))) (ga_cons (ge_op op_addA rs_add (ge_ixO 2 (ge_neg ge_int) (fun _ _ => rfl)) (ge_c (takes_of rfl rfl rfl rfl) C_law_word hr (by decide) (ga_cons (gv 0) (ga_cons ge_int ga_nil)))) (ga_cons (ge_op op_addA rs_add (ge_c (takes_of rfl rfl rfl rfl) C_law_word hr (by decide) (ga_cons (gv 0) (ga_cons ge_int ga_nil))) (ge_ixO 2 ge_int (fun _ _ => rfl))) ga_nil)))) (ge_c (takes_of rfl rfl rfl rfl) C_law_dip hr (by decide) (ga_cons (gv 0) (ga_cons ge_int ga_nil))) (fun _ _ => rfl)))
  (gss_one (gs_if (gt_niO 2 (gv 4)) (gss_one (gs_app (i := 2) (gv 4))) gss_nil))))
  (gss_frz 2 (gss_one (gs_ret (gv 2)))))), rd_law_pool⟩

theorem ok_law_has (T : Txt K mg)  : Cal P w K mg base 1 "_law_has" s_law_has ["note", "key"] sp_law_has :=
  calD T.f_law_has sc_law_has fun f cdv A outer s H E hr => ⟨d_law_has, (gss_cons (gs_if (gt_cmp (op_eqA hr.units) rs_eq (ge_ix ix_seq rs_ix (gv 0) ge_int (fun _ _ => rfl)) ge_str (nomark _)) (gss_one (gs_ret (ge_cmp (op_eqA hr.units) rs_eq (gv 1) (ge_ix ix_seq rs_ix (gv 0) ge_int (fun _ _ => rfl)) (nomark _)))) gss_nil)
  (gss_one (gs_ret (ge_and (ge_not (ge_and (ge_cmp op_notA rs_notA (ge_ix ix_seq rs_ix (gv 0) ge_int (fun _ _ => rfl)) ge_non (nomark _)) (ge_one (ge_cmp op_ltA rs_cmp (gv 1) (ge_ix ix_seq rs_ix (gv 0) ge_int (fun _ _ => rfl)) (nomark _))))) (ge_one (ge_not (ge_and (ge_cmp op_notA rs_notA (ge_ix ix_seq rs_ix (gv 0) ge_int (fun _ _ => rfl)) ge_non (nomark _)) (ge_one (ge_cmp op_geA rs_cmp (gv 1) (ge_ix ix_seq rs_ix (gv 0) ge_int (fun _ _ => rfl)) (nomark _)))))))))), rd_law_has⟩

theorem ok_law_given (T : Txt K mg) (C_law_has : Cal P w K mg base 1 "_law_has" s_law_has ["note", "key"] sp_law_has) : Cal P w K mg base 2 "_law_given" s_law_given ["rows", "note"] sp_law_given :=
  calD T.f_law_given sc_law_given fun f cdv A outer s H E hr => ⟨d_law_given, (gss_cons (gs_if (gt_cmp (op_eqA hr.units) rs_eq (ge_ix ix_seq rs_ix (gv 1) ge_int (fun _ _ => rfl)) ge_str (nomark _)) (gss_one (gs_ret (ge_tup (ga_cons ge_str (ga_cons (ge_ix ix_seq rs_ix (gv 1) ge_int (fun _ _ => rfl)) (ga_cons (ge_dget1 (hu_of hr.toRoom) (gv 0) (ge_ix ix_seq rs_ix (gv 1) ge_int (fun _ _ => rfl)) ⟨rfl, rfl, rfl, rfl⟩) ga_nil)))))) gss_nil)
  (gss_cons (gs_set (i := 2) sc_law_given.nd rfl (Or.inl rfl) (ge_callTy call_tuple_of cs_tup rfl T.b_tuple (by decide +kernel) (ga_cons (GN.ge (gn_lc [("key", 3)] rfl sc_law_given.nd (gi_list (GN.ge (gn_sortD rfl rfl T.b_sorted (by decide +kernel) (gv 0)))) (blkOk_by (own := [("key", 3)]) (N := n_law_given) (sc := defScope s_law_given) (by decide +kernel)) (by decide) (fun _ _ _ _ _ => (gg_name (i := 3) sc_law_given.nd rfl (Or.inl rfl))) (fun _ _ _ _ _ => (gts_one (gt_val (ge_c takes0 C_law_has hr (by decide) (ga_cons (gv 1) (ga_cons (gv 3) ga_nil)))))) (fun _ _ _ _ _ => (ge_tup (ga_cons (gv 3) (ga_cons (ge_dget (hu_of hr.toRoom) (gv 0) (gv 3) (fun _ _ => rfl)) ga_nil)))))) ga_nil)))
  (gss_one (gs_ret (ge_tup (ga_cons ge_str (ga_cons (ge_ix ix_seq rs_ix (gv 1) ge_int (fun _ _ => rfl)) (ga_cons (ge_ix ix_seq rs_ix (gv 1) ge_int (fun _ _ => rfl)) (ga_cons (gv 2) ga_nil))))))))), rd_law_given⟩

theorem ok_law_note (T : Txt K mg) (C_law_word : Cal P w K mg base 2 "_law_word" s_law_word ["well", "most"] sp_law_word) (C_law_dip : Cal P w K mg base 1 "_law_dip" s_law_dip ["well", "many"] sp_law_dip) (C_law_given : Cal P w K mg base 2 "_law_given" s_law_given ["rows", "note"] sp_law_given) : Cal P w K mg base 3 "_law_note" s_law_note ["well", "pool", "rows"] sp_law_note :=
  calD T.f_law_note sc_law_note fun f cdv A outer s H E hr => ⟨d_law_note, (gss_cons (gs_set (i := 3) sc_law_note.nd rfl (Or.inl rfl) (ge_op op_addA rs_add (ge_op op_addA rs_add (ge_lst (ga_cons ge_non (ga_cons ge_non ga_nil))) (gv 1)) (ge_lst (ga_cons (ge_c (takes_of rfl rfl rfl rfl) C_law_word hr (by decide) (ga_cons (gv 0) (ga_cons ge_int ga_nil))) ga_nil))))
  (gss_cons (gs_par (i := 4) (j := 5) rfl sc_law_note.nd rfl rfl (by decide) rfl rfl (ga_cons (ge_ix ix_seq rs_ix (gv 3) (ge_c (takes_of rfl rfl rfl rfl) C_law_dip hr (by decide) (ga_cons (gv 0) (ga_cons (ge_callB call_len cs_len rfl T.b_len (by decide +kernel) (ga_cons (gv 3) ga_nil)) ga_nil))) (fun _ _ => rfl)) (ga_cons (ge_ix ix_seq rs_ix (gv 3) (ge_c (takes_of rfl rfl rfl rfl) C_law_dip hr (by decide) (ga_cons (gv 0) (ga_cons (ge_callB call_len cs_len rfl T.b_len (by decide +kernel) (ga_cons (gv 3) ga_nil)) ga_nil))) (fun _ _ => rfl)) ga_nil)) rfl)
  (gss_cons (gs_if (gt_cmp (op_eqA hr.units) rs_eq (ge_c (takes_of rfl rfl rfl rfl) C_law_dip hr (by decide) (ga_cons (gv 0) (ga_cons ge_int ga_nil))) ge_int (nomark _)) (gss_one (gs_ret (ge_c (takes_of rfl rfl rfl rfl) C_law_given hr (by decide) (ga_cons (gv 2) (ga_cons (ge_tup (ga_cons ge_str (ga_cons (gv 4) (ga_cons (gv 5) (ga_cons (ge_tup ga_nil) ga_nil))))) ga_nil))))) gss_nil)
  (gss_one (gs_ret (ge_c (takes_of rfl rfl rfl rfl) C_law_given hr (by decide) (ga_cons (gv 2) (ga_cons (ge_tup (ga_cons ge_str (ga_cons (ge_ix ix_seq rs_ix (gv 3) (ge_op op_addA rs_add ge_int (ge_c (takes_of rfl rfl rfl rfl) C_law_dip hr (by decide) (ga_cons (gv 0) (ga_cons (ge_op op_sub rs_J (ge_callB call_len cs_len rfl T.b_len (by decide +kernel) (ga_cons (gv 3) ga_nil)) ge_int) ga_nil)))) (fun _ _ => rfl)) (ga_cons ge_non ga_nil)))) ga_nil)))))))), rd_law_note⟩

theorem ok_law_laid (T : Txt K mg)  : Cal P w K mg base 1 "_law_laid" s_law_laid ["rows", "changes"] sp_law_laid :=
  calD T.f_law_laid sc_law_laid fun f cdv A outer s H E hr => ⟨d_law_laid, (gss_cons (gs_setD (j := 0) sc_law_laid.nd rfl (Or.inl rfl) (gd_copy rfl T.b_dict (by decide +kernel) (gv 0)))
  (gss_cons (gs_for (passes_of rfl) rfl (gi_tup (gv 1)) (gg_tup rfl (ggs_cons (gg_name (i := 2) sc_law_laid.nd rfl (Or.inl rfl)) (ggs_cons (gg_name (i := 3) sc_law_laid.nd rfl (Or.inl rfl)) ggs_nil)))
  (gss_one (gs_if (gt_cmp op_isA rs_isA (gv 3) ge_non (nomark _)) (gss_one (gs_expr (ge_dpopO (j := 0) (gv 2) ge_non ⟨rfl, rfl, rfl, rfl⟩))) (gss_one (gs_dputO (j := 0) (hu_of hr.toRoom) (gv 3) (gv 2))))))
  (gss_frzD 0 (gss_one (gs_ret (gv 0)))))), rd_law_laid⟩

theorem ok_law_changes (T : Txt K mg) (C_law_dip : Cal P w K mg base 1 "_law_dip" s_law_dip ["well", "many"] sp_law_dip) (C_law_word : Cal P w K mg base 2 "_law_word" s_law_word ["well", "most"] sp_law_word) : Cal P w K mg base 3 "_law_changes" s_law_changes ["well", "keys", "most"] sp_law_changes :=
  calD T.f_law_changes sc_law_changes fun f cdv A outer s H E hr => ⟨d_law_changes, (gss_cons (gs_setD (j := 3) sc_law_changes.nd rfl (Or.inr rfl) gd_emp)
  (gss_cons (gs_for (passes_of rfl) rfl (gi_range1 rfl T.b_range (ga_cons (ge_c (takes_of rfl rfl rfl rfl) C_law_dip hr (by decide) (ga_cons (gv 0) (ga_cons (ge_op op_addA rs_add (gv 2) ge_int) ga_nil))) ga_nil)) (gg_name (i := 4) sc_law_changes.nd rfl (Or.inl rfl))
  (gss_cons (gs_set (i := 5) sc_law_changes.nd rfl (Or.inl rfl) (ge_c (takes_of rfl rfl rfl rfl) C_law_word hr (by decide) (ga_cons (gv 0) (ga_cons ge_int ga_nil))))
  (gss_one (gs_if (gt_cmp (op_neA hr.units) rs_ne (gv 1) (ge_lst ga_nil) (nomark _)) (gss_one (gs_dputO (j := 3) (hu_of hr.toRoom) (ge_ix ix_seq rs_ix (ge_lst (ga_cons (gv 5) (ga_cons ge_non (ga_cons (gv 5) ga_nil)))) (ge_c (takes_of rfl rfl rfl rfl) C_law_dip hr (by decide) (ga_cons (gv 0) (ga_cons ge_int ga_nil))) (fun _ _ => rfl)) (ge_ix ix_seq rs_ix (gv 1) (ge_c (takes_of rfl rfl rfl rfl) C_law_dip hr (by decide) (ga_cons (gv 0) (ga_cons (ge_callB call_len cs_len rfl T.b_len (by decide +kernel) (ga_cons (gv 1) ga_nil)) ga_nil))) (fun _ _ => rfl)))) gss_nil))))
  (gss_frzD 3 (gss_one (gs_ret (ge_callTy call_tuple_of cs_tup rfl T.b_tuple (by decide +kernel) (ga_cons (GN.ge (gn_lc [("key", 6)] rfl sc_law_changes.nd (gi_list (GN.ge (gn_sortD rfl rfl T.b_sorted (by decide +kernel) (gv 3)))) (blkOk_by (own := [("key", 6)]) (N := n_law_changes) (sc := defScope s_law_changes) (by decide +kernel)) (by decide) (fun _ _ _ _ _ => (gg_name (i := 6) sc_law_changes.nd rfl (Or.inl rfl))) (fun _ _ _ _ _ => gts_nil) (fun _ _ _ _ _ => (ge_tup (ga_cons (gv 6) (ga_cons (ge_dget (hu_of hr.toRoom) (gv 3) (gv 6) (fun _ _ => rfl)) ga_nil)))))) ga_nil))))))), rd_law_changes⟩

theorem ok_law_barred (T : Txt K mg)  : Cal P w K mg base 1 "_law_barred" s_law_barred ["commits"] sp_law_barred :=
  calD T.f_law_barred sc_law_barred fun f cdv A outer s H E hr => ⟨d_law_barred, (gss_cons (gs_set (i := 1) sc_law_barred.nd rfl (Or.inl rfl) (ge_lst ga_nil))
  (gss_cons (gs_for (passes_of rfl) rfl (gi_tup (gv 0)) (gg_name (i := 2) sc_law_barred.nd rfl (Or.inl rfl))
  (gss_one (gs_set (i := 1) sc_law_barred.nd rfl (Or.inl rfl) (ge_op op_addA rs_add (gv 1) (GN.ge (gn_lc [("row", 3)] rfl sc_law_barred.nd (gi_tup (ge_ix ix_seq rs_ix (gv 2) ge_int (fun _ _ => rfl))) (blkOk_by (own := [("row", 3)]) (N := n_law_barred) (sc := defScope s_law_barred) (by decide +kernel)) (by decide) (fun _ _ _ _ _ => (gg_name (i := 3) sc_law_barred.nd rfl (Or.inl rfl))) (fun _ _ _ _ _ => gts_nil) (fun _ _ _ _ _ => (ge_ix ix_seq rs_ix (gv 3) ge_int (fun _ _ => rfl)))))))))
  (gss_one (gs_ret (gv 1))))), rd_law_barred⟩

theorem ok_law_history (T : Txt K mg) (C_law_dip : Cal P w K mg base 1 "_law_dip" s_law_dip ["well", "many"] sp_law_dip) (C_law_barred : Cal P w K mg base 1 "_law_barred" s_law_barred ["commits"] sp_law_barred) (C_law_note : Cal P w K mg base 3 "_law_note" s_law_note ["well", "pool", "rows"] sp_law_note) (C_law_changes : Cal P w K mg base 3 "_law_changes" s_law_changes ["well", "keys", "most"] sp_law_changes) (C_law_laid : Cal P w K mg base 1 "_law_laid" s_law_laid ["rows", "changes"] sp_law_laid) : Cal P w K mg base 4 "_law_history" s_law_history ["well", "pool", "rows", "many", "most"] sp_law_history :=
  calD T.f_law_history sc_law_history fun f cdv A outer s H E hr => ⟨d_law_history, (gss_cons (gs_parU1 (i := 5) (j := 6) rfl sc_law_history.nd rfl rfl (Or.inr rfl) (Or.inl rfl) (gn_lst (ga_cons (gv 2) ga_nil)) (ge_tup ga_nil))
  (gss_cons (gs_for (passes_of rfl) rfl (gi_range1 rfl T.b_range (ga_cons (gv 3) ga_nil)) (gg_name (i := 7) sc_law_history.nd rfl (Or.inl rfl))
  (gss_cons (gs_set (i := 8) sc_law_history.nd rfl (Or.inr rfl) (ge_ix ix_seq rs_ix (ge_lst (ga_cons (gv 7) (ga_cons (ge_c (takes_of rfl rfl rfl rfl) C_law_dip hr (by decide) (ga_cons (gv 0) (ga_cons (ge_op op_addA rs_add (gv 7) ge_int) ga_nil))) (ga_cons ge_int ga_nil)))) (ge_c (takes_of rfl rfl rfl rfl) C_law_dip hr (by decide) (ga_cons (gv 0) (ga_cons ge_int ga_nil))) (fun _ _ => rfl)))
  (gss_cons (gs_set (i := 9) sc_law_history.nd rfl (Or.inr rfl) (ge_c (takes_of rfl rfl rfl rfl) C_law_barred hr (by decide) (ga_cons (ge_sl sl_any ss_cut (gv 6) (go_some (gv 8)) go_none) ga_nil)))
  (gss_cons (gs_set (i := 10) sc_law_history.nd rfl (Or.inl rfl) (ge_callTy call_tuple_of cs_tup rfl T.b_tuple (by decide +kernel) (ga_cons (GN.ge (gn_lc [("j", 12)] rfl sc_law_history.nd (gi_range1 rfl T.b_range (ga_cons (ge_c (takes_of rfl rfl rfl rfl) C_law_dip hr (by decide) (ga_cons (gv 0) (ga_cons (ge_op op_addA rs_add (gv 4) ge_int) ga_nil))) ga_nil)) (blkOk_by (own := [("j", 12)]) (N := n_law_history) (sc := defScope s_law_history) (by decide +kernel)) (by decide) (fun _ _ _ _ _ => (gg_name (i := 12) sc_law_history.nd rfl (Or.inl rfl))) (fun _ _ _ _ _ => gts_nil) (fun _ _ _ _ _ => (ge_c takes0 C_law_note hr (by decide) (ga_cons (gv 0) (ga_cons (gv 1) (ga_cons (ge_ixO 5 (gv 8) (fun _ _ => rfl)) ga_nil))))))) ga_nil)))
  (gss_cons (gs_set (i := 11) sc_law_history.nd rfl (Or.inl rfl) (ge_c (takes_of rfl rfl rfl rfl) C_law_changes hr (by decide) (ga_cons (gv 0) (ga_cons (GN.ge (gn_lc [("key", 13)] rfl sc_law_history.nd (gi_list (gv 1)) (blkOk_by (own := [("key", 13)]) (N := n_law_history) (sc := defScope s_law_history) (by decide +kernel)) (by decide) (fun _ _ _ _ _ => (gg_name (i := 13) sc_law_history.nd rfl (Or.inl rfl))) (fun _ _ _ _ _ => (gts_one (gt_cmp op_niA rs_in (gv 13) (gv 9) rfl))) (fun _ _ _ _ _ => (gv 13)))) (ga_cons (gv 4) ga_nil)))))
  (gss_cons (gs_set (i := 6) sc_law_history.nd rfl (Or.inl rfl) (ge_op op_addA rs_add (gv 6) (ge_tup (ga_cons (ge_tup (ga_cons (gv 8) (ga_cons (ge_cmp op_gtA rs_cmp (ge_c (takes_of rfl rfl rfl rfl) C_law_dip hr (by decide) (ga_cons (gv 0) (ga_cons ge_int ga_nil))) ge_int (nomark _)) (ga_cons (gv 10) (ga_cons (gv 11) ga_nil))))) ga_nil))))
  (gss_one (gs_app (i := 5) (ge_c (takes_of rfl rfl rfl rfl) C_law_laid hr (by decide) (ga_cons (ge_ixO 5 (ge_neg ge_int) (fun _ _ => rfl)) (ga_cons (gv 11) ga_nil)))))))))))
  (gss_frz 5 (gss_one (gs_ret (gv 6)))))), rd_law_history⟩

theorem ok_law_rows (T : Txt K mg) (C_law_dip : Cal P w K mg base 1 "_law_dip" s_law_dip ["well", "many"] sp_law_dip) (C_law_word : Cal P w K mg base 2 "_law_word" s_law_word ["well", "most"] sp_law_word) : Cal P w K mg base 3 "_law_rows" s_law_rows ["well", "pool"] sp_law_rows :=
  calD T.f_law_rows sc_law_rows fun f cdv A outer s H E hr => ⟨d_law_rows, (gss_cons (gs_setD (j := 2) sc_law_rows.nd rfl (Or.inl rfl) gd_emp)
  (gss_cons (gs_for (passes_of rfl) rfl (gi_list (gv 1)) (gg_name (i := 3) sc_law_rows.nd rfl (Or.inl rfl))
  (gss_one (gs_if (gt_cmp (op_eqA hr.units) rs_eq (ge_c (takes_of rfl rfl rfl rfl) C_law_dip hr (by decide) (ga_cons (gv 0) (ga_cons ge_int ga_nil))) ge_int (nomark _)) (gss_one (gs_dputO (j := 2) (hu_of hr.toRoom) (ge_c (takes_of rfl rfl rfl rfl) C_law_word hr (by decide) (ga_cons (gv 0) (ga_cons ge_int ga_nil))) (gv 3))) gss_nil)))
  (gss_cons (gs_if (gt_cmp (op_eqA hr.units) rs_eq (ge_c (takes_of rfl rfl rfl rfl) C_law_dip hr (by decide) (ga_cons (gv 0) (ga_cons ge_int ga_nil))) ge_int (nomark _)) (gss_one (gs_dputO (j := 2) (hu_of hr.toRoom) (ge_c (takes_of rfl rfl rfl rfl) C_law_word hr (by decide) (ga_cons (gv 0) (ga_cons ge_int ga_nil))) (ge_c (takes_of rfl rfl rfl rfl) C_law_word hr (by decide) (ga_cons (gv 0) (ga_cons ge_int ga_nil))))) gss_nil)
  (gss_frzD 2 (gss_one (gs_ret (gv 2))))))), rd_law_rows⟩

theorem ok_law_entries (T : Txt K mg)  : Cal P w K mg base 1 "_law_entries" s_law_entries ["rows"] sp_law_entries :=
  calD T.f_law_entries sc_law_entries fun f cdv A outer s H E hr => ⟨d_law_entries, (gss_one (gs_ret (ge_callTy cr_tupF cs_tupF rfl T.b_tuple (by decide +kernel) (ga_cons (GN.ge (gn_lc [("key", 1)] rfl sc_law_entries.nd (gi_list (GN.ge (gn_sortD rfl rfl T.b_sorted (by decide +kernel) (gv 0)))) (blkOk_by (own := [("key", 1)]) (N := n_law_entries) (sc := defScope s_law_entries) (by decide +kernel)) (by decide) (fun _ _ _ _ _ => (gg_name (i := 1) sc_law_entries.nd rfl (Or.inl rfl))) (fun _ _ _ _ _ => gts_nil) (fun _ _ _ _ _ => (ge_tup (ga_cons (gv 1) (ga_cons (ge_dget (hu_of hr.toRoom) (gv 0) (gv 1) (fun _ _ => rfl)) ga_nil)))))) ga_nil)))), rd_law_entries⟩

theorem ok_law_told (T : Txt K mg) (C_past_of : Cal P w K mg base 9 "past_of" s_past_of ["entries", "history", "number"] sp_past_of) : Cal P w K mg base 10 "_law_told" s_law_told ["entries", "history", "number"] sp_law_told :=
  calD T.f_law_told sc_law_told fun f cdv A outer s H E hr => ⟨d_law_told, (gss_cons (gs_set (i := 3) sc_law_told.nd rfl (Or.inl rfl) ge_str)
  (gss_cons (gs_try rfl rfl (takes_of rfl rfl rfl rfl) (fun _ _ _ tk hp => (gss_one (gs_set (i := 3) sc_law_told.nd rfl (Or.inl rfl) (ge_c tk C_past_of hr (by decide) (ga_cons (gv 0) (ga_cons (gv 1) (ga_cons (gv 2) ga_nil))))))) (.bare ⟨rfl, by decide, .inl T.x_InvalidEntries.mg⟩ (al1 T.m_InvalidEntries_InvalidEntries al0) (al1 T.m_InvalidHistory_InvalidEntries (al1 T.m_InvalidNumber_InvalidEntries al0)) (fun _ _ => (gss_one (gs_set (i := 3) sc_law_told.nd rfl (Or.inl rfl) ge_str))) (.bare ⟨rfl, by decide, .inl T.x_InvalidHistory.mg⟩ (al1 T.m_InvalidHistory_InvalidHistory al0) (al1 T.m_InvalidEntries_InvalidHistory (al1 T.m_InvalidNumber_InvalidHistory al0)) (fun _ _ => (gss_one (gs_set (i := 3) sc_law_told.nd rfl (Or.inl rfl) ge_str))) (.bare ⟨rfl, by decide, .inl T.x_InvalidNumber.mg⟩ (al1 T.m_InvalidNumber_InvalidNumber al0) (al1 T.m_InvalidEntries_InvalidNumber (al1 T.m_InvalidHistory_InvalidNumber al0)) (fun _ _ => (gss_one (gs_set (i := 3) sc_law_told.nd rfl (Or.inl rfl) ge_str))) (.bare ⟨rfl, by decide, .inl T.x_StoreError.mg⟩ (al1 T.m_InvalidEntries_StoreError (al1 T.m_InvalidHistory_StoreError (al1 T.m_InvalidNumber_StoreError al0))) al0 (fun _ _ => (gss_one (gs_set (i := 3) sc_law_told.nd rfl (Or.inl rfl) ge_str))) .nil)))))
  (gss_one (gs_ret (gv 3))))), rd_law_told⟩

theorem ok_law_judged (T : Txt K mg) (C_is_given : Cal P w K mg base 6 "is_given" s_is_given ["entries", "value"] sp_is_given) : Cal P w K mg base 7 "_law_judged" s_law_judged ["entries", "value"] sp_law_judged :=
  calD T.f_law_judged sc_law_judged fun f cdv A outer s H E hr => ⟨d_law_judged, (gss_cons (gs_set (i := 2) sc_law_judged.nd rfl (Or.inl rfl) ge_str)
  (gss_cons (gs_try rfl rfl (takes_of rfl rfl rfl rfl) (fun _ _ _ tk hp => (gss_one (gs_set (i := 2) sc_law_judged.nd rfl (Or.inl rfl) (ge_c tk C_is_given hr (by decide) (ga_cons (gv 0) (ga_cons (gv 1) ga_nil)))))) (.bare ⟨rfl, by decide, .inl T.x_InvalidEntries.mg⟩ (al1 T.m_InvalidEntries_InvalidEntries al0) (al1 T.m_InvalidHistory_InvalidEntries (al1 T.m_InvalidNumber_InvalidEntries al0)) (fun _ _ => (gss_one (gs_set (i := 2) sc_law_judged.nd rfl (Or.inl rfl) ge_str))) (.bare ⟨rfl, by decide, .inl T.x_StoreError.mg⟩ (al1 T.m_InvalidEntries_StoreError (al1 T.m_InvalidHistory_StoreError (al1 T.m_InvalidNumber_StoreError al0))) al0 (fun _ _ => (gss_one (gs_set (i := 2) sc_law_judged.nd rfl (Or.inl rfl) ge_str))) .nil)))
  (gss_one (gs_ret (gv 2))))), rd_law_judged⟩

theorem ok_law_odd_entries (T : Txt K mg) (C_law_dip : Cal P w K mg base 1 "_law_dip" s_law_dip ["well", "many"] sp_law_dip) : Cal P w K mg base 2 "_law_odd_entries" s_law_odd_entries ["well", "entries"] sp_law_odd_entries :=
  calD T.f_law_odd_entries sc_law_odd_entries fun f cdv A outer s H E hr => ⟨d_law_odd_entries, (gss_cons (gs_set (i := 2) sc_law_odd_entries.nd rfl (Or.inl rfl) (ge_op op_addA rs_add (gv 1) (ge_tup (ga_cons (ge_tup (ga_cons ge_str (ga_cons ge_str ga_nil))) ga_nil))))
  (gss_cons (gs_set (i := 3) sc_law_odd_entries.nd rfl (Or.inl rfl) (ge_lst (ga_cons (ge_callTy call_list_of cs_list rfl T.b_list (by decide +kernel) (ga_cons (gv 1) ga_nil)) (ga_cons (ge_op op_addA rs_add (gv 2) (ge_sl sl_any ss_cut (gv 2) go_none (go_some ge_int))) (ga_cons (ge_op op_addA rs_add (gv 2) (ge_tup (ga_cons (ge_tup (ga_cons ge_str (ga_cons ge_non ga_nil))) ga_nil))) (ga_cons (ge_op op_addA rs_add (gv 2) (ge_tup (ga_cons ge_str ga_nil))) (ga_cons (ge_op op_addA rs_add (gv 2) (ge_tup (ga_cons (ge_tup (ga_cons ge_str (ga_cons ge_str (ga_cons ge_str ga_nil)))) ga_nil))) ga_nil)))))))
  (gss_cons (gs_set (i := 3) sc_law_odd_entries.nd rfl (Or.inl rfl) (ge_op op_addA rs_add (gv 3) (ge_lst (ga_cons ge_non (ga_cons ge_int (ga_cons ge_str (ga_cons (ge_tup (ga_cons (ge_tup (ga_cons ge_str (ga_cons ge_int ga_nil))) ga_nil)) (ga_cons (ge_tup (ga_cons (ge_tup (ga_cons ge_str (ga_cons ge_str ga_nil))) (ga_cons (ge_tup (ga_cons ge_str (ga_cons ge_str ga_nil))) ga_nil))) (ga_cons (ge_tup (ga_cons (ge_tup (ga_cons ge_non (ga_cons ge_str ga_nil))) ga_nil)) (ga_cons (ge_tup (ga_cons (ge_lst (ga_cons ge_str (ga_cons ge_str ga_nil))) ga_nil)) (ga_cons (ge_tup (ga_cons (ge_tup (ga_cons ge_str (ga_cons ge_str ga_nil))) ga_nil)) ga_nil)))))))))))
  (gss_one (gs_ret (ge_ix ix_seq rs_ix (gv 3) (ge_c (takes_of rfl rfl rfl rfl) C_law_dip hr (by decide) (ga_cons (gv 0) (ga_cons ge_int ga_nil))) (fun _ _ => rfl))))))), rd_law_odd_entries⟩

theorem ok_law_odd_history (T : Txt K mg) (C_law_dip : Cal P w K mg base 1 "_law_dip" s_law_dip ["well", "many"] sp_law_dip) : Cal P w K mg base 2 "_law_odd_history" s_law_odd_history ["well", "history"] sp_law_odd_history :=
  calD T.f_law_odd_history sc_law_odd_history fun f cdv A outer s H E hr => ⟨d_law_odd_history, (gss_cons (gs_set (i := 2) sc_law_odd_history.nd rfl (Or.inl rfl) (ge_lst (ga_cons (ge_callTy call_list_of cs_list rfl T.b_list (by decide +kernel) (ga_cons (gv 1) ga_nil)) (ga_cons (ge_op op_addA rs_add (gv 1) (ge_tup (ga_cons ge_non ga_nil))) (ga_cons (ge_op op_addA rs_add (gv 1) (ge_tup (ga_cons (ge_tup (ga_cons (ge_op op_addA rs_add (ge_callB call_len cs_len rfl T.b_len (by decide +kernel) (ga_cons (gv 1) ga_nil)) ge_int) (ga_cons ge_bl (ga_cons (ge_tup ga_nil) (ga_cons (ge_tup ga_nil) ga_nil))))) ga_nil))) (ga_cons ge_non (ga_cons ge_int (ga_cons ge_str (ga_cons (ge_tup (ga_cons (ge_tup (ga_cons ge_int (ga_cons ge_bl (ga_cons (ge_tup ga_nil) ga_nil)))) ga_nil)) ga_nil)))))))))
  (gss_cons (gs_set (i := 2) sc_law_odd_history.nd rfl (Or.inl rfl) (ge_op op_addA rs_add (gv 2) (ge_lst (ga_cons (ge_tup (ga_cons (ge_tup (ga_cons ge_int (ga_cons ge_int (ga_cons (ge_tup ga_nil) (ga_cons (ge_tup ga_nil) ga_nil))))) ga_nil)) (ga_cons (ge_tup (ga_cons (ge_tup (ga_cons ge_int (ga_cons ge_bl (ga_cons (ge_lst ga_nil) (ga_cons (ge_tup ga_nil) ga_nil))))) ga_nil)) (ga_cons (ge_tup (ga_cons (ge_tup (ga_cons ge_int (ga_cons ge_bl (ga_cons (ge_tup ga_nil) (ga_cons (ge_tup (ga_cons (ge_tup (ga_cons ge_str (ga_cons ge_int ga_nil))) ga_nil)) ga_nil))))) ga_nil)) (ga_cons (ge_tup (ga_cons (ge_tup (ga_cons (ge_neg ge_int) (ga_cons ge_bl (ga_cons (ge_tup ga_nil) (ga_cons (ge_tup ga_nil) ga_nil))))) ga_nil)) (ga_cons (ge_tup (ga_cons (ge_tup (ga_cons ge_int (ga_cons ge_bl (ga_cons (ge_tup (ga_cons ge_non ga_nil)) (ga_cons (ge_tup ga_nil) ga_nil))))) ga_nil)) ga_nil))))))))
  (gss_one (gs_ret (ge_ix ix_seq rs_ix (gv 2) (ge_c (takes_of rfl rfl rfl rfl) C_law_dip hr (by decide) (ga_cons (gv 0) (ga_cons ge_int ga_nil))) (fun _ _ => rfl)))))), rd_law_odd_history⟩

theorem ok_law_other_note (T : Txt K mg) (C_law_word : Cal P w K mg base 2 "_law_word" s_law_word ["well", "most"] sp_law_word) (C_law_dip : Cal P w K mg base 1 "_law_dip" s_law_dip ["well", "many"] sp_law_dip) : Cal P w K mg base 3 "_law_other_note" s_law_other_note ["well", "note", "pool"] sp_law_other_note :=
  calD T.f_law_other_note sc_law_other_note fun f cdv A outer s H E hr => ⟨d_law_other_note, (gss_cons (gs_if (gt_cmp (op_eqA hr.units) rs_eq (ge_ix ix_seq rs_ix (gv 1) ge_int (fun _ _ => rfl)) ge_str (nomark _)) (gss_cons (gs_set (i := 3) sc_law_other_note.nd rfl (Or.inl rfl) (ge_lst (ga_cons (ge_tup (ga_cons ge_str (ga_cons (ge_ix ix_seq rs_ix (gv 1) ge_int (fun _ _ => rfl)) (ga_cons ge_non ga_nil)))) (ga_cons (ge_tup (ga_cons ge_str (ga_cons (ge_ix ix_seq rs_ix (gv 1) ge_int (fun _ _ => rfl)) (ga_cons ge_str ga_nil)))) (ga_cons (ge_tup (ga_cons ge_str (ga_cons (ge_ix ix_seq rs_ix (gv 1) ge_int (fun _ _ => rfl)) (ga_cons (ge_c (takes_of rfl rfl rfl rfl) C_law_word hr (by decide) (ga_cons (gv 0) (ga_cons ge_int ga_nil))) ga_nil)))) (ga_cons (ge_tup (ga_cons ge_str (ga_cons (ge_ix ix_seq rs_ix (gv 1) ge_int (fun _ _ => rfl)) ga_nil))) ga_nil))))))
  (gss_one (gs_ret (ge_ix ix_seq rs_ix (ge_op op_addA rs_add (gv 3) (ge_lst (ga_cons (ge_tup (ga_cons ge_str (ga_cons (ge_ix ix_seq rs_ix (gv 2) ge_int (fun _ _ => rfl)) (ga_cons (ge_ix ix_seq rs_ix (gv 1) ge_int (fun _ _ => rfl)) ga_nil)))) (ga_cons (ge_callTy call_list_of cs_list rfl T.b_list (by decide +kernel) (ga_cons (gv 1) ga_nil)) (ga_cons (ge_tup (ga_cons ge_str (ga_cons (ge_ix ix_seq rs_ix (gv 1) ge_int (fun _ _ => rfl)) (ga_cons ge_non (ga_cons (ge_tup ga_nil) ga_nil))))) ga_nil))))) (ge_c (takes_of rfl rfl rfl rfl) C_law_dip hr (by decide) (ga_cons (gv 0) (ga_cons ge_int ga_nil))) (fun _ _ => rfl))))) gss_nil)
  (gss_cons (gs_set (i := 4) sc_law_other_note.nd rfl (Or.inl rfl) (ge_c (takes_of rfl rfl rfl rfl) C_law_dip hr (by decide) (ga_cons (gv 0) (ga_cons (ge_op op_addA rs_add (ge_callB call_len cs_len rfl T.b_len (by decide +kernel) (ga_cons (ge_ix ix_seq rs_ix (gv 1) ge_int (fun _ _ => rfl)) ga_nil)) ge_int) ga_nil))))
  (gss_cons (gs_set (i := 5) sc_law_other_note.nd rfl (Or.inl rfl) (ge_op op_addA rs_add (ge_sl sl_any ss_cut (ge_ix ix_seq rs_ix (gv 1) ge_int (fun _ _ => rfl)) go_none (go_some (gv 4))) (ge_sl sl_any ss_cut (ge_ix ix_seq rs_ix (gv 1) ge_int (fun _ _ => rfl)) (go_some (ge_op op_addA rs_add (gv 4) ge_int)) go_none)))
  (gss_cons (gs_set (i := 6) sc_law_other_note.nd rfl (Or.inl rfl) (ge_callTy call_tuple_of cs_tup rfl T.b_tuple (by decide +kernel) (ga_cons (GN.ge (gn_sortT (fun _ => true) rfl T.b_sorted (by decide +kernel) (ge_op op_addA rs_add (GN.ge (gn_lc [("row", 8)] rfl sc_law_other_note.nd (gi_tup (ge_ix ix_seq rs_ix (gv 1) ge_int (fun _ _ => rfl))) (blkOk_by (own := [("row", 8)]) (N := n_law_other_note) (sc := defScope s_law_other_note) (by decide +kernel)) (by decide) (fun _ _ _ _ _ => (gg_name (i := 8) sc_law_other_note.nd rfl (Or.inl rfl))) (fun _ _ _ _ _ => (gts_one (gt_cmp (op_neA hr.units) rs_ne (ge_ix ix_seq rs_ix (gv 8) ge_int (fun _ _ => rfl)) (ge_ix ix_seq rs_ix (gv 2) ge_int (fun _ _ => rfl)) (nomark _)))) (fun _ _ _ _ _ => (gv 8)))) (ge_lst (ga_cons (ge_tup (ga_cons (ge_ix ix_seq rs_ix (gv 2) ge_int (fun _ _ => rfl)) (ga_cons (ge_c (takes_of rfl rfl rfl rfl) C_law_word hr (by decide) (ga_cons (gv 0) (ga_cons ge_int ga_nil))) ga_nil))) ga_nil))))) ga_nil)))
  (gss_cons (gs_set (i := 7) sc_law_other_note.nd rfl (Or.inl rfl) (ge_lst (ga_cons (ge_tup (ga_cons ge_str (ga_cons (ge_ix ix_seq rs_ix (gv 2) ge_int (fun _ _ => rfl)) (ga_cons (ge_ix ix_seq rs_ix (gv 1) ge_int (fun _ _ => rfl)) (ga_cons (ge_ix ix_seq rs_ix (gv 1) ge_int (fun _ _ => rfl)) ga_nil))))) (ga_cons (ge_tup (ga_cons ge_str (ga_cons (ge_ix ix_seq rs_ix (gv 1) ge_int (fun _ _ => rfl)) (ga_cons (ge_ix ix_seq rs_ix (gv 2) (ge_neg ge_int) (fun _ _ => rfl)) (ga_cons (ge_ix ix_seq rs_ix (gv 1) ge_int (fun _ _ => rfl)) ga_nil))))) ga_nil))))
  (gss_one (gs_ret (ge_ix ix_seq rs_ix (ge_op op_addA rs_add (gv 7) (ge_lst (ga_cons (ge_tup (ga_cons ge_str (ga_cons (ge_ix ix_seq rs_ix (gv 1) ge_int (fun _ _ => rfl)) (ga_cons (ge_ix ix_seq rs_ix (gv 1) ge_int (fun _ _ => rfl)) (ga_cons (gv 5) ga_nil))))) (ga_cons (ge_tup (ga_cons ge_str (ga_cons (ge_ix ix_seq rs_ix (gv 1) ge_int (fun _ _ => rfl)) (ga_cons (ge_ix ix_seq rs_ix (gv 1) ge_int (fun _ _ => rfl)) (ga_cons (gv 6) ga_nil))))) (ga_cons (ge_sl sl_any ss_cut (gv 1) go_none (go_some ge_int)) (ga_cons (ge_callTy call_list_of cs_list rfl T.b_list (by decide +kernel) (ga_cons (gv 1) ga_nil)) ga_nil)))))) (ge_c (takes_of rfl rfl rfl rfl) C_law_dip hr (by decide) (ga_cons (gv 0) (ga_cons ge_int ga_nil))) (fun _ _ => rfl))))))))), rd_law_other_note⟩

theorem ok_law_notes_right (T : Txt K mg) (C_law_entries : Cal P w K mg base 1 "_law_entries" s_law_entries ["rows"] sp_law_entries) (C_law_note : Cal P w K mg base 3 "_law_note" s_law_note ["well", "pool", "rows"] sp_law_note) (C_law_same : Cal P w K mg base 6 "_law_same" s_law_same ["found", "due"] sp_law_same) (C_is_given : Cal P w K mg base 6 "is_given" s_is_given ["entries", "value"] sp_is_given) (C_law_judged : Cal P w K mg base 7 "_law_judged" s_law_judged ["entries", "value"] sp_law_judged) (C_law_other_note : Cal P w K mg base 3 "_law_other_note" s_law_other_note ["well", "note", "pool"] sp_law_other_note) (C_law_given : Cal P w K mg base 2 "_law_given" s_law_given ["rows", "note"] sp_law_given) (C_law_odd_entries : Cal P w K mg base 2 "_law_odd_entries" s_law_odd_entries ["well", "entries"] sp_law_odd_entries) : Cal P w K mg base 8 "_law_notes_right" s_law_notes_right ["well", "rows", "pool"] sp_law_notes_right :=
  calD T.f_law_notes_right sc_law_notes_right fun f cdv A outer s H E hr => ⟨d_law_notes_right, (gss_cons (gs_set (i := 3) sc_law_notes_right.nd rfl (Or.inr rfl) (ge_c (takes_of rfl rfl rfl rfl) C_law_entries hr (by decide) (ga_cons (gv 1) ga_nil)))
  (gss_cons (gs_for (passes_of rfl) rfl (gi_range1 rfl T.b_range (ga_cons ge_int ga_nil)) (gg_name (i := 4) sc_law_notes_right.nd rfl (Or.inl rfl))
  (gss_cons (gs_set (i := 5) sc_law_notes_right.nd rfl (Or.inl rfl) (ge_c (takes_of rfl rfl rfl rfl) C_law_note hr (by decide) (ga_cons (gv 0) (ga_cons (gv 2) (ga_cons (gv 1) ga_nil)))))
  (gss_cons (gs_if (gt_not (gt_val (ge_c (takes_of rfl rfl rfl rfl) C_law_same hr (by decide) (ga_cons (ge_lst (ga_cons (ge_c (takes_of rfl rfl rfl rfl) C_law_judged hr (by decide) (ga_cons (ge_wk (gv 3)) (ga_cons (gv 5) ga_nil))) (ga_cons (ge_ck (ks := ["entries", "value"]) [0, 1] C_is_given hr (by decide) (fun _ _ _ _ _ _ ws hl => match ws, hl with | [_, _], _ => rfl) (gk_cons (ge_wk (gv 3)) (gk_cons (gv 5) gk_nil))) ga_nil))) (ga_cons (ge_lst (ga_cons ge_bl (ga_cons ge_bl ga_nil))) ga_nil))))) (gss_one (gs_ret ge_bl)) gss_nil)
  (gss_cons (gs_set (i := 6) sc_law_notes_right.nd rfl (Or.inl rfl) (ge_c (takes_of rfl rfl rfl rfl) C_law_other_note hr (by decide) (ga_cons (gv 0) (ga_cons (gv 5) (ga_cons (gv 2) ga_nil)))))
  (gss_cons (gs_set (i := 7) sc_law_notes_right.nd rfl (Or.inl rfl) (ge_and (ge_callB call_isi cs_isi rfl T.b_isinstance (by decide +kernel) (ga_cons (gv 6) (ga_cons (ge_ty T.b_tuple (by decide +kernel)) ga_nil))) (ge_and (ge_cmp (op_eqA hr.units) rs_eq (ge_callB call_len cs_len rfl T.b_len (by decide +kernel) (ga_cons (gv 6) ga_nil)) (ge_op op_addA rs_add ge_int (ge_callTy call_intA cs_int rfl T.b_int (by decide +kernel) (ga_cons (ge_cmp (op_eqA hr.units) rs_eq (ge_ix ix_seq rs_ix (gv 6) ge_int (fun _ _ => rfl)) ge_str (nomark _)) ga_nil))) (nomark _)) (ge_one (ge_cmp (op_eqA hr.units) rs_eq (ge_c (takes_of rfl rfl rfl rfl) C_law_given hr (by decide) (ga_cons (gv 1) (ga_cons (gv 6) ga_nil))) (gv 6) (nomark _))))))
  (gss_one (gs_if (gt_not (gt_val (ge_c (takes_of rfl rfl rfl rfl) C_law_same hr (by decide) (ga_cons (ge_c (takes_of rfl rfl rfl rfl) C_law_judged hr (by decide) (ga_cons (ge_wk (gv 3)) (ga_cons (gv 6) ga_nil))) (ga_cons (gv 7) ga_nil))))) (gss_one (gs_ret ge_bl)) gss_nil)))))))
  (gss_cons (gs_set (i := 8) sc_law_notes_right.nd rfl (Or.inr rfl) (ge_c (takes_of rfl rfl rfl rfl) C_law_odd_entries hr (by decide) (ga_cons (gv 0) (ga_cons (ge_wk (gv 3)) ga_nil))))
  (gss_cons (gs_set (i := 9) sc_law_notes_right.nd rfl (Or.inl rfl) (ge_lst (ga_cons ge_non (ga_cons ge_int (ga_cons ge_str (ga_cons (ge_tup ga_nil) (ga_cons (ge_tup (ga_cons ge_str (ga_cons ge_str ga_nil))) (ga_cons (ge_tup (ga_cons ge_str (ga_cons ge_non (ga_cons ge_non (ga_cons (ge_wk (gv 3)) ga_nil))))) (ga_cons (ge_tup (ga_cons ge_str (ga_cons ge_non (ga_cons ge_non (ga_cons (ge_lst ga_nil) ga_nil))))) ga_nil)))))))))
  (gss_cons (gs_set (i := 10) sc_law_notes_right.nd rfl (Or.inl rfl) (ge_lst (ga_cons ge_bl (ga_cons ge_bl (ga_cons ge_bl (ga_cons ge_bl (ga_cons ge_bl (ga_cons ge_bl (ga_cons ge_bl ga_nil)))))))))
  (gss_cons (gs_if (gt_not (gt_val (ge_c (takes_of rfl rfl rfl rfl) C_law_same hr (by decide) (ga_cons (GN.ge (gn_lc [("value", 11)] rfl sc_law_notes_right.nd (gi_list (gv 9)) (blkOk_by (own := [("value", 11)]) (N := n_law_notes_right) (sc := defScope s_law_notes_right) (by decide +kernel)) (by decide) (fun _ _ _ _ _ => (gg_name (i := 11) sc_law_notes_right.nd rfl (Or.inl rfl))) (fun _ _ _ _ _ => gts_nil) (fun _ _ _ _ _ => (ge_c takes0 C_law_judged hr (by decide) (ga_cons (ge_wk (gv 3)) (ga_cons (gv 11) ga_nil)))))) (ga_cons (gv 10) ga_nil))))) (gss_one (gs_ret ge_bl)) gss_nil)
  (gss_one (gs_ret (ge_c (takes_of rfl rfl rfl rfl) C_law_same hr (by decide) (ga_cons (GN.ge (gn_lc [("value", 11)] rfl sc_law_notes_right.nd (gi_list (gv 9)) (blkOk_by (own := [("value", 11)]) (N := n_law_notes_right) (sc := defScope s_law_notes_right) (by decide +kernel)) (by decide) (fun _ _ _ _ _ => (gg_name (i := 11) sc_law_notes_right.nd rfl (Or.inl rfl))) (fun _ _ _ _ _ => gts_nil) (fun _ _ _ _ _ => (ge_c takes0 C_law_judged hr (by decide) (ga_cons (gv 8) (ga_cons (gv 11) ga_nil)))))) (ga_cons (ge_op op_mulAll rs_mulA (ge_lst (ga_cons ge_str ga_nil)) ge_int) ga_nil))))))))))), rd_law_notes_right⟩

theorem ok_law_pasts_right (T : Txt K mg) (C_law_entries : Cal P w K mg base 1 "_law_entries" s_law_entries ["rows"] sp_law_entries) (C_law_same : Cal P w K mg base 6 "_law_same" s_law_same ["found", "due"] sp_law_same) (C_past_of : Cal P w K mg base 9 "past_of" s_past_of ["entries", "history", "number"] sp_past_of) (C_law_told : Cal P w K mg base 10 "_law_told" s_law_told ["entries", "history", "number"] sp_law_told) (C_law_laid : Cal P w K mg base 1 "_law_laid" s_law_laid ["rows", "changes"] sp_law_laid) (C_law_odd_history : Cal P w K mg base 2 "_law_odd_history" s_law_odd_history ["well", "history"] sp_law_odd_history) (C_law_odd_entries : Cal P w K mg base 2 "_law_odd_entries" s_law_odd_entries ["well", "entries"] sp_law_odd_entries) (C_law_dip : Cal P w K mg base 1 "_law_dip" s_law_dip ["well", "many"] sp_law_dip) : Cal P w K mg base 11 "_law_pasts_right" s_law_pasts_right ["well", "rows", "history"] sp_law_pasts_right :=
  calD T.f_law_pasts_right sc_law_pasts_right fun f cdv A outer s H E hr => ⟨d_law_pasts_right, (gss_cons (gs_asg (ge_tup (ga_cons (ge_c (takes_of rfl rfl rfl rfl) C_law_entries hr (by decide) (ga_cons (gv 1) ga_nil)) (ga_cons (gv 1) ga_nil))) (gg_tup rfl (ggs_cons (gg_name (i := 3) sc_law_pasts_right.nd rfl (Or.inr rfl)) (ggs_cons (gg_name (i := 4) sc_law_pasts_right.nd rfl (Or.inl rfl)) ggs_nil))))
  (gss_cons (gs_for (passes_of rfl) rfl (gi_range1 rfl T.b_range (ga_cons (ge_op op_addA rs_add (ge_callB call_len cs_len rfl T.b_len (by decide +kernel) (ga_cons (gv 2) ga_nil)) ge_int) ga_nil)) (gg_name (i := 5) sc_law_pasts_right.nd rfl (Or.inl rfl))
  (gss_cons (gs_set (i := 6) sc_law_pasts_right.nd rfl (Or.inl rfl) (ge_c (takes_of rfl rfl rfl rfl) C_law_entries hr (by decide) (ga_cons (gv 4) ga_nil)))
  (gss_cons (gs_if (gt_not (gt_val (ge_c (takes_of rfl rfl rfl rfl) C_law_same hr (by decide) (ga_cons (ge_lst (ga_cons (ge_c (takes_of rfl rfl rfl rfl) C_law_told hr (by decide) (ga_cons (gv 3) (ga_cons (gv 2) (ga_cons (gv 5) ga_nil)))) (ga_cons (ge_ck (ks := ["entries", "history", "number"]) [0, 1, 2] C_past_of hr (by decide) (fun _ _ _ _ _ _ ws hl => match ws, hl with | [_, _, _], _ => rfl) (gk_cons (gv 3) (gk_cons (gv 2) (gk_cons (gv 5) gk_nil)))) ga_nil))) (ga_cons (ge_lst (ga_cons (ge_wk (gv 6)) (ga_cons (ge_wk (gv 6)) ga_nil))) ga_nil))))) (gss_one (gs_ret ge_bl)) gss_nil)
  (gss_one (gs_if (gt_cmp op_ltA rs_cmp (gv 5) (ge_callB call_len cs_len rfl T.b_len (by decide +kernel) (ga_cons (gv 2) ga_nil)) (nomark _)) (gss_one (gs_set (i := 4) sc_law_pasts_right.nd rfl (Or.inl rfl) (ge_c (takes_of rfl rfl rfl rfl) C_law_laid hr (by decide) (ga_cons (gv 4) (ga_cons (ge_ix ix_seq rs_ix (ge_ix ix_seq rs_ix (gv 2) (gv 5) (fun _ _ => rfl)) ge_int (fun _ _ => rfl)) ga_nil))))) gss_nil)))))
  (gss_cons (gs_set (i := 7) sc_law_pasts_right.nd rfl (Or.inl rfl) (ge_lst (ga_cons (ge_neg ge_int) (ga_cons (ge_op op_addA rs_add (ge_callB call_len cs_len rfl T.b_len (by decide +kernel) (ga_cons (gv 2) ga_nil)) ge_int) (ga_cons (ge_op op_addA rs_add (ge_callB call_len cs_len rfl T.b_len (by decide +kernel) (ga_cons (gv 2) ga_nil)) ge_int) (ga_cons (ge_op op_pow rs_I ge_int ge_int) (ga_cons (ge_neg (ge_op op_pow rs_I ge_int ge_int)) (ga_cons ge_non (ga_cons ge_str (ga_cons ge_bl (ga_cons ge_bl (ga_cons (ge_tup (ga_cons ge_int ga_nil)) (ga_cons ge_str (ga_cons (ge_lst (ga_cons ge_int ga_nil)) ga_nil))))))))))))))
  (gss_cons (gs_if (gt_not (gt_val (ge_c (takes_of rfl rfl rfl rfl) C_law_same hr (by decide) (ga_cons (GN.ge (gn_lc [("number", 12)] rfl sc_law_pasts_right.nd (gi_list (gv 7)) (blkOk_by (own := [("number", 12)]) (N := n_law_pasts_right) (sc := defScope s_law_pasts_right) (by decide +kernel)) (by decide) (fun _ _ _ _ _ => (gg_name (i := 12) sc_law_pasts_right.nd rfl (Or.inl rfl))) (fun _ _ _ _ _ => gts_nil) (fun _ _ _ _ _ => (ge_c takes0 C_law_told hr (by decide) (ga_cons (gv 3) (ga_cons (gv 2) (ga_cons (gv 12) ga_nil))))))) (ga_cons (ge_op op_mulAll rs_mulA (ge_lst (ga_cons ge_str ga_nil)) ge_int) ga_nil))))) (gss_one (gs_ret ge_bl)) gss_nil)
  (gss_cons (gs_asg (ge_tup (ga_cons (ge_c (takes_of rfl rfl rfl rfl) C_law_odd_entries hr (by decide) (ga_cons (gv 0) (ga_cons (ge_wk (gv 3)) ga_nil))) (ga_cons (ge_c (takes_of rfl rfl rfl rfl) C_law_odd_history hr (by decide) (ga_cons (gv 0) (ga_cons (gv 2) ga_nil))) ga_nil))) (gg_tup rfl (ggs_cons (gg_name (i := 8) sc_law_pasts_right.nd rfl (Or.inl rfl)) (ggs_cons (gg_name (i := 9) sc_law_pasts_right.nd rfl (Or.inr rfl)) ggs_nil))))
  (gss_cons (gs_par (i := 10) (j := 11) rfl sc_law_pasts_right.nd rfl rfl (by decide) rfl rfl (ga_cons (ge_c (takes_of rfl rfl rfl rfl) C_law_dip hr (by decide) (ga_cons (gv 0) (ga_cons (ge_op op_addA rs_add (ge_callB call_len cs_len rfl T.b_len (by decide +kernel) (ga_cons (gv 2) ga_nil)) ge_int) ga_nil))) (ga_cons (ge_ix ix_seq rs_ix (gv 7) (ge_c (takes_of rfl rfl rfl rfl) C_law_dip hr (by decide) (ga_cons (gv 0) (ga_cons ge_int ga_nil))) (fun _ _ => rfl)) ga_nil)) rfl)
  (gss_cons (gs_if (gt_not (gt_val (ge_c (takes_of rfl rfl rfl rfl) C_law_same hr (by decide) (ga_cons (ge_lst (ga_cons (ge_c (takes_of rfl rfl rfl rfl) C_law_told hr (by decide) (ga_cons (gv 8) (ga_cons (gv 2) (ga_cons (gv 10) ga_nil)))) (ga_cons (ge_c (takes_of rfl rfl rfl rfl) C_law_told hr (by decide) (ga_cons (gv 8) (ga_cons (gv 9) (ga_cons (gv 10) ga_nil)))) ga_nil))) (ga_cons (ge_lst (ga_cons ge_str (ga_cons ge_str ga_nil))) ga_nil))))) (gss_one (gs_ret ge_bl)) gss_nil)
  (gss_cons (gs_if (gt_not (gt_val (ge_c (takes_of rfl rfl rfl rfl) C_law_same hr (by decide) (ga_cons (ge_lst (ga_cons (ge_c (takes_of rfl rfl rfl rfl) C_law_told hr (by decide) (ga_cons (gv 8) (ga_cons (gv 9) (ga_cons (gv 11) ga_nil)))) (ga_cons (ge_c (takes_of rfl rfl rfl rfl) C_law_told hr (by decide) (ga_cons (gv 8) (ga_cons (gv 2) (ga_cons (gv 11) ga_nil)))) ga_nil))) (ga_cons (ge_lst (ga_cons ge_str (ga_cons ge_str ga_nil))) ga_nil))))) (gss_one (gs_ret ge_bl)) gss_nil)
  (gss_one (gs_ret (ge_c (takes_of rfl rfl rfl rfl) C_law_same hr (by decide) (ga_cons (GN.ge (gn_lc [("number", 12)] rfl sc_law_pasts_right.nd (gi_list (ge_lst (ga_cons (gv 10) (ga_cons (gv 11) (ga_cons ge_int ga_nil))))) (blkOk_by (own := [("number", 12)]) (N := n_law_pasts_right) (sc := defScope s_law_pasts_right) (by decide +kernel)) (by decide) (fun _ _ _ _ _ => (gg_name (i := 12) sc_law_pasts_right.nd rfl (Or.inl rfl))) (fun _ _ _ _ _ => gts_nil) (fun _ _ _ _ _ => (ge_c takes0 C_law_told hr (by decide) (ga_cons (gv 3) (ga_cons (gv 9) (ga_cons (gv 12) ga_nil))))))) (ga_cons (ge_op op_mulAll rs_mulA (ge_lst (ga_cons ge_str ga_nil)) ge_int) ga_nil))))))))))))), rd_law_pasts_right⟩

theorem ok_law_is_snapshots (T : Txt K mg) (C_law_given : Cal P w K mg base 2 "_law_given" s_law_given ["rows", "note"] sp_law_given) (C_law_barred : Cal P w K mg base 1 "_law_barred" s_law_barred ["commits"] sp_law_barred) (C_law_laid : Cal P w K mg base 1 "_law_laid" s_law_laid ["rows", "changes"] sp_law_laid) : Cal P w K mg base 3 "_law_is_snapshots" s_law_is_snapshots ["rows", "history"] sp_law_is_snapshots :=
  calD T.f_law_is_snapshots sc_law_is_snapshots fun f cdv A outer s H E hr => ⟨d_law_is_snapshots, (gss_cons (gs_setO (i := 2) sc_law_is_snapshots.nd rfl (Or.inr rfl) (gn_lst (ga_cons (gv 0) ga_nil)))
  (gss_cons (gs_for (passes_of rfl) rfl (gi_tup (gv 1)) (gg_tup rfl (ggs_cons (gg_name (i := 3) sc_law_is_snapshots.nd rfl (Or.inr rfl)) (ggs_cons (gg_name (i := 4) sc_law_is_snapshots.nd rfl (Or.inl rfl)) (ggs_cons (gg_name (i := 5) sc_law_is_snapshots.nd rfl (Or.inl rfl)) (ggs_cons (gg_name (i := 6) sc_law_is_snapshots.nd rfl (Or.inl rfl)) ggs_nil)))))
  (gss_cons (gs_if (gt_cmp (op_neA hr.units) rs_ne (GN.ge (gn_lc [("note", 8)] rfl sc_law_is_snapshots.nd (gi_tup (gv 5)) (blkOk_by (own := [("note", 8)]) (N := n_law_is_snapshots) (sc := defScope s_law_is_snapshots) (by decide +kernel)) (by decide) (fun _ _ _ _ _ => (gg_name (i := 8) sc_law_is_snapshots.nd rfl (Or.inl rfl))) (fun _ _ _ _ _ => (gts_one (gt_cmp (op_neA hr.units) rs_ne (ge_c takes0 C_law_given hr (by decide) (ga_cons (ge_ixO 2 (gv 3) (fun _ _ => rfl)) (ga_cons (gv 8) ga_nil))) (gv 8) (nomark _)))) (fun _ _ _ _ _ => (gv 8)))) (ge_lst ga_nil) (nomark _)) (gss_one (gs_ret ge_bl)) gss_nil)
  (gss_cons (gs_set (i := 7) sc_law_is_snapshots.nd rfl (Or.inr rfl) (ge_c (takes_of rfl rfl rfl rfl) C_law_barred hr (by decide) (ga_cons (ge_sl sl_any ss_cut (gv 1) (go_some (gv 3)) (go_some (ge_op op_sub rs_J (ge_lenO 2 T.b_len) ge_int))) ga_nil)))
  (gss_cons (gs_if (gt_cmp (op_neA hr.units) rs_ne (GN.ge (gn_lc [("key", 9), ("value", 10)] rfl sc_law_is_snapshots.nd (gi_tup (gv 6)) (blkOk_by (own := [("key", 9), ("value", 10)]) (N := n_law_is_snapshots) (sc := defScope s_law_is_snapshots) (by decide +kernel)) (by decide) (fun _ _ _ _ _ => (gg_tup rfl (ggs_cons (gg_name (i := 9) sc_law_is_snapshots.nd rfl (Or.inl rfl)) (ggs_cons (gg_name (i := 10) sc_law_is_snapshots.nd rfl (Or.inl rfl)) ggs_nil)))) (fun _ _ _ _ _ => (gts_one (gt_cmp op_inA rs_in (gv 9) (gv 7) rfl))) (fun _ _ _ _ _ => (gv 9)))) (ge_lst ga_nil) (nomark _)) (gss_one (gs_ret ge_bl)) gss_nil)
  (gss_one (gs_app (i := 2) (ge_c (takes_of rfl rfl rfl rfl) C_law_laid hr (by decide) (ga_cons (ge_ixO 2 (ge_neg ge_int) (fun _ _ => rfl)) (ga_cons (gv 6) ga_nil)))))))))
  (gss_frz 2 (gss_one (gs_ret ge_bl))))), rd_law_is_snapshots⟩

theorem ok_law_exchanged (T : Txt K mg) (C_law_dip : Cal P w K mg base 1 "_law_dip" s_law_dip ["well", "many"] sp_law_dip) (C_law_word : Cal P w K mg base 2 "_law_word" s_law_word ["well", "most"] sp_law_word) (C_law_changes : Cal P w K mg base 3 "_law_changes" s_law_changes ["well", "keys", "most"] sp_law_changes) : Cal P w K mg base 4 "_law_exchanged" s_law_exchanged ["well", "pool", "history"] sp_law_exchanged :=
  calD T.f_law_exchanged sc_law_exchanged fun f cdv A outer s H E hr => ⟨d_law_exchanged, (gss_cons (gs_set (i := 3) sc_law_exchanged.nd rfl (Or.inl rfl) (ge_c (takes_of rfl rfl rfl rfl) C_law_dip hr (by decide) (ga_cons (gv 0) (ga_cons (ge_callB call_len cs_len rfl T.b_len (by decide +kernel) (ga_cons (gv 2) ga_nil)) ga_nil))))
  (gss_cons (gs_asg (ge_ix ix_seq rs_ix (gv 2) (gv 3) (fun _ _ => rfl)) (gg_tup rfl (ggs_cons (gg_name (i := 4) sc_law_exchanged.nd rfl (Or.inl rfl)) (ggs_cons (gg_name (i := 5) sc_law_exchanged.nd rfl (Or.inl rfl)) (ggs_cons (gg_name (i := 6) sc_law_exchanged.nd rfl (Or.inl rfl)) (ggs_cons (gg_name (i := 7) sc_law_exchanged.nd rfl (Or.inl rfl)) ggs_nil))))))
  (gss_cons (gs_set (i := 8) sc_law_exchanged.nd rfl (Or.inl rfl) (ge_tup (ga_cons ge_str (ga_cons (ge_ix ix_seq rs_ix (gv 1) (ge_c (takes_of rfl rfl rfl rfl) C_law_dip hr (by decide) (ga_cons (gv 0) (ga_cons (ge_callB call_len cs_len rfl T.b_len (by decide +kernel) (ga_cons (gv 1) ga_nil)) ga_nil))) (fun _ _ => rfl)) (ga_cons (ge_ix ix_seq rs_ix (ge_lst (ga_cons ge_non (ga_cons ge_str (ga_cons (ge_c (takes_of rfl rfl rfl rfl) C_law_word hr (by decide) (ga_cons (gv 0) (ga_cons ge_int ga_nil))) ga_nil)))) (ge_c (takes_of rfl rfl rfl rfl) C_law_dip hr (by decide) (ga_cons (gv 0) (ga_cons ge_int ga_nil))) (fun _ _ => rfl)) ga_nil)))))
  (gss_cons (gs_set (i := 9) sc_law_exchanged.nd rfl (Or.inl rfl) (ge_c (takes_of rfl rfl rfl rfl) C_law_dip hr (by decide) (ga_cons (gv 0) (ga_cons (ge_op op_addA rs_add (ge_callB call_len cs_len rfl T.b_len (by decide +kernel) (ga_cons (gv 6) ga_nil)) ge_int) ga_nil))))
  (gss_cons (gs_setO (i := 10) sc_law_exchanged.nd rfl (Or.inl rfl) (gn_lst (ga_cons (ge_tup (ga_cons (gv 4) (ga_cons (gv 5) (ga_cons (ge_op op_addA rs_add (ge_op op_addA rs_add (ge_sl sl_any ss_cut (gv 6) go_none (go_some (gv 9))) (ge_tup (ga_cons (gv 8) ga_nil))) (ge_sl sl_any ss_cut (gv 6) (go_some (ge_op op_addA rs_add (gv 9) ge_int)) go_none)) (ga_cons (gv 7) ga_nil))))) (ga_cons (ge_tup (ga_cons (ge_c (takes_of rfl rfl rfl rfl) C_law_dip hr (by decide) (ga_cons (gv 0) (ga_cons (ge_op op_addA rs_add (gv 3) ge_int) ga_nil))) (ga_cons (gv 5) (ga_cons (gv 6) (ga_cons (gv 7) ga_nil))))) ga_nil))))
  (gss_cons (gs_setO (i := 10) sc_law_exchanged.nd rfl (Or.inl rfl) (gn_catO 10 (ge_lst (ga_cons (ge_tup (ga_cons (gv 4) (ga_cons (gv 5) (ga_cons (gv 6) (ga_cons (ge_c (takes_of rfl rfl rfl rfl) C_law_changes hr (by decide) (ga_cons (gv 0) (ga_cons (gv 1) (ga_cons ge_int ga_nil)))) ga_nil))))) (ga_cons (ge_tup (ga_cons (gv 4) (ga_cons (ge_not (gv 5)) (ga_cons (gv 6) (ga_cons (gv 7) ga_nil))))) ga_nil)))))
  (gss_cons (gs_app (i := 10) (ge_tup (ga_cons (gv 4) (ga_cons (gv 5) (ga_cons (ge_op op_addA rs_add (ge_sl sl_any ss_cut (gv 6) go_none (go_some (gv 9))) (ge_sl sl_any ss_cut (gv 6) (go_some (ge_op op_addA rs_add (gv 9) ge_int)) go_none)) (ga_cons (gv 7) ga_nil))))))
  (gss_frz 10 (gss_one (gs_ret (ge_op op_addA rs_add (ge_op op_addA rs_add (ge_sl sl_any ss_cut (gv 2) go_none (go_some (gv 3))) (ge_tup (ga_cons (ge_ix ix_seq rs_ix (gv 10) (ge_c (takes_of rfl rfl rfl rfl) C_law_dip hr (by decide) (ga_cons (gv 0) (ga_cons ge_int ga_nil))) (fun _ _ => rfl)) ga_nil))) (ge_sl sl_any ss_cut (gv 2) (go_some (ge_op op_addA rs_add (gv 3) ge_int)) go_none)))))))))))), rd_law_exchanged⟩

theorem ok_law_snapshots_told (T : Txt K mg) (C_is_snapshot_history : Cal P w K mg base 9 "is_snapshot_history" s_is_snapshot_history ["entries", "history"] sp_is_snapshot_history) : Cal P w K mg base 10 "_law_snapshots_told" s_law_snapshots_told ["entries", "history"] sp_law_snapshots_told :=
  calD T.f_law_snapshots_told sc_law_snapshots_told fun f cdv A outer s H E hr => ⟨d_law_snapshots_told, (gss_cons (gs_set (i := 2) sc_law_snapshots_told.nd rfl (Or.inl rfl) ge_str)
  (gss_cons (gs_try rfl rfl (takes_of rfl rfl rfl rfl) (fun _ _ _ tk hp => (gss_one (gs_set (i := 2) sc_law_snapshots_told.nd rfl (Or.inl rfl) (ge_c tk C_is_snapshot_history hr (by decide) (ga_cons (gv 0) (ga_cons (gv 1) ga_nil)))))) (.bare ⟨rfl, by decide, .inl T.x_InvalidEntries.mg⟩ (al1 T.m_InvalidEntries_InvalidEntries al0) (al1 T.m_InvalidHistory_InvalidEntries (al1 T.m_InvalidNumber_InvalidEntries al0)) (fun _ _ => (gss_one (gs_set (i := 2) sc_law_snapshots_told.nd rfl (Or.inl rfl) ge_str))) (.bare ⟨rfl, by decide, .inl T.x_InvalidHistory.mg⟩ (al1 T.m_InvalidHistory_InvalidHistory al0) (al1 T.m_InvalidEntries_InvalidHistory (al1 T.m_InvalidNumber_InvalidHistory al0)) (fun _ _ => (gss_one (gs_set (i := 2) sc_law_snapshots_told.nd rfl (Or.inl rfl) ge_str))) (.bare ⟨rfl, by decide, .inl T.x_StoreError.mg⟩ (al1 T.m_InvalidEntries_StoreError (al1 T.m_InvalidHistory_StoreError (al1 T.m_InvalidNumber_StoreError al0))) al0 (fun _ _ => (gss_one (gs_set (i := 2) sc_law_snapshots_told.nd rfl (Or.inl rfl) ge_str))) .nil))))
  (gss_one (gs_ret (gv 2))))), rd_law_snapshots_told⟩

theorem ok_law_snapshots_right (T : Txt K mg) (C_law_entries : Cal P w K mg base 1 "_law_entries" s_law_entries ["rows"] sp_law_entries) (C_law_exchanged : Cal P w K mg base 4 "_law_exchanged" s_law_exchanged ["well", "pool", "history"] sp_law_exchanged) (C_law_dip : Cal P w K mg base 1 "_law_dip" s_law_dip ["well", "many"] sp_law_dip) (C_law_is_snapshots : Cal P w K mg base 3 "_law_is_snapshots" s_law_is_snapshots ["rows", "history"] sp_law_is_snapshots) (C_is_snapshot_history : Cal P w K mg base 9 "is_snapshot_history" s_is_snapshot_history ["entries", "history"] sp_is_snapshot_history) (C_law_snapshots_told : Cal P w K mg base 10 "_law_snapshots_told" s_law_snapshots_told ["entries", "history"] sp_law_snapshots_told) (C_law_same : Cal P w K mg base 6 "_law_same" s_law_same ["found", "due"] sp_law_same) (C_law_odd_history : Cal P w K mg base 2 "_law_odd_history" s_law_odd_history ["well", "history"] sp_law_odd_history) (C_law_odd_entries : Cal P w K mg base 2 "_law_odd_entries" s_law_odd_entries ["well", "entries"] sp_law_odd_entries) : Cal P w K mg base 11 "_law_snapshots_right" s_law_snapshots_right ["well", "rows", "history", "pool"] sp_law_snapshots_right :=
  calD T.f_law_snapshots_right sc_law_snapshots_right fun f cdv A outer s H E hr => ⟨d_law_snapshots_right, (gss_cons (gs_parO2 (i := 4) (j := 5) rfl sc_law_snapshots_right.nd rfl rfl (by decide) rfl rfl (ge_c (takes_of rfl rfl rfl rfl) C_law_entries hr (by decide) (ga_cons (gv 1) ga_nil)) (gn_lst (ga_cons (gv 2) ga_nil)) rfl)
  (gss_cons (gs_for (passes_of rfl) rfl (gi_range1 rfl T.b_range (ga_cons (ge_if (gt_cmp (op_neA hr.units) rs_ne (gv 2) (ge_tup ga_nil) (nomark _)) ge_int ge_int) ga_nil)) (gg_name (i := 6) sc_law_snapshots_right.nd rfl (Or.inl rfl))
  (gss_one (gs_app (i := 5) (ge_c (takes_of rfl rfl rfl rfl) C_law_exchanged hr (by decide) (ga_cons (gv 0) (ga_cons (gv 3) (ga_cons (ge_ixO 5 (ge_c (takes_of rfl rfl rfl rfl) C_law_dip hr (by decide) (ga_cons (gv 0) (ga_cons (ge_lenO 5 T.b_len) ga_nil))) (fun _ _ => rfl)) ga_nil)))))))
  (gss_frz 5 (gss_cons (gs_for (passes_of rfl) rfl (gi_list (gv 5)) (gg_name (i := 7) sc_law_snapshots_right.nd rfl (Or.inl rfl))
  (gss_cons (gs_set (i := 8) sc_law_snapshots_right.nd rfl (Or.inl rfl) (ge_c (takes_of rfl rfl rfl rfl) C_law_is_snapshots hr (by decide) (ga_cons (gv 1) (ga_cons (gv 7) ga_nil))))
  (gss_cons (gs_set (i := 9) sc_law_snapshots_right.nd rfl (Or.inl rfl) (ge_lst (ga_cons (ge_c (takes_of rfl rfl rfl rfl) C_law_snapshots_told hr (by decide) (ga_cons (gv 4) (ga_cons (gv 7) ga_nil))) (ga_cons (ge_ck (ks := ["history", "entries"]) [1, 0] C_is_snapshot_history hr (by decide) (fun _ _ _ _ _ _ ws hl => match ws, hl with | [_, _], _ => rfl) (gk_cons (gv 7) (gk_cons (gv 4) gk_nil))) ga_nil))))
  (gss_one (gs_if (gt_not (gt_val (ge_c (takes_of rfl rfl rfl rfl) C_law_same hr (by decide) (ga_cons (gv 9) (ga_cons (ge_lst (ga_cons (gv 8) (ga_cons (gv 8) ga_nil))) ga_nil))))) (gss_one (gs_ret ge_bl)) gss_nil)))))
  (gss_cons (gs_par (i := 10) (j := 11) rfl sc_law_snapshots_right.nd rfl rfl (by decide) rfl rfl (ga_cons (ge_c (takes_of rfl rfl rfl rfl) C_law_odd_entries hr (by decide) (ga_cons (gv 0) (ga_cons (ge_wk (gv 4)) ga_nil))) (ga_cons (ge_c (takes_of rfl rfl rfl rfl) C_law_odd_history hr (by decide) (ga_cons (gv 0) (ga_cons (gv 2) ga_nil))) ga_nil)) rfl)
  (gss_cons (gs_set (i := 9) sc_law_snapshots_right.nd rfl (Or.inl rfl) (ge_lst (ga_cons (ge_c (takes_of rfl rfl rfl rfl) C_law_snapshots_told hr (by decide) (ga_cons (gv 10) (ga_cons (gv 2) ga_nil))) (ga_cons (ge_c (takes_of rfl rfl rfl rfl) C_law_snapshots_told hr (by decide) (ga_cons (gv 10) (ga_cons (gv 11) ga_nil))) (ga_cons (ge_c (takes_of rfl rfl rfl rfl) C_law_snapshots_told hr (by decide) (ga_cons (gv 4) (ga_cons (gv 11) ga_nil))) ga_nil)))))
  (gss_one (gs_ret (ge_c (takes_of rfl rfl rfl rfl) C_law_same hr (by decide) (ga_cons (gv 9) (ga_cons (ge_lst (ga_cons ge_str (ga_cons ge_str (ga_cons ge_str ga_nil)))) ga_nil))))))))))), rd_law_snapshots_right⟩

theorem ok_law (T : Txt K mg) (C_law_well : Cal P w K mg base 1 "_law_well" s_law_well ["cell"] sp_law_well) (C_law_pool : Cal P w K mg base 3 "_law_pool" s_law_pool ["well", "many"] sp_law_pool) (C_law_dip : Cal P w K mg base 1 "_law_dip" s_law_dip ["well", "many"] sp_law_dip) (C_law_rows : Cal P w K mg base 3 "_law_rows" s_law_rows ["well", "pool"] sp_law_rows) (C_law_history : Cal P w K mg base 4 "_law_history" s_law_history ["well", "pool", "rows", "many", "most"] sp_law_history) (C_law_pasts_right : Cal P w K mg base 11 "_law_pasts_right" s_law_pasts_right ["well", "rows", "history"] sp_law_pasts_right) (C_law_notes_right : Cal P w K mg base 8 "_law_notes_right" s_law_notes_right ["well", "rows", "pool"] sp_law_notes_right) (C_law_snapshots_right : Cal P w K mg base 11 "_law_snapshots_right" s_law_snapshots_right ["well", "rows", "history", "pool"] sp_law_snapshots_right) : Cal P w K mg base 12 "law" s_law ["script"] sp_law :=
  calD T.f_law sc_law fun f cdv A outer s H E hr => ⟨d_law, (gss_cons (gs_for (passes_of rfl) rfl (gi_list (ge_op op_addA rs_add (ge_lst (ga_cons ge_int (ga_cons (ge_op op_addA rs_add (ge_op op_pow rs_I ge_int ge_int) ge_int) ga_nil))) (ge_sl sl_any ss_cut (gv 0) go_none (go_some ge_int)))) (gg_name (i := 1) sc_law.nd rfl (Or.inl rfl))
  (gss_cons (gs_set (i := 2) sc_law.nd rfl (Or.inl rfl) (ge_c (takes_of rfl rfl rfl rfl) C_law_well hr (by decide) (ga_cons (gv 1) ga_nil)))
  (gss_cons (gs_set (i := 3) sc_law.nd rfl (Or.inl rfl) (ge_c (takes_of rfl rfl rfl rfl) C_law_pool hr (by decide) (ga_cons (gv 2) (ga_cons (ge_op op_addA rs_add ge_int (ge_c (takes_of rfl rfl rfl rfl) C_law_dip hr (by decide) (ga_cons (gv 2) (ga_cons ge_int ga_nil)))) ga_nil))))
  (gss_cons (gs_set (i := 4) sc_law.nd rfl (Or.inl rfl) (ge_c (takes_of rfl rfl rfl rfl) C_law_rows hr (by decide) (ga_cons (gv 2) (ga_cons (gv 3) ga_nil))))
  (gss_cons (gs_set (i := 5) sc_law.nd rfl (Or.inl rfl) (ge_c (takes_of rfl rfl rfl rfl) C_law_history hr (by decide) (ga_cons (gv 2) (ga_cons (gv 3) (ga_cons (gv 4) (ga_cons (ge_c (takes_of rfl rfl rfl rfl) C_law_dip hr (by decide) (ga_cons (gv 2) (ga_cons ge_int ga_nil))) (ga_cons ge_int ga_nil)))))))
  (gss_cons (gs_if (gt_cmp (op_eqA hr.units) rs_eq (ge_c (takes_of rfl rfl rfl rfl) C_law_dip hr (by decide) (ga_cons (gv 2) (ga_cons ge_int ga_nil))) ge_int (nomark _)) (gss_one (gs_set (i := 5) sc_law.nd rfl (Or.inl rfl) (ge_op op_addA rs_add (gv 5) (ge_sl sl_any ss_cut (gv 5) (go_some (ge_neg ge_int)) go_none)))) gss_nil)
  (gss_cons (gs_set (i := 6) sc_law.nd rfl (Or.inl rfl) (ge_tup (ga_cons (ge_callB (cr_reprK hr.toRoom.units hr.gd) cs_reprK rfl T.b_repr (by decide +kernel) (ga_cons (gv 4) ga_nil)) (ga_cons (ge_callB (cr_repr hr.toRoom.units hr.gd) cs_repr rfl T.b_repr (by decide +kernel) (ga_cons (gv 5) ga_nil)) ga_nil))))
  (gss_cons (gs_if (GW.gt (gw_or (gt_not (gt_val (ge_c (takes_of rfl rfl rfl rfl) C_law_pasts_right hr (by decide) (ga_cons (gv 2) (ga_cons (gv 4) (ga_cons (gv 5) ga_nil)))))) (gw_or1 (gt_not (gt_val (ge_c (takes_of rfl rfl rfl rfl) C_law_notes_right hr (by decide) (ga_cons (gv 2) (ga_cons (gv 4) (ga_cons (gv 3) ga_nil))))))))) (gss_one (gs_ret ge_bl)) gss_nil)
  (gss_cons (gs_if (gt_not (gt_val (ge_c (takes_of rfl rfl rfl rfl) C_law_snapshots_right hr (by decide) (ga_cons (gv 2) (ga_cons (gv 4) (ga_cons (gv 5) (ga_cons (gv 3) ga_nil))))))) (gss_one (gs_ret ge_bl)) gss_nil)
  (gss_one (gs_if (gt_cmp (op_neA hr.units) rs_ne (ge_tup (ga_cons (ge_callB (cr_reprK hr.toRoom.units hr.gd) cs_reprK rfl T.b_repr (by decide +kernel) (ga_cons (gv 4) ga_nil)) (ga_cons (ge_callB (cr_repr hr.toRoom.units hr.gd) cs_repr rfl T.b_repr (by decide +kernel) (ga_cons (gv 5) ga_nil)) ga_nil))) (gv 6) (nomark _)) (gss_one (gs_ret ge_bl)) gss_nil)))))))))))
  (gss_one (gs_ret ge_bl))), rd_law⟩

theorem txt_mk {K : PySem.W.Frag} {h : Heap} {mg : Str → Option Value} (X : K.In h)
  (GN : h.Ns mainGlobals mg)
  {f0 : Addr} {oc0 kV0 dc0 pm0 cd0 ct0 : Value} {od0 an0 : Option Addr} {sl0 : Array (Option Value)}
  (a0 : PySem.W.nsIn K mainGlobals "is_integer" = some (some (.ref f0)))
  (l0 : K.lookup f0 = some ⟨oc0, od0, .func (PySem.W.fnOf "is_integer" "is_integer" (defArgs s_is_integer) (defBody s_is_integer) (defScope s_is_integer) .none kV0 dc0 pm0 an0 cd0 ct0), sl0⟩)
  (c0 : PySem.W.codeIn K cd0 "is_integer" = true) (k0 : PySem.W.keepIn K (.ref f0) = true)
  {f1 : Addr} {oc1 kV1 dc1 pm1 cd1 ct1 : Value} {od1 an1 : Option Addr} {sl1 : Array (Option Value)}
  (a1 : PySem.W.nsIn K mainGlobals "is_between" = some (some (.ref f1)))
  (l1 : K.lookup f1 = some ⟨oc1, od1, .func (PySem.W.fnOf "is_between" "is_between" (defArgs s_is_between) (defBody s_is_between) (defScope s_is_between) .none kV1 dc1 pm1 an1 cd1 ct1), sl1⟩)
  (c1 : PySem.W.codeIn K cd1 "is_between" = true) (k1 : PySem.W.keepIn K (.ref f1) = true)
  {f2 : Addr} {oc2 kV2 dc2 pm2 cd2 ct2 : Value} {od2 an2 : Option Addr} {sl2 : Array (Option Value)}
  (a2 : PySem.W.nsIn K mainGlobals "is_tuple_of" = some (some (.ref f2)))
  (l2 : K.lookup f2 = some ⟨oc2, od2, .func (PySem.W.fnOf "is_tuple_of" "is_tuple_of" (defArgs s_is_tuple_of) (defBody s_is_tuple_of) (defScope s_is_tuple_of) .none kV2 dc2 pm2 an2 cd2 ct2), sl2⟩)
  (c2 : PySem.W.codeIn K cd2 "is_tuple_of" = true) (k2 : PySem.W.keepIn K (.ref f2) = true)
  {f3 : Addr} {oc3 kV3 dc3 pm3 cd3 ct3 : Value} {od3 an3 : Option Addr} {sl3 : Array (Option Value)}
  (a3 : PySem.W.nsIn K mainGlobals "is_text" = some (some (.ref f3)))
  (l3 : K.lookup f3 = some ⟨oc3, od3, .func (PySem.W.fnOf "is_text" "is_text" (defArgs s_is_text) (defBody s_is_text) (defScope s_is_text) .none kV3 dc3 pm3 an3 cd3 ct3), sl3⟩)
  (c3 : PySem.W.codeIn K cd3 "is_text" = true) (k3 : PySem.W.keepIn K (.ref f3) = true)
  {f4 : Addr} {oc4 kV4 dc4 pm4 cd4 ct4 : Value} {od4 an4 : Option Addr} {sl4 : Array (Option Value)}
  (a4 : PySem.W.nsIn K mainGlobals "is_change" = some (some (.ref f4)))
  (l4 : K.lookup f4 = some ⟨oc4, od4, .func (PySem.W.fnOf "is_change" "is_change" (defArgs s_is_change) (defBody s_is_change) (defScope s_is_change) .none kV4 dc4 pm4 an4 cd4 ct4), sl4⟩)
  (c4 : PySem.W.codeIn K cd4 "is_change" = true) (k4 : PySem.W.keepIn K (.ref f4) = true)
  {f5 : Addr} {oc5 kV5 dc5 pm5 cd5 ct5 : Value} {od5 an5 : Option Addr} {sl5 : Array (Option Value)}
  (a5 : PySem.W.nsIn K mainGlobals "is_changes" = some (some (.ref f5)))
  (l5 : K.lookup f5 = some ⟨oc5, od5, .func (PySem.W.fnOf "is_changes" "is_changes" (defArgs s_is_changes) (defBody s_is_changes) (defScope s_is_changes) .none kV5 dc5 pm5 an5 cd5 ct5), sl5⟩)
  (c5 : PySem.W.codeIn K cd5 "is_changes" = true) (k5 : PySem.W.keepIn K (.ref f5) = true)
  {f6 : Addr} {oc6 kV6 dc6 pm6 cd6 ct6 : Value} {od6 an6 : Option Addr} {sl6 : Array (Option Value)}
  (a6 : PySem.W.nsIn K mainGlobals "is_entries" = some (some (.ref f6)))
  (l6 : K.lookup f6 = some ⟨oc6, od6, .func (PySem.W.fnOf "is_entries" "is_entries" (defArgs s_is_entries) (defBody s_is_entries) (defScope s_is_entries) .none kV6 dc6 pm6 an6 cd6 ct6), sl6⟩)
  (c6 : PySem.W.codeIn K cd6 "is_entries" = true) (k6 : PySem.W.keepIn K (.ref f6) = true)
  {f7 : Addr} {oc7 kV7 dc7 pm7 cd7 ct7 : Value} {od7 an7 : Option Addr} {sl7 : Array (Option Value)}
  (a7 : PySem.W.nsIn K mainGlobals "is_text_or_none" = some (some (.ref f7)))
  (l7 : K.lookup f7 = some ⟨oc7, od7, .func (PySem.W.fnOf "is_text_or_none" "is_text_or_none" (defArgs s_is_text_or_none) (defBody s_is_text_or_none) (defScope s_is_text_or_none) .none kV7 dc7 pm7 an7 cd7 ct7), sl7⟩)
  (c7 : PySem.W.codeIn K cd7 "is_text_or_none" = true) (k7 : PySem.W.keepIn K (.ref f7) = true)
  {f8 : Addr} {oc8 kV8 dc8 pm8 cd8 ct8 : Value} {od8 an8 : Option Addr} {sl8 : Array (Option Value)}
  (a8 : PySem.W.nsIn K mainGlobals "is_note" = some (some (.ref f8)))
  (l8 : K.lookup f8 = some ⟨oc8, od8, .func (PySem.W.fnOf "is_note" "is_note" (defArgs s_is_note) (defBody s_is_note) (defScope s_is_note) .none kV8 dc8 pm8 an8 cd8 ct8), sl8⟩)
  (c8 : PySem.W.codeIn K cd8 "is_note" = true) (k8 : PySem.W.keepIn K (.ref f8) = true)
  {f9 : Addr} {oc9 kV9 dc9 pm9 cd9 ct9 : Value} {od9 an9 : Option Addr} {sl9 : Array (Option Value)}
  (a9 : PySem.W.nsIn K mainGlobals "is_commit" = some (some (.ref f9)))
  (l9 : K.lookup f9 = some ⟨oc9, od9, .func (PySem.W.fnOf "is_commit" "is_commit" (defArgs s_is_commit) (defBody s_is_commit) (defScope s_is_commit) .none kV9 dc9 pm9 an9 cd9 ct9), sl9⟩)
  (c9 : PySem.W.codeIn K cd9 "is_commit" = true) (k9 : PySem.W.keepIn K (.ref f9) = true)
  {f10 : Addr} {oc10 kV10 dc10 pm10 cd10 ct10 : Value} {od10 an10 : Option Addr} {sl10 : Array (Option Value)}
  (a10 : PySem.W.nsIn K mainGlobals "is_history" = some (some (.ref f10)))
  (l10 : K.lookup f10 = some ⟨oc10, od10, .func (PySem.W.fnOf "is_history" "is_history" (defArgs s_is_history) (defBody s_is_history) (defScope s_is_history) .none kV10 dc10 pm10 an10 cd10 ct10), sl10⟩)
  (c10 : PySem.W.codeIn K cd10 "is_history" = true) (k10 : PySem.W.keepIn K (.ref f10) = true)
  {f11 : Addr} {oc11 kV11 dc11 pm11 cd11 ct11 : Value} {od11 an11 : Option Addr} {sl11 : Array (Option Value)}
  (a11 : PySem.W.nsIn K mainGlobals "check_entries" = some (some (.ref f11)))
  (l11 : K.lookup f11 = some ⟨oc11, od11, .func (PySem.W.fnOf "check_entries" "check_entries" (defArgs s_check_entries) (defBody s_check_entries) (defScope s_check_entries) .none kV11 dc11 pm11 an11 cd11 ct11), sl11⟩)
  (c11 : PySem.W.codeIn K cd11 "check_entries" = true) (k11 : PySem.W.keepIn K (.ref f11) = true)
  {f12 : Addr} {oc12 kV12 dc12 pm12 cd12 ct12 : Value} {od12 an12 : Option Addr} {sl12 : Array (Option Value)}
  (a12 : PySem.W.nsIn K mainGlobals "check_history" = some (some (.ref f12)))
  (l12 : K.lookup f12 = some ⟨oc12, od12, .func (PySem.W.fnOf "check_history" "check_history" (defArgs s_check_history) (defBody s_check_history) (defScope s_check_history) .none kV12 dc12 pm12 an12 cd12 ct12), sl12⟩)
  (c12 : PySem.W.codeIn K cd12 "check_history" = true) (k12 : PySem.W.keepIn K (.ref f12) = true)
  {f13 : Addr} {oc13 kV13 dc13 pm13 cd13 ct13 : Value} {od13 an13 : Option Addr} {sl13 : Array (Option Value)}
  (a13 : PySem.W.nsIn K mainGlobals "has" = some (some (.ref f13)))
  (l13 : K.lookup f13 = some ⟨oc13, od13, .func (PySem.W.fnOf "has" "has" (defArgs s_has) (defBody s_has) (defScope s_has) .none kV13 dc13 pm13 an13 cd13 ct13), sl13⟩)
  (c13 : PySem.W.codeIn K cd13 "has" = true) (k13 : PySem.W.keepIn K (.ref f13) = true)
  {f14 : Addr} {oc14 kV14 dc14 pm14 cd14 ct14 : Value} {od14 an14 : Option Addr} {sl14 : Array (Option Value)}
  (a14 : PySem.W.nsIn K mainGlobals "tells" = some (some (.ref f14)))
  (l14 : K.lookup f14 = some ⟨oc14, od14, .func (PySem.W.fnOf "tells" "tells" (defArgs s_tells) (defBody s_tells) (defScope s_tells) .none kV14 dc14 pm14 an14 cd14 ct14), sl14⟩)
  (c14 : PySem.W.codeIn K cd14 "tells" = true) (k14 : PySem.W.keepIn K (.ref f14) = true)
  {f15 : Addr} {oc15 kV15 dc15 pm15 cd15 ct15 : Value} {od15 an15 : Option Addr} {sl15 : Array (Option Value)}
  (a15 : PySem.W.nsIn K mainGlobals "is_given" = some (some (.ref f15)))
  (l15 : K.lookup f15 = some ⟨oc15, od15, .func (PySem.W.fnOf "is_given" "is_given" (defArgs s_is_given) (defBody s_is_given) (defScope s_is_given) .none kV15 dc15 pm15 an15 cd15 ct15), sl15⟩)
  (c15 : PySem.W.codeIn K cd15 "is_given" = true) (k15 : PySem.W.keepIn K (.ref f15) = true)
  {f16 : Addr} {oc16 kV16 dc16 pm16 cd16 ct16 : Value} {od16 an16 : Option Addr} {sl16 : Array (Option Value)}
  (a16 : PySem.W.nsIn K mainGlobals "laid_over" = some (some (.ref f16)))
  (l16 : K.lookup f16 = some ⟨oc16, od16, .func (PySem.W.fnOf "laid_over" "laid_over" (defArgs s_laid_over) (defBody s_laid_over) (defScope s_laid_over) .none kV16 dc16 pm16 an16 cd16 ct16), sl16⟩)
  (c16 : PySem.W.codeIn K cd16 "laid_over" = true) (k16 : PySem.W.keepIn K (.ref f16) = true)
  {f17 : Addr} {oc17 kV17 dc17 pm17 cd17 ct17 : Value} {od17 an17 : Option Addr} {sl17 : Array (Option Value)}
  (a17 : PySem.W.nsIn K mainGlobals "pasts_of" = some (some (.ref f17)))
  (l17 : K.lookup f17 = some ⟨oc17, od17, .func (PySem.W.fnOf "pasts_of" "pasts_of" (defArgs s_pasts_of) (defBody s_pasts_of) (defScope s_pasts_of) .none kV17 dc17 pm17 an17 cd17 ct17), sl17⟩)
  (c17 : PySem.W.codeIn K cd17 "pasts_of" = true) (k17 : PySem.W.keepIn K (.ref f17) = true)
  {f18 : Addr} {oc18 kV18 dc18 pm18 cd18 ct18 : Value} {od18 an18 : Option Addr} {sl18 : Array (Option Value)}
  (a18 : PySem.W.nsIn K mainGlobals "past_of" = some (some (.ref f18)))
  (l18 : K.lookup f18 = some ⟨oc18, od18, .func (PySem.W.fnOf "past_of" "past_of" (defArgs s_past_of) (defBody s_past_of) (defScope s_past_of) .none kV18 dc18 pm18 an18 cd18 ct18), sl18⟩)
  (c18 : PySem.W.codeIn K cd18 "past_of" = true) (k18 : PySem.W.keepIn K (.ref f18) = true)
  {f19 : Addr} {oc19 kV19 dc19 pm19 cd19 ct19 : Value} {od19 an19 : Option Addr} {sl19 : Array (Option Value)}
  (a19 : PySem.W.nsIn K mainGlobals "changed" = some (some (.ref f19)))
  (l19 : K.lookup f19 = some ⟨oc19, od19, .func (PySem.W.fnOf "changed" "changed" (defArgs s_changed) (defBody s_changed) (defScope s_changed) .none kV19 dc19 pm19 an19 cd19 ct19), sl19⟩)
  (c19 : PySem.W.codeIn K cd19 "changed" = true) (k19 : PySem.W.keepIn K (.ref f19) = true)
  {f20 : Addr} {oc20 kV20 dc20 pm20 cd20 ct20 : Value} {od20 an20 : Option Addr} {sl20 : Array (Option Value)}
  (a20 : PySem.W.nsIn K mainGlobals "share" = some (some (.ref f20)))
  (l20 : K.lookup f20 = some ⟨oc20, od20, .func (PySem.W.fnOf "share" "share" (defArgs s_share) (defBody s_share) (defScope s_share) .none kV20 dc20 pm20 an20 cd20 ct20), sl20⟩)
  (c20 : PySem.W.codeIn K cd20 "share" = true) (k20 : PySem.W.keepIn K (.ref f20) = true)
  {f21 : Addr} {oc21 kV21 dc21 pm21 cd21 ct21 : Value} {od21 an21 : Option Addr} {sl21 : Array (Option Value)}
  (a21 : PySem.W.nsIn K mainGlobals "is_snapshot_history" = some (some (.ref f21)))
  (l21 : K.lookup f21 = some ⟨oc21, od21, .func (PySem.W.fnOf "is_snapshot_history" "is_snapshot_history" (defArgs s_is_snapshot_history) (defBody s_is_snapshot_history) (defScope s_is_snapshot_history) .none kV21 dc21 pm21 an21 cd21 ct21), sl21⟩)
  (c21 : PySem.W.codeIn K cd21 "is_snapshot_history" = true) (k21 : PySem.W.keepIn K (.ref f21) = true)
  {f22 : Addr} {oc22 kV22 dc22 pm22 cd22 ct22 : Value} {od22 an22 : Option Addr} {sl22 : Array (Option Value)}
  (a22 : PySem.W.nsIn K mainGlobals "_law_well" = some (some (.ref f22)))
  (l22 : K.lookup f22 = some ⟨oc22, od22, .func (PySem.W.fnOf "_law_well" "_law_well" (defArgs s_law_well) (defBody s_law_well) (defScope s_law_well) .none kV22 dc22 pm22 an22 cd22 ct22), sl22⟩)
  (c22 : PySem.W.codeIn K cd22 "_law_well" = true) (k22 : PySem.W.keepIn K (.ref f22) = true)
  {f23 : Addr} {oc23 kV23 dc23 pm23 cd23 ct23 : Value} {od23 an23 : Option Addr} {sl23 : Array (Option Value)}
  (a23 : PySem.W.nsIn K mainGlobals "_law_dip" = some (some (.ref f23)))
  (l23 : K.lookup f23 = some ⟨oc23, od23, .func (PySem.W.fnOf "_law_dip" "_law_dip" (defArgs s_law_dip) (defBody s_law_dip) (defScope s_law_dip) .none kV23 dc23 pm23 an23 cd23 ct23), sl23⟩)
  (c23 : PySem.W.codeIn K cd23 "_law_dip" = true) (k23 : PySem.W.keepIn K (.ref f23) = true)
  {f24 : Addr} {oc24 kV24 dc24 pm24 cd24 ct24 : Value} {od24 an24 : Option Addr} {sl24 : Array (Option Value)}
  (a24 : PySem.W.nsIn K mainGlobals "_law_same" = some (some (.ref f24)))
  (l24 : K.lookup f24 = some ⟨oc24, od24, .func (PySem.W.fnOf "_law_same" "_law_same" (defArgs s_law_same) (defBody s_law_same) (defScope s_law_same) .none kV24 dc24 pm24 an24 cd24 ct24), sl24⟩)
  (c24 : PySem.W.codeIn K cd24 "_law_same" = true) (k24 : PySem.W.keepIn K (.ref f24) = true)
  {f25 : Addr} {oc25 kV25 dc25 pm25 cd25 ct25 : Value} {od25 an25 : Option Addr} {sl25 : Array (Option Value)}
  (a25 : PySem.W.nsIn K mainGlobals "_law_word" = some (some (.ref f25)))
  (l25 : K.lookup f25 = some ⟨oc25, od25, .func (PySem.W.fnOf "_law_word" "_law_word" (defArgs s_law_word) (defBody s_law_word) (defScope s_law_word) .none kV25 dc25 pm25 an25 cd25 ct25), sl25⟩)
  (c25 : PySem.W.codeIn K cd25 "_law_word" = true) (k25 : PySem.W.keepIn K (.ref f25) = true)
  {f26 : Addr} {oc26 kV26 dc26 pm26 cd26 ct26 : Value} {od26 an26 : Option Addr} {sl26 : Array (Option Value)}
  (a26 : PySem.W.nsIn K mainGlobals "_law_pool" = some (some (.ref f26)))
  (l26 : K.lookup f26 = some ⟨oc26, od26, .func (PySem.W.fnOf "_law_pool" "_law_pool" (defArgs s_law_pool) (defBody s_law_pool) (defScope s_law_pool) .none kV26 dc26 pm26 an26 cd26 ct26), sl26⟩)
  (c26 : PySem.W.codeIn K cd26 "_law_pool" = true) (k26 : PySem.W.keepIn K (.ref f26) = true)
  {f27 : Addr} {oc27 kV27 dc27 pm27 cd27 ct27 : Value} {od27 an27 : Option Addr} {sl27 : Array (Option Value)}
  (a27 : PySem.W.nsIn K mainGlobals "_law_has" = some (some (.ref f27)))
  (l27 : K.lookup f27 = some ⟨oc27, od27, .func (PySem.W.fnOf "_law_has" "_law_has" (defArgs s_law_has) (defBody s_law_has) (defScope s_law_has) .none kV27 dc27 pm27 an27 cd27 ct27), sl27⟩)
  (c27 : PySem.W.codeIn K cd27 "_law_has" = true) (k27 : PySem.W.keepIn K (.ref f27) = true)
  {f28 : Addr} {oc28 kV28 dc28 pm28 cd28 ct28 : Value} {od28 an28 : Option Addr} {sl28 : Array (Option Value)}
  (a28 : PySem.W.nsIn K mainGlobals "_law_given" = some (some (.ref f28)))
  (l28 : K.lookup f28 = some ⟨oc28, od28, .func (PySem.W.fnOf "_law_given" "_law_given" (defArgs s_law_given) (defBody s_law_given) (defScope s_law_given) .none kV28 dc28 pm28 an28 cd28 ct28), sl28⟩)
  (c28 : PySem.W.codeIn K cd28 "_law_given" = true) (k28 : PySem.W.keepIn K (.ref f28) = true)
  {f29 : Addr} {oc29 kV29 dc29 pm29 cd29 ct29 : Value} {od29 an29 : Option Addr} {sl29 : Array (Option Value)}
  (a29 : PySem.W.nsIn K mainGlobals "_law_note" = some (some (.ref f29)))
  (l29 : K.lookup f29 = some ⟨oc29, od29, .func (PySem.W.fnOf "_law_note" "_law_note" (defArgs s_law_note) (defBody s_law_note) (defScope s_law_note) .none kV29 dc29 pm29 an29 cd29 ct29), sl29⟩)
  (c29 : PySem.W.codeIn K cd29 "_law_note" = true) (k29 : PySem.W.keepIn K (.ref f29) = true)
  {f30 : Addr} {oc30 kV30 dc30 pm30 cd30 ct30 : Value} {od30 an30 : Option Addr} {sl30 : Array (Option Value)}
  (a30 : PySem.W.nsIn K mainGlobals "_law_laid" = some (some (.ref f30)))
  (l30 : K.lookup f30 = some ⟨oc30, od30, .func (PySem.W.fnOf "_law_laid" "_law_laid" (defArgs s_law_laid) (defBody s_law_laid) (defScope s_law_laid) .none kV30 dc30 pm30 an30 cd30 ct30), sl30⟩)
  (c30 : PySem.W.codeIn K cd30 "_law_laid" = true) (k30 : PySem.W.keepIn K (.ref f30) = true)
  {f31 : Addr} {oc31 kV31 dc31 pm31 cd31 ct31 : Value} {od31 an31 : Option Addr} {sl31 : Array (Option Value)}
  (a31 : PySem.W.nsIn K mainGlobals "_law_changes" = some (some (.ref f31)))
  (l31 : K.lookup f31 = some ⟨oc31, od31, .func (PySem.W.fnOf "_law_changes" "_law_changes" (defArgs s_law_changes) (defBody s_law_changes) (defScope s_law_changes) .none kV31 dc31 pm31 an31 cd31 ct31), sl31⟩)
  (c31 : PySem.W.codeIn K cd31 "_law_changes" = true) (k31 : PySem.W.keepIn K (.ref f31) = true)
  {f32 : Addr} {oc32 kV32 dc32 pm32 cd32 ct32 : Value} {od32 an32 : Option Addr} {sl32 : Array (Option Value)}
  (a32 : PySem.W.nsIn K mainGlobals "_law_barred" = some (some (.ref f32)))
  (l32 : K.lookup f32 = some ⟨oc32, od32, .func (PySem.W.fnOf "_law_barred" "_law_barred" (defArgs s_law_barred) (defBody s_law_barred) (defScope s_law_barred) .none kV32 dc32 pm32 an32 cd32 ct32), sl32⟩)
  (c32 : PySem.W.codeIn K cd32 "_law_barred" = true) (k32 : PySem.W.keepIn K (.ref f32) = true)
  {f33 : Addr} {oc33 kV33 dc33 pm33 cd33 ct33 : Value} {od33 an33 : Option Addr} {sl33 : Array (Option Value)}
  (a33 : PySem.W.nsIn K mainGlobals "_law_history" = some (some (.ref f33)))
  (l33 : K.lookup f33 = some ⟨oc33, od33, .func (PySem.W.fnOf "_law_history" "_law_history" (defArgs s_law_history) (defBody s_law_history) (defScope s_law_history) .none kV33 dc33 pm33 an33 cd33 ct33), sl33⟩)
  (c33 : PySem.W.codeIn K cd33 "_law_history" = true) (k33 : PySem.W.keepIn K (.ref f33) = true)
  {f34 : Addr} {oc34 kV34 dc34 pm34 cd34 ct34 : Value} {od34 an34 : Option Addr} {sl34 : Array (Option Value)}
  (a34 : PySem.W.nsIn K mainGlobals "_law_rows" = some (some (.ref f34)))
  (l34 : K.lookup f34 = some ⟨oc34, od34, .func (PySem.W.fnOf "_law_rows" "_law_rows" (defArgs s_law_rows) (defBody s_law_rows) (defScope s_law_rows) .none kV34 dc34 pm34 an34 cd34 ct34), sl34⟩)
  (c34 : PySem.W.codeIn K cd34 "_law_rows" = true) (k34 : PySem.W.keepIn K (.ref f34) = true)
  {f35 : Addr} {oc35 kV35 dc35 pm35 cd35 ct35 : Value} {od35 an35 : Option Addr} {sl35 : Array (Option Value)}
  (a35 : PySem.W.nsIn K mainGlobals "_law_entries" = some (some (.ref f35)))
  (l35 : K.lookup f35 = some ⟨oc35, od35, .func (PySem.W.fnOf "_law_entries" "_law_entries" (defArgs s_law_entries) (defBody s_law_entries) (defScope s_law_entries) .none kV35 dc35 pm35 an35 cd35 ct35), sl35⟩)
  (c35 : PySem.W.codeIn K cd35 "_law_entries" = true) (k35 : PySem.W.keepIn K (.ref f35) = true)
  {f36 : Addr} {oc36 kV36 dc36 pm36 cd36 ct36 : Value} {od36 an36 : Option Addr} {sl36 : Array (Option Value)}
  (a36 : PySem.W.nsIn K mainGlobals "_law_told" = some (some (.ref f36)))
  (l36 : K.lookup f36 = some ⟨oc36, od36, .func (PySem.W.fnOf "_law_told" "_law_told" (defArgs s_law_told) (defBody s_law_told) (defScope s_law_told) .none kV36 dc36 pm36 an36 cd36 ct36), sl36⟩)
  (c36 : PySem.W.codeIn K cd36 "_law_told" = true) (k36 : PySem.W.keepIn K (.ref f36) = true)
  {f37 : Addr} {oc37 kV37 dc37 pm37 cd37 ct37 : Value} {od37 an37 : Option Addr} {sl37 : Array (Option Value)}
  (a37 : PySem.W.nsIn K mainGlobals "_law_judged" = some (some (.ref f37)))
  (l37 : K.lookup f37 = some ⟨oc37, od37, .func (PySem.W.fnOf "_law_judged" "_law_judged" (defArgs s_law_judged) (defBody s_law_judged) (defScope s_law_judged) .none kV37 dc37 pm37 an37 cd37 ct37), sl37⟩)
  (c37 : PySem.W.codeIn K cd37 "_law_judged" = true) (k37 : PySem.W.keepIn K (.ref f37) = true)
  {f38 : Addr} {oc38 kV38 dc38 pm38 cd38 ct38 : Value} {od38 an38 : Option Addr} {sl38 : Array (Option Value)}
  (a38 : PySem.W.nsIn K mainGlobals "_law_odd_entries" = some (some (.ref f38)))
  (l38 : K.lookup f38 = some ⟨oc38, od38, .func (PySem.W.fnOf "_law_odd_entries" "_law_odd_entries" (defArgs s_law_odd_entries) (defBody s_law_odd_entries) (defScope s_law_odd_entries) .none kV38 dc38 pm38 an38 cd38 ct38), sl38⟩)
  (c38 : PySem.W.codeIn K cd38 "_law_odd_entries" = true) (k38 : PySem.W.keepIn K (.ref f38) = true)
  {f39 : Addr} {oc39 kV39 dc39 pm39 cd39 ct39 : Value} {od39 an39 : Option Addr} {sl39 : Array (Option Value)}
  (a39 : PySem.W.nsIn K mainGlobals "_law_odd_history" = some (some (.ref f39)))
  (l39 : K.lookup f39 = some ⟨oc39, od39, .func (PySem.W.fnOf "_law_odd_history" "_law_odd_history" (defArgs s_law_odd_history) (defBody s_law_odd_history) (defScope s_law_odd_history) .none kV39 dc39 pm39 an39 cd39 ct39), sl39⟩)
  (c39 : PySem.W.codeIn K cd39 "_law_odd_history" = true) (k39 : PySem.W.keepIn K (.ref f39) = true)
  {f40 : Addr} {oc40 kV40 dc40 pm40 cd40 ct40 : Value} {od40 an40 : Option Addr} {sl40 : Array (Option Value)}
  (a40 : PySem.W.nsIn K mainGlobals "_law_other_note" = some (some (.ref f40)))
  (l40 : K.lookup f40 = some ⟨oc40, od40, .func (PySem.W.fnOf "_law_other_note" "_law_other_note" (defArgs s_law_other_note) (defBody s_law_other_note) (defScope s_law_other_note) .none kV40 dc40 pm40 an40 cd40 ct40), sl40⟩)
  (c40 : PySem.W.codeIn K cd40 "_law_other_note" = true) (k40 : PySem.W.keepIn K (.ref f40) = true)
  {f41 : Addr} {oc41 kV41 dc41 pm41 cd41 ct41 : Value} {od41 an41 : Option Addr} {sl41 : Array (Option Value)}
  (a41 : PySem.W.nsIn K mainGlobals "_law_notes_right" = some (some (.ref f41)))
  (l41 : K.lookup f41 = some ⟨oc41, od41, .func (PySem.W.fnOf "_law_notes_right" "_law_notes_right" (defArgs s_law_notes_right) (defBody s_law_notes_right) (defScope s_law_notes_right) .none kV41 dc41 pm41 an41 cd41 ct41), sl41⟩)
  (c41 : PySem.W.codeIn K cd41 "_law_notes_right" = true) (k41 : PySem.W.keepIn K (.ref f41) = true)
  {f42 : Addr} {oc42 kV42 dc42 pm42 cd42 ct42 : Value} {od42 an42 : Option Addr} {sl42 : Array (Option Value)}
  (a42 : PySem.W.nsIn K mainGlobals "_law_pasts_right" = some (some (.ref f42)))
  (l42 : K.lookup f42 = some ⟨oc42, od42, .func (PySem.W.fnOf "_law_pasts_right" "_law_pasts_right" (defArgs s_law_pasts_right) (defBody s_law_pasts_right) (defScope s_law_pasts_right) .none kV42 dc42 pm42 an42 cd42 ct42), sl42⟩)
  (c42 : PySem.W.codeIn K cd42 "_law_pasts_right" = true) (k42 : PySem.W.keepIn K (.ref f42) = true)
  {f43 : Addr} {oc43 kV43 dc43 pm43 cd43 ct43 : Value} {od43 an43 : Option Addr} {sl43 : Array (Option Value)}
  (a43 : PySem.W.nsIn K mainGlobals "_law_is_snapshots" = some (some (.ref f43)))
  (l43 : K.lookup f43 = some ⟨oc43, od43, .func (PySem.W.fnOf "_law_is_snapshots" "_law_is_snapshots" (defArgs s_law_is_snapshots) (defBody s_law_is_snapshots) (defScope s_law_is_snapshots) .none kV43 dc43 pm43 an43 cd43 ct43), sl43⟩)
  (c43 : PySem.W.codeIn K cd43 "_law_is_snapshots" = true) (k43 : PySem.W.keepIn K (.ref f43) = true)
  {f44 : Addr} {oc44 kV44 dc44 pm44 cd44 ct44 : Value} {od44 an44 : Option Addr} {sl44 : Array (Option Value)}
  (a44 : PySem.W.nsIn K mainGlobals "_law_exchanged" = some (some (.ref f44)))
  (l44 : K.lookup f44 = some ⟨oc44, od44, .func (PySem.W.fnOf "_law_exchanged" "_law_exchanged" (defArgs s_law_exchanged) (defBody s_law_exchanged) (defScope s_law_exchanged) .none kV44 dc44 pm44 an44 cd44 ct44), sl44⟩)
  (c44 : PySem.W.codeIn K cd44 "_law_exchanged" = true) (k44 : PySem.W.keepIn K (.ref f44) = true)
  {f45 : Addr} {oc45 kV45 dc45 pm45 cd45 ct45 : Value} {od45 an45 : Option Addr} {sl45 : Array (Option Value)}
  (a45 : PySem.W.nsIn K mainGlobals "_law_snapshots_told" = some (some (.ref f45)))
  (l45 : K.lookup f45 = some ⟨oc45, od45, .func (PySem.W.fnOf "_law_snapshots_told" "_law_snapshots_told" (defArgs s_law_snapshots_told) (defBody s_law_snapshots_told) (defScope s_law_snapshots_told) .none kV45 dc45 pm45 an45 cd45 ct45), sl45⟩)
  (c45 : PySem.W.codeIn K cd45 "_law_snapshots_told" = true) (k45 : PySem.W.keepIn K (.ref f45) = true)
  {f46 : Addr} {oc46 kV46 dc46 pm46 cd46 ct46 : Value} {od46 an46 : Option Addr} {sl46 : Array (Option Value)}
  (a46 : PySem.W.nsIn K mainGlobals "_law_snapshots_right" = some (some (.ref f46)))
  (l46 : K.lookup f46 = some ⟨oc46, od46, .func (PySem.W.fnOf "_law_snapshots_right" "_law_snapshots_right" (defArgs s_law_snapshots_right) (defBody s_law_snapshots_right) (defScope s_law_snapshots_right) .none kV46 dc46 pm46 an46 cd46 ct46), sl46⟩)
  (c46 : PySem.W.codeIn K cd46 "_law_snapshots_right" = true) (k46 : PySem.W.keepIn K (.ref f46) = true)
  {f47 : Addr} {oc47 kV47 dc47 pm47 cd47 ct47 : Value} {od47 an47 : Option Addr} {sl47 : Array (Option Value)}
  (a47 : PySem.W.nsIn K mainGlobals "law" = some (some (.ref f47)))
  (l47 : K.lookup f47 = some ⟨oc47, od47, .func (PySem.W.fnOf "law" "law" (defArgs s_law) (defBody s_law) (defScope s_law) .none kV47 dc47 pm47 an47 cd47 ct47), sl47⟩)
  (c47 : PySem.W.codeIn K cd47 "law" = true) (k47 : PySem.W.keepIn K (.ref f47) = true)
  (z_all : PySem.W.nsIn K mainGlobals "all" = some none)
  (z_any : PySem.W.nsIn K mainGlobals "any" = some none)
  (z_bool : PySem.W.nsIn K mainGlobals "bool" = some none)
  (z_dict : PySem.W.nsIn K mainGlobals "dict" = some none)
  (z_int : PySem.W.nsIn K mainGlobals "int" = some none)
  (z_isinstance : PySem.W.nsIn K mainGlobals "isinstance" = some none)
  (z_len : PySem.W.nsIn K mainGlobals "len" = some none)
  (z_list : PySem.W.nsIn K mainGlobals "list" = some none)
  (z_range : PySem.W.nsIn K mainGlobals "range" = some none)
  (z_repr : PySem.W.nsIn K mainGlobals "repr" = some none)
  (z_sorted : PySem.W.nsIn K mainGlobals "sorted" = some none)
  (z_str : PySem.W.nsIn K mainGlobals "str" = some none)
  (z_tuple : PySem.W.nsIn K mainGlobals "tuple" = some none)
  {t_GREATEST_SIGN : Tok}
  (v_GREATEST_SIGN : PySem.W.nsIn K mainGlobals "GREATEST_SIGN" = some (some (.str "~" t_GREATEST_SIGN)))
  {t_LEAST_SIGN : Tok}
  (v_LEAST_SIGN : PySem.W.nsIn K mainGlobals "LEAST_SIGN" = some (some (.str " " t_LEAST_SIGN)))
  (p_InvalidEntries : PySem.W.nsIn K mainGlobals "InvalidEntries" = some (some (.ref a_InvalidEntries))) (q_InvalidEntries : PySem.W.excIn K a_InvalidEntries [.type "ValueError", .type "Exception", .type "BaseException", .type "object"] "ValueError.__new__" = true) (r_InvalidEntries : PySem.W.keepIn K (.ref a_InvalidEntries) = true) (s_InvalidEntries : PySem.W.subIn K (.ref a_InvalidEntries) (.type "BaseException") = some true) (y_InvalidEntries : PySem.W.typeIn K (.ref a_InvalidEntries) = some (.type "type"))
  (p_InvalidHistory : PySem.W.nsIn K mainGlobals "InvalidHistory" = some (some (.ref a_InvalidHistory))) (q_InvalidHistory : PySem.W.excIn K a_InvalidHistory [.type "ValueError", .type "Exception", .type "BaseException", .type "object"] "ValueError.__new__" = true) (r_InvalidHistory : PySem.W.keepIn K (.ref a_InvalidHistory) = true) (s_InvalidHistory : PySem.W.subIn K (.ref a_InvalidHistory) (.type "BaseException") = some true) (y_InvalidHistory : PySem.W.typeIn K (.ref a_InvalidHistory) = some (.type "type"))
  (p_InvalidNumber : PySem.W.nsIn K mainGlobals "InvalidNumber" = some (some (.ref a_InvalidNumber))) (q_InvalidNumber : PySem.W.excIn K a_InvalidNumber [.type "ValueError", .type "Exception", .type "BaseException", .type "object"] "ValueError.__new__" = true) (r_InvalidNumber : PySem.W.keepIn K (.ref a_InvalidNumber) = true) (s_InvalidNumber : PySem.W.subIn K (.ref a_InvalidNumber) (.type "BaseException") = some true) (y_InvalidNumber : PySem.W.typeIn K (.ref a_InvalidNumber) = some (.type "type"))
  (p_StoreError : PySem.W.nsIn K mainGlobals "StoreError" = some (some (.ref a_StoreError))) (q_StoreError : PySem.W.excIn K a_StoreError [.type "ValueError", .type "Exception", .type "BaseException", .type "object"] "ValueError.__new__" = true) (r_StoreError : PySem.W.keepIn K (.ref a_StoreError) = true) (s_StoreError : PySem.W.subIn K (.ref a_StoreError) (.type "BaseException") = some true) (y_StoreError : PySem.W.typeIn K (.ref a_StoreError) = some (.type "type"))
  (m_InvalidEntries_InvalidEntries : PySem.W.subIn K (.ref a_InvalidEntries) (.ref a_InvalidEntries) = some true)
  (m_InvalidEntries_InvalidHistory : PySem.W.subIn K (.ref a_InvalidEntries) (.ref a_InvalidHistory) = some false)
  (m_InvalidEntries_InvalidNumber : PySem.W.subIn K (.ref a_InvalidEntries) (.ref a_InvalidNumber) = some false)
  (m_InvalidEntries_StoreError : PySem.W.subIn K (.ref a_InvalidEntries) (.ref a_StoreError) = some true)
  (m_InvalidHistory_InvalidEntries : PySem.W.subIn K (.ref a_InvalidHistory) (.ref a_InvalidEntries) = some false)
  (m_InvalidHistory_InvalidHistory : PySem.W.subIn K (.ref a_InvalidHistory) (.ref a_InvalidHistory) = some true)
  (m_InvalidHistory_InvalidNumber : PySem.W.subIn K (.ref a_InvalidHistory) (.ref a_InvalidNumber) = some false)
  (m_InvalidHistory_StoreError : PySem.W.subIn K (.ref a_InvalidHistory) (.ref a_StoreError) = some true)
  (m_InvalidNumber_InvalidEntries : PySem.W.subIn K (.ref a_InvalidNumber) (.ref a_InvalidEntries) = some false)
  (m_InvalidNumber_InvalidHistory : PySem.W.subIn K (.ref a_InvalidNumber) (.ref a_InvalidHistory) = some false)
  (m_InvalidNumber_InvalidNumber : PySem.W.subIn K (.ref a_InvalidNumber) (.ref a_InvalidNumber) = some true)
  (m_InvalidNumber_StoreError : PySem.W.subIn K (.ref a_InvalidNumber) (.ref a_StoreError) = some true)
  (w_InvalidEntries : PySem.W.hasDictIn K a_InvalidEntries = true)
  (w_InvalidHistory : PySem.W.hasDictIn K a_InvalidHistory = true)
  (w_InvalidNumber : PySem.W.hasDictIn K a_InvalidNumber = true)
  (w_StoreError : PySem.W.hasDictIn K a_StoreError = true) : Txt K mg where
  f_is_integer := def_mk X GN a0 l0 c0 k0 fun _ _ _ _ _ _ us hl => match us, hl with | [_], _ => rfl
  f_is_between := def_mk X GN a1 l1 c1 k1 fun _ _ _ _ _ _ us hl => match us, hl with | [_, _, _], _ => rfl
  f_is_tuple_of := def_mk X GN a2 l2 c2 k2 fun _ _ _ _ _ _ us hl => match us, hl with | [_, _], _ => rfl
  f_is_text := def_mk X GN a3 l3 c3 k3 fun _ _ _ _ _ _ us hl => match us, hl with | [_], _ => rfl
  f_is_change := def_mk X GN a4 l4 c4 k4 fun _ _ _ _ _ _ us hl => match us, hl with | [_], _ => rfl
  f_is_changes := def_mk X GN a5 l5 c5 k5 fun _ _ _ _ _ _ us hl => match us, hl with | [_], _ => rfl
  f_is_entries := def_mk X GN a6 l6 c6 k6 fun _ _ _ _ _ _ us hl => match us, hl with | [_], _ => rfl
  f_is_text_or_none := def_mk X GN a7 l7 c7 k7 fun _ _ _ _ _ _ us hl => match us, hl with | [_], _ => rfl
  f_is_note := def_mk X GN a8 l8 c8 k8 fun _ _ _ _ _ _ us hl => match us, hl with | [_], _ => rfl
  f_is_commit := def_mk X GN a9 l9 c9 k9 fun _ _ _ _ _ _ us hl => match us, hl with | [_, _], _ => rfl
  f_is_history := def_mk X GN a10 l10 c10 k10 fun _ _ _ _ _ _ us hl => match us, hl with | [_], _ => rfl
  f_check_entries := def_mk X GN a11 l11 c11 k11 fun _ _ _ _ _ _ us hl => match us, hl with | [_], _ => rfl
  f_check_history := def_mk X GN a12 l12 c12 k12 fun _ _ _ _ _ _ us hl => match us, hl with | [_], _ => rfl
  f_has := def_mk X GN a13 l13 c13 k13 fun _ _ _ _ _ _ us hl => match us, hl with | [_, _], _ => rfl
  f_tells := def_mk X GN a14 l14 c14 k14 fun _ _ _ _ _ _ us hl => match us, hl with | [_, _], _ => rfl
  f_is_given := def_mk X GN a15 l15 c15 k15 fun _ _ _ _ _ _ us hl => match us, hl with | [_, _], _ => rfl
  f_laid_over := def_mk X GN a16 l16 c16 k16 fun _ _ _ _ _ _ us hl => match us, hl with | [_, _], _ => rfl
  f_pasts_of := def_mk X GN a17 l17 c17 k17 fun _ _ _ _ _ _ us hl => match us, hl with | [_, _], _ => rfl
  f_past_of := def_mk X GN a18 l18 c18 k18 fun _ _ _ _ _ _ us hl => match us, hl with | [_, _, _], _ => rfl
  f_changed := def_mk X GN a19 l19 c19 k19 fun _ _ _ _ _ _ us hl => match us, hl with | [_, _], _ => rfl
  f_share := def_mk X GN a20 l20 c20 k20 fun _ _ _ _ _ _ us hl => match us, hl with | [_, _, _], _ => rfl
  f_is_snapshot_history := def_mk X GN a21 l21 c21 k21 fun _ _ _ _ _ _ us hl => match us, hl with | [_, _], _ => rfl
  f_law_well := def_mk X GN a22 l22 c22 k22 fun _ _ _ _ _ _ us hl => match us, hl with | [_], _ => rfl
  f_law_dip := def_mk X GN a23 l23 c23 k23 fun _ _ _ _ _ _ us hl => match us, hl with | [_, _], _ => rfl
  f_law_same := def_mk X GN a24 l24 c24 k24 fun _ _ _ _ _ _ us hl => match us, hl with | [_, _], _ => rfl
  f_law_word := def_mk X GN a25 l25 c25 k25 fun _ _ _ _ _ _ us hl => match us, hl with | [_, _], _ => rfl
  f_law_pool := def_mk X GN a26 l26 c26 k26 fun _ _ _ _ _ _ us hl => match us, hl with | [_, _], _ => rfl
  f_law_has := def_mk X GN a27 l27 c27 k27 fun _ _ _ _ _ _ us hl => match us, hl with | [_, _], _ => rfl
  f_law_given := def_mk X GN a28 l28 c28 k28 fun _ _ _ _ _ _ us hl => match us, hl with | [_, _], _ => rfl
  f_law_note := def_mk X GN a29 l29 c29 k29 fun _ _ _ _ _ _ us hl => match us, hl with | [_, _, _], _ => rfl
  f_law_laid := def_mk X GN a30 l30 c30 k30 fun _ _ _ _ _ _ us hl => match us, hl with | [_, _], _ => rfl
  f_law_changes := def_mk X GN a31 l31 c31 k31 fun _ _ _ _ _ _ us hl => match us, hl with | [_, _, _], _ => rfl
  f_law_barred := def_mk X GN a32 l32 c32 k32 fun _ _ _ _ _ _ us hl => match us, hl with | [_], _ => rfl
  f_law_history := def_mk X GN a33 l33 c33 k33 fun _ _ _ _ _ _ us hl => match us, hl with | [_, _, _, _, _], _ => rfl
  f_law_rows := def_mk X GN a34 l34 c34 k34 fun _ _ _ _ _ _ us hl => match us, hl with | [_, _], _ => rfl
  f_law_entries := def_mk X GN a35 l35 c35 k35 fun _ _ _ _ _ _ us hl => match us, hl with | [_], _ => rfl
  f_law_told := def_mk X GN a36 l36 c36 k36 fun _ _ _ _ _ _ us hl => match us, hl with | [_, _, _], _ => rfl
  f_law_judged := def_mk X GN a37 l37 c37 k37 fun _ _ _ _ _ _ us hl => match us, hl with | [_, _], _ => rfl
  f_law_odd_entries := def_mk X GN a38 l38 c38 k38 fun _ _ _ _ _ _ us hl => match us, hl with | [_, _], _ => rfl
  f_law_odd_history := def_mk X GN a39 l39 c39 k39 fun _ _ _ _ _ _ us hl => match us, hl with | [_, _], _ => rfl
  f_law_other_note := def_mk X GN a40 l40 c40 k40 fun _ _ _ _ _ _ us hl => match us, hl with | [_, _, _], _ => rfl
  f_law_notes_right := def_mk X GN a41 l41 c41 k41 fun _ _ _ _ _ _ us hl => match us, hl with | [_, _, _], _ => rfl
  f_law_pasts_right := def_mk X GN a42 l42 c42 k42 fun _ _ _ _ _ _ us hl => match us, hl with | [_, _, _], _ => rfl
  f_law_is_snapshots := def_mk X GN a43 l43 c43 k43 fun _ _ _ _ _ _ us hl => match us, hl with | [_, _], _ => rfl
  f_law_exchanged := def_mk X GN a44 l44 c44 k44 fun _ _ _ _ _ _ us hl => match us, hl with | [_, _, _], _ => rfl
  f_law_snapshots_told := def_mk X GN a45 l45 c45 k45 fun _ _ _ _ _ _ us hl => match us, hl with | [_, _], _ => rfl
  f_law_snapshots_right := def_mk X GN a46 l46 c46 k46 fun _ _ _ _ _ _ us hl => match us, hl with | [_, _, _, _], _ => rfl
  f_law := def_mk X GN a47 l47 c47 k47 fun _ _ _ _ _ _ us hl => match us, hl with | [_], _ => rfl
  b_all := PySem.W.mg_none_of X GN z_all
  b_any := PySem.W.mg_none_of X GN z_any
  b_bool := PySem.W.mg_none_of X GN z_bool
  b_dict := PySem.W.mg_none_of X GN z_dict
  b_int := PySem.W.mg_none_of X GN z_int
  b_isinstance := PySem.W.mg_none_of X GN z_isinstance
  b_len := PySem.W.mg_none_of X GN z_len
  b_list := PySem.W.mg_none_of X GN z_list
  b_range := PySem.W.mg_none_of X GN z_range
  b_repr := PySem.W.mg_none_of X GN z_repr
  b_sorted := PySem.W.mg_none_of X GN z_sorted
  b_str := PySem.W.mg_none_of X GN z_str
  b_tuple := PySem.W.mg_none_of X GN z_tuple
  c_GREATEST_SIGN := ⟨_, PySem.W.mg_of X GN v_GREATEST_SIGN, ⟨_, rfl⟩⟩
  c_LEAST_SIGN := ⟨_, PySem.W.mg_of X GN v_LEAST_SIGN, ⟨_, rfl⟩⟩
  x_InvalidEntries := ⟨PySem.W.mg_of X GN p_InvalidEntries, q_InvalidEntries, r_InvalidEntries, s_InvalidEntries, y_InvalidEntries⟩
  x_InvalidHistory := ⟨PySem.W.mg_of X GN p_InvalidHistory, q_InvalidHistory, r_InvalidHistory, s_InvalidHistory, y_InvalidHistory⟩
  x_InvalidNumber := ⟨PySem.W.mg_of X GN p_InvalidNumber, q_InvalidNumber, r_InvalidNumber, s_InvalidNumber, y_InvalidNumber⟩
  x_StoreError := ⟨PySem.W.mg_of X GN p_StoreError, q_StoreError, r_StoreError, s_StoreError, y_StoreError⟩
  m_InvalidEntries_InvalidEntries := PySem.W.exm_ref s_InvalidEntries w_InvalidEntries y_InvalidEntries m_InvalidEntries_InvalidEntries
  m_InvalidEntries_InvalidHistory := PySem.W.exm_ref s_InvalidHistory w_InvalidHistory y_InvalidHistory m_InvalidEntries_InvalidHistory
  m_InvalidEntries_InvalidNumber := PySem.W.exm_ref s_InvalidNumber w_InvalidNumber y_InvalidNumber m_InvalidEntries_InvalidNumber
  m_InvalidEntries_StoreError := PySem.W.exm_ref s_StoreError w_StoreError y_StoreError m_InvalidEntries_StoreError
  m_InvalidHistory_InvalidEntries := PySem.W.exm_ref s_InvalidEntries w_InvalidEntries y_InvalidEntries m_InvalidHistory_InvalidEntries
  m_InvalidHistory_InvalidHistory := PySem.W.exm_ref s_InvalidHistory w_InvalidHistory y_InvalidHistory m_InvalidHistory_InvalidHistory
  m_InvalidHistory_InvalidNumber := PySem.W.exm_ref s_InvalidNumber w_InvalidNumber y_InvalidNumber m_InvalidHistory_InvalidNumber
  m_InvalidHistory_StoreError := PySem.W.exm_ref s_StoreError w_StoreError y_StoreError m_InvalidHistory_StoreError
  m_InvalidNumber_InvalidEntries := PySem.W.exm_ref s_InvalidEntries w_InvalidEntries y_InvalidEntries m_InvalidNumber_InvalidEntries
  m_InvalidNumber_InvalidHistory := PySem.W.exm_ref s_InvalidHistory w_InvalidHistory y_InvalidHistory m_InvalidNumber_InvalidHistory
  m_InvalidNumber_InvalidNumber := PySem.W.exm_ref s_InvalidNumber w_InvalidNumber y_InvalidNumber m_InvalidNumber_InvalidNumber
  m_InvalidNumber_StoreError := PySem.W.exm_ref s_StoreError w_StoreError y_StoreError m_InvalidNumber_StoreError

theorem law_cal (T : Txt K mg) : Cal P w K mg base 12 "law" s_law ["script"] sp_law := by
  have C_is_integer : Cal P w K mg base 1 "is_integer" s_is_integer ["value"] sp_is_integer := ok_is_integer T 
  have C_is_between : Cal P w K mg base 2 "is_between" s_is_between ["least", "value", "most"] sp_is_between := ok_is_between T C_is_integer
  have C_is_tuple_of : Cal P w K mg base 1 "is_tuple_of" s_is_tuple_of ["length", "value"] sp_is_tuple_of := ok_is_tuple_of T 
  have C_is_text : Cal P w K mg base 1 "is_text" s_is_text ["value"] sp_is_text := ok_is_text T 
  have C_is_change : Cal P w K mg base 2 "is_change" s_is_change ["value"] sp_is_change := ok_is_change T C_is_tuple_of C_is_text
  have C_is_changes : Cal P w K mg base 3 "is_changes" s_is_changes ["value"] sp_is_changes := ok_is_changes T C_is_change
  have C_is_entries : Cal P w K mg base 4 "is_entries" s_is_entries ["value"] sp_is_entries := ok_is_entries T C_is_changes
  have C_is_text_or_none : Cal P w K mg base 2 "is_text_or_none" s_is_text_or_none ["value"] sp_is_text_or_none := ok_is_text_or_none T C_is_text
  have C_is_note : Cal P w K mg base 5 "is_note" s_is_note ["value"] sp_is_note := ok_is_note T C_is_tuple_of C_is_text C_is_text_or_none C_is_entries
  have C_is_commit : Cal P w K mg base 6 "is_commit" s_is_commit ["number", "value"] sp_is_commit := ok_is_commit T C_is_tuple_of C_is_between C_is_note C_is_changes
  have C_is_history : Cal P w K mg base 7 "is_history" s_is_history ["value"] sp_is_history := ok_is_history T C_is_commit
  have C_check_entries : Cal P w K mg base 5 "check_entries" s_check_entries ["entries"] sp_check_entries := ok_check_entries T C_is_entries
  have C_check_history : Cal P w K mg base 8 "check_history" s_check_history ["history"] sp_check_history := ok_check_history T C_is_history
  have C_has : Cal P w K mg base 1 "has" s_has ["note", "key"] sp_has := ok_has T 
  have C_tells : Cal P w K mg base 2 "tells" s_tells ["entries", "note"] sp_tells := ok_tells T C_has
  have C_is_given : Cal P w K mg base 6 "is_given" s_is_given ["entries", "value"] sp_is_given := ok_is_given T C_check_entries C_is_note C_tells
  have C_laid_over : Cal P w K mg base 1 "laid_over" s_laid_over ["entries", "changes"] sp_laid_over := ok_laid_over T 
  have C_pasts_of : Cal P w K mg base 2 "pasts_of" s_pasts_of ["entries", "history"] sp_pasts_of := ok_pasts_of T C_laid_over
  have C_past_of : Cal P w K mg base 9 "past_of" s_past_of ["entries", "history", "number"] sp_past_of := ok_past_of T C_check_entries C_check_history C_is_between C_pasts_of
  have C_changed : Cal P w K mg base 1 "changed" s_changed ["history", "number"] sp_changed := ok_changed T 
  have C_share : Cal P w K mg base 2 "share" s_share ["history", "one", "other"] sp_share := ok_share T C_changed
  have C_is_snapshot_history : Cal P w K mg base 9 "is_snapshot_history" s_is_snapshot_history ["entries", "history"] sp_is_snapshot_history := ok_is_snapshot_history T C_check_entries C_check_history C_pasts_of C_tells C_share
  have C_law_well : Cal P w K mg base 1 "_law_well" s_law_well ["cell"] sp_law_well := ok_law_well T 
  have C_law_dip : Cal P w K mg base 1 "_law_dip" s_law_dip ["well", "many"] sp_law_dip := ok_law_dip T 
  have C_law_same : Cal P w K mg base 6 "_law_same" s_law_same ["found", "due"] sp_law_same := ok_law_same T 
  have C_law_word : Cal P w K mg base 2 "_law_word" s_law_word ["well", "most"] sp_law_word := ok_law_word T C_law_dip
  have C_law_pool : Cal P w K mg base 3 "_law_pool" s_law_pool ["well", "many"] sp_law_pool := ok_law_pool T C_law_word C_law_dip
  have C_law_has : Cal P w K mg base 1 "_law_has" s_law_has ["note", "key"] sp_law_has := ok_law_has T 
  have C_law_given : Cal P w K mg base 2 "_law_given" s_law_given ["rows", "note"] sp_law_given := ok_law_given T C_law_has
  have C_law_note : Cal P w K mg base 3 "_law_note" s_law_note ["well", "pool", "rows"] sp_law_note := ok_law_note T C_law_word C_law_dip C_law_given
  have C_law_laid : Cal P w K mg base 1 "_law_laid" s_law_laid ["rows", "changes"] sp_law_laid := ok_law_laid T 
  have C_law_changes : Cal P w K mg base 3 "_law_changes" s_law_changes ["well", "keys", "most"] sp_law_changes := ok_law_changes T C_law_dip C_law_word
  have C_law_barred : Cal P w K mg base 1 "_law_barred" s_law_barred ["commits"] sp_law_barred := ok_law_barred T 
  have C_law_history : Cal P w K mg base 4 "_law_history" s_law_history ["well", "pool", "rows", "many", "most"] sp_law_history := ok_law_history T C_law_dip C_law_barred C_law_note C_law_changes C_law_laid
  have C_law_rows : Cal P w K mg base 3 "_law_rows" s_law_rows ["well", "pool"] sp_law_rows := ok_law_rows T C_law_dip C_law_word
  have C_law_entries : Cal P w K mg base 1 "_law_entries" s_law_entries ["rows"] sp_law_entries := ok_law_entries T 
  have C_law_told : Cal P w K mg base 10 "_law_told" s_law_told ["entries", "history", "number"] sp_law_told := ok_law_told T C_past_of
  have C_law_judged : Cal P w K mg base 7 "_law_judged" s_law_judged ["entries", "value"] sp_law_judged := ok_law_judged T C_is_given
  have C_law_odd_entries : Cal P w K mg base 2 "_law_odd_entries" s_law_odd_entries ["well", "entries"] sp_law_odd_entries := ok_law_odd_entries T C_law_dip
  have C_law_odd_history : Cal P w K mg base 2 "_law_odd_history" s_law_odd_history ["well", "history"] sp_law_odd_history := ok_law_odd_history T C_law_dip
  have C_law_other_note : Cal P w K mg base 3 "_law_other_note" s_law_other_note ["well", "note", "pool"] sp_law_other_note := ok_law_other_note T C_law_word C_law_dip
  have C_law_notes_right : Cal P w K mg base 8 "_law_notes_right" s_law_notes_right ["well", "rows", "pool"] sp_law_notes_right := ok_law_notes_right T C_law_entries C_law_note C_law_same C_is_given C_law_judged C_law_other_note C_law_given C_law_odd_entries
  have C_law_pasts_right : Cal P w K mg base 11 "_law_pasts_right" s_law_pasts_right ["well", "rows", "history"] sp_law_pasts_right := ok_law_pasts_right T C_law_entries C_law_same C_past_of C_law_told C_law_laid C_law_odd_history C_law_odd_entries C_law_dip
  have C_law_is_snapshots : Cal P w K mg base 3 "_law_is_snapshots" s_law_is_snapshots ["rows", "history"] sp_law_is_snapshots := ok_law_is_snapshots T C_law_given C_law_barred C_law_laid
  have C_law_exchanged : Cal P w K mg base 4 "_law_exchanged" s_law_exchanged ["well", "pool", "history"] sp_law_exchanged := ok_law_exchanged T C_law_dip C_law_word C_law_changes
  have C_law_snapshots_told : Cal P w K mg base 10 "_law_snapshots_told" s_law_snapshots_told ["entries", "history"] sp_law_snapshots_told := ok_law_snapshots_told T C_is_snapshot_history
  have C_law_snapshots_right : Cal P w K mg base 11 "_law_snapshots_right" s_law_snapshots_right ["well", "rows", "history", "pool"] sp_law_snapshots_right := ok_law_snapshots_right T C_law_entries C_law_exchanged C_law_dip C_law_is_snapshots C_is_snapshot_history C_law_snapshots_told C_law_same C_law_odd_history C_law_odd_entries
  have C_law : Cal P w K mg base 12 "law" s_law ["script"] sp_law := ok_law T C_law_well C_law_pool C_law_dip C_law_rows C_law_history C_law_pasts_right C_law_notes_right C_law_snapshots_right
  exact C_law
theorem all_mk {P : Program} {w : World} {K : PySem.W.Frag} {h : Heap} {mg : Str → Option Value} {fa : Addr} (hm : mg "law" = some (.ref fa)) (X : K.In h)
  (GN : h.Ns mainGlobals mg)
  {f0 : Addr} {oc0 kV0 dc0 pm0 cd0 ct0 : Value} {od0 an0 : Option Addr} {sl0 : Array (Option Value)}
  (a0 : PySem.W.nsIn K mainGlobals "is_integer" = some (some (.ref f0)))
  (l0 : K.lookup f0 = some ⟨oc0, od0, .func (PySem.W.fnOf "is_integer" "is_integer" (defArgs s_is_integer) (defBody s_is_integer) (defScope s_is_integer) .none kV0 dc0 pm0 an0 cd0 ct0), sl0⟩)
  (c0 : PySem.W.codeIn K cd0 "is_integer" = true) (k0 : PySem.W.keepIn K (.ref f0) = true)
  {f1 : Addr} {oc1 kV1 dc1 pm1 cd1 ct1 : Value} {od1 an1 : Option Addr} {sl1 : Array (Option Value)}
  (a1 : PySem.W.nsIn K mainGlobals "is_between" = some (some (.ref f1)))
  (l1 : K.lookup f1 = some ⟨oc1, od1, .func (PySem.W.fnOf "is_between" "is_between" (defArgs s_is_between) (defBody s_is_between) (defScope s_is_between) .none kV1 dc1 pm1 an1 cd1 ct1), sl1⟩)
  (c1 : PySem.W.codeIn K cd1 "is_between" = true) (k1 : PySem.W.keepIn K (.ref f1) = true)
  {f2 : Addr} {oc2 kV2 dc2 pm2 cd2 ct2 : Value} {od2 an2 : Option Addr} {sl2 : Array (Option Value)}
  (a2 : PySem.W.nsIn K mainGlobals "is_tuple_of" = some (some (.ref f2)))
  (l2 : K.lookup f2 = some ⟨oc2, od2, .func (PySem.W.fnOf "is_tuple_of" "is_tuple_of" (defArgs s_is_tuple_of) (defBody s_is_tuple_of) (defScope s_is_tuple_of) .none kV2 dc2 pm2 an2 cd2 ct2), sl2⟩)
  (c2 : PySem.W.codeIn K cd2 "is_tuple_of" = true) (k2 : PySem.W.keepIn K (.ref f2) = true)
  {f3 : Addr} {oc3 kV3 dc3 pm3 cd3 ct3 : Value} {od3 an3 : Option Addr} {sl3 : Array (Option Value)}
  (a3 : PySem.W.nsIn K mainGlobals "is_text" = some (some (.ref f3)))
  (l3 : K.lookup f3 = some ⟨oc3, od3, .func (PySem.W.fnOf "is_text" "is_text" (defArgs s_is_text) (defBody s_is_text) (defScope s_is_text) .none kV3 dc3 pm3 an3 cd3 ct3), sl3⟩)
  (c3 : PySem.W.codeIn K cd3 "is_text" = true) (k3 : PySem.W.keepIn K (.ref f3) = true)
  {f4 : Addr} {oc4 kV4 dc4 pm4 cd4 ct4 : Value} {od4 an4 : Option Addr} {sl4 : Array (Option Value)}
  (a4 : PySem.W.nsIn K mainGlobals "is_change" = some (some (.ref f4)))
  (l4 : K.lookup f4 = some ⟨oc4, od4, .func (PySem.W.fnOf "is_change" "is_change" (defArgs s_is_change) (defBody s_is_change) (defScope s_is_change) .none kV4 dc4 pm4 an4 cd4 ct4), sl4⟩)
  (c4 : PySem.W.codeIn K cd4 "is_change" = true) (k4 : PySem.W.keepIn K (.ref f4) = true)
  {f5 : Addr} {oc5 kV5 dc5 pm5 cd5 ct5 : Value} {od5 an5 : Option Addr} {sl5 : Array (Option Value)}
  (a5 : PySem.W.nsIn K mainGlobals "is_changes" = some (some (.ref f5)))
  (l5 : K.lookup f5 = some ⟨oc5, od5, .func (PySem.W.fnOf "is_changes" "is_changes" (defArgs s_is_changes) (defBody s_is_changes) (defScope s_is_changes) .none kV5 dc5 pm5 an5 cd5 ct5), sl5⟩)
  (c5 : PySem.W.codeIn K cd5 "is_changes" = true) (k5 : PySem.W.keepIn K (.ref f5) = true)
  {f6 : Addr} {oc6 kV6 dc6 pm6 cd6 ct6 : Value} {od6 an6 : Option Addr} {sl6 : Array (Option Value)}
  (a6 : PySem.W.nsIn K mainGlobals "is_entries" = some (some (.ref f6)))
  (l6 : K.lookup f6 = some ⟨oc6, od6, .func (PySem.W.fnOf "is_entries" "is_entries" (defArgs s_is_entries) (defBody s_is_entries) (defScope s_is_entries) .none kV6 dc6 pm6 an6 cd6 ct6), sl6⟩)
  (c6 : PySem.W.codeIn K cd6 "is_entries" = true) (k6 : PySem.W.keepIn K (.ref f6) = true)
  {f7 : Addr} {oc7 kV7 dc7 pm7 cd7 ct7 : Value} {od7 an7 : Option Addr} {sl7 : Array (Option Value)}
  (a7 : PySem.W.nsIn K mainGlobals "is_text_or_none" = some (some (.ref f7)))
  (l7 : K.lookup f7 = some ⟨oc7, od7, .func (PySem.W.fnOf "is_text_or_none" "is_text_or_none" (defArgs s_is_text_or_none) (defBody s_is_text_or_none) (defScope s_is_text_or_none) .none kV7 dc7 pm7 an7 cd7 ct7), sl7⟩)
  (c7 : PySem.W.codeIn K cd7 "is_text_or_none" = true) (k7 : PySem.W.keepIn K (.ref f7) = true)
  {f8 : Addr} {oc8 kV8 dc8 pm8 cd8 ct8 : Value} {od8 an8 : Option Addr} {sl8 : Array (Option Value)}
  (a8 : PySem.W.nsIn K mainGlobals "is_note" = some (some (.ref f8)))
  (l8 : K.lookup f8 = some ⟨oc8, od8, .func (PySem.W.fnOf "is_note" "is_note" (defArgs s_is_note) (defBody s_is_note) (defScope s_is_note) .none kV8 dc8 pm8 an8 cd8 ct8), sl8⟩)
  (c8 : PySem.W.codeIn K cd8 "is_note" = true) (k8 : PySem.W.keepIn K (.ref f8) = true)
  {f9 : Addr} {oc9 kV9 dc9 pm9 cd9 ct9 : Value} {od9 an9 : Option Addr} {sl9 : Array (Option Value)}
  (a9 : PySem.W.nsIn K mainGlobals "is_commit" = some (some (.ref f9)))
  (l9 : K.lookup f9 = some ⟨oc9, od9, .func (PySem.W.fnOf "is_commit" "is_commit" (defArgs s_is_commit) (defBody s_is_commit) (defScope s_is_commit) .none kV9 dc9 pm9 an9 cd9 ct9), sl9⟩)
  (c9 : PySem.W.codeIn K cd9 "is_commit" = true) (k9 : PySem.W.keepIn K (.ref f9) = true)
  {f10 : Addr} {oc10 kV10 dc10 pm10 cd10 ct10 : Value} {od10 an10 : Option Addr} {sl10 : Array (Option Value)}
  (a10 : PySem.W.nsIn K mainGlobals "is_history" = some (some (.ref f10)))
  (l10 : K.lookup f10 = some ⟨oc10, od10, .func (PySem.W.fnOf "is_history" "is_history" (defArgs s_is_history) (defBody s_is_history) (defScope s_is_history) .none kV10 dc10 pm10 an10 cd10 ct10), sl10⟩)
  (c10 : PySem.W.codeIn K cd10 "is_history" = true) (k10 : PySem.W.keepIn K (.ref f10) = true)
  {f11 : Addr} {oc11 kV11 dc11 pm11 cd11 ct11 : Value} {od11 an11 : Option Addr} {sl11 : Array (Option Value)}
  (a11 : PySem.W.nsIn K mainGlobals "check_entries" = some (some (.ref f11)))
  (l11 : K.lookup f11 = some ⟨oc11, od11, .func (PySem.W.fnOf "check_entries" "check_entries" (defArgs s_check_entries) (defBody s_check_entries) (defScope s_check_entries) .none kV11 dc11 pm11 an11 cd11 ct11), sl11⟩)
  (c11 : PySem.W.codeIn K cd11 "check_entries" = true) (k11 : PySem.W.keepIn K (.ref f11) = true)
  {f12 : Addr} {oc12 kV12 dc12 pm12 cd12 ct12 : Value} {od12 an12 : Option Addr} {sl12 : Array (Option Value)}
  (a12 : PySem.W.nsIn K mainGlobals "check_history" = some (some (.ref f12)))
  (l12 : K.lookup f12 = some ⟨oc12, od12, .func (PySem.W.fnOf "check_history" "check_history" (defArgs s_check_history) (defBody s_check_history) (defScope s_check_history) .none kV12 dc12 pm12 an12 cd12 ct12), sl12⟩)
  (c12 : PySem.W.codeIn K cd12 "check_history" = true) (k12 : PySem.W.keepIn K (.ref f12) = true)
  {f13 : Addr} {oc13 kV13 dc13 pm13 cd13 ct13 : Value} {od13 an13 : Option Addr} {sl13 : Array (Option Value)}
  (a13 : PySem.W.nsIn K mainGlobals "has" = some (some (.ref f13)))
  (l13 : K.lookup f13 = some ⟨oc13, od13, .func (PySem.W.fnOf "has" "has" (defArgs s_has) (defBody s_has) (defScope s_has) .none kV13 dc13 pm13 an13 cd13 ct13), sl13⟩)
  (c13 : PySem.W.codeIn K cd13 "has" = true) (k13 : PySem.W.keepIn K (.ref f13) = true)
  {f14 : Addr} {oc14 kV14 dc14 pm14 cd14 ct14 : Value} {od14 an14 : Option Addr} {sl14 : Array (Option Value)}
  (a14 : PySem.W.nsIn K mainGlobals "tells" = some (some (.ref f14)))
  (l14 : K.lookup f14 = some ⟨oc14, od14, .func (PySem.W.fnOf "tells" "tells" (defArgs s_tells) (defBody s_tells) (defScope s_tells) .none kV14 dc14 pm14 an14 cd14 ct14), sl14⟩)
  (c14 : PySem.W.codeIn K cd14 "tells" = true) (k14 : PySem.W.keepIn K (.ref f14) = true)
  {f15 : Addr} {oc15 kV15 dc15 pm15 cd15 ct15 : Value} {od15 an15 : Option Addr} {sl15 : Array (Option Value)}
  (a15 : PySem.W.nsIn K mainGlobals "is_given" = some (some (.ref f15)))
  (l15 : K.lookup f15 = some ⟨oc15, od15, .func (PySem.W.fnOf "is_given" "is_given" (defArgs s_is_given) (defBody s_is_given) (defScope s_is_given) .none kV15 dc15 pm15 an15 cd15 ct15), sl15⟩)
  (c15 : PySem.W.codeIn K cd15 "is_given" = true) (k15 : PySem.W.keepIn K (.ref f15) = true)
  {f16 : Addr} {oc16 kV16 dc16 pm16 cd16 ct16 : Value} {od16 an16 : Option Addr} {sl16 : Array (Option Value)}
  (a16 : PySem.W.nsIn K mainGlobals "laid_over" = some (some (.ref f16)))
  (l16 : K.lookup f16 = some ⟨oc16, od16, .func (PySem.W.fnOf "laid_over" "laid_over" (defArgs s_laid_over) (defBody s_laid_over) (defScope s_laid_over) .none kV16 dc16 pm16 an16 cd16 ct16), sl16⟩)
  (c16 : PySem.W.codeIn K cd16 "laid_over" = true) (k16 : PySem.W.keepIn K (.ref f16) = true)
  {f17 : Addr} {oc17 kV17 dc17 pm17 cd17 ct17 : Value} {od17 an17 : Option Addr} {sl17 : Array (Option Value)}
  (a17 : PySem.W.nsIn K mainGlobals "pasts_of" = some (some (.ref f17)))
  (l17 : K.lookup f17 = some ⟨oc17, od17, .func (PySem.W.fnOf "pasts_of" "pasts_of" (defArgs s_pasts_of) (defBody s_pasts_of) (defScope s_pasts_of) .none kV17 dc17 pm17 an17 cd17 ct17), sl17⟩)
  (c17 : PySem.W.codeIn K cd17 "pasts_of" = true) (k17 : PySem.W.keepIn K (.ref f17) = true)
  {f18 : Addr} {oc18 kV18 dc18 pm18 cd18 ct18 : Value} {od18 an18 : Option Addr} {sl18 : Array (Option Value)}
  (a18 : PySem.W.nsIn K mainGlobals "past_of" = some (some (.ref f18)))
  (l18 : K.lookup f18 = some ⟨oc18, od18, .func (PySem.W.fnOf "past_of" "past_of" (defArgs s_past_of) (defBody s_past_of) (defScope s_past_of) .none kV18 dc18 pm18 an18 cd18 ct18), sl18⟩)
  (c18 : PySem.W.codeIn K cd18 "past_of" = true) (k18 : PySem.W.keepIn K (.ref f18) = true)
  {f19 : Addr} {oc19 kV19 dc19 pm19 cd19 ct19 : Value} {od19 an19 : Option Addr} {sl19 : Array (Option Value)}
  (a19 : PySem.W.nsIn K mainGlobals "changed" = some (some (.ref f19)))
  (l19 : K.lookup f19 = some ⟨oc19, od19, .func (PySem.W.fnOf "changed" "changed" (defArgs s_changed) (defBody s_changed) (defScope s_changed) .none kV19 dc19 pm19 an19 cd19 ct19), sl19⟩)
  (c19 : PySem.W.codeIn K cd19 "changed" = true) (k19 : PySem.W.keepIn K (.ref f19) = true)
  {f20 : Addr} {oc20 kV20 dc20 pm20 cd20 ct20 : Value} {od20 an20 : Option Addr} {sl20 : Array (Option Value)}
  (a20 : PySem.W.nsIn K mainGlobals "share" = some (some (.ref f20)))
  (l20 : K.lookup f20 = some ⟨oc20, od20, .func (PySem.W.fnOf "share" "share" (defArgs s_share) (defBody s_share) (defScope s_share) .none kV20 dc20 pm20 an20 cd20 ct20), sl20⟩)
  (c20 : PySem.W.codeIn K cd20 "share" = true) (k20 : PySem.W.keepIn K (.ref f20) = true)
  {f21 : Addr} {oc21 kV21 dc21 pm21 cd21 ct21 : Value} {od21 an21 : Option Addr} {sl21 : Array (Option Value)}
  (a21 : PySem.W.nsIn K mainGlobals "is_snapshot_history" = some (some (.ref f21)))
  (l21 : K.lookup f21 = some ⟨oc21, od21, .func (PySem.W.fnOf "is_snapshot_history" "is_snapshot_history" (defArgs s_is_snapshot_history) (defBody s_is_snapshot_history) (defScope s_is_snapshot_history) .none kV21 dc21 pm21 an21 cd21 ct21), sl21⟩)
  (c21 : PySem.W.codeIn K cd21 "is_snapshot_history" = true) (k21 : PySem.W.keepIn K (.ref f21) = true)
  {f22 : Addr} {oc22 kV22 dc22 pm22 cd22 ct22 : Value} {od22 an22 : Option Addr} {sl22 : Array (Option Value)}
  (a22 : PySem.W.nsIn K mainGlobals "_law_well" = some (some (.ref f22)))
  (l22 : K.lookup f22 = some ⟨oc22, od22, .func (PySem.W.fnOf "_law_well" "_law_well" (defArgs s_law_well) (defBody s_law_well) (defScope s_law_well) .none kV22 dc22 pm22 an22 cd22 ct22), sl22⟩)
  (c22 : PySem.W.codeIn K cd22 "_law_well" = true) (k22 : PySem.W.keepIn K (.ref f22) = true)
  {f23 : Addr} {oc23 kV23 dc23 pm23 cd23 ct23 : Value} {od23 an23 : Option Addr} {sl23 : Array (Option Value)}
  (a23 : PySem.W.nsIn K mainGlobals "_law_dip" = some (some (.ref f23)))
  (l23 : K.lookup f23 = some ⟨oc23, od23, .func (PySem.W.fnOf "_law_dip" "_law_dip" (defArgs s_law_dip) (defBody s_law_dip) (defScope s_law_dip) .none kV23 dc23 pm23 an23 cd23 ct23), sl23⟩)
  (c23 : PySem.W.codeIn K cd23 "_law_dip" = true) (k23 : PySem.W.keepIn K (.ref f23) = true)
  {f24 : Addr} {oc24 kV24 dc24 pm24 cd24 ct24 : Value} {od24 an24 : Option Addr} {sl24 : Array (Option Value)}
  (a24 : PySem.W.nsIn K mainGlobals "_law_same" = some (some (.ref f24)))
  (l24 : K.lookup f24 = some ⟨oc24, od24, .func (PySem.W.fnOf "_law_same" "_law_same" (defArgs s_law_same) (defBody s_law_same) (defScope s_law_same) .none kV24 dc24 pm24 an24 cd24 ct24), sl24⟩)
  (c24 : PySem.W.codeIn K cd24 "_law_same" = true) (k24 : PySem.W.keepIn K (.ref f24) = true)
  {f25 : Addr} {oc25 kV25 dc25 pm25 cd25 ct25 : Value} {od25 an25 : Option Addr} {sl25 : Array (Option Value)}
  (a25 : PySem.W.nsIn K mainGlobals "_law_word" = some (some (.ref f25)))
  (l25 : K.lookup f25 = some ⟨oc25, od25, .func (PySem.W.fnOf "_law_word" "_law_word" (defArgs s_law_word) (defBody s_law_word) (defScope s_law_word) .none kV25 dc25 pm25 an25 cd25 ct25), sl25⟩)
  (c25 : PySem.W.codeIn K cd25 "_law_word" = true) (k25 : PySem.W.keepIn K (.ref f25) = true)
  {f26 : Addr} {oc26 kV26 dc26 pm26 cd26 ct26 : Value} {od26 an26 : Option Addr} {sl26 : Array (Option Value)}
  (a26 : PySem.W.nsIn K mainGlobals "_law_pool" = some (some (.ref f26)))
  (l26 : K.lookup f26 = some ⟨oc26, od26, .func (PySem.W.fnOf "_law_pool" "_law_pool" (defArgs s_law_pool) (defBody s_law_pool) (defScope s_law_pool) .none kV26 dc26 pm26 an26 cd26 ct26), sl26⟩)
  (c26 : PySem.W.codeIn K cd26 "_law_pool" = true) (k26 : PySem.W.keepIn K (.ref f26) = true)
  {f27 : Addr} {oc27 kV27 dc27 pm27 cd27 ct27 : Value} {od27 an27 : Option Addr} {sl27 : Array (Option Value)}
  (a27 : PySem.W.nsIn K mainGlobals "_law_has" = some (some (.ref f27)))
  (l27 : K.lookup f27 = some ⟨oc27, od27, .func (PySem.W.fnOf "_law_has" "_law_has" (defArgs s_law_has) (defBody s_law_has) (defScope s_law_has) .none kV27 dc27 pm27 an27 cd27 ct27), sl27⟩)
  (c27 : PySem.W.codeIn K cd27 "_law_has" = true) (k27 : PySem.W.keepIn K (.ref f27) = true)
  {f28 : Addr} {oc28 kV28 dc28 pm28 cd28 ct28 : Value} {od28 an28 : Option Addr} {sl28 : Array (Option Value)}
  (a28 : PySem.W.nsIn K mainGlobals "_law_given" = some (some (.ref f28)))
  (l28 : K.lookup f28 = some ⟨oc28, od28, .func (PySem.W.fnOf "_law_given" "_law_given" (defArgs s_law_given) (defBody s_law_given) (defScope s_law_given) .none kV28 dc28 pm28 an28 cd28 ct28), sl28⟩)
  (c28 : PySem.W.codeIn K cd28 "_law_given" = true) (k28 : PySem.W.keepIn K (.ref f28) = true)
  {f29 : Addr} {oc29 kV29 dc29 pm29 cd29 ct29 : Value} {od29 an29 : Option Addr} {sl29 : Array (Option Value)}
  (a29 : PySem.W.nsIn K mainGlobals "_law_note" = some (some (.ref f29)))
  (l29 : K.lookup f29 = some ⟨oc29, od29, .func (PySem.W.fnOf "_law_note" "_law_note" (defArgs s_law_note) (defBody s_law_note) (defScope s_law_note) .none kV29 dc29 pm29 an29 cd29 ct29), sl29⟩)
  (c29 : PySem.W.codeIn K cd29 "_law_note" = true) (k29 : PySem.W.keepIn K (.ref f29) = true)
  {f30 : Addr} {oc30 kV30 dc30 pm30 cd30 ct30 : Value} {od30 an30 : Option Addr} {sl30 : Array (Option Value)}
  (a30 : PySem.W.nsIn K mainGlobals "_law_laid" = some (some (.ref f30)))
  (l30 : K.lookup f30 = some ⟨oc30, od30, .func (PySem.W.fnOf "_law_laid" "_law_laid" (defArgs s_law_laid) (defBody s_law_laid) (defScope s_law_laid) .none kV30 dc30 pm30 an30 cd30 ct30), sl30⟩)
  (c30 : PySem.W.codeIn K cd30 "_law_laid" = true) (k30 : PySem.W.keepIn K (.ref f30) = true)
  {f31 : Addr} {oc31 kV31 dc31 pm31 cd31 ct31 : Value} {od31 an31 : Option Addr} {sl31 : Array (Option Value)}
  (a31 : PySem.W.nsIn K mainGlobals "_law_changes" = some (some (.ref f31)))
  (l31 : K.lookup f31 = some ⟨oc31, od31, .func (PySem.W.fnOf "_law_changes" "_law_changes" (defArgs s_law_changes) (defBody s_law_changes) (defScope s_law_changes) .none kV31 dc31 pm31 an31 cd31 ct31), sl31⟩)
  (c31 : PySem.W.codeIn K cd31 "_law_changes" = true) (k31 : PySem.W.keepIn K (.ref f31) = true)
  {f32 : Addr} {oc32 kV32 dc32 pm32 cd32 ct32 : Value} {od32 an32 : Option Addr} {sl32 : Array (Option Value)}
  (a32 : PySem.W.nsIn K mainGlobals "_law_barred" = some (some (.ref f32)))
  (l32 : K.lookup f32 = some ⟨oc32, od32, .func (PySem.W.fnOf "_law_barred" "_law_barred" (defArgs s_law_barred) (defBody s_law_barred) (defScope s_law_barred) .none kV32 dc32 pm32 an32 cd32 ct32), sl32⟩)
  (c32 : PySem.W.codeIn K cd32 "_law_barred" = true) (k32 : PySem.W.keepIn K (.ref f32) = true)
  {f33 : Addr} {oc33 kV33 dc33 pm33 cd33 ct33 : Value} {od33 an33 : Option Addr} {sl33 : Array (Option Value)}
  (a33 : PySem.W.nsIn K mainGlobals "_law_history" = some (some (.ref f33)))
  (l33 : K.lookup f33 = some ⟨oc33, od33, .func (PySem.W.fnOf "_law_history" "_law_history" (defArgs s_law_history) (defBody s_law_history) (defScope s_law_history) .none kV33 dc33 pm33 an33 cd33 ct33), sl33⟩)
  (c33 : PySem.W.codeIn K cd33 "_law_history" = true) (k33 : PySem.W.keepIn K (.ref f33) = true)
  {f34 : Addr} {oc34 kV34 dc34 pm34 cd34 ct34 : Value} {od34 an34 : Option Addr} {sl34 : Array (Option Value)}
  (a34 : PySem.W.nsIn K mainGlobals "_law_rows" = some (some (.ref f34)))
  (l34 : K.lookup f34 = some ⟨oc34, od34, .func (PySem.W.fnOf "_law_rows" "_law_rows" (defArgs s_law_rows) (defBody s_law_rows) (defScope s_law_rows) .none kV34 dc34 pm34 an34 cd34 ct34), sl34⟩)
  (c34 : PySem.W.codeIn K cd34 "_law_rows" = true) (k34 : PySem.W.keepIn K (.ref f34) = true)
  {f35 : Addr} {oc35 kV35 dc35 pm35 cd35 ct35 : Value} {od35 an35 : Option Addr} {sl35 : Array (Option Value)}
  (a35 : PySem.W.nsIn K mainGlobals "_law_entries" = some (some (.ref f35)))
  (l35 : K.lookup f35 = some ⟨oc35, od35, .func (PySem.W.fnOf "_law_entries" "_law_entries" (defArgs s_law_entries) (defBody s_law_entries) (defScope s_law_entries) .none kV35 dc35 pm35 an35 cd35 ct35), sl35⟩)
  (c35 : PySem.W.codeIn K cd35 "_law_entries" = true) (k35 : PySem.W.keepIn K (.ref f35) = true)
  {f36 : Addr} {oc36 kV36 dc36 pm36 cd36 ct36 : Value} {od36 an36 : Option Addr} {sl36 : Array (Option Value)}
  (a36 : PySem.W.nsIn K mainGlobals "_law_told" = some (some (.ref f36)))
  (l36 : K.lookup f36 = some ⟨oc36, od36, .func (PySem.W.fnOf "_law_told" "_law_told" (defArgs s_law_told) (defBody s_law_told) (defScope s_law_told) .none kV36 dc36 pm36 an36 cd36 ct36), sl36⟩)
  (c36 : PySem.W.codeIn K cd36 "_law_told" = true) (k36 : PySem.W.keepIn K (.ref f36) = true)
  {f37 : Addr} {oc37 kV37 dc37 pm37 cd37 ct37 : Value} {od37 an37 : Option Addr} {sl37 : Array (Option Value)}
  (a37 : PySem.W.nsIn K mainGlobals "_law_judged" = some (some (.ref f37)))
  (l37 : K.lookup f37 = some ⟨oc37, od37, .func (PySem.W.fnOf "_law_judged" "_law_judged" (defArgs s_law_judged) (defBody s_law_judged) (defScope s_law_judged) .none kV37 dc37 pm37 an37 cd37 ct37), sl37⟩)
  (c37 : PySem.W.codeIn K cd37 "_law_judged" = true) (k37 : PySem.W.keepIn K (.ref f37) = true)
  {f38 : Addr} {oc38 kV38 dc38 pm38 cd38 ct38 : Value} {od38 an38 : Option Addr} {sl38 : Array (Option Value)}
  (a38 : PySem.W.nsIn K mainGlobals "_law_odd_entries" = some (some (.ref f38)))
  (l38 : K.lookup f38 = some ⟨oc38, od38, .func (PySem.W.fnOf "_law_odd_entries" "_law_odd_entries" (defArgs s_law_odd_entries) (defBody s_law_odd_entries) (defScope s_law_odd_entries) .none kV38 dc38 pm38 an38 cd38 ct38), sl38⟩)
  (c38 : PySem.W.codeIn K cd38 "_law_odd_entries" = true) (k38 : PySem.W.keepIn K (.ref f38) = true)
  {f39 : Addr} {oc39 kV39 dc39 pm39 cd39 ct39 : Value} {od39 an39 : Option Addr} {sl39 : Array (Option Value)}
  (a39 : PySem.W.nsIn K mainGlobals "_law_odd_history" = some (some (.ref f39)))
  (l39 : K.lookup f39 = some ⟨oc39, od39, .func (PySem.W.fnOf "_law_odd_history" "_law_odd_history" (defArgs s_law_odd_history) (defBody s_law_odd_history) (defScope s_law_odd_history) .none kV39 dc39 pm39 an39 cd39 ct39), sl39⟩)
  (c39 : PySem.W.codeIn K cd39 "_law_odd_history" = true) (k39 : PySem.W.keepIn K (.ref f39) = true)
  {f40 : Addr} {oc40 kV40 dc40 pm40 cd40 ct40 : Value} {od40 an40 : Option Addr} {sl40 : Array (Option Value)}
  (a40 : PySem.W.nsIn K mainGlobals "_law_other_note" = some (some (.ref f40)))
  (l40 : K.lookup f40 = some ⟨oc40, od40, .func (PySem.W.fnOf "_law_other_note" "_law_other_note" (defArgs s_law_other_note) (defBody s_law_other_note) (defScope s_law_other_note) .none kV40 dc40 pm40 an40 cd40 ct40), sl40⟩)
  (c40 : PySem.W.codeIn K cd40 "_law_other_note" = true) (k40 : PySem.W.keepIn K (.ref f40) = true)
  {f41 : Addr} {oc41 kV41 dc41 pm41 cd41 ct41 : Value} {od41 an41 : Option Addr} {sl41 : Array (Option Value)}
  (a41 : PySem.W.nsIn K mainGlobals "_law_notes_right" = some (some (.ref f41)))
  (l41 : K.lookup f41 = some ⟨oc41, od41, .func (PySem.W.fnOf "_law_notes_right" "_law_notes_right" (defArgs s_law_notes_right) (defBody s_law_notes_right) (defScope s_law_notes_right) .none kV41 dc41 pm41 an41 cd41 ct41), sl41⟩)
  (c41 : PySem.W.codeIn K cd41 "_law_notes_right" = true) (k41 : PySem.W.keepIn K (.ref f41) = true)
  {f42 : Addr} {oc42 kV42 dc42 pm42 cd42 ct42 : Value} {od42 an42 : Option Addr} {sl42 : Array (Option Value)}
  (a42 : PySem.W.nsIn K mainGlobals "_law_pasts_right" = some (some (.ref f42)))
  (l42 : K.lookup f42 = some ⟨oc42, od42, .func (PySem.W.fnOf "_law_pasts_right" "_law_pasts_right" (defArgs s_law_pasts_right) (defBody s_law_pasts_right) (defScope s_law_pasts_right) .none kV42 dc42 pm42 an42 cd42 ct42), sl42⟩)
  (c42 : PySem.W.codeIn K cd42 "_law_pasts_right" = true) (k42 : PySem.W.keepIn K (.ref f42) = true)
  {f43 : Addr} {oc43 kV43 dc43 pm43 cd43 ct43 : Value} {od43 an43 : Option Addr} {sl43 : Array (Option Value)}
  (a43 : PySem.W.nsIn K mainGlobals "_law_is_snapshots" = some (some (.ref f43)))
  (l43 : K.lookup f43 = some ⟨oc43, od43, .func (PySem.W.fnOf "_law_is_snapshots" "_law_is_snapshots" (defArgs s_law_is_snapshots) (defBody s_law_is_snapshots) (defScope s_law_is_snapshots) .none kV43 dc43 pm43 an43 cd43 ct43), sl43⟩)
  (c43 : PySem.W.codeIn K cd43 "_law_is_snapshots" = true) (k43 : PySem.W.keepIn K (.ref f43) = true)
  {f44 : Addr} {oc44 kV44 dc44 pm44 cd44 ct44 : Value} {od44 an44 : Option Addr} {sl44 : Array (Option Value)}
  (a44 : PySem.W.nsIn K mainGlobals "_law_exchanged" = some (some (.ref f44)))
  (l44 : K.lookup f44 = some ⟨oc44, od44, .func (PySem.W.fnOf "_law_exchanged" "_law_exchanged" (defArgs s_law_exchanged) (defBody s_law_exchanged) (defScope s_law_exchanged) .none kV44 dc44 pm44 an44 cd44 ct44), sl44⟩)
  (c44 : PySem.W.codeIn K cd44 "_law_exchanged" = true) (k44 : PySem.W.keepIn K (.ref f44) = true)
  {f45 : Addr} {oc45 kV45 dc45 pm45 cd45 ct45 : Value} {od45 an45 : Option Addr} {sl45 : Array (Option Value)}
  (a45 : PySem.W.nsIn K mainGlobals "_law_snapshots_told" = some (some (.ref f45)))
  (l45 : K.lookup f45 = some ⟨oc45, od45, .func (PySem.W.fnOf "_law_snapshots_told" "_law_snapshots_told" (defArgs s_law_snapshots_told) (defBody s_law_snapshots_told) (defScope s_law_snapshots_told) .none kV45 dc45 pm45 an45 cd45 ct45), sl45⟩)
  (c45 : PySem.W.codeIn K cd45 "_law_snapshots_told" = true) (k45 : PySem.W.keepIn K (.ref f45) = true)
  {f46 : Addr} {oc46 kV46 dc46 pm46 cd46 ct46 : Value} {od46 an46 : Option Addr} {sl46 : Array (Option Value)}
  (a46 : PySem.W.nsIn K mainGlobals "_law_snapshots_right" = some (some (.ref f46)))
  (l46 : K.lookup f46 = some ⟨oc46, od46, .func (PySem.W.fnOf "_law_snapshots_right" "_law_snapshots_right" (defArgs s_law_snapshots_right) (defBody s_law_snapshots_right) (defScope s_law_snapshots_right) .none kV46 dc46 pm46 an46 cd46 ct46), sl46⟩)
  (c46 : PySem.W.codeIn K cd46 "_law_snapshots_right" = true) (k46 : PySem.W.keepIn K (.ref f46) = true)
  {f47 : Addr} {oc47 kV47 dc47 pm47 cd47 ct47 : Value} {od47 an47 : Option Addr} {sl47 : Array (Option Value)}
  (a47 : PySem.W.nsIn K mainGlobals "law" = some (some (.ref f47)))
  (l47 : K.lookup f47 = some ⟨oc47, od47, .func (PySem.W.fnOf "law" "law" (defArgs s_law) (defBody s_law) (defScope s_law) .none kV47 dc47 pm47 an47 cd47 ct47), sl47⟩)
  (c47 : PySem.W.codeIn K cd47 "law" = true) (k47 : PySem.W.keepIn K (.ref f47) = true)
  (z_all : PySem.W.nsIn K mainGlobals "all" = some none)
  (z_any : PySem.W.nsIn K mainGlobals "any" = some none)
  (z_bool : PySem.W.nsIn K mainGlobals "bool" = some none)
  (z_dict : PySem.W.nsIn K mainGlobals "dict" = some none)
  (z_int : PySem.W.nsIn K mainGlobals "int" = some none)
  (z_isinstance : PySem.W.nsIn K mainGlobals "isinstance" = some none)
  (z_len : PySem.W.nsIn K mainGlobals "len" = some none)
  (z_list : PySem.W.nsIn K mainGlobals "list" = some none)
  (z_range : PySem.W.nsIn K mainGlobals "range" = some none)
  (z_repr : PySem.W.nsIn K mainGlobals "repr" = some none)
  (z_sorted : PySem.W.nsIn K mainGlobals "sorted" = some none)
  (z_str : PySem.W.nsIn K mainGlobals "str" = some none)
  (z_tuple : PySem.W.nsIn K mainGlobals "tuple" = some none)
  {t_GREATEST_SIGN : Tok}
  (v_GREATEST_SIGN : PySem.W.nsIn K mainGlobals "GREATEST_SIGN" = some (some (.str "~" t_GREATEST_SIGN)))
  {t_LEAST_SIGN : Tok}
  (v_LEAST_SIGN : PySem.W.nsIn K mainGlobals "LEAST_SIGN" = some (some (.str " " t_LEAST_SIGN)))
  (p_InvalidEntries : PySem.W.nsIn K mainGlobals "InvalidEntries" = some (some (.ref a_InvalidEntries))) (q_InvalidEntries : PySem.W.excIn K a_InvalidEntries [.type "ValueError", .type "Exception", .type "BaseException", .type "object"] "ValueError.__new__" = true) (r_InvalidEntries : PySem.W.keepIn K (.ref a_InvalidEntries) = true) (s_InvalidEntries : PySem.W.subIn K (.ref a_InvalidEntries) (.type "BaseException") = some true) (y_InvalidEntries : PySem.W.typeIn K (.ref a_InvalidEntries) = some (.type "type"))
  (p_InvalidHistory : PySem.W.nsIn K mainGlobals "InvalidHistory" = some (some (.ref a_InvalidHistory))) (q_InvalidHistory : PySem.W.excIn K a_InvalidHistory [.type "ValueError", .type "Exception", .type "BaseException", .type "object"] "ValueError.__new__" = true) (r_InvalidHistory : PySem.W.keepIn K (.ref a_InvalidHistory) = true) (s_InvalidHistory : PySem.W.subIn K (.ref a_InvalidHistory) (.type "BaseException") = some true) (y_InvalidHistory : PySem.W.typeIn K (.ref a_InvalidHistory) = some (.type "type"))
  (p_InvalidNumber : PySem.W.nsIn K mainGlobals "InvalidNumber" = some (some (.ref a_InvalidNumber))) (q_InvalidNumber : PySem.W.excIn K a_InvalidNumber [.type "ValueError", .type "Exception", .type "BaseException", .type "object"] "ValueError.__new__" = true) (r_InvalidNumber : PySem.W.keepIn K (.ref a_InvalidNumber) = true) (s_InvalidNumber : PySem.W.subIn K (.ref a_InvalidNumber) (.type "BaseException") = some true) (y_InvalidNumber : PySem.W.typeIn K (.ref a_InvalidNumber) = some (.type "type"))
  (p_StoreError : PySem.W.nsIn K mainGlobals "StoreError" = some (some (.ref a_StoreError))) (q_StoreError : PySem.W.excIn K a_StoreError [.type "ValueError", .type "Exception", .type "BaseException", .type "object"] "ValueError.__new__" = true) (r_StoreError : PySem.W.keepIn K (.ref a_StoreError) = true) (s_StoreError : PySem.W.subIn K (.ref a_StoreError) (.type "BaseException") = some true) (y_StoreError : PySem.W.typeIn K (.ref a_StoreError) = some (.type "type"))
  (m_InvalidEntries_InvalidEntries : PySem.W.subIn K (.ref a_InvalidEntries) (.ref a_InvalidEntries) = some true)
  (m_InvalidEntries_InvalidHistory : PySem.W.subIn K (.ref a_InvalidEntries) (.ref a_InvalidHistory) = some false)
  (m_InvalidEntries_InvalidNumber : PySem.W.subIn K (.ref a_InvalidEntries) (.ref a_InvalidNumber) = some false)
  (m_InvalidEntries_StoreError : PySem.W.subIn K (.ref a_InvalidEntries) (.ref a_StoreError) = some true)
  (m_InvalidHistory_InvalidEntries : PySem.W.subIn K (.ref a_InvalidHistory) (.ref a_InvalidEntries) = some false)
  (m_InvalidHistory_InvalidHistory : PySem.W.subIn K (.ref a_InvalidHistory) (.ref a_InvalidHistory) = some true)
  (m_InvalidHistory_InvalidNumber : PySem.W.subIn K (.ref a_InvalidHistory) (.ref a_InvalidNumber) = some false)
  (m_InvalidHistory_StoreError : PySem.W.subIn K (.ref a_InvalidHistory) (.ref a_StoreError) = some true)
  (m_InvalidNumber_InvalidEntries : PySem.W.subIn K (.ref a_InvalidNumber) (.ref a_InvalidEntries) = some false)
  (m_InvalidNumber_InvalidHistory : PySem.W.subIn K (.ref a_InvalidNumber) (.ref a_InvalidHistory) = some false)
  (m_InvalidNumber_InvalidNumber : PySem.W.subIn K (.ref a_InvalidNumber) (.ref a_InvalidNumber) = some true)
  (m_InvalidNumber_StoreError : PySem.W.subIn K (.ref a_InvalidNumber) (.ref a_StoreError) = some true)
  (w_InvalidEntries : PySem.W.hasDictIn K a_InvalidEntries = true)
  (w_InvalidHistory : PySem.W.hasDictIn K a_InvalidHistory = true)
  (w_InvalidNumber : PySem.W.hasDictIn K a_InvalidNumber = true)
  (w_StoreError : PySem.W.hasDictIn K a_StoreError = true) :
  ∃ fd : FuncData, (∀ (s : Shared) (u : Value), BindsTo s fd ⟨[u], []⟩ [("script", u)]) ∧ ∀ base : Heap, K.In base → base.Ns mainGlobals mg → FnG P w K mg base 12 fa fd ["script"] (toSp K 1 sp_law) := by
  have T : Txt K mg := txt_mk X GN a0 l0 c0 k0 a1 l1 c1 k1 a2 l2 c2 k2 a3 l3 c3 k3 a4 l4 c4 k4 a5 l5 c5 k5 a6 l6 c6 k6 a7 l7 c7 k7 a8 l8 c8 k8 a9 l9 c9 k9 a10 l10 c10 k10 a11 l11 c11 k11 a12 l12 c12 k12 a13 l13 c13 k13 a14 l14 c14 k14 a15 l15 c15 k15 a16 l16 c16 k16 a17 l17 c17 k17 a18 l18 c18 k18 a19 l19 c19 k19 a20 l20 c20 k20 a21 l21 c21 k21 a22 l22 c22 k22 a23 l23 c23 k23 a24 l24 c24 k24 a25 l25 c25 k25 a26 l26 c26 k26 a27 l27 c27 k27 a28 l28 c28 k28 a29 l29 c29 k29 a30 l30 c30 k30 a31 l31 c31 k31 a32 l32 c32 k32 a33 l33 c33 k33 a34 l34 c34 k34 a35 l35 c35 k35 a36 l36 c36 k36 a37 l37 c37 k37 a38 l38 c38 k38 a39 l39 c39 k39 a40 l40 c40 k40 a41 l41 c41 k41 a42 l42 c42 k42 a43 l43 c43 k43 a44 l44 c44 k44 a45 l45 c45 k45 a46 l46 c46 k46 a47 l47 c47 k47 z_all z_any z_bool z_dict z_int z_isinstance z_len z_list z_range z_repr z_sorted z_str z_tuple v_GREATEST_SIGN v_LEAST_SIGN p_InvalidEntries q_InvalidEntries r_InvalidEntries s_InvalidEntries y_InvalidEntries p_InvalidHistory q_InvalidHistory r_InvalidHistory s_InvalidHistory y_InvalidHistory p_InvalidNumber q_InvalidNumber r_InvalidNumber s_InvalidNumber y_InvalidNumber p_StoreError q_StoreError r_StoreError s_StoreError y_StoreError m_InvalidEntries_InvalidEntries m_InvalidEntries_InvalidHistory m_InvalidEntries_InvalidNumber m_InvalidEntries_StoreError m_InvalidHistory_InvalidEntries m_InvalidHistory_InvalidHistory m_InvalidHistory_InvalidNumber m_InvalidHistory_StoreError m_InvalidNumber_InvalidEntries m_InvalidNumber_InvalidHistory m_InvalidNumber_InvalidNumber m_InvalidNumber_StoreError w_InvalidEntries w_InvalidHistory w_InvalidNumber w_StoreError
  obtain ⟨fd, hb, hF⟩ := law_fn (P := P) (w := w) T.f_law (fun _ _ _ _ _ _ _ => rfl) (fun base => law_cal T) hm
  exact ⟨fd, hb, fun base _ _ => hF base⟩

end K46

open PySem PySem.W PyProof.Rows in
set_option maxRecDepth 100000 in
set_option maxHeartbeats 0 in
theorem PySem.Challenge.cw_heldlevels_k46_pasts_and_given_notes_holds : PySem.Challenge.rw_heldlevels_k46_pasts_and_given_notes.Holds := by
  w_on; o_law; k_head; (case hw => w_witness2)
  k_fill
  refine G.walkX (n := 63) (k := 12) (x := "script") (sp := fun w => G.toSp _ 1 G.spTrue) (by decide +kernel) (by decide) rfl ⟨⟨rfl, by decide, by decide⟩, rfl⟩ (fun w h Y => PySem.W.kIn_of Y) ?F (fun w H a ns h1 h2 _ hS => G.toSp_true h1 h2 hS)
  case F =>
    intro w mg fa h XP KX GN hmg
    refine' K46.all_mk hmg KX GN ?a0 ?l0 ?c0 ?k0 ?a1 ?l1 ?c1 ?k1 ?a2 ?l2 ?c2 ?k2 ?a3 ?l3 ?c3 ?k3 ?a4 ?l4 ?c4 ?k4 ?a5 ?l5 ?c5 ?k5 ?a6 ?l6 ?c6 ?k6 ?a7 ?l7 ?c7 ?k7 ?a8 ?l8 ?c8 ?k8 ?a9 ?l9 ?c9 ?k9 ?a10 ?l10 ?c10 ?k10 ?a11 ?l11 ?c11 ?k11 ?a12 ?l12 ?c12 ?k12 ?a13 ?l13 ?c13 ?k13 ?a14 ?l14 ?c14 ?k14 ?a15 ?l15 ?c15 ?k15 ?a16 ?l16 ?c16 ?k16 ?a17 ?l17 ?c17 ?k17 ?a18 ?l18 ?c18 ?k18 ?a19 ?l19 ?c19 ?k19 ?a20 ?l20 ?c20 ?k20 ?a21 ?l21 ?c21 ?k21 ?a22 ?l22 ?c22 ?k22 ?a23 ?l23 ?c23 ?k23 ?a24 ?l24 ?c24 ?k24 ?a25 ?l25 ?c25 ?k25 ?a26 ?l26 ?c26 ?k26 ?a27 ?l27 ?c27 ?k27 ?a28 ?l28 ?c28 ?k28 ?a29 ?l29 ?c29 ?k29 ?a30 ?l30 ?c30 ?k30 ?a31 ?l31 ?c31 ?k31 ?a32 ?l32 ?c32 ?k32 ?a33 ?l33 ?c33 ?k33 ?a34 ?l34 ?c34 ?k34 ?a35 ?l35 ?c35 ?k35 ?a36 ?l36 ?c36 ?k36 ?a37 ?l37 ?c37 ?k37 ?a38 ?l38 ?c38 ?k38 ?a39 ?l39 ?c39 ?k39 ?a40 ?l40 ?c40 ?k40 ?a41 ?l41 ?c41 ?k41 ?a42 ?l42 ?c42 ?k42 ?a43 ?l43 ?c43 ?k43 ?a44 ?l44 ?c44 ?k44 ?a45 ?l45 ?c45 ?k45 ?a46 ?l46 ?c46 ?k46 ?a47 ?l47 ?c47 ?k47 ?z_all ?z_any ?z_bool ?z_dict ?z_int ?z_isinstance ?z_len ?z_list ?z_range ?z_repr ?z_sorted ?z_str ?z_tuple ?v_GREATEST_SIGN ?v_LEAST_SIGN ?p_InvalidEntries ?q_InvalidEntries ?r_InvalidEntries ?s_InvalidEntries ?y_InvalidEntries ?p_InvalidHistory ?q_InvalidHistory ?r_InvalidHistory ?s_InvalidHistory ?y_InvalidHistory ?p_InvalidNumber ?q_InvalidNumber ?r_InvalidNumber ?s_InvalidNumber ?y_InvalidNumber ?p_StoreError ?q_StoreError ?r_StoreError ?s_StoreError ?y_StoreError ?m_InvalidEntries_InvalidEntries ?m_InvalidEntries_InvalidHistory ?m_InvalidEntries_InvalidNumber ?m_InvalidEntries_StoreError ?m_InvalidHistory_InvalidEntries ?m_InvalidHistory_InvalidHistory ?m_InvalidHistory_InvalidNumber ?m_InvalidHistory_StoreError ?m_InvalidNumber_InvalidEntries ?m_InvalidNumber_InvalidHistory ?m_InvalidNumber_InvalidNumber ?m_InvalidNumber_StoreError ?w_InvalidEntries ?w_InvalidHistory ?w_InvalidNumber ?w_StoreError
    (case a0 => k_is)
    (case l0 => k_is)
    (case c0 => k_is)
    (case k0 => k_is)
    (case a1 => k_is)
    (case l1 => k_is)
    (case c1 => k_is)
    (case k1 => k_is)
    (case a2 => k_is)
    (case l2 => k_is)
    (case c2 => k_is)
    (case k2 => k_is)
    (case a3 => k_is)
    (case l3 => k_is)
    (case c3 => k_is)
    (case k3 => k_is)
    (case a4 => k_is)
    (case l4 => k_is)
    (case c4 => k_is)
    (case k4 => k_is)
    (case a5 => k_is)
    (case l5 => k_is)
    (case c5 => k_is)
    (case k5 => k_is)
    (case a6 => k_is)
    (case l6 => k_is)
    (case c6 => k_is)
    (case k6 => k_is)
    (case a7 => k_is)
    (case l7 => k_is)
    (case c7 => k_is)
    (case k7 => k_is)
    (case a8 => k_is)
    (case l8 => k_is)
    (case c8 => k_is)
    (case k8 => k_is)
    (case a9 => k_is)
    (case l9 => k_is)
    (case c9 => k_is)
    (case k9 => k_is)
    (case a10 => k_is)
    (case l10 => k_is)
    (case c10 => k_is)
    (case k10 => k_is)
    (case a11 => k_is)
    (case l11 => k_is)
    (case c11 => k_is)
    (case k11 => k_is)
    (case a12 => k_is)
    (case l12 => k_is)
    (case c12 => k_is)
    (case k12 => k_is)
    (case a13 => k_is)
    (case l13 => k_is)
    (case c13 => k_is)
    (case k13 => k_is)
    (case a14 => k_is)
    (case l14 => k_is)
    (case c14 => k_is)
    (case k14 => k_is)
    (case a15 => k_is)
    (case l15 => k_is)
    (case c15 => k_is)
    (case k15 => k_is)
    (case a16 => k_is)
    (case l16 => k_is)
    (case c16 => k_is)
    (case k16 => k_is)
    (case a17 => k_is)
    (case l17 => k_is)
    (case c17 => k_is)
    (case k17 => k_is)
    (case a18 => k_is)
    (case l18 => k_is)
    (case c18 => k_is)
    (case k18 => k_is)
    (case a19 => k_is)
    (case l19 => k_is)
    (case c19 => k_is)
    (case k19 => k_is)
    (case a20 => k_is)
    (case l20 => k_is)
    (case c20 => k_is)
    (case k20 => k_is)
    (case a21 => k_is)
    (case l21 => k_is)
    (case c21 => k_is)
    (case k21 => k_is)
    (case a22 => k_is)
    (case l22 => k_is)
    (case c22 => k_is)
    (case k22 => k_is)
    (case a23 => k_is)
    (case l23 => k_is)
    (case c23 => k_is)
    (case k23 => k_is)
    (case a24 => k_is)
    (case l24 => k_is)
    (case c24 => k_is)
    (case k24 => k_is)
    (case a25 => k_is)
    (case l25 => k_is)
    (case c25 => k_is)
    (case k25 => k_is)
    (case a26 => k_is)
    (case l26 => k_is)
    (case c26 => k_is)
    (case k26 => k_is)
    (case a27 => k_is)
    (case l27 => k_is)
    (case c27 => k_is)
    (case k27 => k_is)
    (case a28 => k_is)
    (case l28 => k_is)
    (case c28 => k_is)
    (case k28 => k_is)
    (case a29 => k_is)
    (case l29 => k_is)
    (case c29 => k_is)
    (case k29 => k_is)
    (case a30 => k_is)
    (case l30 => k_is)
    (case c30 => k_is)
    (case k30 => k_is)
    (case a31 => k_is)
    (case l31 => k_is)
    (case c31 => k_is)
    (case k31 => k_is)
    (case a32 => k_is)
    (case l32 => k_is)
    (case c32 => k_is)
    (case k32 => k_is)
    (case a33 => k_is)
    (case l33 => k_is)
    (case c33 => k_is)
    (case k33 => k_is)
    (case a34 => k_is)
    (case l34 => k_is)
    (case c34 => k_is)
    (case k34 => k_is)
    (case a35 => k_is)
    (case l35 => k_is)
    (case c35 => k_is)
    (case k35 => k_is)
    (case a36 => k_is)
    (case l36 => k_is)
    (case c36 => k_is)
    (case k36 => k_is)
    (case a37 => k_is)
    (case l37 => k_is)
    (case c37 => k_is)
    (case k37 => k_is)
    (case a38 => k_is)
    (case l38 => k_is)
    (case c38 => k_is)
    (case k38 => k_is)
    (case a39 => k_is)
    (case l39 => k_is)
    (case c39 => k_is)
    (case k39 => k_is)
    (case a40 => k_is)
    (case l40 => k_is)
    (case c40 => k_is)
    (case k40 => k_is)
    (case a41 => k_is)
    (case l41 => k_is)
    (case c41 => k_is)
    (case k41 => k_is)
    (case a42 => k_is)
    (case l42 => k_is)
    (case c42 => k_is)
    (case k42 => k_is)
    (case a43 => k_is)
    (case l43 => k_is)
    (case c43 => k_is)
    (case k43 => k_is)
    (case a44 => k_is)
    (case l44 => k_is)
    (case c44 => k_is)
    (case k44 => k_is)
    (case a45 => k_is)
    (case l45 => k_is)
    (case c45 => k_is)
    (case k45 => k_is)
    (case a46 => k_is)
    (case l46 => k_is)
    (case c46 => k_is)
    (case k46 => k_is)
    (case a47 => k_is)
    (case l47 => k_is)
    (case c47 => k_is)
    (case k47 => k_is)
    (case z_all => k_is)
    (case z_any => k_is)
    (case z_bool => k_is)
    (case z_dict => k_is)
    (case z_int => k_is)
    (case z_isinstance => k_is)
    (case z_len => k_is)
    (case z_list => k_is)
    (case z_range => k_is)
    (case z_repr => k_is)
    (case z_sorted => k_is)
    (case z_str => k_is)
    (case z_tuple => k_is)
    (case v_GREATEST_SIGN => k_is)
    (case v_LEAST_SIGN => k_is)
    (case p_InvalidEntries => k_is)
    (case q_InvalidEntries => k_exc)
    (case r_InvalidEntries => k_is)
    (case s_InvalidEntries => k_is)
    (case y_InvalidEntries => k_is)
    (case p_InvalidHistory => k_is)
    (case q_InvalidHistory => k_exc)
    (case r_InvalidHistory => k_is)
    (case s_InvalidHistory => k_is)
    (case y_InvalidHistory => k_is)
    (case p_InvalidNumber => k_is)
    (case q_InvalidNumber => k_exc)
    (case r_InvalidNumber => k_is)
    (case s_InvalidNumber => k_is)
    (case y_InvalidNumber => k_is)
    (case p_StoreError => k_is)
    (case q_StoreError => k_exc)
    (case r_StoreError => k_is)
    (case s_StoreError => k_is)
    (case y_StoreError => k_is)
    (case m_InvalidEntries_InvalidEntries => k_is)
    (case m_InvalidEntries_InvalidHistory => k_is)
    (case m_InvalidEntries_InvalidNumber => k_is)
    (case m_InvalidEntries_StoreError => k_is)
    (case m_InvalidHistory_InvalidEntries => k_is)
    (case m_InvalidHistory_InvalidHistory => k_is)
    (case m_InvalidHistory_InvalidNumber => k_is)
    (case m_InvalidHistory_StoreError => k_is)
    (case m_InvalidNumber_InvalidEntries => k_is)
    (case m_InvalidNumber_InvalidHistory => k_is)
    (case m_InvalidNumber_InvalidNumber => k_is)
    (case m_InvalidNumber_StoreError => k_is)
    (case w_InvalidEntries => k_is)
    (case w_InvalidHistory => k_is)
    (case w_InvalidNumber => k_is)
    (case w_StoreError => k_is)
#print axioms PySem.Challenge.cw_heldlevels_k46_pasts_and_given_notes_holds
