import PyProof.Rows.All
import Wide.All
import OpenK.AllK
import Wide.FinOn
import HandS.ForMost
import HandS.ForExc
import HandS.Wide
import HandS.IsInst
import HandS.StrMore
import HandS.TupAny
import PyProof.StrOps2
import PyProof.Rows.StrPadFill
import HandS.EndBits
import KE.IntTextLaws
import HandS.More
import HandS.Style
import HandS.List
import KE.KRevSl
import PyProof.ReprLen
import HandS.TryMany
import PyProof.ExcBaseAll.ValueError
import HandS.Sort
import KE.KSortTupG
import KE.KDictPairs
import HandS.ExcIs
import HandS.ExcField
import HandS.SetKeys
import HandS.Strs
import PyProof.WalksMore
import PyProof.Rows.RuleB_bool
import HandS.Codes
import PyProof.Rows.StrCase
import PySem.Challenge.RW_heldlevels_k23_whole_truths_of_condition
set_option Elab.async false
set_option linter.all false
set_option maxRecDepth 100000
set_option maxHeartbeats 4000000
/-! G: programs read over plain data. -/
namespace G
open PySem PySem.Spec L2

/-- plain data: a flat value, a tuple, a list that nobody changes any more -/
inductive D where
  | v (x : V)
  | tup (ds : List D)
  | lst (ds : List D)
  /-- the script -/
  | scr (ns : List Int)
  /-- a dict that nobody changes any more: its keys, their values -/
  | dct (ks : List Key) (ds : List D)
  /-- a tuple of which it is known that it has no dict -/
  | tpf (ds : List D)
  /-- a caught exception: its class, the names of its fields (none: it has no dict), their values -/
  | exc (c : Value) (ks : Option (List Str)) (ds : List D)
abbrev Reg := Addr → Prop
/-- an object that may change -/
inductive MO where
  | lst (ds : List D)
  | ins (C dx : Addr) (fs : List (Str × D))
  | dK (kvs : List (Key × D))
abbrev Wd := Addr → Option MO
/-- what a slot of the frame holds: shared data, or a list of its own -/
inductive Sl where
  | sh (d : D)
  | om (o : MO)
abbrev Sl.ol (ds : List D) : Sl := .om (.lst ds)
abbrev Sl.od (kvs : List (Key × D)) : Sl := .om (.dK kvs)
abbrev Env := List (Option Sl)

abbrev D.int (i : Int) : D := .v (.int i)
abbrev D.str (s : Str) : D := .v (.str s)
abbrev D.bl (b : Bool) : D := .v (.bl b)
abbrev D.non : D := .v .non
abbrev D.ref (a : Addr) : D := .v (.ref a)

def emp : Hp := fun _ => none
def ImL (S : Reg) (H : Hp) (a : Addr) (xs : List V) : Prop := H a = some (.lst xs) ∧ ¬ S a
def ImS (K : PySem.W.Frag) (S : Reg) (H : Hp) (a : Addr) (xs : List V) : Prop := (Rd H a (.lst xs) ∧ ¬ S a) ∨ SqL K emp a xs
def ImT (K : PySem.W.Frag) (S : Reg) (H : Hp) (a : Addr) (xs : List V) : Prop := (H a = some (.tup xs) ∧ ¬ S a) ∨ SqT K emp a xs ∨ ∃ o, H a = some (.frz o (.tup xs)) ∧ ¬ S a
/-- an exception object of the class c, its dict, as it stands -/
def ExH (c : Value) (od : Option Addr) (a : Addr) : HO := .ext fun h => ∃ (oe : Obj) (vs : Array Value), h.get? a = some oe ∧ Zc c od oe ∧ oe.data = .fields vs
def XdAt (S : Reg) (H : Hp) (od : Option Addr) (n : Nat) (xs : List V) : Option (List Str) → Prop
  | none => od = none
  | some ks => ∃ d, od = some d ∧ (H d = some (.xd (ks.zip xs)) ∧ ¬ S d) ∧ ks.length = n
mutual
def Rep (K : PySem.W.Frag) (S : Reg) (H : Hp) : D → V → Prop
  | .v x, y => y = x
  | .tup ds, y => ∃ a xs, y = .ref a ∧ ImT K S H a xs ∧ Reps K S H ds xs
  | .lst ds, y => ∃ a xs, y = .ref a ∧ ImL S H a xs ∧ Reps K S H ds xs
  | .scr ns, y => ∃ a, y = .ref a ∧ ImS K S H a (ns.map V.int)
  | .dct ks ds, y => ∃ a xs, y = .ref a ∧ (H a = some (.dK (ks.zip xs)) ∧ ¬ S a) ∧ ks.length = ds.length ∧ Reps K S H ds xs
  | .tpf ds, y => ∃ a xs o, y = .ref a ∧ (H a = some (.frz o (.tup xs)) ∧ ¬ S a) ∧ o.dict = none ∧ Reps K S H ds xs
  | .exc c ks ds, y => ∃ a od xs, y = .ref a ∧ (H a = some (ExH c od a) ∧ ¬ S a) ∧ XdAt S H od ds.length xs ks ∧ Reps K S H ds xs
def Reps (K : PySem.W.Frag) (S : Reg) (H : Hp) : List D → List V → Prop
  | [], xs => xs = []
  | d :: ds, xs => ∃ x r, xs = x :: r ∧ Rep K S H d x ∧ Reps K S H ds r
end

/-- from one moment to a later one: F is not touched, what is no region of change stands -/
structure Stp (F : Reg) (S : Reg) (H : Hp) (S' : Reg) (H' : Hp) : Prop where
  keep : ∀ a o, ¬ S a → H a = some o → H' a = some o
  new : ∀ a, S' a → ¬ S a → H a = none
  dom : ∀ a, H' a = none → H a = none
  frn : ∀ a, F a → H' a = H a
theorem Stp.refl {F S : Reg} {H : Hp} : Stp F S H S H := ⟨fun _ _ _ e => e, fun _ a b => absurd a b, fun _ e => e, fun _ _ => rfl⟩
theorem Stp.trans {F S S1 S2 : Reg} {H H1 H2 : Hp} (a : Stp F S H S1 H1) (b : Stp F S1 H1 S2 H2) : Stp F S H S2 H2 where
  keep := fun x o hs e => by
    have e1 := a.keep x o hs e
    refine b.keep x o (fun hs1 => ?_) e1
    have := a.new x hs1 hs
    rw [this] at e; cases e
  new := fun x h2 hs => by
    by_cases h1 : S1 x
    · exact a.new x h1 hs
    · exact a.dom x (b.new x h2 h1)
  dom := fun x e => a.dom x (b.dom x e)
  frn := fun x hx => (b.frn x hx).trans (a.frn x hx)
theorem Stp.mono {F F' S S' : Reg} {H H' : Hp} (a : Stp F S H S' H') (h : ∀ x, F' x → F x) : Stp F' S H S' H' := ⟨a.keep, a.new, a.dom, fun x hx => a.frn x (h x hx)⟩
theorem Stp.rd {F S S' : Reg} {H H' : Hp} {a : Addr} {u : HO} (e : Stp F S H S' H') (h : Rd H a u ∧ ¬ S a) : Rd H' a u ∧ ¬ S' a := by
  obtain ⟨h, hs⟩ := h
  have hn : H a ≠ none := by
    rcases h with h | ⟨o, h⟩ <;> rw [h] <;> simp
  refine ⟨?_, fun hs' => hn (e.new a hs' hs)⟩
  rcases h with h | ⟨o, h⟩
  · exact .inl (e.keep a _ hs h)
  · exact .inr ⟨o, e.keep a _ hs h⟩
theorem Stp.imS {K : PySem.W.Frag} {F S S' : Reg} {H H' : Hp} {a : Addr} {xs : List V} (e : Stp F S H S' H') (h : ImS K S H a xs) : ImS K S' H' a xs := by
  rcases h with h | h
  · exact .inl (e.rd h)
  · exact .inr h
theorem Stp.imL {F S S' : Reg} {H H' : Hp} {a : Addr} {xs : List V} (e : Stp F S H S' H') (h : ImL S H a xs) : ImL S' H' a xs :=
  ⟨e.keep a _ h.2 h.1, fun hs' => by
    have := e.new a hs' h.2
    rw [h.1] at this; cases this⟩
theorem Stp.has {F S S' : Reg} {H H' : Hp} {a : Addr} {o : HO} (e : Stp F S H S' H') (h : H a = some o ∧ ¬ S a) : H' a = some o ∧ ¬ S' a :=
  ⟨e.keep a _ h.2 h.1, fun hs' => by
    have := e.new a hs' h.2
    rw [h.1] at this; cases this⟩
theorem Stp.imT {K : PySem.W.Frag} {F S S' : Reg} {H H' : Hp} {a : Addr} {xs : List V} (e : Stp F S H S' H') (h : ImT K S H a xs) : ImT K S' H' a xs := by
  rcases h with ⟨h, hs⟩ | h | ⟨o, h⟩
  · refine .inl ⟨e.keep a _ hs h, fun hs' => ?_⟩
    have := e.new a hs' hs
    rw [h] at this; cases this
  · exact .inr (.inl h)
  · exact .inr (.inr ⟨o, e.has h⟩)
theorem Stp.xd {F S S' : Reg} {H H' : Hp} {od : Option Addr} {n : Nat} {xs : List V} (e : Stp F S H S' H') : ∀ {ks : Option (List Str)}, XdAt S H od n xs ks → XdAt S' H' od n xs ks
  | none, h => h
  | some ks, ⟨d, h1, h2, h3⟩ => ⟨d, h1, e.has h2, h3⟩
mutual
theorem Rep.up {K : PySem.W.Frag} {F S S' : Reg} {H H' : Hp} (e : Stp F S H S' H') : ∀ {d : D} {v : V}, Rep K S H d v → Rep K S' H' d v
  | .v _, _, h => by simp only [Rep] at h ⊢; exact h
  | .tup ds, v, h => by
    simp only [Rep] at h ⊢
    obtain ⟨a, xs, e1, h1, h2⟩ := h
    exact ⟨a, xs, e1, e.imT h1, Reps.up e h2⟩
  | .lst ds, v, h => by
    simp only [Rep] at h ⊢
    obtain ⟨a, xs, e1, h1, h2⟩ := h
    exact ⟨a, xs, e1, e.imL h1, Reps.up e h2⟩
  | .scr ns, v, h => by
    simp only [Rep] at h ⊢
    obtain ⟨a, e1, h1⟩ := h
    exact ⟨a, e1, e.imS h1⟩
  | .dct ks ds, v, h => by
    simp only [Rep] at h ⊢
    obtain ⟨a, xs, e1, ⟨h1, hs⟩, hl, h2⟩ := h
    refine ⟨a, xs, e1, ⟨e.keep a _ hs h1, fun hs' => ?_⟩, hl, Reps.up e h2⟩
    have := e.new a hs' hs
    rw [h1] at this; cases this
  | .tpf ds, v, h => by
    simp only [Rep] at h ⊢
    obtain ⟨a, xs, o, e1, h0, h1, h2⟩ := h
    exact ⟨a, xs, o, e1, e.has h0, h1, Reps.up e h2⟩
  | .exc c ks ds, v, h => by
    simp only [Rep] at h ⊢
    obtain ⟨a, od, xs, e1, h0, h1, h2⟩ := h
    exact ⟨a, od, xs, e1, e.has h0, e.xd h1, Reps.up e h2⟩
theorem Reps.up {K : PySem.W.Frag} {F S S' : Reg} {H H' : Hp} (e : Stp F S H S' H') : ∀ {ds : List D} {vs : List V}, Reps K S H ds vs → Reps K S' H' ds vs
  | [], _, h => by simp only [Reps] at h ⊢; exact h
  | d :: ds, vs, h => by
    simp only [Reps] at h ⊢
    obtain ⟨x, r, e1, h1, h2⟩ := h
    exact ⟨x, r, e1, Rep.up e h1, Reps.up e h2⟩
end
theorem emp_l {K : PySem.W.Frag} {H : Hp} {a : Addr} {xs : List V} (h : SqL K emp a xs) : SqL K H a xs := by
  rcases h with (h | ⟨_, h⟩) | h
  · cases h
  · cases h
  · exact .inr h
theorem emp_t {K : PySem.W.Frag} {H : Hp} {a : Addr} {xs : List V} (h : SqT K emp a xs) : SqT K H a xs := by
  rcases h with (h | ⟨_, h⟩) | h
  · cases h
  · cases h
  · exact .inr h
theorem ImS.sq {K : PySem.W.Frag} {S : Reg} {H : Hp} {a : Addr} {xs : List V} (h : ImS K S H a xs) : SqL K H a xs := by
  rcases h with h | h
  · exact .inl h.1
  · exact emp_l h
theorem ImL.sq {K : PySem.W.Frag} {S : Reg} {H : Hp} {a : Addr} {xs : List V} (h : ImL S H a xs) : SqL K H a xs := SqL.of h.1
theorem ImT.sq {K : PySem.W.Frag} {S : Reg} {H : Hp} {a : Addr} {xs : List V} (h : ImT K S H a xs) : SqT K H a xs := by
  rcases h with h | h | ⟨o, h⟩
  · exact SqT.of h.1
  · exact emp_t h
  · exact .inl (.inr ⟨o, h.1⟩)
section
variable {K : PySem.W.Frag} {S : Reg} {H : Hp} {d : D} {ds : List D} {v : V} {vs : List V}
theorem Rep.v_iff {x : V} : Rep K S H (.v x) v ↔ v = x := by simp only [Rep]
theorem Rep.tup_iff : Rep K S H (.tup ds) v ↔ ∃ a xs, v = .ref a ∧ ImT K S H a xs ∧ Reps K S H ds xs := by simp only [Rep]
theorem Rep.lst_iff : Rep K S H (.lst ds) v ↔ ∃ a xs, v = .ref a ∧ ImL S H a xs ∧ Reps K S H ds xs := by simp only [Rep]
theorem Rep.scr_iff {ns : List Int} : Rep K S H (.scr ns) v ↔ ∃ a, v = .ref a ∧ ImS K S H a (ns.map V.int) := by simp only [Rep]
theorem Rep.dct_iff {ks : List Key} : Rep K S H (.dct ks ds) v ↔ ∃ a xs, v = .ref a ∧ (H a = some (.dK (ks.zip xs)) ∧ ¬ S a) ∧ ks.length = ds.length ∧ Reps K S H ds xs := by simp only [Rep]
theorem Rep.tpf_iff : Rep K S H (.tpf ds) v ↔ ∃ a xs o, v = .ref a ∧ (H a = some (.frz o (.tup xs)) ∧ ¬ S a) ∧ o.dict = none ∧ Reps K S H ds xs := by simp only [Rep]
theorem Rep.exc_iff {c : Value} {ks : Option (List Str)} : Rep K S H (.exc c ks ds) v ↔ ∃ a od xs, v = .ref a ∧ (H a = some (ExH c od a) ∧ ¬ S a) ∧ XdAt S H od ds.length xs ks ∧ Reps K S H ds xs := by simp only [Rep]
theorem Reps.nil_iff : Reps K S H [] vs ↔ vs = [] := by simp only [Reps]
theorem Reps.cons_iff : Reps K S H (d :: ds) vs ↔ ∃ x r, vs = x :: r ∧ Rep K S H d x ∧ Reps K S H ds r := by simp only [Reps]
theorem Reps.nil : Reps K S H [] [] := Reps.nil_iff.mpr rfl
theorem Reps.cons (h : Rep K S H d v) (r : Reps K S H ds vs) : Reps K S H (d :: ds) (v :: vs) := Reps.cons_iff.mpr ⟨_, _, rfl, h, r⟩
theorem Reps.length : ∀ {ds : List D} {vs : List V}, Reps K S H ds vs → vs.length = ds.length
  | [], vs, h => by rw [Reps.nil_iff.mp h] <;> rfl
  | d :: ds, vs, h => by
    obtain ⟨x, r, rfl, _, h2⟩ := Reps.cons_iff.mp h
    simp [Reps.length h2]
theorem Reps.append : ∀ {ds es : List D} {vs ws : List V}, Reps K S H ds vs → Reps K S H es ws → Reps K S H (ds ++ es) (vs ++ ws)
  | [], _, _, _, h, h2 => by rw [Reps.nil_iff.mp h]; exact h2
  | d :: ds, _, _, _, h, h2 => by
    obtain ⟨x, r, rfl, h1, h3⟩ := Reps.cons_iff.mp h
    exact Reps.cons h1 (Reps.append h3 h2)
theorem Reps.get : ∀ {ds : List D} {vs : List V} {i : Nat} {d : D}, Reps K S H ds vs → ds[i]? = some d → ∃ v, vs[i]? = some v ∧ Rep K S H d v
  | [], _, i, _, _, e => by simp at e
  | d :: ds, _, 0, d', h, e => by
    obtain ⟨x, r, rfl, h1, _⟩ := Reps.cons_iff.mp h
    simp at e; subst e
    exact ⟨x, rfl, h1⟩
  | d :: ds, _, i + 1, d', h, e => by
    obtain ⟨x, r, rfl, _, h2⟩ := Reps.cons_iff.mp h
    obtain ⟨v, e1, h3⟩ := Reps.get (i := i) h2 (by simpa using e)
    exact ⟨v, by simpa using e1, h3⟩
theorem Reps.get' : ∀ {ds : List D} {vs : List V} {i : Nat} {v : V}, Reps K S H ds vs → vs[i]? = some v → ∃ d, ds[i]? = some d ∧ Rep K S H d v := fun {ds vs i v} h e => by
  have hl := h.length
  have hi : i < vs.length := (List.getElem?_eq_some_iff.mp e).1
  have hd : ds[i]? = some ds[i] := List.getElem?_eq_getElem (by omega)
  obtain ⟨v', e1, h1⟩ := h.get hd
  rw [e] at e1; cases e1
  exact ⟨_, hd, h1⟩
theorem Reps.take (n : Nat) : ∀ {ds : List D} {vs : List V}, Reps K S H ds vs → Reps K S H (ds.take n) (vs.take n) := by
  induction n with
  | zero => intro ds vs _; exact Reps.nil
  | succ n ih =>
    intro ds vs h
    cases ds with
    | nil => rw [Reps.nil_iff.mp h]; exact Reps.nil
    | cons d ds =>
      obtain ⟨x, r, rfl, h1, h2⟩ := Reps.cons_iff.mp h
      exact Reps.cons h1 (ih h2)
theorem Reps.drop (n : Nat) : ∀ {ds : List D} {vs : List V}, Reps K S H ds vs → Reps K S H (ds.drop n) (vs.drop n) := by
  induction n with
  | zero => intro ds vs h; exact h
  | succ n ih =>
    intro ds vs h
    cases ds with
    | nil => rw [Reps.nil_iff.mp h]; exact Reps.nil
    | cons d ds =>
      obtain ⟨x, r, rfl, h1, h2⟩ := Reps.cons_iff.mp h
      exact ih h2
theorem Reps.set {d : D} {v : V} (hd : Rep K S H d v) : ∀ (n : Nat) {ds : List D} {vs : List V}, Reps K S H ds vs → Reps K S H (ds.set n d) (vs.set n v)
  | n, [], _, h => by rw [Reps.nil_iff.mp h]; exact Reps.nil
  | 0, d' :: ds, _, h => by
    obtain ⟨x, r, rfl, h1, h2⟩ := Reps.cons_iff.mp h
    exact Reps.cons hd h2
  | n + 1, d' :: ds, _, h => by
    obtain ⟨x, r, rfl, h1, h2⟩ := Reps.cons_iff.mp h
    exact Reps.cons h1 (Reps.set hd n h2)
theorem Reps.map_v (xs : List V) : Reps K S H (xs.map D.v) xs := by
  induction xs with
  | nil => exact Reps.nil
  | cons x xs ih => exact Reps.cons (Rep.v_iff.mpr rfl) ih
theorem Reps.of_map_v : ∀ {xs vs : List V}, Reps K S H (xs.map D.v) vs → vs = xs
  | [], vs, h => Reps.nil_iff.mp h
  | x :: xs, vs, h => by
    obtain ⟨y, r, rfl, h1, h2⟩ := Reps.cons_iff.mp h
    rw [Rep.v_iff.mp h1, Reps.of_map_v h2]
end

/-! ### the state -/
def MRep (K : PySem.W.Frag) (S : Reg) (H : Hp) (p : Addr) : MO → Prop
  | .lst ds => ∃ xs, H p = some (.lst xs) ∧ Reps K S H ds xs
  | .ins C dx fs => ∃ vs, H p = some (.ins C dx vs) ∧ vs.map (·.1) = fs.map (·.1) ∧ Reps K S H (fs.map (·.2)) (vs.map (·.2))
  | .dK kvs => ∃ vs, H p = some (.dK vs) ∧ vs.map (·.1) = kvs.map (·.1) ∧ Reps K S H (kvs.map (·.2)) (vs.map (·.2))
/-- without the frame -/
structure Cb (K : PySem.W.Frag) (F S : Reg) (H : Hp) (W : Wd) : Prop where
  sd : ∀ a, S a → H a ≠ none
  fs : ∀ a, F a → S a
  w : ∀ p o, W p = some o → S p ∧ ¬ F p ∧ MRep K S H p o
def Own (σ : St) (ρ : Env) (i : Nat) (p : Addr) : Prop := ∃ o, ρ[i]? = some (some (.om o)) ∧ σ[i]? = some (some (.ref p))
def OwnSet (σ : St) (ρ : Env) : Reg := fun p => ∃ i, Own σ ρ i p
structure Cf (K : PySem.W.Frag) (F S : Reg) (H : Hp) (σ : St) (ρ : Env) (W : Wd) : Prop where
  cb : Cb K F S H W
  len : σ.length = ρ.length
  sh : ∀ (i : Nat) d, ρ[i]? = some (some (.sh d)) → ∃ v, σ[i]? = some (some v) ∧ Rep K S H d v
  om : ∀ (i : Nat) o, ρ[i]? = some (some (.om o)) → ∃ p, σ[i]? = some (some (.ref p)) ∧ MRep K S H p o ∧ S p ∧ ¬ F p ∧ W p = none
  dis : ∀ i j p, Own σ ρ i p → Own σ ρ j p → i = j
theorem MRep.up {K : PySem.W.Frag} {F S S' : Reg} {H H' : Hp} (e : Stp F S H S' H') {p : Addr} {o : MO} (hp : H' p = H p) (h : MRep K S H p o) : MRep K S' H' p o := by
  cases o with
  | lst ds => obtain ⟨xs, h1, h2⟩ := h; exact ⟨xs, hp.trans h1, h2.up e⟩
  | ins C dx fs => obtain ⟨xs, h1, h2, h3⟩ := h; exact ⟨xs, hp.trans h1, h2, h3.up e⟩
  | dK fs => obtain ⟨xs, h1, h2, h3⟩ := h; exact ⟨xs, hp.trans h1, h2, h3.up e⟩
section
variable {K : PySem.W.Frag} {F S S' : Reg} {H H' : Hp} {σ : St} {ρ : Env} {W W' : Wd}
/-- the heap has grown alone -/
theorem stp_same (c : Cb K F S H W) (e : Same H H') : Stp F S H S H' where
  keep := fun a o _ h => e a o h
  new := fun a h1 h2 => absurd h1 h2
  dom := fun a h => by
    cases q : H a with
    | none => rfl
    | some o => rw [e a o q] at h; cases h
  frn := fun a hf => by
    cases q : H a with
    | none => exact absurd q (c.sd a (c.fs a hf))
    | some o => exact e a o q
theorem Cb.same (c : Cb K F S H W) (e : Same H H') : Cb K F S H' W where
  sd := fun a hs q => c.sd a hs ((stp_same c e).dom a q)
  fs := c.fs
  w := fun p o hw => by
    obtain ⟨h1, h2, h3⟩ := c.w p o hw
    refine ⟨h1, h2, h3.up (stp_same c e) ?_⟩
    cases q : H p with
    | none => exact absurd q (c.sd p h1)
    | some o => exact e p o q
theorem Cf.same (c : Cf K F S H σ ρ W) (e : Same H H') : Cf K F S H' σ ρ W where
  cb := c.cb.same e
  len := c.len
  sh := fun i d h => by
    obtain ⟨v, h1, h2⟩ := c.sh i d h
    exact ⟨v, h1, h2.up (stp_same c.cb e)⟩
  om := fun i o h => by
    obtain ⟨p, h1, h2, h4⟩ := c.om i o h
    refine ⟨p, h1, h2.up (stp_same c.cb e) ?_, h4⟩
    cases q : H p with
    | none => exact absurd q (c.cb.sd p h4.1)
    | some o => exact e p o q
  dis := c.dis
/-- what a callee sees: the frame's own lists are foreign to it -/
theorem Cf.below (c : Cf K F S H σ ρ W) : Cb K (fun a => F a ∨ OwnSet σ ρ a) S H W where
  sd := c.cb.sd
  fs := fun a h => by
    rcases h with h | ⟨i, ds, h1, h2⟩
    · exact c.cb.fs a h
    · obtain ⟨p, e1, _, hs, _⟩ := c.om i ds h1
      rw [h2] at e1; cases e1; exact hs
  w := fun p o hw => by
    obtain ⟨h1, h2, h3⟩ := c.cb.w p o hw
    refine ⟨h1, fun h => ?_, h3⟩
    rcases h with h | ⟨i, ds, q1, q2⟩
    · exact h2 h
    · obtain ⟨p', e1, _, _, _, hw'⟩ := c.om i ds q1
      rw [q2] at e1; cases e1
      rw [hw] at hw'; cases hw'
theorem Cf.back (c : Cf K F S H σ ρ W) (e : Stp (fun a => F a ∨ OwnSet σ ρ a) S H S' H') (b : Cb K (fun a => F a ∨ OwnSet σ ρ a) S' H' W') : Cf K F S' H' σ ρ W' where
  cb := ⟨b.sd, fun a h => b.fs a (.inl h), fun p o hw => by
    obtain ⟨h1, h2, h3⟩ := b.w p o hw
    exact ⟨h1, fun h => h2 (.inl h), h3⟩⟩
  len := c.len
  sh := fun i d h => by
    obtain ⟨v, h1, h2⟩ := c.sh i d h
    exact ⟨v, h1, h2.up e⟩
  om := fun i ds h => by
    obtain ⟨p, h1, h2, h4, h5, h6⟩ := c.om i ds h
    have ho : OwnSet σ ρ p := ⟨i, ds, h, h1⟩
    refine ⟨p, h1, h2.up e (e.frn p (.inr ho)), b.fs p (.inr ho), h5, ?_⟩
    cases q : W' p with
    | none => rfl
    | some o => exact absurd (.inr ho) (b.w p o q).2.1
  dis := c.dis
end

/-! ### readings over data -/
abbrev KD := D → Env → Wd → Prop
abbrev KB := Bool → Env → Wd → Prop
abbrev KL := List D → Env → Wd → Prop
/-- a wish about exceptions: the class, its fields -/
abbrev KX := Value → Option (List (Str × D)) → Env → Wd → Prop
abbrev TD := Env → Wd → KD → KX → Prop
abbrev TB := Env → Wd → KB → KX → Prop
abbrev TL := Env → Wd → KL → KX → Prop
def XRep (K : PySem.W.Frag) (S : Reg) (H : Hp) : Option (List (Str × D)) → Option Addr → Prop
  | none, d => d = none
  | some fs, d => ∃ a vs, d = some a ∧ H a = some (.xd vs) ∧ ¬ S a ∧ vs.map (·.1) = fs.map (·.1) ∧ Reps K S H (fs.map (·.2)) (vs.map (·.2))
/-- how a wish of exceptions over data lies in one over the heap -/
def LkX (K : PySem.W.Frag) (F S : Reg) (H : Hp) (Wx : WX) (Qx : KX) : Prop :=
  ∀ S' H' σ' ρ' W' cls x od, Stp F S H S' H' → Cf K F S' H' σ' ρ' W' → XRep K S' H' x od → Qx cls x ρ' W' → Wx cls od σ' H'
theorem LkX.up {K : PySem.W.Frag} {F S S1 : Reg} {H H1 : Hp} {Wx : WX} {Qx : KX} (h : LkX K F S H Wx Qx) (e : Stp F S H S1 H1) : LkX K F S1 H1 Wx Qx :=
  fun S' H' σ' ρ' W' cls x od e' c xr q => h S' H' σ' ρ' W' cls x od (e.trans e') c xr q
def EndE (K : PySem.W.Frag) (F S : Reg) (H : Hp) (σ : St) (Q : KD) (R : VK) : Prop :=
  ∀ S' H' ρ' W' d v, Stp F S H S' H' → Cf K F S' H' σ ρ' W' → Rep K S' H' d v → Q d ρ' W' → R v H'
def EndB (K : PySem.W.Frag) (F S : Reg) (H : Hp) (σ : St) (Q : KB) (R : Bool → Hp → Prop) : Prop :=
  ∀ S' H' ρ' W' b, Stp F S H S' H' → Cf K F S' H' σ ρ' W' → Q b ρ' W' → R b H'
def EndL (K : PySem.W.Frag) (F S : Reg) (H : Hp) (σ : St) (Q : KL) (R : List V → Hp → Prop) : Prop :=
  ∀ S' H' ρ' W' ds vs, Stp F S H S' H' → Cf K F S' H' σ ρ' W' → Reps K S' H' ds vs → Q ds ρ' W' → R vs H'
def Snd (K : PySem.W.Frag) (Wx : WX) (te : TE) (f : TD) : Prop :=
  ∀ F S H σ ρ W Q Qx R, Cf K F S H σ ρ W → f ρ W Q Qx → LkX K F S H Wx Qx → EndE K F S H σ Q R → te σ H R
def SndB (K : PySem.W.Frag) (Wx : WX) (te : TT) (f : TB) : Prop :=
  ∀ F S H σ ρ W Q Qx R, Cf K F S H σ ρ W → f ρ W Q Qx → LkX K F S H Wx Qx → EndB K F S H σ Q R → te σ H R
def SndL (K : PySem.W.Frag) (Wx : WX) (te : TA) (f : TL) : Prop :=
  ∀ F S H σ ρ W Q Qx R, Cf K F S H σ ρ W → f ρ W Q Qx → LkX K F S H Wx Qx → EndL K F S H σ Q R → te σ H R
def GE (X : Cx) (Wx : WX) (e : Expr) (f : TD) : Prop := ∃ te, PE X e te ∧ Snd X.K Wx te f
def GT (X : Cx) (Wx : WX) (e : Expr) (f : TB) : Prop := ∃ te, PT X e te ∧ SndB X.K Wx te f
def GW (X : Cx) (Wx : WX) (e : Expr) (f : TB) : Prop := ∃ te, PW X e te ∧ SndB X.K Wx te f
def GA (X : Cx) (Wx : WX) (es : List Expr) (f : TL) : Prop := ∃ te, PA X es te ∧ SndL X.K Wx te f
section
variable {X : Cx} {Wx : WX} {a b c e : Expr} {es : List Expr} {f g h : TD} {fb gb : TB} {fl : TL} {pos : Pos}

def dVar (i : Nat) : TD := fun ρ W Q _ => match ρ[i]? with
  | some (some (.sh d)) => Q d ρ W
  | _ => False
theorem gv (i : Nat) {x : Str} {pos : Pos} (hN : X.N[i]? = some x := by rfl) (hv : Vis X.env.scope x := by first | exact Or.inl rfl | exact Or.inr (Or.inl rfl) | exact Or.inr (Or.inr rfl)) (hd : (x == ("__debug__" : Str)) = false := by decide)
    (hcd : (x == ("__classdict__" : Str)) = false := by decide) : GE X Wx (.Name x pos) (dVar i) := by
  refine ⟨_, pe_var hN hv hd hcd, fun F S H σ ρ W Q Qx R cf hf _ hE => ?_⟩
  unfold dVar at hf
  split at hf
  · rename_i d e
    obtain ⟨v, e1, h1⟩ := cf.sh i d e
    exact ⟨v, e1, hE S H ρ W d v .refl cf h1 hf⟩
  · exact hf.elim
def dC (x : V) : TD := fun ρ W Q _ => Q (.v x) ρ W
theorem snd_c {K : PySem.W.Frag} {x : V} : Snd K Wx (tC x) (dC x) := fun F S H σ ρ W Q Qx R cf hf _ hE => hE S H ρ W (.v x) x .refl cf (Rep.v_iff.mpr rfl) hf
theorem ge_int {i j pos} : GE X Wx (.Constant (.int i) j pos) (dC (.int i)) := ⟨_, pe_int, snd_c⟩
theorem ge_bl {i j pos} : GE X Wx (.Constant (.bool i) j pos) (dC (.bl i)) := ⟨_, pe_bl, snd_c⟩
theorem ge_non {j pos} : GE X Wx (.Constant .none j pos) (dC .non) := ⟨_, pe_non, snd_c⟩
theorem ge_str {x j pos} : GE X Wx (.Constant (.str x) j pos) (dC (.str x)) := ⟨_, pe_str, snd_c⟩
theorem ge_glob {x : Str} {v : V} {u : Value} {pos : Pos} (hg : Gl X x) (hm : X.mg x = some u) (r : RelV v u) (hd : (x == ("__debug__" : Str)) = false := by decide) : GE X Wx (.Name x pos) (dC v) := ⟨_, pe_glob hg hm r hd, snd_c⟩

/-- a two-place rule over data: pure, the heap grows alone -/
def RSnd (K : PySem.W.Frag) (r : R2) (g : D → D → (D → Prop) → Prop) : Prop :=
  ∀ F S H W d e x y (P : D → Prop) (R : VK), Cb K F S H W → Rep K S H d x → Rep K S H e y → g d e P → (∀ d' v H', Same H H' → Rep K S H' d' v → P d' → R v H') → r x y H R
def dOp (g : D → D → (D → Prop) → Prop) (fa fb : TD) : TD := fun ρ W Q Qx => fa ρ W (fun d ρ1 W1 => fb ρ1 W1 (fun e ρ2 W2 => g d e fun z => Q z ρ2 W2) Qx) Qx
theorem snd_op {K : PySem.W.Frag} {r : R2} {k : D → D → (D → Prop) → Prop} {ta tb : TE} (hr : RSnd K r k) (ha : Snd K Wx ta f) (hb : Snd K Wx tb g) : Snd K Wx (tOp r ta tb) (dOp k f g) := by
  intro F S H σ ρ W Q Qx R cf hf hx hE
  refine ha F S H σ ρ W _ Qx _ cf hf hx fun S1 H1 ρ1 W1 d v e1 c1 r1 q1 => ?_
  refine hb F S1 H1 σ ρ1 W1 _ Qx _ c1 q1 (hx.up e1) fun S2 H2 ρ2 W2 d2 v2 e2 c2 r2 q2 => ?_
  refine hr F S2 H2 W2 d d2 v v2 _ _ c2.cb (r1.up e2) r2 q2 fun d3 v3 H3 s3 r3 q3 => ?_
  exact hE S2 H3 ρ2 W2 d3 v3 ((e1.trans e2).trans (stp_same c2.cb s3)) (c2.same s3) r3 q3
theorem ge_op {op : Operator} {r : R2} {k : D → D → (D → Prop) → Prop} (ho : OpR X (binaryOp op) r) (hr : RSnd X.K r k) (ha : GE X Wx a f) (hb : GE X Wx b g) : GE X Wx (.BinOp a op b pos) (dOp k f g) := by
  obtain ⟨ta, pa, sa⟩ := ha
  obtain ⟨tb, pb, sb⟩ := hb
  exact ⟨_, pe_op ho pa pb, snd_op hr sa sb⟩
theorem ge_cmp {op : CmpOp} {r : R2} {k : D → D → (D → Prop) → Prop} (ho : OpR X (compareOp op) r) (hr : RSnd X.K r k) (ha : GE X Wx a f) (hb : GE X Wx b g) (hm : behindInMarks op b = false) : GE X Wx (.Compare a [op] [b] pos) (dOp k f g) := by
  obtain ⟨ta, pa, sa⟩ := ha
  obtain ⟨tb, pb, sb⟩ := hb
  exact ⟨_, pe_cmpR ho pa pb hm, snd_op hr sa sb⟩
/-- an expression whose value is a Boolean, as a test -/
def dBool (f : TD) : TB := fun ρ W Q Qx => f ρ W (fun d ρ' W' => match d with | .v (.bl b) => Q b ρ' W' | _ => False) Qx
theorem snd_tB {K : PySem.W.Frag} {te : TE} (ha : Snd K Wx te f) : SndB K Wx (tB te) (dBool f) := by
  intro F S H σ ρ W Q Qx R cf hf hx hE
  refine ha F S H σ ρ W _ Qx _ cf hf hx fun S1 H1 ρ1 W1 d v e1 c1 r1 q1 => ?_
  split at q1
  · rename_i b
    rw [Rep.v_iff] at r1
    exact ⟨b, r1, hE S1 H1 ρ1 W1 b e1 c1 q1⟩
  · exact q1.elim
theorem gt_val (ha : GE X Wx e f) (he : ∀ whole, isTrue e X.env whole = (do let v ← whole; standAt e.pos; holding [v] (truthy v)) := by intro _; rfl) : GT X Wx e (dBool f) := by
  obtain ⟨ta, pa, sa⟩ := ha
  exact ⟨_, pt_val pa he, snd_tB sa⟩
theorem gt_cmp {op : CmpOp} {r : R2} {k : D → D → (D → Prop) → Prop} (ho : OpR X (compareOp op) r) (hr : RSnd X.K r k) (ha : GE X Wx a f) (hb : GE X Wx b g) (hm : behindInMarks op b = false) : GT X Wx (.Compare a [op] [b] pos) (dBool (dOp k f g)) := by
  obtain ⟨ta, pa, sa⟩ := ha
  obtain ⟨tb, pb, sb⟩ := hb
  exact ⟨_, pt_cmpR ho pa pb hm, snd_tB (snd_op hr sa sb)⟩
/-- a < b < c -/
def dChain (k k' : D → D → (D → Prop) → Prop) (fa fb fc : TD) : TD := fun ρ W Q Qx => fa ρ W (fun d ρ1 W1 => fb ρ1 W1 (fun e ρ2 W2 => k d e fun z =>
  match z with | .v (.bl true) => fc ρ2 W2 (fun c ρ3 W3 => k' e c fun z' => Q z' ρ3 W3) Qx | .v (.bl false) => Q (.bl false) ρ2 W2 | _ => False) Qx) Qx
theorem snd_chain {K : PySem.W.Frag} {r r' : R2} {k k' : D → D → (D → Prop) → Prop} {ta tb tc : TE} (hr : RSnd K r k) (hr' : RSnd K r' k') (ha : Snd K Wx ta f) (hb : Snd K Wx tb g) (hc : Snd K Wx tc h) : Snd K Wx (tChain r r' ta tb tc) (dChain k k' f g h) := by
  intro F S H σ ρ W Q Qx R cf hf hx hE
  refine ha F S H σ ρ W _ Qx _ cf hf hx fun S1 H1 ρ1 W1 d v e1 c1 r1 q1 => ?_
  refine hb F S1 H1 σ ρ1 W1 _ Qx _ c1 q1 (hx.up e1) fun S2 H2 ρ2 W2 d2 v2 e2 c2 r2 q2 => ?_
  refine hr F S2 H2 W2 d d2 v v2 _ _ c2.cb (r1.up e2) r2 q2 fun d3 v3 H3 s3 r3 q3 => ?_
  have e3 := (e1.trans e2).trans (stp_same c2.cb s3)
  split at q3
  · rw [Rep.v_iff] at r3
    refine ⟨true, r3, ?_⟩
    show tc σ H3 _
    refine hc F S2 H3 σ ρ2 W2 _ Qx _ (c2.same s3) q3 (hx.up e3) fun S4 H4 ρ4 W4 d4 v4 e4 c4 r4 q4 => ?_
    refine hr' F S4 H4 W4 d2 d4 v2 v4 _ _ c4.cb ((r2.up (stp_same c2.cb s3)).up e4) r4 q4 fun d5 v5 H5 s5 r5 q5 => ?_
    exact hE S4 H5 ρ4 W4 d5 v5 ((e3.trans e4).trans (stp_same c4.cb s5)) (c4.same s5) r5 q5
  · rw [Rep.v_iff] at r3
    refine ⟨false, r3, ?_⟩
    show R (.bl false) H3
    exact hE S2 H3 ρ2 W2 (.bl false) _ e3 (c2.same s3) (Rep.v_iff.mpr rfl) q3
  · exact q3.elim
theorem ge_chain {op op' : CmpOp} {r r' : R2} {k k' : D → D → (D → Prop) → Prop} (ho : OpR X (compareOp op) r) (ho' : OpR X (compareOp op') r') (hr : RSnd X.K r k) (hr' : RSnd X.K r' k') (ha : GE X Wx a f) (hb : GE X Wx b g) (hc : GE X Wx c h)
    (hm : lastMarks [op, op'] [b, c] = false := by with_unfolding_all rfl) : GE X Wx (.Compare a [op, op'] [b, c] pos) (dChain k k' f g h) := by
  obtain ⟨ta, pa, sa⟩ := ha
  obtain ⟨tb, pb, sb⟩ := hb
  obtain ⟨tc, pc, sc⟩ := hc
  exact ⟨_, pe_chain ho ho' pa pb pc hm, snd_chain hr hr' sa sb sc⟩
/-! ### and, or, not, if -/
def dNotB (f : TB) : TB := fun ρ W Q Qx => f ρ W (fun b ρ' W' => Q (!b) ρ' W') Qx
theorem gt_not (ha : GT X Wx a fb) : GT X Wx (.UnaryOp .Not a pos) (dNotB fb) := by
  obtain ⟨ta, pa, sa⟩ := ha
  refine ⟨_, pt_not pa, fun F S H σ ρ W Q Qx R cf hf hx hE => ?_⟩
  exact sa F S H σ ρ W _ Qx _ cf hf hx fun S1 H1 ρ1 W1 b e1 c1 q1 => hE S1 H1 ρ1 W1 _ e1 c1 q1
def dAndB (f g : TB) : TB := fun ρ W Q Qx => f ρ W (fun b ρ' W' => if b = true then g ρ' W' Q Qx else Q false ρ' W') Qx
def dOrB (f g : TB) : TB := fun ρ W Q Qx => f ρ W (fun b ρ' W' => if b = true then Q true ρ' W' else g ρ' W' Q Qx) Qx
theorem gw_and1 (ha : GT X Wx a fb) : GW X Wx (.BoolOp .And [a] pos) fb := by
  obtain ⟨ta, pa, sa⟩ := ha
  exact ⟨_, pw_and1 pa, sa⟩
theorem gw_or1 (ha : GT X Wx a fb) : GW X Wx (.BoolOp .Or [a] pos) fb := by
  obtain ⟨ta, pa, sa⟩ := ha
  exact ⟨_, pw_or1 pa, sa⟩
theorem snd_and {K : PySem.W.Frag} {t u : TT} (ha : SndB K Wx t fb) (hb : SndB K Wx u gb) : SndB K Wx (tAnd t u) (dAndB fb gb) := by
  intro F S H σ ρ W Q Qx R cf hf hx hE
  refine ha F S H σ ρ W _ Qx _ cf hf hx fun S1 H1 ρ1 W1 b e1 c1 q1 => ?_
  cases b with
  | true => exact hb F S1 H1 σ ρ1 W1 Q Qx R c1 q1 (hx.up e1) fun S2 H2 ρ2 W2 b e2 c2 q2 => hE S2 H2 ρ2 W2 b (e1.trans e2) c2 q2
  | false => exact hE S1 H1 ρ1 W1 false e1 c1 q1
theorem snd_or {K : PySem.W.Frag} {t u : TT} (ha : SndB K Wx t fb) (hb : SndB K Wx u gb) : SndB K Wx (tOr t u) (dOrB fb gb) := by
  intro F S H σ ρ W Q Qx R cf hf hx hE
  refine ha F S H σ ρ W _ Qx _ cf hf hx fun S1 H1 ρ1 W1 b e1 c1 q1 => ?_
  cases b with
  | false => exact hb F S1 H1 σ ρ1 W1 Q Qx R c1 q1 (hx.up e1) fun S2 H2 ρ2 W2 b e2 c2 q2 => hE S2 H2 ρ2 W2 b (e1.trans e2) c2 q2
  | true => exact hE S1 H1 ρ1 W1 true e1 c1 q1
theorem gw_and {rest : List Expr} (ha : GT X Wx a fb) (hb : GW X Wx (.BoolOp .And (b :: rest) pos) gb) : GW X Wx (.BoolOp .And (a :: b :: rest) pos) (dAndB fb gb) := by
  obtain ⟨ta, pa, sa⟩ := ha
  obtain ⟨tb, pb, sb⟩ := hb
  exact ⟨_, pw_and pa pb, snd_and sa sb⟩
theorem gw_or {rest : List Expr} (ha : GT X Wx a fb) (hb : GW X Wx (.BoolOp .Or (b :: rest) pos) gb) : GW X Wx (.BoolOp .Or (a :: b :: rest) pos) (dOrB fb gb) := by
  obtain ⟨ta, pa, sa⟩ := ha
  obtain ⟨tb, pb, sb⟩ := hb
  exact ⟨_, pw_or pa pb, snd_or sa sb⟩
theorem GW.gt (h : GW X Wx a fb) : GT X Wx a fb := by
  obtain ⟨ta, pa, sa⟩ := h
  exact ⟨_, pa.pt, sa⟩
/-- .. as values -/
def dAnd (f g : TD) : TD := fun ρ W Q Qx => f ρ W (fun d ρ' W' => match d with | .v (.bl true) => g ρ' W' Q Qx | .v (.bl false) => Q (.bl false) ρ' W' | _ => False) Qx
def dOr (f g : TD) : TD := fun ρ W Q Qx => f ρ W (fun d ρ' W' => match d with | .v (.bl true) => Q (.bl true) ρ' W' | .v (.bl false) => g ρ' W' Q Qx | _ => False) Qx
def dNot (f : TD) : TD := fun ρ W Q Qx => f ρ W (fun d ρ' W' => match d with | .v (.bl b) => Q (.bl (!b)) ρ' W' | _ => False) Qx
theorem ge_one {op} (ha : GE X Wx a f) : GE X Wx (.BoolOp op [a] pos) f := by
  obtain ⟨ta, pa, sa⟩ := ha
  exact ⟨_, pe_one pa, sa⟩
theorem ge_and {rest : List Expr} (ha : GE X Wx a f) (hb : GE X Wx (.BoolOp .And (b :: rest) pos) g) : GE X Wx (.BoolOp .And (a :: b :: rest) pos) (dAnd f g) := by
  obtain ⟨ta, pa, sa⟩ := ha
  obtain ⟨tb, pb, sb⟩ := hb
  refine ⟨_, pe_and pa pb, fun F S H σ ρ W Q Qx R cf hf hx hE => ?_⟩
  refine sa F S H σ ρ W _ Qx _ cf hf hx fun S1 H1 ρ1 W1 d v e1 c1 r1 q1 => ?_
  split at q1
  · exact ⟨true, Rep.v_iff.mp r1, sb F S1 H1 σ ρ1 W1 Q Qx R c1 q1 (hx.up e1) fun S2 H2 ρ2 W2 d2 v2 e2 c2 r2 q2 => hE S2 H2 ρ2 W2 d2 v2 (e1.trans e2) c2 r2 q2⟩
  · exact ⟨false, Rep.v_iff.mp r1, hE S1 H1 ρ1 W1 _ _ e1 c1 (Rep.v_iff.mpr rfl) q1⟩
  · exact q1.elim
theorem ge_or {rest : List Expr} (ha : GE X Wx a f) (hb : GE X Wx (.BoolOp .Or (b :: rest) pos) g) : GE X Wx (.BoolOp .Or (a :: b :: rest) pos) (dOr f g) := by
  obtain ⟨ta, pa, sa⟩ := ha
  obtain ⟨tb, pb, sb⟩ := hb
  refine ⟨_, pe_or pa pb, fun F S H σ ρ W Q Qx R cf hf hx hE => ?_⟩
  refine sa F S H σ ρ W _ Qx _ cf hf hx fun S1 H1 ρ1 W1 d v e1 c1 r1 q1 => ?_
  split at q1
  · exact ⟨true, Rep.v_iff.mp r1, hE S1 H1 ρ1 W1 _ _ e1 c1 (Rep.v_iff.mpr rfl) q1⟩
  · exact ⟨false, Rep.v_iff.mp r1, sb F S1 H1 σ ρ1 W1 Q Qx R c1 q1 (hx.up e1) fun S2 H2 ρ2 W2 d2 v2 e2 c2 r2 q2 => hE S2 H2 ρ2 W2 d2 v2 (e1.trans e2) c2 r2 q2⟩
  · exact q1.elim
theorem ge_not (ha : GE X Wx a f) : GE X Wx (.UnaryOp .Not a pos) (dNot f) := by
  obtain ⟨ta, pa, sa⟩ := ha
  refine ⟨_, pe_not pa, fun F S H σ ρ W Q Qx R cf hf hx hE => ?_⟩
  refine sa F S H σ ρ W _ Qx _ cf hf hx fun S1 H1 ρ1 W1 d v e1 c1 r1 q1 => ?_
  split at q1
  · rename_i b
    exact ⟨b, Rep.v_iff.mp r1, hE S1 H1 ρ1 W1 _ _ e1 c1 (Rep.v_iff.mpr rfl) q1⟩
  · exact q1.elim
def dIf (t : TB) (f g : TD) : TD := fun ρ W Q Qx => t ρ W (fun b ρ' W' => if b = true then f ρ' W' Q Qx else g ρ' W' Q Qx) Qx
theorem ge_if (hc : GT X Wx c fb) (ha : GE X Wx a f) (hb : GE X Wx b g) : GE X Wx (.IfExp c a b pos) (dIf fb f g) := by
  obtain ⟨tc, pc, sc⟩ := hc
  obtain ⟨ta, pa, sa⟩ := ha
  obtain ⟨tb, pb, sb⟩ := hb
  refine ⟨_, pe_ifExp pc pa pb, fun F S H σ ρ W Q Qx R cf hf hx hE => ?_⟩
  refine sc F S H σ ρ W _ Qx _ cf hf hx fun S1 H1 ρ1 W1 k e1 c1 q1 => ?_
  cases k with
  | true => exact sa F S1 H1 σ ρ1 W1 Q Qx R c1 q1 (hx.up e1) fun S2 H2 ρ2 W2 d2 v2 e2 c2 r2 q2 => hE S2 H2 ρ2 W2 d2 v2 (e1.trans e2) c2 r2 q2
  | false => exact sb F S1 H1 σ ρ1 W1 Q Qx R c1 q1 (hx.up e1) fun S2 H2 ρ2 W2 d2 v2 e2 c2 r2 q2 => hE S2 H2 ρ2 W2 d2 v2 (e1.trans e2) c2 r2 q2
/-! ### arguments, displays -/
def dNil : TL := fun ρ W Q _ => Q [] ρ W
def dCons (f : TD) (g : TL) : TL := fun ρ W Q Qx => f ρ W (fun d ρ1 W1 => g ρ1 W1 (fun ds ρ2 W2 => Q (d :: ds) ρ2 W2) Qx) Qx
theorem ga_nil : GA X Wx [] dNil := ⟨_, pa_nil, fun F S H σ ρ W Q Qx R cf hf hx hE => hE S H ρ W [] [] .refl cf Reps.nil hf⟩
theorem snd_cons {K : PySem.W.Frag} {te : TE} {ta : TA} (he : Snd K Wx te f) (ha : SndL K Wx ta fl) : SndL K Wx (tCons te ta) (dCons f fl) := by
  intro F S H σ ρ W Q Qx R cf hf hx hE
  refine he F S H σ ρ W _ Qx _ cf hf hx fun S1 H1 ρ1 W1 d v e1 c1 r1 q1 => ?_
  refine ha F S1 H1 σ ρ1 W1 _ Qx _ c1 q1 (hx.up e1) fun S2 H2 ρ2 W2 ds vs e2 c2 r2 q2 => ?_
  exact hE S2 H2 ρ2 W2 _ _ (e1.trans e2) c2 (Reps.cons (r1.up e2) r2) q2
theorem ga_cons (he : GE X Wx e f) (ha : GA X Wx es fl) (hs : starEach (e :: es) X.env = (false, eval e X.env) :: starEach es X.env := by rfl) : GA X Wx (e :: es) (dCons f fl) := by
  obtain ⟨te, pe, se⟩ := he
  obtain ⟨ta, pa, sa⟩ := ha
  exact ⟨_, pa_cons pe pa hs, snd_cons se sa⟩
theorem same_new {H : Hp} {p : Addr} {o : HO} (h : H p = none) : Same H (upd H p o) := fun b u e => by
  rw [upd_ne (ne_of_none e h)]; exact e
def dTup (fl : TL) : TD := fun ρ W Q Qx => fl ρ W (fun ds ρ' W' => ds.length ≤ sizeLine ∧ Q (.tup ds) ρ' W') Qx
def dLst (fl : TL) : TD := fun ρ W Q Qx => fl ρ W (fun ds ρ' W' => ds.length ≤ sizeLine ∧ Q (.lst ds) ρ' W') Qx
theorem not_s {K : PySem.W.Frag} {F S : Reg} {H : Hp} {W : Wd} {p : Addr} (c : Cb K F S H W) (h : H p = none) : ¬ S p := fun hs => c.sd p hs h
theorem rep_newT {K : PySem.W.Frag} {F S : Reg} {H : Hp} {W : Wd} {p : Addr} {ds : List D} {vs : List V} (c : Cb K F S H W) (h : H p = none) (r : Reps K S H ds vs) : Rep K S (upd H p (.tup vs)) (.tup ds) (.ref p) :=
  Rep.tup_iff.mpr ⟨p, vs, rfl, .inl ⟨upd_same, not_s c h⟩, r.up (stp_same c (same_new h))⟩
theorem rep_newL {K : PySem.W.Frag} {F S : Reg} {H : Hp} {W : Wd} {p : Addr} {ds : List D} {vs : List V} (c : Cb K F S H W) (h : H p = none) (r : Reps K S H ds vs) : Rep K S (upd H p (.lst vs)) (.lst ds) (.ref p) :=
  Rep.lst_iff.mpr ⟨p, vs, rfl, ⟨upd_same, not_s c h⟩, r.up (stp_same c (same_new h))⟩
theorem ge_tup {x1} (ha : GA X Wx es fl) : GE X Wx (.Tuple es x1 pos) (dTup fl) := by
  obtain ⟨ta, pa, sa⟩ := ha
  refine ⟨_, pe_tup pa, fun F S H σ ρ W Q Qx R cf hf hx hE => ?_⟩
  refine sa F S H σ ρ W _ Qx _ cf hf hx fun S1 H1 ρ1 W1 ds vs e1 c1 r1 q1 => ?_
  refine ⟨by rw [r1.length]; exact q1.1, fun p hp => ?_⟩
  exact hE S1 _ ρ1 W1 _ _ (e1.trans (stp_same c1.cb (same_new hp))) (c1.same (same_new hp)) (rep_newT c1.cb hp r1) q1.2
theorem ge_lst (ha : GA X Wx es fl) : GE X Wx (.List es pos) (dLst fl) := by
  obtain ⟨ta, pa, sa⟩ := ha
  refine ⟨_, pe_lst pa, fun F S H σ ρ W Q Qx R cf hf hx hE => ?_⟩
  refine sa F S H σ ρ W _ Qx _ cf hf hx fun S1 H1 ρ1 W1 ds vs e1 c1 r1 q1 => ?_
  refine ⟨by rw [r1.length]; exact q1.1, fun p hp => ?_⟩
  exact hE S1 _ ρ1 W1 _ _ (e1.trans (stp_same c1.cb (same_new hp))) (c1.same (same_new hp)) (rep_newL c1.cb hp r1) q1.2
/-! ### calls of built-ins by values -/
def CSnd (K : PySem.W.Frag) (r : List V → Hp → VK → Prop) (g : List D → (D → Prop) → Prop) : Prop :=
  ∀ F S H W ds xs (P : D → Prop) (R : VK), Cb K F S H W → Reps K S H ds xs → g ds P → (∀ d' v H', Same H H' → Rep K S H' d' v → P d' → R v H') → r xs H R
def dCB (g : List D → (D → Prop) → Prop) (fl : TL) : TD := fun ρ W Q Qx => fl ρ W (fun ds ρ' W' => g ds fun z => Q z ρ' W') Qx
theorem snd_cb {K : PySem.W.Frag} {r : List V → Hp → VK → Prop} {k : List D → (D → Prop) → Prop} {ta : TA} (hr : CSnd K r k) (ha : SndL K Wx ta fl) : Snd K Wx (tCB r ta) (dCB k fl) := by
  intro F S H σ ρ W Q Qx R cf hf hx hE
  refine ha F S H σ ρ W _ Qx _ cf hf hx fun S1 H1 ρ1 W1 ds vs e1 c1 r1 q1 => ?_
  refine hr F S1 H1 W1 ds vs _ _ c1.cb r1 q1 fun d3 v3 H3 s3 r3 q3 => ?_
  exact hE S1 H3 ρ1 W1 d3 v3 (e1.trans (stp_same c1.cb s3)) (c1.same s3) r3 q3
theorem ge_callB {x : Str} {id : String} {p : Pos} {r : List V → Hp → VK → Prop} {k : List D → (D → Prop) → Prop} (hc : CallR X (.builtin id) r) (hr : CSnd X.K r k) (hg : Gl X x) (hm : X.mg x = none) (hv : bootBuiltins x = some (.builtin id)) (ha : GA X Wx (e :: es) fl) (hn : x ≠ "__name__" := by decide) (hdb : (x == ("__debug__" : Str)) = false := by decide)
    (he : starEach (e :: es) X.env = (false, eval e X.env) :: starEach es X.env := by rfl) (hpl : (backTo pos (starEach es X.env)).any (·.1) = false := by rfl) : GE X Wx (.Call (.Name x p) (e :: es) [] pos) (dCB k fl) := by
  obtain ⟨ta, pa, sa⟩ := ha
  exact ⟨_, pe_callB hc hg hm hv pa hn hdb he hpl, snd_cb hr sa⟩
theorem ge_callTy {x : Str} {id : String} {p : Pos} {r : List V → Hp → VK → Prop} {k : List D → (D → Prop) → Prop} (hc : CallR X (.type id) r) (hr : CSnd X.K r k) (hg : Gl X x) (hm : X.mg x = none) (hv : bootBuiltins x = some (.type id)) (ha : GA X Wx (e :: es) fl) (hn : x ≠ "__name__" := by decide) (hdb : (x == ("__debug__" : Str)) = false := by decide)
    (he : starEach (e :: es) X.env = (false, eval e X.env) :: starEach es X.env := by rfl) (hpl : (backTo pos (starEach es X.env)).any (·.1) = false := by rfl) : GE X Wx (.Call (.Name x p) (e :: es) [] pos) (dCB k fl) := by
  obtain ⟨ta, pa, sa⟩ := ha
  exact ⟨_, pe_callTy hc hg hm hv pa hn hdb he hpl, snd_cb hr sa⟩
end
end G

namespace G
open PySem PySem.Spec L2

/-! ### statements -/
abbrev KS := Env → Wd → Prop
structure EndsD where
  nx : KS
  rt : D → Wd → Prop
  bk : KS := fun _ _ => False
  ct : KS := fun _ _ => False
  ex : KX := fun _ _ _ _ => False
abbrev TSD := EndsD → Env → Wd → Prop
structure Lnk (K : PySem.W.Frag) (Wx : WX) (F S : Reg) (H : Hp) (De : EndsD) (Dh : Ends) : Prop where
  nx : ∀ S' H' σ' ρ' W', Stp F S H S' H' → Cf K F S' H' σ' ρ' W' → De.nx ρ' W' → Dh.nx σ' H'
  rt : ∀ S' H' σ' ρ' W' d v, Stp F S H S' H' → Cf K F S' H' σ' ρ' W' → Rep K S' H' d v → De.rt d W' → Dh.rt v H'
  bk : ∀ S' H' σ' ρ' W', Stp F S H S' H' → Cf K F S' H' σ' ρ' W' → De.bk ρ' W' → Dh.bk σ' H'
  ct : ∀ S' H' σ' ρ' W', Stp F S H S' H' → Cf K F S' H' σ' ρ' W' → De.ct ρ' W' → Dh.ct σ' H'
  ex : LkX K F S H Wx De.ex
theorem Lnk.up {K : PySem.W.Frag} {Wx : WX} {F S S1 : Reg} {H H1 : Hp} {De : EndsD} {Dh : Ends} (l : Lnk K Wx F S H De Dh) (e : Stp F S H S1 H1) : Lnk K Wx F S1 H1 De Dh where
  nx := fun S' H' σ' ρ' W' e' c q => l.nx S' H' σ' ρ' W' (e.trans e') c q
  rt := fun S' H' σ' ρ' W' d v e' c r q => l.rt S' H' σ' ρ' W' d v (e.trans e') c r q
  bk := fun S' H' σ' ρ' W' e' c q => l.bk S' H' σ' ρ' W' (e.trans e') c q
  ct := fun S' H' σ' ρ' W' e' c q => l.ct S' H' σ' ρ' W' (e.trans e') c q
  ex := l.ex.up e
def SndS (K : PySem.W.Frag) (Wx : WX) (t : TS) (f : TSD) : Prop :=
  ∀ F S H σ ρ W De Dh, Cf K F S H σ ρ W → f De ρ W → Lnk K Wx F S H De Dh → t Dh σ H
def GS (X : Cx) (Wx : WX) (st : Stmt) (f : TSD) : Prop := ∃ t, PS X st t ∧ SndS X.K Wx t f
def GSs (X : Cx) (Wx : WX) (st : List Stmt) (f : TSD) : Prop := ∃ t, PSs X st t ∧ SndS X.K Wx t f
section
variable {X : Cx} {Wx : WX} {st : Stmt} {rest : List Stmt} {f g : TSD} {e : Expr} {fe : TD} {pos : Pos}
def dNext : TSD := fun De ρ W => De.nx ρ W
def dSeq (f g : TSD) : TSD := fun De ρ W => f { De with nx := g De } ρ W
theorem gss_nil : GSs X Wx [] dNext := ⟨_, pss_nil, fun F S H σ ρ W De Dh cf hf l => l.nx S H σ ρ W .refl cf hf⟩
theorem snd_seq {K : PySem.W.Frag} {t u : TS} (ha : SndS K Wx t f) (hb : SndS K Wx u g) : SndS K Wx (tSeq t u) (dSeq f g) := fun F S H σ ρ W De Dh cf hf l =>
  ha F S H σ ρ W { De with nx := g De } { Dh with nx := u Dh } cf hf ⟨fun S' H' σ' ρ' W' e' c q => hb F S' H' σ' ρ' W' De Dh c q (l.up e'), l.rt, l.bk, l.ct, l.ex⟩
theorem gss_cons (h1 : GS X Wx st f) (h2 : GSs X Wx rest g) : GSs X Wx (st :: rest) (dSeq f g) := by
  obtain ⟨ta, pa, sa⟩ := h1
  obtain ⟨tb, pb, sb⟩ := h2
  exact ⟨_, pss_cons pa pb, snd_seq sa sb⟩
theorem gss_one (h1 : GS X Wx st f) : GSs X Wx [st] f := by
  obtain ⟨ta, pa, sa⟩ := h1
  exact ⟨_, pss_one pa, sa⟩
def dNever : TSD := fun _ _ _ => False
theorem gs_never : GS X Wx st dNever := ⟨_, ps_never, fun F S H σ ρ W De Dh cf hf l => hf.elim⟩
theorem gss_never : GSs X Wx rest dNever := ⟨_, pss_never, fun F S H σ ρ W De Dh cf hf l => hf.elim⟩
theorem gs_pass : GS X Wx (.Pass pos) dNext := ⟨_, ps_pass, fun F S H σ ρ W De Dh cf hf l => l.nx S H σ ρ W .refl cf hf⟩
def dBreak : TSD := fun De ρ W => De.bk ρ W
def dCont : TSD := fun De ρ W => De.ct ρ W
theorem gs_break : GS X Wx (.Break pos) dBreak := ⟨_, ps_break, fun F S H σ ρ W De Dh cf hf l => l.bk S H σ ρ W .refl cf hf⟩
theorem gs_cont : GS X Wx (.Continue pos) dCont := ⟨_, ps_continue, fun F S H σ ρ W De Dh cf hf l => l.ct S H σ ρ W .refl cf hf⟩
theorem gs_doc {x j pos pos'} : GS X Wx (.Expr (.Constant (.str x) j pos) pos') dNext := ⟨_, ps_doc, fun F S H σ ρ W De Dh cf hf l => l.nx S H σ ρ W .refl cf hf⟩
def dDrop (fe : TD) : TSD := fun De ρ W => fe ρ W (fun _ ρ' W' => De.nx ρ' W') De.ex
theorem gs_expr (he : GE X Wx e fe) (hs : swapsWith e none pos.line X.env = pure false := by rfl) : GS X Wx (.Expr e pos) (dDrop fe) := by
  obtain ⟨te, pe, se⟩ := he
  exact ⟨_, ps_expr pe hs, fun F S H σ ρ W De Dh cf hf l => se F S H σ ρ W _ De.ex _ cf hf l.ex fun S' H' ρ' W' d v e' c r q => l.nx S' H' σ ρ' W' e' c q⟩
def dRet (fe : TD) : TSD := fun De ρ W => fe ρ W (fun d _ W' => De.rt d W') De.ex
theorem gs_ret (he : GE X Wx e fe) : GS X Wx (.Return (some e) pos) (dRet fe) := by
  obtain ⟨te, pe, se⟩ := he
  exact ⟨_, ps_ret pe, fun F S H σ ρ W De Dh cf hf l => se F S H σ ρ W _ De.ex _ cf hf l.ex fun S' H' ρ' W' d v e' c r q => l.rt S' H' σ ρ' W' d v e' c r q⟩
def dRetN : TSD := fun De ρ W => De.rt .non W
theorem gs_retN : GS X Wx (.Return none pos) dRetN := ⟨_, ps_retN, fun F S H σ ρ W De Dh cf hf l => l.rt S H σ ρ W _ _ .refl cf (Rep.v_iff.mpr rfl) hf⟩
def dIfS (t : TB) (f g : TSD) : TSD := fun De ρ W => t ρ W (fun b ρ' W' => if b = true then f De ρ' W' else g De ρ' W') De.ex
theorem gs_if {c : Expr} {a b : List Stmt} {fc : TB} (hc : GT X Wx c fc) (ha : GSs X Wx a f) (hb : GSs X Wx b g) : GS X Wx (.If c a b pos) (dIfS fc f g) := by
  obtain ⟨tc, pc, sc⟩ := hc
  obtain ⟨ta, pa, sa⟩ := ha
  obtain ⟨tb, pb, sb⟩ := hb
  refine ⟨_, ps_if pc pa pb, fun F S H σ ρ W De Dh cf hf l => ?_⟩
  refine sc F S H σ ρ W _ De.ex _ cf hf l.ex fun S' H' ρ' W' b e' c q => ?_
  cases b with
  | true => exact sa F S' H' σ ρ' W' De Dh c q (l.up e')
  | false => exact sb F S' H' σ ρ' W' De Dh c q (l.up e')

/-! ### targets -/
abbrev TGD := D → Env → Wd → KS → Prop
abbrev TGLD := List D → Env → Wd → KS → Prop
/-- other slots than these are as they were -/
def Off {α : Type} (ts : List Nat) (l l' : List α) : Prop := l'.length = l.length ∧ ∀ j, j ∉ ts → l'[j]? = l[j]?
theorem Off.refl {α : Type} {ts : List Nat} {l : List α} : Off ts l l := ⟨rfl, fun _ _ => rfl⟩
theorem Off.set {α : Type} {l : List α} {i : Nat} {x : α} : Off [i] l (l.set i x) := ⟨by simp, fun j hj => by rw [List.getElem?_set_ne (by simpa [eq_comm] using hj)]⟩
theorem Off.trans {α : Type} {ts us : List Nat} {l l' l'' : List α} (a : Off ts l l') (b : Off us l' l'') : Off (ts ++ us) l l'' := ⟨b.1.trans a.1, fun j hj => by
  rw [List.mem_append, not_or] at hj
  exact (b.2 j hj.2).trans (a.2 j hj.1)⟩
def SndG (K : PySem.W.Frag) (t : TG) (g : TGD) (ts : List Nat) : Prop :=
  ∀ F S H σ ρ W d v (P : KS) (R : St → Hp → Prop), Cf K F S H σ ρ W → Rep K S H d v → g d ρ W P → (∀ S' H' σ' ρ' W', Stp F S H S' H' → Cf K F S' H' σ' ρ' W' → Off ts σ σ' → Off ts ρ ρ' → P ρ' W' → R σ' H') → t v σ H R
def SndGL (K : PySem.W.Frag) (t : TGs) (g : TGLD) (ts : List Nat) : Prop :=
  ∀ F S H σ ρ W ds vs (P : KS) (R : St → Hp → Prop), Cf K F S H σ ρ W → Reps K S H ds vs → g ds ρ W P → (∀ S' H' σ' ρ' W', Stp F S H S' H' → Cf K F S' H' σ' ρ' W' → Off ts σ σ' → Off ts ρ ρ' → P ρ' W' → R σ' H') → t vs σ H R
def GG (X : Cx) (target : Expr) (g : TGD) (us : List Nat) : Prop := ∃ t, PG X target t ∧ SndG X.K t g us
def GGs (X : Cx) (ts : List Expr) (g : TGLD) (us : List Nat) : Prop := ∃ t, PGs X ts t ∧ SndGL X.K t g us
end
/-- shared data into a slot -/
theorem Cf.setSh {K : PySem.W.Frag} {F S : Reg} {H : Hp} {σ : St} {ρ : Env} {W : Wd} (c : Cf K F S H σ ρ W) (i : Nat) {d : D} {v : V} (r : Rep K S H d v) : Cf K F S H (σ.set i (some v)) (ρ.set i (some (.sh d))) W where
  cb := c.cb
  len := by simp [c.len]
  sh := fun j d' h => by
    by_cases hj : i = j
    · subst hj
      have hl : i < ρ.length := by
        have := (List.getElem?_eq_some_iff.mp h).1
        simpa using this
      rw [List.getElem?_set_self hl] at h
      cases h
      exact ⟨v, by rw [List.getElem?_set_self (by rw [c.len]; exact hl)], r⟩
    · rw [List.getElem?_set_ne hj] at h
      obtain ⟨w, h1, h2⟩ := c.sh j d' h
      exact ⟨w, by rw [List.getElem?_set_ne hj]; exact h1, h2⟩
  om := fun j ds h => by
    by_cases hj : i = j
    · subst hj
      have hl : i < ρ.length := by
        have := (List.getElem?_eq_some_iff.mp h).1
        simpa using this
      rw [List.getElem?_set_self hl] at h
      cases h
    · rw [List.getElem?_set_ne hj] at h
      obtain ⟨p, h1, h2⟩ := c.om j ds h
      exact ⟨p, by rw [List.getElem?_set_ne hj]; exact h1, h2⟩
  dis := fun j k p h1 h2 => by
    have go : ∀ j, Own (σ.set i (some v)) (ρ.set i (some (.sh d))) j p → Own σ ρ j p := fun j ⟨ds, q1, q2⟩ => by
      by_cases hj : i = j
      · subst hj
        have hl : i < ρ.length := by
          have := (List.getElem?_eq_some_iff.mp q1).1
          simpa using this
        rw [List.getElem?_set_self hl] at q1
        cases q1
      · rw [List.getElem?_set_ne hj] at q1 q2
        exact ⟨ds, q1, q2⟩
    exact c.dis j k p (go j h1) (go k h2)
section
variable {X : Cx} {Wx : WX} {st : Stmt} {rest : List Stmt} {f g : TSD} {e : Expr} {fe : TD} {pos : Pos}
def gdName (i : Nat) : TGD := fun d ρ W P => P (ρ.set i (some (.sh d))) W
theorem snd_gName {K : PySem.W.Frag} {i : Nat} : SndG K (gName i) (gdName i) [i] := fun F S H σ ρ W d v P R cf r hp k => k S H _ _ W .refl (cf.setSh i r) .set .set hp
theorem gg_name {i : Nat} {x : Str} (hN : X.N.Nodup) (hi : X.N[i]? = some x) (hx : Loc X.env.scope x) (hf : X.fn x = true ∨ X.env.scope.names.lookup x = some .local := by first | exact .inl rfl | exact .inr rfl | assumption) : GG X (.Name x pos) (gdName i) [i] :=
  ⟨_, pg_name hN hi hx hf, snd_gName⟩
def gdNil : TGLD := fun ds ρ W P => match ds with | [] => P ρ W | _ => False
def gdCons (g : TGD) (h : TGLD) : TGLD := fun ds ρ W P => match ds with | d :: r => g d ρ W (fun ρ' W' => h r ρ' W' P) | _ => False
theorem ggs_nil : GGs X [] gdNil [] := ⟨_, pgs_nil, fun F S H σ ρ W ds vs P R cf r hp k => by
  unfold gdNil at hp
  split at hp
  · exact ⟨Reps.nil_iff.mp r, k S H _ _ W .refl cf .refl .refl hp⟩
  · exact hp.elim⟩
theorem ggs_cons {es : List Expr} {g : TGD} {h : TGLD} {ts us : List Nat} (h1 : GG X e g ts) (h2 : GGs X es h us) (hs : (assignEach (e :: es) X.env).map (·.2) = assign e X.env :: (assignEach es X.env).map (·.2) := by rfl) : GGs X (e :: es) (gdCons g h) (ts ++ us) := by
  obtain ⟨ta, pa, sa⟩ := h1
  obtain ⟨tb, pb, sb⟩ := h2
  refine ⟨_, pgs_cons pa pb hs, fun F S H σ ρ W ds vs P R cf r hp k => ?_⟩
  unfold gdCons at hp
  split at hp
  · rename_i d rd
    obtain ⟨x, rx, rfl, r1, r2⟩ := Reps.cons_iff.mp r
    refine ⟨x, rx, rfl, ?_⟩
    refine sa F S H σ ρ W d x _ _ cf r1 hp fun S' H' σ' ρ' W' e' c o1 o2 q => ?_
    exact sb F S' H' σ' ρ' W' rd rx P R c (r2.up e') q fun S2 H2 σ2 ρ2 W2 e2 c2 o3 o4 q2 => k S2 H2 σ2 ρ2 W2 (e'.trans e2) c2 (o1.trans o3) (o2.trans o4) q2
  · exact hp.elim
def gdTup (n : Nat) (g : TGLD) : TGD := fun d ρ W P => match d with | .tup ds => ds.length = n ∧ g ds ρ W P | _ => False
theorem gg_tup {es : List Expr} {k : Nat} {g : TGLD} {n : Nat} {ts : List Nat} (hc : X.calm = true) (h : GGs X es g ts) (hn : (assignEach es X.env).length = n := by rfl) (hst : (assignEach es X.env).findIdx? (·.1) = none := by rfl) : GG X (.Tuple es k pos) (gdTup n g) ts := by
  obtain ⟨ta, pa, sa⟩ := h
  refine ⟨_, pg_tup hc pa hn hst, fun F S H σ ρ W d v P R cf r hp k => ?_⟩
  unfold gdTup at hp
  split at hp
  · rename_i ds
    obtain ⟨a, xs, rfl, h1, h2⟩ := Rep.tup_iff.mp r
    exact ⟨a, xs, rfl, h1.sq, by rw [h2.length]; exact hp.1, sa F S H σ ρ W ds xs P R cf h2 hp.2 k⟩
  · exact hp.elim
/-- target = e -/
def dAsg (fe : TD) (g : TGD) : TSD := fun De ρ W => fe ρ W (fun d ρ' W' => g d ρ' W' De.nx) De.ex
theorem snd_asg {K : PySem.W.Frag} {te : TE} {t : TG} {g : TGD} {ts : List Nat} (se : Snd K Wx te fe) (sg : SndG K t g ts) : SndS K Wx (tAsg te t) (dAsg fe g) := fun F S H σ ρ W De Dh cf hf l =>
  se F S H σ ρ W _ De.ex _ cf hf l.ex fun S' H' ρ' W' d v e' c r q => sg F S' H' σ ρ' W' d v _ _ c r q fun S2 H2 σ2 ρ2 W2 e2 c2 _ _ q2 => l.nx S2 H2 σ2 ρ2 W2 (e'.trans e2) c2 q2
theorem gs_asg {tg : Expr} {g : TGD} {ts : List Nat} (he : GE X Wx e fe) (hg : GG X tg g ts) (hs : swapsWithSole [tg] e pos.line X.env = pure false := by rfl) (hw : swappedStores [tg] e X.env = pure none := by rfl) (h1 : (assignEach [tg] X.env).map (·.2) = [assign tg X.env] := by rfl) : GS X Wx (.Assign [tg] e pos) (dAsg fe g) := by
  obtain ⟨te, pe, se⟩ := he
  obtain ⟨tg', pg, sg⟩ := hg
  exact ⟨_, ps_asg pe pg hs hw h1, snd_asg se sg⟩
theorem gs_set {i : Nat} {x : Str} {pos' : Pos} (hN : X.N.Nodup) (hi : X.N[i]? = some x) (hx : Loc X.env.scope x) (he : GE X Wx e fe) (hs : swapsWith e (some (.Name x pos')) pos.line X.env = pure false := by rfl) (hf : X.fn x = true ∨ X.env.scope.names.lookup x = some .local := by first | exact .inl rfl | exact .inr rfl | assumption) :
    GS X Wx (.Assign [.Name x pos'] e pos) (dAsg fe (gdName i)) := by
  obtain ⟨te, pe, se⟩ := he
  exact ⟨_, ps_set hN hi hx pe hs hf, snd_asg se snd_gName⟩
/-- a, b = e1, e2 with two local names -/
def dPar (i j : Nat) (fl : TL) : TSD := fun De ρ W => fl ρ W (fun ds ρ' W' => match ds with | [d, d'] => De.nx ((ρ'.set i (some (.sh d))).set j (some (.sh d'))) W' | _ => False) De.ex
theorem gs_par {i j : Nat} {x y : Str} {a b : Expr} {fl : TL} {px py pt : Pos} {kt k2 pt2} (hc : X.calm = true) (hN : X.N.Nodup) (hi : X.N[i]? = some x) (hj : X.N[j]? = some y) (hij : i ≠ j)
    (hx : X.env.scope.names.lookup x = some .local) (hy : X.env.scope.names.lookup y = some .local) (ha : GA X Wx [a, b] fl)
    (hw : swappedStores [.Tuple [.Name x px, .Name y py] kt pt] (.Tuple [a, b] k2 pt2) X.env = pure (some [x, y]))
    (hs : swapsWithSole [.Tuple [.Name x px, .Name y py] kt pt] (.Tuple [a, b] k2 pt2) pos.line X.env = pure false := by rfl) :
    GS X Wx (.Assign [.Tuple [.Name x px, .Name y py] kt pt] (.Tuple [a, b] k2 pt2) pos) (dPar i j fl) := by
  obtain ⟨ta, pa, sa⟩ := ha
  refine ⟨_, ps_par hc hN hi hj hij hx hy pa hw hs, fun F S H σ ρ W De Dh cf hf l => ?_⟩
  refine sa F S H σ ρ W _ De.ex _ cf hf l.ex fun S' H' ρ' W' ds vs e' c r q => ?_
  split at q
  · rename_i d d'
    obtain ⟨v, rv, rfl, r1, r2⟩ := Reps.cons_iff.mp r
    obtain ⟨w, rw', rfl, r3, r4⟩ := Reps.cons_iff.mp r2
    rw [Reps.nil_iff.mp r4]
    exact ⟨v, w, rfl, l.nx S' H' _ _ W' e' ((c.setSh i r1).setSh j r3) q⟩
  · exact q.elim
/-- x op= e -/
def IpSnd (K : PySem.W.Frag) (r : TIp) (g : D → D → (D → Prop) → Prop) : Prop := RSnd K r g
def dAug (i : Nat) (k : D → D → (D → Prop) → Prop) (fe : TD) : TSD := fun De ρ W => match ρ[i]? with
  | some (some (.sh d)) => fe ρ W (fun e ρ' W' => k d e fun z => De.nx (ρ'.set i (some (.sh z))) W') De.ex
  | _ => False
theorem gs_aug {i : Nat} {x : Str} {op : Operator} {r : TIp} {k : D → D → (D → Prop) → Prop} {pos' : Pos} (hN : X.N.Nodup) (hi : X.N[i]? = some x) (hx : Loc X.env.scope x) (he : GE X Wx e fe) (ho : PIp X op r) (hr : RSnd X.K r k) (hf : X.fn x = true ∨ X.env.scope.names.lookup x = some .local := by first | exact .inl rfl | exact .inr rfl | assumption) :
    GS X Wx (.AugAssign (.Name x pos') op e pos) (dAug i k fe) := by
  obtain ⟨te, pe, se⟩ := he
  refine ⟨_, ps_aug hN hi hx pe ho hf, fun F S H σ ρ W De Dh cf hf l => ?_⟩
  unfold dAug at hf
  split at hf
  · rename_i d e1
    obtain ⟨v, h1, h2⟩ := cf.sh i d e1
    refine ⟨v, h1, ?_⟩
    refine se F S H σ ρ W _ De.ex _ cf hf l.ex fun S' H' ρ' W' d2 v2 e' c r2 q => ?_
    refine hr F S' H' W' d d2 v v2 _ _ c.cb (h2.up e') r2 q fun d3 v3 H3 s3 r3 q3 => ?_
    exact l.nx S' H3 _ _ W' (e'.trans (stp_same c.cb s3)) ((c.same s3).setSh i r3) q3
  · exact hf.elim
end

/-! ### a list of the frame's own -/
theorem own_set {σ : St} {ρ : Env} {i j : Nat} {v : Option V} {d : Option Sl} {p : Addr} (h : Own (σ.set i v) (ρ.set i d) j p) : i = j ∨ Own σ ρ j p := by
  by_cases hj : i = j
  · exact .inl hj
  · obtain ⟨ds, q1, q2⟩ := h
    rw [List.getElem?_set_ne hj] at q1 q2
    exact .inr ⟨ds, q1, q2⟩
/-- a fresh list into a slot -/
theorem Cf.newOm {K : PySem.W.Frag} {F S : Reg} {H : Hp} {σ : St} {ρ : Env} {W : Wd} (c : Cf K F S H σ ρ W) (i : Nat) {p : Addr} {u : HO} {o : MO} (hp : H p = none) (r : ∀ S' H', Stp F S H S' H' → H' p = some u → MRep K S' H' p o) :
    Stp F S H (fun a => S a ∨ a = p) (upd H p u) ∧ Cf K F (fun a => S a ∨ a = p) (upd H p u) (σ.set i (some (.ref p))) (ρ.set i (some (.om o))) W := by
  have st : Stp F S H (fun a => S a ∨ a = p) (upd H p u) :=
    ⟨fun a o _ h => same_new hp a o h, fun a h1 h2 => by
      rcases h1 with h1 | h1
      · exact absurd h1 h2
      · rw [h1]; exact hp, fun a h => by
      by_cases ha : a = p
      · rw [ha]; exact hp
      · rw [upd_ne ha] at h; exact h, fun a hf => by
      have : a ≠ p := fun q => by
        rw [q] at hf
        exact c.cb.sd p (c.cb.fs p hf) hp
      rw [upd_ne this]⟩
  have np : ∀ a, S a → a ≠ p := fun a hs q => c.cb.sd a hs (by rw [q]; exact hp)
  refine ⟨st, ⟨fun a h => ?_, fun a h => .inl (c.cb.fs a h), fun q o hw => ?_⟩, by simp [c.len], fun j d' h => ?_, fun j ds' h => ?_, fun j k q h1 h2 => ?_⟩
  · rcases h with h | h
    · rw [upd_ne (np a h)]; exact c.cb.sd a h
    · rw [h, upd_same]; simp
  · obtain ⟨h1, h2, h3⟩ := c.cb.w q o hw
    exact ⟨.inl h1, h2, h3.up st (upd_ne (np q h1))⟩
  · by_cases hj : i = j
    · subst hj
      have hl : i < ρ.length := by
        have := (List.getElem?_eq_some_iff.mp h).1
        simpa using this
      rw [List.getElem?_set_self hl] at h
      cases h
    · rw [List.getElem?_set_ne hj] at h
      obtain ⟨w, h1, h2⟩ := c.sh j d' h
      exact ⟨w, by rw [List.getElem?_set_ne hj]; exact h1, h2.up st⟩
  · by_cases hj : i = j
    · subst hj
      have hl : i < ρ.length := by
        have := (List.getElem?_eq_some_iff.mp h).1
        simpa using this
      rw [List.getElem?_set_self hl] at h
      cases h
      refine ⟨p, by rw [List.getElem?_set_self (by rw [c.len]; exact hl)], r _ _ st upd_same, .inr rfl, fun hf => c.cb.sd p (c.cb.fs p hf) hp, ?_⟩
      cases q : W p with
      | none => rfl
      | some o => exact absurd hp (c.cb.sd p (c.cb.w p o q).1)
    · rw [List.getElem?_set_ne hj] at h
      obtain ⟨q, h1, h3, h4, h5⟩ := c.om j ds' h
      exact ⟨q, by rw [List.getElem?_set_ne hj]; exact h1, h3.up st (upd_ne (np q h4)), .inl h4, h5⟩
  · have own_s : ∀ j, Own σ ρ j q → S q := fun j ⟨ds, q1, q2⟩ => by
      obtain ⟨p', e1, _, hs, _⟩ := c.om j ds q1
      rw [q2] at e1; cases e1; exact hs
    have at_i : ∀ {j}, i = j → Own (σ.set i (some (.ref p))) (ρ.set i (some (.om o))) j q → q = p := fun {j} e ⟨ds', q1, q2⟩ => by
      subst e
      have hl : i < σ.length := by
        have := (List.getElem?_eq_some_iff.mp q2).1
        simpa using this
      rw [List.getElem?_set_self hl] at q2
      cases q2; rfl
    rcases own_set h1 with e1 | o1
    · rcases own_set h2 with e2 | o2
      · exact e1.symm.trans e2
      · exact absurd (at_i e1 h1) (np q (own_s k o2))
    · rcases own_set h2 with e2 | o2
      · exact absurd (at_i e2 h2) (np q (own_s j o1))
      · exact c.dis j k q o1 o2
/-- the own list's content changes -/
theorem Cf.chOm {K : PySem.W.Frag} {F S : Reg} {H : Hp} {σ : St} {ρ : Env} {W : Wd} (c : Cf K F S H σ ρ W) {i : Nat} {p : Addr} {u : HO} {o1 o0 : MO} (h0 : ρ[i]? = some (some (.om o0))) (hp : σ[i]? = some (some (.ref p))) (r : ∀ S' H', Stp (fun _ => False) S H S' H' → H' p = some u → MRep K S' H' p o1) :
    Stp F S H S (upd H p u) ∧ Cf K F S (upd H p u) σ (ρ.set i (some (.om o1))) W := by
  obtain ⟨p', e1, r0, hs, hf, hw⟩ := c.om i o0 h0
  rw [hp] at e1; cases e1
  have st0 : Stp (fun _ => False) S H S (upd H p u) :=
    ⟨fun a o h e => by
      have : a ≠ p := fun q => h (q ▸ hs)
      rw [upd_ne this]; exact e, fun a h1 h2 => absurd h1 h2, fun a h => by
      by_cases ha : a = p
      · rw [ha, upd_same] at h; cases h
      · rw [upd_ne ha] at h; exact h, fun a h => h.elim⟩
  have st : Stp F S H S (upd H p u) :=
    ⟨fun a o h e => by
      have : a ≠ p := fun q => h (q ▸ hs)
      rw [upd_ne this]; exact e, fun a h1 h2 => absurd h1 h2, fun a h => by
      by_cases ha : a = p
      · rw [ha, upd_same] at h; cases h
      · rw [upd_ne ha] at h; exact h, fun a h => by
      have : a ≠ p := fun q => hf (q ▸ h)
      rw [upd_ne this]⟩
  have hl : i < ρ.length := (List.getElem?_eq_some_iff.mp h0).1
  refine ⟨st, ⟨fun a h => ?_, c.cb.fs, fun q o hq => ?_⟩, by simp [c.len], fun j d' h => ?_, fun j ds' h => ?_, fun j k q h1 h2 => ?_⟩
  · intro q; exact c.cb.sd a h (st.dom a q)
  · obtain ⟨h1, h2, h3⟩ := c.cb.w q o hq
    have : q ≠ p := fun z => by rw [z, hw] at hq; cases hq
    exact ⟨h1, h2, h3.up st (upd_ne this)⟩
  · by_cases hj : i = j
    · subst hj
      rw [List.getElem?_set_self hl] at h
      cases h
    · rw [List.getElem?_set_ne hj] at h
      obtain ⟨w, h1, h2⟩ := c.sh j d' h
      exact ⟨w, h1, h2.up st⟩
  · by_cases hj : i = j
    · subst hj
      rw [List.getElem?_set_self hl] at h
      cases h
      exact ⟨p, hp, r _ _ st0 upd_same, hs, hf, hw⟩
    · rw [List.getElem?_set_ne hj] at h
      obtain ⟨q, h1, h3, h4, h5⟩ := c.om j ds' h
      have : q ≠ p := fun z => hj (c.dis i j p ⟨o0, h0, hp⟩ ⟨ds', h, z ▸ h1⟩)
      exact ⟨q, h1, h3.up st (upd_ne this), h4, h5⟩
  · have go : ∀ j, Own σ (ρ.set i (some (.om o1))) j q → Own σ ρ j q := fun j ⟨ds', q1, q2⟩ => by
      by_cases hj : i = j
      · subst hj
        exact ⟨o0, h0, q2⟩
      · rw [List.getElem?_set_ne hj] at q1
        exact ⟨ds', q1, q2⟩
    exact c.dis j k q (go j h1) (go k h2)
theorem Cf.ol {K : PySem.W.Frag} {F S : Reg} {H : Hp} {σ : St} {ρ : Env} {W : Wd} (c : Cf K F S H σ ρ W) (i : Nat) (ds : List D) (h0 : ρ[i]? = some (some (.ol ds))) : ∃ p xs, σ[i]? = some (some (.ref p)) ∧ H p = some (.lst xs) ∧ Reps K S H ds xs ∧ S p ∧ ¬ F p ∧ W p = none := by
  obtain ⟨p, h1, ⟨xs, h2, h3⟩, h4⟩ := c.om i _ h0
  exact ⟨p, xs, h1, h2, h3, h4⟩
theorem Cf.newOl {K : PySem.W.Frag} {F S : Reg} {H : Hp} {σ : St} {ρ : Env} {W : Wd} (c : Cf K F S H σ ρ W) (i : Nat) {p : Addr} {xs : List V} {ds : List D} (hp : H p = none) (r : Reps K S H ds xs) :
    Stp F S H (fun a => S a ∨ a = p) (upd H p (.lst xs)) ∧ Cf K F (fun a => S a ∨ a = p) (upd H p (.lst xs)) (σ.set i (some (.ref p))) (ρ.set i (some (.ol ds))) W :=
  c.newOm i hp fun S' H' e h => ⟨xs, h, r.up e⟩
theorem Cf.chOl {K : PySem.W.Frag} {F S : Reg} {H : Hp} {σ : St} {ρ : Env} {W : Wd} (c : Cf K F S H σ ρ W) {i : Nat} {p : Addr} {ds : List D} {xs : List V} {o0 : MO} (h0 : ρ[i]? = some (some (.om o0))) (hp : σ[i]? = some (some (.ref p))) (r : Reps K S H ds xs) :
    Stp F S H S (upd H p (.lst xs)) ∧ Cf K F S (upd H p (.lst xs)) σ (ρ.set i (some (.ol ds))) W :=
  c.chOm h0 hp fun S' H' e h => ⟨xs, h, r.up e⟩
/-- nobody changes it any more -/
theorem Cf.freezeM {K : PySem.W.Frag} {F S : Reg} {H : Hp} {σ : St} {ρ : Env} {W : Wd} (c : Cf K F S H σ ρ W) {i : Nat} {o : MO} {d : D} (h0 : ρ[i]? = some (some (.om o))) (hd : ∀ p S', Stp F S H S' H → ¬ S' p → MRep K S' H p o → Rep K S' H d (.ref p)) :
    ∃ S', Stp F S H S' H ∧ Cf K F S' H σ (ρ.set i (some (.sh d))) W := by
  obtain ⟨p, hp, r0, hs, hf, hw⟩ := c.om i o h0
  have st : Stp F S H (fun a => S a ∧ a ≠ p) H := ⟨fun a o _ e => e, fun a h1 h2 => absurd h1.1 h2, fun a h => h, fun a _ => rfl⟩
  have hl : i < ρ.length := (List.getElem?_eq_some_iff.mp h0).1
  refine ⟨_, st, ⟨fun a h => c.cb.sd a h.1, fun a h => ⟨c.cb.fs a h, fun z => hf (z ▸ h)⟩, fun q o hq => ?_⟩, by simp [c.len], fun j d' h => ?_, fun j ds' h => ?_, fun j k q h1 h2 => ?_⟩
  · obtain ⟨h1, h2, h3⟩ := c.cb.w q o hq
    exact ⟨⟨h1, fun z => by rw [z, hw] at hq; cases hq⟩, h2, h3.up st rfl⟩
  · by_cases hj : i = j
    · subst hj
      rw [List.getElem?_set_self hl] at h
      cases h
      exact ⟨_, hp, hd p _ st (fun z => z.2 rfl) (r0.up st rfl)⟩
    · rw [List.getElem?_set_ne hj] at h
      obtain ⟨w, h1, h2⟩ := c.sh j d' h
      exact ⟨w, h1, h2.up st⟩
  · by_cases hj : i = j
    · subst hj
      rw [List.getElem?_set_self hl] at h
      cases h
    · rw [List.getElem?_set_ne hj] at h
      obtain ⟨q, h1, h3, h4, h5⟩ := c.om j ds' h
      exact ⟨q, h1, h3.up st rfl, ⟨h4, fun z => hj (c.dis i j p ⟨o, h0, hp⟩ ⟨ds', h, z ▸ h1⟩)⟩, h5⟩
  · have go : ∀ j, Own σ (ρ.set i (some (.sh d))) j q → Own σ ρ j q := fun j ⟨ds', q1, q2⟩ => by
      by_cases hj : i = j
      · subst hj
        rw [List.getElem?_set_self hl] at q1
        cases q1
      · rw [List.getElem?_set_ne hj] at q1
        exact ⟨ds', q1, q2⟩
    exact c.dis j k q (go j h1) (go k h2)

theorem Cf.freeze {K : PySem.W.Frag} {F S : Reg} {H : Hp} {σ : St} {ρ : Env} {W : Wd} (c : Cf K F S H σ ρ W) {i : Nat} {ds : List D} (h0 : ρ[i]? = some (some (.ol ds))) :
    ∃ S', Stp F S H S' H ∧ Cf K F S' H σ (ρ.set i (some (.sh (.lst ds)))) W :=
  c.freezeM h0 fun p S' _ hn ⟨xs, h1, h2⟩ => Rep.lst_iff.mpr ⟨p, xs, rfl, ⟨h1, hn⟩, h2⟩
/-- an expression that makes a new list, last of all -/
def EndN (K : PySem.W.Frag) (F S : Reg) (H : Hp) (σ : St) (Q : KL) (R : VK) : Prop :=
  ∀ S' H' ρ' W' ds xs p, Stp F S H S' H' → Cf K F S' H' σ ρ' W' → Reps K S' H' ds xs → H' p = none → Q ds ρ' W' → R (.ref p) (upd H' p (.lst xs))
def SndN (K : PySem.W.Frag) (Wx : WX) (te : TE) (f : TL) : Prop :=
  ∀ F S H σ ρ W Q Qx R, Cf K F S H σ ρ W → f ρ W Q Qx → LkX K F S H Wx Qx → EndN K F S H σ Q R → te σ H R
def GN (X : Cx) (Wx : WX) (e : Expr) (f : TL) : Prop := ∃ te, PE X e te ∧ SndN X.K Wx te f
section
variable {X : Cx} {Wx : WX} {st : Stmt} {rest : List Stmt} {f g : TSD} {e : Expr} {es : List Expr} {fe : TD} {fl : TL} {pos : Pos}
def dFresh (fl : TL) : TD := fun ρ W Q Qx => fl ρ W (fun ds ρ' W' => Q (.lst ds) ρ' W') Qx
theorem snd_fresh {K : PySem.W.Frag} {te : TE} (se : SndN K Wx te fl) : Snd K Wx te (dFresh fl) := by
  intro F S H σ ρ W Q Qx R cf hf hx hE
  refine se F S H σ ρ W _ Qx _ cf hf hx fun S1 H1 ρ1 W1 ds xs p e1 c1 r1 hp q1 => ?_
  exact hE S1 _ ρ1 W1 _ _ (e1.trans (stp_same c1.cb (same_new hp))) (c1.same (same_new hp)) (rep_newL c1.cb hp r1) q1
theorem GN.ge (h : GN X Wx e fl) : GE X Wx e (dFresh fl) := by
  obtain ⟨te, pe, se⟩ := h
  exact ⟨_, pe, snd_fresh se⟩
def dLstN (fl : TL) : TL := fun ρ W Q Qx => fl ρ W (fun ds ρ' W' => ds.length ≤ sizeLine ∧ Q ds ρ' W') Qx
theorem gn_lst (ha : GA X Wx es fl) : GN X Wx (.List es pos) (dLstN fl) := by
  obtain ⟨ta, pa, sa⟩ := ha
  refine ⟨_, pe_lst pa, fun F S H σ ρ W Q Qx R cf hf hx hE => ?_⟩
  refine sa F S H σ ρ W _ Qx _ cf hf hx fun S1 H1 ρ1 W1 ds vs e1 c1 r1 q1 => ?_
  exact ⟨by rw [r1.length]; exact q1.1, fun p hp => hE S1 H1 ρ1 W1 ds vs p e1 c1 r1 hp q1.2⟩
/-- x = [..], the list the frame's own -/
def dAsgO (i : Nat) (fl : TL) : TSD := fun De ρ W => fl ρ W (fun ds ρ' W' => De.nx (ρ'.set i (some (.ol ds))) W') De.ex
theorem snd_asgO {K : PySem.W.Frag} {te : TE} {i : Nat} (se : SndN K Wx te fl) : SndS K Wx (tAsg te (gName i)) (dAsgO i fl) := fun F S H σ ρ W De Dh cf hf l => by
  refine se F S H σ ρ W _ De.ex _ cf hf l.ex fun S' H' ρ' W' ds xs p e' c r hp q => ?_
  obtain ⟨st, c2⟩ := c.newOl i hp r
  exact l.nx _ _ _ _ W' (e'.trans st) c2 q
theorem gs_setO {i : Nat} {x : Str} {pos' : Pos} (hN : X.N.Nodup) (hi : X.N[i]? = some x) (hx : Loc X.env.scope x) (he : GN X Wx e fl) (hs : swapsWith e (some (.Name x pos')) pos.line X.env = pure false := by rfl) (hf : X.fn x = true ∨ X.env.scope.names.lookup x = some .local := by first | exact .inl rfl | exact .inr rfl | assumption) :
    GS X Wx (.Assign [.Name x pos'] e pos) (dAsgO i fl) := by
  obtain ⟨te, pe, se⟩ := he
  exact ⟨_, ps_set hN hi hx pe hs hf, snd_asgO se⟩
/-- x.append(e) -/
def dApp0 (i : Nat) (ρ : Env) : Prop := ∃ ds, ρ[i]? = some (some (.ol ds))
def dApp (i : Nat) (fe : TD) : TSD := fun De ρ W => dApp0 i ρ ∧ fe ρ W (fun d ρ' W' => match ρ'[i]? with
  | some (some (.ol ds)) => ds.length < sizeLine ∧ De.nx (ρ'.set i (some (.ol (ds ++ [d])))) W'
  | _ => False) De.ex
theorem gs_app {i : Nat} {x : Str} {px apos cpos : Pos} (he : GE X Wx e fe) (hN : X.N[i]? = some x := by rfl) (hv : Vis X.env.scope x := by first | exact Or.inl rfl | exact Or.inr (Or.inl rfl) | exact Or.inr (Or.inr rfl)) (hd : (x == ("__debug__" : Str)) = false := by decide) (hcd : (x == ("__classdict__" : Str)) = false := by decide)
    (hbase : attributeBase (.Name x px) "append" X.env (eval (.Name x px) X.env) = eval (.Name x px) X.env := by rfl)
    (hfew : ((backTo cpos (starEach (e :: []) X.env)).all (fun x => !x.1) && (backToKw cpos (keywordEach [] X.env)).all (fun x => x.1.isSome) && decide ((e :: ([] : List Expr)).length + ([] : List Keyword).length + (if ([] : List Keyword).isEmpty then 0 else 1) < 30)) = true := by rfl)
    (hline : (apos.endLine == cpos.line) = true := by rfl) (hse : starEach (e :: []) X.env = (false, eval e X.env) :: starEach [] X.env := by rfl) (hplain : (backTo cpos (starEach [] X.env)).any (·.1) = false := by rfl)
    (hs : swapsWith (.Call (.Attribute (.Name x px) "append" apos) [e] [] cpos) none pos.line X.env = pure false := by rfl) :
    GS X Wx (.Expr (.Call (.Attribute (.Name x px) "append" apos) [e] [] cpos) pos) (dApp i fe) := by
  obtain ⟨te, pe, se⟩ := he
  refine ⟨_, ps_expr (pe_bm PySem.F.plainAttrs_list PySem.F.slot_list_append PySem.F.type_list_append mt_append (pe_var hN hv hd hcd) (pa_cons pe pa_nil hse) hbase hfew hline hse hplain) hs, fun F S H σ ρ W De Dh cf hf l => ?_⟩
  have pre : ∃ p xs, σ[i]? = some (some (.ref p)) ∧ H p = some (.lst xs) := by
    unfold dApp0 at hf
    obtain ⟨⟨ds, h0⟩, hf⟩ := hf
    obtain ⟨p, xs, h1, h2, _⟩ := cf.ol i ds h0
    exact ⟨p, xs, h1, h2⟩
  obtain ⟨p, xs, hp, hH⟩ := pre
  refine ⟨_, hp, .inl ⟨rfl, xs, SqL.of hH⟩, ?_⟩
  refine se F S H σ ρ W _ De.ex _ cf hf.2 l.ex fun S' H' ρ' W' d v e' c r q => ?_
  split at q
  · rename_i ds1 h1
    obtain ⟨p', xs1, e1, h2, h3, _⟩ := c.ol i ds1 h1
    rw [hp] at e1; cases e1
    refine ⟨p, xs1, v, rfl, rfl, h2, by rw [h3.length]; exact q.1, ?_⟩
    obtain ⟨st, c2⟩ := c.chOl h1 hp (h3.append (Reps.cons r Reps.nil))
    exact l.nx _ _ _ _ W' (e'.trans st) c2 q.2
  · exact q.elim
end

section
variable {X : Cx} {Wx : WX} {st : Stmt} {rest : List Stmt} {f g : TSD} {e o : Expr} {es : List Expr} {fe fo : TD} {fl : TL} {pos : Pos}
/-- nobody changes the list of slot i from here on -/
def dFrz (i : Nat) (f : TSD) : TSD := fun De ρ W => match ρ[i]? with
  | some (some (.ol ds)) => f De (ρ.set i (some (.sh (.lst ds)))) W
  | _ => f De ρ W
theorem gss_frz (i : Nat) (h : GSs X Wx rest f) : GSs X Wx rest (dFrz i f) := by
  obtain ⟨t, p, s⟩ := h
  refine ⟨t, p, fun F S H σ ρ W De Dh cf hf l => ?_⟩
  unfold dFrz at hf
  split at hf
  · rename_i ds h0
    obtain ⟨S', st, c2⟩ := cf.freeze h0
    exact s F S' H σ _ W De Dh c2 hf (l.up st)
  · exact s F S H σ ρ W De Dh cf hf l
/-- a method of a text -/
def MSnd (K : PySem.W.Frag) (r : V → List V → Hp → VK → Prop) (g : D → List D → (D → Prop) → Prop) : Prop :=
  ∀ F S H W d ds x xs (P : D → Prop) (R : VK), Cb K F S H W → Rep K S H d x → Reps K S H ds xs → g d ds P → (∀ d' v H', Same H H' → Rep K S H' d' v → P d' → R v H') → r x xs H R
def dM (k : D → List D → (D → Prop) → Prop) (fo : TD) (fl : TL) : TD := fun ρ W Q Qx => fo ρ W (fun d ρ1 W1 => (∃ s, d = .str s) ∧ fl ρ1 W1 (fun ds ρ2 W2 => k d ds fun z => Q z ρ2 W2) Qx) Qx
theorem ge_strM {name : Str} {id : String} {apos cpos : Pos} {r : V → List V → Hp → VK → Prop} {k : D → List D → (D → Prop) → Prop} (slot : Slot "str" name id) (hty : typeOf (.builtin id) = pure (.type "method_descriptor")) (hm : MtR X id r) (hr : MSnd X.K r k) (ho : GE X Wx o fo) (ha : GA X Wx (e :: es) fl)
    (hbase : attributeBase o name X.env (eval o X.env) = eval o X.env := by rfl)
    (hfew : ((backTo cpos (starEach (e :: es) X.env)).all (fun x => !x.1) && (backToKw cpos (keywordEach [] X.env)).all (fun x => x.1.isSome) && decide ((e :: es).length + ([] : List Keyword).length + (if ([] : List Keyword).isEmpty then 0 else 1) < 30)) = true := by rfl)
    (hline : (apos.endLine == cpos.line) = true := by rfl) (hs : starEach (e :: es) X.env = (false, eval e X.env) :: starEach es X.env := by rfl) (hplain : (backTo cpos (starEach es X.env)).any (·.1) = false := by rfl) :
    GE X Wx (.Call (.Attribute o name apos) (e :: es) [] cpos) (dM k fo fl) := by
  obtain ⟨ta, pa, sa⟩ := ha
  obtain ⟨to, po, so⟩ := ho
  refine ⟨_, pe_bm PySem.F.plainAttrs_str slot hty hm po pa hbase hfew hline hs hplain, fun F S H σ ρ W Q Qx R cf hf hx hE => ?_⟩
  refine so F S H σ ρ W _ Qx _ cf hf hx fun S1 H1 ρ1 W1 d v e1 c1 r1 q1 => ?_
  obtain ⟨⟨s, rfl⟩, q1⟩ := q1
  cases Rep.v_iff.mp r1
  refine ⟨rfl, ?_⟩
  refine sa F S1 H1 σ ρ1 W1 _ Qx _ c1 q1 (hx.up e1) fun S2 H2 ρ2 W2 ds vs e2 c2 r2 q2 => ?_
  refine hr F S2 H2 W2 _ ds _ vs _ _ c2.cb (r1.up e2) r2 q2 fun d3 v3 H3 s3 r3 q3 => ?_
  exact hE S2 H3 ρ2 W2 d3 v3 ((e1.trans e2).trans (stp_same c2.cb s3)) (c2.same s3) r3 q3
theorem ge_strM0 {name : Str} {id : String} {apos cpos : Pos} {r : V → List V → Hp → VK → Prop} {k : D → List D → (D → Prop) → Prop} (slot : Slot "str" name id) (hty : typeOf (.builtin id) = pure (.type "method_descriptor")) (hm : MtR X id r) (hr : MSnd X.K r k) (ho : GE X Wx o fo)
    (hbase : attributeBase o name X.env (eval o X.env) = eval o X.env := by rfl) (hline : (apos.endLine == cpos.line) = true := by rfl) : GE X Wx (.Call (.Attribute o name apos) [] [] cpos) (dM k fo dNil) := by
  obtain ⟨to, po, so⟩ := ho
  refine ⟨_, pe_bm0 PySem.F.plainAttrs_str slot hty hm po hbase hline, fun F S H σ ρ W Q Qx R cf hf hx hE => ?_⟩
  refine so F S H σ ρ W _ Qx _ cf hf hx fun S1 H1 ρ1 W1 d v e1 c1 r1 q1 => ?_
  obtain ⟨⟨s, rfl⟩, q1⟩ := q1
  cases Rep.v_iff.mp r1
  refine ⟨rfl, ?_⟩
  refine hr F S1 H1 W1 _ [] _ [] _ _ c1.cb r1 Reps.nil q1 fun d3 v3 H3 s3 r3 q3 => ?_
  exact hE S1 H3 ρ1 W1 d3 v3 (e1.trans (stp_same c1.cb s3)) (c1.same s3) r3 q3
/-- a subscript -/
theorem ge_ix {a b : Expr} {fa fb : TD} {r : R2} {k : D → D → (D → Prop) → Prop} (hr : IxR X r) (hk : RSnd X.K r k) (ha : GE X Wx a fa) (hb : GE X Wx b fb) (hs : PlainIx b) : GE X Wx (.Subscript a b pos) (dOp k fa fb) := by
  obtain ⟨ta, pa, sa⟩ := ha
  obtain ⟨tb, pb, sb⟩ := hb
  exact ⟨_, pe_ix hr pa pb hs, snd_op hk sa sb⟩
/-- a slice -/
abbrev TOD := Env → Wd → (Option Int → Env → Wd → Prop) → KX → Prop
def SndO (K : PySem.W.Frag) (Wx : WX) (te : TO) (f : TOD) : Prop :=
  ∀ F S H σ ρ W (Q : Option Int → Env → Wd → Prop) Qx (R : Option Int → Hp → Prop), Cf K F S H σ ρ W → f ρ W Q Qx → LkX K F S H Wx Qx → (∀ S' H' ρ' W' o, Stp F S H S' H' → Cf K F S' H' σ ρ' W' → Q o ρ' W' → R o H') → te σ H R
def GO (X : Cx) (Wx : WX) (e : Option Expr) (f : TOD) : Prop := ∃ te, PO X e te ∧ SndO X.K Wx te f
def dNoP : TOD := fun ρ W Q _ => Q none ρ W
def dPart (fe : TD) : TOD := fun ρ W Q Qx => fe ρ W (fun d ρ' W' => match d with | .v (.int i) => Q (some i) ρ' W' | _ => False) Qx
theorem go_none : GO X Wx none dNoP := ⟨_, po_none, fun F S H σ ρ W Q Qx R cf hf hx hE => hE S H ρ W none .refl cf hf⟩
theorem go_some (he : GE X Wx e fe) : GO X Wx (some e) (dPart fe) := by
  obtain ⟨te, pe, se⟩ := he
  refine ⟨_, po_some pe, fun F S H σ ρ W Q Qx R cf hf hx hE => ?_⟩
  refine se F S H σ ρ W _ Qx _ cf hf hx fun S1 H1 ρ1 W1 d v e1 c1 r1 q1 => ?_
  split at q1
  · rename_i i
    exact ⟨i, Rep.v_iff.mp r1, hE S1 H1 ρ1 W1 _ e1 c1 q1⟩
  · exact q1.elim
def SlSnd (K : PySem.W.Frag) (r : V → Option Int → Option Int → Hp → VK → Prop) (g : D → Option Int → Option Int → (D → Prop) → Prop) : Prop :=
  ∀ F S H W d x lo hi (P : D → Prop) (R : VK), Cb K F S H W → Rep K S H d x → g d lo hi P → (∀ d' v H', Same H H' → Rep K S H' d' v → P d' → R v H') → r x lo hi H R
def dSl (k : D → Option Int → Option Int → (D → Prop) → Prop) (fe : TD) (fl fh : TOD) : TD := fun ρ W Q Qx => fe ρ W (fun d ρ1 W1 => fl ρ1 W1 (fun lo ρ2 W2 => fh ρ2 W2 (fun hi ρ3 W3 => k d lo hi fun z => Q z ρ3 W3) Qx) Qx) Qx
theorem ge_sl {lo hi : Option Expr} {p2 : Pos} {flo fhi : TOD} {r : V → Option Int → Option Int → Hp → VK → Prop} {k : D → Option Int → Option Int → (D → Prop) → Prop} (hr : SlR X r) (hk : SlSnd X.K r k) (he : GE X Wx e fe) (hl : GO X Wx lo flo) (hu : GO X Wx hi fhi) :
    GE X Wx (.Subscript e (.Slice lo hi none p2) pos) (dSl k fe flo fhi) := by
  obtain ⟨te, pe, se⟩ := he
  obtain ⟨tl, pl, sl⟩ := hl
  obtain ⟨tu, pu, su⟩ := hu
  refine ⟨_, pe_slice hr pe pl pu, fun F S H σ ρ W Q Qx R cf hf hx hE => ?_⟩
  refine se F S H σ ρ W _ Qx _ cf hf hx fun S1 H1 ρ1 W1 d v e1 c1 r1 q1 => ?_
  refine sl F S1 H1 σ ρ1 W1 _ Qx _ c1 q1 (hx.up e1) fun S2 H2 ρ2 W2 o2 e2 c2 q2 => ?_
  refine su F S2 H2 σ ρ2 W2 _ Qx _ c2 q2 (hx.up (e1.trans e2)) fun S3 H3 ρ3 W3 o3 e3 c3 q3 => ?_
  refine hk F S3 H3 W3 d v o2 o3 _ _ c3.cb ((r1.up e2).up e3) q3 fun d4 v4 H4 s4 r4 q4 => ?_
  exact hE S3 H4 ρ3 W3 d4 v4 (((e1.trans e2).trans e3).trans (stp_same c3.cb s4)) (c3.same s4) r4 q4

/-! ### calls of defs -/
/-- a promise over data -/
abbrev KDW := D → Wd → Prop
abbrev KXW := Value → Option (List (Str × D)) → Wd → Prop
abbrev SpD := List D → Wd → KDW → KXW → Prop
def toSp (K : PySem.W.Frag) (n : Nat) (sp : SpD) : Sp := fun vs H Q E => ∃ F S W ds Qd Qx, Cb K F S H W ∧ Reps K S H ds vs ∧ ds.length = n ∧ sp ds W Qd Qx ∧
  (∀ S' H' W' d v, Stp F S H S' H' → Cb K F S' H' W' → Rep K S' H' d v → Qd d W' → Q v H') ∧
  (∀ S' H' W' cls x od, Stp F S H S' H' → Cb K F S' H' W' → XRep K S' H' x od → Qx cls x W' → E cls od H')
/-! ### defs that are called where no repr is under way -/
/-- room for k calls, and no object is being shown -/
structure Rm (k : Nat) (A : Around) : Prop extends Room k A where
  gd : A.guards = some []
theorem Rm.less {j k : Nat} {A : Around} (r : Rm k A) (h : j ≤ k) : Rm j A := ⟨r.toRoom.mono h, r.gd⟩
/-- the kit's FnOk, but only where Rm holds -/
structure FnG (P : Program) (w : World) (K : PySem.W.Frag) (mg : Str → Option Value) (base : Heap) (k : Nat) (f : Addr) (fd : FuncData) (ps : List Str) (sp : Sp) : Prop where
  many : ∀ {vs H Q E}, sp vs H Q E → vs.length = ps.length
  go : ∀ {A : Around} {outer : List PySem.Env} {s : Shared} {H : Hp} {args : Args} {us : List Value} {vs : List V} {Q : VK} {E : XK}, Rm k A → Env0 P w K mg base A outer s H → BindsTo s fd args (ps.zip us) → Vals vs us → sp vs H Q E →
    codeAny (model P w) A (.call (.ref f) args) (CR (L2.CX P w) outer P w H s Q E) s
theorem FnG.mono {P : Program} {w : World} {K : PySem.W.Frag} {mg : Str → Option Value} {base : Heap} {j k : Nat} {f : Addr} {fd : FuncData} {ps : List Str} {sp : Sp} (F : FnG P w K mg base j f fd ps sp) (h : j ≤ k) : FnG P w K mg base k f fd ps sp :=
  ⟨F.many, fun r => F.go (r.less h)⟩
theorem FnG.imp {P : Program} {w : World} {K : PySem.W.Frag} {mg : Str → Option Value} {base : Heap} {k : Nat} {f : Addr} {fd : FuncData} {ps : List Str} {sp sp' : Sp} (F : FnG P w K mg base k f fd ps sp) (h : ∀ {vs H Q E}, sp' vs H Q E → sp vs H Q E) :
    FnG P w K mg base k f fd ps sp' := ⟨fun q => F.many (h q), fun r e b v q => F.go r e b v (h q)⟩
/-- the end of a call within a body -/
theorem end_call {X : Cx} {pins : List (Addr × Obj)} {σ : St} {H : Hp} {s : Shared} {Q : VK} {E : XK} (I : Inv X pins σ H s) (hx : ∀ e s', L2.CX X.prog X.w X.stack H s E e s' → X.xe e s') {c : Code} (h : codeAny (model X.prog X.w) X.A c (CR (L2.CX X.prog X.w) X.stack X.prog X.w H s Q E) s) :
    codeAny (model X.prog X.w) X.A c (fun r s' => match r with | .ok (.ret u) => EP X pins σ Q u s' | .ok _ => False | .error e => X.xe e s') s := by
  refine codeAny_mono h fun r s' q => ?_
  match r, q with
  | .error e, q => exact hx e s' q
  | .ok (.ret u), q => exact I.after q
  | .ok .next, q => exact q.elim
  | .ok .brk, q => exact q.elim
  | .ok .cont, q => exact q.elim
/-- a def by its body, where no repr is under way -/
theorem fng_of {P : Program} {w : World} {K : PySem.W.Frag} {mg : Str → Option Value} {base : Heap} {k : Nat} {x qual : Str} {st : Stmt} {f : Addr} {fd : FuncData} {N ps : List Str} {sp : Sp} (F : Fun K x qual st f fd) (S : FnScope N ps (defScope st)) (hl : ∀ {vs H Q E}, sp vs H Q E → vs.length = ps.length)
    (hb : ∀ (cdv : Value) (A : Around) (outer : List PySem.Env) (s : Shared) (H : Hp) (vs : List V) (Q : VK) (E : XK), Rm k (A.deeper (PyProof.Rows.envOfC qual (defScope st) s.heap.objs.size f cdv)) → sp vs H Q E →
      ∃ t, PSs (cxOf (L2.CX P w) P w K mg base N qual (defScope st) f cdv A outer s H E) (defBody st) t ∧ t { nx := fun _ H' => Q .non H', rt := Q } (L2.start N vs) H) : FnG P w K mg base (k + 1) f fd ps sp := by
  obtain ⟨oc, od, kV, doc, pm, an, cdv, ct, osl, efd, atK, isC⟩ := F.ex
  subst efd
  refine ⟨hl, ?_⟩
  intro A outer s H args us vs Q E rm env bnd rel hsp
  have stay : ∀ b o, base.get? b = some o → s.heap.get? b = some o := fun b o e => (env.bs b o e).1
  have inK : K.In s.heap := env.mod.kin.keeps stay
  have par : ∀ y ∈ ps.zip us, (defScope st).names.lookup y.1 = some .local ∨ ((defScope st).names.lookup y.1 = some .cell ∧ ((cellsFrom (s.heap.objs.size + 1) (defScope st).names []).lookup y.1).isSome = true) := by
    rintro ⟨n, v⟩ hy
    refine (S.par n (List.of_mem_zip hy).1).imp id fun q => ⟨q, PySem.W.cellsFrom_some _ _ _ (.inl q)⟩
  refine codeAny_call_function rm.toRoom.depth (inK _ _ atK) rfl S.co S.gen rfl (PySem.W.codeRec_of inK isC) (bnd _ _ _ _ ?_)
  refine wpAny_newFunctionEnv_cells S.kind par ?_
  rintro env' rfl s1 inC
  refine ⟨(env.mod.nolimit.keeps stay).keeps inC.toInCall.keep, codeAny_func ?_⟩
  obtain ⟨t, pt, qt⟩ := hb cdv A outer s H vs Q E ⟨rm.toRoom.deeper _, rm.gd⟩ hsp
  have I := inv_start (CX := L2.CX P w) (E := E) S rm.toRoom.hd env (hl hsp) rel inC
  refine wpAny_mono (pt.run [] s1 (L2.start N vs) H _ I qt) (fun fl s' q => ?_) (fun _ _ q => q)
  match fl, q with
  | .ret u, ⟨v, _, H', J, rv, q⟩ => exact ⟨v, H', J.os, J.bare, J.base, J.hok, rv, q⟩
  | .next, ⟨_, H', J, q⟩ => exact ⟨V.non, H', J.os, J.bare, J.base, J.hok, rfl, q⟩
  | .brk, ⟨_, _, _, q⟩ => exact q.elim
  | .cont, ⟨_, _, _, q⟩ => exact q.elim
section
variable {X : Cx} {Wx : WX} {k : Nat} {f : Addr} {fd : FuncData} {ps : List Str} {sp : Sp}
theorem pe_callG {x : Str} {e : Expr} {es : List Expr} {E : St → XK} {t : TA} {p pos : Pos} (F : FnG X.prog X.w X.K X.mg X.base k f fd ps sp) (hr : Rm k X.A) (hg : Gl X x) (hm : X.mg x = some (.ref f)) (hk : PySem.W.keepIn X.K (.ref f) = true) (hb : Binds X.K fd ps [])
    (hx : ∀ σ, PassesAt (L2.CX X.prog X.w) X σ (E σ)) (ha : PA X (e :: es) t) (hdb : (x == ("__debug__" : Str)) = false) (he : starEach (e :: es) X.env = (false, eval e X.env) :: starEach es X.env) (hpl : (backTo pos (starEach es X.env)).any (·.1) = false) :
    PE X (.Call (.Name x p) (e :: es) [] pos) (tCallS sp E t) := by
  constructor
  intro pins s σ H Q I h
  refine wpAny_Call_Name_kw (ld_glob I hg hm (PySem.W.callWith_K (h₀ := X.base) I.ok.mod.kin hk (thn (ha.run pos pins s σ H _ I h) ?_) he hpl) hdb)
  rintro us s1 ⟨vs, H1, I1, rel, q⟩
  refine ⟨I1.kIn, ?_⟩
  have b := hb s1 us I1.kIn (by rw [List.append_nil, ← rel.length]; exact F.many q)
  rw [List.append_nil] at b
  refine wpAny_call (codeAny_mono (end_call (pins := pins) I1 (fun e s' z => hx σ pins H1 s1 e s' I1 z) (F.go hr I1.env0 b rel q)) fun r s' z => ?_)
  match r, z with
  | .error e, z => exact z
  | .ok (.ret u), z => exact z
  | .ok .next, z => exact z.elim
  | .ok .brk, z => exact z.elim
  | .ok .cont, z => exact z.elim
end
def dCall (sp : SpD) (n : Nat) (fl : TL) : TD := fun ρ W Q Qx => fl ρ W (fun ds ρ' W' => ds.length = n ∧ sp ds W' (fun d W2 => Q d ρ' W2) (fun cls x W2 => Qx cls x ρ' W2)) Qx
theorem snd_call {K : PySem.W.Frag} {n : Nat} {sp : SpD} {ta : TA} (ha : SndL K Wx ta fl) : Snd K Wx (tCallS (toSp K n sp) (WE Wx) ta) (dCall sp n fl) := by
  intro F S H σ ρ W Q Qx R cf hf hx hE
  refine ha F S H σ ρ W _ Qx _ cf hf hx fun S1 H1 ρ1 W1 ds vs e1 c1 r1 q1 => ?_
  refine ⟨_, S1, W1, ds, _, _, c1.below, r1, q1.1, q1.2, fun S' H' W' d v e' b r q => ?_, fun S' H' W' cls x od e' b xr q => ?_⟩
  · exact hE S' H' ρ1 W' d v (e1.trans (e'.mono fun _ h => .inl h)) (c1.back e' b) r q
  · exact hx S' H' σ ρ1 W' cls x od (e1.trans (e'.mono fun _ h => .inl h)) (c1.back e' b) xr q
theorem ge_call {f : Addr} {fd : FuncData} {ps : List Str} {k n : Nat} {sp : SpD} {x : Str} {p : Pos} (tk : Takes X Wx) (GF : FnG X.prog X.w X.K X.mg X.base k f fd ps (toSp X.K n sp)) (hr : Rm k X.A) (hg : Gl X x) (hm : X.mg x = some (.ref f)) (hk : PySem.W.keepIn X.K (.ref f) = true) (hb : Binds X.K fd ps [])
    (ha : GA X Wx (e :: es) fl) (hdb : (x == ("__debug__" : Str)) = false := by decide) (he : starEach (e :: es) X.env = (false, eval e X.env) :: starEach es X.env := by rfl) (hpl : (backTo pos (starEach es X.env)).any (·.1) = false := by rfl) :
    GE X Wx (.Call (.Name x p) (e :: es) [] pos) (dCall sp n fl) := by
  obtain ⟨ta, pa, sa⟩ := ha
  exact ⟨_, pe_callG GF hr hg hm hk hb (fun σ => passAt tk σ) pa hdb he hpl, snd_call sa⟩
end
/-- THE RULE for a def -/
theorem okD {P : Program} {w : World} {K : PySem.W.Frag} {mg : Str → Option Value} {base : Heap} {x qual : Str} {st : Stmt} {f : Addr} {fd : FuncData} {N ps : List Str} {k : Nat} {sp : SpD} (F : Fun K x qual st f fd) (Sc : FnScope N ps (defScope st))
    (hbody : ∀ (cdv : Value) (A : Around) (outer : List PySem.Env) (s : Shared) (H : Hp) (E : XK), Rm k (A.deeper (PyProof.Rows.envOfC qual (defScope st) s.heap.objs.size f cdv)) →
      ∃ g, GSs (cxOf (L2.CX P w) P w K mg base N qual (defScope st) f cdv A outer s H E) (fun cls d _ H => E cls d H) (defBody st) g ∧
        ∀ ds W Qd Qx, ds.length = ps.length → sp ds W Qd Qx → g { nx := fun _ W' => Qd .non W', rt := Qd, ex := fun cls x _ W' => Qx cls x W' } (ds.map (fun d => some (Sl.sh d)) ++ List.replicate (N.length - ds.length) none) W) :
    FnG P w K mg base (k + 1) f fd ps (toSp K ps.length sp) := by
  refine fng_of F Sc (fun {vs H Q E} h => ?_) (fun cdv A outer s H vs Q E hr h => ?_)
  · obtain ⟨_, _, _, ds, _, _, _, h1, h2, _⟩ := h
    rw [h1.length, h2]
  · obtain ⟨g, ⟨t, pt, sg⟩, hg⟩ := hbody cdv A outer s H E hr
    obtain ⟨Fr, S, W, ds, Qd, Qx, cb, rs, hl, hsp, hQ, hE⟩ := h
    refine ⟨t, pt, ?_⟩
    have hvl : vs.length = ps.length := by rw [rs.length, hl]
    refine sg Fr S H (L2.start N vs) _ W _ _ ?_ (hg ds W Qd Qx hl hsp) ?_
    · have shp : ∀ (i : Nat) (sl : Sl), (ds.map (fun d => some (Sl.sh d)) ++ List.replicate (N.length - ds.length) none)[i]? = some (some sl) → ∃ d, ds[i]? = some d ∧ sl = .sh d := fun i sl h => by
        rw [List.getElem?_append] at h
        split at h
        · rename_i hi
          rw [List.getElem?_map] at h
          cases e : ds[i]? with
          | none => rw [e] at h; cases h
          | some d => rw [e] at h; cases h; exact ⟨d, rfl, rfl⟩
        · rw [List.getElem?_replicate] at h
          split at h <;> cases h
      refine ⟨cb, ?_, fun i d h => ?_, fun i ds' h => ?_, fun i j p h1 h2 => ?_⟩
      · unfold L2.start
        simp [rs.length]
      · obtain ⟨d', e1, e2⟩ := shp i _ h
        cases e2
        obtain ⟨v, e3, r⟩ := rs.get e1
        refine ⟨v, ?_, r⟩
        unfold L2.start
        have hi : i < vs.length := (List.getElem?_eq_some_iff.mp e3).1
        rw [List.getElem?_append_left (by simpa using hi), List.getElem?_map, e3]
        rfl
      · obtain ⟨d', e1, e2⟩ := shp i _ h
        cases e2
      · obtain ⟨ds', h1, _⟩ := h1
        obtain ⟨d', e1, e2⟩ := shp i _ h1
        cases e2
    · exact ⟨fun S' H' σ' ρ' W' e c q => hQ S' H' W' _ _ e c.cb (Rep.v_iff.mpr rfl) q, fun S' H' σ' ρ' W' d v e c r q => hQ S' H' W' d v e c.cb r q,
        fun S' H' σ' ρ' W' e c q => q.elim, fun S' H' σ' ρ' W' e c q => q.elim, fun S' H' σ' ρ' W' cls x od e c xr q => hE S' H' W' cls x od e c.cb xr q⟩
/-- a weaker promise -/
theorem toSp_imp {K : PySem.W.Frag} {n : Nat} {sp sp' : SpD} (h : ∀ ds W Q Qx, sp' ds W Q Qx → sp ds W Q Qx) : ∀ vs H Q E, toSp K n sp' vs H Q E → toSp K n sp vs H Q E := fun vs H Q E ⟨F, S, W, ds, Qd, Qx, a, b, c, d, e, f⟩ => ⟨F, S, W, ds, Qd, Qx, a, b, c, h _ _ _ _ d, e, f⟩
end G

namespace G
open PySem PySem.Spec L2

/-! ### what is walked -/
/-- J yields the data ds, whatever happens outside of them meanwhile -/
def ItOk (K : PySem.W.Frag) (F S : Reg) (H : Hp) (J : It) (ds : List D) : Prop :=
  ∀ S' H', Stp F S H S' H' → (∀ (i : Nat) d, ds[i]? = some d → J.go i H' ∧ ∀ x H3, J.yld i H' x H3 → Same H' H3 ∧ ((∀ a, S' a → H' a ≠ none) → Rep K S' H3 d x)) ∧ J.stop ds.length H'
theorem ItOk.up {K : PySem.W.Frag} {F S S1 : Reg} {H H1 : Hp} {J : It} {ds : List D} (h : ItOk K F S H J ds) (e : Stp F S H S1 H1) : ItOk K F S1 H1 J ds := fun S' H' e' => h S' H' (e.trans e')
abbrev TID := Env → Wd → KL → KX → Prop
def SndI (K : PySem.W.Frag) (Wx : WX) (wi : TI) (f : TID) : Prop :=
  ∀ F S H σ ρ W Q Qx (R : It → Hp → Prop), Cf K F S H σ ρ W → f ρ W Q Qx → LkX K F S H Wx Qx → (∀ S' H' ρ' W' ds J, Stp F S H S' H' → Cf K F S' H' σ ρ' W' → ItOk K F S' H' J ds → Q ds ρ' W' → R J H') → wi σ H R
def GI (X : Cx) (Wx : WX) (tg iter : Expr) (f : TID) : Prop := ∃ wi, PI X tg iter wi ∧ SndI X.K Wx wi f
section
variable {X : Cx} {Wx : WX} {e tg a b c : Expr} {es : List Expr} {fe : TD} {fl : TL} {p pos : Pos}
theorem itok_l {K : PySem.W.Frag} {F S : Reg} {H : Hp} {a : Addr} {xs : List V} {ds : List D} (h : ImL S H a xs) (r : Reps K S H ds xs) : ItOk K F S H (Itl K a) ds := fun S' H' e => by
  have h' : SqL K H' a xs := (e.imL h).sq
  have r' := r.up e
  refine ⟨fun i d hd => ?_, ⟨xs, h', by rw [r'.length]; exact Nat.le_refl _⟩⟩
  obtain ⟨v, hv, rv⟩ := r'.get hd
  exact ⟨⟨xs, v, h', hv⟩, fun x H3 ⟨e3, y⟩ => by
    subst e3
    have := y xs h'
    rw [hv] at this; cases this
    exact ⟨Same.refl _, fun _ => rv⟩⟩
theorem itok_t {K : PySem.W.Frag} {F S : Reg} {H : Hp} {a : Addr} {xs : List V} {ds : List D} (h : ImT K S H a xs) (r : Reps K S H ds xs) : ItOk K F S H (Itt K a) ds := fun S' H' e => by
  have h' := (e.imT h).sq
  have r' := r.up e
  refine ⟨fun i d hd => ?_, ⟨xs, h', by rw [r'.length]; exact Nat.le_refl _⟩⟩
  obtain ⟨v, hv, rv⟩ := r'.get hd
  exact ⟨⟨xs, v, h', hv⟩, fun x H3 ⟨e3, y⟩ => by
    subst e3
    have := y xs h'
    rw [hv] at this; cases this
    exact ⟨Same.refl _, fun _ => rv⟩⟩
def iSeq (fe : TD) : TID := fun ρ W Q Qx => fe ρ W (fun d ρ' W' => match d with | .lst ds => Q ds ρ' W' | _ => False) Qx
def iTupD (fe : TD) : TID := fun ρ W Q Qx => fe ρ W (fun d ρ' W' => match d with | .tup ds => Q ds ρ' W' | _ => False) Qx
theorem gi_list (he : GE X Wx e fe) : GI X Wx tg e (iSeq fe) := by
  obtain ⟨te, pe, se⟩ := he
  refine ⟨_, pi_list pe, fun F S H σ ρ W Q Qx R cf hf hx hE => ?_⟩
  refine se F S H σ ρ W _ Qx _ cf hf hx fun S1 H1 ρ1 W1 d v e1 c1 r1 q1 => ?_
  split at q1
  · rename_i ds
    obtain ⟨a, xs, rfl, h1, h2⟩ := Rep.lst_iff.mp r1
    exact ⟨a, rfl, ⟨xs, h1.sq⟩, hE S1 H1 ρ1 W1 ds _ e1 c1 (itok_l h1 h2) q1⟩
  · exact q1.elim
theorem gi_tup (he : GE X Wx e fe) : GI X Wx tg e (iTupD fe) := by
  obtain ⟨te, pe, se⟩ := he
  refine ⟨_, pi_tup pe, fun F S H σ ρ W Q Qx R cf hf hx hE => ?_⟩
  refine se F S H σ ρ W _ Qx _ cf hf hx fun S1 H1 ρ1 W1 d v e1 c1 r1 q1 => ?_
  split at q1
  · rename_i ds
    obtain ⟨a, xs, rfl, h1, h2⟩ := Rep.tup_iff.mp r1
    exact ⟨a, rfl, ⟨xs, h1.sq⟩, hE S1 H1 ρ1 W1 ds _ e1 c1 (itok_t h1 h2) q1⟩
  · exact q1.elim
/-- the script -/
def iScr (fe : TD) : TID := fun ρ W Q Qx => fe ρ W (fun d ρ' W' => match d with | .scr ns => Q (ns.map D.int) ρ' W' | _ => False) Qx
theorem gi_scr (he : GE X Wx e fe) : GI X Wx tg e (iScr fe) := by
  obtain ⟨te, pe, se⟩ := he
  refine ⟨_, pi_list pe, fun F S H σ ρ W Q Qx R cf hf hx hE => ?_⟩
  refine se F S H σ ρ W _ Qx _ cf hf hx fun S1 H1 ρ1 W1 d v e1 c1 r1 q1 => ?_
  split at q1
  · rename_i ns
    obtain ⟨a, rfl, h1⟩ := Rep.scr_iff.mp r1
    refine ⟨a, rfl, ⟨_, h1.sq⟩, hE S1 H1 ρ1 W1 _ _ e1 c1 (fun S' H' e' => ?_) q1⟩
    have h' := (e'.imS h1).sq
    refine ⟨fun i d hd => ?_, ⟨_, h', by simp⟩⟩
    rw [List.getElem?_map] at hd
    cases hn : ns[i]? with
    | none => rw [hn] at hd; cases hd
    | some n =>
      rw [hn] at hd; cases hd
      have hv : (ns.map V.int)[i]? = some (V.int n) := by rw [List.getElem?_map, hn]; rfl
      exact ⟨⟨_, _, h', hv⟩, fun x H3 ⟨e3, y⟩ => by
        subst e3
        have := y _ h'
        rw [hv] at this; cases this
        exact ⟨Same.refl _, fun _ => Rep.v_iff.mpr rfl⟩⟩
  · exact q1.elim
/-- the signs of a text -/
def signs (s : Str) : List D := s.cps.toList.map fun c => D.str ⟨#[c]⟩
def iStrD (fe : TD) : TID := fun ρ W Q Qx => fe ρ W (fun d ρ' W' => match d with | .v (.str s) => Q (signs s) ρ' W' | _ => False) Qx
theorem gi_str (he : GE X Wx e fe) : GI X Wx tg e (iStrD fe) := by
  obtain ⟨te, pe, se⟩ := he
  refine ⟨_, pi_str pe, fun F S H σ ρ W Q Qx R cf hf hx hE => ?_⟩
  refine se F S H σ ρ W _ Qx _ cf hf hx fun S1 H1 ρ1 W1 d v e1 c1 r1 q1 => ?_
  split at q1
  · rename_i s
    cases Rep.v_iff.mp r1
    refine ⟨s, rfl, hE S1 H1 ρ1 W1 _ _ e1 c1 (fun S' H' e' => ⟨fun i d hd => ?_, ?_⟩) q1⟩
    · unfold signs at hd
      rw [List.getElem?_map] at hd
      cases hc : s.cps.toList[i]? with
      | none => rw [hc] at hd; cases hd
      | some c =>
        rw [hc] at hd; cases hd
        have hi : i < s.cps.size := by
          have := (List.getElem?_eq_some_iff.mp hc).1
          simpa using this
        refine ⟨hi, fun x H3 ⟨e3, c', h1, h2⟩ => ?_⟩
        subst e3 h2
        have : c' = c := by
          rw [← Array.getElem?_toList] at h1
          rw [hc] at h1; cases h1; rfl
        subst this
        exact ⟨Same.refl _, fun _ => Rep.v_iff.mpr rfl⟩
    · show s.cps.size ≤ (signs s).length
      unfold signs
      simp
  · exact q1.elim
/-- lo, lo + 1, .. -/
def rng (lo : Int) (n : Nat) : List D := (List.range n).map fun (i : Nat) => D.int (lo + (i : Int))
theorem rng_length {lo : Int} {n : Nat} : (rng lo n).length = n := by unfold rng; simp
theorem itok_r {K : PySem.W.Frag} {F S : Reg} {H : Hp} {lo : Int} {n : Nat} : ItOk K F S H (Itr lo n) (rng lo n) := fun S' H' e => by
  refine ⟨fun i d hd => ?_, ?_⟩
  · unfold rng at hd
    rw [List.getElem?_map] at hd
    cases hc : (List.range n)[i]? with
    | none => rw [hc] at hd; cases hd
    | some c =>
      rw [hc] at hd; cases hd
      rw [List.getElem?_eq_some_iff] at hc
      obtain ⟨hi, e1⟩ := hc
      rw [List.getElem_range] at e1
      subst e1
      refine ⟨(show i < n by simpa using hi), fun x H3 ⟨e3, h2⟩ => ?_⟩
      subst e3 h2
      exact ⟨Same.refl _, fun _ => Rep.v_iff.mpr rfl⟩
  · show n ≤ _
    rw [rng_length]; exact Nat.le_refl _
def iRngD1 (fl : TL) : TID := fun ρ W Q Qx => fl ρ W (fun ds ρ' W' => match ds with | [.v (.int j)] => -(2 ^ 62) ≤ j ∧ j < 2 ^ 62 ∧ Q (rng 0 j.toNat) ρ' W' | _ => False) Qx
def iRngD2 (fl : TL) : TID := fun ρ W Q Qx => fl ρ W (fun ds ρ' W' => match ds with | [.v (.int i), .v (.int j)] => (-(2 ^ 62) ≤ i ∧ i < 2 ^ 62 ∧ -(2 ^ 62) ≤ j ∧ j < 2 ^ 62) ∧ Q (rng i (j - i).toNat) ρ' W' | _ => False) Qx
theorem gi_range1 (hg : Gl X "range") (hm : X.mg "range" = none) (ha : GA X Wx [a] fl) (hs : starEach [a] X.env = [(false, eval a X.env)] := by rfl) : GI X Wx tg (.Call (.Name "range" p) [a] [] pos) (iRngD1 fl) := by
  obtain ⟨ta, pa, sa⟩ := ha
  refine ⟨_, pi_range1 hg hm pa hs, fun F S H σ ρ W Q Qx R cf hf hx hE => ?_⟩
  refine sa F S H σ ρ W _ Qx _ cf hf hx fun S1 H1 ρ1 W1 ds vs e1 c1 r1 q1 => ?_
  split at q1
  · rename_i j
    obtain ⟨v, r, rfl, h1, h2⟩ := Reps.cons_iff.mp r1
    cases Rep.v_iff.mp h1
    rw [Reps.nil_iff.mp h2]
    exact ⟨j, rfl, q1.1, q1.2.1, hE S1 H1 ρ1 W1 _ _ e1 c1 itok_r q1.2.2⟩
  · exact q1.elim
theorem gi_range2 (hg : Gl X "range") (hm : X.mg "range" = none) (ha : GA X Wx [a, b] fl) (hs : starEach [a, b] X.env = [(false, eval a X.env), (false, eval b X.env)] := by rfl) (hs2 : starEach [b] X.env = [(false, eval b X.env)] := by rfl) : GI X Wx tg (.Call (.Name "range" p) [a, b] [] pos) (iRngD2 fl) := by
  obtain ⟨ta, pa, sa⟩ := ha
  refine ⟨_, pi_range2 hg hm pa hs hs2, fun F S H σ ρ W Q Qx R cf hf hx hE => ?_⟩
  refine sa F S H σ ρ W _ Qx _ cf hf hx fun S1 H1 ρ1 W1 ds vs e1 c1 r1 q1 => ?_
  split at q1
  · rename_i i j
    obtain ⟨v, r, rfl, h1, h2⟩ := Reps.cons_iff.mp r1
    obtain ⟨v', r', rfl, h3, h4⟩ := Reps.cons_iff.mp h2
    cases Rep.v_iff.mp h1
    cases Rep.v_iff.mp h3
    rw [Reps.nil_iff.mp h4]
    exact ⟨i, j, rfl, q1.1, hE S1 H1 ρ1 W1 _ _ e1 c1 itok_r q1.2⟩
  · exact q1.elim
/-- lo, lo + c, .. -/
def steps (lo c : Int) (n : Nat) : List D := (List.range n).map fun (i : Nat) => D.int (lo + (i : Int) * c)
def iRngD3 (fl : TL) : TID := fun ρ W Q Qx => fl ρ W (fun ds ρ' W' => match ds with | [.v (.int i), .v (.int j), .v (.int c)] => ∃ n, RgC i j c n ∧ Q (steps i c n) ρ' W' | _ => False) Qx
theorem itok_c {K : PySem.W.Frag} {F S : Reg} {H : Hp} {lo c : Int} {n : Nat} : ItOk K F S H (Itc lo c n) (steps lo c n) := fun S' H' e => by
  refine ⟨fun i d hd => ?_, ?_⟩
  · unfold steps at hd
    rw [List.getElem?_map] at hd
    cases hc : (List.range n)[i]? with
    | none => rw [hc] at hd; cases hd
    | some k =>
      rw [hc] at hd; cases hd
      rw [List.getElem?_eq_some_iff] at hc
      obtain ⟨hi, e1⟩ := hc
      rw [List.getElem_range] at e1
      subst e1
      refine ⟨(show i < n by simpa using hi), fun x H3 ⟨e3, h2⟩ => ?_⟩
      subst e3 h2
      exact ⟨Same.refl _, fun _ => Rep.v_iff.mpr rfl⟩
  · show n ≤ _
    unfold steps; simp
theorem gi_range3 (hg : Gl X "range") (hm : X.mg "range" = none) (ha : GA X Wx [a, b, c] fl) (hs : starEach [a, b, c] X.env = (false, eval a X.env) :: starEach [b, c] X.env := by rfl) (hpl : (backTo pos (starEach [b, c] X.env)).any (·.1) = false := by rfl) : GI X Wx tg (.Call (.Name "range" p) [a, b, c] [] pos) (iRngD3 fl) := by
  obtain ⟨ta, pa, sa⟩ := ha
  refine ⟨_, pi_range3 hg hm pa hs hpl, fun F S H σ ρ W Q Qx R cf hf hx hE => ?_⟩
  refine sa F S H σ ρ W _ Qx _ cf hf hx fun S1 H1 ρ1 W1 ds vs e1 c1 r1 q1 => ?_
  split at q1
  · rename_i i j c
    obtain ⟨v, r, rfl, h1, h2⟩ := Reps.cons_iff.mp r1
    obtain ⟨v', r', rfl, h3, h4⟩ := Reps.cons_iff.mp h2
    obtain ⟨v'', r'', rfl, h5, h6⟩ := Reps.cons_iff.mp h4
    cases Rep.v_iff.mp h1
    cases Rep.v_iff.mp h3
    cases Rep.v_iff.mp h5
    rw [Reps.nil_iff.mp h6]
    obtain ⟨n, hr, q⟩ := q1
    exact ⟨i, j, c, n, rfl, hr, hE S1 H1 ρ1 W1 _ _ e1 c1 itok_c q⟩
  · exact q1.elim
end

/-! ### for -/
section
variable {X : Cx} {Wx : WX} {st : Stmt} {f g : TSD} {e tg iter : Expr} {fi : TID} {gd : TGD} {pos : Pos}
/-- I: what holds ahead of the i-th turn -/
@[irreducible] def dFor (fi : TID) (gd : TGD) (fb : TSD) : TSD := fun De ρ W => fi ρ W (fun ds ρ0 W0 => ∃ I : Nat → Env → Wd → Prop, I 0 ρ0 W0 ∧
  (∀ (i : Nat) d ρ W, ds[i]? = some d → I i ρ W → gd d ρ W fun ρ' W' => fb { De with nx := I (i + 1), ct := I (i + 1), bk := De.nx } ρ' W') ∧ ∀ ρ W, I ds.length ρ W → De.nx ρ W) De.ex
theorem gs_for {body : List Stmt} (hp : PassesOwn (model X.prog X.w) X.A X.env X.xe) (hc : X.calm = true) {ts : List Nat} (hi : GI X Wx tg iter fi) (hg : GG X tg gd ts) (hb : GSs X Wx body f)
    (hs : ∀ x, foldedSetIterable iter X.env x = pure x := by intro _; rfl) : GS X Wx (.For tg iter body [] pos) (dFor fi gd f) := by
  obtain ⟨wi, pi, si⟩ := hi
  obtain ⟨tgt, pg, sg⟩ := hg
  obtain ⟨tb, pb, sb⟩ := hb
  refine ⟨_, ps_for hp hc pi pg pb hs, fun F S H σ ρ W De Dh cf hf l => ?_⟩
  unfold dFor at hf
  refine si F S H σ ρ W _ De.ex _ cf hf l.ex fun S1 H1 ρ1 W1 ds J e1 c1 ok q1 => ?_
  obtain ⟨I, h0, hturn, hend⟩ := q1
  let Inv' : Nat → L2.St → Hp → Prop := fun i σ' H' => ∃ S' ρ' W', Stp F S1 H1 S' H' ∧ Cf X.K F S' H' σ' ρ' W' ∧ I i ρ' W'
  refine ⟨fun i m σ' H' => m = ds.length - i ∧ i ≤ ds.length ∧ Inv' i σ' H', ⟨ds.length, by simp, Nat.zero_le _, S1, ρ1, W1, .refl, c1, h0⟩, ?_⟩
  rintro i m σ2 H2 ⟨rfl, hi, S2, ρ2, W2, e2, c2, q2⟩
  obtain ⟨okg, oks⟩ := ok S2 H2 e2
  by_cases hlt : i < ds.length
  · have hd : ds[i]? = some ds[i] := List.getElem?_eq_getElem hlt
    obtain ⟨hgo, hy⟩ := okg i _ hd
    refine .inr ⟨hgo, Inv' (i + 1), fun σ' H' p' => ⟨_, by omega, rfl, hlt, p'⟩, fun x H3 y => ?_⟩
    obtain ⟨s3, r3⟩ := hy x H3 y
    refine sg F S2 H3 σ2 ρ2 W2 _ x _ _ (c2.same s3) (r3 c2.cb.sd) (hturn i _ ρ2 W2 hd q2) fun S4 H4 σ4 ρ4 W4 e4 c4 _ _ q4 => ?_
    have e34 := (e2.trans (stp_same c2.cb s3)).trans e4
    refine sb F S4 H4 σ4 ρ4 W4 _ _ c4 q4 ⟨fun S' H' σ' ρ' W' e' c q => ⟨S', ρ', W', e34.trans e', c, q⟩, fun S' H' σ' ρ' W' d v e' c r q => l.rt S' H' σ' ρ' W' d v ((e1.trans e34).trans e') c r q,
      fun S' H' σ' ρ' W' e' c q => l.nx S' H' σ' ρ' W' ((e1.trans e34).trans e') c q, fun S' H' σ' ρ' W' e' c q => ⟨S', ρ', W', e34.trans e', c, q⟩, (l.ex.up e1).up e34⟩
  · have e : i = ds.length := by omega
    subst e
    exact .inl ⟨oks, l.nx S2 H2 σ2 ρ2 W2 (e1.trans e2) c2 (hend ρ2 W2 q2)⟩
/-- while: I with its measure -/
@[irreducible] def dWhile (fc : TB) (fb : TSD) : TSD := fun De ρ W => ∃ I : Nat → Env → Wd → Prop, (∃ m, I m ρ W) ∧ ∀ m ρ W, I m ρ W → fc ρ W (fun b ρ' W' => if b = true then
  fb { De with nx := fun ρ2 W2 => ∃ m', m' < m ∧ I m' ρ2 W2, ct := fun ρ2 W2 => ∃ m', m' < m ∧ I m' ρ2 W2, bk := De.nx } ρ' W' else De.nx ρ' W') De.ex
theorem gs_while {c : Expr} {body : List Stmt} {fc : TB} (hp : PassesOwn (model X.prog X.w) X.A X.env X.xe) (hc : GT X Wx c fc) (hb : GSs X Wx body f) : GS X Wx (.While c body [] pos) (dWhile fc f) := by
  obtain ⟨tc, pc, sc⟩ := hc
  obtain ⟨tb, pb, sb⟩ := hb
  refine ⟨_, ps_while hp pc pb, fun F S H σ ρ W De Dh cf hf l => ?_⟩
  unfold dWhile at hf
  obtain ⟨I, ⟨m0, h0⟩, hturn⟩ := hf
  let Inv' : Nat → L2.St → Hp → Prop := fun m σ' H' => ∃ S' ρ' W', Stp F S H S' H' ∧ Cf X.K F S' H' σ' ρ' W' ∧ I m ρ' W'
  refine ⟨Inv', ⟨m0, S, ρ, W, .refl, cf, h0⟩, ?_⟩
  rintro m σ1 H1 ⟨S1, ρ1, W1, e1, c1, q1⟩
  refine sc F S1 H1 σ1 ρ1 W1 _ De.ex _ c1 (hturn m ρ1 W1 q1) (l.ex.up e1) fun S2 H2 ρ2 W2 b e2 c2 q2 => ?_
  cases b with
  | true =>
    refine ⟨fun σ' H' => ∃ m', m' < m ∧ Inv' m' σ' H', fun _ _ h => h, ?_⟩
    have e12 := e1.trans e2
    exact sb F S2 H2 σ1 ρ2 W2 _ _ c2 q2 ⟨fun S' H' σ' ρ' W' e' c ⟨m', hm, q⟩ => ⟨m', hm, S', ρ', W', e12.trans e', c, q⟩, fun S' H' σ' ρ' W' d v e' c r q => l.rt S' H' σ' ρ' W' d v (e12.trans e') c r q,
      fun S' H' σ' ρ' W' e' c q => l.nx S' H' σ' ρ' W' (e12.trans e') c q, fun S' H' σ' ρ' W' e' c ⟨m', hm, q⟩ => ⟨m', hm, S', ρ', W', e12.trans e', c, q⟩, l.ex.up e12⟩
  | false => exact l.nx S2 H2 σ1 ρ2 W2 (e1.trans e2) c2 q2
end

/-! ### comprehensions -/
def wipeD (ρ : Env) : List Nat → Env
  | [] => ρ
  | v :: vs => (wipeD ρ vs).set v none
theorem wipeD_length (ρ : Env) : ∀ vs : List Nat, (wipeD ρ vs).length = ρ.length
  | [] => rfl
  | v :: vs => by unfold wipeD; rw [List.length_set, wipeD_length ρ vs]
def noOwn (ρ : Env) (vs : List Nat) : Prop := ∀ i ∈ vs, ∀ o, ρ[i]? ≠ some (some (.om o))
theorem Cf.setNone {K : PySem.W.Frag} {F S : Reg} {H : Hp} {σ : St} {ρ : Env} {W : Wd} (c : Cf K F S H σ ρ W) (i : Nat) : Cf K F S H (σ.set i none) (ρ.set i none) W where
  cb := c.cb
  len := by simp [c.len]
  sh := fun j d' h => by
    by_cases hj : i = j
    · subst hj
      have hl : i < ρ.length := by
        have := (List.getElem?_eq_some_iff.mp h).1
        simpa using this
      rw [List.getElem?_set_self hl] at h
      cases h
    · rw [List.getElem?_set_ne hj] at h
      obtain ⟨w, h1, h2⟩ := c.sh j d' h
      exact ⟨w, by rw [List.getElem?_set_ne hj]; exact h1, h2⟩
  om := fun j ds h => by
    by_cases hj : i = j
    · subst hj
      have hl : i < ρ.length := by
        have := (List.getElem?_eq_some_iff.mp h).1
        simpa using this
      rw [List.getElem?_set_self hl] at h
      cases h
    · rw [List.getElem?_set_ne hj] at h
      obtain ⟨p, h1, h2⟩ := c.om j ds h
      exact ⟨p, by rw [List.getElem?_set_ne hj]; exact h1, h2⟩
  dis := fun j k p h1 h2 => by
    have go : ∀ j, Own (σ.set i none) (ρ.set i none) j p → Own σ ρ j p := fun j ⟨ds, q1, q2⟩ => by
      by_cases hj : i = j
      · subst hj
        have hl : i < ρ.length := by
          have := (List.getElem?_eq_some_iff.mp q1).1
          simpa using this
        rw [List.getElem?_set_self hl] at q1
        cases q1
      · rw [List.getElem?_set_ne hj] at q1 q2
        exact ⟨ds, q1, q2⟩
    exact c.dis j k p (go j h1) (go k h2)
theorem Cf.wiped {K : PySem.W.Frag} {F S : Reg} {H : Hp} {σ : St} {ρ : Env} {W : Wd} (c : Cf K F S H σ ρ W) : ∀ vs : List Nat, Cf K F S H (wipe σ vs) (wipeD ρ vs) W
  | [] => c
  | v :: vs => by unfold wipe wipeD; exact (c.wiped vs).setNone v
/-- tests of a comprehension -/
def GTs (X : Cx) (Wx : WX) (ifs : List Expr) (f : TB) : Prop := ∃ te, PTs X ifs te ∧ SndB X.K Wx te f
def dYes : TB := fun ρ W Q _ => Q true ρ W
section
variable {X : Cx} {Wx : WX} {c e : Expr} {fb : TB}
theorem gts_nil : GTs X Wx [] dYes := ⟨_, pts_nil, fun F S H σ ρ W Q Qx R cf hf hx hE => hE S H ρ W true .refl cf hf⟩
theorem gts_one (h : GT X Wx c fb) : GTs X Wx [c] fb := by
  obtain ⟨t, p, s⟩ := h
  exact ⟨_, pts_one p, s⟩
end
/-- W0: within a block nothing may be raised -/
abbrev WX0 : WX := fun _ _ _ _ => False

def canE (K : PySem.W.Frag) (Wx : WX) (f : TD) : TE := fun σ H R => ∃ F S ρ W Q Qx, Cf K F S H σ ρ W ∧ f ρ W Q Qx ∧ LkX K F S H Wx Qx ∧ EndE K F S H σ Q R
def canB (K : PySem.W.Frag) (Wx : WX) (f : TB) : TT := fun σ H R => ∃ F S ρ W Q Qx, Cf K F S H σ ρ W ∧ f ρ W Q Qx ∧ LkX K F S H Wx Qx ∧ EndB K F S H σ Q R
def canG (K : PySem.W.Frag) (ts : List Nat) (g : TGD) : TG := fun v σ H R => ∃ F S ρ W d P, Cf K F S H σ ρ W ∧ Rep K S H d v ∧ g d ρ W P ∧
  ∀ S' H' σ' ρ' W', Stp F S H S' H' → Cf K F S' H' σ' ρ' W' → Off ts σ σ' → Off ts ρ ρ' → P ρ' W' → R σ' H'
section
variable {X : Cx} {Wx : WX} {c e tg : Expr} {ifs : List Expr} {f : TD} {fb : TB} {g : TGD} {ts : List Nat}
theorem GE.can (h : GE X Wx e f) : PE X e (canE X.K Wx f) := by
  obtain ⟨te, pe, se⟩ := h
  exact ⟨fun pins s σ H Q I ⟨F, S, ρ, W, Qd, Qx, cf, hf, hx, hE⟩ => pe.run pins s σ H Q I (se F S H σ ρ W Qd Qx Q cf hf hx hE)⟩
theorem GTs.can (h : GTs X Wx ifs fb) : PTs X ifs (canB X.K Wx fb) := by
  obtain ⟨te, pe, se⟩ := h
  exact ⟨fun pins s σ H Q I ⟨F, S, ρ, W, Qd, Qx, cf, hf, hx, hE⟩ => pe.run pins s σ H Q I (se F S H σ ρ W Qd Qx Q cf hf hx hE)⟩
theorem GG.can (h : GG X tg g ts) : PG X tg (canG X.K ts g) := by
  obtain ⟨te, pe, se⟩ := h
  exact ⟨fun pins s σ H v u Q I r ⟨F, S, ρ, W, d, P, cf, rd, hg, hE⟩ => pe.run pins s σ H v u Q I r (se F S H σ ρ W d v P Q cf rd hg hE)⟩
end
/-- the heap without p -/
def del (H : Hp) (p : Addr) : Hp := fun a => if a = p then none else H a
theorem del_ne {H : Hp} {a p : Addr} (h : a ≠ p) : del H p a = H a := if_neg h
theorem del_same {H : Hp} {p : Addr} : del H p p = none := if_pos rfl
theorem upd_del {H : Hp} {p : Addr} {o : HO} (h : H p = some o) : upd (del H p) p o = H := by
  funext a
  by_cases ha : a = p
  · rw [ha, upd_same, h]
  · rw [upd_ne ha, del_ne ha]
abbrev Add (S : Reg) (p : Addr) : Reg := fun a => S a ∨ a = p
abbrev Rem (S : Reg) (p : Addr) : Reg := fun a => S a ∧ a ≠ p
mutual
theorem Rep.del {K : PySem.W.Frag} {S : Reg} {H : Hp} {p : Addr} (hp : S p) : ∀ {d : D} {v : V}, Rep K S H d v → Rep K (Rem S p) (del H p) d v
  | .v _, _, h => by simp only [Rep] at h ⊢; exact h
  | .tup ds, v, h => by
    simp only [Rep] at h ⊢
    obtain ⟨a, xs, e1, h1, h2⟩ := h
    refine ⟨a, xs, e1, ?_, Reps.del hp h2⟩
    rcases h1 with ⟨h1, hs⟩ | h1 | ⟨o, h1, hs⟩
    · have na : a ≠ p := fun q => hs (q ▸ hp)
      exact .inl ⟨by rw [del_ne na]; exact h1, fun z => hs z.1⟩
    · exact .inr (.inl h1)
    · have na : a ≠ p := fun q => hs (q ▸ hp)
      exact .inr (.inr ⟨o, by rw [del_ne na]; exact h1, fun z => hs z.1⟩)
  | .lst ds, v, h => by
    simp only [Rep] at h ⊢
    obtain ⟨a, xs, e1, ⟨h1, hs⟩, h2⟩ := h
    have na : a ≠ p := fun q => hs (q ▸ hp)
    exact ⟨a, xs, e1, ⟨by rw [del_ne na]; exact h1, fun z => hs z.1⟩, Reps.del hp h2⟩
  | .scr ns, v, h => by
    simp only [Rep] at h ⊢
    obtain ⟨a, e1, h1⟩ := h
    refine ⟨a, e1, ?_⟩
    rcases h1 with ⟨h1, hs⟩ | h1
    · have na : a ≠ p := fun q => hs (q ▸ hp)
      refine .inl ⟨?_, fun z => hs z.1⟩
      rcases h1 with h1 | ⟨o, h1⟩
      · exact .inl (by rw [del_ne na]; exact h1)
      · exact .inr ⟨o, by rw [del_ne na]; exact h1⟩
    · exact .inr h1
  | .dct ks ds, v, h => by
    simp only [Rep] at h ⊢
    obtain ⟨a, xs, e1, ⟨h1, hs⟩, hl, h2⟩ := h
    have na : a ≠ p := fun q => hs (q ▸ hp)
    exact ⟨a, xs, e1, ⟨by rw [del_ne na]; exact h1, fun z => hs z.1⟩, hl, Reps.del hp h2⟩
  | .tpf ds, v, h => by
    simp only [Rep] at h ⊢
    obtain ⟨a, xs, o, e1, ⟨h0, hs⟩, h1, h2⟩ := h
    have na : a ≠ p := fun q => hs (q ▸ hp)
    exact ⟨a, xs, o, e1, ⟨by rw [del_ne na]; exact h0, fun z => hs z.1⟩, h1, Reps.del hp h2⟩
  | .exc c ks ds, v, h => by
    simp only [Rep] at h ⊢
    obtain ⟨a, od, xs, e1, ⟨h0, hs⟩, h1, h2⟩ := h
    have na : a ≠ p := fun q => hs (q ▸ hp)
    refine ⟨a, od, xs, e1, ⟨by rw [del_ne na]; exact h0, fun z => hs z.1⟩, ?_, Reps.del hp h2⟩
    cases ks with
    | none => exact h1
    | some ks =>
      obtain ⟨d, q1, ⟨q2, q3⟩, q4⟩ := h1
      have nd : d ≠ p := fun q => q3 (q ▸ hp)
      exact ⟨d, q1, ⟨by rw [del_ne nd]; exact q2, fun z => q3 z.1⟩, q4⟩
theorem Reps.del {K : PySem.W.Frag} {S : Reg} {H : Hp} {p : Addr} (hp : S p) : ∀ {ds : List D} {vs : List V}, Reps K S H ds vs → Reps K (Rem S p) (del H p) ds vs
  | [], _, h => by simp only [Reps] at h ⊢; exact h
  | d :: ds, vs, h => by
    simp only [Reps] at h ⊢
    obtain ⟨x, r, e1, h1, h2⟩ := h
    exact ⟨x, r, e1, Rep.del hp h1, Reps.del hp h2⟩
end
section
variable {K : PySem.W.Frag} {F S S' : Reg} {H H' : Hp} {σ σ2 : St} {ρ ρ2 : Env} {W W' : Wd}
/-- a foreign object comes -/
theorem Cf.alien (c : Cf K F S H σ ρ W) {p : Addr} {o : HO} (hp : H p = none) : Stp F S H (Add S p) (upd H p o) ∧ Cf K (Add F p) (Add S p) (upd H p o) σ ρ W := by
  have np : ∀ a, S a → a ≠ p := fun a hs q => c.cb.sd a hs (by rw [q]; exact hp)
  have st : Stp F S H (Add S p) (upd H p o) :=
    ⟨fun a u _ h => same_new hp a u h, fun a h1 h2 => by
      rcases h1 with h1 | h1
      · exact absurd h1 h2
      · rw [h1]; exact hp, fun a h => by
      by_cases ha : a = p
      · rw [ha]; exact hp
      · rw [upd_ne ha] at h; exact h, fun a hf => upd_ne (np a (c.cb.fs a hf))⟩
  refine ⟨st, ⟨fun a h => ?_, fun a h => ?_, fun q u hw => ?_⟩, c.len, fun j d' h => ?_, fun j ds' h => ?_, c.dis⟩
  · rcases h with h | h
    · rw [upd_ne (np a h)]; exact c.cb.sd a h
    · rw [h, upd_same]; simp
  · rcases h with h | h
    · exact .inl (c.cb.fs a h)
    · exact .inr h
  · obtain ⟨h1, h2, h3⟩ := c.cb.w q u hw
    exact ⟨.inl h1, fun z => z.elim h2 (np q h1), h3.up st (upd_ne (np q h1))⟩
  · obtain ⟨w, h1, h2⟩ := c.sh j d' h
    exact ⟨w, h1, h2.up st⟩
  · obtain ⟨q, h1, h3, h4, h5, h6⟩ := c.om j ds' h
    exact ⟨q, h1, h3.up st (upd_ne (np q h4)), .inl h4, fun z => z.elim h5 (np q h4), h6⟩
/-- it changes -/
theorem Cf.alienCh (c : Cf K (Add F p) S H σ ρ W) {o : HO} : Stp F (Rem S p) (del H p) (Rem S p) (del H p) ∧ Cf K (Add F p) S (upd H p o) σ ρ W := by
  have sp : S p := c.cb.fs p (.inr rfl)
  have hn := c.cb.sd p sp
  refine ⟨.refl, ⟨fun a h => ?_, c.cb.fs, fun q u hw => ?_⟩, c.len, fun j d' h => ?_, fun j ds' h => ?_, c.dis⟩
  · by_cases ha : a = p
    · rw [ha, upd_same]; simp
    · rw [upd_ne ha]; exact c.cb.sd a h
  all_goals
    have st : Stp (fun _ => False) S H S (upd H p o) := ⟨fun a u h e => by
      have : a ≠ p := fun q => h (q ▸ sp)
      rw [upd_ne this]; exact e, fun a h1 h2 => absurd h1 h2, fun a h => by
      by_cases ha : a = p
      · rw [ha, upd_same] at h; cases h
      · rw [upd_ne ha] at h; exact h, fun a h => h.elim⟩
  · obtain ⟨h1, h2, h3⟩ := c.cb.w q u hw
    exact ⟨h1, h2, h3.up st (upd_ne fun z => h2 (.inr z))⟩
  · obtain ⟨w, h1, h2⟩ := c.sh j d' h
    exact ⟨w, h1, h2.up st⟩
  · obtain ⟨q, h1, h3, h4, h5, h6⟩ := c.om j ds' h
    exact ⟨q, h1, h3.up st (upd_ne fun z => h5 (.inr z)), h4, h5, h6⟩
theorem MRep.del {p q : Addr} {o : MO} (h : MRep K S H q o) (nq : q ≠ p) (sp : S p) : MRep K (Rem S p) (del H p) q o := by
  cases o with
  | lst ds => obtain ⟨xs, h4, h5⟩ := h; exact ⟨xs, (del_ne nq).trans h4, h5.del sp⟩
  | ins C dx fs => obtain ⟨xs, h4, h5, h6⟩ := h; exact ⟨xs, (del_ne nq).trans h4, h5, h6.del sp⟩
  | dK kvs => obtain ⟨xs, h4, h5, h6⟩ := h; exact ⟨xs, (del_ne nq).trans h4, h5, h6.del sp⟩
/-- it goes -/
theorem Cf.unalien {p : Addr} (c : Cf K (Add F p) S H σ ρ W) (hF : ¬ F p) : Cf K F (Rem S p) (del H p) σ ρ W := by
  have sp : S p := c.cb.fs p (.inr rfl)
  refine ⟨⟨fun a h => by rw [del_ne h.2]; exact c.cb.sd a h.1, fun a h => ⟨c.cb.fs a (.inl h), fun z => hF (z ▸ h)⟩, fun q u hw => ?_⟩, c.len, fun j d' h => ?_, fun j ds' h => ?_, c.dis⟩
  · obtain ⟨h1, h2, h3⟩ := c.cb.w q u hw
    have nq : q ≠ p := fun z => h2 (.inr z)
    refine ⟨⟨h1, nq⟩, fun z => h2 (.inl z), ?_⟩
    exact h3.del nq sp
  · obtain ⟨w, h1, h2⟩ := c.sh j d' h
    exact ⟨w, h1, h2.del sp⟩
  · obtain ⟨q, h1, h3, h4, h5, h6⟩ := c.om j ds' h
    have nq : q ≠ p := fun z => h5 (.inr z)
    exact ⟨q, h1, h3.del nq sp, ⟨h4, nq⟩, fun z => h5 (.inl z), h6⟩
theorem Off.get {α : Type} {ts : List Nat} {l l' : List α} (h : Off ts l l') {j : Nat} (hj : j ∉ ts) : l'[j]? = l[j]? := h.2 j hj
/-- the slots are as before -/
theorem Cf.restore (c0 : Cf K F S H σ ρ W) (e : Stp F S H S' H') (c : Cf K F S' H' σ2 ρ2 W') {vs : List Nat} (o1 : ∀ j, j ∉ vs → σ2[j]? = σ[j]?) (o2 : ∀ j, j ∉ vs → ρ2[j]? = ρ[j]?) (hn : noOwn ρ vs) : Cf K F S' H' σ ρ W' where
  cb := c.cb
  len := c0.len
  sh := fun i d h => by
    obtain ⟨v, h1, h2⟩ := c0.sh i d h
    exact ⟨v, h1, h2.up e⟩
  om := fun i ds h => by
    have hi : i ∉ vs := fun z => hn i z ds h
    obtain ⟨q, h1, h2⟩ := c.om i ds ((o2 i hi).trans h)
    exact ⟨q, (o1 i hi).symm.trans h1, h2⟩
  dis := c0.dis
end
theorem wipe_off (σ : St) : ∀ (vs : List Nat) (j : Nat), j ∉ vs → (wipe σ vs)[j]? = σ[j]?
  | [], _, _ => rfl
  | v :: vs, j, h => by
    unfold wipe
    rw [List.getElem?_set_ne (fun e => h (by simp [e]))]
    exact wipe_off σ vs j fun z => h (by simp [z])
theorem wipeD_off (σ : Env) : ∀ (vs : List Nat) (j : Nat), j ∉ vs → (wipeD σ vs)[j]? = σ[j]?
  | [], _, _ => rfl
  | v :: vs, j, h => by
    unfold wipeD
    rw [List.getElem?_set_ne (fun e => h (by simp [e]))]
    exact wipeD_off σ vs j fun z => h (by simp [z])
theorem wipe_on (σ : St) : ∀ (vs : List Nat) (j : Nat), j ∈ vs → j < σ.length → (wipe σ vs)[j]? = some none
  | v :: vs, j, h, hl => by
    unfold wipe
    by_cases e : v = j
    · subst e
      rw [List.getElem?_set_self (by rw [wipe_length]; exact hl)]
    · rw [List.getElem?_set_ne e]
      exact wipe_on σ vs j (by simpa [Ne.symm e] using h) hl
theorem wipe_eq {σ σ2 : St} {vs : List Nat} (hl : σ2.length = σ.length) (h : ∀ j, j ∉ vs → σ2[j]? = σ[j]?) : wipe σ2 vs = wipe σ vs := by
  refine List.ext_getElem? fun j => ?_
  by_cases hj : j ∈ vs
  · by_cases hb : j < σ.length
    · rw [wipe_on σ vs j hj hb, wipe_on σ2 vs j hj (by rw [hl]; exact hb)]
    · rw [List.getElem?_eq_none (by rw [wipe_length, hl]; omega), List.getElem?_eq_none (by rw [wipe_length]; omega)]
  · rw [wipe_off σ2 vs j hj, wipe_off σ vs j hj, h j hj]
/-- I: what holds of the list so far and the state ahead of the i-th turn; the slots are as they were -/
@[irreducible] def dLc (fi : TID) (gd : TGD) (ft : TB) (fe : TD) (vs : List Nat) : TL := fun ρ W Q Qx => noOwn ρ vs ∧ fi ρ W (fun ds ρ0 W0 => ρ0 = ρ ∧ ds.length ≤ sizeLine ∧ ∃ I : Nat → List D → Wd → Prop, I 0 [] W0 ∧
  (∀ (i : Nat) d acc W, ds[i]? = some d → acc.length ≤ i → I i acc W → gd d (wipeD ρ vs) W fun ρ1 W1 => ft ρ1 W1 (fun b ρ2 W2 => ρ2 = ρ1 ∧ if b = true then
    fe ρ1 W2 (fun y ρ3 W3 => ρ3 = ρ1 ∧ I (i + 1) (acc ++ [y]) W3) (fun _ _ _ _ => False) else I (i + 1) acc W2) (fun _ _ _ _ => False)) ∧ ∀ acc W, acc.length ≤ ds.length → I ds.length acc W → Q acc ρ W) Qx
theorem lkx_none {K : PySem.W.Frag} {F S : Reg} {H : Hp} {Wx : WX} : LkX K F S H Wx (fun _ _ _ _ => False) := fun _ _ _ _ _ _ _ _ _ _ _ q => q.elim
theorem snd_lc {K : PySem.W.Frag} {Wx : WX} {wi : TI} {fi : TID} {gd : TGD} {ft : TB} {fe : TD} {vs ts : List Nat} (hts : ∀ j ∈ ts, j ∈ vs) (si : SndI K Wx wi fi) : SndN K Wx (tLc wi (canG K ts gd) (canB K WX0 ft) (canE K WX0 fe) vs) (dLc fi gd ft fe vs) := by
  intro F S H σ ρ W Q Qx R cf hf hx hE
  unfold dLc at hf
  obtain ⟨hno, hf⟩ := hf
  refine si F S H σ ρ W _ Qx _ cf hf hx fun S1 H1 ρ1 W1 ds J e1 c1 ok q1 => ?_
  obtain ⟨rfl, hlen, I, h0, hturn, hend⟩ := q1
  intro p hp
  have nF : ¬ F p := fun z => c1.cb.sd p (c1.cb.fs p z) hp
  have nS : ¬ S1 p := fun z => c1.cb.sd p z hp
  obtain ⟨ea, ca⟩ := c1.alien (o := .lst []) hp
  let Iv : Nat → Hp → Prop := fun i H' => ∃ S' W' acc xs, Stp F S1 H1 S' H' ∧ Cf K (Add F p) S' H' σ ρ1 W' ∧ Reps K S' H' acc xs ∧ H' p = some (.lst xs) ∧ acc.length ≤ i ∧ I i acc W'
  refine ⟨fun i m H' => m = ds.length - i ∧ i ≤ ds.length ∧ Iv i H', ⟨ds.length, by simp, Nat.zero_le _, Add S1 p, W1, [], [], ea, ca, Reps.nil, upd_same, Nat.le_refl _, h0⟩, ?_⟩
  rintro i m H2 ⟨rfl, hi, S2, W2, acc, xs, e2, c2, r2, hp2, hacc, q2⟩
  have nFp : Stp F S1 H1 S2 H2 := e2
  obtain ⟨okg, oks⟩ := ok S2 H2 e2
  by_cases hlt : i < ds.length
  · have hd : ds[i]? = some ds[i] := List.getElem?_eq_getElem hlt
    obtain ⟨hgo, hy⟩ := okg i _ hd
    refine .inr ⟨hgo, Iv (i + 1), fun H' p' => ⟨_, by omega, rfl, hlt, p'⟩, fun x H3 y => ?_⟩
    obtain ⟨s3, r3⟩ := hy x H3 y
    have e3 : Stp F S2 H2 S2 H3 := (stp_same c2.cb s3).mono fun _ h => .inl h
    refine ⟨Add F p, S2, wipeD ρ1 vs, W2, ds[i], _, (c2.same s3).wiped vs, r3 c2.cb.sd, hturn i _ acc W2 hd hacc q2, fun S4 H4 σ4 ρ4 W4 e4 c4 o1 o2 q4 => ?_⟩
    have off1 : ∀ j, j ∉ vs → σ4[j]? = σ[j]? := fun j hj => (o1.2 j fun z => hj (hts j z)).trans (wipe_off σ vs j hj)
    have off2 : ∀ j, j ∉ vs → ρ4[j]? = ρ1[j]? := fun j hj => (o2.2 j fun z => hj (hts j z)).trans (wipeD_off ρ1 vs j hj)
    refine ⟨wipe_eq (by rw [o1.1, wipe_length]) off1, ?_⟩
    refine ⟨Add F p, S4, ρ4, W4, _, _, c4, q4, lkx_none, fun S5 H5 ρ5 W5 b e5 c5 q5 => ?_⟩
    obtain ⟨rfl, q5⟩ := q5
    have e45 := (e4.mono (F' := F) fun _ h => .inl h).trans (e5.mono (F' := F) fun _ h => .inl h)
    have e35 := e3.trans e45
    have r5 := r2.up e35
    have hp5 : H5 p = some (.lst xs) := (e5.frn p (.inr rfl)).trans ((e4.frn p (.inr rfl)).trans (s3 p _ hp2))
    have full : Stp (Add F p) S2 H2 S5 H5 := (stp_same c2.cb s3).trans (e4.trans e5)
    cases b with
    | true =>
      refine ⟨Add F p, S5, ρ5, W5, _, _, c5, q5, lkx_none, fun S6 H6 ρ6 W6 y' v6 e6 c6 r6 q6 => ?_⟩
      obtain ⟨rfl, q6⟩ := q6
      have hp6 : H6 p = some (.lst xs) := (e6.frn p (.inr rfl)).trans hp5
      refine ⟨xs, hp6, by rw [r2.length]; omega, ?_⟩
      have c7 := c2.restore (full.trans e6) c6 off1 off2 hno
      have sp : S6 p := c7.cb.fs p (.inr rfl)
      have e67 : Stp F S6 H6 S6 (upd H6 p (.lst (xs ++ [v6]))) := ⟨fun a u h e => by
        have : a ≠ p := fun q => h (q ▸ sp)
        rw [upd_ne this]; exact e, fun a h1 h2 => absurd h1 h2, fun a h => by
        by_cases ha : a = p
        · rw [ha, upd_same] at h; cases h
        · rw [upd_ne ha] at h; exact h, fun a h => upd_ne fun z => nF (z ▸ h)⟩
      have e6' := e6.mono (F' := F) fun _ h => .inl h
      refine ⟨S6, W6, acc ++ [y'], xs ++ [v6], ((e2.trans e35).trans e6').trans e67, c7.alienCh.2, ((r5.up e6').append (Reps.cons r6 Reps.nil)).up e67, upd_same, by simp; omega, q6⟩
    | false =>
      have c7 := c2.restore full c5 off1 off2 hno
      exact ⟨S5, W5, acc, xs, e2.trans e35, c7, r5, hp5, by omega, q5⟩
  · have e : i = ds.length := by omega
    subst e
    refine .inl ⟨oks, ?_⟩
    have sp : S2 p := c2.cb.fs p (.inr rfl)
    have := hE (Rem S2 p) (del H2 p) ρ1 W2 acc xs p (e1.trans ⟨fun a o h1 h2 => ?_, fun a h1 h2 => e2.new a h1.1 h2, fun a h => ?_, fun a h => ?_⟩) (c2.unalien nF) (r2.del sp) del_same (hend acc W2 hacc q2)
    · rw [upd_del hp2] at this; exact this
    · have : a ≠ p := fun z => by rw [z, hp] at h2; cases h2
      rw [del_ne this]; exact e2.keep a o h1 h2
    · by_cases ha : a = p
      · rw [ha]; exact hp
      · rw [del_ne ha] at h; exact e2.dom a h
    · rw [del_ne (fun (z : a = p) => nF (z ▸ h))]; exact e2.frn a h
section
variable {X : Cx} {Wx : WX} {elt tg iter : Expr} {ifs : List Expr} {scope : Scope} {own : List (Str × Nat)} {pos : Pos} {fi : TID} {gd : TGD} {ft : TB} {fe : TD} {ts : List Nat}
theorem gn_lc (own : List (Str × Nat)) (hc : X.calm = true) (hN : X.N.Nodup) (hi : GI X Wx tg iter fi) (ok : BlkOk X.N X.env.scope scope own) (hts : ∀ j ∈ ts, j ∈ own.map (·.2))
    (hg : ∀ (s : Shared) (H : Hp) (C : Addr) (cl : List (Str × Addr)) (fp : List Addr), GG (X.blk s H scope (PySem.compEnvC scope cl C X.env) fp) tg gd ts) (ht : ∀ (s : Shared) (H : Hp) (C : Addr) (cl : List (Str × Addr)) (fp : List Addr), GTs (X.blk s H scope (PySem.compEnvC scope cl C X.env) fp) WX0 ifs ft)
    (he : ∀ (s : Shared) (H : Hp) (C : Addr) (cl : List (Str × Addr)) (fp : List Addr), GE (X.blk s H scope (PySem.compEnvC scope cl C X.env) fp) WX0 elt fe) (hs : ∀ x, foldedSetIterable iter X.env x = pure x := by intro _; rfl) :
    GN X Wx (.ListComp elt [⟨tg, iter, ifs, 0⟩] scope pos) (dLc fi gd ft fe (own.map (·.2))) := by
  obtain ⟨wi, pi, si⟩ := hi
  exact ⟨_, pe_lc hc hN pi ok (fun s H C cl fp => (hg s H C cl fp).can) (fun s H C cl fp => (ht s H C cl fp).can) (fun s H C cl fp => (he s H C cl fp).can) hs, snd_lc hts si⟩
end
end G

namespace G
open PySem PySem.Spec L2

/-! ### data for == -/
mutual
def D.py : D → PyData
  | .v .non => .none
  | .v (.bl b) => .bool b
  | .v (.int i) => .int i
  | .v (.str s) => .str s
  | .v _ => .dict []
  | .tup ds => .tuple (pys ds)
  | .lst ds => .list (pys ds)
  | .scr ns => .list (ns.map PyData.int)
  | .dct _ _ => .dict []
  | .exc _ _ _ => .dict []
  | .tpf _ => .dict []
def pys : List D → List PyData
  | [] => []
  | d :: ds => D.py d :: pys ds
end
mutual
/-- None, truths, ints, texts and what is made of them, n deep at most -/
def D.good : Nat → D → Bool
  | _, .v .non => true
  | _, .v (.bl _) => true
  | _, .v (.int _) => true
  | _, .v (.str s) => PyData.strOk s
  | _, .v _ => false
  | 0, _ => false
  | n + 1, .tup ds => goods n ds
  | n + 1, .lst ds => goods n ds
  | _ + 1, .scr _ => true
  | _ + 1, .dct _ _ => false
  | _ + 1, .exc _ _ _ => false
  | _ + 1, .tpf _ => false
def goods : Nat → List D → Bool
  | _, [] => true
  | n, d :: ds => D.good n d && goods n ds
end
section
variable {K : PySem.W.Frag} {S : Reg} {H : Hp}
mutual
theorem dp_of : ∀ {n : Nat} {d : D} {v : V}, D.good n d = true → Rep K S H d v → Dp K H v d.py
  | _, .v .non, v, _, h => by rw [Rep.v_iff.mp h]; simp only [D.py]; exact .non
  | _, .v (.bl b), v, _, h => by rw [Rep.v_iff.mp h]; simp only [D.py]; exact .bl b
  | _, .v (.int b), v, _, h => by rw [Rep.v_iff.mp h]; simp only [D.py]; exact .int b
  | _, .v (.str b), v, _, h => by rw [Rep.v_iff.mp h]; simp only [D.py]; exact .str b
  | _, .v (.byt _), _, h, _ => by simp [D.good] at h
  | _, .v (.flt _), _, h, _ => by simp [D.good] at h
  | _, .v (.ref _), _, h, _ => by simp [D.good] at h
  | _, .v (.ty _), _, h, _ => by simp [D.good] at h
  | 0, .tup _, _, h, _ => by simp [D.good] at h
  | 0, .lst _, _, h, _ => by simp [D.good] at h
  | 0, .scr _, _, h, _ => by simp [D.good] at h
  | 0, .dct _ _, _, h, _ => by simp [D.good] at h
  | _ + 1, .dct _ _, _, h, _ => by simp [D.good] at h
  | 0, .exc _ _ _, _, h, _ => by simp [D.good] at h
  | _ + 1, .exc _ _ _, _, h, _ => by simp [D.good] at h
  | 0, .tpf _, _, h, _ => by simp [D.good] at h
  | _ + 1, .tpf _, _, h, _ => by simp [D.good] at h
  | n + 1, .tup ds, v, g, h => by
    obtain ⟨a, xs, rfl, h1, h2⟩ := Rep.tup_iff.mp h
    simp only [D.py]
    exact .tup h1.sq (dps_of (by simpa [D.good] using g) h2)
  | n + 1, .lst ds, v, g, h => by
    obtain ⟨a, xs, rfl, h1, h2⟩ := Rep.lst_iff.mp h
    simp only [D.py]
    exact .lst h1.sq (dps_of (by simpa [D.good] using g) h2)
  | n + 1, .scr ns, v, g, h => by
    obtain ⟨a, rfl, h1⟩ := Rep.scr_iff.mp h
    simp only [D.py]
    refine .lst h1.sq ?_
    clear h h1
    induction ns with
    | nil => exact .nil
    | cons n ns ih => exact .cons (.int n) (ih (by simpa [D.good] using g))
theorem dps_of : ∀ {n : Nat} {ds : List D} {vs : List V}, goods n ds = true → Reps K S H ds vs → DpAll K H vs (pys ds)
  | _, [], _, _, h => by rw [Reps.nil_iff.mp h]; simp only [pys]; exact .nil
  | n, d :: ds, vs, g, h => by
    obtain ⟨x, r, rfl, h1, h2⟩ := Reps.cons_iff.mp h
    simp only [goods, Bool.and_eq_true] at g
    simp only [pys]
    exact .cons (dp_of g.1 h1) (dps_of g.2 h2)
end
end
mutual
theorem lay_of : ∀ {n : Nat} {d : D}, D.good n d = true → d.py.canLay0 = true ∧ d.py.depth ≤ n
  | _, .v .non, _ => by simp [D.py, PyData.canLay0, PyData.depth]
  | _, .v (.bl b), _ => by simp [D.py, PyData.canLay0, PyData.depth]
  | _, .v (.int b), _ => by simp [D.py, PyData.canLay0, PyData.depth]
  | _, .v (.str b), h => by
    simp only [D.good] at h
    simp [D.py, PyData.canLay0, PyData.depth, h]
  | _, .v (.byt _), h => by simp [D.good] at h
  | _, .v (.flt _), h => by simp [D.good] at h
  | _, .v (.ref _), h => by simp [D.good] at h
  | _, .v (.ty _), h => by simp [D.good] at h
  | 0, .tup _, h => by simp [D.good] at h
  | 0, .lst _, h => by simp [D.good] at h
  | 0, .scr _, h => by simp [D.good] at h
  | 0, .dct _ _, h => by simp [D.good] at h
  | _ + 1, .dct _ _, h => by simp [D.good] at h
  | 0, .exc _ _ _, h => by simp [D.good] at h
  | _ + 1, .exc _ _ _, h => by simp [D.good] at h
  | 0, .tpf _, h => by simp [D.good] at h
  | _ + 1, .tpf _, h => by simp [D.good] at h
  | n + 1, .tup ds, g => by
    have := lays_of (n := n) (ds := ds) (by simpa [D.good] using g)
    simp only [D.py, PyData.canLay0, PyData.depth]
    exact ⟨this.1, by omega⟩
  | n + 1, .lst ds, g => by
    have := lays_of (n := n) (ds := ds) (by simpa [D.good] using g)
    simp only [D.py, PyData.canLay0, PyData.depth]
    exact ⟨this.1, by omega⟩
  | n + 1, .scr ns, g => by
    simp only [D.py, PyData.canLay0, PyData.depth]
    have : PyData.canLayAll0 (ns.map PyData.int) = true ∧ PyData.depthAll (ns.map PyData.int) = 0 := by
      clear g
      induction ns with
      | nil => simp [PyData.canLayAll0, PyData.depthAll]
      | cons a r ih => simp [PyData.canLayAll0, PyData.depthAll, PyData.canLay0, PyData.depth, ih]
    exact ⟨this.1, by omega⟩
theorem lays_of : ∀ {n : Nat} {ds : List D}, goods n ds = true → PyData.canLayAll0 (pys ds) = true ∧ PyData.depthAll (pys ds) ≤ n
  | _, [], _ => by simp [pys, PyData.canLayAll0, PyData.depthAll]
  | n, d :: ds, g => by
    simp only [goods, Bool.and_eq_true] at g
    have h1 := lay_of g.1
    have h2 := lays_of g.2
    simp only [pys, PyData.canLayAll0, PyData.depthAll, Bool.and_eq_true]
    exact ⟨⟨h1.1, h2.1⟩, by omega⟩
end
theorem shaped_of {d : D} (g : D.good 64 d = true) : SeqAt.shaped d.py = true := by
  have := lay_of g
  unfold SeqAt.shaped
  simp [this.1, this.2]
def eqD (d e : D) : Bool := PyData.eqv d.py e.py
def dEqN : D → D → (D → Prop) → Prop := fun d e Q => D.good 64 d = true ∧ D.good 64 e = true ∧ Q (.bl (eqD d e))
def dNeN : D → D → (D → Prop) → Prop := fun d e Q => D.good 64 d = true ∧ D.good 64 e = true ∧ Q (.bl (!eqD d e))
def dEqS : D → D → (D → Prop) → Prop := fun d e Q => match d, e with | .v x, .v y => scal x y = true ∧ Q (.bl (decide (x = y))) | _, _ => False
def dNeS : D → D → (D → Prop) → Prop := fun d e Q => match d, e with | .v x, .v y => scal x y = true ∧ Q (.bl (!decide (x = y))) | _, _ => False
/-- == of flat values by worth, of others by their data -/
@[irreducible] def dEq : D → D → (D → Prop) → Prop := fun d e Q => match d, e with | .v x, .v y => (if scal x y = true then Q (.bl (decide (x = y))) else dEqN (.v x) (.v y) Q) | d, e => dEqN d e Q
@[irreducible] def dNe : D → D → (D → Prop) → Prop := fun d e Q => match d, e with | .v x, .v y => (if scal x y = true then Q (.bl (!decide (x = y))) else dNeN (.v x) (.v y) Q) | d, e => dNeN d e Q
section
variable {K : PySem.W.Frag}
theorem rs_eqN : RSnd K (rEqD K) dEqN := fun F S H W d e x y P R cb rd re hp k =>
  ⟨_, _, dp_of hp.1 rd, dp_of hp.2.1 re, shaped_of hp.1, shaped_of hp.2.1, k _ _ H (Same.refl H) (Rep.v_iff.mpr rfl) hp.2.2⟩
theorem rs_neN : RSnd K (rNeD K) dNeN := fun F S H W d e x y P R cb rd re hp k =>
  ⟨_, _, dp_of hp.1 rd, dp_of hp.2.1 re, shaped_of hp.1, shaped_of hp.2.1, k _ _ H (Same.refl H) (Rep.v_iff.mpr rfl) hp.2.2⟩
theorem rs_eqS : RSnd K rEq dEqS := fun F S H W d e x y P R cb rd re hp k => by
  unfold dEqS at hp
  split at hp
  · rw [Rep.v_iff] at rd re
    subst rd re
    exact ⟨hp.1, k _ _ H (Same.refl H) (Rep.v_iff.mpr rfl) hp.2⟩
  · exact hp.elim
theorem rs_neS : RSnd K rNe dNeS := fun F S H W d e x y P R cb rd re hp k => by
  unfold dNeS at hp
  split at hp
  · rw [Rep.v_iff] at rd re
    subst rd re
    exact ⟨hp.1, k _ _ H (Same.refl H) (Rep.v_iff.mpr rfl) hp.2⟩
  · exact hp.elim
theorem rs_or {r r' : R2} {g g' : D → D → (D → Prop) → Prop} (h : RSnd K r g) (h' : RSnd K r' g') : RSnd K (fun x y H Q => r x y H Q ∨ r' x y H Q) (fun d e Q => g d e Q ∨ g' d e Q) := fun F S H W d e x y P R cb rd re hp k => by
  rcases hp with hp | hp
  · exact .inl (h F S H W d e x y P R cb rd re hp k)
  · exact .inr (h' F S H W d e x y P R cb rd re hp k)
theorem rs_imp {r : R2} {g g' : D → D → (D → Prop) → Prop} (h : RSnd K r g) (hg : ∀ d e Q, g' d e Q → g d e Q) : RSnd K r g' := fun F S H W d e x y P R cb rd re hp k => h F S H W d e x y P R cb rd re (hg d e P hp) k
theorem rs_eq : RSnd K (fun x y H Q => rEq x y H Q ∨ rEqD K x y H Q) dEq := rs_imp (rs_or rs_eqS rs_eqN) fun d e Q h => by
  unfold dEq at h
  split at h
  · split at h
    · rename_i c
      exact .inl ⟨c, h⟩
    · exact .inr h
  · exact .inr h
theorem rs_ne : RSnd K (fun x y H Q => rNe x y H Q ∨ rNeD K x y H Q) dNe := rs_imp (rs_or rs_neS rs_neN) fun d e Q h => by
  unfold dNe at h
  split at h
  · split at h
    · rename_i c
      exact .inl ⟨c, h⟩
    · exact .inr h
  · exact .inr h
theorem op_eqA {X : Cx} (hu : X.A.units + 64 < cLine) : OpR X (compareOp .Eq) (fun x y H Q => rEq x y H Q ∨ rEqD X.K x y H Q) := op_eq.or (op_eqD hu)
theorem op_neA {X : Cx} (hu : X.A.units + 64 < cLine) : OpR X (compareOp .NotEq) (fun x y H Q => rNe x y H Q ∨ rNeD X.K x y H Q) := op_ne.or (op_neD hu)
/-! ### ints -/
/-- two ints in, a value out -/
def d2I (C : Int → Int → Prop) (g : Int → Int → V) : D → D → (D → Prop) → Prop := fun d e Q => match d, e with | .v (.int i), .v (.int j) => C i j ∧ Q (.v (g i j)) | _, _ => False
theorem rs_I {C : Int → Int → Prop} {g : Int → Int → V} : RSnd K (rI C g) (d2I C g) := fun F S H W d e x y P R cb rd re hp k => by
  unfold d2I at hp
  split at hp
  · rename_i i j
    rw [Rep.v_iff] at rd re
    exact ⟨i, j, rd, re, hp.1, k _ _ H (Same.refl H) (Rep.v_iff.mpr rfl) hp.2⟩
  · exact hp.elim
def d2J (g : Int → Int → V) : D → D → (D → Prop) → Prop := fun d e Q => match d, e with | .v (.int i), .v (.int j) => Q (.v (g i j)) | _, _ => False
theorem rs_J {g : Int → Int → V} : RSnd K (rI0 g) (d2J g) := fun F S H W d e x y P R cb rd re hp k => by
  unfold d2J at hp
  split at hp
  · rename_i i j
    rw [Rep.v_iff] at rd re
    exact ⟨i, j, rd, re, k _ _ H (Same.refl H) (Rep.v_iff.mpr rfl) hp⟩
  · exact hp.elim
/-- two texts in -/
def d2S (g : Str → Str → V) : D → D → (D → Prop) → Prop := fun d e Q => match d, e with | .v (.str i), .v (.str j) => Q (.v (g i j)) | _, _ => False
theorem rs_S {g : Str → Str → V} : RSnd K (fun x y H Q => ∃ i j, x = .str i ∧ y = .str j ∧ Q (g i j) H) (d2S g) := fun F S H W d e x y P R cb rd re hp k => by
  unfold d2S at hp
  split at hp
  · rename_i i j
    rw [Rep.v_iff] at rd re
    exact ⟨i, j, rd, re, k _ _ H (Same.refl H) (Rep.v_iff.mpr rfl) hp⟩
  · exact hp.elim
/-! ### + -/
def rAddS : R2 := fun x y H Q => ∃ i j, x = .str i ∧ y = .str j ∧ i.length + j.length ≤ sizeLine ∧ Q (.str (i ++ j)) H
def dAddS : D → D → (D → Prop) → Prop := fun d e Q => match d, e with | .v (.str i), .v (.str j) => i.length + j.length ≤ sizeLine ∧ Q (.str (i ++ j)) | _, _ => False
theorem rs_addS : RSnd K rAddS dAddS := fun F S H W d e x y P R cb rd re hp k => by
  unfold dAddS at hp
  split at hp
  · rename_i i j
    rw [Rep.v_iff] at rd re
    exact ⟨i, j, rd, re, hp.1, k _ _ H (Same.refl H) (Rep.v_iff.mpr rfl) hp.2⟩
  · exact hp.elim
def dAddL : D → D → (D → Prop) → Prop := fun d e Q => match d, e with | .lst i, .lst j => i.length + j.length ≤ sizeLine ∧ Q (.lst (i ++ j)) | _, _ => False
theorem rs_addL : RSnd K rCat dAddL := fun F S H W d e x y P R cb rd re hp k => by
  unfold dAddL at hp
  split at hp
  · rename_i i j
    obtain ⟨a, xs, rfl, h1, h2⟩ := Rep.lst_iff.mp rd
    obtain ⟨b, ys, rfl, h3, h4⟩ := Rep.lst_iff.mp re
    exact ⟨a, b, xs, ys, rfl, rfl, h1.1, h3.1, by rw [h2.length, h4.length]; exact hp.1, fun p hn => k _ _ _ (same_new hn) (rep_newL cb hn (h2.append h4)) hp.2⟩
  · exact hp.elim
def dAddT : D → D → (D → Prop) → Prop := fun d e Q => match d, e with | .tup i, .tup j => i.length + j.length ≤ sizeLine ∧ Q (.tup (i ++ j)) | _, _ => False
theorem rs_addT : RSnd K (rCatA K) dAddT := fun F S H W d e x y P R cb rd re hp k => by
  unfold dAddT at hp
  split at hp
  · rename_i i j
    obtain ⟨a, xs, rfl, h1, h2⟩ := Rep.tup_iff.mp rd
    obtain ⟨b, ys, rfl, h3, h4⟩ := Rep.tup_iff.mp re
    refine ⟨a, b, xs, ys, rfl, rfl, h1.sq, h3.sq, by rw [h2.length, h4.length]; exact hp.1, fun e1 => ?_, fun _ e1 => ?_, fun _ _ p hn => k _ _ _ (same_new hn) (rep_newT cb hn (h2.append h4)) hp.2⟩
    · refine k _ _ H (Same.refl H) ?_ hp.2
      have := h2.length
      rw [e1] at this
      have e0 : i = [] := List.eq_nil_of_length_eq_zero this.symm
      rw [e0]
      exact re
    · refine k _ _ H (Same.refl H) ?_ hp.2
      have := h4.length
      rw [e1] at this
      have e0 : j = [] := List.eq_nil_of_length_eq_zero this.symm
      rw [e0, List.append_nil]
      exact rd
  · exact hp.elim
def dAdd : D → D → (D → Prop) → Prop := fun d e Q => match d, e with
  | .v (.int i), .v (.int j) => Q (.int (i + j))
  | .v (.str i), .v (.str j) => i.length + j.length ≤ sizeLine ∧ Q (.str (i ++ j))
  | .lst i, .lst j => i.length + j.length ≤ sizeLine ∧ Q (.lst (i ++ j))
  | .tup i, .tup j => i.length + j.length ≤ sizeLine ∧ Q (.tup (i ++ j))
  | _, _ => False
def rAddA (K : PySem.W.Frag) : R2 := fun x y H Q => rI0 (fun i j => .int (i + j)) x y H Q ∨ (rAddS x y H Q ∨ (rCat x y H Q ∨ rCatA K x y H Q))
theorem rs_add : RSnd K (rAddA K) dAdd := rs_imp (rs_or (rs_J (g := fun i j => .int (i + j))) (rs_or rs_addS (rs_or rs_addL rs_addT))) fun d e Q h => by
  unfold dAdd at h
  split at h
  · exact .inl h
  · exact .inr (.inl h)
  · exact .inr (.inr (.inl h))
  · exact .inr (.inr (.inr h))
  · exact h.elim
theorem op_addA {X : Cx} : OpR X (binaryOp .Add) (rAddA X.K) := op_add.or (OpR.or (r := rAddS) op_add_str (op_cat.or op_catA))
/-! ### * -/
/-- two factors of together less than 2 ^ 26 bits -/
def CMulX (i j : Int) : Prop := i.natAbs.log2 + j.natAbs.log2 < 60000000
theorem CMulX.ok {i j : Int} (h : CMulX i j) : PySem.IntMulOk i j := by
  have b : ∀ x : Int, Builtin.Int.intBits x ≤ x.natAbs.log2 + 1 := fun x => by
    unfold Builtin.Int.intBits
    split <;> omega
  have h1 := b i
  have h2 := b j
  have h3 : i.natAbs.log2 + j.natAbs.log2 < 60000000 := h
  have e : bitsLine = 134217728 := by decide
  unfold PySem.IntMulOk
  intro z
  rw [Bool.and_eq_true] at z
  have z2 := z.2
  unfold Builtin.Int.intTooBig at z2
  have z3 := of_decide_eq_true z2
  rw [e] at z3
  omega
theorem op_mulX {X : Cx} : OpR X (binaryOp .Mult) (rI CMulX fun i j => .int (i * j)) := opI fun _ _ _ _ _ _ _ hc q => PyProof.Rows.mul_int q (CMulX.ok hc)
/-- a text again and again -/
def dMul : D → D → (D → Prop) → Prop := fun d e Q => match d, e with
  | .v (.int i), .v (.int j) => CMulX i j ∧ Q (.int (i * j))
  | .lst i, .v (.int j) => -(2 ^ 63) ≤ j ∧ j < 2 ^ 63 ∧ i.length * j.toNat ≤ sizeLine ∧ Q (.lst (List.replicate j.toNat i).flatten)
  | _, _ => False
def dRepL : D → D → (D → Prop) → Prop := fun d e Q => match d, e with
  | .lst i, .v (.int j) => -(2 ^ 63) ≤ j ∧ j < 2 ^ 63 ∧ i.length * j.toNat ≤ sizeLine ∧ Q (.lst (List.replicate j.toNat i).flatten)
  | _, _ => False
theorem Reps.rep {S : Reg} {H : Hp} {ds : List D} {vs : List V} (h : Reps K S H ds vs) : ∀ n : Nat, Reps K S H (List.replicate n ds).flatten (List.replicate n vs).flatten
  | 0 => Reps.nil
  | n + 1 => by
    rw [List.replicate_succ, List.replicate_succ, List.flatten_cons, List.flatten_cons]
    exact h.append (Reps.rep h n)
theorem rs_repL : RSnd K rRep dRepL := fun F S H W d e x y P R cb rd re hp k => by
  unfold dRepL at hp
  split at hp
  · rename_i i j
    obtain ⟨a, xs, rfl, h1, h2⟩ := Rep.lst_iff.mp rd
    rw [Rep.v_iff] at re
    exact ⟨a, j, xs, rfl, re, h1.1, hp.1, hp.2.1, by rw [h2.length]; exact hp.2.2.1, fun p hn => k _ _ _ (same_new hn) (rep_newL cb hn (h2.rep _)) hp.2.2.2⟩
  · exact hp.elim
theorem rs_mul : RSnd K (fun x y H Q => rI CMulX (fun i j => .int (i * j)) x y H Q ∨ rRep x y H Q) dMul := rs_imp (rs_or rs_I rs_repL) fun d e Q h => by
  unfold dMul at h
  split at h
  · exact .inl h
  · exact .inr h
  · exact h.elim
theorem op_mulA {X : Cx} : OpR X (binaryOp .Mult) (fun x y H Q => rI CMulX (fun i j => .int (i * j)) x y H Q ∨ rRep x y H Q) := op_mulX.or op_rep
/-! ### subscripts -/
def dIx : D → D → (D → Prop) → Prop := fun d e Q => match d, e with
  | .lst ds, .v (.int i) => ∃ z, atI ds i = some z ∧ Q z
  | .tup ds, .v (.int i) => ∃ z, atI ds i = some z ∧ Q z
  | .v (.str s), .v (.int i) => s.length ≤ sizeLine ∧ ∃ c, atI s.cps.toList i = some c ∧ Q (.str ⟨#[c]⟩)
  | .scr ns, .v (.int i) => ∃ z, atI ns i = some z ∧ Q (.int z)
  | _, _ => False
theorem reps_at {S : Reg} {H : Hp} {ds : List D} {vs : List V} {i : Int} {z : D} (r : Reps K S H ds vs) (h : atI ds i = some z) : ∃ v, atI vs i = some v ∧ Rep K S H z v := by
  unfold atI at h ⊢
  rw [r.length]
  cases e : ixN ds.length i with
  | none => rw [e] at h; cases h
  | some j =>
    rw [e] at h
    obtain ⟨v, h1, h2⟩ := r.get (i := j) h
    exact ⟨v, h1, h2⟩
theorem rs_ix : RSnd K (rIx K) dIx := fun F S H W d e x y P R cb rd re hp k => by
  unfold dIx at hp
  split at hp
  · rename_i ds i
    obtain ⟨z, hz, hp⟩ := hp
    obtain ⟨a, xs, rfl, h1, h2⟩ := Rep.lst_iff.mp rd
    rw [Rep.v_iff] at re
    obtain ⟨v, h3, h4⟩ := reps_at h2 hz
    exact .inl ⟨a, xs, i, v, rfl, re, h1.sq, h3, k _ _ H (Same.refl H) h4 hp⟩
  · rename_i ds i
    obtain ⟨z, hz, hp⟩ := hp
    obtain ⟨a, xs, rfl, h1, h2⟩ := Rep.tup_iff.mp rd
    rw [Rep.v_iff] at re
    obtain ⟨v, h3, h4⟩ := reps_at h2 hz
    exact .inr (.inl ⟨a, xs, i, v, rfl, re, h1.sq, h3, k _ _ H (Same.refl H) h4 hp⟩)
  · rename_i s i
    obtain ⟨hl, c, hc, hp⟩ := hp
    rw [Rep.v_iff] at rd re
    exact .inr (.inr ⟨s, i, c, rd, re, hl, hc, k _ _ H (Same.refl H) (Rep.v_iff.mpr rfl) hp⟩)
  · rename_i ns i
    obtain ⟨z, hz, hp⟩ := hp
    obtain ⟨a, rfl, h1⟩ := Rep.scr_iff.mp rd
    rw [Rep.v_iff] at re
    refine .inl ⟨a, _, i, .int z, rfl, re, h1.sq, ?_, k _ _ H (Same.refl H) (Rep.v_iff.mpr rfl) hp⟩
    unfold atI at hz ⊢
    rw [List.length_map]
    cases e : ixN ns.length i with
    | none => rw [e] at hz; cases hz
    | some j =>
      rw [e] at hz
      show (ns.map V.int)[j]? = _
      have hz' : ns[j]? = some z := hz
      rw [List.getElem?_map, hz']; rfl
  · exact hp.elim
/-! ### slices -/
def cutD (ds : List D) (lo hi : Option Int) : List D := (ds.drop (HT.sIx ds.length 0 lo)).take (HT.sIx ds.length ds.length hi - HT.sIx ds.length 0 lo)
def dCut : D → Option Int → Option Int → (D → Prop) → Prop := fun d lo hi Q => match d with
  | .lst ds => Q (.lst (cutD ds lo hi))
  | .tup ds => Q (.tup (cutD ds lo hi))
  | .v (.str s) => s.length ≤ sizeLine ∧ Q (.str (cutS s lo hi))
  | .scr ns => Q (.lst ((ns.drop (HT.sIx ns.length 0 lo)).take (HT.sIx ns.length ns.length hi - HT.sIx ns.length 0 lo) |>.map D.int))
  | _ => False
def rSlAny (K : PySem.W.Frag) : V → Option Int → Option Int → Hp → VK → Prop := fun x lo hi H Q => rSlL K x lo hi H Q ∨ (rSlA K x lo hi H Q ∨ rSlS x lo hi H Q)
theorem sl_any {X : Cx} : SlR X (rSlAny X.K) := sl_list.or (sl_tupA.or sl_str)
theorem reps_cut {S : Reg} {H : Hp} {ds : List D} {vs : List V} (r : Reps K S H ds vs) (lo hi : Option Int) : Reps K S H (cutD ds lo hi) (cutV vs lo hi) := by
  unfold cutD cutV
  rw [r.length]
  exact (r.drop _).take _
theorem ss_cut : SlSnd K (rSlAny K) dCut := fun F S H W d x lo hi P R cb rd hp k => by
  unfold dCut at hp
  split at hp
  · rename_i ds
    obtain ⟨a, xs, rfl, h1, h2⟩ := Rep.lst_iff.mp rd
    exact .inl ⟨a, xs, rfl, h1.sq, fun p hn => k _ _ _ (same_new hn) (rep_newL cb hn (reps_cut h2 lo hi)) hp⟩
  · rename_i ds
    obtain ⟨a, xs, rfl, h1, h2⟩ := Rep.tup_iff.mp rd
    refine .inr (.inl ⟨a, xs, rfl, h1.sq, fun hw => k _ _ H (Same.refl H) ?_ hp, fun _ p hn => k _ _ _ (same_new hn) (rep_newT cb hn (reps_cut h2 lo hi)) hp⟩)
    have : cutD ds lo hi = ds := by
      unfold cutD
      rw [h2.length] at hw
      rw [hw.1, hw.2, List.drop_zero, Nat.sub_zero, List.take_length]
    rw [this]; exact rd
  · rename_i s
    rw [Rep.v_iff] at rd
    exact .inr (.inr ⟨s, rd, hp.1, k _ _ H (Same.refl H) (Rep.v_iff.mpr rfl) hp.2⟩)
  · rename_i ns
    obtain ⟨a, rfl, h1⟩ := Rep.scr_iff.mp rd
    refine .inl ⟨a, _, rfl, h1.sq, fun p hn => k _ _ _ (same_new hn) ?_ hp⟩
    have e : cutV (ns.map V.int) lo hi = ((ns.drop (HT.sIx ns.length 0 lo)).take (HT.sIx ns.length ns.length hi - HT.sIx ns.length 0 lo)).map V.int := by
      unfold cutV
      rw [List.length_map, ← List.map_drop, ← List.map_take]
    rw [e]
    refine rep_newL cb hn ?_
    have := Reps.map_v (K := K) (S := S) (H := H) (((ns.drop (HT.sIx ns.length 0 lo)).take (HT.sIx ns.length ns.length hi - HT.sIx ns.length 0 lo)).map V.int)
    rw [List.map_map] at this
    exact this
  · exact hp.elim
end
end G

namespace G
open PySem PySem.Spec L2
/-! ### a text again and again -/
def repS (s : Str) (n : Int) : Str := ⟨(List.replicate n.toNat s.cps.toList).flatten.toArray⟩
theorem foldl_app (a : Array Nat) : ∀ (k : Nat) (acc : Array Nat), (List.replicate k a).foldl (· ++ ·) acc = acc ++ (List.replicate k a.toList).flatten.toArray
  | 0, acc => by simp
  | k + 1, acc => by
    rw [List.replicate_succ, List.foldl_cons, foldl_app a k, List.replicate_succ, List.flatten_cons]
    apply Array.ext'
    simp
def rRepS : R2 := fun x y H Q => ∃ s n, x = .str s ∧ y = .int n ∧ -(2 ^ 63) ≤ n ∧ n < 2 ^ 63 ∧ s.length * n.toNat ≤ sizeLine ∧ Q (.str (repS s n)) H
theorem op_repS {X : Cx} : OpR X (binaryOp .Mult) rRepS := by
  intro pins s σ H x y v u Q I rx ry h
  obtain ⟨a, n, rfl, rfl, h1, h2, h3, q⟩ := h
  obtain ⟨t, rfl⟩ := rx
  obtain ⟨t', rfl⟩ := ry
  have hr : (decide (n < -(2 ^ 63 : Int)) || decide (n ≥ 2 ^ 63)) = false := by
    rw [decide_eq_false (by omega), decide_eq_false (by omega)]; rfl
  have done : ∀ (z : Str) (tk : Tok) (k : Nat), z = repS a n → EP X pins σ Q (.str z tk) { s with toks := k } := fun z tk k e => by
    subst e
    exact ⟨.str _, H, I.tok _, ⟨_, rfl⟩, q⟩
  have hl : ¬ n < 1 → (n == 1 || a.length == 0) = false → Builtin.Str.tooLong (a.length * n.toNat) = false := fun _ _ => by
    unfold Builtin.Str.tooLong
    exact decide_eq_false (by omega)
  refine PySem.P.mul_str hr (fun h4 h5 => ?_) hl ?_
  · have hs : (sizeLine : Nat) = 16777216 := sizeLine_eq
    have hb : (a.length : Int) * n ≤ 16777216 := by
      have : ((a.length * n.toNat : Nat) : Int) ≤ 16777216 := by omega
      rw [Int.natCast_mul, Int.toNat_of_nonneg (by omega)] at this
      exact this
    intro h6
    have h7 : (2 ^ 63 - 1) / n < (a.length : Int) := h6
    have h8 : (2 ^ 63 - 1 : Int) < a.length * n := (Int.ediv_lt_iff_lt_mul (by omega)).mp h7
    omega
  · split
    · rename_i h4
      refine ⟨by decide, done _ _ _ ?_⟩
      unfold repS
      have : n.toNat = 0 := by omega
      rw [this]; rfl
    · rename_i h4
      split
      · rename_i h5
        show EP X pins σ Q (.str a t) s
        refine ⟨.str a, H, I, ⟨t, rfl⟩, ?_⟩
        have : repS a n = a := by
          unfold repS
          rw [Bool.or_eq_true] at h5
          rcases h5 with h5 | h5
          · have e : n = 1 := by simpa using h5
            subst e
            simp
          · have e : a.cps.toList = [] := by
              have : a.length = 0 := by simpa using h5
              unfold Str.length at this
              exact List.eq_nil_of_length_eq_zero (by simpa using this)
            rw [e]
            have : (List.replicate n.toNat ([] : List Nat)).flatten = [] := by simp
            rw [this]
            cases a with
            | mk c => simp at e; simp [e]
        rw [this] at q
        exact q
      · refine ⟨?_, done _ _ _ ?_⟩
        · show (List.foldl (· ++ ·) #[] (List.replicate n.toNat a.cps)).size ≤ sizeLine
          rw [foldl_app]
          have e : (#[] ++ (List.replicate n.toNat a.cps.toList).flatten.toArray).size = n.toNat * a.length := by
            simp [List.length_flatten, Str.length]
          rw [e, Nat.mul_comm]
          exact h3
        · unfold repS
          rw [foldl_app]; simp
section
variable {K : PySem.W.Frag}
def dRepS : D → D → (D → Prop) → Prop := fun d e Q => match d, e with
  | .v (.str s), .v (.int n) => -(2 ^ 63) ≤ n ∧ n < 2 ^ 63 ∧ s.length * n.toNat ≤ sizeLine ∧ Q (.str (repS s n))
  | _, _ => False
theorem rs_repS : RSnd K rRepS dRepS := fun F S H W d e x y P R cb rd re hp k => by
  unfold dRepS at hp
  split at hp
  · rename_i i j
    rw [Rep.v_iff] at rd re
    exact ⟨i, j, rd, re, hp.1, hp.2.1, hp.2.2.1, k _ _ H (Same.refl H) (Rep.v_iff.mpr rfl) hp.2.2.2⟩
  · exact hp.elim
/-! ### calls -/
theorem cs_imp {r : List V → Hp → VK → Prop} {g g' : List D → (D → Prop) → Prop} (h : CSnd K r g) (hg : ∀ ds Q, g' ds Q → g ds Q) : CSnd K r g' := fun F S H W ds xs P R cb rd hp k => h F S H W ds xs P R cb rd (hg ds P hp) k
/-- one value in -/
theorem reps1 {S : Reg} {H : Hp} {d : D} {xs : List V} (r : Reps K S H [d] xs) : ∃ x, xs = [x] ∧ Rep K S H d x := by
  obtain ⟨x, r', rfl, h1, h2⟩ := Reps.cons_iff.mp r
  rw [Reps.nil_iff.mp h2]
  exact ⟨x, rfl, h1⟩
theorem reps2 {S : Reg} {H : Hp} {d e : D} {xs : List V} (r : Reps K S H [d, e] xs) : ∃ x y, xs = [x, y] ∧ Rep K S H d x ∧ Rep K S H e y := by
  obtain ⟨x, r', rfl, h1, h2⟩ := Reps.cons_iff.mp r
  obtain ⟨y, rfl, h3⟩ := reps1 h2
  exact ⟨x, y, rfl, h1, h3⟩
def dLen : List D → (D → Prop) → Prop := fun ds Q => match ds with
  | [.v (.str s)] => s.length ≤ sizeLine ∧ Q (.int s.length)
  | [.lst xs] => Q (.int xs.length)
  | [.tup xs] => Q (.int xs.length)
  | [.scr xs] => Q (.int xs.length)
  | _ => False
theorem cs_len : CSnd K (fun xs H Q => ∃ x n, xs = [x] ∧ LenV K x H n ∧ Q (.int (n : Nat)) H) dLen := fun F S H W ds xs P R cb rd hp k => by
  unfold dLen at hp
  split at hp
  · obtain ⟨x, rfl, h⟩ := reps1 rd
    cases Rep.v_iff.mp h
    exact ⟨_, _, rfl, ⟨hp.1, rfl⟩, k _ _ H (Same.refl H) (Rep.v_iff.mpr rfl) hp.2⟩
  · obtain ⟨x, rfl, h⟩ := reps1 rd
    obtain ⟨a, ys, rfl, h1, h2⟩ := Rep.lst_iff.mp h
    exact ⟨_, _, rfl, .inl ⟨ys, h1.sq, rfl⟩, k _ _ H (Same.refl H) (Rep.v_iff.mpr (by rw [h2.length])) hp⟩
  · obtain ⟨x, rfl, h⟩ := reps1 rd
    obtain ⟨a, ys, rfl, h1, h2⟩ := Rep.tup_iff.mp h
    exact ⟨_, _, rfl, .inr ⟨ys, h1.sq, rfl⟩, k _ _ H (Same.refl H) (Rep.v_iff.mpr (by rw [h2.length])) hp⟩
  · obtain ⟨x, rfl, h⟩ := reps1 rd
    obtain ⟨a, rfl, h1⟩ := Rep.scr_iff.mp h
    exact ⟨_, _, rfl, .inl ⟨_, h1.sq, rfl⟩, k _ _ H (Same.refl H) (Rep.v_iff.mpr (by simp)) hp⟩
  · exact hp.elim
/-- two ints in -/
def dC2 (g : Int → Int → Int) : List D → (D → Prop) → Prop := fun ds Q => match ds with
  | [.v (.int i), .v (.int j)] => Q (.int (g i j))
  | _ => False
theorem cs_2 {g : Int → Int → Int} : CSnd K (fun xs H Q => ∃ i j, xs = [.int i, .int j] ∧ Q (.int (g i j)) H) (dC2 g) := fun F S H W ds xs P R cb rd hp k => by
  unfold dC2 at hp
  split at hp
  · obtain ⟨x, y, rfl, h1, h2⟩ := reps2 rd
    cases Rep.v_iff.mp h1
    cases Rep.v_iff.mp h2
    exact ⟨_, _, rfl, k _ _ H (Same.refl H) (Rep.v_iff.mpr rfl) hp⟩
  · exact hp.elim
def dAbs : List D → (D → Prop) → Prop := fun ds Q => match ds with
  | [.v (.int i)] => Q (.int (if i < 0 then -i else i))
  | _ => False
theorem cs_abs : CSnd K (fun xs H Q => ∃ i, xs = [.int i] ∧ Q (.int (if i < 0 then -i else i)) H) dAbs := fun F S H W ds xs P R cb rd hp k => by
  unfold dAbs at hp
  split at hp
  · obtain ⟨x, rfl, h⟩ := reps1 rd
    cases Rep.v_iff.mp h
    exact ⟨_, rfl, k _ _ H (Same.refl H) (Rep.v_iff.mpr rfl) hp⟩
  · exact hp.elim
def dIntC : List D → (D → Prop) → Prop := fun ds Q => match ds with
  | [.v (.int i)] => Q (.int i)
  | [.v (.bl b)] => Q (.int (if b then 1 else 0))
  | [.v (.str s)] => s.length ≤ 640 ∧ ∃ n, PySem.intText? s = some n ∧ Q (.int n)
  | _ => False
theorem cs_int : CSnd K (fun xs H Q => ((∃ i, xs = [.int i] ∧ Q (.int i) H) ∨ ∃ k, xs = [.bl k] ∧ Q (.int (if k then 1 else 0)) H) ∨ ∃ a n, xs = [.str a] ∧ PySem.intText? a = some n ∧ a.length ≤ 640 ∧ Q (.int n) H) dIntC := fun F S H W ds xs P R cb rd hp k => by
  unfold dIntC at hp
  split at hp
  · obtain ⟨x, rfl, h⟩ := reps1 rd
    cases Rep.v_iff.mp h
    exact .inl (.inl ⟨_, rfl, k _ _ H (Same.refl H) (Rep.v_iff.mpr rfl) hp⟩)
  · obtain ⟨x, rfl, h⟩ := reps1 rd
    cases Rep.v_iff.mp h
    exact .inl (.inr ⟨_, rfl, k _ _ H (Same.refl H) (Rep.v_iff.mpr rfl) hp⟩)
  · obtain ⟨x, rfl, h⟩ := reps1 rd
    cases Rep.v_iff.mp h
    obtain ⟨hl, n, hn, hp⟩ := hp
    exact .inr ⟨_, n, rfl, hn, hl, k _ _ H (Same.refl H) (Rep.v_iff.mpr rfl) hp⟩
  · exact hp.elim
theorem call_intA {X : Cx} : CallR X (.type "int") (fun xs H Q => ((∃ i, xs = [.int i] ∧ Q (.int i) H) ∨ ∃ k, xs = [.bl k] ∧ Q (.int (if k then 1 else 0)) H) ∨ ∃ a n, xs = [.str a] ∧ PySem.intText? a = some n ∧ a.length ≤ 640 ∧ Q (.int n) H) := CallR.or call_int1 call_int_str
def dStrC : List D → (D → Prop) → Prop := fun ds Q => match ds with
  | [.v (.int i)] => i.natAbs.log2 < 1920 ∧ Q (.str (toString i))
  | _ => False
theorem cs_str : CSnd K (fun xs H Q => ∃ i, xs = [.int i] ∧ i.natAbs.log2 < 1920 ∧ Q (.str (toString i)) H) dStrC := fun F S H W ds xs P R cb rd hp k => by
  unfold dStrC at hp
  split at hp
  · obtain ⟨x, rfl, h⟩ := reps1 rd
    cases Rep.v_iff.mp h
    exact ⟨_, rfl, hp.1, k _ _ H (Same.refl H) (Rep.v_iff.mpr rfl) hp.2⟩
  · exact hp.elim
/-- all, any of a list of truths -/
def blsOf : List D → Option (List Bool)
  | [] => some []
  | .v (.bl b) :: r => (blsOf r).map (b :: ·)
  | _ => none
theorem reps_bls {S : Reg} {H : Hp} : ∀ {ds : List D} {bs : List Bool} {vs : List V}, blsOf ds = some bs → Reps K S H ds vs → vs = bs.map V.bl
  | [], bs, vs, h, r => by
    cases h
    exact Reps.nil_iff.mp r
  | .v (.bl b) :: ds, bs, vs, h, r => by
    unfold blsOf at h
    obtain ⟨x, r', rfl, h1, h2⟩ := Reps.cons_iff.mp r
    cases hb : blsOf ds with
    | none => rw [hb] at h; cases h
    | some bs' =>
      rw [hb] at h; cases h
      cases Rep.v_iff.mp h1
      rw [reps_bls hb h2]; rfl
  | .v .non :: _, _, _, h, _ => by simp [blsOf] at h
  | .v (.int _) :: _, _, _, h, _ => by simp [blsOf] at h
  | .v (.str _) :: _, _, _, h, _ => by simp [blsOf] at h
  | .v (.byt _) :: _, _, _, h, _ => by simp [blsOf] at h
  | .v (.flt _) :: _, _, _, h, _ => by simp [blsOf] at h
  | .v (.ref _) :: _, _, _, h, _ => by simp [blsOf] at h
  | .v (.ty _) :: _, _, _, h, _ => by simp [blsOf] at h
  | .tup _ :: _, _, _, h, _ => by simp [blsOf] at h
  | .lst _ :: _, _, _, h, _ => by simp [blsOf] at h
  | .scr _ :: _, _, _, h, _ => by simp [blsOf] at h
theorem blsOf_map (bs : List Bool) : blsOf (bs.map D.bl) = some bs := by
  induction bs with
  | nil => rfl
  | cons b r ih => simp [blsOf, ih]
def dAll : List D → (D → Prop) → Prop := fun ds Q => match ds with
  | [.lst xs] => ∃ bs, blsOf xs = some bs ∧ Q (.bl (bs.all id))
  | _ => False
def dAny : List D → (D → Prop) → Prop := fun ds Q => match ds with
  | [.lst xs] => ∃ bs, blsOf xs = some bs ∧ Q (.bl (bs.any id))
  | _ => False
theorem cs_all : CSnd K (rAll K) dAll := fun F S H W ds xs P R cb rd hp k => by
  unfold dAll at hp
  split at hp
  · obtain ⟨x, rfl, h⟩ := reps1 rd
    obtain ⟨a, ys, rfl, h1, h2⟩ := Rep.lst_iff.mp h
    obtain ⟨bs, hb, hp⟩ := hp
    rw [reps_bls hb h2] at h1
    exact ⟨a, bs, rfl, h1.sq, k _ _ H (Same.refl H) (Rep.v_iff.mpr rfl) hp⟩
  · exact hp.elim
theorem cs_any : CSnd K (rAny K) dAny := fun F S H W ds xs P R cb rd hp k => by
  unfold dAny at hp
  split at hp
  · obtain ⟨x, rfl, h⟩ := reps1 rd
    obtain ⟨a, ys, rfl, h1, h2⟩ := Rep.lst_iff.mp h
    obtain ⟨bs, hb, hp⟩ := hp
    rw [reps_bls hb h2] at h1
    exact ⟨a, bs, rfl, h1.sq, k _ _ H (Same.refl H) (Rep.v_iff.mpr rfl) hp⟩
  · exact hp.elim
/-- ints of a list -/
def intsOf : List D → Option (List Int)
  | [] => some []
  | .v (.int b) :: r => (intsOf r).map (b :: ·)
  | _ => none
theorem reps_ints {S : Reg} {H : Hp} : ∀ {ds : List D} {bs : List Int} {vs : List V}, intsOf ds = some bs → Reps K S H ds vs → vs = bs.map V.int
  | [], bs, vs, h, r => by
    cases h
    exact Reps.nil_iff.mp r
  | .v (.int b) :: ds, bs, vs, h, r => by
    unfold intsOf at h
    obtain ⟨x, r', rfl, h1, h2⟩ := Reps.cons_iff.mp r
    cases hb : intsOf ds with
    | none => rw [hb] at h; cases h
    | some bs' =>
      rw [hb] at h; cases h
      cases Rep.v_iff.mp h1
      rw [reps_ints hb h2]; rfl
  | .v .non :: _, _, _, h, _ => by simp [intsOf] at h
  | .v (.bl _) :: _, _, _, h, _ => by simp [intsOf] at h
  | .v (.str _) :: _, _, _, h, _ => by simp [intsOf] at h
  | .v (.byt _) :: _, _, _, h, _ => by simp [intsOf] at h
  | .v (.flt _) :: _, _, _, h, _ => by simp [intsOf] at h
  | .v (.ref _) :: _, _, _, h, _ => by simp [intsOf] at h
  | .v (.ty _) :: _, _, _, h, _ => by simp [intsOf] at h
  | .tup _ :: _, _, _, h, _ => by simp [intsOf] at h
  | .lst _ :: _, _, _, h, _ => by simp [intsOf] at h
  | .scr _ :: _, _, _, h, _ => by simp [intsOf] at h
theorem intsOf_map (bs : List Int) : intsOf (bs.map D.int) = some bs := by
  induction bs with
  | nil => rfl
  | cons b r ih => simp [intsOf, ih]
def dMin1 : List D → (D → Prop) → Prop := fun ds Q => match ds with
  | [.lst xs] => ∃ ns, intsOf xs = some ns ∧ 0 < ns.length ∧ ∀ m, m ∈ ns → (∀ y, y ∈ ns → m ≤ y) → Q (.int m)
  | _ => False
def dMax1 : List D → (D → Prop) → Prop := fun ds Q => match ds with
  | [.lst xs] => ∃ ns, intsOf xs = some ns ∧ 0 < ns.length ∧ ∀ m, m ∈ ns → (∀ y, y ∈ ns → y ≤ m) → Q (.int m)
  | _ => False
theorem cs_min1 : CSnd K (rMin K) dMin1 := fun F S H W ds xs P R cb rd hp k => by
  unfold dMin1 at hp
  split at hp
  · obtain ⟨x, rfl, h⟩ := reps1 rd
    obtain ⟨a, ys, rfl, h1, h2⟩ := Rep.lst_iff.mp h
    obtain ⟨bs, hb, hl, hp⟩ := hp
    rw [reps_ints hb h2] at h1
    exact ⟨a, bs, rfl, h1.sq, hl, fun m m1 m2 => k _ _ H (Same.refl H) (Rep.v_iff.mpr rfl) (hp m m1 m2)⟩
  · exact hp.elim
theorem cs_max1 : CSnd K (rMax K) dMax1 := fun F S H W ds xs P R cb rd hp k => by
  unfold dMax1 at hp
  split at hp
  · obtain ⟨x, rfl, h⟩ := reps1 rd
    obtain ⟨a, ys, rfl, h1, h2⟩ := Rep.lst_iff.mp h
    obtain ⟨bs, hb, hl, hp⟩ := hp
    rw [reps_ints hb h2] at h1
    exact ⟨a, bs, rfl, h1.sq, hl, fun m m1 m2 => k _ _ H (Same.refl H) (Rep.v_iff.mpr rfl) (hp m m1 m2)⟩
  · exact hp.elim
/-- tuple(xs), list(xs) -/
def dTupC : List D → (D → Prop) → Prop := fun ds Q => match ds with
  | [.lst xs] => Q (.tup xs)
  | [.tup xs] => Q (.tup xs)
  | _ => False
theorem cs_tup : CSnd K (fun xs H Q => ∃ p ys, xs = [.ref p] ∧ ((SqL K H p ys ∧ ∀ l, H l = none → Q (.ref l) (upd H l (.tup ys))) ∨ (SqT K H p ys ∧ Q (.ref p) H))) dTupC := fun F S H W ds xs P R cb rd hp k => by
  unfold dTupC at hp
  split at hp
  · obtain ⟨x, rfl, h⟩ := reps1 rd
    obtain ⟨a, ys, rfl, h1, h2⟩ := Rep.lst_iff.mp h
    exact ⟨a, ys, rfl, .inl ⟨h1.sq, fun p hn => k _ _ _ (same_new hn) (rep_newT cb hn h2) hp⟩⟩
  · obtain ⟨x, rfl, h⟩ := reps1 rd
    obtain ⟨a, ys, rfl, h1, h2⟩ := Rep.tup_iff.mp h
    exact ⟨a, ys, rfl, .inr ⟨h1.sq, k _ _ H (Same.refl H) h hp⟩⟩
  · exact hp.elim
def dListC : List D → (D → Prop) → Prop := fun ds Q => match ds with
  | [.lst xs] => Q (.lst xs)
  | [.tup xs] => Q (.lst xs)
  | [.scr ns] => Q (.lst (ns.map D.int))
  | _ => False
theorem cs_list : CSnd K (fun xs H Q => ∃ p ys, xs = [.ref p] ∧ (SqL K H p ys ∨ SqT K H p ys) ∧ ∀ l, H l = none → Q (.ref l) (upd H l (.lst ys))) dListC := fun F S H W ds xs P R cb rd hp k => by
  unfold dListC at hp
  split at hp
  · obtain ⟨x, rfl, h⟩ := reps1 rd
    obtain ⟨a, ys, rfl, h1, h2⟩ := Rep.lst_iff.mp h
    exact ⟨a, ys, rfl, .inl h1.sq, fun p hn => k _ _ _ (same_new hn) (rep_newL cb hn h2) hp⟩
  · obtain ⟨x, rfl, h⟩ := reps1 rd
    obtain ⟨a, ys, rfl, h1, h2⟩ := Rep.tup_iff.mp h
    exact ⟨a, ys, rfl, .inr h1.sq, fun p hn => k _ _ _ (same_new hn) (rep_newL cb hn h2) hp⟩
  · rename_i ns
    obtain ⟨x, rfl, h⟩ := reps1 rd
    obtain ⟨a, rfl, h1⟩ := Rep.scr_iff.mp h
    refine ⟨a, _, rfl, .inl h1.sq, fun p hn => k _ _ _ (same_new hn) (rep_newL cb hn ?_) hp⟩
    have := Reps.map_v (K := K) (S := S) (H := H) (ns.map V.int)
    rw [List.map_map] at this
    exact this
  · exact hp.elim
/-! ### isinstance -/
def tyD : D → Option String
  | .v .non => some "NoneType"
  | .v (.bl _) => some "bool"
  | .v (.int _) => some "int"
  | .v (.str _) => some "str"
  | .v _ => none
  | .tup _ => some "tuple"
  | .lst _ => some "list"
  | .scr _ => none
  | .dct _ _ => some "dict"
  | .exc _ _ _ => none
  | .tpf _ => none
theorem tyx_of {S : Reg} {H : Hp} {d : D} {x : V} {t : String} (h : Rep K S H d x) (e : tyD d = some t) : TyX K H x (.type t) := by
  cases d with
  | v y =>
    have hx := Rep.v_iff.mp h
    subst hx
    cases x <;> simp only [tyD, Option.some.injEq] at e <;> first | (subst e; exact .base (by constructor)) | cases e
  | tup ds =>
    obtain ⟨a, xs, rfl, h1, _⟩ := Rep.tup_iff.mp h
    simp only [tyD, Option.some.injEq] at e
    subst e
    rcases h1 with ⟨h1, _⟩ | h1 | ⟨o, h1, _⟩
    · exact .base (.tup h1)
    · rcases h1 with (h1 | ⟨_, h1⟩) | ⟨o, its, n, h1, h2, _⟩
      · cases h1
      · cases h1
      · exact .kTuple h1 h2
    · exact .fTuple h1
  | lst ds =>
    obtain ⟨a, xs, rfl, h1, _⟩ := Rep.lst_iff.mp h
    simp only [tyD, Option.some.injEq] at e
    subst e
    exact .base (.lst h1.1)
  | scr ns => simp [tyD] at e
  | dct ks ds =>
    obtain ⟨a, xs, rfl, ⟨h1, _⟩, _⟩ := Rep.dct_iff.mp h
    simp only [tyD, Option.some.injEq] at e
    subst e
    exact .base (.dK h1)
  | exc c ks ds => simp [tyD] at e
  | tpf ds => simp [tyD] at e
def dIsi : List D → (D → Prop) → Prop := fun ds Q => match ds with
  | [d, .v (.ty c)] => ∃ t b, tyD d = some t ∧ kitB t c = some b ∧ Q (.bl b)
  | _ => False
theorem cs_isi : CSnd K (rIsi K) dIsi := fun F S H W ds xs P R cb rd hp k => by
  unfold dIsi at hp
  split at hp
  · rename_i d c
    obtain ⟨x, y, rfl, h1, h2⟩ := reps2 rd
    cases Rep.v_iff.mp h2
    obtain ⟨t, b, e1, e2, hp⟩ := hp
    exact ⟨x, _, _, _, b, rfl, .ty c, tyx_of h1 e1, kit_ty e2, k _ _ H (Same.refl H) (Rep.v_iff.mpr rfl) hp⟩
  · exact hp.elim
theorem kitAny_tys (t : String) : ∀ (cs : List String) (bs : List Bool), cs.map (kitB t) = bs.map some → PySem.W.kitAny K (.type t) (cs.map Value.type) = some (bs.any id)
  | [], [], _ => kitAny_nil
  | c :: cs, b :: bs, h => by
    rw [List.map_cons, List.map_cons, List.cons.injEq] at h
    have ih := kitAny_tys t cs bs h.2
    rw [List.map_cons]
    refine kitAny_cons (b := b) (kit_ty h.1) (fun e => ?_) (fun e => ?_)
    · rw [ih, e]; simp
    · rw [e]; simp
/-- isinstance(x, (T1, T2)) -/
def tysOf : List D → Option (List String)
  | [] => some []
  | .v (.ty b) :: r => (tysOf r).map (b :: ·)
  | _ => none
def dIsiT : List D → (D → Prop) → Prop := fun ds Q => match ds with
  | [d, .tup cs] => ∃ (t : String) (ts : List String) (bs : List Bool), tyD d = some t ∧ tysOf cs = some ts ∧ ts.map (kitB t) = bs.map some ∧ Q (.bl (bs.any id))
  | _ => False
theorem reps_tys {S : Reg} {H : Hp} : ∀ {ds : List D} {bs : List String} {vs : List V}, tysOf ds = some bs → Reps K S H ds vs → vs = bs.map V.ty
  | [], bs, vs, h, r => by
    cases h
    exact Reps.nil_iff.mp r
  | .v (.ty b) :: ds, bs, vs, h, r => by
    unfold tysOf at h
    obtain ⟨x, r', rfl, h1, h2⟩ := Reps.cons_iff.mp r
    cases hb : tysOf ds with
    | none => rw [hb] at h; cases h
    | some bs' =>
      rw [hb] at h; cases h
      cases Rep.v_iff.mp h1
      rw [reps_tys hb h2]; rfl
  | .v .non :: _, _, _, h, _ => by simp [tysOf] at h
  | .v (.bl _) :: _, _, _, h, _ => by simp [tysOf] at h
  | .v (.str _) :: _, _, _, h, _ => by simp [tysOf] at h
  | .v (.byt _) :: _, _, _, h, _ => by simp [tysOf] at h
  | .v (.flt _) :: _, _, _, h, _ => by simp [tysOf] at h
  | .v (.ref _) :: _, _, _, h, _ => by simp [tysOf] at h
  | .v (.int _) :: _, _, _, h, _ => by simp [tysOf] at h
  | .tup _ :: _, _, _, h, _ => by simp [tysOf] at h
  | .lst _ :: _, _, _, h, _ => by simp [tysOf] at h
  | .scr _ :: _, _, _, h, _ => by simp [tysOf] at h
theorem clsv_map : ∀ ts : List String, Paired ClsV (ts.map V.ty) (ts.map Value.type)
  | [] => .nil
  | t :: ts => .cons (.ty t) (clsv_map ts)
/-- the classes in a tuple known by its object -/
def rIsiF (K : PySem.W.Frag) : List V → Hp → VK → Prop := fun xs H Q => ∃ (x : V) (tp : Addr) (o : Obj) (cs : List V) (t : Value) (ws : List Value) (b : Bool), xs = [x, .ref tp] ∧ H tp = some (.frz o (.tup cs)) ∧ Paired ClsV cs ws ∧ TyX K H x t ∧ PySem.W.kitAny K t ws = some b ∧ Q (.bl b) H
theorem call_isiF {X : Cx} : CallR X (.builtin "isinstance") (rIsiF X.K) := by
  intro pins s σ H xs us Q I r h
  obtain ⟨x, tp, ob, cs, t, ws, b, rfl, hT, k, ty, e, q⟩ := h
  obtain ⟨u1, u2, rfl, r1, r2⟩ := vals2 r
  cases (show u2 = Value.ref tp from r2)
  obtain ⟨P, Z, p, hx⟩ := kit_of I r1 ty
  obtain ⟨_, _, its, rv, ⟨oc, od, dt, sl⟩, h1, h2, n, h3⟩ : ObjOk X.prog X.w H s.heap tp (.frz ob (.tup cs)) := I.hok tp _ hT
  have e3 := ClsV.all k rv
  subst e3
  simp only at h2 h3
  subst h2 h3
  exact PySem.W.kia_tup Z I.kIn p h1 e hx fun tk => ⟨.bl b, H, I.tok tk, rfl, q⟩
theorem cs_isiT : CSnd K (fun xs H Q => (rIsiT K xs H Q ∨ rIsiK K xs H Q) ∨ rIsiF K xs H Q) dIsiT := fun F S H W ds xs P R cb rd hp k => by
  unfold dIsiT at hp
  split at hp
  · rename_i d cs
    obtain ⟨x, y, rfl, h1, h2⟩ := reps2 rd
    obtain ⟨t, ts, bs, e1, e2, e3, hp⟩ := hp
    obtain ⟨a, ys, rfl, h3, h4⟩ := Rep.tup_iff.mp h2
    rw [reps_tys e2 h4] at h3
    have fin := k _ _ H (Same.refl H) (Rep.v_iff.mpr rfl) hp
    rcases h3 with ⟨h3, _⟩ | h3 | ⟨ob, h3, _⟩
    · exact .inl (.inl ⟨x, a, _, _, ts.map Value.type, _, rfl, h3, clsv_map ts, tyx_of h1 e1, kitAny_tys t ts bs e3, fin⟩)
    · rcases h3 with (h3 | ⟨_, h3⟩) | ⟨o, its, n, q1, q2, q3, q4, q5⟩
      · cases h3
      · cases h3
      · obtain ⟨oc, od, odt, osl⟩ := o
        cases q2
        cases q3
        have e : its.toList = ts.map Value.type := ClsV.all (clsv_map ts) q5
        have e' : its = (ts.map Value.type).toArray := by rw [← e]
        subst e'
        exact .inl (.inr ⟨x, a, _, ts.map Value.type, n, _, _, _, rfl, q1, tyx_of h1 e1, kitAny_tys t ts bs e3, fin⟩)
    · exact .inr ⟨x, a, ob, _, _, ts.map Value.type, _, rfl, h3, clsv_map ts, tyx_of h1 e1, kitAny_tys t ts bs e3, fin⟩
  · exact hp.elim
theorem call_isiA {X : Cx} : CallR X (.builtin "isinstance") (fun xs H Q => (rIsiT X.K xs H Q ∨ rIsiK X.K xs H Q) ∨ rIsiF X.K xs H Q) := CallR.or (CallR.or call_isiT call_isiK) call_isiF
/-! ### methods of texts -/
/-- one text in -/
def dM1 (g : Str → Str → V) : D → List D → (D → Prop) → Prop := fun d ds Q => match d, ds with
  | .v (.str a), [.v (.str b)] => Q (.v (g a b))
  | _, _ => False
theorem ms_1 {g : Str → Str → V} : MSnd K (fun x xs H Q => ∃ a b, x = .str a ∧ xs = [.str b] ∧ Q (g a b) H) (dM1 g) := fun F S H W d ds x xs P R cb rd re hp k => by
  unfold dM1 at hp
  split at hp
  · obtain ⟨y, rfl, h⟩ := reps1 re
    cases Rep.v_iff.mp h
    cases Rep.v_iff.mp rd
    exact ⟨_, _, rfl, rfl, k _ _ H (Same.refl H) (Rep.v_iff.mpr rfl) hp⟩
  · exact hp.elim
/-- an int in -/
def dMI (C : Str → Int → Prop) (g : Str → Int → V) : D → List D → (D → Prop) → Prop := fun d ds Q => match d, ds with
  | .v (.str a), [.v (.int b)] => C a b ∧ Q (.v (g a b))
  | _, _ => False
theorem ms_I {C : Str → Int → Prop} {g : Str → Int → V} : MSnd K (fun x xs H Q => ∃ (a : Str) (i : Int), x = .str a ∧ xs = [.int i] ∧ C a i ∧ Q (g a i) H) (dMI C g) := fun F S H W d ds x xs P R cb rd re hp k => by
  unfold dMI at hp
  split at hp
  · obtain ⟨y, rfl, h⟩ := reps1 re
    cases Rep.v_iff.mp h
    cases Rep.v_iff.mp rd
    exact ⟨_, _, rfl, rfl, hp.1, k _ _ H (Same.refl H) (Rep.v_iff.mpr rfl) hp.2⟩
  · exact hp.elim
/-- nothing in -/
def dM0 (C : Str → Prop) (g : Str → V) : D → List D → (D → Prop) → Prop := fun d ds Q => match d, ds with
  | .v (.str a), [] => C a ∧ Q (.v (g a))
  | _, _ => False
theorem ms_0 {C : Str → Prop} {g : Str → V} : MSnd K (fun x xs H Q => ∃ (a : Str), x = .str a ∧ xs = [] ∧ C a ∧ Q (g a) H) (dM0 C g) := fun F S H W d ds x xs P R cb rd re hp k => by
  unfold dM0 at hp
  split at hp
  · cases Rep.v_iff.mp rd
    exact ⟨_, rfl, Reps.nil_iff.mp re, hp.1, k _ _ H (Same.refl H) (Rep.v_iff.mpr rfl) hp.2⟩
  · exact hp.elim
/-- s.rjust(n, c) -/
def rRjust : V → List V → Hp → VK → Prop := fun x xs H Q => ∃ (a f : Str) (i : Int), x = .str a ∧ xs = [.int i, .str f] ∧ PySem.PadOk i = true ∧ f.length = 1 ∧ Q (.str (Txt.rjustF a i (f.cps.getD 0 0))) H
theorem mt_rjust2 {X : Cx} : MtR X "str.rjust" rRjust := by
  intro pins s σ H x xs v us Q I rx rs h
  obtain ⟨a, f, i, rfl, rfl, h1, h2, q⟩ := h
  obtain ⟨t, rfl⟩ := rx
  obtain ⟨u1, u2, rfl, r1, r2⟩ := vals2 rs
  obtain ⟨t1, rfl⟩ := r1
  obtain ⟨t2, rfl⟩ := r2
  exact PyProof.Rows.rjust_fill h1 h2 fun t' k => ⟨.str _, H, I.tok _, ⟨_, rfl⟩, q⟩
def dRjust : D → List D → (D → Prop) → Prop := fun d ds Q => match d, ds with
  | .v (.str a), [.v (.int i), .v (.str f)] => PySem.PadOk i = true ∧ f.length = 1 ∧ Q (.str (Txt.rjustF a i (f.cps.getD 0 0)))
  | _, _ => False
theorem ms_rjust : MSnd K rRjust dRjust := fun F S H W d ds x xs P R cb rd re hp k => by
  unfold dRjust at hp
  split at hp
  · obtain ⟨y, z, rfl, h, h'⟩ := reps2 re
    cases Rep.v_iff.mp h
    cases Rep.v_iff.mp h'
    cases Rep.v_iff.mp rd
    exact ⟨_, _, _, rfl, rfl, hp.1, hp.2.1, k _ _ H (Same.refl H) (Rep.v_iff.mpr rfl) hp.2.2⟩
  · exact hp.elim
/-- texts of a list -/
def strsOf : List D → Option (List Str)
  | [] => some []
  | .v (.str b) :: r => (strsOf r).map (b :: ·)
  | _ => none
theorem reps_strs {S : Reg} {H : Hp} : ∀ {ds : List D} {bs : List Str} {vs : List V}, strsOf ds = some bs → Reps K S H ds vs → vs = bs.map V.str
  | [], bs, vs, h, r => by
    cases h
    exact Reps.nil_iff.mp r
  | .v (.str b) :: ds, bs, vs, h, r => by
    unfold strsOf at h
    obtain ⟨x, r', rfl, h1, h2⟩ := Reps.cons_iff.mp r
    cases hb : strsOf ds with
    | none => rw [hb] at h; cases h
    | some bs' =>
      rw [hb] at h; cases h
      cases Rep.v_iff.mp h1
      rw [reps_strs hb h2]; rfl
  | .v .non :: _, _, _, h, _ => by simp [strsOf] at h
  | .v (.bl _) :: _, _, _, h, _ => by simp [strsOf] at h
  | .v (.int _) :: _, _, _, h, _ => by simp [strsOf] at h
  | .v (.byt _) :: _, _, _, h, _ => by simp [strsOf] at h
  | .v (.flt _) :: _, _, _, h, _ => by simp [strsOf] at h
  | .v (.ref _) :: _, _, _, h, _ => by simp [strsOf] at h
  | .v (.ty _) :: _, _, _, h, _ => by simp [strsOf] at h
  | .tup _ :: _, _, _, h, _ => by simp [strsOf] at h
  | .lst _ :: _, _, _, h, _ => by simp [strsOf] at h
  | .scr _ :: _, _, _, h, _ => by simp [strsOf] at h
theorem strsOf_map (bs : List Str) : strsOf (bs.map D.str) = some bs := by
  induction bs with
  | nil => rfl
  | cons b r ih => simp [strsOf, ih]
def rJoin (K : PySem.W.Frag) : V → List V → Hp → VK → Prop := fun x xs H Q => ∃ a p, ∃ ys : List Str, x = .str a ∧ xs = [.ref p] ∧ (SqL K H p (ys.map V.str) ∨ SqT K H p (ys.map V.str)) ∧
  (ys.map (·.length)).sum + ys.length * a.length ≤ 16777216 ∧ Q (.str (Txt.join a ys)) H
theorem mt_joinA {X : Cx} : MtR X "str.join" (rJoin X.K) := mt_join
def dJoin : D → List D → (D → Prop) → Prop := fun d ds Q => match d, ds with
  | .v (.str a), [.lst xs] => ∃ ys, strsOf xs = some ys ∧ (ys.map (·.length)).sum + ys.length * a.length ≤ 16777216 ∧ Q (.str (Txt.join a ys))
  | .v (.str a), [.tup xs] => ∃ ys, strsOf xs = some ys ∧ (ys.map (·.length)).sum + ys.length * a.length ≤ 16777216 ∧ Q (.str (Txt.join a ys))
  | _, _ => False
theorem ms_join : MSnd K (rJoin K) dJoin := fun F S H W d ds x xs P R cb rd re hp k => by
  unfold dJoin at hp
  split at hp
  · obtain ⟨y, rfl, h⟩ := reps1 re
    cases Rep.v_iff.mp rd
    obtain ⟨ys, h1, h2, hp⟩ := hp
    obtain ⟨p, zs, rfl, h3, h4⟩ := Rep.lst_iff.mp h
    rw [reps_strs h1 h4] at h3
    exact ⟨_, p, ys, rfl, rfl, .inl h3.sq, h2, k _ _ H (Same.refl H) (Rep.v_iff.mpr rfl) hp⟩
  · obtain ⟨y, rfl, h⟩ := reps1 re
    cases Rep.v_iff.mp rd
    obtain ⟨ys, h1, h2, hp⟩ := hp
    obtain ⟨p, zs, rfl, h3, h4⟩ := Rep.tup_iff.mp h
    rw [reps_strs h1 h4] at h3
    exact ⟨_, p, ys, rfl, rfl, .inr h3.sq, h2, k _ _ H (Same.refl H) (Rep.v_iff.mpr rfl) hp⟩
  · exact hp.elim
/-! ### in, is -/
def flatOf : List D → Option (List V)
  | [] => some []
  | .v x :: r => (flatOf r).map (x :: ·)
  | _ => none
theorem reps_flat {S : Reg} {H : Hp} : ∀ {ds : List D} {bs : List V} {vs : List V}, flatOf ds = some bs → Reps K S H ds vs → vs = bs
  | [], bs, vs, h, r => by
    cases h
    exact Reps.nil_iff.mp r
  | .v b :: ds, bs, vs, h, r => by
    unfold flatOf at h
    obtain ⟨x, r', rfl, h1, h2⟩ := Reps.cons_iff.mp r
    cases hb : flatOf ds with
    | none => rw [hb] at h; cases h
    | some bs' =>
      rw [hb] at h; cases h
      cases Rep.v_iff.mp h1
      rw [reps_flat hb h2]
  | .tup _ :: _, _, _, h, _ => by simp [flatOf] at h
  | .lst _ :: _, _, _, h, _ => by simp [flatOf] at h
  | .scr _ :: _, _, _, h, _ => by simp [flatOf] at h
def inS (a b : Str) : Bool := !(Builtin.Str.occurrences b a 0 b.length 1).isEmpty
def dIn (neg : Bool) : D → D → (D → Prop) → Prop := fun d e Q => match d, e with
  | .v (.str a), .v (.str b) => Q (.bl (if neg then !inS a b else inS a b))
  | .v x, .lst ys => ∃ vs, flatOf ys = some vs ∧ flatV x = true ∧ vs.all flatV = true ∧ Q (.bl (if neg then !inV x vs else inV x vs))
  | .v x, .tup ys => ∃ vs, flatOf ys = some vs ∧ flatV x = true ∧ vs.all flatV = true ∧ Q (.bl (if neg then !inV x vs else inV x vs))
  | _, _ => False
def rInA (K : PySem.W.Frag) (neg : Bool) : R2 := fun x y H Q => (∃ i j, x = .str i ∧ y = .str j ∧ Q (.bl (if neg then !inS i j else inS i j)) H) ∨ rIn K neg x y H Q
theorem rs_in {neg : Bool} : RSnd K (rInA K neg) (dIn neg) := fun F S H W d e x y P R cb rd re hp k => by
  unfold dIn at hp
  split at hp
  · rw [Rep.v_iff] at rd re
    exact .inl ⟨_, _, rd, re, k _ _ H (Same.refl H) (Rep.v_iff.mpr rfl) hp⟩
  · obtain ⟨vs, h1, h2, h3, hp⟩ := hp
    obtain ⟨p, zs, rfl, h4, h5⟩ := Rep.lst_iff.mp re
    cases Rep.v_iff.mp rd
    rw [reps_flat h1 h5] at h4
    exact .inr ⟨p, vs, rfl, .inl h4.sq, h2, h3, k _ _ H (Same.refl H) (Rep.v_iff.mpr rfl) hp⟩
  · obtain ⟨vs, h1, h2, h3, hp⟩ := hp
    obtain ⟨p, zs, rfl, h4, h5⟩ := Rep.tup_iff.mp re
    cases Rep.v_iff.mp rd
    rw [reps_flat h1 h5] at h4
    exact .inr ⟨p, vs, rfl, .inr h4.sq, h2, h3, k _ _ H (Same.refl H) (Rep.v_iff.mpr rfl) hp⟩
  · exact hp.elim
theorem op_inA {X : Cx} : OpR X (compareOp .In) (rInA X.K false) := OpR.or (r := fun x y H Q => ∃ i j, x = .str i ∧ y = .str j ∧ Q (.bl (inS i j)) H) op_in_str op_in_seq
theorem op_niA {X : Cx} : OpR X (compareOp .NotIn) (rInA X.K true) := OpR.or (r := fun x y H Q => ∃ i j, x = .str i ∧ y = .str j ∧ Q (.bl (!inS i j)) H) op_notin_str op_notIn_seq
def D.isNon : D → Bool
  | .v .non => true
  | _ => false
def dIsN : D → D → (D → Prop) → Prop := fun d e Q => match e with
  | .v .non => Q (.bl d.isNon)
  | _ => False
def dNotN : D → D → (D → Prop) → Prop := fun d e Q => match e with
  | .v .non => Q (.bl (!d.isNon))
  | _ => False
theorem rep_non {S : Reg} {H : Hp} {d : D} {x : V} (r : Rep K S H d x) : decide (x = .non) = d.isNon := by
  cases d with
  | v y =>
    rw [Rep.v_iff.mp r]
    cases y <;> rfl
  | tup ds => obtain ⟨a, xs, rfl, _⟩ := Rep.tup_iff.mp r; rfl
  | lst ds => obtain ⟨a, xs, rfl, _⟩ := Rep.lst_iff.mp r; rfl
  | scr ds => obtain ⟨a, rfl, _⟩ := Rep.scr_iff.mp r; rfl
  | dct ks ds => obtain ⟨a, xs, rfl, _⟩ := Rep.dct_iff.mp r; rfl
  | exc c ks ds => obtain ⟨a, _, _, rfl, _⟩ := Rep.exc_iff.mp r; rfl
  | tpf ds => obtain ⟨a, _, _, rfl, _⟩ := Rep.tpf_iff.mp r; rfl
theorem rs_isN : RSnd K (fun x y H Q => y = .non ∧ Q (.bl (decide (x = .non))) H) dIsN := fun F S H W d e x y P R cb rd re hp k => by
  unfold dIsN at hp
  split at hp
  · refine ⟨Rep.v_iff.mp re, ?_⟩
    rw [rep_non rd]
    exact k _ _ H (Same.refl H) (Rep.v_iff.mpr rfl) hp
  · exact hp.elim
theorem rs_notN : RSnd K (fun x y H Q => y = .non ∧ Q (.bl (!decide (x = .non))) H) dNotN := fun F S H W d e x y P R cb rd re hp k => by
  unfold dNotN at hp
  split at hp
  · refine ⟨Rep.v_iff.mp re, ?_⟩
    rw [rep_non rd]
    exact k _ _ H (Same.refl H) (Rep.v_iff.mpr rfl) hp
  · exact hp.elim
end
end G

namespace G
open PySem PySem.Spec L2

def updW (W : Wd) (p : Addr) (o : MO) : Wd := fun q => if q = p then some o else W q
theorem updW_same {W : Wd} {p : Addr} {o : MO} : updW W p o p = some o := if_pos rfl
theorem updW_ne {W : Wd} {p q : Addr} {o : MO} (h : q ≠ p) : updW W p o q = W q := if_neg h
section
variable {K : PySem.W.Frag} {F S : Reg} {H : Hp} {σ : St} {ρ : Env} {W : Wd}
/-- a changeable object changes -/
theorem Cf.chW (c : Cf K F S H σ ρ W) {p : Addr} {o0 o : MO} {u : HO} (hw : W p = some o0) (ho : ∀ S' H', Stp (fun _ => False) S H S' H' → H' p = some u → MRep K S' H' p o) : Stp F S H S (upd H p u) ∧ Cf K F S (upd H p u) σ ρ (updW W p o) := by
  obtain ⟨sp, nf, _⟩ := c.cb.w p o0 hw
  have st : ∀ F', (∀ a, F' a → a ≠ p) → Stp F' S H S (upd H p u) := fun F' hF => ⟨fun a v h e => by
      have : a ≠ p := fun q => h (q ▸ sp)
      rw [upd_ne this]; exact e, fun a h1 h2 => absurd h1 h2, fun a h => by
      by_cases ha : a = p
      · rw [ha, upd_same] at h; cases h
      · rw [upd_ne ha] at h; exact h, fun a h => upd_ne (hF a h)⟩
  have st1 := st F fun a h z => nf (z ▸ h)
  refine ⟨st1, ⟨fun a h => ?_, c.cb.fs, fun q o' hq => ?_⟩, c.len, fun j d' h => ?_, fun j ds' h => ?_, c.dis⟩
  · intro q; exact c.cb.sd a h (st1.dom a q)
  · by_cases hp : q = p
    · subst hp
      rw [updW_same] at hq
      cases hq
      exact ⟨sp, nf, ho _ _ (st _ fun _ h => h.elim) upd_same⟩
    · rw [updW_ne hp] at hq
      obtain ⟨h1, h2, h3⟩ := c.cb.w q o' hq
      exact ⟨h1, h2, h3.up st1 (upd_ne hp)⟩
  · obtain ⟨w, h1, h2⟩ := c.sh j d' h
    exact ⟨w, h1, h2.up st1⟩
  · obtain ⟨q, h1, h3, h4, h5, h6⟩ := c.om j ds' h
    have hp : q ≠ p := fun z => by rw [z, hw] at h6; cases h6
    exact ⟨q, h1, h3.up st1 (upd_ne hp), h4, h5, by rw [updW_ne hp]; exact h6⟩
/-- a new changeable list -/
theorem Cf.newW (c : Cf K F S H σ ρ W) {p : Addr} {xs : List V} {ds : List D} (hp : H p = none) (r : Reps K S H ds xs) :
    W p = none ∧ Stp F S H (Add S p) (upd H p (.lst xs)) ∧ Cf K F (Add S p) (upd H p (.lst xs)) σ ρ (updW W p (.lst ds)) := by
  have hw : W p = none := by
    cases q : W p with
    | none => rfl
    | some o => exact absurd hp (c.cb.sd p (c.cb.w p o q).1)
  have np : ∀ a, S a → a ≠ p := fun a hs q => c.cb.sd a hs (by rw [q]; exact hp)
  have st : Stp F S H (Add S p) (upd H p (.lst xs)) := (c.alien (o := .lst xs) hp).1
  refine ⟨hw, st, ⟨fun a h => ?_, fun a h => .inl (c.cb.fs a h), fun q o' hq => ?_⟩, c.len, fun j d' h => ?_, fun j ds' h => ?_, c.dis⟩
  · rcases h with h | h
    · rw [upd_ne (np a h)]; exact c.cb.sd a h
    · rw [h, upd_same]; simp
  · by_cases hq' : q = p
    · subst hq'
      rw [updW_same] at hq
      cases hq
      exact ⟨.inr rfl, fun hf => c.cb.sd _ (c.cb.fs _ hf) hp, xs, upd_same, r.up st⟩
    · rw [updW_ne hq'] at hq
      obtain ⟨h1, h2, h3⟩ := c.cb.w q o' hq
      exact ⟨.inl h1, h2, h3.up st (upd_ne hq')⟩
  · obtain ⟨w, h1, h2⟩ := c.sh j d' h
    exact ⟨w, h1, h2.up st⟩
  · obtain ⟨q, h1, h3, h4, h5, h6⟩ := c.om j ds' h
    have hq : q ≠ p := np q h4
    exact ⟨q, h1, h3.up st (upd_ne hq), .inl h4, h5, by rw [updW_ne hq]; exact h6⟩
/-- the own list becomes one that others may hold -/
theorem Cf.omW (c : Cf K F S H σ ρ W) {i : Nat} {o : MO} (h0 : ρ[i]? = some (some (.om o))) :
    ∃ p, W p = none ∧ Cf K F S H σ (ρ.set i (some (.sh (.ref p)))) (updW W p o) := by
  obtain ⟨p, hp, r0, hs, hf, hw⟩ := c.om i o h0
  have hl : i < ρ.length := (List.getElem?_eq_some_iff.mp h0).1
  refine ⟨p, hw, ⟨c.cb.sd, c.cb.fs, fun q o' hq => ?_⟩, by simp [c.len], fun j d' h => ?_, fun j ds' h => ?_, fun j k q h1 h2 => ?_⟩
  · by_cases hq' : q = p
    · subst hq'
      rw [updW_same] at hq
      cases hq
      exact ⟨hs, hf, r0⟩
    · rw [updW_ne hq'] at hq
      exact c.cb.w q o' hq
  · by_cases hj : i = j
    · subst hj
      rw [List.getElem?_set_self hl] at h
      cases h
      exact ⟨_, hp, Rep.v_iff.mpr rfl⟩
    · rw [List.getElem?_set_ne hj] at h
      exact c.sh j d' h
  · by_cases hj : i = j
    · subst hj
      rw [List.getElem?_set_self hl] at h
      cases h
    · rw [List.getElem?_set_ne hj] at h
      obtain ⟨q, h1, h3, h4, h5, h6⟩ := c.om j ds' h
      have : q ≠ p := fun z => hj (c.dis i j p ⟨o, h0, hp⟩ ⟨ds', h, z ▸ h1⟩)
      exact ⟨q, h1, h3, h4, h5, by rw [updW_ne this]; exact h6⟩
  · have go : ∀ j, Own σ (ρ.set i (some (.sh (.ref p)))) j q → Own σ ρ j q := fun j ⟨ds', q1, q2⟩ => by
      by_cases hj : i = j
      · subst hj
        rw [List.getElem?_set_self hl] at q1
        cases q1
      · rw [List.getElem?_set_ne hj] at q1
        exact ⟨ds', q1, q2⟩
    exact c.dis j k q (go j h1) (go k h2)
end
section
variable {X : Cx} {Wx : WX} {st : Stmt} {rest : List Stmt} {f g : TSD} {e o a b c i : Expr} {es : List Expr} {fe fo fa fb fc : TD} {fl : TL} {pos : Pos}
/-- slot i's own list is given to the world -/
def dOlW (i : Nat) (f : TSD) : TSD := fun De ρ W => match ρ[i]? with
  | some (some (.ol ds)) => ∀ p, W p = none → f De (ρ.set i (some (.sh (.ref p)))) (updW W p (.lst ds))
  | _ => False
theorem gss_olW (i : Nat) (h : GSs X Wx rest f) : GSs X Wx rest (dOlW i f) := by
  obtain ⟨t, p, s⟩ := h
  refine ⟨t, p, fun F S H σ ρ W De Dh cf hf l => ?_⟩
  unfold dOlW at hf
  split at hf
  · rename_i ds h0
    obtain ⟨q, hq, c2⟩ := cf.omW h0
    exact s F S H σ _ _ De Dh c2 (hf q hq) l
  · exact hf.elim
/-- return [..], a list that its owner may change -/
def dRetW (fl : TL) : TSD := fun De ρ W => fl ρ W (fun ds _ W' => ∀ p, W' p = none → De.rt (.ref p) (updW W' p (.lst ds))) De.ex
theorem gs_retW (he : GN X Wx e fl) : GS X Wx (.Return (some e) pos) (dRetW fl) := by
  obtain ⟨te, pe, se⟩ := he
  refine ⟨_, ps_ret pe, fun F S H σ ρ W De Dh cf hf l => ?_⟩
  refine se F S H σ ρ W _ De.ex _ cf hf l.ex fun S' H' ρ' W' ds xs p e' c r hp q => ?_
  obtain ⟨hw, st, c2⟩ := c.newW hp r
  exact l.rt _ _ σ ρ' _ _ _ (e'.trans st) c2 (Rep.v_iff.mpr rfl) (q p hw)
/-- x = [..], a list that others may hold and change -/
def dAsgW (i : Nat) (fl : TL) : TSD := fun De ρ W => fl ρ W (fun ds ρ' W' => ∀ p, W' p = none → De.nx (ρ'.set i (some (.sh (.ref p)))) (updW W' p (.lst ds))) De.ex
theorem snd_asgW {K : PySem.W.Frag} {te : TE} {i : Nat} (se : SndN K Wx te fl) : SndS K Wx (tAsg te (gName i)) (dAsgW i fl) := fun F S H σ ρ W De Dh cf hf l => by
  refine se F S H σ ρ W _ De.ex _ cf hf l.ex fun S' H' ρ' W' ds xs p e' c r hp q => ?_
  obtain ⟨hw, st, c2⟩ := c.newW hp r
  exact l.nx _ _ _ _ _ (e'.trans st) (c2.setSh i (Rep.v_iff.mpr rfl)) (q p hw)
/-- p[i] of a changeable list -/
def dIxW (fa fb : TD) : TD := fun ρ W Q Qx => fa ρ W (fun d ρ1 W1 => fb ρ1 W1 (fun e ρ2 W2 => match d, e with
  | .v (.ref p), .v (.int i) => ∃ ds z, W2 p = some (.lst ds) ∧ atI ds i = some z ∧ Q z ρ2 W2
  | _, _ => False) Qx) Qx
theorem ge_ixW (ha : GE X Wx a fa) (hb : GE X Wx b fb) (hs : PlainIx b) : GE X Wx (.Subscript a b pos) (dIxW fa fb) := by
  obtain ⟨ta, pa, sa⟩ := ha
  obtain ⟨tb, pb, sb⟩ := hb
  refine ⟨_, pe_ix ix_list pa pb hs, fun F S H σ ρ W Q Qx R cf hf hx hE => ?_⟩
  refine sa F S H σ ρ W _ Qx _ cf hf hx fun S1 H1 ρ1 W1 d v e1 c1 r1 q1 => ?_
  refine sb F S1 H1 σ ρ1 W1 _ Qx _ c1 q1 (hx.up e1) fun S2 H2 ρ2 W2 d2 v2 e2 c2 r2 q2 => ?_
  split at q2
  · rename_i p i
    obtain ⟨ds, z, hw, hz, q⟩ := q2
    obtain ⟨_, _, xs, h1, h2⟩ := c2.cb.w p _ hw
    obtain ⟨w, h3, h4⟩ := reps_at h2 hz
    exact ⟨p, xs, i, w, Rep.v_iff.mp r1, Rep.v_iff.mp r2, SqL.of h1, h3, hE S2 H2 ρ2 W2 z w (e1.trans e2) c2 h4 q⟩
  · exact q2.elim
/-- p[i] = e -/
def dSetW (fe fo fi : TD) : TSD := fun De ρ W => fe ρ W (fun d ρ1 W1 => fo ρ1 W1 (fun x ρ2 W2 => fi ρ2 W2 (fun y ρ3 W3 => match x, y with
  | .v (.ref p), .v (.int k) => ∃ ds j, W3 p = some (.lst ds) ∧ ixN ds.length k = some j ∧ De.nx ρ3 (updW W3 p (.lst (ds.set j d)))
  | _, _ => False) De.ex) De.ex) De.ex
theorem gs_setW {fi : TD} {tpos : Pos} (he : GE X Wx e fe) (ho : GE X Wx o fo) (hi : GE X Wx i fi) (ha : ∀ v, assign (.Subscript o i tpos) X.env v = (do
      let ov ← holding [v] (eval o X.env)
      let iv ← holding [v, ov] (eval i X.env)
      standAt tpos
      holding [v, ov, iv] (setItem ov iv v)
      release [v, ov, iv] []) := by intro _; rfl) (hs : swapsWithSole [.Subscript o i tpos] e pos.line X.env = pure false := by rfl) (hw : swappedStores [.Subscript o i tpos] e X.env = pure none := by rfl) (h1 : (assignEach [.Subscript o i tpos] X.env).map (·.2) = [assign (.Subscript o i tpos) X.env] := by rfl) :
    GS X Wx (.Assign [.Subscript o i tpos] e pos) (dSetW fe fo fi) := by
  obtain ⟨te, pe, se⟩ := he
  obtain ⟨to, po, so⟩ := ho
  obtain ⟨ti, pi, si⟩ := hi
  refine ⟨_, ps_asg pe (pg_sub po pi set_list ha) hs hw h1, fun F S H σ ρ W De Dh cf hf l => ?_⟩
  refine se F S H σ ρ W _ De.ex _ cf hf l.ex fun S1 H1 ρ1 W1 d v e1 c1 r1 q1 => ?_
  refine so F S1 H1 σ ρ1 W1 _ De.ex _ c1 q1 (l.ex.up e1) fun S2 H2 ρ2 W2 d2 v2 e2 c2 r2 q2 => ?_
  refine si F S2 H2 σ ρ2 W2 _ De.ex _ c2 q2 (l.ex.up (e1.trans e2)) fun S3 H3 ρ3 W3 d3 v3 e3 c3 r3 q3 => ?_
  split at q3
  · rename_i p k
    obtain ⟨ds, j, hw, hj, q⟩ := q3
    obtain ⟨_, _, xs, h1, h2⟩ := c3.cb.w p _ hw
    refine ⟨p, xs, k, j, Rep.v_iff.mp r2, Rep.v_iff.mp r3, h1, by rw [h2.length]; exact hj, ?_⟩
    have r1' := (r1.up e2).up e3
    obtain ⟨st, c4⟩ := c3.chW (o := .lst (ds.set j d)) (u := .lst (xs.set j v)) hw fun S' H' e' hp => ⟨_, hp, (Reps.set r1' j h2).up e'⟩
    exact l.nx _ _ _ _ _ (((e1.trans e2).trans e3).trans st) c4 q
  · exact q3.elim
/-- p.pop(i), dropped -/
def dPopW (fo fi : TD) : TSD := fun De ρ W => fo ρ W (fun x ρ1 W1 => (∃ p ds, x = .ref p ∧ W1 p = some (.lst ds)) ∧ fi ρ1 W1 (fun y ρ2 W2 => match x, y with
  | .v (.ref p), .v (.int k) => ∃ ds j, W2 p = some (.lst ds) ∧ -(2 ^ 63) ≤ k ∧ k < 2 ^ 63 ∧ seqIndex? k ds.length = some j ∧ j < ds.length ∧ De.nx ρ2 (updW W2 p (.lst (ds.eraseIdx j)))
  | _, _ => False) De.ex) De.ex
theorem Reps.erase {K : PySem.W.Frag} {S : Reg} {H : Hp} : ∀ (n : Nat) {ds : List D} {vs : List V}, Reps K S H ds vs → Reps K S H (ds.eraseIdx n) (vs.eraseIdx n)
  | n, [], _, h => by rw [Reps.nil_iff.mp h]; exact Reps.nil
  | 0, d' :: ds, _, h => by
    obtain ⟨x, r, rfl, h1, h2⟩ := Reps.cons_iff.mp h
    exact h2
  | n + 1, d' :: ds, _, h => by
    obtain ⟨x, r, rfl, h1, h2⟩ := Reps.cons_iff.mp h
    exact Reps.cons h1 (Reps.erase n h2)
theorem gs_popW {fi : TD} {apos cpos : Pos} (ho : GE X Wx o fo) (hi : GE X Wx i fi) (hbase : attributeBase o "pop" X.env (eval o X.env) = eval o X.env := by rfl)
    (hfew : ((backTo cpos (starEach (i :: []) X.env)).all (fun x => !x.1) && (backToKw cpos (keywordEach [] X.env)).all (fun x => x.1.isSome) && decide ((i :: ([] : List Expr)).length + ([] : List Keyword).length + (if ([] : List Keyword).isEmpty then 0 else 1) < 30)) = true := by rfl)
    (hline : (apos.endLine == cpos.line) = true := by rfl) (hse : starEach (i :: []) X.env = (false, eval i X.env) :: starEach [] X.env := by rfl) (hplain : (backTo cpos (starEach [] X.env)).any (·.1) = false := by rfl)
    (hs : swapsWith (.Call (.Attribute o "pop" apos) [i] [] cpos) none pos.line X.env = pure false := by rfl) : GS X Wx (.Expr (.Call (.Attribute o "pop" apos) [i] [] cpos) pos) (dPopW fo fi) := by
  obtain ⟨to, po, so⟩ := ho
  obtain ⟨ti, pi, si⟩ := hi
  refine ⟨_, ps_expr (pe_bm PySem.F.plainAttrs_list PySem.F.slot_list_pop PySem.F.type_list_pop mt_popAt po (pa_cons pi pa_nil hse) hbase hfew hline hse hplain) hs, fun F S H σ ρ W De Dh cf hf l => ?_⟩
  refine so F S H σ ρ W _ De.ex _ cf hf l.ex fun S1 H1 ρ1 W1 d v e1 c1 r1 q1 => ?_
  obtain ⟨⟨p0, ds0, rfl, hw0⟩, q1⟩ := q1
  obtain ⟨_, _, xs0, h0, _⟩ := c1.cb.w p0 _ hw0
  have ev := Rep.v_iff.mp r1
  subst ev
  refine ⟨.inl ⟨rfl, xs0, SqL.of h0⟩, ?_⟩
  refine si F S1 H1 σ ρ1 W1 _ De.ex _ c1 q1 (l.ex.up e1) fun S2 H2 ρ2 W2 d2 v2 e2 c2 r2 q2 => ?_
  split at q2
  · rename_i p k he
    cases he
    obtain ⟨ds, j, hw, hk1, hk2, hj, hjl, q⟩ := q2
    obtain ⟨_, _, xs, h1, h2⟩ := c2.cb.w p0 _ hw
    have hv : xs[j]? = some (xs[j]'(by rw [h2.length]; exact hjl)) := List.getElem?_eq_getElem _
    refine ⟨p0, xs, k, j, _, rfl, by rw [Rep.v_iff.mp r2], h1, hk1, hk2, by rw [h2.length]; exact hj, hv, ?_⟩
    obtain ⟨st, c4⟩ := c2.chW (o := .lst (ds.eraseIdx j)) (u := .lst (xs.eraseIdx j)) hw fun S' H' e' hp => ⟨_, hp, (Reps.erase j h2).up e'⟩
    exact l.nx _ _ _ _ _ ((e1.trans e2).trans st) c4 q
  · exact q2.elim
/-- p != [], p a changeable list -/
def dNeW (fa fb : TD) : TB := fun ρ W Q Qx => fa ρ W (fun d ρ1 W1 => fb ρ1 W1 (fun e ρ2 W2 => match d, e with
  | .v (.ref p), .lst [] => ∃ ds, W2 p = some (.lst ds) ∧ goods 63 ds = true ∧ Q (!ds.isEmpty) ρ2 W2
  | _, _ => False) Qx) Qx
theorem gt_neW (hu : X.A.units + 64 < cLine) (ha : GE X Wx a fa) (hb : GE X Wx b fb) (hm : behindInMarks .NotEq b = false) : GT X Wx (.Compare a [.NotEq] [b] pos) (dNeW fa fb) := by
  obtain ⟨ta, pa, sa⟩ := ha
  obtain ⟨tb, pb, sb⟩ := hb
  refine ⟨_, pt_cmpR (op_neD hu) pa pb hm, fun F S H σ ρ W Q Qx R cf hf hx hE => ?_⟩
  refine sa F S H σ ρ W _ Qx _ cf hf hx fun S1 H1 ρ1 W1 d v e1 c1 r1 q1 => ?_
  refine sb F S1 H1 σ ρ1 W1 _ Qx _ c1 q1 (hx.up e1) fun S2 H2 ρ2 W2 d2 v2 e2 c2 r2 q2 => ?_
  split at q2
  · rename_i p
    obtain ⟨ds, hw, hg, q⟩ := q2
    obtain ⟨_, _, xs, h1, h2⟩ := c2.cb.w p _ hw
    have ev := Rep.v_iff.mp r1
    subst ev
    obtain ⟨a, ys, rfl, h3, h4⟩ := Rep.lst_iff.mp r2
    have gl : D.good 64 (.lst ds) = true := by simpa [D.good] using hg
    have gn : D.good 64 (.lst []) = true := by simp [D.good, goods]
    have dp1 : Dp X.K H2 (.ref p) (D.lst ds).py := by
      simp only [D.py]
      exact .lst (SqL.of h1) (dps_of hg h2)
    refine ⟨_, _, dp1, dp_of gn r2, shaped_of gl, shaped_of gn, !ds.isEmpty, ?_, hE S2 H2 ρ2 W2 _ (e1.trans e2) c2 q⟩
    cases ds with
    | nil => simp [D.py, pys, PyData.eqv, PyData.eqvAll]
    | cons d ds => simp [D.py, pys, PyData.eqv, PyData.eqvAll]
  · exact q2.elim
/-! ### more statements, more expressions -/
/-- xs[i] = e, the frame's own list -/
def dSetO (k : Nat) (fe fi : TD) : TSD := fun De ρ W => fe ρ W (fun d ρ1 W1 => (∃ ds, ρ1[k]? = some (some (.ol ds))) ∧ fi ρ1 W1 (fun y ρ2 W2 => match ρ2[k]?, y with
  | some (some (.ol ds)), .v (.int z) => ∃ j, ixN ds.length z = some j ∧ De.nx (ρ2.set k (some (.ol (ds.set j d)))) W2
  | _, _ => False) De.ex) De.ex
theorem gs_setO2 {k : Nat} {x : Str} {fi : TD} {px tpos : Pos} (he : GE X Wx e fe) (hi : GE X Wx i fi) (hN : X.N[k]? = some x := by rfl) (hv : Vis X.env.scope x := by first | exact Or.inl rfl | exact Or.inr (Or.inl rfl) | exact Or.inr (Or.inr rfl)) (hd : (x == ("__debug__" : Str)) = false := by decide) (hcd : (x == ("__classdict__" : Str)) = false := by decide)
    (ha : ∀ v, assign (.Subscript (.Name x px) i tpos) X.env v = (do
      let ov ← holding [v] (eval (.Name x px) X.env)
      let iv ← holding [v, ov] (eval i X.env)
      standAt tpos
      holding [v, ov, iv] (setItem ov iv v)
      release [v, ov, iv] []) := by intro _; rfl) (hs : swapsWithSole [.Subscript (.Name x px) i tpos] e pos.line X.env = pure false := by rfl) (hw : swappedStores [.Subscript (.Name x px) i tpos] e X.env = pure none := by rfl) (h1 : (assignEach [.Subscript (.Name x px) i tpos] X.env).map (·.2) = [assign (.Subscript (.Name x px) i tpos) X.env] := by rfl) :
    GS X Wx (.Assign [.Subscript (.Name x px) i tpos] e pos) (dSetO k fe fi) := by
  obtain ⟨te, pe, se⟩ := he
  obtain ⟨ti, pi, si⟩ := hi
  refine ⟨_, ps_asg pe (pg_sub (pe_var hN hv hd hcd) pi set_list ha) hs hw h1, fun F S H σ ρ W De Dh cf hf l => ?_⟩
  refine se F S H σ ρ W _ De.ex _ cf hf l.ex fun S1 H1 ρ1 W1 d v e1 c1 r1 q1 => ?_
  obtain ⟨⟨ds0, h0⟩, q1⟩ := q1
  obtain ⟨p, xs0, hp, _⟩ := c1.ol k ds0 h0
  refine ⟨_, hp, ?_⟩
  refine si F S1 H1 σ ρ1 W1 _ De.ex _ c1 q1 (l.ex.up e1) fun S2 H2 ρ2 W2 d2 v2 e2 c2 r2 q2 => ?_
  split at q2
  · rename_i ds z hk
    obtain ⟨j, hj, q⟩ := q2
    obtain ⟨p', xs, hp', h2, h3, _⟩ := c2.ol k ds hk
    rw [hp] at hp'; cases hp'
    refine ⟨p, xs, z, j, rfl, Rep.v_iff.mp r2, h2, by rw [h3.length]; exact hj, ?_⟩
    obtain ⟨st, c3⟩ := c2.chOl hk hp (Reps.set (r1.up e2) j h3)
    exact l.nx _ _ _ _ W2 ((e1.trans e2).trans st) c3 q
  · exact q2.elim
/-- xs[i], the frame's own list -/
def dIxO (k : Nat) (fi : TD) : TD := fun ρ W Q Qx => (∃ ds, ρ[k]? = some (some (.ol ds))) ∧ fi ρ W (fun y ρ2 W2 => match ρ2[k]?, y with
  | some (some (.ol ds)), .v (.int z) => ∃ d, atI ds z = some d ∧ Q d ρ2 W2
  | _, _ => False) Qx
theorem ge_ixO (k : Nat) {x : Str} {fi : TD} {px : Pos} (hi : GE X Wx i fi) (hpi : PlainIx i) (hN : X.N[k]? = some x := by rfl) (hv : Vis X.env.scope x := by first | exact Or.inl rfl | exact Or.inr (Or.inl rfl) | exact Or.inr (Or.inr rfl)) (hd : (x == ("__debug__" : Str)) = false := by decide) (hcd : (x == ("__classdict__" : Str)) = false := by decide) :
    GE X Wx (.Subscript (.Name x px) i pos) (dIxO k fi) := by
  obtain ⟨ti, pi, si⟩ := hi
  refine ⟨_, pe_ix ix_list (pe_var hN hv hd hcd) pi hpi, fun F S H σ ρ W Q Qx R cf hf hx hE => ?_⟩
  obtain ⟨⟨ds0, h0⟩, hf⟩ := hf
  obtain ⟨p, xs0, hp, _⟩ := cf.ol k ds0 h0
  refine ⟨_, hp, ?_⟩
  refine si F S H σ ρ W _ Qx _ cf hf hx fun S2 H2 ρ2 W2 d2 v2 e2 c2 r2 q2 => ?_
  split at q2
  · rename_i ds z hk
    obtain ⟨d, hd, q⟩ := q2
    obtain ⟨p', xs, hp', h2, h3, _⟩ := c2.ol k ds hk
    rw [hp] at hp'; cases hp'
    obtain ⟨w, h4, h5⟩ := reps_at h3 hd
    exact ⟨p, xs, z, w, rfl, Rep.v_iff.mp r2, SqL.of h2, h4, hE S2 H2 ρ2 W2 d w e2 c2 h5 q⟩
  · exact q2.elim
/-- len of the frame's own list -/
def dLenO (k : Nat) : TD := fun ρ W Q _ => match ρ[k]? with
  | some (some (.ol ds)) => Q (.int ds.length) ρ W
  | _ => False
/-- -e -/
def dNeg (fe : TD) : TD := fun ρ W Q Qx => fe ρ W (fun d ρ' W' => match d with | .v (.int i) => Q (.int (-i)) ρ' W' | _ => False) Qx
theorem ge_neg (he : GE X Wx e fe) : GE X Wx (.UnaryOp .USub e pos) (dNeg fe) := by
  obtain ⟨te, pe, se⟩ := he
  refine ⟨_, pe_un un_neg pe, fun F S H σ ρ W Q Qx R cf hf hx hE => ?_⟩
  refine se F S H σ ρ W _ Qx _ cf hf hx fun S1 H1 ρ1 W1 d v e1 c1 r1 q1 => ?_
  split at q1
  · rename_i i
    exact ⟨i, Rep.v_iff.mp r1, hE S1 H1 ρ1 W1 _ _ e1 c1 (Rep.v_iff.mpr rfl) q1⟩
  · exact q1.elim
theorem ge_gc {x : Str} {v : V} {pos : Pos} (h : ∃ u, X.mg x = some u ∧ RelV v u) (hg : Gl X x := by rfl) (hd : (x == ("__debug__" : Str)) = false := by decide) : GE X Wx (.Name x pos) (dC v) := by
  obtain ⟨u, h1, h2⟩ := h
  exact ge_glob hg h1 h2 hd
/-- a built-in class as a value -/
theorem ge_ty {x : Str} {n : String} {pos : Pos} (hm : X.mg x = none) (hv : bootBuiltins x = some (.type n)) (hg : Gl X x := by rfl) (hn : x ≠ "__name__" := by decide) (hd : (x == ("__debug__" : Str)) = false := by decide) : GE X Wx (.Name x pos) (dC (.ty n)) :=
  ⟨_, pe_bltn (v := .ty n) hg hm hv rfl hn hd, snd_c⟩
theorem gt_chain {op op' : CmpOp} {r r' : R2} {k k' : D → D → (D → Prop) → Prop} (ho : OpR X (compareOp op) r) (ho' : OpR X (compareOp op') r') (hr : RSnd X.K r k) (hr' : RSnd X.K r' k') (ha : GE X Wx a fa) (hb : GE X Wx b fb) (hc : GE X Wx c fc)
    (hm : lastMarks [op, op'] [b, c] = false := by with_unfolding_all rfl) : GT X Wx (.Compare a [op, op'] [b, c] pos) (dBool (dChain k k' fa fb fc)) := by
  obtain ⟨ta, pa, sa⟩ := ha
  obtain ⟨tb, pb, sb⟩ := hb
  obtain ⟨tc, pc, sc⟩ := hc
  refine ⟨_, pt_chain ho ho' pa pb pc hm, fun F S H σ ρ W Q Qx R cf hf hx hE => ?_⟩
  have := snd_tB (snd_chain hr hr' sa sb sc) F S H σ ρ W Q Qx R cf hf hx hE
  exact this
/-- x = [.. for ..] -/
theorem gs_setLc {y : Str} {py : Pos} {k : Nat} {elt tg iter : Expr} {ifs : List Expr} {scope : Scope} {spos : Pos} {fi : TID} {gd : TGD} {ft : TB} {fe : TD} {ts : List Nat} (own : List (Str × Nat)) (hc : X.calm = true) (hN : X.N.Nodup) (hy : X.N[k]? = some y) (hyl : X.env.scope.names.lookup y = some .local)
    (hsw : swapsWith (.ListComp elt [⟨tg, iter, ifs, 0⟩] scope pos) (some (.Name y py)) spos.line X.env = pure true) (hi : GI X Wx tg iter fi) (ok : BlkOk X.N X.env.scope scope own) (hts : ∀ j ∈ ts, j ∈ own.map (·.2))
    (hg : ∀ (s : Shared) (H : Hp) (C : Addr) (cl : List (Str × Addr)) (fp : List Addr), GG (X.blk s H scope (PySem.compEnvC scope cl C X.env) fp) tg gd ts) (ht : ∀ (s : Shared) (H : Hp) (C : Addr) (cl : List (Str × Addr)) (fp : List Addr), GTs (X.blk s H scope (PySem.compEnvC scope cl C X.env) fp) WX0 ifs ft)
    (he : ∀ (s : Shared) (H : Hp) (C : Addr) (cl : List (Str × Addr)) (fp : List Addr), GE (X.blk s H scope (PySem.compEnvC scope cl C X.env) fp) WX0 elt fe) (hs : ∀ x, foldedSetIterable iter X.env x = pure x := by intro _; rfl) :
    GS X Wx (.Assign [.Name y py] (.ListComp elt [⟨tg, iter, ifs, 0⟩] scope pos) spos) (dAsg (dFresh (dLc fi gd ft fe (own.map (·.2)))) (gdName k)) := by
  obtain ⟨wi, pi, si⟩ := hi
  exact ⟨_, ps_setLc hc hN hy hyl hsw pi ok (fun s H C cl fp => (hg s H C cl fp).can) (fun s H C cl fp => (ht s H C cl fp).can) (fun s H C cl fp => (he s H C cl fp).can) hs, snd_asg (snd_fresh (snd_lc hts si)) snd_gName⟩
theorem gs_setLcO {y : Str} {py : Pos} {k : Nat} {elt tg iter : Expr} {ifs : List Expr} {scope : Scope} {spos : Pos} {fi : TID} {gd : TGD} {ft : TB} {fe : TD} {ts : List Nat} (own : List (Str × Nat)) (hc : X.calm = true) (hN : X.N.Nodup) (hy : X.N[k]? = some y) (hyl : X.env.scope.names.lookup y = some .local)
    (hsw : swapsWith (.ListComp elt [⟨tg, iter, ifs, 0⟩] scope pos) (some (.Name y py)) spos.line X.env = pure true) (hi : GI X Wx tg iter fi) (ok : BlkOk X.N X.env.scope scope own) (hts : ∀ j ∈ ts, j ∈ own.map (·.2))
    (hg : ∀ (s : Shared) (H : Hp) (C : Addr) (cl : List (Str × Addr)) (fp : List Addr), GG (X.blk s H scope (PySem.compEnvC scope cl C X.env) fp) tg gd ts) (ht : ∀ (s : Shared) (H : Hp) (C : Addr) (cl : List (Str × Addr)) (fp : List Addr), GTs (X.blk s H scope (PySem.compEnvC scope cl C X.env) fp) WX0 ifs ft)
    (he : ∀ (s : Shared) (H : Hp) (C : Addr) (cl : List (Str × Addr)) (fp : List Addr), GE (X.blk s H scope (PySem.compEnvC scope cl C X.env) fp) WX0 elt fe) (hs : ∀ x, foldedSetIterable iter X.env x = pure x := by intro _; rfl) :
    GS X Wx (.Assign [.Name y py] (.ListComp elt [⟨tg, iter, ifs, 0⟩] scope pos) spos) (dAsgO k (dLc fi gd ft fe (own.map (·.2)))) := by
  obtain ⟨wi, pi, si⟩ := hi
  exact ⟨_, ps_setLc hc hN hy hyl hsw pi ok (fun s H C cl fp => (hg s H C cl fp).can) (fun s H C cl fp => (ht s H C cl fp).can) (fun s H C cl fp => (he s H C cl fp).can) hs, snd_asgO (snd_lc hts si)⟩
end
/-! ### defs of the module -/
/-- the def x of the text -/
structure DefAt (K : PySem.W.Frag) (mg : Str → Option Value) (x : Str) (st : Stmt) (ps : List Str) : Prop where
  ex : ∃ f fd, mg x = some (.ref f) ∧ Fun K x x st f fd ∧ Binds K fd ps []
theorem def_mk {K : PySem.W.Frag} {mg : Str → Option Value} {h : Heap} {x : Str} {st : Stmt} {ps : List Str} {f : Addr} {oc : Value} {od an : Option Addr} {osl : Array (Option Value)} {kV doc pm cdv ct : Value} (X : K.In h) (GG : h.Ns mainGlobals mg) (a : PySem.W.nsIn K mainGlobals x = some (some (.ref f)))
    (l : K.lookup f = some ⟨oc, od, .func (PySem.W.fnOf x x (defArgs st) (defBody st) (defScope st) .none kV doc pm an cdv ct), osl⟩) (c : PySem.W.codeIn K cdv x = true) (k : PySem.W.keepIn K (.ref f) = true)
    (b : ∀ (kV doc pm : Value) (an : Option Addr) (cdv ct : Value) (us : List Value), us.length = ps.length → bindArgs (PySem.W.fnOf x x (defArgs st) (defBody st) (defScope st) .none kV doc pm an cdv ct) ⟨us, []⟩ = pure (ps.zip us)) : DefAt K mg x st ps :=
  ⟨f, _, PySem.W.mg_of X GG a, fun_mk l c k, (fun_mk l c k).binds b⟩
/-- a def that keeps its promise -/
structure Cal (P : Program) (w : World) (K : PySem.W.Frag) (mg : Str → Option Value) (base : Heap) (k : Nat) (x : Str) (st : Stmt) (ps : List Str) (sp : SpD) : Prop where
  ex : ∃ f fd, mg x = some (.ref f) ∧ Fun K x x st f fd ∧ Binds K fd ps [] ∧ FnG P w K mg base k f fd ps (toSp K ps.length sp)
section
variable {P : Program} {w : World} {K : PySem.W.Frag} {mg : Str → Option Value} {base : Heap} {k j : Nat} {x : Str} {st : Stmt} {ps : List Str} {sp sp' : SpD}
theorem Cal.imp (c : Cal P w K mg base k x st ps sp) (h : ∀ ds W Q Qx, sp' ds W Q Qx → sp ds W Q Qx) : Cal P w K mg base k x st ps sp' := by
  obtain ⟨f, fd, a, b, c, d⟩ := c
  exact ⟨f, fd, a, b, c, d.imp (toSp_imp h _ _ _ _)⟩
theorem Cal.mono (c : Cal P w K mg base k x st ps sp) (h : k ≤ j) : Cal P w K mg base j x st ps sp := by
  obtain ⟨f, fd, a, b, c, d⟩ := c
  exact ⟨f, fd, a, b, c, d.mono h⟩
/-- THE RULE for a def of the module -/
theorem calD {N : List Str} (T : DefAt K mg x st ps) (Sc : FnScope N ps (defScope st))
    (hbody : ∀ (f : Addr) (cdv : Value) (A : Around) (outer : List PySem.Env) (s : Shared) (H : Hp) (E : XK), Rm k (A.deeper (PyProof.Rows.envOfC x (defScope st) s.heap.objs.size f cdv)) →
      ∃ g, GSs (cxOf (L2.CX P w) P w K mg base N x (defScope st) f cdv A outer s H E) (fun cls d _ H => E cls d H) (defBody st) g ∧
        ∀ ds W Qd Qx, ds.length = ps.length → sp ds W Qd Qx → g { nx := fun _ W' => Qd .non W', rt := Qd, ex := fun cls x _ W' => Qx cls x W' } (ds.map (fun d => some (Sl.sh d)) ++ List.replicate (N.length - ds.length) none) W) :
    Cal P w K mg base (k + 1) x st ps sp := by
  obtain ⟨f, fd, a, b, c⟩ := T
  exact ⟨f, fd, a, b, c, okD b Sc (hbody f)⟩
end
section
variable {X : Cx} {Wx : WX} {e : Expr} {es : List Expr} {fl : TL} {p pos : Pos} {k j n : Nat} {x : Str} {st : Stmt} {ps : List Str} {sp : SpD}
theorem ge_c (tk : Takes X Wx) (c : Cal X.prog X.w X.K X.mg X.base k x st ps sp) (hr : Rm j X.A) (hk : k ≤ j) (ha : GA X Wx (e :: es) fl) (hn : ps.length = n := by rfl) (hg : Gl X x := by rfl) (hdb : (x == ("__debug__" : Str)) = false := by decide) (he : starEach (e :: es) X.env = (false, eval e X.env) :: starEach es X.env := by rfl) (hpl : (backTo pos (starEach es X.env)).any (·.1) = false := by rfl) :
    GE X Wx (.Call (.Name x p) (e :: es) [] pos) (dCall sp n fl) := by
  obtain ⟨f, fd, a, b, c, d⟩ := c
  subst hn
  exact ge_call tk d (hr.less hk) hg a b.kp c ha hdb he hpl
/-- keywords -/
def GK (X : Cx) (Wx : WX) (kws : List Keyword) (f : TL) : Prop := ∃ te, PK X kws te ∧ SndL X.K Wx te f
variable {nm : Option Str} {kpos : Pos} {fe : TD} {kws : List Keyword}
theorem gk_nil : GK X Wx [] dNil := ⟨_, pk_nil, fun F S H σ ρ W Q Qx R cf hf hx hE => hE S H ρ W [] [] .refl cf Reps.nil hf⟩
theorem gk_cons (he : GE X Wx e fe) (ha : GK X Wx kws fl) : GK X Wx (⟨nm, e, kpos⟩ :: kws) (dCons fe fl) := by
  obtain ⟨te, pe, se⟩ := he
  obtain ⟨ta, pa, sa⟩ := ha
  exact ⟨_, pk_cons pe pa, snd_cons se sa⟩
/-- the values ix of l -/
def pick {α : Type} (ix : List Nat) (l : List α) : List α := ix.filterMap (l[·]?)
theorem vals_pick {zs : List V} {ws : List Value} (r : Vals zs ws) : ∀ ix : List Nat, Vals (pick ix zs) (pick ix ws)
  | [] => .nil
  | i :: ix => by
    unfold pick
    rw [List.filterMap_cons, List.filterMap_cons]
    cases e : zs[i]? with
    | none => rw [r.none_of e]; exact vals_pick r ix
    | some v =>
      obtain ⟨u, h1, h2⟩ := r.get e
      rw [h1]
      exact .cons h2 (vals_pick r ix)
theorem reps_pick {K : PySem.W.Frag} {S : Reg} {H : Hp} {ds : List D} {vs : List V} (r : Reps K S H ds vs) : ∀ ix : List Nat, Reps K S H (pick ix ds) (pick ix vs)
  | [] => Reps.nil
  | i :: ix => by
    unfold pick
    rw [List.filterMap_cons, List.filterMap_cons]
    cases e : ds[i]? with
    | none =>
      have : vs[i]? = none := by
        rw [List.getElem?_eq_none_iff] at e ⊢
        rw [r.length]; exact e
      rw [this]; exact reps_pick r ix
    | some v =>
      obtain ⟨u, h1, h2⟩ := r.get e
      rw [h1]
      exact Reps.cons h2 (reps_pick r ix)
def dCallK (sp : SpD) (n m : Nat) (ix : List Nat) (fl : TL) : TD := fun ρ W Q Qx => fl ρ W (fun ds ρ' W' => ds.length = m ∧ (pick ix ds).length = n ∧ sp (pick ix ds) W' (fun d W2 => Q d ρ' W2) (fun cls x W2 => False)) Qx
/-- f(k = e, ..), every argument by its name; nothing is raised -/
theorem ge_ck {ks : List Str} {m : Nat} (ix : List Nat) (c : Cal X.prog X.w X.K X.mg X.base k x st ps sp) (hr : Rm j X.A) (hk : k ≤ j)
    (hb : ∀ (kV doc pm : Value) (an : Option Addr) (cdv ct : Value) (ws : List Value), ws.length = ks.length → bindArgs (PySem.W.fnOf x x (defArgs st) (defBody st) (defScope st) .none kV doc pm an cdv ct) ⟨[], ks.zip ws⟩ = pure (ps.zip (pick ix ws)))
    (ha : GK X Wx kws fl) (hm : ks.length = m := by rfl) (hn : ps.length = n := by rfl) (hall : (backToKw pos (keywordEach kws X.env)).all (·.1.isSome) = true := by rfl) (hks : (backToKw pos (keywordEach kws X.env)).filterMap (·.1) = ks := by rfl) (hg : Gl X x := by rfl) (hdb : (x == ("__debug__" : Str)) = false := by decide)
    (hpl : ((backTo pos (starEach [] X.env)).any (·.1) || (backToKw pos (keywordEach kws X.env)).any (·.1.isNone)) = false := by rfl) :
    GE X Wx (.Call (.Name x p) [] kws pos) (dCallK sp n m ix fl) := by
  obtain ⟨f, fd, hmg, hF, hB, hf⟩ := c
  obtain ⟨ta, pa, sa⟩ := ha
  subst hn
  let te : TE := fun σ H Q => ta σ H fun zs H2 => zs.length = ks.length ∧ toSp X.K ps.length sp (pick ix zs) H2 Q E0
  refine ⟨te, ⟨fun pins s σ H Q I h => ?_⟩, ?_⟩
  · refine wpAny_Call_Name_kw (ld_glob I hg hmg ?_ hdb)
    refine PySem.W.callWith_KW0 (h₀ := X.base) I.ok.mod.kin hF.kp hall ?_ hpl
    refine thn (pa.run pos pins s σ H _ I h) fun ws s2 ⟨zs, H2, I2, rz, l2, q2⟩ => ⟨I2.kIn, ?_⟩
    rw [hks]
    obtain ⟨oc, od, kV, doc, pm, an, cdv, ct, osl, rfl, lk, hcd⟩ := hF.ex
    have hr2 := vals_pick rz ix
    have hbt := BindsTo.of_eq (s := s2) (hb kV doc pm an cdv ct ws (by rw [← rz.length, l2]))
    refine wpAny_call (codeAny_mono (hf.go (hr.less hk) I2.env0 hbt hr2 q2) fun r s' hq => ?_)
    cases r with
    | error e => exact (passL (X := X) pins σ H2 s2 e s' I2 hq)
    | ok fl =>
      cases fl with
      | ret u => exact I2.after hq
      | next => exact False.elim hq
      | brk => exact False.elim hq
      | cont => exact False.elim hq
  · intro F S H σ ρ W Q Qx R cf hf' hx hE
    refine sa F S H σ ρ W _ Qx _ cf hf' hx fun S1 H1 ρ1 W1 ds vs e1 c1 r1 q1 => ?_
    obtain ⟨q0, q1, q2⟩ := q1
    refine ⟨by rw [r1.length, q0, hm], _, S1, W1, pick ix ds, _, _, c1.below, reps_pick r1 ix, q1, q2, fun S' H' W' d v e' b r q => ?_, fun S' H' W' cls x od e' b xr q => q.elim⟩
    exact hE S' H' ρ1 W' d v (e1.trans (e'.mono fun _ h => .inl h)) (c1.back e' b) r q
end

/-! ### the end -/
/-- the surroundings at the head: what is not tracked is the base -/
theorem env_top {P : Program} {w : World} {K : PySem.W.Frag} {mg mb : Str → Option Value} {a : Addr} {s₁ : Shared} {items : Array Value} {H : Hp} (inK : K.In s₁.heap) (ng : s₁.heap.Ns mainGlobals mg) (nb : s₁.heap.Ns builtinsNs mb) (hbb : ∀ x : Str, x ≠ "__name__" → mb x = bootBuiltins x)
    (hlim : s₁.heap.NoLimit) (hg : s₁.gens = #[]) (at_a : s₁.heap.get? a = some { cls := .type "list", data := .seq items }) (ok : HOk P w H s₁.heap) (one : ∀ b, b ≠ a → H b = none) (own : H a ≠ none → K.lookup a = none) :
    Env0 P w K mg (hidT s₁.heap H) callerA [] s₁ H ∧ K.In (hidT s₁.heap H) ∧ (hidT s₁.heap H).Ns mainGlobals mg := by
  have names : ∀ {b : Addr} {m : Str → Option Value}, s₁.heap.Ns b m → (hidT s₁.heap H).Ns b m := by
    rintro b m ⟨o, es, ep, hb, hd, hr⟩
    have ne : b ≠ a := by
      rintro rfl
      have z := at_a.symm.trans hb
      injection z with z
      rw [← z] at hd
      cases hd
    exact ⟨o, es, ep, hidT_get hb (one b ne), hd, hr⟩
  have k2 : K.In (hidT s₁.heap H) := by
    intro b o hb
    refine hidT_get (inK b o hb) ?_
    by_cases e : b = a
    · by_cases q : H a = none
      · rw [e]; exact q
      · have z := own q
        rw [e, z] at hb
        cases hb
    · exact one b e
  obtain ⟨mc, l1, l2⟩ := hlim
  exact ⟨⟨rfl, ⟨k2, names ng, ⟨mb, names nb, hbb⟩, ⟨mc, names l1, l2⟩⟩, fun _ _ e => of_hidT e, Nat.le_of_eq (hidT_size _ _), trivial, (fun b z => nomatch (show b ∈ ([] : List Addr) from z)), ok, .of_eq hg⟩, k2, names ng⟩
theorem law_callG {P : Program} {w : World} {K : PySem.W.Frag} {mg mb : Str → Option Value} {k : Nat} {fa a : Addr} {fd : FuncData} {x : Str} {sp : Sp} {s₁ : Shared} {vs : List Value} {ns : List Int} (inK : K.In s₁.heap) (ng : s₁.heap.Ns mainGlobals mg) (nb : s₁.heap.Ns builtinsNs mb)
    (hbb : ∀ x : Str, x ≠ "__name__" → mb x = bootBuiltins x) (hlim : s₁.heap.NoLimit) (hg : s₁.gens = #[]) (at_a : s₁.heap.get? a = some { cls := .type "list", data := .seq vs.toArray }) (hints : PyProof.Rows.IntsAre vs ns) (small : ns.length ≤ sizeLine) (rm : Rm k callerA)
    (F : ∀ base : Heap, K.In base → base.Ns mainGlobals mg → FnG P w K mg base k fa fd [x] sp) (bnd : ∀ (s : Shared) (u : Value), BindsTo s fd ⟨[u], []⟩ [(x, u)])
    (hsp : ∀ H : Hp, Only H → SqL K H a (ns.map V.int) → sp [.ref a] H (fun v _ => v = .bl true) fun _ _ _ => False) :
    codeAny (model P w) callerA (.call (.ref fa) ⟨[.ref a], []⟩) (fun r s' => r = .ok (.ret (.bool true)) ∧ OldK s₁.heap s'.heap ∧ s'.os = s₁.os ∧ PyProof.Rows.AllBare s'.gens) s₁ := by
  have hv : Vals (ns.map V.int) vs := vals_ints hints
  have go : ∀ H : Hp, Only H → SqL K H a (ns.map V.int) → HOk P w H s₁.heap → (∀ b, b ≠ a → H b = none) → (H a ≠ none → K.lookup a = none) →
      codeAny (model P w) callerA (.call (.ref fa) ⟨[.ref a], []⟩) (fun r s' => r = .ok (.ret (.bool true)) ∧ OldK s₁.heap s'.heap ∧ s'.os = s₁.os ∧ PyProof.Rows.AllBare s'.gens) s₁ := by
    intro H only sq ok one own
    obtain ⟨e0, k2, n2⟩ := env_top inK ng nb hbb hlim hg at_a ok one own
    refine codeAny_mono ((F _ k2 n2).go rm e0 (args := ⟨[.ref a], []⟩) (us := [.ref a]) (vs := [.ref a]) (bnd s₁ (.ref a)) (.cons rfl .nil) (hsp H only sq)) fun r s' z => ?_
    match r, z with
    | .ok (.ret u), ⟨v, H2, os, bare, un, ok2, rel, ev⟩ =>
      have ev : v = .bl true := ev
      rw [ev] at rel
      have eu : u = Value.bool true := rel
      rw [eu]
      refine ⟨rfl, OldK.of_keep fun b o hb => ?_, os, bare⟩
      rcases only b with q | ⟨ob, xs, q⟩
      · exact un.keep b o hb q (fun z => nomatch (show b ∈ ([] : List Addr) from z)) (by simp)
      · have e1 := (ok b _ q).1
        have e2 := (ok2 b _ (un.frzs b ob _ q)).1
        rw [← e1.symm.trans hb]
        exact e2
    | .error e, z =>
      obtain ⟨_, _, _, _, _, _, _, _, _, _, _, _, no⟩ := z
      exact no.elim
    | .ok .next, z => exact z.elim
    | .ok .brk, z => exact z.elim
    | .ok .cont, z => exact z.elim
  have len : (ns.map V.int).length ≤ sizeLine := by rw [List.length_map]; exact small
  by_cases q : ∃ o, K.lookup a = some o
  · obtain ⟨o, q⟩ := q
    have e := at_a.symm.trans (inK a o q)
    injection e with e
    subst e
    exact go (fun _ => none) (fun _ => .inl rfl) (.inr ⟨_, vs.toArray, _, q, rfl, rfl, rfl, by rw [List.size_toArray, hints.length]; exact small, by simpa using hv⟩) (fun b u z => by cases (show (none : Option HO) = some u from z)) (fun _ _ => rfl) fun z => (z rfl).elim
  · have q : K.lookup a = none := by
      cases z : K.lookup a with
      | none => rfl
      | some o => exact (q ⟨o, z⟩).elim
    let o : Obj := { cls := .type "list", data := .seq vs.toArray }
    let H : Hp := fun b => if b = a then some (.frz o (.lst (ns.map V.int))) else none
    have ha : H a = some (.frz o (.lst (ns.map V.int))) := if_pos rfl
    have hn : ∀ b, b ≠ a → H b = none := fun b e => if_neg e
    refine go H (fun b => ?_) (.inl (.inr ⟨o, ha⟩)) (fun b u z => ?_) hn fun _ => q
    · by_cases e : b = a
      · rw [e]; exact .inr ⟨o, _, ha⟩
      · exact .inl (hn b e)
    · by_cases e : b = a
      · rw [e] at z ⊢
        have z := ha.symm.trans z
        injection z with z
        rw [← z]
        exact ⟨at_a, len, vs, _, hv, at_a⟩
      · rw [hn b e] at z
        cases z
theorem walkX {l : PySem.W.OpenLaw} {n k : Nat} {q : Program} {loose : List Str} {XP : (Str → Option Value) → Heap → Prop} {YP : World → Heap → Prop} {d : DefRec} {K : PySem.Params → PySem.W.Frag} {sp : World → Sp} {x : Str}
    (hn : l.most = some n) (hn2 : n ≤ sizeLine) (hdf : d.params.defaults = []) (hr : Rm k callerA)
    (hY : ∀ (w : World) (h : Heap), YP w h → (K w.params).In h)
    (F : ∀ (w : World) (mg : Str → Option Value) (fa : Addr) (h : Heap), XP mg h → (K w.params).In h → h.Ns mainGlobals mg → mg d.name = some (.ref fa) →
      ∃ fd : FuncData, (∀ (s : Shared) (u : Value), BindsTo s fd ⟨[u], []⟩ [(x, u)]) ∧ ∀ base : Heap, (K w.params).In base → base.Ns mainGlobals mg → FnG l.prog w (K w.params) mg base k fa fd [x] (sp w))
    (hsp : ∀ (w : World) (H : Hp) (a : Addr) (ns : List Int), ns.length ≤ n → (∀ z ∈ ns, Builtin.Int.intBits z ≤ 1048576) → Only H → SqL (K w.params) H a (ns.map V.int) → sp w [.ref a] H (fun v _ => v = .bl true) fun _ _ _ => False) :
    PySem.W.WalkO q loose XP YP l.row.toRowW d [] (fun f vs => PySem.call f vs) := by
  refine Att.attach_callB hn hdf fun w s₀ s₁ mg mb fa o pm cd doc a vs ns GG Y ho hd hcd hmg hobj hints hlen hbits hg => ?_
  obtain ⟨fd, hb, hF⟩ := F w mg fa _ GG.X (hY w _ Y) GG.T.g hmg
  exact law_callG (hY w _ Y) GG.T.g GG.T.b GG.T.builtins GG.T.nolimit hg hobj hints (Nat.le_trans hlen hn2) hr hF hb (fun H hO hS => hsp w H a ns hlen hbits hO hS)
/-- a law: of a script of at most 63 numbers of at most 2 ^ 20 bits it gives True -/
def spTrue : SpD := fun ds _ Q _ => ∃ ns : List Int, ds = [.scr ns] ∧ ns.length ≤ 63 ∧ (∀ z ∈ ns, Builtin.Int.intBits z ≤ 1048576) ∧ ∀ W, Q (.bl true) W
theorem toSp_true {K : PySem.W.Frag} {H : Hp} {a : Addr} {ns : List Int} (h1 : ns.length ≤ 63) (h2 : ∀ z ∈ ns, Builtin.Int.intBits z ≤ 1048576) (hS : SqL K H a (ns.map V.int)) : toSp K 1 spTrue [.ref a] H (fun v _ => v = .bl true) fun _ _ _ => False := by
  have cb : Cb K (fun _ => False) (fun _ => False) H (fun _ => none) := ⟨fun _ h => h.elim, fun _ h => h, fun _ _ h => by cases h⟩
  refine ⟨_, _, _, [.scr ns], fun d _ => d = .bl true, fun _ _ _ => False, cb, Reps.cons (Rep.scr_iff.mpr ⟨a, rfl, ?_⟩) Reps.nil, rfl, ⟨ns, rfl, h1, h2, fun _ => rfl⟩, fun S' H' W' d v _ _ r e => ?_, fun _ _ _ _ _ _ _ _ _ h => h⟩
  · rcases hS with h | h
    · exact .inl ⟨h, fun z => z⟩
    · exact .inr (.inr h)
  · subst e
    exact Rep.v_iff.mp r
theorem cx_none {P : Program} {w : World} {H : Hp} {s s' : Shared} {e : Value} (h : L2.CX P w [] H s (fun _ _ _ => False) e s') : False := by
  obtain ⟨_, _, _, _, _, _, _, _, _, _, _, _, h⟩ := h
  exact h
/-- what a top reckoned -/
theorem loose_int {lv : List (Str × PySem.W.WData)} {p : Program} {mg : Str → Option Value} {h : Heap} {x : Str} {n : Int} (X : PySem.W.XL p lv mg h) (m : (x, PySem.W.WData.int n) ∈ lv) : ∃ u, mg x = some u ∧ RelV (.int n) u := by
  obtain ⟨v, h1, h2⟩ := X.2.val _ m
  refine ⟨v, h1, ?_⟩
  cases h2
  exact ⟨_, rfl⟩
end G

namespace G
open PySem PySem.Spec L2
section
variable {K : PySem.W.Frag}
/-! ### operators of several kinds at once -/
def dSub : D → D → (D → Prop) → Prop := d2J fun i j => .int (i - j)
def dFdv : D → D → (D → Prop) → Prop := d2I CDivW fun i j => .int (i / j)
def dMod : D → D → (D → Prop) → Prop := d2I (fun _ j => 0 < j) fun i j => .int (i % j)
def dPow : D → D → (D → Prop) → Prop := d2I CPow fun i j => .int (i ^ j.toNat)
def dMulA : D → D → (D → Prop) → Prop := fun d e Q => match d, e with
  | .v (.int i), .v (.int j) => CMulX i j ∧ Q (.int (i * j))
  | .lst i, .v (.int j) => -(2 ^ 63) ≤ j ∧ j < 2 ^ 63 ∧ i.length * j.toNat ≤ sizeLine ∧ Q (.lst (List.replicate j.toNat i).flatten)
  | .v (.str s), .v (.int n) => -(2 ^ 63) ≤ n ∧ n < 2 ^ 63 ∧ s.length * n.toNat ≤ sizeLine ∧ Q (.str (repS s n))
  | _, _ => False
def rMulA : R2 := fun x y H Q => (rI CMulX (fun i j => .int (i * j)) x y H Q ∨ rRep x y H Q) ∨ rRepS x y H Q
theorem rs_mulA : RSnd K rMulA dMulA := rs_imp (rs_or rs_mul rs_repS) fun d e Q h => by
  unfold dMulA at h
  split at h
  · exact .inl h
  · exact .inl h
  · exact .inr h
  · exact h.elim
theorem op_mulAll {X : Cx} : OpR X (binaryOp .Mult) rMulA := op_mulA.or op_repS
/-- the order of texts -/
def ltS (a b : Str) : Bool := decide (a.cps.toList < b.cps.toList)
def leS (a b : Str) : Bool := decide (a.cps.toList ≤ b.cps.toList)
def dCmp (g : Int → Int → Bool) (h : Str → Str → Bool) : D → D → (D → Prop) → Prop := fun d e Q => match d, e with
  | .v (.int i), .v (.int j) => Q (.bl (g i j))
  | .v (.str i), .v (.str j) => Q (.bl (h i j))
  | _, _ => False
def rCmp (g : Int → Int → Bool) (h : Str → Str → Bool) : R2 := fun x y H Q => rI0 (fun i j => .bl (g i j)) x y H Q ∨ (fun x y H Q => ∃ i j, x = .str i ∧ y = .str j ∧ Q (.bl (h i j)) H) x y H Q
theorem rs_cmp {g : Int → Int → Bool} {h : Str → Str → Bool} : RSnd K (rCmp g h) (dCmp g h) :=
  rs_imp (rs_or (rs_J (g := fun i j => .bl (g i j))) (rs_S (g := fun i j => .bl (h i j)))) fun d e Q q => by
    unfold dCmp at q
    split at q
    · exact .inl q
    · exact .inr q
    · exact q.elim
abbrev dLt := dCmp (fun i j => decide (i < j)) ltS
abbrev dLe := dCmp (fun i j => decide (i ≤ j)) (fun a b => !ltS b a)
abbrev dGt := dCmp (fun i j => decide (j < i)) (fun a b => ltS b a)
abbrev dGe := dCmp (fun i j => decide (j ≤ i)) (fun a b => !ltS a b)
end
section
variable {X : Cx}
theorem op_ltA : OpR X (compareOp .Lt) (rCmp (fun i j => decide (i < j)) ltS) := OpR.or op_lt op_lt_str
theorem op_leA : OpR X (compareOp .LtE) (rCmp (fun i j => decide (i ≤ j)) (fun a b => !ltS b a)) := OpR.or op_le op_le_str
theorem op_gtA : OpR X (compareOp .Gt) (rCmp (fun i j => decide (j < i)) (fun a b => ltS b a)) := OpR.or op_gt op_gt_str
theorem op_geA : OpR X (compareOp .GtE) (rCmp (fun i j => decide (j ≤ i)) (fun a b => !ltS a b)) := OpR.or op_ge op_ge_str
end
end G

namespace G
open PySem PySem.Spec L2
/-! ### readings in short -/
abbrev noX : KX := fun _ _ _ _ => False
/-- a def's reading keeps the promise -/
abbrev Rd (N : List Str) (m : Nat) (sp : SpD) (d : TSD) : Prop := ∀ ds W Qd Qx, ds.length = m → sp ds W Qd Qx → d { nx := fun _ W' => Qd .non W', rt := Qd, ex := fun cls x _ W' => Qx cls x W' } (ds.map (fun d => some (Sl.sh d)) ++ List.replicate (N.length - ds.length) none) W
/-- a comprehension by what holds of the list so far -/
theorem dLc_inv {fi : TID} {gd : TGD} {ft : TB} {fe : TD} {vs : List Nat} {ρ : Env} {W : Wd} {Q : KL} {Qx : KX} (ds : List D) (W0 : Wd) (I : Nat → List D → Wd → Prop) (hno : noOwn ρ vs) (hl : ds.length ≤ sizeLine) (hi : ∀ P : KL, P ds ρ W0 → fi ρ W P Qx) (h0 : I 0 [] W0)
    (hs : ∀ (i : Nat) d acc W, ds[i]? = some d → acc.length ≤ i → I i acc W → gd d (wipeD ρ vs) W fun ρ1 W1 => ft ρ1 W1 (fun b ρ2 W2 => ρ2 = ρ1 ∧ if b = true then fe ρ1 W2 (fun y ρ3 W3 => ρ3 = ρ1 ∧ I (i + 1) (acc ++ [y]) W3) noX else I (i + 1) acc W2) noX)
    (hd : ∀ acc W, acc.length ≤ ds.length → I ds.length acc W → Q acc ρ W) : dLc fi gd ft fe vs ρ W Q Qx := by
  unfold dLc
  exact ⟨hno, hi _ ⟨rfl, hl, I, h0, hs, hd⟩⟩
/-- every item gives one, the state is as it was -/
theorem dLc_map {fi : TID} {fe : TD} {i : Nat} {ρ : Env} {W : Wd} {Q : KL} {Qx : KX} (ds : List D) (g : D → D) (hno : noOwn ρ [i]) (hl : ds.length ≤ sizeLine) (hi : ∀ P : KL, P ds ρ W → fi ρ W P Qx)
    (he : ∀ d ∈ ds, ∀ P : KD, P (g d) ((ρ.set i none).set i (some (.sh d))) W → fe ((ρ.set i none).set i (some (.sh d))) W P noX) (hq : Q (ds.map g) ρ W) : dLc fi (gdName i) dYes fe [i] ρ W Q Qx := by
  refine dLc_inv ds W (fun j acc W' => W' = W ∧ acc = (ds.take j).map g) hno hl hi ⟨rfl, by simp⟩ (fun j d acc W' hj _ hI => ?_) (fun acc W' _ hI => ?_)
  · obtain ⟨rfl, rfl⟩ := hI
    refine ⟨rfl, ?_⟩
    show fe _ W' _ noX
    refine he d (List.mem_of_getElem? hj) _ ⟨rfl, rfl, ?_⟩
    have hlt := (List.getElem?_eq_some_iff.mp hj).1
    rw [List.take_add_one, hj]
    simp
  · obtain ⟨rfl, rfl⟩ := hI
    rw [List.take_length]
    exact hq
/-- .. with a test -/
theorem dLc_filter {fi : TID} {ft : TB} {fe : TD} {i : Nat} {ρ : Env} {W : Wd} {Q : KL} {Qx : KX} (ds : List D) (p : D → Bool) (g : D → D) (hno : noOwn ρ [i]) (hl : ds.length ≤ sizeLine) (hi : ∀ P : KL, P ds ρ W → fi ρ W P Qx)
    (ht : ∀ d ∈ ds, ∀ P : KB, P (p d) ((ρ.set i none).set i (some (.sh d))) W → ft ((ρ.set i none).set i (some (.sh d))) W P noX)
    (he : ∀ d ∈ ds, p d = true → ∀ P : KD, P (g d) ((ρ.set i none).set i (some (.sh d))) W → fe ((ρ.set i none).set i (some (.sh d))) W P noX) (hq : Q ((ds.filter p).map g) ρ W) : dLc fi (gdName i) ft fe [i] ρ W Q Qx := by
  refine dLc_inv ds W (fun j acc W' => W' = W ∧ acc = ((ds.take j).filter p).map g) hno hl hi ⟨rfl, by simp⟩ (fun j d acc W' hj _ hI => ?_) (fun acc W' _ hI => ?_)
  · obtain ⟨rfl, rfl⟩ := hI
    have hm := List.mem_of_getElem? hj
    refine ht d hm _ ⟨rfl, ?_⟩
    cases hp : p d with
    | true =>
      rw [if_pos rfl]
      refine he d hm hp _ ⟨rfl, rfl, ?_⟩
      rw [List.take_add_one, hj]
      simp [hp]
    | false =>
      rw [if_neg Bool.false_ne_true]
      refine ⟨rfl, ?_⟩
      rw [List.take_add_one, hj]
      simp [hp]
  · obtain ⟨rfl, rfl⟩ := hI
    rw [List.take_length]
    exact hq
/-- each turn keeps the state's word S and gives an item of which A holds -/
theorem dLc_each {fi : TID} {fe : TD} {i : Nat} {ρ : Env} {W : Wd} {Q : KL} {Qx : KX} (ds : List D) (S : Nat → Wd → Prop) (A : D → Prop) (hno : noOwn ρ [i]) (hl : ds.length ≤ sizeLine) (W0 : Wd) (hi : ∀ P : KL, P ds ρ W0 → fi ρ W P Qx) (h0 : S 0 W0)
    (he : ∀ (j : Nat) d W, ds[j]? = some d → S j W → ∀ P : KD, (∀ y W', A y → S (j + 1) W' → P y ((ρ.set i none).set i (some (.sh d))) W') → fe ((ρ.set i none).set i (some (.sh d))) W P noX)
    (hq : ∀ ys W', ys.length = ds.length → (∀ y ∈ ys, A y) → S ds.length W' → Q ys ρ W') : dLc fi (gdName i) dYes fe [i] ρ W Q Qx := by
  refine dLc_inv ds W0 (fun j acc W' => S j W' ∧ acc.length = j ∧ ∀ y ∈ acc, A y) hno hl hi ⟨h0, rfl, by simp⟩ (fun j d acc W' hj _ hI => ?_) (fun acc W' _ hI => hq acc W' hI.2.1 hI.2.2 hI.1)
  refine ⟨rfl, ?_⟩
  show fe _ W' _ noX
  refine he j d W' hj hI.1 _ fun y W2 ha hs => ⟨rfl, hs, by simp [hI.2.1], fun z hz => ?_⟩
  rcases List.mem_append.mp hz with hz | hz
  · exact hI.2.2 z hz
  · rw [List.mem_singleton.mp hz]; exact ha
theorem iScr_of {fe : TD} {ρ : Env} {W : Wd} {P : KL} {Qx : KX} {ns : List Int} (h : fe ρ W (fun d ρ' W' => match d with | .scr ns => P (ns.map D.int) ρ' W' | _ => False) Qx) : iScr fe ρ W P Qx := h
/-- == of the same data -/
theorem eqD_self {d : D} {n : Nat} (g : D.good n d = true) : eqD d d = true := by
  unfold eqD
  exact SeqAt.eqv_refl _ (lay_of g).1
/-! ### texts as lists of signs -/
def mkS (l : List Nat) : Str := ⟨l.toArray⟩
theorem tl_mkS (l : List Nat) : TL.tl (mkS l) = l := rfl
theorem mkS_tl (s : Str) : mkS (TL.tl s) = s := TL.mk_tl s
theorem len_mkS (l : List Nat) : (mkS l).length = l.length := by simp [mkS, Str.length]
theorem str_eq {s : Str} {l : List Nat} (h : TL.tl s = l) : s = mkS l := by rw [← h, mkS_tl]
theorem mkS_inj {l m : List Nat} : mkS l = mkS m ↔ l = m := ⟨fun h => by have := congrArg TL.tl h; exact this, fun h => by rw [h]⟩
theorem one_mkS (c : Nat) : (⟨#[c]⟩ : Str) = mkS [c] := rfl
theorem app_mkS (a b : List Nat) : mkS a ++ mkS b = mkS (a ++ b) := str_eq (by rw [TL.tl_append]; rfl)
theorem take_drop_min (l : List Nat) (a b : Nat) : (l.drop (min a l.length)).take (min b l.length - min a l.length) = (l.drop a).take (b - a) := by
  by_cases ha : a ≤ l.length
  · rw [Nat.min_eq_left ha]
    by_cases hb : b ≤ l.length
    · rw [Nat.min_eq_left hb]
    · rw [Nat.min_eq_right (by omega)]
      rw [List.take_of_length_le (by rw [List.length_drop]; omega), List.take_of_length_le (by rw [List.length_drop]; omega)]
  · rw [Nat.min_eq_right (by omega : l.length ≤ a), List.drop_length, List.drop_of_length_le (by omega : l.length ≤ a)]
    simp
theorem len_tl' (s : Str) : s.length = (TL.tl s).length := TL.len_tl s
theorem cut_ab (s : Str) (a b : Nat) : cutS s (some (a : Int)) (some (b : Int)) = mkS (((TL.tl s).drop a).take (b - a)) := by
  unfold cutS
  rw [HT.sIx_nat, HT.sIx_nat, len_tl', take_drop_min]
  rfl
theorem cut_a (s : Str) (a : Nat) : cutS s (some (a : Int)) none = mkS ((TL.tl s).drop a) := by
  unfold cutS
  rw [HT.sIx_nat, HT.sIx_none, len_tl']
  have := take_drop_min (TL.tl s) a (TL.tl s).length
  rw [Nat.min_self] at this
  rw [show s.cps.toList = TL.tl s from rfl, this]
  by_cases ha : a ≤ (TL.tl s).length
  · rw [List.take_of_length_le (by rw [List.length_drop]; omega)]; rfl
  · rw [List.drop_of_length_le (by omega)]; simp [mkS]
theorem cut_b (s : Str) (b : Nat) : cutS s none (some (b : Int)) = mkS ((TL.tl s).take b) := by
  unfold cutS
  rw [HT.sIx_nat, HT.sIx_none, len_tl']
  have := take_drop_min (TL.tl s) 0 b
  rw [Nat.zero_min] at this
  rw [show s.cps.toList = TL.tl s from rfl, this]
  simp [mkS]
theorem rep_mkS (s : Str) (n : Nat) : repS s (n : Int) = mkS (List.replicate n (TL.tl s)).flatten := by
  unfold repS
  rw [Int.toNat_natCast]; rfl
theorem ltS_mk (a b : List Nat) : ltS (mkS a) (mkS b) = decide (a < b) := rfl
theorem ltS_one (c d : Nat) : ltS (mkS [c]) (mkS [d]) = decide (c < d) := by
  rw [ltS_mk]
  by_cases h : c < d
  · rw [decide_eq_true h, decide_eq_true]
    exact List.Lex.rel h
  · rw [decide_eq_false h, decide_eq_false]
    intro q
    rw [List.cons_lt_cons_iff] at q
    rcases q with q | ⟨_, q⟩
    · exact h q
    · exact absurd q (List.not_lt_nil _)
theorem signs_mk (s : Str) : signs s = (TL.tl s).map fun c => D.str (mkS [c]) := rfl
theorem atI_of {α : Type} {l : List α} {i : Nat} {x : α} (h : l[i]? = some x) : atI l (i : Int) = some x := atI_nat h
theorem sz (n : Nat) (h : n ≤ 16777216) : n ≤ sizeLine := Nat.le_trans h (by decide)
theorem noOwn1 {ρ : Env} {i : Nat} (h : ∀ o, ρ[i]? ≠ some (some (.om o))) : noOwn ρ [i] := fun j hj ds => by
  rw [List.mem_singleton.mp hj]; exact h ds
theorem all_map_true {α : Type} (l : List α) : ∃ bs, blsOf (l.map fun _ => D.bl true) = some bs ∧ bs.all id = true := by
  induction l with
  | nil => exact ⟨[], rfl, rfl⟩
  | cons a r ih =>
    obtain ⟨bs, h1, h2⟩ := ih
    exact ⟨true :: bs, by simp [blsOf, h1], by simpa using h2⟩
theorem bls_map {α : Type} (l : List α) (p : α → Bool) : blsOf (l.map fun x => D.bl (p x)) = some (l.map p) := by
  induction l with
  | nil => rfl
  | cons a r ih => simp [blsOf, ih]
end G
namespace G
open PySem PySem.Spec L2
theorem dFor_mk {fi : TID} {gd : TGD} {fb : TSD} {De : EndsD} {ρ : Env} {W : Wd} (h : fi ρ W (fun ds ρ0 W0 => ∃ I : Nat → Env → Wd → Prop, I 0 ρ0 W0 ∧
  (∀ (i : Nat) d ρ W, ds[i]? = some d → I i ρ W → gd d ρ W fun ρ' W' => fb { De with nx := I (i + 1), ct := I (i + 1), bk := De.nx } ρ' W') ∧ ∀ ρ W, I ds.length ρ W → De.nx ρ W) De.ex) : dFor fi gd fb De ρ W := by unfold dFor; exact h
theorem dFor_of {fi : TID} {gd : TGD} {fb : TSD} {De : EndsD} {ρ : Env} {W : Wd} (ds : List D) (I : Nat → Env → Wd → Prop) (hi : ∀ P : KL, P ds ρ W → fi ρ W P De.ex) (h0 : I 0 ρ W)
    (hs : ∀ (i : Nat) d ρ W, ds[i]? = some d → I i ρ W → gd d ρ W fun ρ' W' => fb { De with nx := I (i + 1), ct := I (i + 1), bk := De.nx } ρ' W') (hd : ∀ ρ W, I ds.length ρ W → De.nx ρ W) : dFor fi gd fb De ρ W :=
  dFor_mk (hi _ ⟨I, h0, hs, hd⟩)
theorem dWhile_of {fc : TB} {fb : TSD} {De : EndsD} {ρ : Env} {W : Wd} (I : Nat → Env → Wd → Prop) (m : Nat) (h0 : I m ρ W) (hs : ∀ m ρ W, I m ρ W → fc ρ W (fun b ρ' W' => if b = true then
  fb { De with nx := fun ρ2 W2 => ∃ m', m' < m ∧ I m' ρ2 W2, ct := fun ρ2 W2 => ∃ m', m' < m ∧ I m' ρ2 W2, bk := De.nx } ρ' W' else De.nx ρ' W') De.ex) : dWhile fc fb De ρ W := by unfold dWhile; exact ⟨I, ⟨m, h0⟩, hs⟩

theorem dEq_str {a b : Str} {Q : D → Prop} (h : Q (.bl (decide (a = b)))) : dEq (.str a) (.str b) Q := by
  have : decide (V.str a = V.str b) = decide (a = b) := by
    rw [Bool.eq_iff_iff, decide_eq_true_eq, decide_eq_true_eq]
    exact ⟨fun h => by injection h, fun h => by rw [h]⟩
  unfold dEq
  show (if scal _ _ = true then _ else _)
  rw [if_pos (rfl : scal _ _ = true), this]
  exact h
theorem dEq_int {a b : Int} {Q : D → Prop} (h : Q (.bl (decide (a = b)))) : dEq (.int a) (.int b) Q := by
  have : decide (V.int a = V.int b) = decide (a = b) := by
    rw [Bool.eq_iff_iff, decide_eq_true_eq, decide_eq_true_eq]
    exact ⟨fun h => by injection h, fun h => by rw [h]⟩
  unfold dEq
  show (if scal _ _ = true then _ else _)
  rw [if_pos (rfl : scal _ _ = true), this]
  exact h
/-- the same good data -/
theorem dEq_self {d : D} {Q : D → Prop} (g : D.good 64 d = true) (h : Q (.bl true)) : dEq d d Q := by
  have key : dEqN d d Q := ⟨g, g, by rw [eqD_self g]; exact h⟩
  cases d with
  | v x =>
    unfold dEq
    show (if scal x x = true then Q (.bl (decide (x = x))) else dEqN (.v x) (.v x) Q)
    split
    · rw [decide_eq_true rfl]; exact h
    · exact key
  | tup ds => unfold dEq; exact key
  | lst ds => unfold dEq; exact key
  | scr ds => unfold dEq; exact key
  | dct ks ds => unfold dEq; exact key
  | exc c ks ds => unfold dEq; exact key
  | tpf ds => unfold dEq; exact key
theorem dNe_self {d : D} {Q : D → Prop} (g : D.good 64 d = true) (h : Q (.bl false)) : dNe d d Q := by
  have key : dNeN d d Q := ⟨g, g, by rw [eqD_self g]; exact h⟩
  cases d with
  | v x =>
    unfold dNe
    show (if scal x x = true then Q (.bl (!decide (x = x))) else dNeN (.v x) (.v x) Q)
    split
    · rw [decide_eq_true rfl]; exact h
    · exact key
  | tup ds => unfold dNe; exact key
  | lst ds => unfold dNe; exact key
  | scr ds => unfold dNe; exact key
  | dct ks ds => unfold dNe; exact key
  | exc c ks ds => unfold dNe; exact key
  | tpf ds => unfold dNe; exact key
/-- .. the items known by B alone -/
theorem dLc_eachB {fi : TID} {fe : TD} {i : Nat} {ρ : Env} {W : Wd} {Q : KL} {Qx : KX} (B : List D → Wd → Prop) (S : Nat → Wd → Prop) (A : D → Prop) (hno : noOwn ρ [i]) (hi : ∀ P : KL, (∀ ds W0, B ds W0 → P ds ρ W0) → fi ρ W P Qx)
    (h0 : ∀ ds W0, B ds W0 → ds.length ≤ sizeLine ∧ S 0 W0)
    (he : ∀ ds W0, B ds W0 → ∀ (j : Nat) d W, ds[j]? = some d → S j W → ∀ P : KD, (∀ y W', A y → S (j + 1) W' → P y ((ρ.set i none).set i (some (.sh d))) W') → fe ((ρ.set i none).set i (some (.sh d))) W P noX)
    (hq : ∀ ds W0, B ds W0 → ∀ ys W', ys.length = ds.length → (∀ y ∈ ys, A y) → S ds.length W' → Q ys ρ W') : dLc fi (gdName i) dYes fe [i] ρ W Q Qx := by
  unfold dLc
  refine ⟨hno, hi _ fun ds W0 b => ⟨rfl, (h0 ds W0 b).1, fun j acc W' => S j W' ∧ acc.length = j ∧ ∀ y ∈ acc, A y, ⟨(h0 ds W0 b).2, rfl, by simp⟩, fun j d acc W' hj _ hI => ?_, fun acc W' _ hI => hq ds W0 b acc W' hI.2.1 hI.2.2 hI.1⟩⟩
  refine ⟨rfl, ?_⟩
  show fe _ W' _ noX
  refine he ds W0 b j d W' hj hI.1 _ fun y W2 ha hs => ⟨rfl, hs, by simp [hI.2.1], fun z hz => ?_⟩
  rcases List.mem_append.mp hz with hz | hz
  · exact hI.2.2 z hz
  · rw [List.mem_singleton.mp hz]; exact ha
theorem rng_len (lo : Int) (n : Nat) : (rng lo n).length = n := by unfold rng; rw [List.length_map, List.length_range]
/-- no promise at all -/
def spNo : SpD := fun _ _ _ _ => False
theorem cal_no {P : Program} {w : World} {K : PySem.W.Frag} {mg : Str → Option Value} {base : Heap} {k : Nat} {x : Str} {st : Stmt} {ps : List Str} (T : DefAt K mg x st ps) : Cal P w K mg base k x st ps spNo := by
  obtain ⟨f, fd, a, b, c⟩ := T
  have no : ∀ vs H Q E, toSp K ps.length spNo vs H Q E → False := fun vs H Q E h => by
    obtain ⟨_, _, _, _, _, _, _, _, _, h, _⟩ := h
    exact h
  exact ⟨f, fd, a, b, c, ⟨fun h => (no _ _ _ _ h).elim, fun _ _ _ _ h => (no _ _ _ _ h).elim⟩⟩
/-- the law's own def for the end -/
theorem law_fn {P : Program} {w : World} {K : PySem.W.Frag} {mg : Str → Option Value} {k : Nat} {x y : Str} {st : Stmt} {sp : SpD} {fa : Addr} (T : DefAt K mg x st [y])
    (hb : ∀ (kV doc pm : Value) (an : Option Addr) (cdv ct u : Value), bindArgs (PySem.W.fnOf x x (defArgs st) (defBody st) (defScope st) .none kV doc pm an cdv ct) ⟨[u], []⟩ = pure [(y, u)])
    (C : ∀ base : Heap, Cal P w K mg base k x st [y] sp) (hm : mg x = some (.ref fa)) :
    ∃ fd : FuncData, (∀ (s : Shared) (u : Value), BindsTo s fd ⟨[u], []⟩ [(y, u)]) ∧ ∀ base : Heap, FnG P w K mg base k fa fd [y] (toSp K 1 sp) := by
  obtain ⟨f, fd, a, F, c⟩ := T.ex
  have e := hm.symm.trans a
  cases e
  obtain ⟨oc, od, kV, doc, pm, an, cdv, ct, osl, e1, lk, hcd⟩ := F.ex
  refine ⟨fd, fun s u => .of_eq (by rw [e1]; exact hb kV doc pm an cdv ct u), fun base => ?_⟩
  obtain ⟨f2, fd2, a2, F2, c2, d2⟩ := (C base).ex
  have e2 := a.symm.trans a2
  cases e2
  obtain ⟨oc2, od2, kV2, doc2, pm2, an2, cdv2, ct2, osl2, e3, lk2, hcd2⟩ := F2.ex
  have e4 := lk.symm.trans lk2
  injection e4 with e4
  injection e4 with _ _ e4 _
  injection e4 with e4
  rw [e4]
  exact d2
end G

namespace G
open PySem PySem.Spec L2
section
variable {K : PySem.W.Frag} {F S : Reg} {H : Hp} {σ : St} {ρ : Env} {W : Wd}
/-- x += e -/
def dIadd : D → D → (D → Prop) → Prop := d2J fun i j => .int (i + j)
def dIsub : D → D → (D → Prop) → Prop := d2J fun i j => .int (i - j)
theorem rs_ip {g : Int → Int → Int} : RSnd K (ipI g) (d2J fun i j => .int (g i j)) := fun F S H W d e x y P R cb rd re hp k => by
  unfold d2J at hp
  split at hp
  · rw [Rep.v_iff] at rd re
    subst rd
    subst re
    exact ⟨_, _, rfl, rfl, k _ _ H (Same.refl H) (Rep.v_iff.mpr rfl) hp⟩
  · exact hp.elim
/-- the strange list comes back: it was nobody's, now it is a new one -/
theorem Cf.alienBack {S1 S2 : Reg} {H1 H2 : Hp} {p : Addr} {xs : List V} {acc : List D} (c1 : Cf K F S1 H1 σ ρ W) (hp : H1 p = none) {σ2 : St} {ρ2 : Env} {W2 : Wd} (e2 : Stp F S1 H1 S2 H2) (c2 : Cf K (Add F p) S2 H2 σ2 ρ2 W2) (r2 : Reps K S2 H2 acc xs) (hp2 : H2 p = some (.lst xs)) :
    Stp F S1 H1 (Rem S2 p) (del H2 p) ∧ Cf K F (Rem S2 p) (del H2 p) σ2 ρ2 W2 ∧ Reps K (Rem S2 p) (del H2 p) acc xs ∧ (del H2 p) p = none ∧ upd (del H2 p) p (.lst xs) = H2 := by
  have nF : ¬ F p := fun z => c1.cb.sd p (c1.cb.fs p z) hp
  have sp : S2 p := c2.cb.fs p (.inr rfl)
  refine ⟨⟨fun a o h1 h2 => ?_, fun a h1 h2 => e2.new a h1.1 h2, fun a h => ?_, fun a h => ?_⟩, c2.unalien nF, r2.del sp, del_same, upd_del hp2⟩
  · have : a ≠ p := fun z => by rw [z, hp] at h2; cases h2
    rw [del_ne this]; exact e2.keep a o h1 h2
  · by_cases ha : a = p
    · rw [ha]; exact hp
    · rw [del_ne ha] at h; exact e2.dom a h
  · rw [del_ne (fun (z : a = p) => nF (z ▸ h))]; exact e2.frn a h
end
section
variable {X : Cx} {Wx : WX} {st : Stmt} {rest : List Stmt} {f g : TSD} {e o a b c i : Expr} {es : List Expr} {fe fo fa fb fc fi : TD} {fl : TL} {pos : Pos}
theorem op_iadd : PIp X .Add (ipI fun i j => i + j) := ip_add
/-- x, y = [..], e: the list the frame's own -/
def dParO1 (i j : Nat) (fl : TL) (fe : TD) : TSD := fun De ρ W => fl ρ W (fun ds ρ1 W1 => fe ρ1 W1 (fun d ρ2 W2 => De.nx ((ρ2.set i (some (.ol ds))).set j (some (.sh d))) W2) noX) De.ex
theorem gs_parO1 {i j : Nat} {x y : Str} {px py pt : Pos} {kt k2 pt2} (hc : X.calm = true) (hN : X.N.Nodup) (hi : X.N[i]? = some x) (hj : X.N[j]? = some y) (hij : i ≠ j)
    (hx : X.env.scope.names.lookup x = some .local) (hy : X.env.scope.names.lookup y = some .local) (ha : GN X Wx a fl) (hb : GE X Wx b fe)
    (hw : swappedStores [.Tuple [.Name x px, .Name y py] kt pt] (.Tuple [a, b] k2 pt2) X.env = pure (some [x, y])) (he : starEach [a, b] X.env = (false, eval a X.env) :: starEach [b] X.env := by rfl) (he2 : starEach [b] X.env = (false, eval b X.env) :: starEach [] X.env := by rfl)
    (hs : swapsWithSole [.Tuple [.Name x px, .Name y py] kt pt] (.Tuple [a, b] k2 pt2) pos.line X.env = pure false := by rfl) :
    GS X Wx (.Assign [.Tuple [.Name x px, .Name y py] kt pt] (.Tuple [a, b] k2 pt2) pos) (dParO1 i j fl fe) := by
  obtain ⟨ta, pa, sa⟩ := ha
  obtain ⟨tb, pb, sb⟩ := hb
  refine ⟨_, ps_par hc hN hi hj hij hx hy (pa_cons pa (pa_cons pb pa_nil he2) he) hw hs, fun F S H σ ρ W De Dh cf hf l => ?_⟩
  refine sa F S H σ ρ W _ De.ex _ cf hf l.ex fun S1 H1 ρ1 W1 ds xs p e1 c1 r1 hp q1 => ?_
  obtain ⟨ea, ca⟩ := c1.alien (o := .lst xs) hp
  refine sb (Add F p) (Add S1 p) (upd H1 p (.lst xs)) σ ρ1 W1 _ noX _ ca q1 lkx_none fun S2 H2 ρ2 W2 d v e2 c2 r2 q2 => ?_
  refine ⟨_, _, rfl, ?_⟩
  have hp2 : H2 p = some (.lst xs) := (e2.frn p (.inr rfl)).trans upd_same
  have e2' := e2.mono (F' := F) fun _ h => .inl h
  have rr := (r1.up ea).up e2'
  obtain ⟨b1, b2, b3, b4, b5⟩ := c1.alienBack hp (ea.trans e2') c2 rr hp2
  have sp : S2 p := c2.cb.fs p (.inr rfl)
  have r2' := r2.del sp
  obtain ⟨st, c4⟩ := b2.newOl i b4 b3
  rw [b5] at st c4
  exact l.nx _ _ _ _ W2 ((e1.trans b1).trans st) (c4.setSh j (r2'.up st)) q2
/-- x, y = e, [..]: the list the frame's own -/
def dParO2 (i j : Nat) (fe : TD) (fl : TL) : TSD := fun De ρ W => fe ρ W (fun d ρ1 W1 => fl ρ1 W1 (fun ds ρ2 W2 => De.nx ((ρ2.set i (some (.sh d))).set j (some (.ol ds))) W2) De.ex) De.ex
theorem gs_parO2 {i j : Nat} {x y : Str} {px py pt : Pos} {kt k2 pt2} (hc : X.calm = true) (hN : X.N.Nodup) (hi : X.N[i]? = some x) (hj : X.N[j]? = some y) (hij : i ≠ j)
    (hx : X.env.scope.names.lookup x = some .local) (hy : X.env.scope.names.lookup y = some .local) (ha : GE X Wx a fe) (hb : GN X Wx b fl)
    (hw : swappedStores [.Tuple [.Name x px, .Name y py] kt pt] (.Tuple [a, b] k2 pt2) X.env = pure (some [x, y])) (he : starEach [a, b] X.env = (false, eval a X.env) :: starEach [b] X.env := by rfl) (he2 : starEach [b] X.env = (false, eval b X.env) :: starEach [] X.env := by rfl)
    (hs : swapsWithSole [.Tuple [.Name x px, .Name y py] kt pt] (.Tuple [a, b] k2 pt2) pos.line X.env = pure false := by rfl) :
    GS X Wx (.Assign [.Tuple [.Name x px, .Name y py] kt pt] (.Tuple [a, b] k2 pt2) pos) (dParO2 i j fe fl) := by
  obtain ⟨ta, pa, sa⟩ := ha
  obtain ⟨tb, pb, sb⟩ := hb
  refine ⟨_, ps_par hc hN hi hj hij hx hy (pa_cons pa (pa_cons pb pa_nil he2) he) hw hs, fun F S H σ ρ W De Dh cf hf l => ?_⟩
  refine sa F S H σ ρ W _ De.ex _ cf hf l.ex fun S1 H1 ρ1 W1 d v e1 c1 r1 q1 => ?_
  refine sb F S1 H1 σ ρ1 W1 _ De.ex _ c1 q1 (l.ex.up e1) fun S2 H2 ρ2 W2 ds xs p e2 c2 r2 hp q2 => ?_
  refine ⟨_, _, rfl, ?_⟩
  obtain ⟨st, c4⟩ := (c2.setSh i (r1.up e2)).newOl j hp r2
  exact l.nx _ _ _ _ W2 ((e1.trans e2).trans st) c4 q2
/-- a new list that others may hold and change -/
def dNewW (fl : TL) : TD := fun ρ W Q Qx => fl ρ W (fun ds ρ' W' => ∀ p, W' p = none → Q (.ref p) ρ' (updW W' p (.lst ds))) Qx
theorem ge_newW (he : GN X Wx e fl) : GE X Wx e (dNewW fl) := by
  obtain ⟨te, pe, se⟩ := he
  refine ⟨_, pe, fun F S H σ ρ W Q Qx R cf hf hx hE => ?_⟩
  refine se F S H σ ρ W _ Qx _ cf hf hx fun S' H' ρ' W' ds xs p e' c r hp q => ?_
  obtain ⟨hw, st, c2⟩ := c.newW hp r
  exact hE _ _ ρ' _ _ _ (e'.trans st) c2 (Rep.v_iff.mpr rfl) (q p hw)
/-- list(x), a new one -/
def itemsOf : D → Option (List D)
  | .lst ds => some ds
  | .tup ds => some ds
  | .scr ns => some (ns.map D.int)
  | _ => none
def dListN (fe : TD) : TL := fun ρ W Q Qx => fe ρ W (fun d ρ' W' => ∃ ds, itemsOf d = some ds ∧ Q ds ρ' W') Qx
theorem gn_list {x : Str} {p : Pos} (hg : Gl X x) (hm : X.mg x = none) (hv : bootBuiltins x = some (.type "list")) (ha : GE X Wx e fe) (hn : x ≠ "__name__" := by decide) (hdb : (x == ("__debug__" : Str)) = false := by decide)
    (he : starEach [e] X.env = (false, eval e X.env) :: starEach [] X.env := by rfl) (hpl : (backTo pos (starEach [] X.env)).any (·.1) = false := by rfl) : GN X Wx (.Call (.Name x p) [e] [] pos) (dListN fe) := by
  obtain ⟨te, pe, se⟩ := ha
  refine ⟨_, pe_callTy call_list_of hg hm hv (pa_cons pe pa_nil he) hn hdb he hpl, fun F S H σ ρ W Q Qx R cf hf hx hE => ?_⟩
  refine se F S H σ ρ W _ Qx _ cf hf hx fun S' H' ρ' W' d v e' c r q => ?_
  obtain ⟨ds, e1, q⟩ := q
  have key : ∃ p ys, v = .ref p ∧ (SqL X.K H' p ys ∨ SqT X.K H' p ys) ∧ Reps X.K S' H' ds ys := by
    cases d with
    | v x => cases e1
    | tup xs =>
      cases e1
      obtain ⟨a, ys, rfl, h1, h2⟩ := Rep.tup_iff.mp r
      exact ⟨a, ys, rfl, .inr h1.sq, h2⟩
    | lst xs =>
      cases e1
      obtain ⟨a, ys, rfl, h1, h2⟩ := Rep.lst_iff.mp r
      exact ⟨a, ys, rfl, .inl h1.sq, h2⟩
    | dct ks ds => cases e1
    | exc c ks ds => cases e1
    | tpf ds => cases e1
    | scr ns =>
      cases e1
      obtain ⟨a, rfl, h1⟩ := Rep.scr_iff.mp r
      refine ⟨a, _, rfl, .inl h1.sq, ?_⟩
      have := Reps.map_v (K := X.K) (S := S') (H := H') (ns.map V.int)
      rw [List.map_map] at this
      exact this
  obtain ⟨p, ys, rfl, h1, h2⟩ := key
  exact ⟨p, ys, rfl, h1, fun l hl => hE S' H' ρ' W' ds ys l e' c h2 hl q⟩
/-- p.pop(i) for its value -/
def dPopE (fo fi : TD) : TD := fun ρ W Q Qx => fo ρ W (fun x ρ1 W1 => (∃ p ds, x = .ref p ∧ W1 p = some (.lst ds)) ∧ fi ρ1 W1 (fun y ρ2 W2 => match x, y with
  | .v (.ref p), .v (.int k) => ∃ ds j z, W2 p = some (.lst ds) ∧ -(2 ^ 63) ≤ k ∧ k < 2 ^ 63 ∧ seqIndex? k ds.length = some j ∧ ds[j]? = some z ∧ Q z ρ2 (updW W2 p (.lst (ds.eraseIdx j)))
  | _, _ => False) Qx) Qx
theorem ge_popE {apos cpos : Pos} (ho : GE X Wx o fo) (hi : GE X Wx i fi) (hbase : attributeBase o "pop" X.env (eval o X.env) = eval o X.env := by rfl)
    (hfew : ((backTo cpos (starEach (i :: []) X.env)).all (fun x => !x.1) && (backToKw cpos (keywordEach [] X.env)).all (fun x => x.1.isSome) && decide ((i :: ([] : List Expr)).length + ([] : List Keyword).length + (if ([] : List Keyword).isEmpty then 0 else 1) < 30)) = true := by rfl)
    (hline : (apos.endLine == cpos.line) = true := by rfl) (hse : starEach (i :: []) X.env = (false, eval i X.env) :: starEach [] X.env := by rfl) (hplain : (backTo cpos (starEach [] X.env)).any (·.1) = false := by rfl) :
    GE X Wx (.Call (.Attribute o "pop" apos) [i] [] cpos) (dPopE fo fi) := by
  obtain ⟨to, po, so⟩ := ho
  obtain ⟨ti, pi, si⟩ := hi
  refine ⟨_, pe_bm PySem.F.plainAttrs_list PySem.F.slot_list_pop PySem.F.type_list_pop mt_popAt po (pa_cons pi pa_nil hse) hbase hfew hline hse hplain, fun F S H σ ρ W Q Qx R cf hf hx hE => ?_⟩
  refine so F S H σ ρ W _ Qx _ cf hf hx fun S1 H1 ρ1 W1 d v e1 c1 r1 q1 => ?_
  obtain ⟨⟨p0, ds0, rfl, hw0⟩, q1⟩ := q1
  obtain ⟨_, _, xs0, h0, _⟩ := c1.cb.w p0 _ hw0
  have ev := Rep.v_iff.mp r1
  subst ev
  refine ⟨.inl ⟨rfl, xs0, SqL.of h0⟩, ?_⟩
  refine si F S1 H1 σ ρ1 W1 _ Qx _ c1 q1 (hx.up e1) fun S2 H2 ρ2 W2 d2 v2 e2 c2 r2 q2 => ?_
  split at q2
  · rename_i p k he
    cases he
    obtain ⟨ds, j, z, hw, hk1, hk2, hj, hz, q⟩ := q2
    obtain ⟨_, _, xs, h1, h2⟩ := c2.cb.w p0 _ hw
    obtain ⟨v, hv, rv⟩ := h2.get hz
    refine ⟨p0, xs, k, j, v, rfl, by rw [Rep.v_iff.mp r2], h1, hk1, hk2, by rw [h2.length]; exact hj, hv, ?_⟩
    obtain ⟨st, c4⟩ := c2.chW (o := .lst (ds.eraseIdx j)) (u := .lst (xs.eraseIdx j)) hw fun S' H' e' hp => ⟨_, hp, (Reps.erase j h2).up e'⟩
    exact hE _ _ _ _ _ _ ((e1.trans e2).trans st) c4 (rv.up st) q
  · exact q2.elim
end
/-- one statement, then the rest from what I says -/
theorem seq_gen {f g : TSD} {De : EndsD} {ρ : Env} {W : Wd} (I : Env → Wd → Prop) (hg : ∀ ρ W, I ρ W → g De ρ W) (hf : ∀ N : KS, (∀ ρ W, I ρ W → N ρ W) → f { De with nx := N } ρ W) : dSeq f g De ρ W := hf (g De) hg
theorem ite_t {A B : Prop} (h : A) : if true = true then A else B := by rw [if_pos rfl]; exact h
theorem ite_f {A B : Prop} (h : B) : if false = true then A else B := by rw [if_neg Bool.false_ne_true]; exact h
theorem ite_b {b : Bool} {A B : Prop} (h1 : b = true → A) (h2 : b = false → B) : if b = true then A else B := by
  cases b with
  | true => exact ite_t (h1 rfl)
  | false => exact ite_f (h2 rfl)
theorem ite_d {p : Prop} [Decidable p] {A B : Prop} (h1 : p → A) (h2 : ¬ p → B) : if decide p = true then A else B := by
  by_cases h : p
  · rw [decide_eq_true h]; exact ite_t (h1 h)
  · rw [decide_eq_false h]; exact ite_f (h2 h)
theorem ite_n {p : Prop} [Decidable p] {A B : Prop} (h1 : ¬ p → A) (h2 : p → B) : if (!decide p) = true then A else B := by
  by_cases h : p
  · rw [decide_eq_true h]; exact ite_f (h2 h)
  · rw [decide_eq_false h]; exact ite_t (h1 h)
end G

namespace G
open PySem PySem.Spec L2 PyProof.Rows
section
variable {prog : Program} {w : World} {A : Around} {E : Value → Shared → Prop} {s : Shared} {l : Addr} {xs : Array (Int × Tok)}
/-- a tuple of ints walked by min, max -/
theorem iter_intTup {Q : Value → Shared → Prop} (hl : s.heap.IsTuple l (intItems xs))
    (h : ∀ s₂ : Shared, s₂ = { s with heap := s.heap.push { cls := .type "tuple_iterator", data := .fields #[.ref l, .int 0 0] } } →
      (s₂.heap.IsTupleIter s.heap.objs.size l 0 ∧ s₂.heap.IsTuple l (intItems xs)) → (∀ b ∈ [s.heap.objs.size, l], b < s₂.heap.objs.size) → l ≠ s.heap.objs.size → Q (.ref s.heap.objs.size) s₂) :
    wpAny (model prog w) A (pyIter (.ref l)) Q E s := by
  have hlt : l < s.heap.objs.size := by obtain ⟨_, e, _⟩ := hl; exact Heap.lt_size e
  refine wpAny_pyIter_tuple hl (h _ rfl ⟨⟨_, Heap.get?_push_size _ rfl, rfl, rfl⟩, hl.push _⟩ (fun b hb => ?_) (Nat.ne_of_lt hlt))
  show b < (s.heap.push _).objs.size
  rw [Heap.size_push]
  simp only [List.mem_cons, List.not_mem_nil, or_false] at hb
  rcases hb with rfl | rfl
  · exact Nat.lt_succ_self _
  · exact Nat.lt_succ_of_lt hlt
theorem old_keptT {h' : Heap} (hk : ∀ b o, b ∉ [s.heap.objs.size] → (s.heap.push { cls := .type "tuple_iterator", data := .fields #[.ref l, .int 0 0] }).get? b = some o → h'.get? b = some o) :
    ∀ b o, s.heap.get? b = some o → h'.get? b = some o := fun b o e => by
  refine hk b o (fun hm => ?_) (Heap.get?_push_of_some _ e)
  rw [List.mem_singleton.mp hm] at e
  exact absurd (Heap.lt_size e) (Nat.lt_irrefl _)
theorem max_intTup {Q : Value → Shared → Prop} (hh : A.handled = none) (hl : s.heap.IsTuple l (intItems xs)) (hne : 0 < xs.size)
    (h : ∀ v h' tk, (intItems xs)[argBest (fun i j => decide (numAt xs i > numAt xs j)) (xs.size - 1)]? = some v → (∀ b o, s.heap.get? b = some o → h'.get? b = some o) → Q v { s with heap := h', toks := tk }) :
    wpAny (model prog w) A (call (.builtin "max") [.ref l]) Q E s := by
  refine call_max_walk (iter_intTup hl fun s₂ e st hfp hlI => ?_)
  subst e
  refine ⟨_, _, _, _, _, _, _, rfl, Walks.tuple (A := A.in1) hh _ l hlI (intItems xs), st, hfp, by simpa [intItems] using hne, CmpOf.ints_gt (numAt xs) (fun _ _ => intItems_at), fun v h' tk hP hk => ?_⟩
  exact h v h' tk (by simpa [intItems] using hP) (old_keptT hk)
theorem min_intTup {Q : Value → Shared → Prop} (hh : A.handled = none) (hl : s.heap.IsTuple l (intItems xs)) (hne : 0 < xs.size)
    (h : ∀ v h' tk, (intItems xs)[argBest (fun i j => decide (numAt xs i < numAt xs j)) (xs.size - 1)]? = some v → (∀ b o, s.heap.get? b = some o → h'.get? b = some o) → Q v { s with heap := h', toks := tk }) :
    wpAny (model prog w) A (call (.builtin "min") [.ref l]) Q E s := by
  refine call_min_walk (iter_intTup hl fun s₂ e st hfp hlI => ?_)
  subst e
  refine ⟨_, _, _, _, _, _, _, rfl, Walks.tuple (A := A.in1) hh _ l hlI (intItems xs), st, hfp, by simpa [intItems] using hne, CmpOf.ints_lt (numAt xs) (fun _ _ => intItems_at), fun v h' tk hP hk => ?_⟩
  exact h v h' tk (by simpa [intItems] using hP) (old_keptT hk)
variable {its : List Value} {ns : List Int}
theorem max_rawT {Q : Value → Shared → Prop} (hh : A.handled = none) (hl : s.heap.IsTuple l its.toArray) (hi : IntsAre its ns) (hne : 0 < ns.length)
    (h : ∀ h' tk M t', (∀ b o, s.heap.get? b = some o → h'.get? b = some o) → M ∈ ns → (∀ a, a ∈ ns → a ≤ M) → Q (.int M t') { s with heap := h', toks := tk }) : wpAny (model prog w) A (call (.builtin "max") [.ref l]) Q E s := by
  obtain ⟨xs, e⟩ := hi.allInts.items
  have hn : numsOf (intItems xs).toList = ns := by rw [← e]; exact hi.numsOf
  rw [nums_intItems] at hn
  subst hn
  rw [e] at hl
  have hsz : 0 < xs.size := by simpa using hne
  refine max_intTup hh hl hsz fun v h' tk hv hk => ?_
  obtain ⟨t, rfl⟩ := intItems_at hv
  obtain ⟨h1, h2⟩ := argBest_gt (numAt xs) (xs.size - 1)
  refine h h' tk _ t hk ?_ fun a ha => ?_
  · rw [numAt_eq]; exact PySem.getD_mem (by rw [List.length_map, Array.length_toList]; omega)
  · obtain ⟨j, hj, rfl⟩ := mem_getD ha
    rw [List.length_map, Array.length_toList] at hj
    rw [← numAt_eq]; exact h2 j (by omega)
theorem min_rawT {Q : Value → Shared → Prop} (hh : A.handled = none) (hl : s.heap.IsTuple l its.toArray) (hi : IntsAre its ns) (hne : 0 < ns.length)
    (h : ∀ h' tk M t', (∀ b o, s.heap.get? b = some o → h'.get? b = some o) → M ∈ ns → (∀ a, a ∈ ns → M ≤ a) → Q (.int M t') { s with heap := h', toks := tk }) : wpAny (model prog w) A (call (.builtin "min") [.ref l]) Q E s := by
  obtain ⟨xs, e⟩ := hi.allInts.items
  have hn : numsOf (intItems xs).toList = ns := by rw [← e]; exact hi.numsOf
  rw [nums_intItems] at hn
  subst hn
  rw [e] at hl
  have hsz : 0 < xs.size := by simpa using hne
  refine min_intTup hh hl hsz fun v h' tk hv hk => ?_
  obtain ⟨t, rfl⟩ := intItems_at hv
  obtain ⟨h1, h2⟩ := argBest_lt (numAt xs) (xs.size - 1)
  refine h h' tk _ t hk ?_ fun a ha => ?_
  · rw [numAt_eq]; exact PySem.getD_mem (by rw [List.length_map, Array.length_toList]; omega)
  · obtain ⟨j, hj, rfl⟩ := mem_getD ha
    rw [List.length_map, Array.length_toList] at hj
    rw [← numAt_eq]; exact h2 j (by omega)
end
section
variable {X : Cx}
def rMaxT (K : PySem.W.Frag) : List V → Hp → VK → Prop := fun vs H Q => ∃ (a : Addr) (ns : List Int), vs = [V.ref a] ∧ SqT K H a (ns.map V.int) ∧ 0 < ns.length ∧ ∀ m, m ∈ ns → (∀ y, y ∈ ns → y ≤ m) → Q (.int m) H
def rMinT (K : PySem.W.Frag) : List V → Hp → VK → Prop := fun vs H Q => ∃ (a : Addr) (ns : List Int), vs = [V.ref a] ∧ SqT K H a (ns.map V.int) ∧ 0 < ns.length ∧ ∀ m, m ∈ ns → (∀ y, y ∈ ns → m ≤ y) → Q (.int m) H
theorem cr_maxT (hc : X.calm = true) : CallR X (.builtin "max") (rMaxT X.K) := by
  intro pins s σ H vs us Q I r h
  obtain ⟨a, ns, rfl, hs, hne, q⟩ := h
  obtain ⟨its, rv, hl, _⟩ := I.tuple hs
  rw [Vals.ref1 r]
  exact max_rawT (I.ok.hd hc) hl rv.ints hne fun h' tk m t' hk h1 h2 => ⟨.int _, H, I.kept hk, ⟨_, rfl⟩, q m h1 h2⟩
theorem cr_minT (hc : X.calm = true) : CallR X (.builtin "min") (rMinT X.K) := by
  intro pins s σ H vs us Q I r h
  obtain ⟨a, ns, rfl, hs, hne, q⟩ := h
  obtain ⟨its, rv, hl, _⟩ := I.tuple hs
  rw [Vals.ref1 r]
  exact min_rawT (I.ok.hd hc) hl rv.ints hne fun h' tk m t' hk h1 h2 => ⟨.int _, H, I.kept hk, ⟨_, rfl⟩, q m h1 h2⟩
theorem cr_maxA (hc : X.calm = true) : CallR X (.builtin "max") (fun xs H Q => rMax X.K xs H Q ∨ rMaxT X.K xs H Q) := CallR.or (cr_max hc) (cr_maxT hc)
theorem cr_minA (hc : X.calm = true) : CallR X (.builtin "min") (fun xs H Q => rMin X.K xs H Q ∨ rMinT X.K xs H Q) := CallR.or (cr_min hc) (cr_minT hc)
def dMin1A : List D → (D → Prop) → Prop := fun ds Q => match ds with
  | [.lst xs] => ∃ ns, intsOf xs = some ns ∧ 0 < ns.length ∧ ∀ m, m ∈ ns → (∀ y, y ∈ ns → m ≤ y) → Q (.int m)
  | [.tup xs] => ∃ ns, intsOf xs = some ns ∧ 0 < ns.length ∧ ∀ m, m ∈ ns → (∀ y, y ∈ ns → m ≤ y) → Q (.int m)
  | _ => False
def dMax1A : List D → (D → Prop) → Prop := fun ds Q => match ds with
  | [.lst xs] => ∃ ns, intsOf xs = some ns ∧ 0 < ns.length ∧ ∀ m, m ∈ ns → (∀ y, y ∈ ns → y ≤ m) → Q (.int m)
  | [.tup xs] => ∃ ns, intsOf xs = some ns ∧ 0 < ns.length ∧ ∀ m, m ∈ ns → (∀ y, y ∈ ns → y ≤ m) → Q (.int m)
  | _ => False
variable {K : PySem.W.Frag}
theorem cs_min1A : CSnd K (fun xs H Q => rMin K xs H Q ∨ rMinT K xs H Q) dMin1A := fun F S H W ds xs P R cb rd hp k => by
  unfold dMin1A at hp
  split at hp
  · obtain ⟨x, rfl, h⟩ := reps1 rd
    obtain ⟨a, ys, rfl, h1, h2⟩ := Rep.lst_iff.mp h
    obtain ⟨bs, hb, hl, hp⟩ := hp
    rw [reps_ints hb h2] at h1
    exact .inl ⟨a, bs, rfl, h1.sq, hl, fun m m1 m2 => k _ _ H (Same.refl H) (Rep.v_iff.mpr rfl) (hp m m1 m2)⟩
  · obtain ⟨x, rfl, h⟩ := reps1 rd
    obtain ⟨a, ys, rfl, h1, h2⟩ := Rep.tup_iff.mp h
    obtain ⟨bs, hb, hl, hp⟩ := hp
    rw [reps_ints hb h2] at h1
    exact .inr ⟨a, bs, rfl, h1.sq, hl, fun m m1 m2 => k _ _ H (Same.refl H) (Rep.v_iff.mpr rfl) (hp m m1 m2)⟩
  · exact hp.elim
theorem cs_max1A : CSnd K (fun xs H Q => rMax K xs H Q ∨ rMaxT K xs H Q) dMax1A := fun F S H W ds xs P R cb rd hp k => by
  unfold dMax1A at hp
  split at hp
  · obtain ⟨x, rfl, h⟩ := reps1 rd
    obtain ⟨a, ys, rfl, h1, h2⟩ := Rep.lst_iff.mp h
    obtain ⟨bs, hb, hl, hp⟩ := hp
    rw [reps_ints hb h2] at h1
    exact .inl ⟨a, bs, rfl, h1.sq, hl, fun m m1 m2 => k _ _ H (Same.refl H) (Rep.v_iff.mpr rfl) (hp m m1 m2)⟩
  · obtain ⟨x, rfl, h⟩ := reps1 rd
    obtain ⟨a, ys, rfl, h1, h2⟩ := Rep.tup_iff.mp h
    obtain ⟨bs, hb, hl, hp⟩ := hp
    rw [reps_ints hb h2] at h1
    exact .inr ⟨a, bs, rfl, h1.sq, hl, fun m m1 m2 => k _ _ H (Same.refl H) (Rep.v_iff.mpr rfl) (hp m m1 m2)⟩
  · exact hp.elim
end
end G

namespace G
open PySem PySem.Spec L2
/-! ### dicts: keys are numbers or texts -/
def keyOf : D → Option Key
  | .v (.int i) => some (.inl i)
  | .v (.str s) => some (.inr s)
  | _ => none
def keyD : Key → D
  | .inl i => .int i
  | .inr s => .str s
def valD (kvs : List (Key × D)) (k : Key) : Option D := (kvs.find? fun kv => decide (kv.1 = k)).map (·.2)
def putD (kvs : List (Key × D)) (k : Key) (v : D) : List (Key × D) :=
  if (kvs.any fun kv => decide (kv.1 = k)) = true then kvs.map (fun kv => if kv.1 = k then (kv.1, v) else kv) else kvs ++ [(k, v)]
def dropD (kvs : List (Key × D)) (k : Key) : List (Key × D) := kvs.filter fun kv => decide (kv.1 ≠ k)
section
variable {K : PySem.W.Frag} {F S S' : Reg} {H H' : Hp}
def KR (K : PySem.W.Frag) (S : Reg) (H : Hp) (kvs : List (Key × D)) (vs : List (Key × V)) : Prop := vs.map (·.1) = kvs.map (·.1) ∧ Reps K S H (kvs.map (·.2)) (vs.map (·.2))
theorem KR.nil : KR K S H [] [] := ⟨rfl, Reps.nil⟩
theorem KR.cons_iff {k : Key} {d : D} {kvs : List (Key × D)} {vs : List (Key × V)} : KR K S H ((k, d) :: kvs) vs ↔ ∃ v r, vs = (k, v) :: r ∧ Rep K S H d v ∧ KR K S H kvs r := by
  constructor
  · rintro ⟨h1, h2⟩
    cases vs with
    | nil => cases h1
    | cons p r =>
      simp only [List.map_cons, List.cons.injEq] at h1
      obtain ⟨x, y, e, h3, h4⟩ := Reps.cons_iff.mp h2
      simp only [List.map_cons, List.cons.injEq] at e
      obtain ⟨k', v⟩ := p
      obtain ⟨rfl, rfl⟩ := e
      obtain ⟨rfl, h1⟩ := h1
      exact ⟨_, _, rfl, h3, h1, h4⟩
  · rintro ⟨v, r, rfl, h1, h2, h3⟩
    exact ⟨by rw [List.map_cons, List.map_cons, h2], Reps.cons h1 h3⟩
theorem KR.up (e : Stp F S H S' H') {kvs : List (Key × D)} {vs : List (Key × V)} (h : KR K S H kvs vs) : KR K S' H' kvs vs := ⟨h.1, h.2.up e⟩
theorem KR.len {kvs : List (Key × D)} {vs : List (Key × V)} (h : KR K S H kvs vs) : vs.length = kvs.length := by
  have := congrArg List.length h.1
  rwa [List.length_map, List.length_map] at this
theorem valD_cons {k k' : Key} {d : D} {r : List (Key × D)} : valD ((k', d) :: r) k = if k' = k then some d else valD r k := by
  unfold valD
  rw [List.find?_cons]
  by_cases h : k' = k
  · rw [if_pos h]; simp [h]
  · rw [if_neg h]; simp [h]
theorem valV_cons {k k' : Key} {d : V} {r : List (Key × V)} : valV ((k', d) :: r) k = if k' = k then some d else valV r k := by
  by_cases h : k' = k
  · rw [if_pos h]; exact valV_pos h
  · rw [if_neg h]; exact valV_neg h
theorem KR.val (k : Key) : ∀ {kvs : List (Key × D)} {vs : List (Key × V)}, KR K S H kvs vs → (∀ z, valD kvs k = some z → ∃ v, valV vs k = some v ∧ Rep K S H z v) ∧ (valD kvs k = none → valV vs k = none)
  | [], vs, h => by
    have : vs = [] := by
      have := h.len
      simpa using this
    subst this
    refine ⟨fun z e => ?_, fun _ => rfl⟩
    have e : none = some z := e
    cases e
  | (k', d) :: kvs, vs, h => by
    obtain ⟨v, r, rfl, h1, h2⟩ := KR.cons_iff.mp h
    obtain ⟨i1, i2⟩ := KR.val k h2
    rw [valD_cons, valV_cons]
    by_cases e : k' = k
    · rw [if_pos e, if_pos e]
      exact ⟨fun z q => by cases q; exact ⟨v, rfl, h1⟩, fun q => by cases q⟩
    · rw [if_neg e, if_neg e]
      exact ⟨i1, i2⟩
theorem KR.any (k : Key) : ∀ {kvs : List (Key × D)} {vs : List (Key × V)}, KR K S H kvs vs → (vs.any fun kv => decide (kv.1 = k)) = (kvs.any fun kv => decide (kv.1 = k))
  | [], vs, h => by
    have : vs = [] := by
      have := h.len
      simpa using this
    subst this
    rfl
  | (k', d) :: kvs, vs, h => by
    obtain ⟨v, r, rfl, h1, h2⟩ := KR.cons_iff.mp h
    rw [List.any_cons, List.any_cons, KR.any k h2]
theorem KR.append : ∀ {kvs kvs' : List (Key × D)} {vs vs' : List (Key × V)}, KR K S H kvs vs → KR K S H kvs' vs' → KR K S H (kvs ++ kvs') (vs ++ vs') := fun h h' =>
  ⟨by rw [List.map_append, List.map_append, h.1, h'.1], by rw [List.map_append, List.map_append]; exact h.2.append h'.2⟩
theorem KR.mapPut (k : Key) {d : D} {v : V} (hv : Rep K S H d v) : ∀ {kvs : List (Key × D)} {vs : List (Key × V)}, KR K S H kvs vs → KR K S H (kvs.map fun kv => if kv.1 = k then (kv.1, d) else kv) (vs.map fun kv => if kv.1 = k then (kv.1, v) else kv)
  | [], vs, h => by
    have : vs = [] := by
      have := h.len
      simpa using this
    subst this
    exact KR.nil
  | (k', d') :: kvs, vs, h => by
    obtain ⟨v', r, rfl, h1, h2⟩ := KR.cons_iff.mp h
    rw [List.map_cons, List.map_cons]
    by_cases e : k' = k
    · rw [if_pos e, if_pos e]
      exact KR.cons_iff.mpr ⟨v, _, rfl, hv, KR.mapPut k hv h2⟩
    · rw [if_neg e, if_neg e]
      exact KR.cons_iff.mpr ⟨v', _, rfl, h1, KR.mapPut k hv h2⟩
theorem KR.put (k : Key) {d : D} {v : V} (hv : Rep K S H d v) {kvs : List (Key × D)} {vs : List (Key × V)} (h : KR K S H kvs vs) : KR K S H (putD kvs k d) (putK vs k v) := by
  unfold putD putK
  rw [h.any k]
  split
  · exact h.mapPut k hv
  · exact h.append (KR.cons_iff.mpr ⟨v, [], rfl, hv, KR.nil⟩)
theorem KR.drop (k : Key) : ∀ {kvs : List (Key × D)} {vs : List (Key × V)}, KR K S H kvs vs → KR K S H (dropD kvs k) (dropK vs k)
  | [], vs, h => by
    have : vs = [] := by
      have := h.len
      simpa using this
    subst this
    exact KR.nil
  | (k', d') :: kvs, vs, h => by
    obtain ⟨v', r, rfl, h1, h2⟩ := KR.cons_iff.mp h
    unfold dropD dropK
    rw [List.filter_cons, List.filter_cons]
    by_cases e : k' = k
    · rw [if_neg (by simp [e]), if_neg (by simp [e])]
      exact KR.drop k h2
    · rw [if_pos (by simp [e]), if_pos (by simp [e])]
      exact KR.cons_iff.mpr ⟨v', _, rfl, h1, KR.drop k h2⟩
theorem key_rep {d : D} {k : Key} {v : V} (e : keyOf d = some k) (h : Rep K S H d v) : v = kV k := by
  cases d with
  | v x =>
    rw [Rep.v_iff.mp h]
    cases x <;> simp only [keyOf, Option.some.injEq] at e <;> first | (subst e; rfl) | cases e
  | _ => cases e
theorem MRep.dK_iff {p : Addr} {kvs : List (Key × D)} : MRep K S H p (.dK kvs) ↔ ∃ vs, H p = some (.dK vs) ∧ KR K S H kvs vs := Iff.rfl
theorem zip_fst_snd {α β : Type} : ∀ l : List (α × β), (l.map (·.1)).zip (l.map (·.2)) = l
  | [] => rfl
  | (a, b) :: r => by rw [List.map_cons, List.map_cons, List.zip_cons_cons, zip_fst_snd r]
/-- a dict that nobody changes any more -/
abbrev D.dk (kvs : List (Key × D)) : D := .dct (kvs.map (·.1)) (kvs.map (·.2))
theorem Rep.dk_of {p : Addr} {kvs : List (Key × D)} {vs : List (Key × V)} (h : H p = some (.dK vs)) (hs : ¬ S p) (r : KR K S H kvs vs) : Rep K S H (.dk kvs) (.ref p) :=
  Rep.dct_iff.mpr ⟨p, vs.map (·.2), rfl, ⟨by rw [← r.1, zip_fst_snd]; exact h, hs⟩, by rw [List.length_map, List.length_map], r.2⟩
theorem zip_kr {a : Addr} : ∀ {ks : List Key} {ds : List D} {xs : List V}, ks.length = ds.length → Reps K S H ds xs → KR K S H (ks.zip ds) (ks.zip xs)
  | [], [], xs, _, h => by rw [Reps.nil_iff.mp h]; exact KR.nil
  | k :: ks, d :: ds, xs, hl, h => by
    obtain ⟨x, r, rfl, h1, h2⟩ := Reps.cons_iff.mp h
    exact KR.cons_iff.mpr ⟨x, _, rfl, h1, zip_kr (a := a) (by simpa using hl) h2⟩
/-- what is read as a dict -/
theorem Rep.dct_rd {ks : List Key} {ds : List D} {v : V} (h : Rep K S H (.dct ks ds) v) : ∃ a vs, v = .ref a ∧ H a = some (.dK vs) ∧ ¬ S a ∧ KR K S H (ks.zip ds) vs := by
  obtain ⟨a, xs, rfl, ⟨h1, hs⟩, hl, r⟩ := Rep.dct_iff.mp h
  exact ⟨a, _, rfl, h1, hs, zip_kr (a := a) hl r⟩
end
section
variable {X : Cx} {Wx : WX} {st : Stmt} {rest : List Stmt} {f g : TSD} {e o a b c i : Expr} {es : List Expr} {fe fo fa fb fc fi : TD} {fl : TL} {pos : Pos}
/-- d[k] of a dict that stands -/
def dDGet (fo fi : TD) : TD := fun ρ W Q Qx => fo ρ W (fun x ρ1 W1 => fi ρ1 W1 (fun y ρ2 W2 => match x with
  | .dct ks ds => ∃ k z, keyOf y = some k ∧ valD (ks.zip ds) k = some z ∧ Q z ρ2 W2
  | _ => False) Qx) Qx
theorem ge_dget (hu : X.A.units + 1 < cLine) (ho : GE X Wx o fo) (hi : GE X Wx i fi) (hs : NoSl i) : GE X Wx (.Subscript o i pos) (dDGet fo fi) := by
  obtain ⟨to, po, so⟩ := ho
  obtain ⟨ti, pi, si⟩ := hi
  refine ⟨_, pe_dget hu po pi hs, fun F S H σ ρ W Q Qx R cf hf hx hE => ?_⟩
  refine so F S H σ ρ W _ Qx _ cf hf hx fun S1 H1 ρ1 W1 d v e1 c1 r1 q1 => ?_
  refine si F S1 H1 σ ρ1 W1 _ Qx _ c1 q1 (hx.up e1) fun S2 H2 ρ2 W2 d2 v2 e2 c2 r2 q2 => ?_
  split at q2
  · rename_i ks ds
    obtain ⟨k, z, hk, hz, q⟩ := q2
    obtain ⟨a, vs, rfl, ha, hs, kr⟩ := (r1.up e2).dct_rd
    obtain ⟨w, hw, rw'⟩ := (kr.val k).1 z hz
    exact ⟨a, w, rfl, .inl ⟨vs, k, .inl ha, key_rep hk r2, hw.symm⟩, hE S2 H2 ρ2 W2 z w (e1.trans e2) c2 rw' q⟩
  · exact q2.elim
/-- x[k], x the frame's own dict -/
def dDGetO (j : Nat) (fi : TD) : TD := fun ρ W Q Qx => (∃ kvs, ρ[j]? = some (some (.od kvs))) ∧ fi ρ W (fun y ρ2 W2 => match ρ2[j]? with
  | some (some (.om (.dK kvs))) => ∃ k z, keyOf y = some k ∧ valD kvs k = some z ∧ Q z ρ2 W2
  | _ => False) Qx
theorem ge_dgetO {j : Nat} {x : Str} {px : Pos} (hu : X.A.units + 1 < cLine) (hi : GE X Wx i fi) (hs : NoSl i) (hN : X.N[j]? = some x := by rfl) (hv : Vis X.env.scope x := by first | exact Or.inl rfl | exact Or.inr (Or.inl rfl) | exact Or.inr (Or.inr rfl)) (hd : (x == ("__debug__" : Str)) = false := by decide) (hcd : (x == ("__classdict__" : Str)) = false := by decide) :
    GE X Wx (.Subscript (.Name x px) i pos) (dDGetO j fi) := by
  obtain ⟨ti, pi, si⟩ := hi
  refine ⟨_, pe_dget hu (pe_var hN hv hd hcd) pi hs, fun F S H σ ρ W Q Qx R cf hf hx hE => ?_⟩
  obtain ⟨⟨kvs0, h0⟩, hf⟩ := hf
  obtain ⟨p, hp, _⟩ := cf.om j _ h0
  refine ⟨_, hp, ?_⟩
  refine si F S H σ ρ W _ Qx _ cf hf hx fun S2 H2 ρ2 W2 d2 v2 e2 c2 r2 q2 => ?_
  split at q2
  · rename_i kvs hk0
    obtain ⟨k, z, hk, hz, q⟩ := q2
    obtain ⟨p', hp', ⟨vs, h1, kr⟩, _⟩ := c2.om j _ hk0
    rw [hp] at hp'; cases hp'
    obtain ⟨w, hw, rw'⟩ := (KR.val k kr).1 z hz
    exact ⟨p, w, rfl, .inl ⟨vs, k, .inl h1, key_rep hk r2, hw.symm⟩, hE S2 H2 ρ2 W2 z w e2 c2 rw' q⟩
  · exact q2.elim
/-- x[k] = e, x the frame's own dict -/
def dDPutO (j : Nat) (fe fi : TD) : TSD := fun De ρ W => fe ρ W (fun d ρ1 W1 => (∃ kvs, ρ1[j]? = some (some (.od kvs))) ∧ fi ρ1 W1 (fun y ρ2 W2 => match ρ2[j]? with
  | some (some (.om (.dK kvs))) => ∃ k, keyOf y = some k ∧ kvs.length < sizeLine ∧ De.nx (ρ2.set j (some (.od (putD kvs k d)))) W2
  | _ => False) De.ex) De.ex
theorem gs_dputO {j : Nat} {x : Str} {px tpos : Pos} (hu : X.A.units + 1 < cLine) (he : GE X Wx e fe) (hi : GE X Wx i fi) (hN : X.N[j]? = some x := by rfl) (hv : Vis X.env.scope x := by first | exact Or.inl rfl | exact Or.inr (Or.inl rfl) | exact Or.inr (Or.inr rfl)) (hd : (x == ("__debug__" : Str)) = false := by decide) (hcd : (x == ("__classdict__" : Str)) = false := by decide)
    (hs : swapsWith e (some (.Subscript (.Name x px) i tpos)) pos.line X.env = pure false := by rfl) : GS X Wx (.Assign [.Subscript (.Name x px) i tpos] e pos) (dDPutO j fe fi) := by
  obtain ⟨te, pe, se⟩ := he
  obtain ⟨ti, pi, si⟩ := hi
  refine ⟨_, ps_dput hu (pe_var hN hv hd hcd) pi pe hs, fun F S H σ ρ W De Dh cf hf l => ?_⟩
  refine se F S H σ ρ W _ De.ex _ cf hf l.ex fun S1 H1 ρ1 W1 d v e1 c1 r1 q1 => ?_
  obtain ⟨⟨kvs0, h0⟩, q1⟩ := q1
  obtain ⟨p, hp, _⟩ := c1.om j _ h0
  refine ⟨_, hp, ?_⟩
  refine si F S1 H1 σ ρ1 W1 _ De.ex _ c1 q1 (l.ex.up e1) fun S2 H2 ρ2 W2 d2 v2 e2 c2 r2 q2 => ?_
  split at q2
  · rename_i kvs hk0
    obtain ⟨k, hk, hl, q⟩ := q2
    obtain ⟨p', hp', ⟨vs, h1, kr⟩, _⟩ := c2.om j _ hk0
    rw [hp] at hp'; cases hp'
    have kr : KR X.K S2 H2 kvs vs := kr
    have r1' := r1.up e2
    obtain ⟨st, c4⟩ := c2.chOm (u := .dK (putK vs k v)) (o1 := .dK (putD kvs k d)) hk0 hp fun S' H' e' hh => ⟨_, hh, (kr.put k r1').up e'⟩
    exact ⟨p, _, rfl, .inl ⟨vs, k, h1, key_rep hk r2, by rw [kr.len]; exact hl, rfl⟩, l.nx _ _ _ _ _ ((e1.trans e2).trans st) c4 q⟩
  · exact q2.elim
/-- nobody changes the dict of slot j from here on -/
def dFrzD (j : Nat) (f : TSD) : TSD := fun De ρ W => match ρ[j]? with
  | some (some (.om (.dK kvs))) => f De (ρ.set j (some (.sh (.dk kvs)))) W
  | _ => False
theorem gss_frzD (j : Nat) (h : GSs X Wx rest f) : GSs X Wx rest (dFrzD j f) := by
  obtain ⟨t, p, s⟩ := h
  refine ⟨t, p, fun F S H σ ρ W De Dh cf hf l => ?_⟩
  unfold dFrzD at hf
  split at hf
  · rename_i kvs h0
    obtain ⟨S', e, c2⟩ := cf.freezeM (d := .dk kvs) h0 fun p S' _ hn ⟨vs, h1, kr⟩ => Rep.dk_of h1 hn kr
    exact s F S' H σ _ W De Dh c2 hf (l.up e)
  · exact hf.elim
/-- an expression that makes a new dict, last of all -/
def EndND (K : PySem.W.Frag) (F S : Reg) (H : Hp) (σ : St) (Q : List (Key × D) → G.Env → Wd → Prop) (R : VK) : Prop :=
  ∀ S' H' ρ' W' kvs vs p, Stp F S H S' H' → Cf K F S' H' σ ρ' W' → KR K S' H' kvs vs → H' p = none → Q kvs ρ' W' → R (.ref p) (upd H' p (.dK vs))
abbrev TDD := G.Env → Wd → (List (Key × D) → G.Env → Wd → Prop) → KX → Prop
def SndND (K : PySem.W.Frag) (Wx : WX) (te : TE) (f : TDD) : Prop :=
  ∀ F S H σ ρ W Q Qx R, Cf K F S H σ ρ W → f ρ W Q Qx → LkX K F S H Wx Qx → EndND K F S H σ Q R → te σ H R
def GD (X : Cx) (Wx : WX) (e : Expr) (f : TDD) : Prop := ∃ te, PE X e te ∧ SndND X.K Wx te f
def dEmp : TDD := fun ρ W Q _ => Q [] ρ W
theorem gd_emp : GD X Wx (.Dict [] [] pos) dEmp := ⟨_, pe_dnewK, fun F S H σ ρ W Q Qx R cf hf hx hE p hp => hE S H ρ W [] [] p .refl cf KR.nil hp hf⟩
/-- dict(d) -/
def dCopy (fe : TD) : TDD := fun ρ W Q Qx => fe ρ W (fun d ρ' W' => match d with | .dct ks ds => Q (ks.zip ds) ρ' W' | _ => False) Qx
theorem gd_copy {x : Str} {p : Pos} (hg : Gl X x) (hm : X.mg x = none) (hv : bootBuiltins x = some (.type "dict")) (ha : GE X Wx e fe) (hn : x ≠ "__name__" := by decide) (hdb : (x == ("__debug__" : Str)) = false := by decide)
    (he : starEach [e] X.env = (false, eval e X.env) :: starEach [] X.env := by rfl) (hpl : (backTo pos (starEach [] X.env)).any (·.1) = false := by rfl) : GD X Wx (.Call (.Name x p) [e] [] pos) (dCopy fe) := by
  obtain ⟨te, pe, se⟩ := ha
  refine ⟨_, pe_callTy call_dictD hg hm hv (pa_cons pe pa_nil he) hn hdb he hpl, fun F S H σ ρ W Q Qx R cf hf hx hE => ?_⟩
  refine se F S H σ ρ W _ Qx _ cf hf hx fun S' H' ρ' W' d v e' c r q => ?_
  split at q
  · rename_i ks ds
    obtain ⟨a, vs, rfl, ha, hs, kr⟩ := r.dct_rd
    exact ⟨a, vs, rfl, .inl ha, fun l hl => hE S' H' ρ' W' _ vs l e' c kr hl q⟩
  · exact q.elim
/-- x = {..}, the dict the frame's own -/
def dAsgD (j : Nat) (fd : TDD) : TSD := fun De ρ W => fd ρ W (fun kvs ρ' W' => De.nx (ρ'.set j (some (.od kvs))) W') De.ex
theorem gs_setD {j : Nat} {x : Str} {pos' : Pos} {fd : TDD} (hN : X.N.Nodup) (hi : X.N[j]? = some x) (hx : Loc X.env.scope x) (he : GD X Wx e fd) (hs : swapsWith e (some (.Name x pos')) pos.line X.env = pure false := by rfl) (hf : X.fn x = true ∨ X.env.scope.names.lookup x = some .local := by first | exact .inl rfl | exact .inr rfl | assumption) :
    GS X Wx (.Assign [.Name x pos'] e pos) (dAsgD j fd) := by
  obtain ⟨te, pe, se⟩ := he
  refine ⟨_, ps_set hN hi hx pe hs hf, fun F S H σ ρ W De Dh cf hf l => ?_⟩
  refine se F S H σ ρ W _ De.ex _ cf hf l.ex fun S' H' ρ' W' kvs vs p e' c r hp q => ?_
  obtain ⟨st, c2⟩ := c.newOm (u := .dK vs) (o := .dK kvs) j hp fun S2 H2 e2 hh => ⟨vs, hh, r.up e2⟩
  exact l.nx _ _ _ _ W' (e'.trans st) c2 q
/-- a dict, for reading alone -/
def dFreshD (fd : TDD) : TD := fun ρ W Q Qx => fd ρ W (fun kvs ρ' W' => Q (.dk kvs) ρ' W') Qx
theorem GD.ge {fd : TDD} (h : GD X Wx e fd) : GE X Wx e (dFreshD fd) := by
  obtain ⟨te, pe, se⟩ := h
  refine ⟨_, pe, fun F S H σ ρ W Q Qx R cf hf hx hE => ?_⟩
  refine se F S H σ ρ W _ Qx _ cf hf hx fun S1 H1 ρ1 W1 kvs vs p e1 c1 r1 hp q1 => ?_
  have nS : ¬ S1 p := fun z => c1.cb.sd p z hp
  have sm : Same H1 (upd H1 p (.dK vs)) := same_new hp
  exact hE S1 _ ρ1 W1 _ _ (e1.trans (stp_same c1.cb sm)) (c1.same sm) (Rep.dk_of upd_same nS (r1.up (stp_same c1.cb sm))) q1
/-- sorted(d), the keys texts, fewer than 64 -/
def dSortD (fe : TD) : TL := fun ρ W Q Qx => fe ρ W (fun d ρ' W' => match d with
  | .dct ks ds => ∃ zs : List Str, ks = zs.map Sum.inr ∧ zs.length < 64 ∧ ∀ ys : List Str, ys.Perm zs → PyProof.Rows.sortedS ys = true → Q (ys.map D.str) ρ' W'
  | _ => False) Qx
theorem gn_sortD {x : Str} {p : Pos} (hc : X.calm = true) (hg : Gl X x) (hm : X.mg x = none) (hv : bootBuiltins x = some (.builtin "sorted")) (ha : GE X Wx e fe) (hn : x ≠ "__name__" := by decide) (hdb : (x == ("__debug__" : Str)) = false := by decide)
    (he : starEach [e] X.env = (false, eval e X.env) :: starEach [] X.env := by rfl) (hpl : (backTo pos (starEach [] X.env)).any (·.1) = false := by rfl) : GN X Wx (.Call (.Name x p) [e] [] pos) (dSortD fe) := by
  obtain ⟨te, pe, se⟩ := ha
  refine ⟨_, pe_callB (call_sortedD hc) hg hm hv (pa_cons pe pa_nil he) hn hdb he hpl, fun F S H σ ρ W Q Qx R cf hf hx hE => ?_⟩
  refine se F S H σ ρ W _ Qx _ cf hf hx fun S' H' ρ' W' d v e' c r q => ?_
  split at q
  · rename_i ks ds
    obtain ⟨a, vs, rfl, ha, hs, kr⟩ := r.dct_rd
    obtain ⟨zs, hk, h64, q⟩ := q
    have hlen : ks.length = ds.length := by
      obtain ⟨_, _, _, _, hl, _⟩ := Rep.dct_iff.mp r
      exact hl
    have hkeys : vs.map (·.1) = zs.map Sum.inr := by
      rw [kr.1, ← hk]
      exact List.map_fst_zip (by omega)
    refine ⟨a, vs, zs, rfl, .inl ha, hkeys, h64, fun ys l hp hs2 hl => hE S' H' ρ' W' _ _ l e' c ?_ hl (q ys hp hs2)⟩
    have := Reps.map_v (K := X.K) (S := S') (H := H') (ys.map V.str)
    rw [List.map_map] at this
    exact this
  · exact q.elim
/-- d.get(k) -/
def dDGet1 (fo fi : TD) : TD := fun ρ W Q Qx => fo ρ W (fun x ρ1 W1 => (∃ ks ds, x = .dct ks ds) ∧ fi ρ1 W1 (fun y ρ2 W2 => match x with
  | .dct ks ds => ∃ k, keyOf y = some k ∧ Q ((valD (ks.zip ds) k).getD .non) ρ2 W2
  | _ => False) Qx) Qx
theorem ge_dget1 {apos cpos : Pos} (hu : X.A.units + 1 < cLine) (ho : GE X Wx o fo) (hi : GE X Wx i fi) (m : M1 X o "get" apos i cpos) : GE X Wx (.Call (.Attribute o "get" apos) [i] [] cpos) (dDGet1 fo fi) := by
  obtain ⟨to, po, so⟩ := ho
  obtain ⟨ti, pi, si⟩ := hi
  refine ⟨_, pe_dget1 hu po pi m, fun F S H σ ρ W Q Qx R cf hf hx hE => ?_⟩
  refine so F S H σ ρ W _ Qx _ cf hf hx fun S1 H1 ρ1 W1 d v e1 c1 r1 q1 => ?_
  obtain ⟨⟨ks, ds, rfl⟩, q1⟩ := q1
  obtain ⟨a, vs, rfl, ha, hs, kr⟩ := r1.dct_rd
  refine ⟨a, rfl, .inl ⟨vs, .inl ha⟩, ?_⟩
  refine si F S1 H1 σ ρ1 W1 _ Qx _ c1 q1 (hx.up e1) fun S2 H2 ρ2 W2 d2 v2 e2 c2 r2 q2 => ?_
  obtain ⟨k, hk, q⟩ := q2
  have ha2 := e2.keep a _ hs ha
  have kr2 := kr.up e2
  obtain ⟨k1, k2⟩ := kr2.val k
  cases hz : valD (ks.zip ds) k with
  | some z =>
    rw [hz] at q
    obtain ⟨w, hw, rw'⟩ := k1 z hz
    exact ⟨some w, .inl ⟨vs, k, .inl ha2, key_rep hk r2, hw.symm⟩, hE S2 H2 ρ2 W2 z w (e1.trans e2) c2 rw' q⟩
  | none =>
    rw [hz] at q
    exact ⟨none, .inl ⟨vs, k, .inl ha2, key_rep hk r2, (k2 hz).symm⟩, hE S2 H2 ρ2 W2 .non .non (e1.trans e2) c2 (Rep.v_iff.mpr rfl) q⟩
end
end G

namespace G
open PySem PySem.Spec L2 PyProof.Rows HT
section
variable {prog : Program} {w : World} {A : Around} {E : Value → Shared → Prop} {s : Shared}
/-! ### t[::-1] -/
theorem sliceApplied_rev {sl : Addr} {vs : Value} {n : Nat} {Q : Int × Int × Nat → Shared → Prop} (hs : s.heap.IsSliceOf sl .none .none vs) (ps : IsPart vs (some (-1)))
    (h : Q ((n : Int) - 1, -1, n) s) : wpAny (model prog w) A (Builtin.Slice.sliceApplied (.ref sl) (pure (n : Int))) Q E s := by
  obtain ⟨os, hos, hcs, hds⟩ := id hs
  unfold Builtin.Slice.sliceApplied Builtin.Slice.sliceFields
  refine wpAny_bind (wpAny_bind (wpAny_field hos hds (x := .none) rfl (wpAny_bind (wpAny_field hos hds (x := .none) rfl (wpAny_bind (wpAny_field hos hds (x := vs) rfl (wpAny_pure ?_)))))))
  refine wpAny_bind (slicePart_ ps ?_)
  show wpAny _ _ (if ((-1 : Int) == 0) = true then _ else _) _ _ s
  rw [if_neg (by decide)]
  refine wpAny_bind (slicePart_none (wpAny_bind (slicePart_none (wpAny_bind (wpAny_pure ?_)))))
  show wpAny _ _ (pure ((n : Int) - 1, (-1 : Int), Builtin.Slice.slicePlaces ((n : Int) - 1) (-1) (-1))) _ _ s
  have e : Builtin.Slice.slicePlaces ((n : Int) - 1) (-1) (-1) = n := by
    unfold Builtin.Slice.slicePlaces
    rw [if_neg (by decide)]
    by_cases h0 : n = 0
    · subst h0; rfl
    · rw [if_pos (by omega)]
      have : (((n : Int) - 1 - -1 - 1) / - -1 + 1) = (n : Int) := by
        rw [show (- -1 : Int) = 1 by decide, Int.ediv_one]; omega
      rw [this, Int.toNat_natCast]
  rw [e]
  exact wpAny_pure h
theorem pick_rev (xs : Array Value) : ((List.range xs.size).filterMap fun (m : Nat) => xs[((xs.size : Int) - 1 + (m : Int) * -1).toNat]?).toArray = xs.toList.reverse.toArray := by
  have k := PySem.W.krv_pick xs
  unfold slicePick at k
  rw [PySem.W.krv_bounds] at k
  have k' : ((sliceRange ((xs.size : Int) - 1) (-1) (-1)).filterMap (xs[·]?)).toArray = xs.toList.reverse.toArray := k
  rw [PySem.W.krv_sliceRange, List.filterMap_map] at k'
  rw [← k']
  congr 2
  funext m
  show xs[((xs.size : Int) - 1 + (m : Int) * -1).toNat]? = xs[xs.size - 1 - m]?
  congr 1
  omega
theorem is_bool_gen {v : Value} {b : Bool} {Q : Value → Shared → Prop} (hv : ∀ p, v ≠ .builtin p) (h : Q (.bool (v == .bool b)) s) : wpAny (model prog w) A (compareOp .Is v (.bool b)) Q E s := by
  cases v <;> first | exact wpAny_pure h | exact absurd rfl (hv _)
theorem isnot_bool_gen {v : Value} {b : Bool} {Q : Value → Shared → Prop} (hv : ∀ p, v ≠ .builtin p) (h : Q (.bool (!(v == .bool b))) s) : wpAny (model prog w) A (compareOp .IsNot v (.bool b)) Q E s := by
  cases v <;> first | exact wpAny_pure h | exact absurd rfl (hv _)
theorem getItem_tuple_rev {t sl : Addr} {items : Array Value} {vs : Value} {Q : Value → Shared → Prop} (ht : IsTup s.heap t items) (hs : s.heap.IsSliceOf sl .none .none vs) (ps : IsPart vs (some (-1)))
    (h : Q (.ref s.heap.objs.size) { s with heap := s.heap.push { cls := .type "tuple", data := .seq items.toList.reverse.toArray } }) (hsz : items.size ≤ sizeLine) : wpAny (model prog w) A (getItem (.ref t) (.ref sl)) Q E s := by
  have htake : sizeOk (.seq items.toList.reverse.toArray) := by
    show items.toList.reverse.toArray.size ≤ sizeLine
    rw [List.size_toArray, List.length_reverse, Array.length_toList]
    exact hsz
  obtain ⟨os, hos, hcs, hds⟩ := id hs
  have hTs : s.TypeIs (.ref sl) "slice" := ⟨os, hos, hcs⟩
  unfold getItem
  try with_reducible refine wpAny_holding ?_
  first | refine wpAny_bind (wpAny_pure ?_) | skip
  refine wpAny_bind (wpAny_sequenceKey ht.typeIs (by decide) ?_)
  refine wpAny_bind (wpAny_callSpecial?_slot (name := Str.ofString "__getitem__") ht.typeIs PyProof.Rows.slot_tuple_getitem
    (wpAny_call_entry PyProof.Rows.slot_tuple_getitem ht.typeIs PyProof.Rows.entry_tuple_getitem ?_ (PyProof.Rows.args_tuple_getitem _ _)))
  show wpAny _ _ (Builtin.Tuple.tupleItemsOf (.ref t) >>= _) _ _ s
  refine wpAny_bind (tupleItemsOf_ ht ?_)
  refine wpAny_bind (wpAny_typeOf hTs ?_)
  rw [if_pos (by decide)]
  refine wpAny_bind (sliceApplied_rev hs ps ?_)
  have hno : ¬ ((((items.size : Int) - 1) == 0 && (-1 : Int) == 1 && items.size == items.size) = true) := by
    intro q
    rw [Bool.and_eq_true, Bool.and_eq_true] at q
    exact absurd q.1.2 (by decide)
  show wpAny _ _ (if (((items.size : Int) - 1) == 0 && (-1 : Int) == 1 && items.size == items.size) = true then _ else _) _ _ s
  rw [if_neg hno, pick_rev]
  first
    | exact wpAny_bind (m := Builtin.Tuple.tupleExact _) (wpAny_newObj_type (wpAny_pure ⟨_, rfl, wpAny_pure h⟩) htake)
    | exact wpAny_bind (m := Builtin.Tuple.tupleExact _) (wpAny_newObj_type (wpAny_bind (wpAny_pure (wpAny_pure ⟨_, rfl, wpAny_pure h⟩))) htake)
    | exact wpAny_bind (wpAny_bind (m := Builtin.Tuple.tupleExact _) (wpAny_newObj_type (wpAny_pure (wpAny_pure ⟨_, rfl, wpAny_pure h⟩)) htake))
    | exact wpAny_bind (wpAny_bind (m := Builtin.Tuple.tupleExact _) (wpAny_newObj_type (wpAny_pure ⟨_, rfl, wpAny_pure h⟩) htake))
end
section
variable {X : Cx}
def tRevT (K : PySem.W.Frag) (te : TE) : TE := fun σ H Q => te σ H fun x H1 => ∃ a xs, x = .ref a ∧ SqT K H1 a xs ∧ ∀ p, H1 p = none → Q (.ref p) (upd H1 p (.tup xs.reverse))
theorem pe_revT {e : Expr} {te : TE} {k : Nat} {p1 p2 p3 pos : Pos} (he : PE X e te) : PE X (.Subscript e (.Slice none none (some (.UnaryOp .USub (.Constant (.int 1) k p1) p2)) p3) pos) (tRevT X.K te) := by
  refine ⟨fun pins s σ H Q I h => ?_⟩
  refine Subscript_ (thn (he.run pins s σ H _ I h) fun v s1 ⟨x, H1, I1, r1, q1⟩ => ?_)
  obtain ⟨a, xs, ex, hx, q⟩ := q1
  subst ex
  cases r1
  have hst : PO X (some (.UnaryOp .USub (.Constant (.int 1) k p1) p2)) (tPart (tUn (rU fun i => .int (-i)) (tC (.int 1)))) := po_some (pe_un un_neg pe_int)
  refine wpAny_Slice (thn (po_none.run pins s1 σ H1 (fun o H2 => o = none ∧ H2 = H1) I1 ⟨rfl, rfl⟩) fun vl s2 ⟨l, H2, I2, pl, el, e2⟩ => ?_)
  subst el e2
  refine thn (po_none.run pins s2 σ H2 (fun o H3 => o = none ∧ H3 = H2) I2 ⟨rfl, rfl⟩) fun vu s3 ⟨u, H3, I3, pu, eu, e3⟩ => ?_
  subst eu e3
  refine thn (hst.run pins s3 σ H3 (fun o H4 => o = some (-1) ∧ H4 = H3) I3 ⟨1, rfl, -1, rfl, rfl, rfl⟩) fun vs s4 ⟨o, H4, I4, ps, eo, e4⟩ => ?_
  subst eo e4
  have I5 : Inv X pins σ H4 { s4 with heap := s4.heap.push { cls := .type "slice", data := .fields #[vl, vu, vs] } } := I4.kept (t' := s4.toks) fun b ob q => Heap.get?_push_of_some _ q
  obtain ⟨its, r, ht, hz⟩ := I5.tuple hx
  have hlen := r.length
  cases pl
  cases pu
  show wpAny (model X.prog X.w) X.A (subscriptTail e (.Slice none none (some (.UnaryOp .USub (.Constant (.int 1) k p1) p2)) p3) (.ref a) (.ref s4.heap.objs.size)) (EP X pins σ Q) X.xe { s4 with heap := s4.heap.push { cls := .type "slice", data := .fields #[.none, .none, vs] } }
  refine tail_any (ops := [.ref a, .ref s4.heap.objs.size]) ht.typeIs (PyProof.Rows.slot_tuple_getitem.lookup) ?_ (by with_unfolding_all rfl)
  refine getItem_tuple_rev ht (Heap.IsSliceOf.new _ .none .none vs) ps ?_ (by rw [List.size_toArray]; omega)
  refine ⟨.ref _, _, I5.laid (t' := s4.toks) (o := .tup xs.reverse) (fun b ob q => Heap.get?_push_of_some _ q) (Nat.le_refl _) ?_, rfl, q _ (I5.hok.fresh (Nat.le_refl _))⟩
  exact ⟨by rw [List.length_reverse]; exact hz, _, r.reverse, IsTup.new _ _⟩
/-- x is True -/
def rIsBA : R2 := fun x y H Q => ∃ b : Bool, y = .bl b ∧ Q (.bl (decide (x = .bl b))) H
def rNotBA : R2 := fun x y H Q => ∃ b : Bool, y = .bl b ∧ Q (.bl (!decide (x = .bl b))) H
theorem bool_at {x : V} {v : Value} (b : Bool) (r : RelV x v) : (∀ p, v ≠ .builtin p) ∧ (v == Value.bool b) = decide (x = .bl b) := by
  cases x with
  | bl a =>
    cases r
    refine ⟨fun p q => (by cases q), ?_⟩
    rw [Bool.eq_iff_iff, beq_iff_eq, decide_eq_true_eq]
    exact ⟨fun h => by injection h with h; rw [h], fun h => by injection h with h; rw [h]⟩
  | _ => first
    | (obtain ⟨t, rfl⟩ := r; exact ⟨fun p q => by (first | cases q | (simp at q)), by simp⟩)
    | (cases r; exact ⟨fun p q => by (first | cases q | (simp at q)), by simp⟩)
theorem op_isBA : OpR X (compareOp .Is) rIsBA := by
  intro pins s σ H x y v u Q I rx ry h
  obtain ⟨b, rfl, q⟩ := h
  cases (show u = Value.bool b from ry)
  obtain ⟨h1, h2⟩ := bool_at b rx
  exact is_bool_gen h1 ⟨.bl _, H, I, by rw [h2]; rfl, q⟩
theorem op_notBA : OpR X (compareOp .IsNot) rNotBA := by
  intro pins s σ H x y v u Q I rx ry h
  obtain ⟨b, rfl, q⟩ := h
  cases (show u = Value.bool b from ry)
  obtain ⟨h1, h2⟩ := bool_at b rx
  exact isnot_bool_gen h1 ⟨.bl _, H, I, by rw [h2]; rfl, q⟩
theorem op_isA : OpR X (compareOp .Is) (fun x y H Q => (y = .non ∧ Q (.bl (decide (x = .non))) H) ∨ rIsBA x y H Q) := OpR.or op_isN op_isBA
theorem op_notA : OpR X (compareOp .IsNot) (fun x y H Q => (y = .non ∧ Q (.bl (!decide (x = .non))) H) ∨ rNotBA x y H Q) := OpR.or op_notN op_notBA
def D.isV : D → V → Bool
  | .v x, y => decide (x = y)
  | _, _ => false
def dIsA : D → D → (D → Prop) → Prop := fun d e Q => match e with
  | .v .non => Q (.bl (d.isV .non))
  | .v (.bl b) => Q (.bl (d.isV (.bl b)))
  | _ => False
def dNotA : D → D → (D → Prop) → Prop := fun d e Q => match e with
  | .v .non => Q (.bl (!d.isV .non))
  | .v (.bl b) => Q (.bl (!d.isV (.bl b)))
  | _ => False
variable {K : PySem.W.Frag}
theorem isV_rep {S : Reg} {H : Hp} {d : D} {x y : V} (r : Rep K S H d x) (hy : ∀ a, y ≠ .ref a) : decide (x = y) = d.isV y := by
  cases d with
  | v z => rw [Rep.v_iff.mp r]; rfl
  | tup ds => obtain ⟨a, _, rfl, _⟩ := Rep.tup_iff.mp r; exact decide_eq_false fun q => hy a q.symm
  | lst ds => obtain ⟨a, _, rfl, _⟩ := Rep.lst_iff.mp r; exact decide_eq_false fun q => hy a q.symm
  | scr ds => obtain ⟨a, rfl, _⟩ := Rep.scr_iff.mp r; exact decide_eq_false fun q => hy a q.symm
  | dct ks ds => obtain ⟨a, _, rfl, _⟩ := Rep.dct_iff.mp r; exact decide_eq_false fun q => hy a q.symm
  | exc c ks ds => obtain ⟨a, _, _, rfl, _⟩ := Rep.exc_iff.mp r; exact decide_eq_false fun q => hy a q.symm
  | tpf ds => obtain ⟨a, _, _, rfl, _⟩ := Rep.tpf_iff.mp r; exact decide_eq_false fun q => hy a q.symm
theorem rs_isA : RSnd K (fun x y H Q => (y = .non ∧ Q (.bl (decide (x = .non))) H) ∨ rIsBA x y H Q) dIsA := fun F S H W d e x y P R cb rd re hp k => by
  unfold dIsA at hp
  split at hp
  · rw [Rep.v_iff] at re
    exact .inl ⟨re, k _ _ H (Same.refl H) (Rep.v_iff.mpr (by rw [isV_rep rd fun a q => by cases q])) hp⟩
  · rw [Rep.v_iff] at re
    exact .inr ⟨_, re, k _ _ H (Same.refl H) (Rep.v_iff.mpr (by rw [isV_rep rd fun a q => by cases q])) hp⟩
  · exact hp.elim
theorem rs_notA : RSnd K (fun x y H Q => (y = .non ∧ Q (.bl (!decide (x = .non))) H) ∨ rNotBA x y H Q) dNotA := fun F S H W d e x y P R cb rd re hp k => by
  unfold dNotA at hp
  split at hp
  · rw [Rep.v_iff] at re
    exact .inl ⟨re, k _ _ H (Same.refl H) (Rep.v_iff.mpr (by rw [isV_rep rd fun a q => by cases q])) hp⟩
  · rw [Rep.v_iff] at re
    exact .inr ⟨_, re, k _ _ H (Same.refl H) (Rep.v_iff.mpr (by rw [isV_rep rd fun a q => by cases q])) hp⟩
  · exact hp.elim
end
section
variable {X : Cx} {Wx : WX} {e : Expr} {fe : TD} {pos : Pos} {k : Nat} {p1 p2 p3 : Pos}
def dRevT (fe : TD) : TD := fun ρ W Q Qx => fe ρ W (fun d ρ' W' => match d with | .tup ds => Q (.tup ds.reverse) ρ' W' | _ => False) Qx
theorem Reps.rev {K : PySem.W.Frag} {S : Reg} {H : Hp} : ∀ {ds : List D} {vs : List V}, Reps K S H ds vs → Reps K S H ds.reverse vs.reverse
  | [], vs, h => by rw [Reps.nil_iff.mp h]; exact Reps.nil
  | d :: ds, vs, h => by
    obtain ⟨x, r, rfl, h1, h2⟩ := Reps.cons_iff.mp h
    rw [List.reverse_cons, List.reverse_cons]
    exact (Reps.rev h2).append (Reps.cons h1 Reps.nil)
theorem ge_revT (he : GE X Wx e fe) : GE X Wx (.Subscript e (.Slice none none (some (.UnaryOp .USub (.Constant (.int 1) k p1) p2)) p3) pos) (dRevT fe) := by
  obtain ⟨te, pe, se⟩ := he
  refine ⟨_, pe_revT pe, fun F S H σ ρ W Q Qx R cf hf hx hE => ?_⟩
  refine se F S H σ ρ W _ Qx _ cf hf hx fun S' H' ρ' W' d v e' c r q => ?_
  split at q
  · obtain ⟨a, xs, rfl, h1, h2⟩ := Rep.tup_iff.mp r
    refine ⟨a, xs, rfl, h1.sq, fun p hp => ?_⟩
    have sm : Same H' (upd H' p (.tup xs.reverse)) := same_new hp
    exact hE S' _ ρ' W' _ _ (e'.trans (stp_same c.cb sm)) (c.same sm) (rep_newT c.cb hp h2.rev) q
  · exact q.elim
def dRevL (fe : TD) : TL := fun ρ W Q Qx => fe ρ W (fun d ρ' W' => match d with | .lst ds => Q ds.reverse ρ' W' | _ => False) Qx
theorem gn_revL (he : GE X Wx e fe) : GN X Wx (.Subscript e (.Slice none none (some (.UnaryOp .USub (.Constant (.int 1) k p1) p2)) p3) pos) (dRevL fe) := by
  obtain ⟨te, pe, se⟩ := he
  refine ⟨_, pe_revL pe, fun F S H σ ρ W Q Qx R cf hf hx hE => ?_⟩
  refine se F S H σ ρ W _ Qx _ cf hf hx fun S' H' ρ' W' d v e' c r q => ?_
  split at q
  · obtain ⟨a, xs, rfl, h1, h2⟩ := Rep.lst_iff.mp r
    exact ⟨a, xs, rfl, h1.sq, fun p hp => hE S' H' ρ' W' _ _ p e' c h2.rev hp q⟩
  · exact q.elim
/-- a, b, c = e1, e2, e3 with three local names -/
def dPar3 (i j l : Nat) (fl : TL) : TSD := fun De ρ W => fl ρ W (fun ds ρ' W' => match ds with | [d, d', d''] => De.nx (((ρ'.set i (some (.sh d))).set j (some (.sh d'))).set l (some (.sh d''))) W' | _ => False) De.ex
theorem gs_par3 {i j l : Nat} {x y z : Str} {a b c : Expr} {fl : TL} {px py pz pt : Pos} {kt k2 pt2} (hc : X.calm = true) (hN : X.N.Nodup) (hi : X.N[i]? = some x) (hj : X.N[j]? = some y) (hl : X.N[l]? = some z) (hij : i ≠ j) (hil : i ≠ l) (hjl : j ≠ l)
    (hx : X.env.scope.names.lookup x = some .local) (hy : X.env.scope.names.lookup y = some .local) (hz : X.env.scope.names.lookup z = some .local) (ha : GA X Wx [a, b, c] fl)
    (hw : swappedStores [.Tuple [.Name x px, .Name y py, .Name z pz] kt pt] (.Tuple [a, b, c] k2 pt2) X.env = pure (some [x, y, z]))
    (hs : swapsWithSole [.Tuple [.Name x px, .Name y py, .Name z pz] kt pt] (.Tuple [a, b, c] k2 pt2) pos.line X.env = pure false := by rfl) :
    GS X Wx (.Assign [.Tuple [.Name x px, .Name y py, .Name z pz] kt pt] (.Tuple [a, b, c] k2 pt2) pos) (dPar3 i j l fl) := by
  obtain ⟨ta, pa, sa⟩ := ha
  refine ⟨_, ps_par3 hc hN hi hj hl hij hil hjl hx hy hz pa hw hs, fun F S H σ ρ W De Dh cf hf lk => ?_⟩
  refine sa F S H σ ρ W _ De.ex _ cf hf lk.ex fun S' H' ρ' W' ds vs e' c r q => ?_
  split at q
  · rename_i d d' d''
    obtain ⟨v, rv, rfl, r1, r2⟩ := Reps.cons_iff.mp r
    obtain ⟨w, rw', rfl, r3, r4⟩ := Reps.cons_iff.mp r2
    obtain ⟨u, ru, rfl, r5, r6⟩ := Reps.cons_iff.mp r4
    rw [Reps.nil_iff.mp r6]
    exact ⟨v, w, u, rfl, lk.nx S' H' _ _ W' e' (((c.setSh i r1).setSh j r3).setSh l r5) q⟩
  · exact q.elim
end
end G

namespace G
open PySem PySem.Spec L2
/-! ### repr -/
def rRepr (K : PySem.W.Frag) : List V → Hp → VK → Prop := fun xs H Q => ∃ (v : V) (d : PyData), xs = [v] ∧ Dp K H v d ∧ d.showable = true ∧ d.hasDict = false ∧ d.depth ≤ 60 ∧ d.shown.length ≤ sizeLine ∧ Q (.str d.shown) H
theorem cr_repr {X : Cx} (hu : X.A.units + 64 < cLine) (hg : X.A.guards = some []) : CallR X (.builtin "repr") (rRepr X.K) := by
  intro pins s σ H vs us Q I r h
  obtain ⟨v, d, rfl, dp, hs, hd, h60, hz, q⟩ := h
  cases r with
  | cons rel r' =>
  cases r'
  cases dp with
  | non =>
    cases rel
    exact P.repr_of_none ⟨.str _, H, I.tok _, ⟨_, rfl⟩, by rw [PyData.shown] at q; exact q⟩
  | bl b =>
    cases rel
    exact P.repr_of_bool ⟨.str _, H, I.tok _, ⟨_, rfl⟩, by rw [PyData.shown] at q; exact q⟩
  | int i =>
    obtain ⟨t, rfl⟩ := rel
    have : i.natAbs.log2 < 1920 := by simpa [PyData.showable] using hs
    exact P.repr_of_int this ⟨.str _, H, I.tok _, ⟨_, rfl⟩, by rw [PyData.shown] at q; exact q⟩
  | str x =>
    obtain ⟨t, rfl⟩ := rel
    exact P.repr_of_str ⟨.str _, H, I.tok _, ⟨_, rfl⟩, by rw [PyData.shown] at q; exact q⟩ (by rw [PyData.shown] at hz; exact hz)
  | lst h1 h2 =>
    cases rel
    obtain ⟨as, rd⟩ := Dp.reads I _ _ (Value.ref _) (.lst h1 h2) rfl
    exact repr_of_reads' rd hs (PyData.noDict_hsm hd) hg (by omega) (fun _ _ e => e) (fun h' u tk hk => ⟨.str _, H, I.kept hk, ⟨u, rfl⟩, q⟩) hz
  | tup h1 h2 =>
    cases rel
    obtain ⟨as, rd⟩ := Dp.reads I _ _ (Value.ref _) (.tup h1 h2) rfl
    exact repr_of_reads' rd hs (PyData.noDict_hsm hd) hg (by omega) (fun _ _ e => e) (fun h' u tk hk => ⟨.str _, H, I.kept hk, ⟨u, rfl⟩, q⟩) hz
@[irreducible] def shownD (d : D) : Str := d.py.shown
def dRepr : List D → (D → Prop) → Prop := fun ds Q => match ds with
  | [d] => D.good 60 d = true ∧ d.py.showable = true ∧ (shownD d).length ≤ sizeLine ∧ Q (.str (shownD d))
  | _ => False
theorem cs_repr {K : PySem.W.Frag} : CSnd K (rRepr K) dRepr := fun F S H W ds xs P R cb rd hp k => by
  unfold dRepr at hp
  split at hp
  · obtain ⟨x, rfl, h⟩ := reps1 rd
    obtain ⟨h1, h2, h3, h4⟩ := hp
    unfold shownD at h3 h4
    obtain ⟨l1, l2⟩ := lay_of h1
    exact ⟨x, _, rfl, dp_of h1 h, h2, PyData.hasDict_of_canLay _ l1, l2, h3, k _ _ H (Same.refl H) (Rep.v_iff.mpr rfl) h4⟩
  · exact hp.elim
/-! ### how long it is -/
mutual
def wt : D → Nat
  | .v .non => 5
  | .v (.bl _) => 6
  | .v (.int i) => i.natAbs.log2 + 3
  | .v (.str s) => 10 * s.length + 2
  | .tup ds => wts ds + 5
  | .lst ds => wts ds + 5
  | _ => 0
def wts : List D → Nat
  | [] => 0
  | d :: ds => wt d + 2 + wts ds
end
theorem wts_app : ∀ a b : List D, wts (a ++ b) = wts a + wts b
  | [], b => by simp [wts]
  | d :: a, b => by
    rw [List.cons_append, wts, wts, wts_app a b]; omega
theorem wts_mem : ∀ {ds : List D} {d : D}, d ∈ ds → wt d + 2 ≤ wts ds
  | e :: ds, d, h => by
    rw [wts]
    rcases List.mem_cons.mp h with rfl | h
    · omega
    · have := wts_mem h; omega
theorem wts_len : ∀ ds : List D, 2 * ds.length ≤ wts ds
  | [] => Nat.zero_le _
  | d :: ds => by rw [wts, List.length_cons]; have := wts_len ds; omega
theorem wts_sub : ∀ {a b : List D}, a.Sublist b → wts a ≤ wts b
  | _, _, .slnil => Nat.le_refl _
  | _, _, .cons x h => by rw [wts]; have := wts_sub h; omega
  | _, _, .cons₂ x h => by rw [wts, wts]; have := wts_sub h; omega
mutual
def iOk : D → Bool
  | .v (.int i) => decide (i.natAbs.log2 < 1920)
  | .tup ds => iOks ds
  | .lst ds => iOks ds
  | .scr _ => false
  | _ => true
def iOks : List D → Bool
  | [] => true
  | d :: ds => iOk d && iOks ds
end
theorem iOks_all : ∀ ds : List D, iOks ds = ds.all iOk
  | [] => rfl
  | d :: ds => by rw [iOks, List.all_cons, iOks_all ds]
theorem goods_all (n : Nat) : ∀ ds : List D, goods n ds = ds.all (D.good n)
  | [] => rfl
  | d :: ds => by rw [goods, List.all_cons, goods_all n ds]
mutual
theorem show_of : ∀ {n : Nat} {d : D}, D.good n d = true → iOk d = true → d.py.showable = true ∧ d.py.shown.length ≤ wt d
  | _, .v .non, _, _ => by rw [D.py, PyData.shown, wt]; exact ⟨rfl, by decide +kernel⟩
  | _, .v (.bl b), _, _ => by rw [D.py, PyData.shown, wt]; exact ⟨rfl, by cases b <;> decide +kernel⟩
  | _, .v (.int i), _, h => by
    rw [iOk, decide_eq_true_eq] at h
    rw [D.py, PyData.shown, wt, PyData.showable]
    have := int_text_length_le (a := i) (k := i.natAbs.log2 + 1) (by omega) (by omega)
    refine ⟨decide_eq_true h, ?_⟩
    rw [ofString_length]; omega
  | _, .v (.str b), g, _ => by
    rw [D.good] at g
    rw [D.py, PyData.shown, wt, PyData.showable]
    refine ⟨rfl, StrLaws.reprText_len b fun c hc => ?_⟩
    unfold PyData.strOk at g
    rw [Array.all_eq_true_iff_forall_mem] at g
    have := g c (by simpa using hc)
    have : c < 0x110000 := by simpa using this
    omega
  | _, .v (.byt _), h, _ => by simp [D.good] at h
  | _, .v (.flt _), h, _ => by simp [D.good] at h
  | _, .v (.ref _), h, _ => by simp [D.good] at h
  | _, .v (.ty _), h, _ => by simp [D.good] at h
  | 0, .tup _, h, _ => by simp [D.good] at h
  | 0, .lst _, h, _ => by simp [D.good] at h
  | 0, .scr _, h, _ => by simp [D.good] at h
  | 0, .dct _ _, h, _ => by simp [D.good] at h
  | _ + 1, .dct _ _, h, _ => by simp [D.good] at h
  | 0, .exc _ _ _, h, _ => by simp [D.good] at h
  | _ + 1, .exc _ _ _, h, _ => by simp [D.good] at h
  | 0, .tpf _, h, _ => by simp [D.good] at h
  | _ + 1, .tpf _, h, _ => by simp [D.good] at h
  | n + 1, .tup ds, g, h => by
    obtain ⟨a1, a2⟩ := shows_of (n := n) (ds := ds) (by simpa [D.good] using g) (by simpa [iOk] using h)
    rw [D.py, PyData.shown, wt, PyData.showable]
    have := tupleText_len_le (PyData.shownAll (pys ds))
    exact ⟨a1, by omega⟩
  | n + 1, .lst ds, g, h => by
    obtain ⟨a1, a2⟩ := shows_of (n := n) (ds := ds) (by simpa [D.good] using g) (by simpa [iOk] using h)
    rw [D.py, PyData.shown, wt, PyData.showable]
    have := listText_len_le (PyData.shownAll (pys ds))
    exact ⟨a1, by omega⟩
  | n + 1, .scr ns, g, h => by simp [iOk] at h
theorem shows_of : ∀ {n : Nat} {ds : List D}, goods n ds = true → iOks ds = true → PyData.showableAll (pys ds) = true ∧ ((PyData.shownAll (pys ds)).map (·.length)).sum + 2 * (PyData.shownAll (pys ds)).length ≤ wts ds
  | _, [], _, _ => by rw [pys, PyData.shownAll, wts]; exact ⟨rfl, by simp⟩
  | n, d :: ds, g, h => by
    rw [goods, Bool.and_eq_true] at g
    rw [iOks, Bool.and_eq_true] at h
    obtain ⟨a1, a2⟩ := show_of g.1 h.1
    obtain ⟨b1, b2⟩ := shows_of g.2 h.2
    rw [pys, PyData.shownAll, wts, PyData.showableAll, a1, b1]
    rw [List.map_cons, List.sum_cons, List.length_cons]
    exact ⟨rfl, by omega⟩
end
mutual
theorem good_up : ∀ {n m : Nat} {d : D}, n ≤ m → D.good n d = true → D.good m d = true
  | _, _, .v .non, _, _ => by simp [D.good]
  | _, _, .v (.bl _), _, _ => by simp [D.good]
  | _, _, .v (.int _), _, _ => by simp [D.good]
  | _, _, .v (.str b), _, g => by rw [D.good] at g ⊢; exact g
  | _, _, .v (.byt _), _, h => by simp [D.good] at h
  | _, _, .v (.flt _), _, h => by simp [D.good] at h
  | _, _, .v (.ref _), _, h => by simp [D.good] at h
  | _, _, .v (.ty _), _, h => by simp [D.good] at h
  | 0, _, .tup _, _, h => by simp [D.good] at h
  | 0, _, .lst _, _, h => by simp [D.good] at h
  | 0, _, .scr _, _, h => by simp [D.good] at h
  | 0, _, .dct _ _, _, h => by simp [D.good] at h
  | _ + 1, _, .dct _ _, _, h => by simp [D.good] at h
  | 0, _, .exc _ _ _, _, h => by simp [D.good] at h
  | _ + 1, _, .exc _ _ _, _, h => by simp [D.good] at h
  | 0, _, .tpf _, _, h => by simp [D.good] at h
  | _ + 1, _, .tpf _, _, h => by simp [D.good] at h
  | n + 1, 0, _, l, _ => absurd l (by omega)
  | n + 1, m + 1, .tup ds, l, g => by
    rw [D.good] at g ⊢
    exact goods_up (by omega) g
  | n + 1, m + 1, .lst ds, l, g => by
    rw [D.good] at g ⊢
    exact goods_up (by omega) g
  | n + 1, m + 1, .scr _, _, _ => by simp [D.good]
theorem goods_up : ∀ {n m : Nat} {ds : List D}, n ≤ m → goods n ds = true → goods m ds = true
  | _, _, [], _, _ => by simp [goods]
  | n, m, d :: ds, l, g => by
    rw [goods, Bool.and_eq_true] at g ⊢
    exact ⟨good_up l g.1, goods_up l g.2⟩
end
/-- data of this depth and weight at most -/
structure Nice (n B : Nat) (d : D) : Prop where
  good : D.good n d = true
  ok : iOk d = true
  le : wt d ≤ B
structure NiceL (n B : Nat) (ds : List D) : Prop where
  good : goods n ds = true
  ok : iOks ds = true
  le : wts ds ≤ B
theorem Nice.up {n B m C : Nat} {d : D} (h : Nice n B d) (h1 : n ≤ m) (h2 : B ≤ C) : Nice m C d := ⟨good_up h1 h.good, h.ok, Nat.le_trans h.le h2⟩
theorem NiceL.up {n B m C : Nat} {d : List D} (h : NiceL n B d) (h1 : n ≤ m) (h2 : B ≤ C) : NiceL m C d := ⟨goods_up h1 h.good, h.ok, Nat.le_trans h.le h2⟩
theorem NiceL.nil {n B : Nat} : NiceL n B [] := ⟨rfl, rfl, Nat.zero_le _⟩
theorem NiceL.cons {n B C : Nat} {d : D} {ds : List D} (h : Nice n B d) (t : NiceL n C ds) : NiceL n (B + 2 + C) (d :: ds) := by
  refine ⟨?_, ?_, ?_⟩
  · rw [goods, h.good, t.good]; rfl
  · rw [iOks, h.ok, t.ok]; rfl
  · rw [wts]; have := h.le; have := t.le; omega
theorem NiceL.app {n B C : Nat} {a b : List D} (h : NiceL n B a) (t : NiceL n C b) : NiceL n (B + C) (a ++ b) := by
  refine ⟨?_, ?_, ?_⟩
  · rw [goods_all, List.all_append, ← goods_all, ← goods_all, h.good, t.good]; rfl
  · rw [iOks_all, List.all_append, ← iOks_all, ← iOks_all, h.ok, t.ok]; rfl
  · rw [wts_app]; have := h.le; have := t.le; omega
theorem NiceL.mem {n B : Nat} {ds : List D} {d : D} (h : NiceL n B ds) (hd : d ∈ ds) : Nice n B d := by
  refine ⟨?_, ?_, ?_⟩
  · have := h.good; rw [goods_all, List.all_eq_true] at this; exact this d hd
  · have := h.ok; rw [iOks_all, List.all_eq_true] at this; exact this d hd
  · have := wts_mem hd; have := h.le; omega
theorem NiceL.of {n B : Nat} {ds : List D} {C : Nat} (h : ∀ d ∈ ds, Nice n B d) (hc : ds.length * (B + 2) ≤ C) : NiceL n C ds := by
  induction ds generalizing C with
  | nil => exact .nil
  | cons d ds ih =>
    rw [List.length_cons, Nat.add_mul, Nat.one_mul] at hc
    have a := h d List.mem_cons_self
    have b := ih (C := ds.length * (B + 2)) (fun x hx => h x (List.mem_cons_of_mem _ hx)) (Nat.le_refl _)
    exact (NiceL.cons a b).up (Nat.le_refl _) (by omega)
theorem NiceL.sub {n B : Nat} {a b : List D} (h : NiceL n B b) (s : a.Sublist b) : NiceL n B a := by
  refine ⟨?_, ?_, Nat.le_trans (wts_sub s) h.le⟩
  · have := h.good; rw [goods_all, List.all_eq_true] at this ⊢; exact fun d hd => this d (s.subset hd)
  · have := h.ok; rw [iOks_all, List.all_eq_true] at this ⊢; exact fun d hd => this d (s.subset hd)
theorem NiceL.rev {n B : Nat} {a : List D} (h : NiceL n B a) : NiceL n B a.reverse := by
  have e : ∀ l : List D, wts l.reverse = wts l := fun l => by
    induction l with
    | nil => rfl
    | cons d l ih => rw [List.reverse_cons, wts_app, ih, wts, wts, wts]; omega
  refine ⟨?_, ?_, by rw [e]; exact h.le⟩
  · have := h.good; rw [goods_all] at this ⊢; rw [List.all_reverse]; exact this
  · have := h.ok; rw [iOks_all] at this ⊢; rw [List.all_reverse]; exact this
theorem NiceL.len {n B : Nat} {ds : List D} (h : NiceL n B ds) : 2 * ds.length ≤ B := Nat.le_trans (wts_len ds) h.le
theorem Nice.tup {n B : Nat} {ds : List D} (h : NiceL n B ds) : Nice (n + 1) (B + 5) (.tup ds) := ⟨by rw [D.good]; exact h.good, by rw [iOk]; exact h.ok, by rw [G.wt]; have := h.le; omega⟩
theorem Nice.lst {n B : Nat} {ds : List D} (h : NiceL n B ds) : Nice (n + 1) (B + 5) (.lst ds) := ⟨by rw [D.good]; exact h.good, by rw [iOk]; exact h.ok, by rw [G.wt]; have := h.le; omega⟩
theorem Nice.untup {n B : Nat} {ds : List D} (h : Nice (n + 1) B (.tup ds)) : NiceL n B ds := ⟨by have := h.good; rwa [D.good] at this, by have := h.ok; rwa [iOk] at this, by have := h.le; rw [G.wt] at this; omega⟩
theorem Nice.unlst {n B : Nat} {ds : List D} (h : Nice (n + 1) B (.lst ds)) : NiceL n B ds := ⟨by have := h.good; rwa [D.good] at this, by have := h.ok; rwa [iOk] at this, by have := h.le; rw [G.wt] at this; omega⟩
theorem Nice.slen {n B : Nat} {s : Str} (h : Nice n B (.str s)) : s.length ≤ B := by have := h.le; rw [G.wt] at this; omega
theorem Nice.str {n B : Nat} {s : Str} (h : PyData.strOk s = true) (hB : 10 * s.length + 2 ≤ B) : Nice n B (.str s) := ⟨by rw [D.good]; exact h, rfl, by rw [G.wt]; exact hB⟩
theorem Nice.int {n B : Nat} {i : Int} (h : i.natAbs.log2 + 3 ≤ B) (hi : i.natAbs.log2 < 1920) : Nice n B (.int i) := ⟨by simp [D.good], by rw [iOk, decide_eq_true_eq]; exact hi, by rw [G.wt]; exact h⟩
theorem Nice.bl {n B : Nat} {b : Bool} (h : 6 ≤ B) : Nice n B (.bl b) := ⟨by simp [D.good], rfl, by rw [G.wt]; exact h⟩
theorem Nice.non {n B : Nat} (h : 5 ≤ B) : Nice n B .non := ⟨by simp [D.good], rfl, by rw [G.wt]; exact h⟩
theorem repr_nice {n B : Nat} {d : D} (h : Nice n B d) (hn : n ≤ 60) (hB : B ≤ 16777216) {Q : D → Prop} (q : Q (.str (shownD d))) : dRepr [d] Q := by
  obtain ⟨a, b⟩ := show_of h.good h.ok
  refine ⟨good_up hn h.good, a, ?_, q⟩
  unfold shownD
  have := h.le
  rw [show sizeLine = 16777216 from rfl]; omega
end G

namespace G
open PySem PySem.Spec L2
/-! ### x.pop(k, e), x the frame's own dict -/
section
variable {X : Cx} {Wx : WX} {i e : Expr} {fi fx : TD}
def dDPopO (j : Nat) (fi fx : TD) : TD := fun ρ W Q Qx => (∃ kvs, ρ[j]? = some (some (.od kvs))) ∧ fi ρ W (fun y ρ2 W2 => fx ρ2 W2 (fun z ρ3 W3 => match ρ3[j]? with
  | some (some (.om (.dK kvs))) => ∃ k, keyOf y = some k ∧ (match valD kvs k with
    | some v => Q v (ρ3.set j (some (.od (dropD kvs k)))) W3
    | none => Q z ρ3 W3)
  | _ => False) Qx) Qx
theorem ge_dpopO {j : Nat} {x : Str} {px apos cpos : Pos} (hi : GE X Wx i fi) (he : GE X Wx e fx) (m : M2 X (.Name x px) "pop" apos i e cpos) (hN : X.N[j]? = some x := by rfl) (hv : Vis X.env.scope x := by first | exact Or.inl rfl | exact Or.inr (Or.inl rfl) | exact Or.inr (Or.inr rfl)) (hd : (x == ("__debug__" : Str)) = false := by decide) (hcd : (x == ("__classdict__" : Str)) = false := by decide) :
    GE X Wx (.Call (.Attribute (.Name x px) "pop" apos) [i, e] [] cpos) (dDPopO j fi fx) := by
  obtain ⟨ti, pi, si⟩ := hi
  obtain ⟨te, pe, se⟩ := he
  refine ⟨_, pe_dpop2 (pe_var hN hv hd hcd) pi pe m, fun F S H σ ρ W Q Qx R cf hf hx hE => ?_⟩
  obtain ⟨⟨kvs0, h0⟩, hf⟩ := hf
  obtain ⟨p, hp, ⟨vs0, m0, _⟩, _⟩ := cf.om j _ h0
  refine ⟨_, hp, p, rfl, .inl ⟨_, .inl m0⟩, ?_⟩
  refine si F S H σ ρ W _ Qx _ cf hf hx fun S2 H2 ρ2 W2 d2 v2 e2 c2 r2 q2 => ?_
  refine se F S2 H2 σ ρ2 W2 _ Qx _ c2 q2 (hx.up e2) fun S3 H3 ρ3 W3 d3 v3 e3 c3 r3 q3 => ?_
  split at q3
  · rename_i kvs hk0
    obtain ⟨k, hk, q⟩ := q3
    obtain ⟨p', hp', ⟨vs, h1, kr⟩, _⟩ := c3.om j _ hk0
    rw [hp] at hp'; cases hp'
    have kr : KR X.K S3 H3 kvs vs := kr
    refine ⟨vs, k, h1, key_rep hk r2, fun v hv => ?_, fun hv => ?_⟩
    · cases z : valD kvs k with
      | none => rw [(KR.val k kr).2 z] at hv; cases hv
      | some d =>
        rw [z] at q
        obtain ⟨v', hv', rv⟩ := (KR.val k kr).1 d z
        rw [hv] at hv'; cases hv'
        obtain ⟨st, c4⟩ := c3.chOm (u := .dK (dropK vs k)) (o1 := .dK (dropD kvs k)) hk0 hp fun S' H' e' hh => ⟨_, hh, (kr.drop k).up e'⟩
        exact hE S3 _ _ W3 d v ((e2.trans e3).trans (st.mono fun _ h => h)) c4 (rv.up st) q
    · cases z : valD kvs k with
      | some d =>
        obtain ⟨v', hv', rv⟩ := (KR.val k kr).1 d z
        rw [hv] at hv'; cases hv'
      | none =>
        rw [z] at q
        exact hE S3 H3 ρ3 W3 d3 v3 (e2.trans e3) c3 r3 q
  · exact q3.elim
end
/-! ### {k: v, ..}, for reading alone -/
section
variable {K : PySem.W.Frag} {F S : Reg} {H : Hp} {σ : St} {ρ : Env} {W : Wd} {p : Addr} {u : HO}
/-- a new object that nobody else may touch -/
theorem Cf.reg (c : Cf K F S H σ ρ W) (hp : H p = none) : Stp F S H (fun a => S a ∨ a = p) (upd H p u) ∧ Cf K (fun a => F a ∨ a = p) (fun a => S a ∨ a = p) (upd H p u) σ ρ W := by
  have st : Stp F S H (fun a => S a ∨ a = p) (upd H p u) :=
    ⟨fun a o _ h => same_new hp a o h, fun a h1 h2 => by
      rcases h1 with h1 | h1
      · exact absurd h1 h2
      · rw [h1]; exact hp, fun a h => by
      by_cases ha : a = p
      · rw [ha]; exact hp
      · rw [upd_ne ha] at h; exact h, fun a hf => by
      have : a ≠ p := fun q => by
        rw [q] at hf
        exact c.cb.sd p (c.cb.fs p hf) hp
      rw [upd_ne this]⟩
  have np : ∀ a, S a → a ≠ p := fun a hs q => c.cb.sd a hs (by rw [q]; exact hp)
  refine ⟨st, ⟨⟨fun a h => ?_, fun a h => ?_, fun q o hw => ?_⟩, c.len, fun j d h => ?_, fun j o h => ?_, c.dis⟩⟩
  · rcases h with h | h
    · rw [upd_ne (np a h)]; exact c.cb.sd a h
    · rw [h, upd_same]; simp
  · exact h.imp (c.cb.fs a) id
  · obtain ⟨h1, h2, h3⟩ := c.cb.w q o hw
    exact ⟨.inl h1, fun z => z.elim h2 (np q h1), h3.up st (upd_ne (np q h1))⟩
  · obtain ⟨w, h1, h2⟩ := c.sh j d h
    exact ⟨w, h1, h2.up st⟩
  · obtain ⟨q, h1, h2, h3, h4, h5⟩ := c.om j o h
    exact ⟨q, h1, h2.up st (upd_ne (np q h3)), .inl h3, fun z => z.elim h4 (np q h3), h5⟩
/-- it is let go -/
theorem Cf.unreg (c : Cf K (fun a => F a ∨ a = p) S H σ ρ W) (nf : ¬ F p) : Stp F S H (fun a => S a ∧ a ≠ p) (upd H p u) ∧ Cf K F (fun a => S a ∧ a ≠ p) (upd H p u) σ ρ W ∧ Stp (fun _ => False) S H (fun a => S a ∧ a ≠ p) (upd H p u) := by
  have sp : S p := c.cb.fs p (.inr rfl)
  have st : Stp F S H (fun a => S a ∧ a ≠ p) (upd H p u) :=
    ⟨fun a o h e => by
      have : a ≠ p := fun q => h (q ▸ sp)
      rw [upd_ne this]; exact e, fun a h1 h2 => absurd h1.1 h2, fun a h => by
      by_cases ha : a = p
      · rw [ha, upd_same] at h; cases h
      · rw [upd_ne ha] at h; exact h, fun a hf => by
      have : a ≠ p := fun q => nf (q ▸ hf)
      rw [upd_ne this]⟩
  refine ⟨st, ⟨⟨fun a h => ?_, fun a h => ⟨c.cb.fs a (.inl h), fun q => nf (q ▸ h)⟩, fun q o hw => ?_⟩, c.len, fun j d h => ?_, fun j o h => ?_, c.dis⟩, st.mono fun _ h => h.elim⟩
  · rw [upd_ne h.2]; exact c.cb.sd a h.1
  · obtain ⟨h1, h2, h3⟩ := c.cb.w q o hw
    have ne : q ≠ p := fun z => h2 (.inr z)
    exact ⟨⟨h1, ne⟩, fun z => h2 (.inl z), h3.up st (upd_ne ne)⟩
  · obtain ⟨w, h1, h2⟩ := c.sh j d h
    exact ⟨w, h1, h2.up st⟩
  · obtain ⟨q, h1, h2, h3, h4, h5⟩ := c.om j o h
    have ne : q ≠ p := fun z => h4 (.inr z)
    exact ⟨q, h1, h2.up st (upd_ne ne), ⟨h3, ne⟩, fun z => h4 (.inl z), h5⟩
end
def dPrs : List (TD × TD) → Env → Wd → (List (D × D) → Env → Wd → Prop) → KX → Prop
  | [], ρ, W, Q, _ => Q [] ρ W
  | (fk, fv) :: r, ρ, W, Q, Qx => fk ρ W (fun x ρ1 W1 => fv ρ1 W1 (fun y ρ2 W2 => dPrs r ρ2 W2 (fun ps => Q ((x, y) :: ps)) Qx) Qx) Qx
/-- the pairs, a later one in the place of an earlier one -/
def putsD (kvs : List (Key × D)) : List (Key × D) := kvs.foldl (fun acc kv => putD acc kv.1 kv.2) []
def dDisp (fs : List (TD × TD)) : TD := fun ρ W Q Qx => dPrs fs ρ W (fun ps ρ' W' => ∃ kvs : List (Key × D), ps = kvs.map (fun kv => (keyD kv.1, kv.2)) ∧ kvs.length ≤ 15 ∧ Q (.dk (putsD kvs)) ρ' W') Qx
section
variable {K : PySem.W.Frag} {Wx : WX}
def SPs (K : PySem.W.Frag) (Wx : WX) : List (TE × TE) → List (TD × TD) → Prop
  | [], [] => True
  | a :: r, b :: s => Snd K Wx a.1 b.1 ∧ Snd K Wx a.2 b.2 ∧ SPs K Wx r s
  | _, _ => False
def RPs (K : PySem.W.Frag) (S : Reg) (H : Hp) : List (D × D) → List (V × V) → Prop
  | [], [] => True
  | a :: r, b :: s => Rep K S H a.1 b.1 ∧ Rep K S H a.2 b.2 ∧ RPs K S H r s
  | _, _ => False
theorem snd_prs : ∀ {trs : List (TE × TE)} {fs : List (TD × TD)}, SPs K Wx trs fs → ∀ (F S : Reg) (H : Hp) (σ : St) (ρ : Env) (W : Wd) (Q : List (D × D) → Env → Wd → Prop) (Qx : KX) (R : List (V × V) → Hp → Prop), Cf K F S H σ ρ W → dPrs fs ρ W Q Qx → LkX K F S H Wx Qx →
    (∀ S' H' ρ' W' ps vs, Stp F S H S' H' → Cf K F S' H' σ ρ' W' → RPs K S' H' ps vs → Q ps ρ' W' → R vs H') → tPairs trs σ H R
  | [], [], _, F, S, H, σ, ρ, W, Q, Qx, R, c, h, _, hE => hE S H ρ W [] [] .refl c trivial h
  | (_, _) :: _, (_, _) :: _, hs, F, S, H, σ, ρ, W, Q, Qx, R, c, h, hx, hE => by
    obtain ⟨s1, s2, s3⟩ := hs
    refine s1 F S H σ ρ W _ Qx _ c h hx fun S1 H1 ρ1 W1 d v e1 c1 r1 q1 => ?_
    refine s2 F S1 H1 σ ρ1 W1 _ Qx _ c1 q1 (hx.up e1) fun S2 H2 ρ2 W2 d2 v2 e2 c2 r2 q2 => ?_
    refine snd_prs s3 F S2 H2 σ ρ2 W2 _ Qx _ c2 q2 (hx.up (e1.trans e2)) fun S3 H3 ρ3 W3 ps vs e3 c3 r3 q3 => ?_
    exact hE S3 H3 ρ3 W3 ((d, d2) :: ps) ((v, v2) :: vs) ((e1.trans e2).trans e3) c3 ⟨r1.up (e2.trans e3), r2.up e3, r3⟩ q3
  | [], _ :: _, h, _, _, _, _, _, _, _, _, _, _, _, _, _ => h.elim
  | _ :: _, [], h, _, _, _, _, _, _, _, _, _, _, _, _, _ => h.elim
theorem keyOf_keyD (k : Key) : keyOf (keyD k) = some k := by cases k <;> rfl
theorem kr_of_rps {S : Reg} {H : Hp} : ∀ {kvs : List (Key × D)} {vs : List (V × V)}, RPs K S H (kvs.map fun kv => (keyD kv.1, kv.2)) vs → ∃ ws : List (Key × V), vs = ws.map (fun kv => (kV kv.1, kv.2)) ∧ ws.length = kvs.length ∧ KR K S H kvs ws
  | [], [], _ => ⟨[], rfl, rfl, KR.nil⟩
  | [], _ :: _, h => h.elim
  | _ :: _, [], h => h.elim
  | (k, d) :: kvs, (x, y) :: vs, h => by
    obtain ⟨h1, h2, h3⟩ := h
    obtain ⟨ws, e, l, kr⟩ := kr_of_rps h3
    refine ⟨(k, y) :: ws, ?_, by rw [List.length_cons, List.length_cons, l], KR.cons_iff.mpr ⟨y, ws, rfl, h2, kr⟩⟩
    have : x = kV k := key_rep (keyOf_keyD k) h1
    rw [e, this]; rfl
theorem kr_merge {S : Reg} {H : Hp} : ∀ {more : List (Key × D)} {ws : List (Key × V)} {kvs : List (Key × D)} {vs : List (Key × V)}, KR K S H more ws → KR K S H kvs vs → KR K S H (more.foldl (fun acc kv => putD acc kv.1 kv.2) kvs) (mergeK vs ws)
  | [], ws, kvs, vs, h, h2 => by
    have : ws = [] := by
      have := h.1
      simpa using this
    subst this
    exact h2
  | (k, d) :: more, ws, kvs, vs, h, h2 => by
    obtain ⟨v, r, rfl, rv, kr⟩ := KR.cons_iff.mp h
    show KR K S H (more.foldl _ (putD kvs k d)) (mergeK (putK vs k v) r)
    exact kr_merge (more := more) kr (h2.put k rv)
theorem upd_id {H : Hp} {p : Addr} {u : HO} (h : H p = some u) : upd H p u = H := by
  funext a
  by_cases e : a = p
  · rw [e, upd_same, h]
  · rw [upd_ne e]
variable {X : Cx} {pos : Pos} {keys : List (Option Expr)} {values : List Expr} {k v : Expr} {fk fv : TD} {fs : List (TD × TD)}
def GPs (X : Cx) (Wx : WX) (pos : Pos) (keys : List (Option Expr)) (values : List Expr) (fs : List (TD × TD)) : Prop := ∃ trs, PPs X pos keys values trs ∧ SPs X.K Wx trs fs
theorem gps_nil : GPs X Wx pos [] [] [] := ⟨[], pps_nil, trivial⟩
theorem gps_cons (hk : GE X Wx k fk) (hv : GE X Wx v fv) (h : GPs X Wx pos keys values fs) : GPs X Wx pos (some k :: keys) (v :: values) ((fk, fv) :: fs) := by
  obtain ⟨tk, pk, sk⟩ := hk
  obtain ⟨tv, pv, sv⟩ := hv
  obtain ⟨trs, pr, sr⟩ := h
  exact ⟨_, pps_cons pk pv pr, sk, sv, sr⟩
theorem ge_disp (h : GPs X Wx pos keys values fs) (hall : keys.all (·.isSome) = true := by rfl) (hl : keys.length = values.length := by rfl) (h0 : keys ≠ [] := by decide) (h15 : keys.length ≤ 15 := by decide) : GE X Wx (.Dict keys values pos) (dDisp fs) := by
  obtain ⟨trs, pr, sr⟩ := h
  refine ⟨_, pe_disp pr hall hl h0 h15, fun F S H σ ρ W Q Qx R cf hf hx hE => ?_⟩
  intro p hp
  have nS : ¬ S p := fun z => cf.cb.sd p z hp
  have nF : ¬ F p := fun z => nS (cf.cb.fs p z)
  obtain ⟨st, c1⟩ := cf.reg (u := .dK []) hp
  refine snd_prs sr _ _ _ σ ρ W _ Qx _ c1 hf (fun S' H' σ' ρ' W' cls x od e c xr q => ?_) fun S' H' ρ' W' ps vs e c r q => ?_
  · have hp2 : H' p = some (.dK []) := (e.frn p (.inr rfl)).trans upd_same
    obtain ⟨s1, c2, s2⟩ := c.unreg (u := .dK []) nF
    rw [upd_id hp2] at s1 c2 s2
    refine hx _ H' σ' ρ' W' cls x od ((st.trans (e.mono fun _ z => .inl z)).trans s1) c2 ?_ q
    cases x with
    | none => exact xr
    | some fs =>
      obtain ⟨a, vs, h1, h2, h3, h4, h5⟩ := xr
      exact ⟨a, vs, h1, h2, fun z => h3 z.1, h4, h5.up s2⟩
  · have hp2 : H' p = some (.dK []) := (e.frn p (.inr rfl)).trans upd_same
    obtain ⟨kvs, rfl, hl15, q⟩ := q
    obtain ⟨ws, rfl, lw, kr⟩ := kr_of_rps r
    refine ⟨hp2, ws, rfl, by rw [lw]; exact hl15, ?_⟩
    obtain ⟨s1, c2, s2⟩ := c.unreg (u := .dK (mergeK [] ws)) nF
    refine hE _ _ ρ' W' _ _ ((st.trans (e.mono fun _ z => .inl z)).trans s1) c2 (Rep.dk_of upd_same (fun z => z.2 rfl) ?_) q
    exact kr_merge (kr.up s2) KR.nil
end
/-! ### x + e, x the frame's own list -/
section
variable {X : Cx} {Wx : WX} {e : Expr} {fe : TD} {pos : Pos}
def dCatO (k : Nat) (fe : TD) : TL := fun ρ W Q Qx => (∃ ds, ρ[k]? = some (some (.ol ds))) ∧ fe ρ W (fun d ρ' W' => match ρ'[k]?, d with
  | some (some (.om (.lst ds))), .lst xs => ds.length + xs.length ≤ sizeLine ∧ Q (ds ++ xs) ρ' W'
  | _, _ => False) Qx
theorem gn_catO (k : Nat) {x : Str} {px : Pos} (he : GE X Wx e fe) (hN : X.N[k]? = some x := by rfl) (hv : Vis X.env.scope x := by first | exact Or.inl rfl | exact Or.inr (Or.inl rfl) | exact Or.inr (Or.inr rfl)) (hd : (x == ("__debug__" : Str)) = false := by decide) (hcd : (x == ("__classdict__" : Str)) = false := by decide) :
    GN X Wx (.BinOp (.Name x px) .Add e pos) (dCatO k fe) := by
  obtain ⟨te, pe, se⟩ := he
  refine ⟨_, pe_op op_cat (pe_var hN hv hd hcd) pe, fun F S H σ ρ W Q Qx R cf hf hx hE => ?_⟩
  obtain ⟨⟨ds0, h0⟩, hf⟩ := hf
  obtain ⟨p, xs0, hp, _⟩ := cf.ol k ds0 h0
  refine ⟨_, hp, ?_⟩
  refine se F S H σ ρ W _ Qx _ cf hf hx fun S2 H2 ρ2 W2 d2 v2 e2 c2 r2 q2 => ?_
  split at q2
  · rename_i ds xs hk
    obtain ⟨p', ys, hp', h2, h3, _⟩ := c2.ol k ds hk
    rw [hp] at hp'; cases hp'
    obtain ⟨b, zs, rfl, h4, h5⟩ := Rep.lst_iff.mp r2
    exact ⟨p, b, ys, zs, rfl, rfl, h2, h4.1, by rw [h3.length, h5.length]; exact q2.1, fun p' hn => hE S2 H2 ρ2 W2 (ds ++ xs) (ys ++ zs) p' e2 c2 (h3.append h5) hn q2.2⟩
  · exact q2.elim
end
/-! ### x, y = [..], e through a tuple: x the frame's own list -/
section
variable {X : Cx} {Wx : WX} {a b : Expr} {fl : TL} {fe : TD} {pos : Pos}
theorem gs_parU1 {i j : Nat} {x y : Str} {px py pt : Pos} {kt k2 pt2} (hc : X.calm = true) (hN : X.N.Nodup) (hi : X.N[i]? = some x) (hj : X.N[j]? = some y) (hx : Loc X.env.scope x) (hy : Loc X.env.scope y) (ha : GN X Wx a fl) (hb : GE X Wx b fe)
    (he : starEach [a, b] X.env = (false, eval a X.env) :: starEach [b] X.env := by rfl) (he2 : starEach [b] X.env = (false, eval b X.env) :: starEach [] X.env := by rfl)
    (hs : swapsWithSole [.Tuple [.Name x px, .Name y py] kt pt] (.Tuple [a, b] k2 pt2) pos.line X.env = pure false := by rfl) (hw : swappedStores [.Tuple [.Name x px, .Name y py] kt pt] (.Tuple [a, b] k2 pt2) X.env = pure none := by rfl)
    (h1 : (assignEach [.Tuple [.Name x px, .Name y py] kt pt] X.env).map (·.2) = [assign (.Tuple [.Name x px, .Name y py] kt pt) X.env] := by rfl)
    (hn : (assignEach [.Name x px, .Name y py] X.env).length = 2 := by rfl) (hst : (assignEach [.Name x px, .Name y py] X.env).findIdx? (·.1) = none := by rfl)
    (g1 : (assignEach [.Name x px, .Name y py] X.env).map (·.2) = assign (.Name x px) X.env :: (assignEach [.Name y py] X.env).map (·.2) := by rfl) (g2 : (assignEach [.Name y py] X.env).map (·.2) = assign (.Name y py) X.env :: (assignEach [] X.env).map (·.2) := by rfl)
    (fx : X.fn x = true ∨ X.env.scope.names.lookup x = some .local := by first | exact .inl rfl | exact .inr rfl) (fy : X.fn y = true ∨ X.env.scope.names.lookup y = some .local := by first | exact .inl rfl | exact .inr rfl) :
    GS X Wx (.Assign [.Tuple [.Name x px, .Name y py] kt pt] (.Tuple [a, b] k2 pt2) pos) (dParO1 i j fl fe) := by
  obtain ⟨ta, pa, sa⟩ := ha
  obtain ⟨tb, pb, sb⟩ := hb
  refine ⟨_, ps_asg (pe_tup (pa_cons pa (pa_cons pb pa_nil he2) he)) (pg_tup hc (pgs_cons (pg_name hN hi hx fx) (pgs_cons (pg_name hN hj hy fy) pgs_nil g2) g1) hn hst) hs hw h1, fun F S H σ ρ W De Dh cf hf l => ?_⟩
  refine sa F S H σ ρ W _ De.ex _ cf hf l.ex fun S1 H1 ρ1 W1 ds xs p e1 c1 r1 hp q1 => ?_
  obtain ⟨ea, ca⟩ := c1.alien (o := .lst xs) hp
  refine sb (Add F p) (Add S1 p) (upd H1 p (.lst xs)) σ ρ1 W1 _ noX _ ca q1 lkx_none fun S2 H2 ρ2 W2 d v e2 c2 r2 q2 => ?_
  refine ⟨by show 2 ≤ sizeLine; decide, fun p' hp' => ?_⟩
  refine ⟨p', _, rfl, .inl (.inl upd_same), rfl, _, _, rfl, _, _, rfl, rfl, ?_⟩
  have hp2 : H2 p = some (.lst xs) := (e2.frn p (.inr rfl)).trans upd_same
  have e2' := e2.mono (F' := F) fun _ h => .inl h
  have rr := (r1.up ea).up e2'
  obtain ⟨b1, b2, b3, b4, b5⟩ := c1.alienBack hp (ea.trans e2') c2 rr hp2
  have sp : S2 p := c2.cb.fs p (.inr rfl)
  have r2' := r2.del sp
  obtain ⟨st, c4⟩ := b2.newOl i b4 b3
  rw [b5] at st c4
  have sm : Same H2 (upd H2 p' (.tup [.ref p, v])) := same_new hp'
  have c5 := c4.setSh j (r2'.up st)
  exact l.nx _ _ _ _ W2 (((e1.trans b1).trans st).trans (stp_same c5.cb sm)) (c5.same sm) q2
end
/-! ### e in x, x the frame's own list -/
section
variable {X : Cx} {Wx : WX} {e : Expr} {fe : TD} {pos : Pos} {neg : Bool}
def dInO (neg : Bool) (fe : TD) (k : Nat) : TD := fun ρ W Q Qx => fe ρ W (fun d ρ' W' => match ρ'[k]?, d with
  | some (some (.om (.lst ds))), .v x => ∃ vs, flatOf ds = some vs ∧ flatV x = true ∧ vs.all flatV = true ∧ Q (.bl (if neg then !inV x vs else inV x vs)) ρ' W'
  | _, _ => False) Qx
theorem snd_inO (k : Nat) {K : PySem.W.Frag} {te : TE} (se : Snd K Wx te fe) : Snd K Wx (tOp (rIn K neg) te (tVar k)) (dInO neg fe k) := by
  intro F S H σ ρ W Q Qx R cf hf hx hE
  refine se F S H σ ρ W _ Qx _ cf hf hx fun S2 H2 ρ2 W2 d2 v2 e2 c2 r2 q2 => ?_
  split at q2
  · rename_i ds x hk
    obtain ⟨p, ys, hp, h2, h3, _⟩ := c2.ol k ds hk
    obtain ⟨vs, f1, f2, f3, q⟩ := q2
    cases Rep.v_iff.mp r2
    rw [reps_flat f1 h3] at h2
    exact ⟨_, hp, p, vs, rfl, .inl (SqL.of h2), f2, f3, hE S2 H2 ρ2 W2 _ _ e2 c2 (Rep.v_iff.mpr rfl) q⟩
  · exact q2.elim
theorem ge_inO (k : Nat) {x : Str} {px : Pos} (he : GE X Wx e fe) (hN : X.N[k]? = some x := by rfl) (hv : Vis X.env.scope x := by first | exact Or.inl rfl | exact Or.inr (Or.inl rfl) | exact Or.inr (Or.inr rfl)) (hd : (x == ("__debug__" : Str)) = false := by decide) (hcd : (x == ("__classdict__" : Str)) = false := by decide) :
    GE X Wx (.Compare e [.In] [.Name x px] pos) (dInO false fe k) := by
  obtain ⟨te, pe, se⟩ := he
  exact ⟨_, pe_cmpR op_in_seq pe (pe_var hN hv hd hcd) rfl, snd_inO k se⟩
theorem ge_niO (k : Nat) {x : Str} {px : Pos} (he : GE X Wx e fe) (hN : X.N[k]? = some x := by rfl) (hv : Vis X.env.scope x := by first | exact Or.inl rfl | exact Or.inr (Or.inl rfl) | exact Or.inr (Or.inr rfl)) (hd : (x == ("__debug__" : Str)) = false := by decide) (hcd : (x == ("__classdict__" : Str)) = false := by decide) :
    GE X Wx (.Compare e [.NotIn] [.Name x px] pos) (dInO true fe k) := by
  obtain ⟨te, pe, se⟩ := he
  exact ⟨_, pe_cmpR op_notIn_seq pe (pe_var hN hv hd hcd) rfl, snd_inO k se⟩
theorem gt_inO (k : Nat) {x : Str} {px : Pos} (he : GE X Wx e fe) (hN : X.N[k]? = some x := by rfl) (hv : Vis X.env.scope x := by first | exact Or.inl rfl | exact Or.inr (Or.inl rfl) | exact Or.inr (Or.inr rfl)) (hd : (x == ("__debug__" : Str)) = false := by decide) (hcd : (x == ("__classdict__" : Str)) = false := by decide) :
    GT X Wx (.Compare e [.In] [.Name x px] pos) (dBool (dInO false fe k)) := by
  obtain ⟨te, pe, se⟩ := he
  exact ⟨_, pt_cmpR op_in_seq pe (pe_var hN hv hd hcd) rfl, snd_tB (snd_inO k se)⟩
theorem gt_niO (k : Nat) {x : Str} {px : Pos} (he : GE X Wx e fe) (hN : X.N[k]? = some x := by rfl) (hv : Vis X.env.scope x := by first | exact Or.inl rfl | exact Or.inr (Or.inl rfl) | exact Or.inr (Or.inr rfl)) (hd : (x == ("__debug__" : Str)) = false := by decide) (hcd : (x == ("__classdict__" : Str)) = false := by decide) :
    GT X Wx (.Compare e [.NotIn] [.Name x px] pos) (dBool (dInO true fe k)) := by
  obtain ⟨te, pe, se⟩ := he
  exact ⟨_, pt_cmpR op_notIn_seq pe (pe_var hN hv hd hcd) rfl, snd_tB (snd_inO k se)⟩
end
end G

namespace G
open PySem PySem.Spec L2
/-! ### raise C("..") -/
section
variable {X : Cx} {Wx : WX}
def dRaise (c : Value) : TSD := fun De ρ W => De.ex c none ρ W
/-- what is known of a class whose instances are raised -/
structure ExcAt (K : PySem.W.Frag) (mg : Str → Option Value) (x : Str) (C : Addr) : Prop where
  mg : mg x = some (.ref C)
  ex : PySem.W.excIn K C [.type "ValueError", .type "Exception", .type "BaseException", .type "object"] "ValueError.__new__" = true
  kp : PySem.W.keepIn K (.ref C) = true
  sb : PySem.W.subIn K (.ref C) (.type "BaseException") = some true
  ty : PySem.W.typeIn K (.ref C) = some (.type "type")
theorem gs_raise {x m : Str} {C : Addr} {j : Nat} {p p2 pos pos' : Pos} (hc : X.calm = true) (tk : Takes X Wx) (F : ExcAt X.K X.mg x C) (hg : Gl X x := by rfl) (hdb : (x == ("__debug__" : Str)) = false := by decide) :
    GS X Wx (.Raise (some (.Call (.Name x p) [.Constant (.str m) j p2] [] pos)) none pos') (dRaise (.ref C)) :=
  ⟨_, ps_raise hc tk (pmk_own PySem.F.excBase_ValueError F.ex F.mg F.kp (raises_own F.sb F.ty) hg hdb), fun F S H σ ρ W De Dh cf hf l => l.ex S H σ ρ W _ none none .refl cf rfl hf⟩
end
/-! ### try: .. except .. -/
/-- the weakest reading over the heap that a reading over data allows -/
def tOf (K : PySem.W.Frag) (Wx : WX) (f : TSD) : TS := fun D σ H => ∃ F S ρ W De, Cf K F S H σ ρ W ∧ f De ρ W ∧ Lnk K Wx F S H De D
theorem pss_tOf {X : Cx} {Wx : WX} {st : List Stmt} {f : TSD} (h : GSs X Wx st f) : PSs X st (tOf X.K Wx f) := by
  obtain ⟨t, pt, sg⟩ := h
  refine ⟨fun pins s σ H D I q => ?_⟩
  obtain ⟨F, S, ρ, W, De, cf, hf, l⟩ := q
  exact pt.run pins s σ H D I (sg F S H σ ρ W De D cf hf l)
def WXno : WX := fun _ _ _ _ => False
end G

namespace G
open PySem PySem.Spec L2
/-! ### sorted of a list of tuples, their items ints and texts, one shape -/
abbrev TKey := List (Int ⊕ List Nat)
def keyV (sh : Nat → Bool) : Nat → List V → Option TKey
  | _, [] => some []
  | i, .int n :: r => if sh i = true then none else (keyV sh (i + 1) r).map (Sum.inl n :: ·)
  | i, .str x :: r => if sh i = true then (keyV sh (i + 1) r).map (Sum.inr x.cps.toList :: ·) else none
  | _, _ => none
def keyDs (sh : Nat → Bool) : Nat → List D → Option TKey
  | _, [] => some []
  | i, .v (.int n) :: r => if sh i = true then none else (keyDs sh (i + 1) r).map (Sum.inl n :: ·)
  | i, .v (.str x) :: r => if sh i = true then (keyDs sh (i + 1) r).map (Sum.inr x.cps.toList :: ·) else none
  | _, _ => none
def tlt (a b : TKey) : Bool := PyProof.Rows.lexLt PyProof.Rows.itemOrd a b
theorem keyDs_v {K : PySem.W.Frag} {S : Reg} {H : Hp} {sh : Nat → Bool} : ∀ {i : Nat} {ds : List D} {vs : List V} {k : TKey}, Reps K S H ds vs → keyDs sh i ds = some k → keyV sh i vs = some k
  | i, [], vs, k, r, h => by cases Reps.nil_iff.mp r; exact h
  | i, d :: ds, vs, k, r, h => by
    obtain ⟨x, y, rfl, r1, r2⟩ := Reps.cons_iff.mp r
    unfold keyDs at h
    split at h
    · rename_i e; cases e
    · rename_i n r' e
      cases e
      cases Rep.v_iff.mp r1
      split at h
      · cases h
      · rename_i c
        obtain ⟨k', h1, rfl⟩ := Option.map_eq_some_iff.mp h
        unfold keyV
        rw [if_neg c, keyDs_v r2 h1]; rfl
    · rename_i n r' e
      cases e
      cases Rep.v_iff.mp r1
      split at h
      · rename_i c
        obtain ⟨k', h1, rfl⟩ := Option.map_eq_some_iff.mp h
        unfold keyV
        rw [if_pos c, keyDs_v r2 h1]; rfl
      · cases h
    · cases h
theorem keyV_items {sh : Nat → Bool} : ∀ {i : Nat} {vs : List V} {us : List Value} {k : TKey}, Vals vs us → keyV sh i vs = some k → PyProof.Rows.tupItems sh i us = some k
  | i, [], _, k, .nil, h => h
  | i, x :: vs, _, k, .cons (b := u) r t, h => by
    unfold keyV at h
    split at h
    · rename_i e; cases e
    · rename_i n r' e
      cases e
      obtain ⟨tk, rfl⟩ := (show ∃ t, u = Value.int n t from r)
      split at h
      · cases h
      · rename_i c
        obtain ⟨k', h1, rfl⟩ := Option.map_eq_some_iff.mp h
        unfold PyProof.Rows.tupItems
        rw [if_neg c, keyV_items t h1]; rfl
    · rename_i n r' e
      cases e
      obtain ⟨tk, rfl⟩ := (show ∃ t, u = Value.str n t from r)
      split at h
      · rename_i c
        obtain ⟨k', h1, rfl⟩ := Option.map_eq_some_iff.mp h
        unfold PyProof.Rows.tupItems
        rw [if_pos c, keyV_items t h1]; rfl
      · cases h
    · cases h
/-- x is a tuple of that key -/
def HasKey (K : PySem.W.Frag) (H : Hp) (sh : Nat → Bool) (x : V) (k : TKey) : Prop := ∃ t zs, x = .ref t ∧ SqT K H t zs ∧ keyV sh 0 zs = some k
def rSortT (K : PySem.W.Frag) (sh : Nat → Bool) : List V → Hp → VK → Prop := fun vs H Q => ∃ (a : Addr) (xs : List V), vs = [V.ref a] ∧ SqL K H a xs ∧ (∀ x ∈ xs, ∃ k, HasKey K H sh x k ∧ k ≠ []) ∧
  ∀ ys p, ys.Perm xs → ys.Pairwise (fun x y => ∀ kx ky, HasKey K H sh x kx → HasKey K H sh y ky → tlt ky kx = false) → H p = none → Q (.ref p) (upd H p (.lst ys))
theorem key_c {X : Cx} {pins : List (Addr × Obj)} {σ : St} {H : Hp} {s : Shared} (I : Inv X pins σ H s) {sh : Nat → Bool} {x : V} {u : Value} {k : TKey} (r : RelV x u) (h : HasKey X.K H sh x k) :
    PyProof.Rows.G.tupKeyC s.heap sh u = some k ∧ (k ≠ [] → ∃ f, PyProof.Rows.TupOf s.heap sh u f) := by
  obtain ⟨t, zs, rfl, hs, hk⟩ := h
  cases (show u = Value.ref t from r)
  obtain ⟨its, rv, ⟨o, ho, hc, n, hd⟩, _⟩ := I.tuple hs
  have e := keyV_items rv hk
  have hd' : o.data = .seq its.toArray n := hd
  refine ⟨?_, fun hne => ?_⟩
  · unfold PyProof.Rows.G.tupKeyC
    have h1 : PyProof.Rows.G.isTupObj s.heap (.ref t) = true := by
      simp only [PyProof.Rows.G.isTupObj, ho, hc]
      decide
    rw [if_pos h1]
    simp only [PyProof.Rows.tupKey, ho, hd']
    exact e
  · cases rv with
    | nil => cases hk; exact absurd rfl hne
    | cons r0 rt =>
      unfold keyV at hk
      split at hk
      · rename_i e; cases e
      · rename_i m r' e'
        cases e'
        obtain ⟨tk, rfl⟩ := r0
        by_cases c : sh 0 = true
        · rw [if_pos c] at hk; cases hk
        · exact ⟨.int m tk, t, o, _, n, rfl, ho, hc, hd', by simp, fun _ => ⟨_, _, rfl⟩, fun z => absurd z c⟩
      · rename_i m r' e'
        cases e'
        obtain ⟨tk, rfl⟩ := r0
        by_cases c : sh 0 = true
        · exact ⟨.str m tk, t, o, _, n, rfl, ho, hc, hd', by simp, fun z => absurd c (by rw [z]; decide), fun _ => ⟨_, _, rfl⟩⟩
        · rw [if_neg c] at hk; cases hk
      · cases hk
theorem tups_c {X : Cx} {pins : List (Addr × Obj)} {σ : St} {H : Hp} {s : Shared} (I : Inv X pins σ H s) {sh : Nat → Bool} : ∀ {xs : List V} {us : List Value}, Vals xs us → (∀ x ∈ xs, ∃ k, HasKey X.K H sh x k ∧ k ≠ []) → ∃ fs, PyProof.Rows.TupsOf s.heap sh us fs
  | _, _, .nil, _ => ⟨[], .nil⟩
  | _, _, .cons r t, h => by
    obtain ⟨fs, q⟩ := tups_c I t fun x hx => h x (List.mem_cons_of_mem _ hx)
    obtain ⟨k, h1, h2⟩ := h _ List.mem_cons_self
    obtain ⟨f, p⟩ := (key_c I r h1).2 h2
    exact ⟨f :: fs, .cons p q⟩
theorem back_rel : ∀ {u : Value}, (∃ a, u = Value.ref a) → RelV (backV u) u := fun ⟨a, e⟩ => by subst e; exact (rfl : Value.ref a = Value.ref a)
open PyProof.Rows in
theorem cr_sortT {X : Cx} (sh : Nat → Bool) : CallR X (.builtin "sorted") (rSortT X.K sh) := by
  intro pins s σ H vs us Q I r h
  obtain ⟨a, xs, rfl, hs, hx, q⟩ := h
  obtain ⟨its, rv, hl, hz⟩ := I.list hs
  rw [Vals.ref1 r]
  obtain ⟨e1, e2⟩ := refs_back rv fun x m => by
    obtain ⟨k, ⟨t, _, e, _⟩, _⟩ := hx x m
    exact ⟨t, e⟩
  obtain ⟨fs, ht⟩ := tups_c I rv hx
  have hk : ∀ v ∈ its, ∃ k, PyProof.Rows.G.tupKeyC s.heap sh v = some k ∧ HasKey X.K H sh (backV v) k := fun v hv => by
    have m : backV v ∈ xs := by rw [e1]; exact List.mem_map.mpr ⟨v, hv, rfl⟩
    obtain ⟨k, h1, _⟩ := hx _ m
    exact ⟨k, (key_c I (back_rel (e2 v hv)) h1).1, h1⟩
  refine PyProof.Rows.G.sorted_tups (shape := sh) hl.isList ht (fun v hv => ⟨_, (hk v hv).choose_spec.1⟩) (by rw [← rv.length]; exact hz) fun st' a1 a2 a3 => ?_
  have p1 : (arrOf st').toList.Perm (its.zip its) := by
    have := Array.perm_iff_toList_perm.mp a1
    rwa [pairsOf_toList] at this
  have hm : ∀ p ∈ (arrOf st').toList, p.1 = p.2 ∧ p.1 ∈ its := fun p hp => mem_zip_self (p1.mem_iff.mp hp)
  obtain ⟨ep, he'⟩ := PyProof.Rows.sortedAll_at s.heap its ((arrOf st').map (·.2))
  have ho : ((arrOf st').map (·.2)).toList = (arrOf st').toList.map (·.2) := by simp
  have p2 : ((arrOf st').toList.map (·.2)).Perm its := by
    have z := p1.map Prod.snd
    rw [List.map_snd_zip (Nat.le_refl _)] at z
    exact z
  have hr : ∀ u ∈ (arrOf st').toList.map (·.2), ∃ a, u = Value.ref a := fun u hu => e2 u (p2.mem_iff.mp hu)
  have hp : (((arrOf st').toList.map (·.2)).map backV).Perm xs := by rw [e1]; exact p2.map backV
  have hsz : (arrOf st').toList.length = (pairsOf its).size := by
    rw [pairsOf_size, p1.length_eq, List.length_zip, Nat.min_self]
  refine ⟨.ref _, upd H (s.heap.objs.size + 1) (.lst (((arrOf st').toList.map (·.2)).map backV)), I.laid (t' := s.toks) (fun _ _ => PyProof.Rows.sortedAll_old) (Nat.le_succ _) ⟨by rw [hp.length_eq]; exact hz, _, ep, vals_back hr, by rw [← ho]; exact he'⟩, rfl, q _ _ hp ?_ (I.hok.fresh (Nat.le_succ _))⟩
  rw [List.map_map, List.pairwise_iff_getElem]
  intro i j hi hj hij kx ky gx gy
  rw [List.length_map] at hi hj
  rw [List.getElem_map] at gx gy
  have hji : j < (pairsOf its).size := by rw [← hsz]; exact hj
  have w := a2 i j (Nat.le_of_lt hij) hji
  have key : ∀ (n : Nat) (hn : n < (arrOf st').toList.length) (k : TKey), HasKey X.K H sh ((backV ∘ fun x => x.2) (arrOf st').toList[n]) k → KK (PyProof.Rows.G.tupKindC s.heap sh) (arrOf st') n = k := fun n hn k g => by
    obtain ⟨m1, m2⟩ := hm _ (List.getElem_mem hn)
    have g2 := (key_c I (back_rel (e2 _ (show (arrOf st').toList[n].2 ∈ its by rw [← m1]; exact m2))) g).1
    unfold KK
    have e : (arrOf st')[n]? = some (arrOf st').toList[n] := by rw [← Array.getElem?_toList]; exact List.getElem?_eq_getElem hn
    rw [e]
    show (PyProof.Rows.G.tupKeyC s.heap sh (arrOf st').toList[n].1).getD [] = k
    rw [m1, g2]
    rfl
  rw [key i hi kx gx, key j hj ky gy] at w
  exact w
/-! over data -/
theorem reps_perm {K : PySem.W.Frag} {S : Reg} {H : Hp} {xs ys : List V} (p : ys.Perm xs) : ∀ {ds : List D}, Reps K S H ds xs → ∃ es, es.Perm ds ∧ Reps K S H es ys := by
  induction p with
  | nil => exact fun h => ⟨_, .refl _, h⟩
  | cons x p ih =>
    intro ds h
    cases ds with
    | nil => cases Reps.nil_iff.mp h
    | cons d ds =>
      obtain ⟨x', r, e, h1, h2⟩ := Reps.cons_iff.mp h
      cases e
      obtain ⟨es, e1, e2⟩ := ih h2
      exact ⟨d :: es, e1.cons d, Reps.cons h1 e2⟩
  | swap x y l =>
    intro ds h
    cases ds with
    | nil => cases Reps.nil_iff.mp h
    | cons d ds =>
      obtain ⟨x', r, e, h1, h2⟩ := Reps.cons_iff.mp h
      cases e
      cases ds with
      | nil => cases Reps.nil_iff.mp h2
      | cons d2 ds =>
        obtain ⟨x', r, e, h3, h4⟩ := Reps.cons_iff.mp h2
        cases e
        exact ⟨d2 :: d :: ds, .swap _ _ _, Reps.cons h3 (Reps.cons h1 h4)⟩
  | trans p1 p2 i1 i2 =>
    intro ds h
    obtain ⟨es, a1, a2⟩ := i2 h
    obtain ⟨fs, b1, b2⟩ := i1 a2
    exact ⟨fs, b1.trans a1, b2⟩
def dSortT (sh : Nat → Bool) (fe : TD) : TL := fun ρ W Q Qx => fe ρ W (fun d ρ' W' => match d with
  | .lst ds => ∃ k : D → TKey, (∀ d ∈ ds, ∃ its, d = .tup its ∧ keyDs sh 0 its = some (k d) ∧ k d ≠ []) ∧ ∀ ys : List D, ys.Perm ds → ys.Pairwise (fun x y => tlt (k y) (k x) = false) → Q ys ρ' W'
  | _ => False) Qx
section
variable {X : Cx} {Wx : WX} {e : Expr} {fe : TD} {pos : Pos}
theorem gn_sortT (sh : Nat → Bool) {x : Str} {p : Pos} (hg : Gl X x) (hm : X.mg x = none) (hv : bootBuiltins x = some (.builtin "sorted")) (ha : GE X Wx e fe) (hn : x ≠ "__name__" := by decide) (hdb : (x == ("__debug__" : Str)) = false := by decide)
    (he : starEach [e] X.env = (false, eval e X.env) :: starEach [] X.env := by rfl) (hpl : (backTo pos (starEach [] X.env)).any (·.1) = false := by rfl) : GN X Wx (.Call (.Name x p) [e] [] pos) (dSortT sh fe) := by
  obtain ⟨te, pe, se⟩ := ha
  refine ⟨_, pe_callB (cr_sortT sh) hg hm hv (pa_cons pe pa_nil he) hn hdb he hpl, fun F S H σ ρ W Q Qx R cf hf hx hE => ?_⟩
  refine se F S H σ ρ W _ Qx _ cf hf hx fun S' H' ρ' W' d v e' c r q => ?_
  split at q
  · rename_i ds
    obtain ⟨a, xs, rfl, ha, hr⟩ := Rep.lst_iff.mp r
    obtain ⟨k, hk, q⟩ := q
    have hkey : ∀ (n : Nat) (d : D) (x : V), d ∈ ds → Rep X.K S' H' d x → HasKey X.K H' sh x (k d) ∧ k d ≠ [] := fun n d x hd hr => by
      obtain ⟨its, rfl, h1, h2⟩ := hk d hd
      obtain ⟨t, zs, rfl, h3, h4⟩ := Rep.tup_iff.mp hr
      exact ⟨⟨t, zs, rfl, h3.sq, keyDs_v h4 h1⟩, h2⟩
    refine ⟨a, xs, rfl, ha.sq, fun x hx => ?_, fun ys l hp hs hl => ?_⟩
    · obtain ⟨i, hi, rfl⟩ := List.getElem_of_mem hx
      obtain ⟨d, h1, h2⟩ := hr.get' (List.getElem?_eq_getElem hi)
      exact ⟨k d, hkey 0 d _ (List.mem_of_getElem? h1) h2⟩
    · obtain ⟨es, h1, h2⟩ := reps_perm hp hr
      refine hE S' H' ρ' W' es ys l e' c h2 hl (q es h1 ?_)
      rw [List.pairwise_iff_getElem] at hs ⊢
      intro i j hi hj hij
      obtain ⟨x, a1, a2⟩ := h2.get (List.getElem?_eq_getElem hi)
      obtain ⟨y, b1, b2⟩ := h2.get (List.getElem?_eq_getElem hj)
      obtain ⟨hi', rfl⟩ := List.getElem?_eq_some_iff.mp a1
      obtain ⟨hj', rfl⟩ := List.getElem?_eq_some_iff.mp b1
      exact hs i j hi' hj' hij _ _ (hkey 0 _ _ (h1.mem_iff.mp (List.getElem_mem hi)) a2).1 (hkey 0 _ _ (h1.mem_iff.mp (List.getElem_mem hj)) b2).1
  · exact q.elim
end
end G

namespace G
open PySem PySem.Spec L2
/-! ### try: .. with several clauses, each with a name or without; a named exception is tracked, and may be kept -/
theorem exH_ok {P : Program} {w : World} {H : Hp} {h : Heap} {a : Addr} {c : Value} {od : Option Addr} {oe : Obj} {vs : Array Value} (e : h.get? a = some oe) (z : Zc c od oe) (d : oe.data = .fields vs) : ObjOk P w H h a (ExH c od a) :=
  ⟨⟨oe, vs, e, z, d⟩, ⟨oe, e⟩, fun _ _ ⟨o, v, q, r⟩ k => ⟨o, v, k o q, r⟩⟩
section
variable {X : Cx} {pins : List (Addr × Obj)} {σ : St} {H : Hp} {sI s s' : Shared}
/-- an object that stands is tracked from here on: it was not there at the entry -/
theorem track {a : Addr} {o : HO} (J : Inv X pins σ H sI) (hI : sI.heap.get? a = none) (I : Inv X pins σ H s') (na : H a = none) (nL : a ≠ X.env.locals) (new : ObjOk X.prog X.w (upd H a o) s'.heap a o) : Inv X pins σ (upd H a o) s' where
  ok := I.ok
  os := I.os
  bare := I.bare
  base := ⟨I.base.keep, I.base.slot, fun b u q n hx => by
      rw [upd_ne (fun z => by
        obtain ⟨o', e⟩ := J.base.there b u q hx
        rw [z, hI] at e; cases e)]
      exact I.base.free b u q n hx, I.base.there,
    fun b xs q => by have := I.base.tups b xs q; rw [upd_ne (ne_of_none this na)]; exact this,
    fun b u v q => by have := I.base.frzs b u v q; rw [upd_ne (ne_of_none this na)]; exact this,
    fun b ps q => by obtain ⟨m, this⟩ := I.base.tbls b ps q; exact ⟨m, by rw [upd_ne (ne_of_none this na)]; exact this⟩⟩
  loc := I.loc
  cell := I.cell
  free := by rw [upd_ne (Ne.symm nL)]; exact I.free
  freeC := fun x c e => by
    rw [upd_ne (fun z => by
      obtain ⟨v, q⟩ := J.cell x c e
      obtain ⟨o', q, _⟩ := q
      rw [z, hI] at q
      cases q)]
    exact I.freeC x c e
  pin := fun p hp => by
    obtain ⟨p1, p2, p3, p4, p5⟩ := I.pin p hp
    refine ⟨p1, ?_, p3, p4, p5⟩
    rw [upd_ne (fun z => by
      obtain ⟨q, _⟩ := J.pin p hp
      rw [z, hI] at q; cases q)]
    exact p2
  hok := fun b u e => by
    by_cases hb : b = a
    · subst hb
      rw [upd_same] at e
      cases e
      exact new
    · rw [upd_ne hb] at e
      exact (I.hok b u e).stay (fun _ _ _ q => q) (fun c q => by rw [upd_ne (ne_of_none q na)]; exact q) fun c xs q => by rw [upd_ne (ne_of_none q na)]; exact q
  len := I.len
/-- into a suite whose exception is tracked, and out of it -/
theorem suite0 {a : Addr} (I : Inv X pins σ H s) : Inv (X.suite a (X.pn ++ pins)) [] σ H s :=
  ⟨I.ok.suite _ _, I.os, I.bare, I.base, I.loc, I.cell, I.free, I.freeC, fun p hp => I.pin p (by rw [List.append_nil] at hp; exact hp), I.hok, I.len⟩
theorem unsuite0 {a : Addr} {pn' : List (Addr × Obj)} (I : Inv (X.suite a (X.pn ++ pins)) pn' σ H s) (ok : X.Ok) : Inv X pins σ H s :=
  ⟨ok, I.os, I.bare, I.base, I.loc, I.cell, I.free, I.freeC, fun p hp => I.pin p (List.mem_append_left _ hp), I.hok, I.len⟩
end
abbrev HdT := Value × Option Nat × (Addr → Value → Option Addr → TS)
/-- the ends of a suite whose name goes -/
def gone (D : Ends) (i : Nat) : Ends := { nx := fun σ' H' => D.nx (σ'.set i none) H', rt := D.rt, bk := fun σ' H' => D.bk (σ'.set i none) H', ct := fun σ' H' => D.ct (σ'.set i none) H' }
def wMA (K : PySem.W.Frag) (Wout : WX) (D : Ends) : List HdT → WX
  | [] => Wout
  | (c, none, ts) :: r => fun cls d σ H => ∃ b, PySem.W.exmOne K cls c = some b ∧ (b = true → ∀ a, H a = none → ts a cls d D σ H) ∧ (b = false → wMA K Wout D r cls d σ H)
  | (c, some i, ts) :: r => fun cls d σ H => ∃ b, PySem.W.exmOne K cls c = some b ∧ (b = true → ∀ a, H a = none → ts a cls d (gone D i) (σ.set i (some (.ref a))) (upd H a (ExH cls d a))) ∧ (b = false → wMA K Wout D r cls d σ H)
inductive HdA (X : Cx) : List ExceptHandler → List HdT → Prop
  | nil : HdA X [] []
  | bare {x : Str} {c : Value} {ts : Addr → Value → Option Addr → TS} {b₀ : Stmt} {suite : List Stmt} {np pos' : Pos} {hds : List ExceptHandler} {l : List HdT} (hc : Names X x c)
      (hsu : ∀ (a : Addr) (cls : Value) (d : Option Addr) (pn : List (Addr × Obj)), PSs (X.suite a pn) (b₀ :: suite) (ts a cls d)) (r : HdA X hds l) : HdA X (.ExceptHandler (some (.Name x np)) none (b₀ :: suite) pos' :: hds) ((c, none, ts) :: l)
  | named {x n : Str} {i : Nat} {c : Value} {ts : Addr → Value → Option Addr → TS} {b₀ : Stmt} {suite : List Stmt} {np pos' : Pos} {hds : List ExceptHandler} {l : List HdT} (hc : Names X x c) (hN : X.N.Nodup) (hi : X.N[i]? = some n) (hln : X.env.kindOf n = some .local)
      (hsu : ∀ (a : Addr) (cls : Value) (d : Option Addr) (pn : List (Addr × Obj)), PSs (X.suite a pn) (b₀ :: suite) (ts a cls d)) (r : HdA X hds l) : HdA X (.ExceptHandler (some (.Name x np)) (some n) (b₀ :: suite) pos' :: hds) ((c, some i, ts) :: l)
section
variable {X : Cx} {body : List Stmt} {h₀ : ExceptHandler} {hds : List ExceptHandler} {l : List HdT} {pos : Pos} {tb : WX → TS} {Wout : WX}
theorem ps_tryA (hs : X.stack = X.env :: X.outer) (hf : X.env.frame = some X.env.locals) (tk : Takes X Wout)
    (hb : ∀ (W : WX) (pn : List (Addr × Obj)) (xe : Value → Shared → Prop), Takes (X.tr pn xe) W → PassesOwn (model X.prog X.w) X.A X.env xe → PSs (X.tr pn xe) body (tb W))
    (hh : HdA X (h₀ :: hds) l) : PS X (.Try body (h₀ :: hds) [] [] pos) (fun D σ H => tb (wMA X.K Wout D l) D σ H) := by
  refine ⟨fun pins s σ H D I h => ?_⟩
  have ok := I.ok
  have hfr : X.A.frames = some (X.env :: X.outer) := by rw [ok.frames, hs]
  refine wpAny_Try_except ?_
  refine wpAny_mono ((hb (wMA X.K Wout D l) (X.pn ++ pins) (fun e s₁ => wpAny (model X.prog X.w) X.A (noteFrame e X.env) (fun _ s₂ => wpAny (model X.prog X.w) X.A (setFlight e none) (fun _ s₃ =>
    wpAny (model X.prog X.w) X.A (handleBy e X.env (h₀ :: hds)) (SP X pins D) X.xe s₃) X.xe s₂) X.xe s₁) (fun u s' xx => ?_) PassesOwn.looking).run [] s σ H D (I.toTry _) h) (fun f s1 hsp => ?_) (fun e s1 he => he)
  · obtain ⟨a, B, sI, pins', σ', H', cls, d, rfl, J', nb, up, sky, na, os, ag, w⟩ := xx
    have J : Inv X pins σ' H' sI := J'.ofTry ok
    have sky' : Sky B (X.env :: X.outer) a (Zc cls d) X.env.locals s'.heap := by rw [← hs]; exact sky
    show wpAny (model X.prog X.w) X.A (noteFrame (.ref a) X.env) _ _ _
    refine Sky.land Zc.steady hfr hf sky' fun h3 fl3 up3 => ?_
    have J3 : Inv X pins σ' H' { s' with heap := h3 } := J.landed nb fl3.1 (up.trans up3) os ag
    obtain ⟨oe3, vs3, he3, hz3, hd3⟩ := fl3.there
    have notFr : ∀ {h : Heap} {o : Obj} {vs : Array Value}, h.FunFrames B (X.env :: X.outer) → h.get? a = some o → o.data = .fields vs → a ∉ frs (X.env :: X.outer) := fun {h o vs} ff e dd hm => by
      obtain ⟨_, o', e', hnf⟩ := ff.mem hm
      rw [e] at e'; cases e'
      exact hnf _ dd
    have nfr := notFr fl3.2.2.1 he3 hd3
    have nL : a ≠ X.env.locals := fun z => nfr (List.mem_filterMap.mpr ⟨X.env, List.mem_cons_self, by rw [hf, z]⟩)
    have nF : a ∉ X.fs := fun hm => by
      obtain ⟨e, he, q⟩ := List.mem_filterMap.mp hm
      exact nfr (List.mem_filterMap.mpr ⟨e, List.mem_cons_of_mem _ he, q⟩)
    have hI : sI.heap.get? a = none := by
      cases e : sI.heap.get? a with
      | none => rfl
      | some o =>
        have z := nb a o e (by rw [hs]; exact nfr)
        rw [fl3.2.1] at z; cases z
    have S3 := J3.suite he3 hd3 na nL nF
    have go : ∀ {hds' : List ExceptHandler} {l' : List HdT}, HdA X hds' l' → wMA X.K Wout D l' cls d σ' H' →
        wpAny (model X.prog X.w) X.A (handleBy (.ref a) X.env hds') (SP X pins D) X.xe { s' with heap := h3 } := by
      have LT : PySem.W.Looks (model X.prog X.w) h3 (typeOf (.ref a)) cls := fun A Q E s k q => wpAny_typeOf_ref (k _ _ he3) (by rw [hz3.1]; exact q)
      have test : ∀ {x : Str} {c : Value} {np : Pos}, Names X x c → ∀ {Q : Value → Shared → Prop} {E : Value → Shared → Prop}, Q c { s' with heap := h3 } → wpAny (model X.prog X.w) (X.A.mark (some (.ref a))) (eval (.Name x np) X.env) Q E { s' with heap := h3 } := fun {x c np} hc {Q E} q => by
        obtain ⟨hg, hdbg, hm | ⟨hm, hv, hnn⟩⟩ := hc
        · exact ld_glob (X := X.suite a ((a, oe3) :: (X.pn ++ pins))) S3 hg hm q hdbg
        · exact ld_blt (X := X.suite a ((a, oe3) :: (X.pn ++ pins))) S3 hg hm hv q hnn hdbg
      intro hds' l' hk
      induction hk with
      | nil =>
        intro w
        refine wpAny_handleBy_nil ?_
        obtain ⟨k1, k2, k3, oe, vs, T, oT, ts', he, hz, hd, h1, hr⟩ := id fl3
        unfold PySem.passOn
        refine wpAny_bind (wpAny_field he hd h1 ?_)
        rw [if_neg (show ¬ ((Value.ref T == Value.none) = true) from by simp)]
        have fin : wpAny (model X.prog X.w) X.A (setFlight (.ref a) X.env.frame) (fun _ s4 => wpAny (model X.prog X.w) X.A (throw (.ref a) : Sem Flow) (SP X pins D) X.xe s4) X.xe { s' with heap := h3 } := by
          rw [hf]
          refine HandSPX.setFlight_upZ fl3 fun h4 hh4 up4 => wpAny_throw (tk _ _ ?_)
          exact ⟨a, B, sI, pins, σ', H', cls, d, rfl, J, nb, (up.trans up3).trans up4, .inr (.inr (by rw [hs]; exact hh4)), na, os, ag, w⟩
        first
          | exact wpAny_bind (wpAny_pure (wpAny_bind fin))
          | exact wpAny_bind fin
      | @bare x c ts b₀ suite np pos' hds2 l2 hc hsu r ih =>
        intro w
        obtain ⟨b, hb1, hyes, hno⟩ := w
        refine wpAny_handleBy_cons (codeAny_handlers_test ?_) (by intro q; cases q)
        have LM := PySem.W.exm_one (M := model X.prog X.w) (J3.kIn) LT hb1
        refine test hc (LM.here ?_)
        cases b with
        | true =>
          refine codeAny_handlers_suite ?_
          refine HandSPX.lands_againZ fl3 fun h4 fl4 up4 => ?_
          have J4 : Inv X pins σ' H' { s' with heap := h4 } := J.landed nb fl4.1 ((up.trans up3).trans up4) os ag
          obtain ⟨oe4, vs4, he4, hz4, hd4⟩ := fl4.there
          have S4 := J4.suite he4 hd4 na nL nF
          refine wpAny_mono ((hsu a cls d ((a, oe4) :: (X.pn ++ pins))).run [] _ _ H' _ S4 (hyes rfl a na)) (fun f s6 hsp => ?_) (fun _ _ z => False.elim z)
          cases f with
          | next =>
            obtain ⟨σ6, H6, S6, q6⟩ := hsp
            exact ⟨_, _, S6.unsuite ok, q6⟩
          | brk =>
            obtain ⟨σ6, H6, S6, q6⟩ := hsp
            exact ⟨_, _, S6.unsuite ok, q6⟩
          | cont =>
            obtain ⟨σ6, H6, S6, q6⟩ := hsp
            exact ⟨_, _, S6.unsuite ok, q6⟩
          | ret u =>
            obtain ⟨v6, σ6, H6, S6, r6, q6⟩ := hsp
            exact ⟨_, _, _, S6.unsuite ok, r6, q6⟩
        | false =>
          show wpAny _ X.A (handleBy (.ref a) X.env hds2) _ _ _
          exact ih (hno rfl)
      | @named x n i c ts b₀ suite np pos' hds2 l2 hc hN hi hln hsu r ih =>
        intro w
        obtain ⟨b, hb1, hyes, hno⟩ := w
        refine wpAny_handleBy_cons (codeAny_handlers_test ?_) (by intro q; cases q)
        have LM := PySem.W.exm_one (M := model X.prog X.w) (J3.kIn) LT hb1
        refine test hc (LM.here ?_)
        cases b with
        | true =>
          refine codeAny_handlers_suite_as ?_
          refine HandSPX.lands_againZ fl3 fun h4 fl4 up4 => ?_
          have J4 : Inv X pins σ' H' { s' with heap := h4 } := J.landed nb fl4.1 ((up.trans up3).trans up4) os ag
          obtain ⟨oe4, vs4, he4, hz4, hd4⟩ := fl4.there
          have S4 := suite0 (a := a) (track J hI J4 na nL (exH_ok (c := cls) (od := d) he4 hz4 hd4))
          refine store_ok (X := X.suite a (X.pn ++ pins)) (v := .ref a) S4 hN hi (.inl hln) rfl (fun s5 S5 => ?_) (.inr hln)
          refine wpAny_mono ((hsu a cls d (X.pn ++ pins)).run [] s5 _ _ _ S5 (hyes rfl a na)) (fun f s6 hsp => ?_) (fun _ _ z => False.elim z)
          have end_ : ∀ {σ6 : St} {H6 : Hp} {Q : Shared → Prop}, Inv (X.suite a (X.pn ++ pins)) [] σ6 H6 s6 → (∀ s7, Inv X pins (σ6.set i none) H6 s7 → Q s7) →
              wpAny (model X.prog X.w) X.A (do bindName X.env n .none; unbindBehindTheSuite X.env n pos') (fun _ s7 => Q s7) X.xe s6 := fun {σ6 H6 Q} S6 hq => gone_ok (unsuite0 S6 ok) hN hi hln hq
          cases f with
          | next =>
            obtain ⟨σ6, H6, S6, q6⟩ := hsp
            exact end_ S6 fun s7 J7 => ⟨_, _, J7, q6⟩
          | brk =>
            obtain ⟨σ6, H6, S6, q6⟩ := hsp
            exact end_ S6 fun s7 J7 => ⟨_, _, J7, q6⟩
          | cont =>
            obtain ⟨σ6, H6, S6, q6⟩ := hsp
            exact end_ S6 fun s7 J7 => ⟨_, _, J7, q6⟩
          | ret u =>
            obtain ⟨v6, σ6, H6, S6, r6, q6⟩ := hsp
            exact end_ S6 fun s7 J7 => ⟨_, _, _, J7, r6, q6⟩
        | false =>
          show wpAny _ X.A (handleBy (.ref a) X.env hds2) _ _ _
          exact ih (hno rfl)
    exact go hh w
  · cases f with
    | next =>
      obtain ⟨σ', H', J', q⟩ := hsp
      exact wpAny_execs_nil ⟨σ', H', J'.ofTry ok, q⟩
    | brk =>
      obtain ⟨σ', H', J', q⟩ := hsp
      exact ⟨σ', H', J'.ofTry ok, q⟩
    | cont =>
      obtain ⟨σ', H', J', q⟩ := hsp
      exact ⟨σ', H', J'.ofTry ok, q⟩
    | ret u =>
      obtain ⟨v, σ', H', J', r, q⟩ := hsp
      exact ⟨v, σ', H', J'.ofTry ok, r, q⟩
end
/-! over data -/
def excD (c : Value) (x : Option (List (Str × D))) : D := .exc c (x.map (·.map (·.1))) ((x.getD []).map (·.2))
theorem rep_exc {K : PySem.W.Frag} {S : Reg} {H : Hp} {c : Value} {x : Option (List (Str × D))} {od : Option Addr} {a : Addr} (h : XRep K S H x od) (na : ¬ S a) (ha : H a = some (ExH c od a)) : Rep K S H (excD c x) (.ref a) := by
  refine Rep.exc_iff.mpr ?_
  cases x with
  | none => exact ⟨a, od, [], rfl, ⟨ha, na⟩, h, Reps.nil⟩
  | some fs =>
    obtain ⟨b, vs, e, h1, h2, h3, h4⟩ := h
    have zp : ∀ l : List (Str × V), (l.map (·.1)).zip (l.map (·.2)) = l := fun l => by
      induction l with
      | nil => rfl
      | cons p l ih => simp only [List.map_cons, List.zip_cons_cons, ih]
    have h5 : Reps K S H (((some fs).getD []).map fun p : Str × D => p.2) (vs.map fun p : Str × V => p.2) := h4
    refine ⟨a, od, vs.map fun p : Str × V => p.2, rfl, ⟨ha, na⟩, ⟨b, e, ⟨?_, h2⟩, by simp⟩, h5⟩
    show H b = some (.xd ((fs.map (·.1)).zip (vs.map (·.2))))
    rw [h1, ← h3, zp]
structure HA where
  cls : Value
  yes : List Value
  no : List Value
  as : Option Nat
  body : TSD
def goneD (De : EndsD) : Option Nat → EndsD
  | none => { De with ex := fun _ _ _ _ => False }
  | some i => { nx := fun ρ W => De.nx (ρ.set i none) W, rt := De.rt, bk := fun ρ W => De.bk (ρ.set i none) W, ct := fun ρ W => De.ct (ρ.set i none) W, ex := fun _ _ _ _ => False }
def setAs (ρ : Env) (cls : Value) (x : Option (List (Str × D))) : Option Nat → Env
  | none => ρ
  | some i => ρ.set i (some (.sh (excD cls x)))
/-- what becomes of an exception of the body, clause by clause -/
def hdX (De : EndsD) : List HA → KX
  | [] => De.ex
  | h :: r => fun cls x ρ W => (cls ∈ h.yes ∧ h.body (goneD De h.as) (setAs ρ cls x h.as) W) ∨ (cls ∈ h.no ∧ hdX De r cls x ρ W)
def dTry (f : TSD) (hs : List HA) : TSD := fun De ρ W => f { De with ex := hdX De hs } ρ W
theorem al0 {p : Value → Prop} : ∀ v ∈ ([] : List Value), p v := fun v h => by cases h
theorem al1 {p : Value → Prop} {a : Value} {l : List Value} (h : p a) (r : ∀ v ∈ l, p v) : ∀ v ∈ a :: l, p v := fun v hv => by
  rcases List.mem_cons.mp hv with e | hv
  · rw [e]; exact h
  · exact r v hv
inductive HdG (X : Cx) : List ExceptHandler → List HA → Prop
  | nil : HdG X [] []
  | bare {x : Str} {c : Value} {y n : List Value} {f : TSD} {b₀ : Stmt} {suite : List Stmt} {np pos' : Pos} {hds : List ExceptHandler} {l : List HA} (hc : Names X x c) (hy : ∀ v ∈ y, PySem.W.exmOne X.K v c = some true) (hn : ∀ v ∈ n, PySem.W.exmOne X.K v c = some false)
      (hsu : ∀ (a : Addr) (pn : List (Addr × Obj)), GSs (X.suite a pn) WXno (b₀ :: suite) f) (r : HdG X hds l) : HdG X (.ExceptHandler (some (.Name x np)) none (b₀ :: suite) pos' :: hds) (⟨c, y, n, none, f⟩ :: l)
  | named {x m : Str} {i : Nat} {c : Value} {y n : List Value} {f : TSD} {b₀ : Stmt} {suite : List Stmt} {np pos' : Pos} {hds : List ExceptHandler} {l : List HA} (hc : Names X x c) (hN : X.N.Nodup) (hi : X.N[i]? = some m) (hln : X.env.kindOf m = some .local)
      (hy : ∀ v ∈ y, PySem.W.exmOne X.K v c = some true) (hn : ∀ v ∈ n, PySem.W.exmOne X.K v c = some false)
      (hsu : ∀ (a : Addr) (pn : List (Addr × Obj)), GSs (X.suite a pn) WXno (b₀ :: suite) f) (r : HdG X hds l) : HdG X (.ExceptHandler (some (.Name x np)) (some m) (b₀ :: suite) pos' :: hds) (⟨c, y, n, some i, f⟩ :: l)
section
variable {X : Cx} {Wx : WX} {body : List Stmt} {h₀ : ExceptHandler} {hds : List ExceptHandler} {l : List HA} {pos : Pos} {f : TSD}
def hdT (K : PySem.W.Frag) (h : HA) : HdT := (h.cls, h.as, fun _ _ _ => tOf K WXno h.body)
theorem HdG.ok {hds : List ExceptHandler} {l : List HA} (h : HdG X hds l) : HdA X hds (l.map (hdT X.K)) := by
  induction h with
  | nil => exact .nil
  | bare hc hy hn hsu r ih => exact .bare hc (fun a cls d pn => pss_tOf (hsu a _)) ih
  | named hc hN hi hln hy hn hsu r ih => exact .named hc hN hi hln (fun a cls d pn => pss_tOf (hsu a _)) ih
theorem HdG.wish {K : PySem.W.Frag} (hK : X.K = K) {F S : Reg} {H : Hp} {De : EndsD} {Dh : Ends} (lk : Lnk K Wx F S H De Dh) {hds : List ExceptHandler} {l : List HA} (h : HdG X hds l) : LkX K F S H (wMA K Wx Dh (l.map (hdT K))) (hdX De l) := by
  subst hK
  induction h with
  | nil => exact lk.ex
  | @bare x cc y n f b₀ suite np pos' hds l hc hy hn hsu r ih =>
    intro S' H' σ' ρ' W' cls x od e c xr q
    rcases q with ⟨q1, q2⟩ | ⟨q1, q2⟩
    · refine ⟨true, hy cls q1, fun _ a _ => ?_, fun z => by cases z⟩
      exact ⟨F, S', ρ', W', _, c, q2, ⟨(lk.up e).nx, (lk.up e).rt, (lk.up e).bk, (lk.up e).ct, fun _ _ _ _ _ _ _ _ _ _ _ z => z.elim⟩⟩
    · exact ⟨false, hn cls q1, fun z => (by cases z), fun _ => ih S' H' σ' ρ' W' cls x od e c xr q2⟩
  | @named x m i cc y n f b₀ suite np pos' hds l hc hN hi hln hy hn hsu r ih =>
    intro S' H' σ' ρ' W' cls x od e c xr q
    rcases q with ⟨q1, q2⟩ | ⟨q1, q2⟩
    · refine ⟨true, hy cls q1, fun _ a na => ?_, fun z => by cases z⟩
      have sm : Same H' (upd H' a (ExH cls od a)) := same_new na
      have nS : ¬ S' a := fun z => c.cb.sd a z na
      have st := stp_same c.cb sm
      have xr2 : XRep X.K S' (upd H' a (ExH cls od a)) x od := by
        cases x with
        | none => exact xr
        | some fs =>
          obtain ⟨b, vs, e0, h1, h2, h3, h4⟩ := xr
          exact ⟨b, vs, e0, by rw [upd_ne (ne_of_none h1 na)]; exact h1, h2, h3, h4.up st⟩
      refine ⟨F, S', _, W', _, (c.same sm).setSh i (rep_exc xr2 nS upd_same), q2, ?_⟩
      have lk2 := lk.up (e.trans st)
      exact ⟨fun S2 H2 σ2 ρ2 W2 e2 c2 q => lk2.nx S2 H2 _ _ W2 e2 (c2.setNone i) q, lk2.rt, fun S2 H2 σ2 ρ2 W2 e2 c2 q => lk2.bk S2 H2 _ _ W2 e2 (c2.setNone i) q, fun S2 H2 σ2 ρ2 W2 e2 c2 q => lk2.ct S2 H2 _ _ W2 e2 (c2.setNone i) q, fun _ _ _ _ _ _ _ _ _ _ _ z => z.elim⟩
    · exact ⟨false, hn cls q1, fun z => (by cases z), fun _ => ih S' H' σ' ρ' W' cls x od e c xr q2⟩
theorem gs_try (hs : X.stack = X.env :: X.outer) (hf : X.env.frame = some X.env.locals) (tk : Takes X Wx)
    (hb : ∀ (W : WX) (pn : List (Addr × Obj)) (xe : Value → Shared → Prop), Takes (X.tr pn xe) W → PassesOwn (model X.prog X.w) X.A X.env xe → GSs (X.tr pn xe) W body f) (hh : HdG X (h₀ :: hds) l) : GS X Wx (.Try body (h₀ :: hds) [] [] pos) (dTry f l) :=
  ⟨_, ps_tryA (tb := fun W => tOf X.K W f) hs hf tk (fun W pn xe t p => pss_tOf (hb W pn xe t p)) hh.ok, fun F S H σ ρ W De Dh cf hf lk =>
    ⟨F, S, ρ, W, _, cf, hf, ⟨lk.nx, lk.rt, lk.bk, lk.ct, hh.wish rfl lk⟩⟩⟩
end
/-! isinstance(e, C), e a caught exception without fields -/
def rIsX (K : PySem.W.Frag) : List V → Hp → VK → Prop := fun xs H Q => ∃ (a D C : Addr) (b : Bool), xs = [.ref a, .ref C] ∧ H a = some (ExH (.ref D) none a) ∧ ExcC K D ∧ PySem.W.kitOne K (.ref D) (.ref C) = some b ∧ Q (.bl b) H
theorem cr_isX {X : Cx} : CallR X (.builtin "isinstance") (rIsX X.K) := by
  intro pins s σ H xs us Q I r h
  obtain ⟨a, D, C, b, rfl, ha, T, e, q⟩ := h
  cases r with
  | cons rx rr =>
    cases rr with
    | cons rt rr =>
      cases rr
      cases rx
      cases rt
      obtain ⟨⟨oe, vs, hget, hz, hv⟩, _, _⟩ : ObjOk X.prog X.w H s.heap a (ExH (.ref D) none a) := I.hok a _ ha
      have J : PySem.W.InstAt s.heap a oe D none := by
        obtain ⟨oc, od, oda, osl⟩ := oe
        obtain ⟨h1, h2⟩ := hz
        dsimp only at h1 h2 hv
        subst h1 h2 hv
        exact ⟨hget, rfl, rfl, trivial⟩
      exact PySem.W.kia_one (PySem.W.handS_kitx_exc T.hg T.hk T.hs T.hd T.ha T.hn T.ht T.hm) I.kIn J e (fun z => nomatch z) fun tk => ⟨.bl b, H, I.kept (t' := tk) fun _ _ z => z, rfl, q⟩
/-- what isinstance says of a caught exception of the class D -/
structure IsAt (K : PySem.W.Frag) (D C : Addr) (b : Bool) : Prop where
  ex : ExcC K D
  kit : PySem.W.kitOne K (.ref D) (.ref C) = some b
def dIsX (l : List (Value × Bool)) : List D → (D → Prop) → Prop := fun ds Q => match ds with
  | [.exc c none _, .v (.ref _)] => ∃ b, (c, b) ∈ l ∧ Q (.bl b)
  | _ => False
/-- isinstance(e, C): l tells the classes that e may have, and the answers -/
theorem ge_isX {X : Cx} {Wx : WX} {e : Expr} {fe : TD} {C : Addr} {x : Str} {p px pos : Pos} {l : List (Value × Bool)} (hl : ∀ q ∈ l, ∃ D, q.1 = .ref D ∧ IsAt X.K D C q.2) (hC : X.mg x = some (.ref C)) (hm : X.mg "isinstance" = none) (ha : GE X Wx e fe)
    (hg : Gl X "isinstance" := by rfl) (hgx : Gl X x := by rfl) (hdx : (x == ("__debug__" : Str)) = false := by decide)
    (he : starEach [e, .Name x px] X.env = (false, eval e X.env) :: starEach [.Name x px] X.env := by rfl) (he2 : starEach [.Name x px] X.env = (false, eval (.Name x px) X.env) :: starEach [] X.env := by rfl) (hpl : (backTo pos (starEach [.Name x px] X.env)).any (·.1) = false := by rfl) :
    GE X Wx (.Call (.Name "isinstance" p) [e, .Name x px] [] pos) (fun ρ W Q Qx => fe ρ W (fun d ρ' W' => dIsX l [d, .ref C] fun y => Q y ρ' W') Qx) := by
  obtain ⟨te, pe, se⟩ := ha
  refine ⟨_, pe_callB cr_isX hg hm (by decide +kernel) (pa_cons pe (pa_cons (pe_glob (v := .ref C) hgx hC rfl hdx) pa_nil he2) he) (by decide) (by decide) he hpl, fun F S H σ ρ W Q Qx R cf hf hx hE => ?_⟩
  refine se F S H σ ρ W _ Qx _ cf hf hx fun S' H' ρ' W' d v e' c r q => ?_
  unfold dIsX at q
  split at q
  · rename_i ds cc ds0 C' e0
    cases e0
    obtain ⟨b, hb, q⟩ := q
    obtain ⟨D, e1, T⟩ := hl _ hb
    simp only at e1
    subst e1
    obtain ⟨a, od, xs, rfl, h1, h2, h3⟩ := Rep.exc_iff.mp r
    cases h2
    exact ⟨a, D, C, b, rfl, h1.1, T.ex, T.kit, hE S' H' ρ' W' _ _ e' c (Rep.v_iff.mpr rfl) q⟩
  · exact q.elim
def dIsE (l : List (Value × Bool)) (C : V) (fe : TD) : TD := fun ρ W Q Qx => fe ρ W (fun d ρ' W' => dIsX l [d, .v C] fun y => Q y ρ' W') Qx
theorem al0q {p : Value × Bool → Prop} : ∀ v ∈ ([] : List (Value × Bool)), p v := fun v h => by cases h
theorem al1q {K : PySem.W.Frag} {C D : Addr} {b : Bool} {l : List (Value × Bool)} (h : IsAt K D C b) (r : ∀ q ∈ l, ∃ D, q.1 = .ref D ∧ IsAt K D C q.2) : ∀ q ∈ (Value.ref D, b) :: l, ∃ D, q.1 = .ref D ∧ IsAt K D C q.2 := fun v hv => by
  rcases List.mem_cons.mp hv with e | hv
  · rw [e]; exact ⟨D, rfl, h⟩
  · exact r v hv
theorem ge_isE {X : Cx} {Wx : WX} {e : Expr} {fe : TD} {C : Addr} {x : Str} {p px pos : Pos} {l : List (Value × Bool)} (hl : ∀ q ∈ l, ∃ D, q.1 = .ref D ∧ IsAt X.K D C q.2) (hC : X.mg x = some (.ref C)) (hm : X.mg "isinstance" = none) (ha : GE X Wx e fe)
    (hg : Gl X "isinstance" := by rfl) (hgx : Gl X x := by rfl) (hdx : (x == ("__debug__" : Str)) = false := by decide)
    (he : starEach [e, .Name x px] X.env = (false, eval e X.env) :: starEach [.Name x px] X.env := by rfl) (he2 : starEach [.Name x px] X.env = (false, eval (.Name x px) X.env) :: starEach [] X.env := by rfl) (hpl : (backTo pos (starEach [.Name x px] X.env)).any (·.1) = false := by rfl) :
    GE X Wx (.Call (.Name "isinstance" p) [e, .Name x px] [] pos) (dIsE l (.ref C) fe) := ge_isX hl hC hm ha hg hgx hdx he he2 hpl
end G

namespace G
open PySem PySem.Spec L2
/-! ### len(x), x the frame's own list -/
section
variable {X : Cx} {Wx : WX} {pos : Pos}
theorem ge_lenO (k : Nat) {x : Str} {p px : Pos} (hm : X.mg "len" = none) (hg : Gl X "len" := by rfl) (hN : X.N[k]? = some x := by rfl) (hvx : Vis X.env.scope x := by first | exact Or.inl rfl | exact Or.inr (Or.inl rfl) | exact Or.inr (Or.inr rfl)) (hd : (x == ("__debug__" : Str)) = false := by decide) (hcd : (x == ("__classdict__" : Str)) = false := by decide)
    (he : starEach [.Name x px] X.env = (false, eval (.Name x px) X.env) :: starEach [] X.env := by rfl) (hpl : (backTo pos (starEach [] X.env)).any (·.1) = false := by rfl) : GE X Wx (.Call (.Name "len" p) [.Name x px] [] pos) (dLenO k) := by
  refine ⟨_, pe_callB call_len hg hm (by decide +kernel) (pa_cons (pe_var hN hvx hd hcd) pa_nil he) (by decide) (by decide) he hpl, fun F S H σ ρ W Q Qx R cf hf hx hE => ?_⟩
  unfold dLenO at hf
  split at hf
  · rename_i ds hk
    obtain ⟨p', ys, hp, h2, h3, _⟩ := cf.ol k ds hk
    exact ⟨_, hp, _, _, rfl, .inl ⟨ys, .inl (.inl h2), rfl⟩, hE S H ρ W _ _ .refl cf (Rep.v_iff.mpr (by rw [h3.length])) hf⟩
  · exact hf.elim
end
/-! ### tuple(xs) of a list: a tuple that is known to have no dict -/
def rTupF (K : PySem.W.Frag) : List V → Hp → VK → Prop := fun xs H Q => ∃ (p : Addr) (ys : List V), xs = [.ref p] ∧ SqL K H p ys ∧ ∀ (l : Addr) (o : Obj), H l = none → o.dict = none → Q (.ref l) (upd H l (.frz o (.tup ys)))
theorem cr_tupF {X : Cx} : CallR X (.type "tuple") (rTupF X.K) := by
  intro pins s σ H xs us Q I r h
  obtain ⟨p, ys, rfl, hq, q⟩ := h
  obtain ⟨u, rfl, rx⟩ := vals1 r
  cases rx
  obtain ⟨its, rv, pl, hz⟩ := I.list hq
  have hlen := rv.length
  refine call_tuple_list pl.isList (fun h' kp => ?_) (by simp only [List.size_toArray] <;> omega)
  have I1 : Inv X pins σ H { s with heap := h' } := I.kept (t' := s.toks) kp
  have new : (h'.push { cls := .type "tuple", data := .seq its.toArray }).get? h'.objs.size = some { cls := .type "tuple", data := .seq its.toArray } := Heap.get?_push_size _ rfl
  refine ⟨.ref h'.objs.size, _, I1.laid (t' := s.toks) (o := .frz { cls := .type "tuple", data := .seq its.toArray } (.tup ys)) (fun b o e => Heap.get?_push_of_some _ e) (Nat.le_refl _) ⟨new, hz, its, rv, _, new, rfl, _, rfl⟩, rfl, q _ _ (I1.hok.fresh (Nat.le_refl _)) rfl⟩
def dTupF : List D → (D → Prop) → Prop := fun ds Q => match ds with
  | [.lst xs] => Q (.tpf xs)
  | _ => False
theorem cs_tupF {K : PySem.W.Frag} : CSnd K (rTupF K) dTupF := fun F S H W ds xs P R cb rd hp k => by
  unfold dTupF at hp
  split at hp
  · obtain ⟨x, rfl, h⟩ := reps1 rd
    obtain ⟨a, ys, rfl, h1, h2⟩ := Rep.lst_iff.mp h
    refine ⟨a, ys, rfl, h1.sq, fun p o hn hd => k _ _ _ (same_new hn) ?_ hp⟩
    exact Rep.tpf_iff.mpr ⟨p, ys, o, rfl, ⟨upd_same, fun z => cb.sd p z hn⟩, hd, h2.up (stp_same (F := F) cb (same_new hn))⟩
  · exact hp.elim
/-- such a tuple, read as any tuple -/
def wk : D → D
  | .tpf ds => .tup ds
  | d => d
theorem rep_wk {K : PySem.W.Frag} {S : Reg} {H : Hp} {d : D} {v : V} (h : Rep K S H d v) : Rep K S H (wk d) v := by
  unfold wk
  split
  · obtain ⟨a, xs, o, rfl, h1, _, h2⟩ := Rep.tpf_iff.mp h
    exact Rep.tup_iff.mpr ⟨a, xs, rfl, .inr (.inr ⟨o, h1⟩), h2⟩
  · exact h
def dWk (fe : TD) : TD := fun ρ W Q Qx => fe ρ W (fun d ρ' W' => Q (wk d) ρ' W') Qx
theorem ge_wk {X : Cx} {Wx : WX} {e : Expr} {fe : TD} (h : GE X Wx e fe) : GE X Wx e (dWk fe) := by
  obtain ⟨te, pe, se⟩ := h
  exact ⟨te, pe, fun F S H σ ρ W Q Qx R cf hf hx hE => se F S H σ ρ W _ Qx _ cf hf hx fun S' H' ρ' W' d v e c r q => hE S' H' ρ' W' _ v e c (rep_wk r) q⟩
/-! ### dict(t), t such a tuple, of pairs -/
section
variable {X : Cx}
theorem pairs2 {pins : List (Addr × Obj)} {σ : St} {H : Hp} {s : Shared} (I : Inv X pins σ H s) : ∀ {ps : List Addr} {kvs : List (Key × V)}, Paired (fun p kv => SqT X.K H p [kV kv.1, kv.2]) ps kvs →
    ∃ (prs : List (Key × Value)) (pvs : List (Value × Value)), KV kvs prs ∧ prs.length = ps.length ∧ pvs.length = ps.length ∧ ∀ (j : Nat) (k v : Value), pvs[j]? = some (k, v) → (∃ b, ps[j]? = some b ∧ PyProof.Rows.IsTup s.heap b #[k, v]) ∧ ∃ q, prs[j]? = some (q, v) ∧ keyIs q k = true
  | _, _, .nil => ⟨[], [], .nil, rfl, rfl, fun j k v e => by simp at e⟩
  | _, _, .cons (a := p) (b := kv) h t => by
    obtain ⟨prs, pvs, r, hl, hm, hp⟩ := pairs2 I t
    obtain ⟨its, rv, ht, _⟩ := I.tuple h
    obtain ⟨u, y, ei, ru, ry⟩ := vals2 rv
    subst ei
    refine ⟨(kv.1, y) :: prs, (u, y) :: pvs, .cons ⟨rfl, ry⟩ r, by simp [hl], by simp [hm], fun j k v e => ?_⟩
    cases j with
    | zero =>
      simp only [List.getElem?_cons_zero, Option.some.injEq, Prod.mk.injEq] at e
      obtain ⟨rfl, rfl⟩ := e
      exact ⟨⟨p, rfl, ht⟩, kv.1, rfl, kV_is (P := X.prog) (w := X.w) ru⟩
    | succ j =>
      obtain ⟨⟨b, h1, h2⟩, q, h3, h4⟩ := hp j k v (by simpa using e)
      exact ⟨⟨b, by simpa using h1, h2⟩, q, by simpa using h3, h4⟩
def rDictF (K : PySem.W.Frag) : List V → Hp → VK → Prop := fun xs H Q => ∃ (a : Addr) (o : Obj) (ps : List Addr) (kvs : List (Key × V)), xs = [.ref a] ∧ H a = some (.frz o (.tup (ps.map V.ref))) ∧ o.dict = none ∧ Paired (fun p kv => SqT K H p [kV kv.1, kv.2]) ps kvs ∧ ∀ p, H p = none → Q (.ref p) (upd H p (.dK (mergeK [] kvs)))
theorem cr_dictF (hcalm : X.calm = true) : CallR X (.type "dict") (rDictF X.K) := by
  intro pins s σ H xs us Q I r q
  obtain ⟨a, o, ps, kvs, rfl, hq, hd, hp, q⟩ := q
  obtain ⟨u, rfl, rx⟩ := vals1 r
  cases rx
  obtain ⟨ho, hz, its, rv, o', e', hc, n, hdat⟩ : ObjOk X.prog X.w H s.heap a (.frz o (.tup (ps.map V.ref))) := I.hok a _ hq
  rw [ho] at e'; cases e'
  have ei := refs_at rv
  subst ei
  obtain ⟨prs, pvs, rel, hl, hm, hpr⟩ := pairs2 I hp
  rw [List.length_map] at hz
  have hit : PySem.PairItems s.heap (ps.map Value.ref).toArray (fun j => (ps[j]?).getD 0) pvs := by
    refine ⟨by simp [hm], fun j k v e => ?_⟩
    obtain ⟨⟨b, h1, h2⟩, _⟩ := hpr j k v e
    exact ⟨by simp [h1], by show PySem.PairAt s.heap ((ps[j]?).getD 0) k v; rw [h1]; exact .inl h2⟩
  have P := PySem.PairArg.tuple (prog := X.prog) (w := X.w) a (ps.map Value.ref).toArray (fun j => (ps[j]?).getD 0) pvs
  refine _root_.PySem.call_dict_pairs (knd := mixKind X.prog X.w) (kvs := prs) P (I.ok.hd hcalm) ⟨⟨o, n, ho, hc, hd, hdat⟩, hit⟩ ⟨by rw [hl, hm], fun i key v e => ?_⟩ (by rw [hm]; exact hz) fun h' tk hd' k => ?_
  · obtain ⟨_, k, h3, h4⟩ := hpr i key v e
    exact ⟨k, h3, h4⟩
  · have hs : (s.heap.objs.size == sysModules) = false := beq_eq_false_iff_ne.mpr (Nat.ne_of_gt I.big)
    have hlen : (mergeK [] kvs).length ≤ sizeLine := by
      refine Nat.le_trans (length_mergeK kvs []) ?_
      rw [List.length_nil, Nat.zero_add, rel.length, hl]
      exact hz
    have kk : ∀ b o, s.heap.get? b = some o → h'.get? b = some o := fun b o e => k b o (by simp) e
    exact ⟨.ref s.heap.objs.size, upd H s.heap.objs.size (.dK (mergeK [] kvs)), I.laid (t' := tk) kk (Nat.le_refl _) (show ObjOk X.prog X.w _ _ _ (.dK (mergeK [] kvs)) from ⟨hlen, hs, merged [] prs, KV.merge rel .nil, hd'⟩), rfl, q _ (I.hok.fresh (Nat.le_refl _))⟩
end
def pairD (kv : Key × D) : D := .tup [keyD kv.1, kv.2]
theorem reps_pairs {K : PySem.W.Frag} {S : Reg} {H : Hp} : ∀ {kvs : List (Key × D)} {xs : List V}, Reps K S H (kvs.map pairD) xs → ∃ (ps : List Addr) (ws : List (Key × V)), xs = ps.map V.ref ∧ KR K S H kvs ws ∧ Paired (fun p kv => SqT K H p [kV kv.1, kv.2]) ps ws
  | [], xs, h => by
    cases Reps.nil_iff.mp h
    exact ⟨[], [], rfl, KR.nil, .nil⟩
  | (k, d) :: kvs, xs, h => by
    obtain ⟨x, r, rfl, h1, h2⟩ := Reps.cons_iff.mp h
    obtain ⟨ps, ws, rfl, h3, h4⟩ := reps_pairs h2
    obtain ⟨p, zs, rfl, h5, h6⟩ := Rep.tup_iff.mp h1
    obtain ⟨y, r1, rfl, h7, h8⟩ := Reps.cons_iff.mp h6
    obtain ⟨z, r2, rfl, h9, h10⟩ := Reps.cons_iff.mp h8
    cases Reps.nil_iff.mp h10
    have ey : y = kV k := by cases k <;> exact Rep.v_iff.mp h7
    subst ey
    exact ⟨p :: ps, (k, z) :: ws, rfl, KR.cons_iff.mpr ⟨z, ws, rfl, h9, h3⟩, .cons h5.sq h4⟩
section
variable {X : Cx} {Wx : WX} {e : Expr} {fe : TD} {pos : Pos}
/-- dict(t), as a dict of the frame's own -/
def dDictT (fe : TD) : TDD := fun ρ W Q Qx => fe ρ W (fun d ρ' W' => match d with | .tpf ds => ∃ kvs : List (Key × D), ds = kvs.map pairD ∧ Q (putsD kvs) ρ' W' | _ => False) Qx
theorem gd_dictT {x : Str} {p : Pos} (hc : X.calm = true) (hg : Gl X x) (hm : X.mg x = none) (hv : bootBuiltins x = some (.type "dict")) (ha : GE X Wx e fe) (hn : x ≠ "__name__" := by decide) (hdb : (x == ("__debug__" : Str)) = false := by decide)
    (he : starEach [e] X.env = (false, eval e X.env) :: starEach [] X.env := by rfl) (hpl : (backTo pos (starEach [] X.env)).any (·.1) = false := by rfl) : GD X Wx (.Call (.Name x p) [e] [] pos) (dDictT fe) := by
  obtain ⟨te, pe, se⟩ := ha
  refine ⟨_, pe_callTy (cr_dictF hc) hg hm hv (pa_cons pe pa_nil he) hn hdb he hpl, fun F S H σ ρ W Q Qx R cf hf hx hE => ?_⟩
  refine se F S H σ ρ W _ Qx _ cf hf hx fun S' H' ρ' W' d v e' c r q => ?_
  split at q
  · rename_i ds
    obtain ⟨kvs, rfl, q⟩ := q
    obtain ⟨a, xs, o, rfl, h1, h2, h3⟩ := Rep.tpf_iff.mp r
    obtain ⟨ps, ws, rfl, h4, h5⟩ := reps_pairs h3
    exact ⟨a, o, ps, ws, rfl, h1.1, h2, h5, fun l hl => hE S' H' ρ' W' _ _ l e' c (kr_merge h4 KR.nil) hl q⟩
  · exact q.elim
end
/-! ### repr(d), d a dict of texts -/
def pyKV (l : List (Str × Str)) : PyData := .dict (l.map fun p => (.str p.1, .str p.2))
@[irreducible] def shownK (l : List (Str × Str)) : Str := (pyKV l).shown
def kvsOf (l : List (Str × Str)) : List (Key × V) := l.map fun p => (.inr p.1, .str p.2)
theorem depth_kv : ∀ l : List (Str × Str), PyData.depthKv (l.map fun p => (PyData.str p.1, PyData.str p.2)) = 0
  | [] => by simp [PyData.depthKv]
  | p :: l => by simp [PyData.depthKv, PyData.depth, depth_kv l]
theorem show_kv : ∀ l : List (Str × Str), PyData.showableKv (l.map fun p => (PyData.str p.1, PyData.str p.2)) = true
  | [] => by simp [PyData.showableKv]
  | p :: l => by simp [PyData.showableKv, PyData.showable, show_kv l]
def rReprK : List V → Hp → VK → Prop := fun xs H Q => ∃ (a : Addr) (l : List (Str × Str)), xs = [.ref a] ∧ H a = some (.dK (kvsOf l)) ∧ (shownK l).length ≤ sizeLine ∧ Q (.str (shownK l)) H
theorem reads_kv {prog : Program} {w : World} {h : Heap} : ∀ {l : List (Str × Str)} {vs : List (Key × Value)} {es : List DictEntry}, KV (kvsOf l) vs → PySem.Pairs (mixKind prog w) es vs →
    ReadsAll h (es.map (·.key)) ((l.map fun p => (PyData.str p.1, PyData.str p.2)).map (·.1)) [] ∧ ReadsAll h (es.map (·.val)) ((l.map fun p => (PyData.str p.1, PyData.str p.2)).map (·.2)) []
  | [], _, _, .nil, .nil => ⟨.nil, .nil⟩
  | p :: l, _, _, .cons ⟨e1, r1⟩ rt, .cons (e := e) hk hv ht => by
    obtain ⟨a1, a2⟩ := reads_kv rt ht
    obtain ⟨t, hu⟩ := r1
    rw [← e1] at hk
    have hk' : keyIs (.inr p.1) e.key = true := hk
    obtain ⟨_, _, z, _⟩ | ⟨x, t2, z, hkey⟩ := keyIs_shape hk'
    · cases z
    · cases z
      refine ⟨?_, ?_⟩
      · show ReadsAll h (e.key :: _) (PyData.str p.1 :: _) []
        rw [hkey]
        exact .cons (.str _ _) a1
      · show ReadsAll h (e.val :: _) (PyData.str p.2 :: _) []
        rw [hv, hu]
        exact .cons (.str _ _) a2
theorem cr_reprK {X : Cx} (hu : X.A.units + 64 < cLine) (hg : X.A.guards = some []) : CallR X (.builtin "repr") rReprK := by
  intro pins s σ H xs us Q I r h
  obtain ⟨a, l, rfl, ha, hz, q⟩ := h
  obtain ⟨u, rfl, rx⟩ := vals1 r
  cases rx
  obtain ⟨_, hs, vs, rel, o, es, ep, ho, hex, hdat, _, hp, _⟩ := dk_of I.hok ha
  obtain ⟨r1, r2⟩ := reads_kv (h := s.heap) rel hp
  have rd : Reads s.heap (.ref a) (pyKV l) ([a]) := by
    have := Reads.dict (h := s.heap) (a := a) (kvs := l.map fun p => (PyData.str p.1, PyData.str p.2)) ho hex.1 hdat r1 r2
    simpa [pyKV] using this
  unfold shownK at hz q
  refine repr_of_reads' rd (by rw [pyKV, PyData.showable]; exact show_kv l) (fun _ hm => ?_) hg (by rw [pyKV, PyData.depth, depth_kv]; omega) (fun _ _ e => e) (fun h' u tk hk => ⟨.str _, H, I.kept hk, ⟨u, rfl⟩, q⟩) hz
  rw [List.mem_singleton] at hm
  rw [hm] at hs
  exact absurd hs (by simp)
def dctOf (l : List (Str × Str)) : D := .dct (l.map fun p => .inr p.1) (l.map fun p => .str p.2)
def dReprK : List D → (D → Prop) → Prop := fun ds Q => ∃ l, ds = [dctOf l] ∧ (shownK l).length ≤ sizeLine ∧ Q (.str (shownK l))
theorem cs_reprK {K : PySem.W.Frag} : CSnd K rReprK dReprK := fun F S H W ds xs P R cb rd hp k => by
  obtain ⟨l, rfl, h1, h2⟩ := hp
  obtain ⟨x, rfl, h⟩ := reps1 rd
  obtain ⟨a, ys, rfl, h3, h4, h5⟩ := Rep.dct_iff.mp h
  refine ⟨a, l, rfl, ?_, h1, k _ _ H (Same.refl H) (Rep.v_iff.mpr rfl) h2⟩
  have e : ys = l.map fun p => V.str p.2 := Reps.of_map_v (xs := l.map fun p => V.str p.2) (by rw [List.map_map]; exact h5)
  rw [h3.1, e]
  congr 2
  unfold kvsOf
  clear h h3 h4 h5 e h1 h2 rd k
  induction l with
  | nil => rfl
  | cons p l ih => simp only [List.map_cons, List.zip_cons_cons, ih]
end G

namespace G
open PySem PySem.Spec L2 Builtin
/-! ### what repr shows is a text that may be compared: each sign a sign -/
def OkS (s : Str) : Prop := ∀ c ∈ s.cps.toList, c < 0x110000
theorem okS_iff {s : Str} : PyData.strOk s = true ↔ OkS s := by
  unfold PyData.strOk OkS
  rw [Array.all_eq_true_iff_forall_mem]
  exact ⟨fun h c hc => of_decide_eq_true (h c (by simpa using hc)), fun h c hc => decide_eq_true (h c (by simpa using hc))⟩
theorem char_lt (c : Char) : c.toNat < 0x110000 := by
  have := c.valid
  unfold UInt32.isValidChar Nat.isValidChar at this
  show c.val.toNat < _
  omega
theorem okS_of (s : String) : OkS (Str.ofString s) := fun c hc => by
  rw [Str.ofString_eq_toList] at hc
  simp only [List.mem_map] at hc
  obtain ⟨x, _, rfl⟩ := hc
  exact char_lt x
theorem okS_app {a b : Str} (h1 : OkS a) (h2 : OkS b) : OkS (a ++ b) := fun c hc => by
  have e : (a ++ b).cps.toList = a.cps.toList ++ b.cps.toList := by
    show (a.cps ++ b.cps).toList = _
    simp
  rw [e] at hc
  rcases List.mem_append.mp hc with hc | hc
  · exact h1 c hc
  · exact h2 c hc
theorem okS_join {sep : Str} (hs : OkS sep) : ∀ {ts : List Str}, (∀ t ∈ ts, OkS t) → OkS (Str.join sep ts)
  | [], _ => fun c hc => by cases hc
  | [x], h => h x List.mem_cons_self
  | x :: y :: r, h => okS_app (okS_app (h x List.mem_cons_self) hs) (okS_join hs fun t ht => h t (List.mem_cons_of_mem _ ht))
theorem okS_textFrom : ∀ {ts : List Str} {k : Nat} {acc : Str}, OkS acc → (∀ t ∈ ts, OkS t) → OkS (textFrom k acc ts)
  | [], _, _, h, _ => h
  | t :: ts, k, acc, h, ht => okS_textFrom (ts := ts) (okS_app (okS_app h (okS_of _)) (ht t List.mem_cons_self)) fun x hx => ht x (List.mem_cons_of_mem _ hx)
theorem okS_list {ts : List Str} (h : ∀ t ∈ ts, OkS t) : OkS (listText ts) := okS_app (okS_textFrom (okS_of _) h) (okS_of _)
theorem okS_tuple {ts : List Str} (h : ∀ t ∈ ts, OkS t) : OkS (tupleText ts) := okS_app (okS_app (okS_of _) (okS_join (okS_of _) h)) (okS_of _)
theorem okS_dict {ts : List Str} (h : ∀ t ∈ ts, OkS t) : OkS (dictText ts) := okS_app (okS_app (okS_of _) (okS_join (okS_of _) h)) (okS_of _)
theorem reprChar_lt {q c : Nat} (hc : c < 0x110000) : ∀ x ∈ Str.reprChar q c, x < 0x110000 := by
  have hex : ∀ w, ∀ x ∈ List.replicate (w - ((Nat.toDigits 16 c).map Char.toNat).length) 48 ++ (Nat.toDigits 16 c).map Char.toNat, x < 0x110000 := fun w x hx => by
    rcases List.mem_append.mp hx with hx | hx
    · rw [(List.mem_replicate.mp hx).2]; decide
    · rw [List.mem_map] at hx
      obtain ⟨y, _, rfl⟩ := hx
      exact char_lt y
  have two : ∀ a b : Nat, a < 0x110000 → b < 0x110000 → ∀ x ∈ [a, b], x < 0x110000 := fun a b ha hb x hx => by
    simp only [List.mem_cons, List.not_mem_nil, or_false] at hx
    rcases hx with rfl | rfl
    · exact ha
    · exact hb
  intro x hx
  unfold Str.reprChar at hx
  dsimp only at hx
  split at hx
  · exact two _ _ (by decide) hc x hx
  split at hx
  · exact two _ _ (by decide) (by decide) x hx
  split at hx
  · exact two _ _ (by decide) (by decide) x hx
  split at hx
  · exact two _ _ (by decide) (by decide) x hx
  split at hx
  · rw [List.mem_singleton.mp hx]; exact hc
  split at hx
  · rcases List.mem_append.mp hx with hx | hx
    · exact two _ _ (by decide) (by decide) x hx
    · exact hex 2 x hx
  split at hx
  · rcases List.mem_append.mp hx with hx | hx
    · exact two _ _ (by decide) (by decide) x hx
    · exact hex 4 x hx
  · rcases List.mem_append.mp hx with hx | hx
    · exact two _ _ (by decide) (by decide) x hx
    · exact hex 8 x hx
theorem foldl_repr_lt (q : Nat) : ∀ (l : List Nat) (acc : Array Nat), (∀ c ∈ l, c < 0x110000) → (∀ c ∈ acc.toList, c < 0x110000) → ∀ c ∈ (l.foldl (fun out c => out ++ (Str.reprChar q c).toArray) acc).toList, c < 0x110000
  | [], acc, _, h => h
  | d :: r, acc, h, ha => by
    rw [List.foldl_cons]
    refine foldl_repr_lt q r _ (fun c hc => h c (List.mem_cons_of_mem _ hc)) fun c hc => ?_
    rw [Array.toList_append] at hc
    rcases List.mem_append.mp hc with hc | hc
    · exact ha c hc
    · exact reprChar_lt (h d List.mem_cons_self) c (by simpa using hc)
theorem okS_repr {x : Str} (h : OkS x) : OkS (reprText x) := fun c hc => by
  have hq : reprQuote x < 0x110000 := by
    unfold reprQuote
    split <;> decide
  unfold reprText at hc
  have hc : c ∈ ((x.cps.foldl (fun out c => out ++ (Str.reprChar (reprQuote x) c).toArray) #[reprQuote x]).push (reprQuote x)).toList := hc
  rw [Array.toList_push, ← Array.foldl_toList] at hc
  rcases List.mem_append.mp hc with hc | hc
  · refine foldl_repr_lt (reprQuote x) x.cps.toList _ h (fun c hc => ?_) c hc
    rw [List.mem_singleton.mp hc]; exact hq
  · rw [List.mem_singleton.mp hc]; exact hq
mutual
theorem shown_ok : ∀ {n : Nat} {d : D}, D.good n d = true → OkS d.py.shown
  | _, .v .non, _ => by rw [D.py, PyData.shown]; exact okS_of _
  | _, .v (.bl b), _ => by rw [D.py, PyData.shown]; cases b <;> exact okS_of _
  | _, .v (.int i), _ => by rw [D.py, PyData.shown]; exact okS_of _
  | _, .v (.str b), g => by
    rw [D.good] at g
    rw [D.py, PyData.shown]
    exact okS_repr (okS_iff.mp g)
  | _, .v (.byt _), h => by simp [D.good] at h
  | _, .v (.flt _), h => by simp [D.good] at h
  | _, .v (.ref _), h => by simp [D.good] at h
  | _, .v (.ty _), h => by simp [D.good] at h
  | 0, .tup _, h => by simp [D.good] at h
  | 0, .lst _, h => by simp [D.good] at h
  | 0, .scr _, h => by simp [D.good] at h
  | 0, .dct _ _, h => by simp [D.good] at h
  | _ + 1, .dct _ _, h => by simp [D.good] at h
  | 0, .exc _ _ _, h => by simp [D.good] at h
  | _ + 1, .exc _ _ _, h => by simp [D.good] at h
  | 0, .tpf _, h => by simp [D.good] at h
  | _ + 1, .tpf _, h => by simp [D.good] at h
  | n + 1, .tup ds, g => by
    rw [D.py, PyData.shown]
    exact okS_tuple (showns_ok (n := n) (ds := ds) (by simpa [D.good] using g))
  | n + 1, .lst ds, g => by
    rw [D.py, PyData.shown]
    exact okS_list (showns_ok (n := n) (ds := ds) (by simpa [D.good] using g))
  | n + 1, .scr ns, g => by
    rw [D.py, PyData.shown]
    refine okS_list fun t ht => ?_
    clear g
    induction ns with
    | nil => rw [List.map_nil, PyData.shownAll] at ht; cases ht
    | cons i r ih =>
      rw [List.map_cons, PyData.shownAll] at ht
      rcases List.mem_cons.mp ht with rfl | ht
      · rw [PyData.shown]; exact okS_of _
      · exact ih ht
theorem showns_ok : ∀ {n : Nat} {ds : List D}, goods n ds = true → ∀ t ∈ PyData.shownAll (pys ds), OkS t
  | _, [], _ => fun t ht => by rw [pys, PyData.shownAll] at ht; cases ht
  | n, d :: ds, g => fun t ht => by
    rw [goods, Bool.and_eq_true] at g
    rw [pys, PyData.shownAll] at ht
    rcases List.mem_cons.mp ht with rfl | ht
    · exact shown_ok g.1
    · exact showns_ok g.2 t ht
end
/-! the dicts of texts -/
theorem shownK_ok {l : List (Str × Str)} (h : ∀ p ∈ l, PyData.strOk p.1 = true ∧ PyData.strOk p.2 = true) : PyData.strOk (shownK l) = true := by
  rw [okS_iff]
  unfold shownK pyKV
  rw [PyData.shown]
  refine okS_dict fun t ht => ?_
  induction l with
  | nil => rw [List.map_nil, PyData.shownKv] at ht; cases ht
  | cons p l ih =>
    rw [List.map_cons, PyData.shownKv] at ht
    rcases List.mem_cons.mp ht with rfl | ht
    · have := h p List.mem_cons_self
      rw [PyData.shown, PyData.shown]
      exact okS_app (okS_app (okS_repr (okS_iff.mp this.1)) (okS_of _)) (okS_repr (okS_iff.mp this.2))
    · exact ih (fun p hp => h p (List.mem_cons_of_mem _ hp)) ht
theorem shownK_len {l : List (Str × Str)} {B : Nat} (h : ∀ p ∈ l, PyData.strOk p.1 = true ∧ PyData.strOk p.2 = true ∧ p.1.length ≤ B ∧ p.2.length ≤ B) : (shownK l).length ≤ l.length * (20 * B + 8) + 3 := by
  unfold shownK pyKV
  rw [PyData.shown]
  have h1 := dictText_len_le (PyData.shownKv (l.map fun p => (.str p.1, .str p.2)))
  have h2 : ((PyData.shownKv (l.map fun p => (PyData.str p.1, PyData.str p.2))).map (·.length)).sum + 2 * (PyData.shownKv (l.map fun p => (PyData.str p.1, PyData.str p.2))).length ≤ l.length * (20 * B + 8) := by
    clear h1
    induction l with
    | nil => simp [PyData.shownKv]
    | cons p l ih =>
      have ih := ih fun p hp => h p (List.mem_cons_of_mem _ hp)
      have lt16 : ∀ {s : Str}, PyData.strOk s = true → ∀ c ∈ s.cps.toList, c < 16 ^ 8 := fun hs c hc => Nat.lt_of_lt_of_le (okS_iff.mp hs c hc) (by decide)
      obtain ⟨a1, a2, a3, a4⟩ := h p List.mem_cons_self
      have b1 := StrLaws.reprText_len p.1 (lt16 a1)
      have b2 := StrLaws.reprText_len p.2 (lt16 a2)
      rw [List.map_cons, PyData.shownKv, List.map_cons, List.sum_cons, List.length_cons, List.length_cons, PyData.shown, PyData.shown, strLen_append, strLen_append]
      have e : (l.length + 1) * (20 * B + 8) = l.length * (20 * B + 8) + (20 * B + 8) := Nat.succ_mul _ _
      have : (": " : Str).length = 2 := rfl
      omega
  omega
end G

namespace G
open PySem PySem.Spec L2
/-! ### set(xs), xs a list or a tuple of ints and texts -/
instance memDec (k : Key) (l : List Key) : Decidable (k ∈ l) := @List.instDecidableMemOfLawfulBEq Key instBEqOfDecidableEq inferInstance k l
def dds (ks : List Key) : List Key := ks.foldl (fun acc k => if k ∈ acc then acc else acc ++ [k]) []
theorem dds_snoc (ks : List Key) (k : Key) : dds (ks ++ [k]) = if k ∈ dds ks then dds ks else dds ks ++ [k] := by
  unfold dds; rw [List.foldl_append]; rfl
theorem mem_dds : ∀ (n : Nat) (ks : List Key), ks.length = n → ∀ k, k ∈ dds ks ↔ k ∈ ks := by
  intro n
  induction n with
  | zero => intro ks h k; rw [List.length_eq_zero_iff.mp h]; exact Iff.rfl
  | succ n ih =>
    intro ks h k
    obtain ⟨r, x, rfl⟩ : ∃ r x, ks = r ++ [x] := ⟨ks.dropLast, ks.getLast (fun e => by rw [e] at h; cases h), (List.dropLast_concat_getLast _).symm⟩
    have hr : r.length = n := by rw [List.length_append] at h; simpa using h
    rw [dds_snoc, List.mem_append, List.mem_singleton, ← ih r hr k]
    by_cases q : x ∈ dds r
    · rw [if_pos q]
      exact ⟨.inl, fun z => z.elim id fun e => e ▸ q⟩
    · rw [if_neg q, List.mem_append, List.mem_singleton]
theorem dds_mem {ks : List Key} {k : Key} : k ∈ dds ks ↔ k ∈ ks := mem_dds _ ks rfl k
theorem dds_le (ks : List Key) : (dds ks).length ≤ ks.length := by
  have : ∀ (ks acc : List Key), (ks.foldl (fun acc k => if k ∈ acc then acc else acc ++ [k]) acc).length ≤ acc.length + ks.length := by
    intro ks
    induction ks with
    | nil => intro acc; exact Nat.le_refl _
    | cons k r ih =>
      intro acc
      refine Nat.le_trans (ih _) ?_
      dsimp only
      split
      · simp only [List.length_cons]; omega
      · simp only [List.length_cons, List.length_append, List.length_nil]; omega
  have := this ks []
  unfold dds
  simpa using this
theorem dds_nd : ∀ (n : Nat) (ks : List Key), ks.length = n → (dds ks).Nodup := by
  intro n
  induction n with
  | zero => intro ks h; rw [List.length_eq_zero_iff.mp h]; exact List.nodup_nil
  | succ n ih =>
    intro ks h
    obtain ⟨r, x, rfl⟩ : ∃ r x, ks = r ++ [x] := ⟨ks.dropLast, ks.getLast (fun e => by rw [e] at h; cases h), (List.dropLast_concat_getLast _).symm⟩
    have hr : r.length = n := by rw [List.length_append] at h; simpa using h
    rw [dds_snoc]
    split
    · exact ih r hr
    · rename_i q
      rw [List.nodup_append]
      exact ⟨ih r hr, by simp, fun a ha b hb e => q (by rw [List.mem_singleton.mp hb] at e; exact e ▸ ha)⟩
/-- all unlike, or not -/
theorem dds_len_eq (ks : List Key) : (dds ks).length = ks.length ↔ ks.Nodup := by
  constructor
  · intro h
    have sp : ks.Subset (dds ks) := fun k hk => dds_mem.mpr hk
    have key : ∀ (n : Nat) (ks : List Key), ks.length = n → (dds ks).length = ks.length → ks.Nodup := by
      intro n
      induction n with
      | zero => intro ks h _; rw [List.length_eq_zero_iff.mp h]; exact List.nodup_nil
      | succ n ih =>
        intro ks h e
        obtain ⟨r, x, rfl⟩ : ∃ r x, ks = r ++ [x] := ⟨ks.dropLast, ks.getLast (fun e => by rw [e] at h; cases h), (List.dropLast_concat_getLast _).symm⟩
        have hr : r.length = n := by rw [List.length_append] at h; simpa using h
        have le := dds_le r
        rw [dds_snoc, List.length_append, List.length_singleton] at e
        by_cases q : x ∈ dds r
        · rw [if_pos q] at e; omega
        · rw [if_neg q, List.length_append, List.length_singleton] at e
          rw [List.nodup_append]
          exact ⟨ih r hr (by omega), by simp, fun a ha b hb z => q (by rw [List.mem_singleton.mp hb] at z; exact dds_mem.mpr (z ▸ ha))⟩
    exact key _ ks rfl h
  · intro h
    have key : ∀ (n : Nat) (ks : List Key), ks.length = n → ks.Nodup → dds ks = ks := by
      intro n
      induction n with
      | zero => intro ks h _; rw [List.length_eq_zero_iff.mp h]; rfl
      | succ n ih =>
        intro ks h nd
        obtain ⟨r, x, rfl⟩ : ∃ r x, ks = r ++ [x] := ⟨ks.dropLast, ks.getLast (fun e => by rw [e] at h; cases h), (List.dropLast_concat_getLast _).symm⟩
        have hr : r.length = n := by rw [List.length_append] at h; simpa using h
        rw [List.nodup_append] at nd
        have e := ih r hr nd.1
        rw [dds_snoc, e, if_neg fun z => nd.2.2 x z x (by simp) rfl]
    rw [key _ ks rfl h]
abbrev KSet (P : Program) (w : World) (h : Heap) (C : Addr) (ks : List Key) : Prop := h.SetOf (mixKind P w) C (fun k => decide (k ∈ ks)) (dds ks).length
theorem kset_eq {P : Program} {w : World} {h : Heap} {C : Addr} {ks : List Key} {f : Key → Bool} {n : Nat} (x : h.SetOf (mixKind P w) C f n) (e : ∀ k, f k = decide (k ∈ ks)) (en : n = (dds ks).length) : KSet P w h C ks := by
  have : f = fun k => decide (k ∈ ks) := funext e
  unfold KSet
  rw [← this, ← en]; exact x
section
variable {P : Program} {w : World} {A : Around} {R : Result → Shared → Prop} {J : Addr} {fp wr : List Addr} {Gs : Array GenState → Array GenState → Prop} {n : Nat} {Pi : Nat → Value → Prop} {St : Nat → Shared → Prop}
theorem set_loop (Wk : WalksS P w A.in1 J fp wr Gs n Pi St) (C : Addr) (nC : C ∉ fp) (ks : List Key) (len : ks.length = n) (small : n + 1 < scanBound) (there : ∀ i v, Pi i v → ∃ k, ks[i]? = some k ∧ (mixKind P w).is k v = true ∧ v.scannable = true) :
    ∀ (m i : Nat) (s : Shared), i + m = n → St i s → KSet P w s.heap C (ks.take i) → (∀ s', Moved (C :: wr) Gs s s' → KSet P w s'.heap C ks → R (.ok (.ret .none)) s') →
      codeAny (model P w) A (.builtin "set.update.loop" ⟨[.ref C, .ref J], []⟩) R s := by
  have nw : C ∉ wr := fun z => nC (Wk.sub _ z)
  have up : ∀ b ∈ wr, b ∈ C :: wr := fun _ z => List.mem_cons_of_mem _ z
  have kept : ∀ {s s' : Shared} {L : List Key}, Moved wr Gs s s' → KSet P w s.heap C L → KSet P w s'.heap C L := fun {s s' L} mv ⟨o, es, ep, t, ho, r⟩ => ⟨o, es, ep, t, mv.heap C _ nw ho, r⟩
  intro m
  induction m with
  | zero =>
    intro i s hi st S0 fin
    obtain rfl : i = n := by omega
    refine (codeAny_builtin PyProof.Rows.F.entry_set_update_loop ?_); rw [Around.under_plainId PyProof.Rows.F.plain_set_update_loop _]
    refine wpAny_bind (m := pyNext (.ref J)) (Wk.done s _ _ st fun s' mv => ?_)
    rw [← len, List.take_length] at S0
    exact wpAny_pure (fin s' (mv.mono up) (kept mv S0))
  | succ m ih =>
    intro i s hi st S0 fin
    refine (codeAny_builtin PyProof.Rows.F.entry_set_update_loop ?_); rw [Around.under_plainId PyProof.Rows.F.plain_set_update_loop _]
    refine wpAny_bind (m := pyNext (.ref J)) (Wk.item i s _ _ (by omega) st fun v s' hP st' mv => ?_)
    obtain ⟨k, hk, ki, ksc⟩ := there i v hP
    have S1 := kept mv S0
    refine wpAny_bind (m := holding [v] (setAdd C v)) (wpAny_holding ?_)
    unfold setAdd
    refine wpAny_holding (wpAny_bind ((mixKind P w).pyHash ki ?_))
    have few : (dds (ks.take i)).length + 1 < scanBound := by
      have a := dds_le (ks.take i)
      rw [List.length_take] at a
      omega
    refine wpAny_setAddHashed_of (s := { s' with toks := s'.toks + 1 }) ki ksc S1 few fun h2 same S2 => ?_
    have S3 : KSet P w h2 C (ks.take (i + 1)) := by
      have e : ks.take (i + 1) = ks.take i ++ [k] := by rw [List.take_add_one, hk]; rfl
      refine kset_eq S2 (fun x => ?_) ?_
      · rw [e, Bool.eq_iff_iff, Bool.or_eq_true, decide_eq_true_eq, decide_eq_true_eq, decide_eq_true_eq, List.mem_append, List.mem_singleton]
      · rw [e, dds_snoc]
        by_cases q : k ∈ ks.take i
        · rw [if_pos (decide_eq_true q), if_pos (dds_mem.mpr q)]
        · rw [if_neg (by rw [decide_eq_true_eq]; exact q), if_neg (fun z => q (dds_mem.mp z)), List.length_append]; rfl
    refine wpAny_pure ⟨PySem.plainId_quiet PyProof.Rows.F.plain_set_update_loop _, ih (i + 1) _ (by omega) (Wk.frame _ s' _ _ st' (Nat.le_succ _) fun b hb o e => ?_) S3 fun s3 mv3 S4 => fin s3 ?_ S4⟩
    · rw [same.2 b fun z => nC (z ▸ hb)]; exact e
    · refine Moved.trans Wk.gtrans ((mv.mono up).then_heap (Nat.le_succ _) fun b o hb e => ?_) mv3
      rw [same.2 b fun z => hb (by rw [z]; exact List.mem_cons_self)]; exact e
end
end G
namespace G
open PySem PySem.Spec L2
theorem two_ne {a b c : Addr} (h : a ≠ b) (k : a ≠ c) : a ∉ [b, c] := fun z => by
  rcases List.mem_cons.mp z with z | z
  · exact h z
  · exact k (List.mem_singleton.mp z)
/-- the empty set as it is made -/
abbrev eSet (led : Bool) : Obj := { cls := .type "set", dict := none, data := .set #[] 0 (.fresh 0 0 led) }
section
variable {P : Program} {w : World} {A : Around} {E : Value → Shared → Prop} {s : Shared}
theorem eSet_k {h : Heap} {led : Bool} {C : Addr} (e : h.get? C = some (eSet led)) : KSet P w h C [] := by
  refine kset_eq (f := fun _ => false) (n := 0) ⟨_, #[], 0, _, e, ⟨rfl, rfl, rfl⟩, rfl, (fun _ z => by simp at z), (fun k => by simp), (by decide), (by rfl), rfl⟩ (fun k => ?_) rfl
  exact (decide_eq_false (by simp)).symm
/-- what the walk of the items asks, and what it leaves -/
theorem set_fill {led : Bool} {a J : Addr} {u : Shared} {items : Array Value} {ks : List Key} {wr : List Addr} {Gs : Array GenState → Array GenState → Prop} {St : Nat → Shared → Prop} {B : Around} {R : Result → Shared → Prop}
    (Wk : WalksS P w B.in1 J [J, a] wr Gs items.size (fun i v => items[i]? = some v) St) (hC : s.heap.objs.size ∉ [J, a]) (len : ks.length = items.size) (small : items.size + 1 < scanBound)
    (there : ∀ (i : Nat) v, items[i]? = some v → ∃ k, ks[i]? = some k ∧ (mixKind P w).is k v = true ∧ v.scannable = true) (st : St 0 u) (e : u.heap.get? s.heap.objs.size = some (eSet led))
    (fin : ∀ s', Moved (s.heap.objs.size :: wr) Gs u s' → KSet P w s'.heap s.heap.objs.size ks → R (.ok (.ret .none)) s') :
    codeAny (model P w) B (.builtin "set.update.loop" ⟨[.ref s.heap.objs.size, .ref J], []⟩) R u :=
  set_loop Wk s.heap.objs.size hC ks len small there items.size 0 u (Nat.zero_add _) st (eSet_k e) fin
theorem set_of_list {a : Addr} {items : Array Value} {ks : List Key} {Q : Value → Shared → Prop} (calm : A.handled = none) (isl : s.heap.IsList a items) (len : ks.length = items.size) (small : items.size + 1 < scanBound)
    (there : ∀ (i : Nat) v, items[i]? = some v → ∃ k, ks[i]? = some k ∧ (mixKind P w).is k v = true ∧ v.scannable = true)
    (fin : ∀ (h2 : Heap) (tk : Nat), KSet P w h2 s.heap.objs.size ks → (∀ b o, b < s.heap.objs.size → s.heap.get? b = some o → h2.get? b = some o) → Q (.ref s.heap.objs.size) { s with heap := h2, toks := tk }) :
    wpAny (model P w) A (call (.type "set") [.ref a]) Q E s := by
  obtain ⟨c, tl, m1⟩ := PySem.F.called_set.mro
  have m2 := PySem.F.called_set.made; have m3 := PySem.F.called_set.sub
  refine wpAny_call (codeAny_of_tree ?_)
  show wpAny _ _ (callAny (.type "set") _) _ _ _
  refine wpAny_pure ⟨Code.quiet_builtin _ (by decide +kernel), codeAny_builtin F.entry_type_call ?_⟩
  rw [Around.under_plain (weight_type_call_type "set" [.ref a] []) rfl]
  have m4 := PySem.F.called_set.notType; have m5 := PySem.F.called_set.canCreate; have m6 := PySem.F.typeCall_set_1 (.ref a)
  repeat (any_goals (first | assumption | wp_step))
  refine codeAny_mono (code_set_new_1 (.ref a) (E := E) (Q₁ := fun v u => ∃ led : Bool, v = .ref s.heap.objs.size ∧ u = { s with heap := s.heap.push (eSet led) }) fun led => ⟨led, rfl, rfl⟩) fun r u hr => ?_
  match r, hr with
  | .error _, hr => exact hr
  | .ok (.ret _), ⟨led, e1, e2⟩ =>
    subst e1; subst e2
    have g0 : (s.heap.push (eSet led)).get? s.heap.objs.size = some (eSet led) := Heap.get?_push_size _ rfl
    have ty : Shared.TypeIs { s with heap := s.heap.push (eSet led) } (.ref s.heap.objs.size) "set" := ⟨_, g0, rfl⟩
    have m7 := PySem.F.called_set.init.lookup; have m8 := PySem.F.called_set.init.bind (.ref s.heap.objs.size)
    repeat (any_goals (first | assumption | wp_step))
    refine codeAny_mono (codeAny_call_builtin (R := wants (fun v u => v = .none ∧ ∃ h2 tk, u = { s with heap := h2, toks := tk } ∧ KSet P w h2 s.heap.objs.size ks ∧ ∀ b o, b < s.heap.objs.size → s.heap.get? b = some o → h2.get? b = some o) E) PySem.F.called_set.init.plain PySem.F.entry_set_init (check_set_init_1 ty ?_)) fun r2 u2 hr2 => ?_
    · obtain ⟨⟨oc, od, odt, osl⟩, ho, hc, nl, hd⟩ := isl
      simp only at hc hd
      subst hc; subst hd
      have g1 : (s.heap.push (eSet led)).get? a = some { cls := .type "list", dict := od, data := .seq items nl, slots := osl } := Heap.get?_push_of_some _ ho
      have n1 := PySem.F.sub_list_set; have n2 := PySem.F.sub_list_frozenset; have n3 : (Value.type "list" == Value.type "dict") = false := by decide
      have isl1 : (s.heap.push (eSet led)).IsList a items := ⟨_, g1, rfl, nl, rfl⟩
      unfold Builtin.«set.__init__» noKeywords Builtin.Frozenset.updateFrom
      generalize hI : pyIter = walked
      wp_walk
      subst hI
      refine wpAny_pyIter_list isl1 (wpAny_bind (wpAny_runValue ?_))
      have la : a < s.heap.objs.size := Heap.lt_size ho
      have sz1 : (s.heap.push (eSet led)).objs.size = s.heap.objs.size + 1 := Heap.size_push ..
      refine set_fill (led := led) ((Walks.list (by simp [calm]) _ a (by rw [sz1]; exact Nat.ne_of_lt (Nat.lt_succ_of_lt la)) items).toS) (by rw [sz1]; exact two_ne (Nat.ne_of_lt (Nat.lt_succ_self _)) (Nat.ne_of_gt la)) len small there ⟨⟨_, Heap.get?_push_size _ rfl, rfl, rfl⟩, isl1.push _⟩ (Heap.get?_push_of_some _ g0) fun u mv S => ?_
      obtain ⟨h2, g2, d2, t2, o2⟩ := u
      obtain rfl : g2 = s.gens := mv.gens
      obtain rfl : d2 = s.drawn := mv.drawn
      obtain rfl : o2 = s.os := mv.os
      refine wpAny_pure (wpAny_pure ⟨rfl, h2, t2, rfl, S, fun b o hb e => mv.heap b o ?_ (Heap.get?_push_of_some _ (Heap.get?_push_of_some _ e))⟩)
      rw [sz1]; exact two_ne (Nat.ne_of_lt hb) (Nat.ne_of_lt (Nat.lt_succ_of_lt hb))
    · match r2, hr2 with
      | .error _, hr2 => exact hr2
      | .ok (.ret _), ⟨e1, h2, tk, e2, S, kp⟩ =>
        subst e1; subst e2
        repeat (any_goals (first | assumption | wp_step))
        exact fin _ _ S kp
theorem set_of_tuple {a : Addr} {items : Array Value} {ks : List Key} {Q : Value → Shared → Prop} (calm : A.handled = none) (isl : s.heap.IsTuple a items) (len : ks.length = items.size) (small : items.size + 1 < scanBound)
    (there : ∀ (i : Nat) v, items[i]? = some v → ∃ k, ks[i]? = some k ∧ (mixKind P w).is k v = true ∧ v.scannable = true)
    (fin : ∀ (h2 : Heap) (tk : Nat), KSet P w h2 s.heap.objs.size ks → (∀ b o, b < s.heap.objs.size → s.heap.get? b = some o → h2.get? b = some o) → Q (.ref s.heap.objs.size) { s with heap := h2, toks := tk }) :
    wpAny (model P w) A (call (.type "set") [.ref a]) Q E s := by
  obtain ⟨c, tl, m1⟩ := PySem.F.called_set.mro
  have m2 := PySem.F.called_set.made; have m3 := PySem.F.called_set.sub
  refine wpAny_call (codeAny_of_tree ?_)
  show wpAny _ _ (callAny (.type "set") _) _ _ _
  refine wpAny_pure ⟨Code.quiet_builtin _ (by decide +kernel), codeAny_builtin F.entry_type_call ?_⟩
  rw [Around.under_plain (weight_type_call_type "set" [.ref a] []) rfl]
  have m4 := PySem.F.called_set.notType; have m5 := PySem.F.called_set.canCreate; have m6 := PySem.F.typeCall_set_1 (.ref a)
  repeat (any_goals (first | assumption | wp_step))
  refine codeAny_mono (code_set_new_1 (.ref a) (E := E) (Q₁ := fun v u => ∃ led : Bool, v = .ref s.heap.objs.size ∧ u = { s with heap := s.heap.push (eSet led) }) fun led => ⟨led, rfl, rfl⟩) fun r u hr => ?_
  match r, hr with
  | .error _, hr => exact hr
  | .ok (.ret _), ⟨led, e1, e2⟩ =>
    subst e1; subst e2
    have g0 : (s.heap.push (eSet led)).get? s.heap.objs.size = some (eSet led) := Heap.get?_push_size _ rfl
    have ty : Shared.TypeIs { s with heap := s.heap.push (eSet led) } (.ref s.heap.objs.size) "set" := ⟨_, g0, rfl⟩
    have m7 := PySem.F.called_set.init.lookup; have m8 := PySem.F.called_set.init.bind (.ref s.heap.objs.size)
    repeat (any_goals (first | assumption | wp_step))
    refine codeAny_mono (codeAny_call_builtin (R := wants (fun v u => v = .none ∧ ∃ h2 tk, u = { s with heap := h2, toks := tk } ∧ KSet P w h2 s.heap.objs.size ks ∧ ∀ b o, b < s.heap.objs.size → s.heap.get? b = some o → h2.get? b = some o) E) PySem.F.called_set.init.plain PySem.F.entry_set_init (check_set_init_1 ty ?_)) fun r2 u2 hr2 => ?_
    · obtain ⟨⟨oc, od, odt, osl⟩, ho, hc, nl, hd⟩ := isl
      simp only at hc hd
      subst hc; subst hd
      have g1 : (s.heap.push (eSet led)).get? a = some { cls := .type "tuple", dict := od, data := .seq items nl, slots := osl } := Heap.get?_push_of_some _ ho
      have n1 := PySem.F.sub_tuple_set; have n2 := PySem.F.sub_tuple_frozenset; have n3 : (Value.type "tuple" == Value.type "dict") = false := by decide
      have isl1 : (s.heap.push (eSet led)).IsTuple a items := ⟨_, g1, rfl, nl, rfl⟩
      unfold Builtin.«set.__init__» noKeywords Builtin.Frozenset.updateFrom
      generalize hI : pyIter = walked
      wp_walk
      subst hI
      refine wpAny_pyIter_tuple isl1 (wpAny_bind (wpAny_runValue ?_))
      have la : a < s.heap.objs.size := Heap.lt_size ho
      have sz1 : (s.heap.push (eSet led)).objs.size = s.heap.objs.size + 1 := Heap.size_push ..
      refine set_fill (led := led) ((Walks.tuple (by simp [calm]) _ a (by rw [sz1]; exact Nat.ne_of_lt (Nat.lt_succ_of_lt la)) items).toS) (by rw [sz1]; exact two_ne (Nat.ne_of_lt (Nat.lt_succ_self _)) (Nat.ne_of_gt la)) len small there ⟨⟨_, Heap.get?_push_size _ rfl, rfl, rfl⟩, isl1.push _⟩ (Heap.get?_push_of_some _ g0) fun u mv S => ?_
      obtain ⟨h2, g2, d2, t2, o2⟩ := u
      obtain rfl : g2 = s.gens := mv.gens
      obtain rfl : d2 = s.drawn := mv.drawn
      obtain rfl : o2 = s.os := mv.os
      refine wpAny_pure (wpAny_pure ⟨rfl, h2, t2, rfl, S, fun b o hb e => mv.heap b o ?_ (Heap.get?_push_of_some _ (Heap.get?_push_of_some _ e))⟩)
      rw [sz1]; exact two_ne (Nat.ne_of_lt hb) (Nat.ne_of_lt (Nat.lt_succ_of_lt hb))
    · match r2, hr2 with
      | .error _, hr2 => exact hr2
      | .ok (.ret _), ⟨e1, h2, tk, e2, S, kp⟩ =>
        subst e1; subst e2
        repeat (any_goals (first | assumption | wp_step))
        exact fin _ _ S kp
end
end G

namespace G
open PySem PySem.Spec L2
/-! ### len(set(x)), x a list or a tuple of ints and texts -/
abbrev kD (k : Key) : D := .v (kV k)
def tLenK (K : PySem.W.Frag) (ta : TE) : TE := fun σ H Q => ta σ H fun x H1 => ∃ (a : Addr) (ks : List Key), x = .ref a ∧ (SqL K H1 a (ks.map kV) ∨ SqT K H1 a (ks.map kV)) ∧ ks.length < 4000 ∧ Q (.int (dds ks).length) H1
theorem keys_there {P : Program} {w : World} {ks : List Key} {its : List Value} (r : Vals (ks.map kV) its) : ks.length = its.toArray.size ∧ ∀ (i : Nat) v, its.toArray[i]? = some v → ∃ k, ks[i]? = some k ∧ (mixKind P w).is k v = true ∧ v.scannable = true := by
  have hl : ks.length = its.toArray.size := by rw [List.size_toArray, ← r.length, List.length_map]
  refine ⟨hl, fun i v hv => ?_⟩
  have hi : i < ks.length := by rw [hl]; exact (Array.getElem?_eq_some_iff.mp hv).1
  obtain ⟨u, hu, ru⟩ := r.get (i := i) (x := kV ks[i]) (by rw [List.getElem?_map, List.getElem?_eq_getElem hi]; rfl)
  have e : u = v := by
    have : its.toArray[i]? = its[i]? := by simp
    rw [this, hu] at hv; exact Option.some.inj hv
  subst e
  exact ⟨ks[i], List.getElem?_eq_getElem hi, kV_is ru, key_scan ru⟩
section
variable {X : Cx} {Wx : WX} {a : Expr} {fa : TD} {p p2 q pos : Pos}
theorem pe_lenK {ta : TE} (hc : X.calm = true) (hg : Gl X "len") (hm : X.mg "len" = none) (hg2 : Gl X "set") (hm2 : X.mg "set" = none) (ha : PE X a ta) (one : starEach [a] X.env = (false, eval a X.env) :: starEach [] X.env := by rfl) :
    PE X (.Call (.Name "len" p) [.Call (.Name "set" p2) [a] [] q] [] pos) (tLenK X.K ta) := by
  constructor
  intro pins s σ H Q I h
  refine PyProof.Rows.Call_ (ld_blt I hg hm PySem.boot_len (PyProof.Rows.callWith_builtin1 (PyProof.Rows.args_cons ?_ rfl) rfl rfl))
  refine PyProof.Rows.Call_ (ld_blt I hg2 hm2 PyProof.Rows.boot_set (PyProof.Rows.callWith_type1 (PyProof.Rows.args_cons (thn (ha.run pins s σ H _ I h) fun v s1 z => PyProof.Rows.args_nil ?_) one) one rfl))
  obtain ⟨x, H1, I1, r1, b, ks, ex, hq, few, q1⟩ := z
  subst ex
  cases r1
  have sb : scanBound = 4096 := rfl
  have le := dds_le ks
  have fin : ∀ (h2 : Heap) (tk : Nat), KSet X.prog X.w h2 s1.heap.objs.size ks → (∀ b o, b < s1.heap.objs.size → s1.heap.get? b = some o → h2.get? b = some o) →
      wpAny (model X.prog X.w) X.A (call (.builtin "len") [.ref s1.heap.objs.size]) (EP X pins σ Q) X.xe { s1 with heap := h2, toks := tk } := fun h2 tk S kp => by
    obtain ⟨o, es, ep, t, ho, hex, hd, _, _, _, hf, hn⟩ := S
    have J : Inv X pins σ H1 { s1 with heap := h2, toks := tk } := I1.kept fun b o e => kp b o (Heap.lt_size e) e
    exact call_len_set ho hex hd hf (by rw [hn]; omega) ⟨.int (dds ks).length, H1, J.tok _, ⟨_, by rw [hn]⟩, q1⟩
  rcases hq with hq | hq
  · obtain ⟨its, r, pl, _⟩ := I1.list hq
    obtain ⟨l1, l2⟩ := keys_there (P := X.prog) (w := X.w) r
    exact set_of_list (I1.ok.hd hc) pl.isList l1 (by rw [← l1]; omega) l2 fun h2 tk S kp => PyProof.Rows.args_nil (fin h2 tk S kp)
  · obtain ⟨its, r, pl, _⟩ := I1.tuple hq
    obtain ⟨l1, l2⟩ := keys_there (P := X.prog) (w := X.w) r
    exact set_of_tuple (I1.ok.hd hc) pl l1 (by rw [← l1]; omega) l2 fun h2 tk S kp => PyProof.Rows.args_nil (fin h2 tk S kp)
def dLenSet (fa : TD) : TD := fun ρ W Q Qx => fa ρ W (fun d ρ' W' => ∃ ks : List Key, (d = .lst (ks.map kD) ∨ d = .tup (ks.map kD) ∨ d = .tpf (ks.map kD)) ∧ ks.length < 4000 ∧ Q (.int (dds ks).length) ρ' W') Qx
theorem reps_k {K : PySem.W.Frag} {S : Reg} {H : Hp} {ks : List Key} {vs : List V} (r : Reps K S H (ks.map kD) vs) : vs = ks.map kV := Reps.of_map_v (xs := ks.map kV) (by rw [List.map_map]; exact r)
theorem ge_lenSet (hc : X.calm = true) (hm : X.mg "len" = none) (hm2 : X.mg "set" = none) (ha : GE X Wx a fa) (hg : Gl X "len" := by rfl) (hg2 : Gl X "set" := by rfl) (one : starEach [a] X.env = (false, eval a X.env) :: starEach [] X.env := by rfl) :
    GE X Wx (.Call (.Name "len" p) [.Call (.Name "set" p2) [a] [] q] [] pos) (dLenSet fa) := by
  obtain ⟨ta, pa, sa⟩ := ha
  refine ⟨_, pe_lenK hc hg hm hg2 hm2 pa one, fun F S H σ ρ W Q Qx R cf hf hx hE => ?_⟩
  refine sa F S H σ ρ W _ Qx _ cf hf hx fun S1 H1 ρ1 W1 d v e1 c1 r1 q1 => ?_
  obtain ⟨ks, hd, few, q1⟩ := q1
  rcases hd with rfl | rfl | rfl
  · obtain ⟨b, xs, rfl, h1, h2⟩ := Rep.lst_iff.mp r1
    have := reps_k h2; subst this
    exact ⟨b, ks, rfl, .inl h1.sq, few, hE S1 H1 ρ1 W1 _ _ e1 c1 (Rep.v_iff.mpr rfl) q1⟩
  · obtain ⟨b, xs, rfl, h1, h2⟩ := Rep.tup_iff.mp r1
    have := reps_k h2; subst this
    exact ⟨b, ks, rfl, .inr h1.sq, few, hE S1 H1 ρ1 W1 _ _ e1 c1 (Rep.v_iff.mpr rfl) q1⟩
  · obtain ⟨b, xs, o, rfl, h1, _, h2⟩ := Rep.tpf_iff.mp r1
    have := reps_k h2; subst this
    exact ⟨b, ks, rfl, .inr (.inl (.inr ⟨o, h1.1⟩)), few, hE S1 H1 ρ1 W1 _ _ e1 c1 (Rep.v_iff.mpr rfl) q1⟩
/-! ### a constant of the module that is a tuple of flat things -/
structure TupAt (K : PySem.W.Frag) (mg : Str → Option Value) (x : Str) (xs : List V) : Prop where
  at' : ∃ c, mg x = some (.ref c) ∧ SqT K emp c xs
theorem tupAt_mk {K : PySem.W.Frag} {mg : Str → Option Value} {x : Str} {xs : List V} {c : Addr} {dd : Option Addr} {its : Array Value} {n : Nat} {sl : Array (Option Value)} (h : mg x = some (.ref c)) (l : K.lookup c = some ⟨.type "tuple", dd, .seq its n, sl⟩) (r : Vals xs its.toList) (z : its.size ≤ 16777216) : TupAt K mg x xs :=
  ⟨c, h, .inr ⟨_, its, n, l, rfl, rfl, z, r⟩⟩
def dCD (d : D) : TD := fun ρ W Q _ => Q d ρ W
theorem ge_tc {x : Str} {xs : List V} {px : Pos} (h : TupAt X.K X.mg x xs) (hg : Gl X x := by rfl) (hd : (x == ("__debug__" : Str)) = false := by decide) : GE X Wx (.Name x px) (dCD (.tup (xs.map D.v))) := by
  obtain ⟨c, h1, h2⟩ := h.at'
  exact ⟨_, pe_glob (v := .ref c) hg h1 rfl hd, fun F S H σ ρ W Q Qx R cf hf _ hE => hE S H ρ W _ _ .refl cf (Rep.tup_iff.mpr ⟨c, xs, rfl, .inr (.inl h2), Reps.map_v xs⟩) hf⟩
end
/-! ### x.index(y): the first place -/
section
variable {X : Cx} {Wx : WX} {o e : Expr} {es : List Expr} {fo : TD} {fl : TL} {apos cpos : Pos}
/-- a tuple that is known to have no dict, as a receiver -/
def tBMF (r : V → List V → Hp → VK → Prop) (to : TE) (t : TA) : TE := fun σ H Q => to σ H fun x H1 => (∃ (c : Addr) (ob : Obj) (ys : List V), x = .ref c ∧ H1 c = some (.frz ob (.tup ys)) ∧ ob.dict = none) ∧ t σ H1 fun xs H2 => r x xs H2 Q
theorem pe_bmF {to : TE} {t : TA} {name : Str} {id : String} {r : V → List V → Hp → VK → Prop} (slot : Slot "tuple" name id) (hty : typeOf (.builtin id) = pure (.type "method_descriptor")) (hm : MtR X id r) (ho : PE X o to) (ha : PA X (e :: es) t) (hbase : attributeBase o name X.env (eval o X.env) = eval o X.env := by rfl)
    (hfew : ((backTo cpos (starEach (e :: es) X.env)).all (fun x => !x.1) && (backToKw cpos (keywordEach [] X.env)).all (fun x => x.1.isSome) && decide ((e :: es).length + ([] : List Keyword).length + (if ([] : List Keyword).isEmpty then 0 else 1) < 30)) = true := by rfl)
    (hline : (apos.endLine == cpos.line) = true := by rfl) (hs : starEach (e :: es) X.env = (false, eval e X.env) :: starEach es X.env := by rfl) (hplain : (backTo cpos (starEach es X.env)).any (·.1) = false := by rfl) : PE X (.Call (.Attribute o name apos) (e :: es) [] cpos) (tBMF r to t) := by
  constructor
  intro pins s σ H Q I h
  refine wpAny_Call_method_late hbase hfew hline rfl (thn (ho.run pins s σ H _ I h) fun v s1 z => ?_)
  obtain ⟨x, H1, I1, r1, ⟨c, ob, ys, ex, hc, hn⟩, q1⟩ := z
  subst ex
  cases r1
  obtain ⟨g, _, its, rv, o2, g2, hcl, n, hdt⟩ := (show ObjOk X.prog X.w H1 s1.heap c (.frz ob (.tup ys)) from I1.hok c _ hc)
  have e2 : o2 = ob := by rw [g] at g2; exact (Option.some.inj g2).symm
  subst e2
  refine ⟨"tuple", id, PySem.F.plainAttrs_tuple, slot, hty, ⟨_, g, hcl⟩, fun b hb => ?_, ?_⟩
  · cases hb; exact ⟨_, g, hn⟩
  have hA := ha.run cpos pins s1 σ H1 _ I1 q1
  rw [hs] at hA ⊢
  refine Calls.callWith_builtin (by show (false || (backTo cpos (starEach es X.env)).any (·.1)) = false; rw [hplain]; rfl) (Calls.evalArgs_plain (thn hA fun us s2 z2 => ?_))
  obtain ⟨vs, H2, I2, r2, q2⟩ := z2
  exact hm pins s2 σ H2 (.ref c) vs _ us Q I2 rfl r2 q2
def dIndexF (fo : TD) (fl : TL) : TD := fun ρ W Q Qx => fo ρ W (fun d ρ1 W1 => (∃ ys, d = .tpf ys) ∧ fl ρ1 W1 (fun ds ρ2 W2 => ∃ (ys : List Str) (z : Str) (j : Nat), d = .tpf (ys.map D.str) ∧ ds = [.str z] ∧ ys[j]? = some z ∧ (∀ m, m < j → ys[m]? ≠ some z) ∧ Q (.int (j : Nat)) ρ2 W2) Qx) Qx
theorem ge_indexF (ho : GE X Wx o fo) (ha : GA X Wx (e :: es) fl) (hbase : attributeBase o "index" X.env (eval o X.env) = eval o X.env := by rfl)
    (hfew : ((backTo cpos (starEach (e :: es) X.env)).all (fun x => !x.1) && (backToKw cpos (keywordEach [] X.env)).all (fun x => x.1.isSome) && decide ((e :: es).length + ([] : List Keyword).length + (if ([] : List Keyword).isEmpty then 0 else 1) < 30)) = true := by rfl)
    (hline : (apos.endLine == cpos.line) = true := by rfl) (hs : starEach (e :: es) X.env = (false, eval e X.env) :: starEach es X.env := by rfl) (hplain : (backTo cpos (starEach es X.env)).any (·.1) = false := by rfl) : GE X Wx (.Call (.Attribute o "index" apos) (e :: es) [] cpos) (dIndexF fo fl) := by
  obtain ⟨to, po, so⟩ := ho
  obtain ⟨ta, pa, sa⟩ := ha
  refine ⟨_, pe_bmF PySem.F.slot_tuple_index PySem.F.type_tuple_index mt_tup_index po pa hbase hfew hline hs hplain, fun F S H σ ρ W Q Qx R cf hf hx hE => ?_⟩
  refine so F S H σ ρ W _ Qx _ cf hf hx fun S1 H1 ρ1 W1 d v e1 c1 r1 q1 => ?_
  obtain ⟨⟨ys, rfl⟩, q1⟩ := q1
  obtain ⟨c, xs, ob, rfl, h1, h2, h3⟩ := Rep.tpf_iff.mp r1
  refine ⟨⟨c, ob, xs, rfl, h1.1, h2⟩, ?_⟩
  refine sa F S1 H1 σ ρ1 W1 _ Qx _ c1 q1 (hx.up e1) fun S2 H2 ρ2 W2 ds vs e2 c2 r2 q2 => ?_
  obtain ⟨zs, z, j, eq, rfl, hj, hno, q2⟩ := q2
  cases eq
  obtain ⟨y, rfl, ry⟩ := reps1 r2
  cases Rep.v_iff.mp ry
  have h4 := (h3.up e2)
  have e3 : xs = zs.map V.str := Reps.of_map_v (xs := zs.map V.str) (by rw [List.map_map]; exact h4)
  subst e3
  exact ⟨c, zs, z, j, rfl, rfl, .inl (.inr ⟨ob, (e2.has h1).1⟩), hj, hno, hE S2 H2 ρ2 W2 _ _ (e1.trans e2) c2 (Rep.v_iff.mpr rfl) q2⟩
/-- .. of a list -/
def dIndexL (fo : TD) (fl : TL) : TD := fun ρ W Q Qx => fo ρ W (fun d ρ1 W1 => (∃ ys, d = .lst ys) ∧ fl ρ1 W1 (fun ds ρ2 W2 => ∃ (ys : List V) (y z : V) (j : Nat), d = .lst (ys.map D.v) ∧ ds = [.v y] ∧ flatV y = true ∧ ys.all flatV = true ∧ ys[j]? = some z ∧ eqV z y = true ∧ (∀ (m : Nat) (z' : V), m < j → ys[m]? = some z' → eqV z' y = false) ∧ Q (.int (j : Nat)) ρ2 W2) Qx) Qx
theorem ge_indexL (ho : GE X Wx o fo) (ha : GA X Wx (e :: es) fl) (hbase : attributeBase o "index" X.env (eval o X.env) = eval o X.env := by rfl)
    (hfew : ((backTo cpos (starEach (e :: es) X.env)).all (fun x => !x.1) && (backToKw cpos (keywordEach [] X.env)).all (fun x => x.1.isSome) && decide ((e :: es).length + ([] : List Keyword).length + (if ([] : List Keyword).isEmpty then 0 else 1) < 30)) = true := by rfl)
    (hline : (apos.endLine == cpos.line) = true := by rfl) (hs : starEach (e :: es) X.env = (false, eval e X.env) :: starEach es X.env := by rfl) (hplain : (backTo cpos (starEach es X.env)).any (·.1) = false := by rfl) : GE X Wx (.Call (.Attribute o "index" apos) (e :: es) [] cpos) (dIndexL fo fl) := by
  obtain ⟨to, po, so⟩ := ho
  obtain ⟨ta, pa, sa⟩ := ha
  refine ⟨_, pe_bm PySem.F.plainAttrs_list PySem.F.slot_list_index PySem.F.type_list_index mt_index po pa hbase hfew hline hs hplain, fun F S H σ ρ W Q Qx R cf hf hx hE => ?_⟩
  refine so F S H σ ρ W _ Qx _ cf hf hx fun S1 H1 ρ1 W1 d v e1 c1 r1 q1 => ?_
  obtain ⟨⟨ys, rfl⟩, q1⟩ := q1
  obtain ⟨c, xs, rfl, h1, h3⟩ := Rep.lst_iff.mp r1
  refine ⟨.inl ⟨rfl, xs, h1.sq⟩, ?_⟩
  refine sa F S1 H1 σ ρ1 W1 _ Qx _ c1 q1 (hx.up e1) fun S2 H2 ρ2 W2 ds vs e2 c2 r2 q2 => ?_
  obtain ⟨zs, y, z, j, eq, rfl, fy, fz, hj, hz, hno, q2⟩ := q2
  cases eq
  obtain ⟨x, rfl, ry⟩ := reps1 r2
  have ey := Rep.v_iff.mp ry
  subst ey
  have e3 : xs = zs := Reps.of_map_v (h3.up e2)
  subst e3
  exact ⟨c, xs, _, j, z, rfl, rfl, (e2.imL h1).sq, fy, fz, hj, hz, hno, hE S2 H2 ρ2 W2 _ _ (e1.trans e2) c2 (Rep.v_iff.mpr rfl) q2⟩
end
end G

namespace G
open PySem PySem.Spec L2
/-! ### x in xs, not in: data of any depth in a list or a tuple -/
def rInN (K : PySem.W.Frag) (neg : Bool) : R2 := fun x y H Q => ∃ (d : PyData) (xs : List PyData), Dp K H x d ∧ (Dp K H y (.list xs) ∨ Dp K H y (.tuple xs)) ∧ PyData.canLayAll0 xs = true ∧ d.canLay0 = true ∧ d.depth ≤ 62 ∧ Q (.bl (if neg then !xs.any fun z => PyData.eqv z d else xs.any fun z => PyData.eqv z d)) H
theorem room_n {A : Around} {xs : List PyData} {d : PyData} (h : d.depth ≤ 62) (hu : A.units + 64 < cLine) : A.units + 1 + min (PyData.depthAll xs) d.depth < cLine := by
  have := Nat.min_le_right (PyData.depthAll xs) d.depth
  omega
theorem op_inN {X : Cx} (hu : X.A.units + 64 < cLine) : OpR X (compareOp .In) (rInN X.K false) := by
  intro pins s σ H x y v u Q I rx ry h
  obtain ⟨d, xs, hd, he, c1, c2, dp, q⟩ := h
  obtain ⟨as, r1⟩ := Dp.reads I d x v hd rx
  rcases he with he | he
  · obtain ⟨bs, r2⟩ := Dp.reads I (.list xs) y u he ry
    exact SeqAt.in_list_reads r2 r1 c1 c2 (room_n dp hu) ⟨.bl _, H, I, rfl, q⟩
  · obtain ⟨bs, r2⟩ := Dp.reads I (.tuple xs) y u he ry
    exact SeqAt.in_tuple_reads r2 r1 c1 c2 (room_n dp hu) ⟨.bl _, H, I, rfl, q⟩
theorem op_niN {X : Cx} (hu : X.A.units + 64 < cLine) : OpR X (compareOp .NotIn) (rInN X.K true) := by
  intro pins s σ H x y v u Q I rx ry h
  obtain ⟨d, xs, hd, he, c1, c2, dp, q⟩ := h
  obtain ⟨as, r1⟩ := Dp.reads I d x v hd rx
  rcases he with he | he
  · obtain ⟨bs, r2⟩ := Dp.reads I (.list xs) y u he ry
    exact SeqAt.notIn_list_reads r2 r1 c1 c2 (room_n dp hu) ⟨.bl _, H, I, rfl, q⟩
  · obtain ⟨bs, r2⟩ := Dp.reads I (.tuple xs) y u he ry
    exact SeqAt.notIn_tuple_reads r2 r1 c1 c2 (room_n dp hu) ⟨.bl _, H, I, rfl, q⟩
def dInN (neg : Bool) : D → D → (D → Prop) → Prop := fun d e Q => ∃ ys, (e = .lst ys ∨ e = .tup ys) ∧ D.good 62 d = true ∧ goods 62 ys = true ∧ Q (.bl (if neg then !ys.any fun z => eqD z d else ys.any fun z => eqD z d))
theorem pys_map : ∀ ds : List D, pys ds = ds.map D.py
  | [] => by rw [pys]; rfl
  | d :: ds => by rw [pys, pys_map ds]; rfl
theorem any_py (ys : List D) (d : D) : ((pys ys).any fun z => PyData.eqv z d.py) = ys.any fun z => eqD z d := by
  rw [pys_map, List.any_map]; rfl
theorem rs_inN {K : PySem.W.Frag} {neg : Bool} : RSnd K (rInN K neg) (dInN neg) := fun F S H W d e x y P R cb rd re hp k => by
  obtain ⟨ys, he, g1, g2, q⟩ := hp
  refine ⟨d.py, pys ys, dp_of (n := 62) g1 rd, ?_, (lays_of g2).1, (lay_of g1).1, (lay_of g1).2, k _ _ H (Same.refl H) (Rep.v_iff.mpr rfl) ?_⟩
  · rcases he with rfl | rfl
    · exact .inl (by have := dp_of (n := 63) (d := .lst ys) (by rw [D.good]; exact g2) re; rwa [D.py] at this)
    · exact .inr (by have := dp_of (n := 63) (d := .tup ys) (by rw [D.good]; exact g2) re; rwa [D.py] at this)
  · rw [any_py]; exact q
/-- flat, or of any depth -/
def dInB (neg : Bool) : D → D → (D → Prop) → Prop := fun d e Q => dIn neg d e Q ∨ dInN neg d e Q
def rInB (K : PySem.W.Frag) (neg : Bool) : R2 := fun x y H Q => rInA K neg x y H Q ∨ rInN K neg x y H Q
theorem rs_inB {K : PySem.W.Frag} {neg : Bool} : RSnd K (rInB K neg) (dInB neg) := rs_or rs_in rs_inN
theorem op_inB {X : Cx} (hu : X.A.units + 64 < cLine) : OpR X (compareOp .In) (rInB X.K false) := op_inA.or (op_inN hu)
theorem op_niB {X : Cx} (hu : X.A.units + 64 < cLine) : OpR X (compareOp .NotIn) (rInB X.K true) := op_niA.or (op_niN hu)
/-! ### < of truths too -/
def rLtB : R2 := fun x y H Q => ∃ a b : Bool, x = .bl a ∧ y = .bl b ∧ Q (.bl (!a && b)) H
theorem op_ltBl {X : Cx} : OpR X (compareOp .Lt) rLtB := by
  intro pins s σ H x y v u Q I rx ry h
  obtain ⟨a, b, rfl, rfl, q⟩ := h
  cases rx
  cases ry
  refine PyProof.Rows.lt_bool ⟨.bl (!a && b), H, I, ?_, q⟩
  cases a <;> cases b <;> rfl
@[irreducible] def dLtB : D → D → (D → Prop) → Prop := fun d e Q => match d, e with | .v (.bl a), .v (.bl b) => Q (.bl (!a && b)) | d, e => dLt d e Q
theorem rs_ltBl {K : PySem.W.Frag} : RSnd K rLtB (fun d e Q => match d, e with | .v (.bl a), .v (.bl b) => Q (.bl (!a && b)) | _, _ => False) := fun F S H W d e x y P R cb rd re hp k => by
  dsimp only at hp
  split at hp
  · rw [Rep.v_iff] at rd re
    exact ⟨_, _, rd, re, k _ _ H (Same.refl H) (Rep.v_iff.mpr rfl) hp⟩
  · exact hp.elim
def rLtA : R2 := fun x y H Q => rCmp (fun i j => decide (i < j)) ltS x y H Q ∨ rLtB x y H Q
theorem rs_ltB {K : PySem.W.Frag} : RSnd K rLtA dLtB := rs_imp (rs_or rs_cmp rs_ltBl) fun d e Q q => by
  unfold dLtB at q
  split at q
  · exact .inr q
  · exact .inl q
theorem op_ltB {X : Cx} : OpR X (compareOp .Lt) rLtA := op_ltA.or op_ltBl
/-! ### x != [] of any list -/
theorem ne_lengths (l b : Addr) (items items2 : Array Value) (n n2 : Nat) (dd dd2 : Option Addr) (sl sl2 : Array (Option Value)) (hc0 : (items.size != items2.size) = true) :
    PySem.Meets (Builtin.«list.__ne__» ⟨[.ref l, .ref b], []⟩) (fun _ R s => s.heap.get? l = some { cls := .type "list", dict := dd, data := .seq items n, slots := sl } ∧ s.heap.get? b = some { cls := .type "list", dict := dd2, data := .seq items2 n2, slots := sl2 } ∧ R (.ok (.ret (.bool true))) s) :=
  .of_wp fun prog w A R s h => by
    obtain ⟨hp, g, d, tk, os⟩ := s; obtain ⟨hl, hb, h⟩ := h
    have f3 := PySem.AutoSeq1.sub_list_list
    wp_walk using PySem.AutoSeq1.wpAny_loadPart' hl, PySem.AutoSeq1.wpAny_loadPart' hb
    exact ⟨_, rfl, h⟩
def rNeE : R2 := fun x y H Q => ∃ (a b : Addr) (xs : List V), x = .ref a ∧ y = .ref b ∧ H a = some (.lst xs) ∧ H b = some (.lst []) ∧ xs ≠ [] ∧ Q (.bl true) H
theorem op_neE0 {X : Cx} (hu : X.A.units + 64 < cLine) : OpR X (compareOp .NotEq) rNeE := by
  intro pins s σ H x y v u Q I rx ry h
  obtain ⟨a, b, xs, rfl, rfl, h1, h2, h3, q⟩ := h
  cases rx
  cases ry
  obtain ⟨its, r1, pl1, _⟩ := I.list (SqL.of (K := X.K) h1)
  obtain ⟨its2, r2, pl2, _⟩ := I.list (SqL.of (K := X.K) h2)
  cases r2
  obtain ⟨⟨cls, dd, data, sl⟩, n, ho, hc, hd, hs⟩ := pl1
  obtain ⟨⟨cls2, dd2, data2, sl2⟩, n2, ho2, hc2, hd2, hs2⟩ := pl2
  simp only at hc hd hs hc2 hd2 hs2
  subst hc hs hc2 hs2
  have sz : (its.toArray.size != ([] : List Value).toArray.size) = true := by
    have := r1.length
    have : its ≠ [] := fun e => h3 (List.length_eq_zero_iff.mp (by rw [this, e]; rfl))
    simp [this]
  exact PySem.richCompare_meets_room (op := .NotEq) ⟨_, ho, rfl⟩ ⟨_, ho2, rfl⟩ PySem.F.slot_list_ne PySem.F.entry_list_ne (PySem.F.args_list_ne_2 _ _) (ne_lengths a b its.toArray _ n n2 dd dd2 sl sl2 sz)
    ⟨ho, ho2, show Value.bool true ≠ Value.notImplemented ∧ _ from ⟨(fun x => nomatch x), ⟨.bl true, H, I, rfl, q⟩⟩⟩ (by omega)
def dNeE : D → D → (D → Prop) → Prop := fun d e Q => (∃ ds, d = .lst ds ∧ e = .lst [] ∧ ds ≠ [] ∧ Q (.bl true)) ∨ dNe d e Q
theorem rs_neE0 {K : PySem.W.Frag} : RSnd K rNeE (fun d e Q => ∃ ds, d = .lst ds ∧ e = .lst [] ∧ ds ≠ [] ∧ Q (.bl true)) := fun F S H W d e x y P R cb rd re hp k => by
  obtain ⟨ds, rfl, rfl, hn, q⟩ := hp
  obtain ⟨a, xs, rfl, h1, h2⟩ := Rep.lst_iff.mp rd
  obtain ⟨b, ys, rfl, h3, h4⟩ := Rep.lst_iff.mp re
  have e0 := Reps.nil_iff.mp h4
  subst e0
  exact ⟨a, b, xs, rfl, rfl, h1.1, h3.1, fun e => hn (List.length_eq_zero_iff.mp (by rw [← h2.length, e]; rfl)), k _ _ H (Same.refl H) (Rep.v_iff.mpr rfl) q⟩
theorem rs_neE {K : PySem.W.Frag} : RSnd K (fun x y H Q => rNeE x y H Q ∨ (rNe x y H Q ∨ rNeD K x y H Q)) dNeE := rs_or rs_neE0 rs_ne
theorem op_neE {X : Cx} (hu : X.A.units + 64 < cLine) : OpR X (compareOp .NotEq) (fun x y H Q => rNeE x y H Q ∨ (rNe x y H Q ∨ rNeD X.K x y H Q)) := (op_neE0 hu).or (op_neA hu)
end G

/-! f(k = e, ..), every argument by its name; what it raises goes on -/
namespace G
open PySem PySem.Spec L2
section
variable {X : Cx} {Wx : WX} {e : Expr} {es : List Expr} {fl : TL} {p pos : Pos} {k j n : Nat} {x : Str} {st : Stmt} {ps : List Str} {sp : SpD}
variable {nm : Option Str} {kpos : Pos} {fe : TD} {kws : List Keyword}
def dCallKX (sp : SpD) (n m : Nat) (ix : List Nat) (fl : TL) : TD := fun ρ W Q Qx => fl ρ W (fun ds ρ' W' => ds.length = m ∧ (pick ix ds).length = n ∧ sp (pick ix ds) W' (fun d W2 => Q d ρ' W2) (fun cls x W2 => Qx cls x ρ' W2)) Qx
theorem ge_ckx {ks : List Str} {m : Nat} (tk : Takes X Wx) (ix : List Nat) (c : Cal X.prog X.w X.K X.mg X.base k x st ps sp) (hr : Rm j X.A) (hk : k ≤ j)
    (hb : ∀ (kV doc pm : Value) (an : Option Addr) (cdv ct : Value) (ws : List Value), ws.length = ks.length → bindArgs (PySem.W.fnOf x x (defArgs st) (defBody st) (defScope st) .none kV doc pm an cdv ct) ⟨[], ks.zip ws⟩ = pure (ps.zip (pick ix ws)))
    (ha : GK X Wx kws fl) (hm : ks.length = m := by rfl) (hn : ps.length = n := by rfl) (hall : (backToKw pos (keywordEach kws X.env)).all (·.1.isSome) = true := by rfl) (hks : (backToKw pos (keywordEach kws X.env)).filterMap (·.1) = ks := by rfl) (hg : Gl X x := by rfl) (hdb : (x == ("__debug__" : Str)) = false := by decide)
    (hpl : ((backTo pos (starEach [] X.env)).any (·.1) || (backToKw pos (keywordEach kws X.env)).any (·.1.isNone)) = false := by rfl) :
    GE X Wx (.Call (.Name x p) [] kws pos) (dCallKX sp n m ix fl) := by
  obtain ⟨f, fd, hmg, hF, hB, hf⟩ := c
  obtain ⟨ta, pa, sa⟩ := ha
  subst hn
  let te : TE := fun σ H Q => ta σ H fun zs H2 => zs.length = ks.length ∧ toSp X.K ps.length sp (pick ix zs) H2 Q (WE Wx σ)
  refine ⟨te, ⟨fun pins s σ H Q I h => ?_⟩, ?_⟩
  · refine wpAny_Call_Name_kw (ld_glob I hg hmg ?_ hdb)
    refine PySem.W.callWith_KW0 (h₀ := X.base) I.ok.mod.kin hF.kp hall ?_ hpl
    refine thn (pa.run pos pins s σ H _ I h) fun ws s2 ⟨zs, H2, I2, rz, l2, q2⟩ => ⟨I2.kIn, ?_⟩
    rw [hks]
    obtain ⟨oc, od, kV, doc, pm, an, cdv, ct, osl, rfl, lk, hcd⟩ := hF.ex
    have hr2 := vals_pick rz ix
    have hbt := BindsTo.of_eq (s := s2) (hb kV doc pm an cdv ct ws (by rw [← rz.length, l2]))
    refine wpAny_call (codeAny_mono (end_call (pins := pins) I2 (fun e s' z => passAt tk σ pins H2 s2 e s' I2 z) (hf.go (hr.less hk) I2.env0 hbt hr2 q2)) fun r s' z => ?_)
    match r, z with
    | .error e, z => exact z
    | .ok (.ret u), z => exact z
    | .ok .next, z => exact z.elim
    | .ok .brk, z => exact z.elim
    | .ok .cont, z => exact z.elim
  · intro F S H σ ρ W Q Qx R cf hf' hx hE
    refine sa F S H σ ρ W _ Qx _ cf hf' hx fun S1 H1 ρ1 W1 ds vs e1 c1 r1 q1 => ?_
    obtain ⟨q0, q1, q2⟩ := q1
    refine ⟨by rw [r1.length, q0, hm], _, S1, W1, pick ix ds, _, _, c1.below, reps_pick r1 ix, q1, q2, fun S' H' W' d v e' b r q => ?_, fun S' H' W' cls x od e' b xr q => ?_⟩
    · exact hE S' H' ρ1 W' d v (e1.trans (e'.mono fun _ h => .inl h)) (c1.back e' b) r q
    · exact hx S' H' σ ρ1 W' cls x od (e1.trans (e'.mono fun _ h => .inl h)) (c1.back e' b) xr q
end
theorem kit_ref {K : PySem.W.Frag} {D C : Addr} {b : Bool} (hne : (Value.ref D == Value.ref C) = false) (hdct : PySem.W.hasDictIn K C = true) (ht : PySem.W.typeIn K (.ref C) = some (.type "type")) (h4 : PySem.W.subIn K (.ref D) (.ref C) = some b) : PySem.W.kitOne K (.ref D) (.ref C) = some b := by
  obtain ⟨cd, hc, _⟩ := PySem.W.any_some hdct
  have e2 : ((PySem.W.clsIn K C).isSome && PySem.W.typeIn K (.ref C) == some (.type "type")) = true := by rw [hc, ht] <;> rfl
  show (if (Value.ref D == Value.ref C) = true then some true else (if ((PySem.W.clsIn K C).isSome && PySem.W.typeIn K (.ref C) == some (.type "type")) = true then PySem.W.subIn K (.ref D) (.ref C) else none)) = some b
  rw [hne, if_neg (by decide), if_pos e2]
  exact h4
theorem kit_self {K : PySem.W.Frag} {D : Addr} : PySem.W.kitOne K (.ref D) (.ref D) = some true := by
  show (if (Value.ref D == Value.ref D) = true then some true else _) = some true
  rw [if_pos (beq_iff_eq.mpr rfl)]
end G

namespace C
open PySem PySem.Spec L2 G TL
def Printable (s : Str) : Prop := ∀ c ∈ tl s, 32 ≤ c ∧ c ≤ 126
/-- the k digits of n -/
def digs : Nat → Nat → List Nat
  | 0, _ => []
  | k + 1, n => digs k (n / 10) ++ [48 + n % 10]
def isDig (c : Nat) : Bool := decide (48 ≤ c) && decide (c ≤ 57)
def numIn (l : List Nat) (at_ k : Nat) : Int :=
  if ((l.drop at_).take k).length < k ∨ ((l.drop at_).take k).all isDig = false then -1 else ((NumText.digitsVal ((l.drop at_).take k) : Nat) : Int)
theorem so_sp : Str.ofString " " = mkS [32] := by decide +kernel
theorem so_ti : Str.ofString "~" = mkS [126] := by decide +kernel
theorem so_0 : Str.ofString "0" = mkS [48] := by decide +kernel
theorem so_9 : Str.ofString "9" = mkS [57] := by decide +kernel
theorem so_pl : Str.ofString "+" = mkS [43] := by decide +kernel
theorem so_dot : Str.ofString "." = mkS [46] := by decide +kernel
theorem digs_len : ∀ (k n : Nat), (digs k n).length = k
  | 0, _ => rfl
  | k + 1, n => by rw [digs, List.length_append, digs_len k]; rfl
theorem pad_digs : ∀ (k n : Nat), 0 < k → n < 10 ^ k → List.replicate (k - (numL n).length) 48 ++ numL n = digs k n
  | 0, _, h, _ => absurd h (by decide)
  | 1, n, _, h => by
    have h' : n < 10 := by simpa using h
    rw [numL_lt h', digs, digs]
    simp [Nat.mod_eq_of_lt h']
  | k + 2, n, _, h => by
    have h2 : n / 10 < 10 ^ (k + 1) := by
      rw [Nat.div_lt_iff_lt_mul (by decide)]
      rw [Nat.pow_succ] at h; exact h
    rw [digs, ← pad_digs (k + 1) (n / 10) (by omega) h2]
    by_cases h10 : n < 10
    · have : n / 10 = 0 := Nat.div_eq_of_lt h10
      rw [this, numL_lt h10, numL_lt (by decide : 0 < 10), Nat.mod_eq_of_lt h10]
      show List.replicate (k + 1) 48 ++ [48 + n] = (List.replicate k 48 ++ [48]) ++ [48 + n]
      rw [List.replicate_succ']
    · rw [numL_step (by omega : 10 ≤ n), List.length_append, ← List.append_assoc]
      congr 2
      congr 1
      show k + 2 - ((numL (n / 10)).length + 1) = _
      omega
theorem log2_small {n k : Nat} (h : n < 2 ^ k) (hk : 0 < k) : n.log2 < k := by
  by_cases h0 : n = 0
  · rw [h0]; exact hk
  · exact (Nat.log2_lt h0).mpr h
theorem ten_le_two : ∀ k : Nat, 10 ^ k ≤ 2 ^ (4 * k)
  | 0 => by decide
  | k + 1 => by
    have e : 2 ^ (4 * (k + 1)) = 2 ^ (4 * k) * 2 ^ 4 := by rw [← Nat.pow_add]; rfl
    rw [e, Nat.pow_succ]
    exact Nat.mul_le_mul (ten_le_two k) (by decide)
theorem rjust_tl (n k : Nat) (hk : 0 < k) (h : n < 10 ^ k) : Txt.rjustF (toString ((n : Nat) : Int) : String) (k : Int) 48 = mkS (digs k n) := by
  refine str_eq ?_
  rw [← pad_digs k n hk h]
  have hl : (Str.ofString (toString ((n : Nat) : Int))).length = (numL n).length := by rw [len_tl, tl_num]
  unfold Txt.rjustF
  split
  · rename_i h1
    rw [hl] at h1
    rw [tl_num, show k - (numL n).length = 0 by omega]
    rfl
  · rename_i h1
    rw [hl] at h1
    unfold Builtin.Str.padded
    rw [hl]
    show (Array.replicate _ 48 ++ (Str.ofString (toString ((n : Nat) : Int))).cps ++ Array.replicate 0 48).toList = _
    simp only [Array.toList_append, Array.toList_replicate, List.replicate_zero, List.append_nil]
    rw [Int.toNat_natCast]
    congr 1
    exact tl_num n
theorem pad_ok : ∀ k : Fin 101, PySem.PadOk ((k.val : Nat) : Int) = true := by decide +kernel
theorem isDig_all {l : List Nat} (h : l.all isDig = true) : NumText.AllDigits l := fun c hc => by
  have := List.all_eq_true.mp h c hc
  unfold isDig at this
  rw [Bool.and_eq_true, decide_eq_true_eq, decide_eq_true_eq] at this
  exact this
theorem numIn_range (l : List Nat) (a k : Nat) : -1 ≤ numIn l a k := by
  unfold numIn
  split <;> omega
theorem inV2 (z a b : List Nat) : inV (.str (mkS z)) [.str (mkS a), .str (mkS b)] = (decide (z = a) || decide (z = b)) := by
  have e : ∀ x y : List Nat, eqV (.str (mkS x)) (.str (mkS y)) = decide (y = x) := fun x y => by
    show ((mkS x) == (mkS y)) = _
    rw [Bool.eq_iff_iff, beq_iff_eq, decide_eq_true_eq, mkS_inj, eq_comm]
  unfold inV
  rw [List.any_cons, List.any_cons, List.any_nil, e, e, Bool.or_false]
theorem rgc_up {b c : Nat} (hc : 0 < c) (hc2 : c < 1073741824) (hb : b < 1073741824) : RgC 0 b c ((b + c - 1) / c) := by
  have fit : ∀ i : Int, -(2 ^ 62) ≤ i → i < 2 ^ 62 → Builtin.Range.rangeFitsLong i = true := fun i h1 h2 => by
    unfold Builtin.Range.rangeFitsLong
    simp
    omega
  have e : Builtin.Range.rangeSize 0 (b : Int) (c : Int) = (((b + c - 1) / c : Nat) : Int) := by
    unfold Builtin.Range.rangeSize
    rw [if_pos (by omega)]
    by_cases h0 : b = 0
    · subst h0
      rw [if_neg (by omega), Nat.div_eq_of_lt (by omega)]
      rfl
    · rw [if_pos (by omega)]
      have h1 : (b : Int) - 0 - 1 = ((b - 1 : Nat) : Int) := by omega
      have h2 : (b + c - 1) / c = (b - 1) / c + 1 := by
        rw [show b + c - 1 = (b - 1) + c by omega, Nat.add_div_right _ hc]
      rw [h1, h2, ← Int.natCast_ediv]
      rfl
  have hle : (b + c - 1) / c ≤ b + c := Nat.le_trans (Nat.div_le_self _ _) (by omega)
  generalize (b + c - 1) / c = q at e hle ⊢
  refine ⟨by omega, by omega, ?_, e⟩
  unfold Builtin.Range.small
  rw [e, fit 0 (by omega) (by omega), fit b (by omega) (by omega), fit c (by omega) (by omega), fit _ (by omega) (by omega), if_pos (by omega), fit _ (by omega) (by omega)]
  simp
theorem mulX_of {i j : Int} (a b : Nat) (hi : i.natAbs < 2 ^ a) (hj : j.natAbs < 2 ^ b) (ha : 0 < a) (hb : 0 < b) (h : a + b ≤ 60000000) : CMulX i j := by
  unfold CMulX
  have := log2_small hi ha
  have := log2_small hj hb
  omega
theorem goods_ints (gs : List Int) : goods 63 (gs.map D.int) = true := by
  induction gs with
  | nil => rfl
  | cons a r ih => simp [goods, D.good, ih]
theorem ixN0 {n : Nat} (h : 0 < n) : ixN n 0 = some 0 := by
  unfold ixN
  rw [if_pos (by decide), if_pos (by omega)]; rfl
theorem atI0 {α : Type} {a : α} {l : List α} : atI (a :: l) 0 = some a := by
  unfold atI
  rw [ixN0 (by simp : 0 < (a :: l).length)]; rfl
theorem joinL_nil : ∀ ys : List (List Nat), TL.joinL [] ys = ys.flatten
  | [] => rfl
  | [x] => by simp [TL.joinL]
  | x :: y :: r => by
    have := joinL_nil (y :: r)
    rw [List.flatten_cons, ← this]
    simp [TL.joinL]
theorem join_mkS (ys : List (List Nat)) : Txt.join (mkS []) (ys.map mkS) = mkS ys.flatten := by
  rw [← joinL_nil]; exact SX.join_S [] ys
def signs1 : List Nat := [32, 33, 34, 35, 36, 38, 39, 40, 41, 42, 43, 44, 45, 46, 47, 48, 49, 50, 51, 52, 53, 54, 55, 56, 57, 58, 59, 60, 61, 62, 63, 64, 65, 66, 67, 68, 69, 70, 71, 72, 73, 74, 75, 76, 77, 78, 79, 80, 81, 82, 83, 84, 85, 86, 87, 88, 89, 90, 91, 92, 93, 94, 95, 96, 97, 98, 99, 100, 101, 102, 103, 104, 105, 106, 107, 108, 109, 110, 111, 112, 113, 114, 115, 116, 117, 118, 119, 120, 121, 122, 123, 124, 125, 126]
theorem so_s1 : Str.ofString " !\"#$&'()*+,-./0123456789:;<=>?@ABCDEFGHIJKLMNOPQRSTUVWXYZ[\\]^_`abcdefghijklmnopqrstuvwxyz{|}~" = mkS signs1 := by decide +kernel
theorem so_nil : Str.ofString "" = mkS [] := by decide +kernel
def Pr (l : List Nat) : Prop := ∀ c ∈ l, 32 ≤ c ∧ c ≤ 126
theorem pr_s1 : Pr signs1 := by unfold Pr; decide +kernel
/-- one sign of a text -/
theorem at_mkS (l : List Nat) (r : Int) (h0 : 0 ≤ r) (h1 : r < l.length) (hp : Pr l) : ∃ c, atI (mkS l).cps.toList r = some c ∧ 32 ≤ c ∧ c ≤ 126 := by
  obtain ⟨n, rfl⟩ : ∃ n : Nat, r = n := ⟨r.toNat, by omega⟩
  have hn : n < l.length := by omega
  have e : (mkS l).cps.toList[n]? = some l[n] := List.getElem?_eq_getElem hn
  exact ⟨l[n], atI_of e, hp _ (List.getElem_mem hn)⟩
/-- an item of a list -/
theorem at_lst {α : Type} (l : List α) (r : Int) (h0 : 0 ≤ r) (h1 : r < l.length) : ∃ c, c ∈ l ∧ atI l r = some c := by
  obtain ⟨n, rfl⟩ : ∃ n : Nat, r = n := ⟨r.toNat, by omega⟩
  have hn : n < l.length := by omega
  exact ⟨l[n], List.getElem_mem hn, atI_of (List.getElem?_eq_getElem hn)⟩
theorem flat_ones (ys : List D) (h : ∀ y ∈ ys, ∃ c, y = .str (mkS [c]) ∧ 32 ≤ c ∧ c ≤ 126) : ∃ l : List Nat, l.length = ys.length ∧ Pr l ∧ ys = (l.map fun c => [c]).map fun x => D.str (mkS x) := by
  induction ys with
  | nil => exact ⟨[], rfl, fun _ h => absurd h List.not_mem_nil, rfl⟩
  | cons y r ih =>
    obtain ⟨l, h1, h2, h3⟩ := ih fun z hz => h z (List.mem_cons_of_mem _ hz)
    obtain ⟨c, rfl, hc⟩ := h y (List.mem_cons_self ..)
    refine ⟨c :: l, by simp [h1], fun d hd => ?_, by rw [h3]; rfl⟩
    rcases List.mem_cons.mp hd with rfl | hd
    · exact hc
    · exact h2 d hd
theorem flat_sing (l : List Nat) : (l.map fun c => [c]).flatten = l := by
  induction l with
  | nil => rfl
  | cons a r ih => simp [ih]
theorem sum_ones (l : List Nat) : (((l.map fun c => [c]).map mkS).map (·.length)).sum = l.length := by
  induction l with
  | nil => rfl
  | cons a r ih =>
    simp only [List.map_cons, List.sum_cons, List.length_cons, len_mkS] at ih ⊢
    rw [ih]; simp; omega
/-- a text again and again, cut -/
theorem rep_cut {l : List Nat} (n : Nat) (h : 0 < l.length) : ((List.replicate n l).flatten.take n).length = n := by
  rw [List.length_take, List.length_flatten, List.map_replicate, List.sum_replicate_nat]
  have : n ≤ n * l.length := Nat.le_mul_of_pos_right _ h
  omega
theorem rep_pr {l : List Nat} (n : Nat) (h : Pr l) : Pr ((List.replicate n l).flatten) := fun c hc => by
  rw [List.mem_flatten] at hc
  obtain ⟨z, hz, hc⟩ := hc
  rw [List.mem_replicate] at hz
  exact h c (hz.2 ▸ hc)
theorem find_dg (c : Nat) : Txt.find (mkS [48, 49, 50, 51, 52, 53, 54, 55, 56, 57]) (mkS [c]) = if isDig c then (c : Int) - 48 else -1 := by
  have all : ∀ r : Fin 10, Txt.find (mkS [48, 49, 50, 51, 52, 53, 54, 55, 56, 57]) (mkS [48 + r.val]) = (r.val : Int) := by decide +kernel
  by_cases h : isDig c = true
  · rw [if_pos h]
    unfold isDig at h
    rw [Bool.and_eq_true, decide_eq_true_eq, decide_eq_true_eq] at h
    have := all ⟨c - 48, by omega⟩
    rw [show 48 + (⟨c - 48, by omega⟩ : Fin 10).val = c by simp; omega] at this
    rw [this]
    simp; omega
  · rw [if_neg h]
    have hf := StrLaws.found_one (mkS [48, 49, 50, 51, 52, 53, 54, 55, 56, 57]) c
    have hn : c ∉ (mkS [48, 49, 50, 51, 52, 53, 54, 55, 56, 57]).cps.toList := by
      intro q
      refine h ?_
      show isDig c = true
      have q : c ∈ [48, 49, 50, 51, 52, 53, 54, 55, 56, 57] := q
      simp only [List.mem_cons, List.not_mem_nil, or_false] at q
      unfold isDig
      rw [Bool.and_eq_true, decide_eq_true_eq, decide_eq_true_eq]
      omega
    rw [decide_eq_false hn] at hf
    unfold Txt.find
    show (match Builtin.Str.occurrences (mkS [48, 49, 50, 51, 52, 53, 54, 55, 56, 57]) ⟨#[c]⟩ 0 (mkS [48, 49, 50, 51, 52, 53, 54, 55, 56, 57]).length 1 with | i :: _ => (i : Int) | [] => -1) = -1
    cases q : Builtin.Str.occurrences (mkS [48, 49, 50, 51, 52, 53, 54, 55, 56, 57]) ⟨#[c]⟩ 0 (mkS [48, 49, 50, 51, 52, 53, 54, 55, 56, 57]).length 1 with
    | nil => rfl
    | cons i r => rw [q] at hf; cases hf
theorem so_dg : Str.ofString "0123456789" = mkS [48, 49, 50, 51, 52, 53, 54, 55, 56, 57] := by decide +kernel
theorem at_dg (r : Nat) (h : r < 10) : atI (mkS [48, 49, 50, 51, 52, 53, 54, 55, 56, 57]).cps.toList (r : Int) = some (48 + r) := by
  have : ∀ r : Fin 10, atI (mkS [48, 49, 50, 51, 52, 53, 54, 55, 56, 57]).cps.toList ((r : Nat) : Int) = some (48 + r.val) := by decide +kernel
  exact this ⟨r, h⟩
theorem digs_cons : ∀ (j x : Nat), digs (j + 1) x = (48 + x / 10 ^ j % 10) :: digs j x
  | 0, x => by simp [digs]
  | j + 1, x => by
    rw [digs, digs_cons j (x / 10), digs, Nat.div_div_eq_div_mul, Nat.pow_succ', List.cons_append]
theorem cut_len (s : Str) (lo hi : Option Int) : (cutS s lo hi).length ≤ s.length := by
  unfold cutS
  show (List.toArray _).size ≤ _
  rw [List.size_toArray, List.length_take, List.length_drop]
  have := len_tl' s
  have e : s.cps.toList.length = s.length := this.symm
  omega
theorem ix_all {L : List D} {r : Int} {P : D → Prop} (h0 : 0 ≤ r) (h1 : r < L.length) (h : ∀ z ∈ L, P z) : ∃ z, atI L r = some z ∧ P z := by
  obtain ⟨z, hz, e⟩ := at_lst L r h0 h1
  exact ⟨z, e, h z hz⟩
theorem digs_val : ∀ (k n : Nat), n < 10 ^ k → NumText.digitsVal (digs k n) = n
  | 0, n, h => by simp [digs, NumText.digitsVal]; simp at h; exact h.symm
  | k + 1, n, h => by
    have ih := digs_val k (n / 10) (by rw [Nat.div_lt_iff_lt_mul (by decide)]; rw [Nat.pow_succ] at h; exact h)
    unfold NumText.digitsVal at ih ⊢
    rw [digs, List.foldl_append, ih]
    simp; omega
theorem digs_dig : ∀ (k n : Nat), (digs k n).all isDig = true
  | 0, n => rfl
  | k + 1, n => by
    rw [digs, List.all_append, digs_dig k]
    simp [isDig]; omega
theorem numIn_digs {l x y : List Nat} {n a : Nat} (h : l = x ++ (digs 6 n ++ y)) (ha : x.length = a) (hn : n < 1000000) : numIn l a 6 = (n : Int) := by
  subst h ha
  unfold numIn
  rw [List.drop_left, List.take_left' (digs_len 6 n), digs_len, digs_dig, digs_val 6 n (by omega), if_neg (by simp)]
/-- the bound of a script's numbers -/
@[irreducible] def bigB : Nat := 2 ^ 1048576
theorem big_log {n : Nat} (h : n < bigB) : n.log2 < 1048576 := by
  unfold bigB at h
  exact log2_small h (by decide)
theorem bits_big {z : Int} (h : Builtin.Int.intBits z ≤ 1048576) : z.natAbs < bigB := by
  unfold bigB
  by_cases h0 : z = 0
  · subst h0; exact Nat.two_pow_pos _
  · unfold Builtin.Int.intBits at h
    rw [if_neg (by simpa using h0)] at h
    exact (Nat.log2_lt (by omega)).mp (by omega)
theorem mulX_big {i j : Int} (b : Nat) (hi : i.natAbs < bigB) (hj : j.natAbs < 2 ^ b) (hb : 0 < b) (h : b ≤ 50000000) : CMulX i j := by
  unfold CMulX
  have := big_log hi
  have := log2_small hj hb
  omega
/-- eqD with the empty list -/
theorem eqD_nil (ds : List D) : eqD (.lst ds) (.lst []) = ds.isEmpty := by
  unfold eqD
  cases ds <;> simp [D.py, pys, PyData.eqv, PyData.eqvAll]
theorem dNe_nil {ds : List D} {Q : D → Prop} (g : goods 63 ds = true) (h : Q (.bl (!ds.isEmpty))) : dNe (.lst ds) (.lst []) Q := by
  have key : dNeN (.lst ds) (.lst []) Q := ⟨by simpa [D.good] using g, by simp [D.good, goods], by rw [eqD_nil]; exact h⟩
  unfold dNe
  exact key
theorem goods_strs {l : List Nat} (h : Pr l) : goods 63 (l.map fun c => D.str (mkS [c])) = true := by
  induction l with
  | nil => rfl
  | cons a r ih =>
    have ha := h a (List.mem_cons_self ..)
    simp only [List.map_cons, goods, D.good, Bool.and_eq_true]
    refine ⟨?_, ih fun c hc => h c (List.mem_cons_of_mem _ hc)⟩
    unfold PyData.strOk mkS
    simp; omega
theorem inS_one (c : Nat) (s : Str) : inS (mkS [c]) s = decide (c ∈ tl s) := StrLaws.found_one s c
theorem pr_lower {l : List Nat} (h : Pr l) : ∃ l', Txt.lower (mkS l) = mkS l' ∧ Pr l' ∧ l'.length = l.length := by
  refine ⟨l.map PyProof.Rows.lo1, ?_, fun c hc => ?_, by simp⟩
  · rw [PyProof.Rows.lower_ascii (fun c hc => by have := h c hc; omega)]
    refine str_eq ?_
    show (Array.map _ _).toList = _
    rw [Array.toList_map]; rfl
  · rw [List.mem_map] at hc
    obtain ⟨d, hd, rfl⟩ := hc
    have := h d hd
    unfold PyProof.Rows.lo1
    split <;> omega
theorem numL_ge (n : Nat) : ∀ c ∈ numL n, 48 ≤ c := by
  induction n using Nat.strongRecOn with
  | _ n ih =>
    by_cases h : n < 10
    · rw [numL_lt h]; intro c hc; simp at hc; omega
    · rw [numL_step (by omega : 10 ≤ n)]
      intro c hc
      rcases List.mem_append.mp hc with hc | hc
      · exact ih (n / 10) (by omega) c hc
      · simp at hc; omega
theorem zfill_tl (n k : Nat) (hk : 0 < k) (h : n < 10 ^ k) : Txt.zfill (toString ((n : Nat) : Int) : String) (k : Int) = mkS (digs k n) := by
  rw [← rjust_tl n k hk h]
  unfold Txt.zfill Txt.rjustF
  split
  · rfl
  · unfold zfilled
    split
    · rename_i hc
      have : 43 ∈ numL n := by
        rw [← tl_num n]
        exact Array.mem_toList_iff.mpr (Array.mem_of_getElem? hc)
      have := numL_ge n _ this
      omega
    · rename_i hc
      have : 45 ∈ numL n := by
        rw [← tl_num n]
        exact Array.mem_toList_iff.mpr (Array.mem_of_getElem? hc)
      have := numL_ge n _ this
      omega
    · rw [Int.toNat_natCast]
theorem big_pos : 0 < bigB := by unfold bigB; exact Nat.two_pow_pos _
theorem mod61 (X : Int) : (X % 2305843009213693951).natAbs < 2 ^ 61 := by omega
theorem mod61d (X d : Int) (hd : 0 < d) : (X % 2305843009213693951 / d).natAbs < 2 ^ 61 := by
  have h0 : 0 ≤ X % 2305843009213693951 := by omega
  have h1 := Int.ediv_le_self d h0
  have h2 := Int.ediv_nonneg h0 (by omega : 0 ≤ d)
  omega
theorem dLc_mapF {α : Type} {fi : TID} {fe : TD} {i : Nat} {ρ : G.Env} {W : Wd} {Q : KL} {Qx : KX} (xs : List α) (f g : α → D) (hno : noOwn ρ [i]) (hl : xs.length ≤ sizeLine) (hi : ∀ P : KL, P (xs.map f) ρ W → fi ρ W P Qx)
    (he : ∀ x ∈ xs, ∀ P : KD, P (g x) ((ρ.set i none).set i (some (.sh (f x)))) W → fe ((ρ.set i none).set i (some (.sh (f x)))) W P noX) (hq : Q (xs.map g) ρ W) : dLc fi (gdName i) dYes fe [i] ρ W Q Qx := by
  refine dLc_inv (xs.map f) W (fun j acc W' => W' = W ∧ acc = (xs.take j).map g) hno (by rw [List.length_map]; exact hl) hi ⟨rfl, by simp⟩ (fun j d acc W' hj _ hI => ?_) (fun acc W' _ hI => ?_)
  · obtain ⟨rfl, rfl⟩ := hI
    rw [List.getElem?_map] at hj
    cases hx : xs[j]? with
    | none => rw [hx] at hj; cases hj
    | some x =>
      rw [hx] at hj; cases hj
      refine ⟨rfl, ?_⟩
      show fe _ W' _ noX
      refine he x (List.mem_of_getElem? hx) _ ⟨rfl, rfl, ?_⟩
      rw [List.take_add_one, hx]
      simp
  · obtain ⟨rfl, rfl⟩ := hI
    rw [List.length_map, List.take_length]
    exact hq
/-- .. the items pairs -/
theorem dLc_map2 {α : Type} {fi : TID} {fe : TD} {i j : Nat} {ρ : G.Env} {W : Wd} {Q : KL} {Qx : KX} (xs : List α) (f1 f2 g : α → D) (hno : noOwn ρ [i, j]) (hl : xs.length ≤ sizeLine) (hi : ∀ P : KL, P (xs.map fun x => .tup [f1 x, f2 x]) ρ W → fi ρ W P Qx)
    (he : ∀ x ∈ xs, ∀ P : KD, P (g x) ((((ρ.set j none).set i none).set i (some (.sh (f1 x)))).set j (some (.sh (f2 x)))) W → fe ((((ρ.set j none).set i none).set i (some (.sh (f1 x)))).set j (some (.sh (f2 x)))) W P noX) (hq : Q (xs.map g) ρ W) :
    dLc fi (gdTup 2 (gdCons (gdName i) (gdCons (gdName j) gdNil))) dYes fe [i, j] ρ W Q Qx := by
  refine dLc_inv (xs.map fun x => .tup [f1 x, f2 x]) W (fun j acc W' => W' = W ∧ acc = (xs.take j).map g) hno (by rw [List.length_map]; exact hl) hi ⟨rfl, by simp⟩ (fun n d acc W' hj _ hI => ?_) (fun acc W' _ hI => ?_)
  · obtain ⟨rfl, rfl⟩ := hI
    rw [List.getElem?_map] at hj
    cases hx : xs[n]? with
    | none => rw [hx] at hj; cases hj
    | some x =>
      rw [hx] at hj; cases hj
      refine ⟨rfl, rfl, ?_⟩
      show fe _ W' _ noX
      refine he x (List.mem_of_getElem? hx) _ ⟨rfl, rfl, ?_⟩
      rw [List.take_add_one, hx]
      simp
  · obtain ⟨rfl, rfl⟩ := hI
    rw [List.length_map, List.take_length]
    exact hq
theorem sum_le {l : List Nat} {B : Nat} (h : ∀ x ∈ l, x ≤ B) : l.sum ≤ l.length * B := by
  induction l with
  | nil => simp
  | cons a r ih =>
    have h1 := h a (List.mem_cons_self ..)
    have h2 := ih fun x hx => h x (List.mem_cons_of_mem _ hx)
    rw [List.sum_cons, List.length_cons, Nat.add_mul]
    omega
theorem flat_len {ys : List (List Nat)} {n B : Nat} (hn : ys.length ≤ n) (hB : ∀ y ∈ ys, y.length ≤ B) : ys.flatten.length ≤ n * B := by
  rw [List.length_flatten]
  have := sum_le (l := ys.map List.length) (B := B) (fun x hx => by
    rw [List.mem_map] at hx
    obtain ⟨y, hy, rfl⟩ := hx
    exact hB y hy)
  rw [List.length_map] at this
  exact Nat.le_trans this (Nat.mul_le_mul_right _ hn)
theorem dJoin_mkS {ys : List (List Nat)} {n B : Nat} {Q : D → Prop} (hn : ys.length ≤ n) (hB : ∀ y ∈ ys, y.length ≤ B) (hs : n * B ≤ 16777216) (h : Q (.str (mkS ys.flatten))) : dJoin (.str (mkS [])) [.lst (ys.map fun x => .str (mkS x))] Q := by
  refine ⟨ys.map mkS, ?_, ?_, ?_⟩
  · have := strsOf_map (ys.map mkS)
    rw [List.map_map] at this
    exact this
  · have e : (ys.map mkS).map (·.length) = ys.map List.length := by
      rw [List.map_map]
      exact List.map_congr_left fun y _ => len_mkS y
    have := flat_len hn hB
    rw [List.length_flatten] at this
    rw [e, len_mkS, List.length_nil, Nat.mul_zero]
    omega
  · rw [join_mkS]; exact h
theorem str_small {n : Nat} (h : n < 10) : (Str.ofString (toString ((n : Nat) : Int))) = mkS (digs 1 n) := by
  refine str_eq ?_
  rw [tl_num, numL_lt h, digs, digs]
  simp [Nat.mod_eq_of_lt h]
theorem join_parts {ys : List (List Nat)} {n B : Nat} (hn : ys.length ≤ n) (hB : ∀ y ∈ ys, y.length ≤ B) (hs : n * B ≤ 16777216) : strsOf (ys.map fun x => .str (mkS x)) = some (ys.map mkS) ∧ ((ys.map mkS).map (·.length)).sum + (ys.map mkS).length * (mkS []).length ≤ 16777216 := by
  refine ⟨?_, ?_⟩
  · have := strsOf_map (ys.map mkS)
    rw [List.map_map] at this
    exact this
  · have e : (ys.map mkS).map (·.length) = ys.map List.length := by
      rw [List.map_map]
      exact List.map_congr_left fun y _ => len_mkS y
    have := flat_len hn hB
    rw [List.length_flatten] at this
    rw [e, len_mkS, List.length_nil, Nat.mul_zero]
    omega
theorem dLc_filtF {α : Type} {fi : TID} {ft : TB} {fe : TD} {i : Nat} {ρ : G.Env} {W : Wd} {Q : KL} {Qx : KX} (xs : List α) (f g : α → D) (p : α → Bool) (hno : noOwn ρ [i]) (hl : xs.length ≤ sizeLine) (hi : ∀ P : KL, P (xs.map f) ρ W → fi ρ W P Qx)
    (ht : ∀ x ∈ xs, ∀ P : KB, P (p x) ((ρ.set i none).set i (some (.sh (f x)))) W → ft ((ρ.set i none).set i (some (.sh (f x)))) W P noX)
    (he : ∀ x ∈ xs, p x = true → ∀ P : KD, P (g x) ((ρ.set i none).set i (some (.sh (f x)))) W → fe ((ρ.set i none).set i (some (.sh (f x)))) W P noX) (hq : Q ((xs.filter p).map g) ρ W) : dLc fi (gdName i) ft fe [i] ρ W Q Qx := by
  refine dLc_inv (xs.map f) W (fun j acc W' => W' = W ∧ acc = ((xs.take j).filter p).map g) hno (by rw [List.length_map]; exact hl) hi ⟨rfl, by simp⟩ (fun j d acc W' hj _ hI => ?_) (fun acc W' _ hI => ?_)
  · obtain ⟨rfl, rfl⟩ := hI
    rw [List.getElem?_map] at hj
    cases hx : xs[j]? with
    | none => rw [hx] at hj; cases hj
    | some x =>
      rw [hx] at hj; cases hj
      refine ht x (List.mem_of_getElem? hx) _ ⟨rfl, ?_⟩
      cases hp : p x with
      | true =>
        rw [if_pos rfl]
        refine he x (List.mem_of_getElem? hx) hp _ ⟨rfl, rfl, ?_⟩
        rw [List.take_add_one, hx]
        simp [hp]
      | false =>
        rw [if_neg Bool.false_ne_true]
        refine ⟨rfl, ?_⟩
        rw [List.take_add_one, hx]
        simp [hp]
  · obtain ⟨rfl, rfl⟩ := hI
    rw [List.length_map, List.take_length]
    exact hq
theorem dNe_str {a b : Str} {Q : D → Prop} (h : Q (.bl (!decide (a = b)))) : dNe (.str a) (.str b) Q := by
  have : decide (V.str a = V.str b) = decide (a = b) := by
    rw [Bool.eq_iff_iff, decide_eq_true_eq, decide_eq_true_eq]
    exact ⟨fun h => by injection h, fun h => by rw [h]⟩
  unfold dNe
  show (if scal _ _ = true then _ else _)
  rw [if_pos (rfl : scal _ _ = true), this]
  exact h
theorem dNe_int {a b : Int} {Q : D → Prop} (h : Q (.bl (!decide (a = b)))) : dNe (.int a) (.int b) Q := by
  have : decide (V.int a = V.int b) = decide (a = b) := by
    rw [Bool.eq_iff_iff, decide_eq_true_eq, decide_eq_true_eq]
    exact ⟨fun h => by injection h, fun h => by rw [h]⟩
  unfold dNe
  show (if scal _ _ = true then _ else _)
  rw [if_pos (rfl : scal _ _ = true), this]
  exact h
theorem dNe_bl {a b : Bool} {Q : D → Prop} (h : Q (.bl (!decide (a = b)))) : dNe (.bl a) (.bl b) Q := by
  have : decide (V.bl a = V.bl b) = decide (a = b) := by
    rw [Bool.eq_iff_iff, decide_eq_true_eq, decide_eq_true_eq]
    exact ⟨fun h => by injection h, fun h => by rw [h]⟩
  unfold dNe
  show (if scal _ _ = true then _ else _)
  rw [if_pos (rfl : scal _ _ = true), this]
  exact h
theorem dEq_bl {a b : Bool} {Q : D → Prop} (h : Q (.bl (decide (a = b)))) : dEq (.bl a) (.bl b) Q := by
  have : decide (V.bl a = V.bl b) = decide (a = b) := by
    rw [Bool.eq_iff_iff, decide_eq_true_eq, decide_eq_true_eq]
    exact ⟨fun h => by injection h, fun h => by rw [h]⟩
  unfold dEq
  show (if scal _ _ = true then _ else _)
  rw [if_pos (rfl : scal _ _ = true), this]
  exact h
/-- the items known by B alone: a comprehension over each such list -/
theorem dLc_of {fi : TID} {gd : TGD} {ft : TB} {fe : TD} {vs : List Nat} {ρ : G.Env} {W : Wd} {Q : KL} {Qx : KX} (B : List D → Prop) (hno : noOwn ρ vs) (hi : ∀ P : KL, (∀ ds, B ds → P ds ρ W) → fi ρ W P Qx)
    (h : ∀ ds, B ds → dLc (fun ρ W P _ => P ds ρ W) gd ft fe vs ρ W Q Qx) : dLc fi gd ft fe vs ρ W Q Qx := by
  unfold dLc
  refine ⟨hno, hi _ fun ds b => ?_⟩
  have := h ds b
  unfold dLc at this
  exact this.2
end C

/-! the plain law of conditions: values, names, conditions, truths -/
namespace Q
open PySem PySem.Spec L2 G TL C
theorem hno {A B : Prop} (q : B) : (if (!true) = true then A else B) := by rw [if_neg (by decide)]; exact q
/-- any plain data of some depth and weight -/
abbrev NV (d : D) : Prop := Nice 50 1000000 d
/-- .. or an empty dict -/
def AnyD (d : D) : Prop := NV d ∨ d = .dct [] []
theorem nv_cases {n B : Nat} {d : D} (h : Nice n B d) : d = .non ∨ (∃ b, d = .bl b) ∨ (∃ i, d = .int i) ∨ (∃ s, d = .str s) ∨ (∃ ds, d = .tup ds) ∨ ∃ ds, d = .lst ds := by
  have g := h.good
  have k := h.ok
  cases d with
  | v x =>
    cases x with
    | non => exact .inl rfl
    | bl b => exact .inr (.inl ⟨b, rfl⟩)
    | int b => exact .inr (.inr (.inl ⟨b, rfl⟩))
    | str b => exact .inr (.inr (.inr (.inl ⟨b, rfl⟩)))
    | _ => cases n <;> simp [D.good] at g
  | tup ds => exact .inr (.inr (.inr (.inr (.inl ⟨ds, rfl⟩))))
  | lst ds => exact .inr (.inr (.inr (.inr (.inr ⟨ds, rfl⟩))))
  | scr ns => simp [iOk] at k
  | _ => cases n <;> simp [D.good] at g
theorem any_cases {d : D} (h : AnyD d) : d = .non ∨ (∃ b, d = .bl b) ∨ (∃ i, d = .int i) ∨ (∃ s, d = .str s ∧ s.length ≤ 1000000) ∨ (∃ ds, d = .tup ds) ∨ (∃ ds, d = .lst ds) ∨ d = .dct [] [] := by
  rcases h with h | rfl
  · rcases nv_cases h with h' | h' | h' | ⟨s, rfl⟩ | h' | h'
    · exact .inl h'
    · exact .inr (.inl h')
    · exact .inr (.inr (.inl h'))
    · exact .inr (.inr (.inr (.inl ⟨s, rfl, h.slen⟩)))
    · exact .inr (.inr (.inr (.inr (.inl h'))))
    · exact .inr (.inr (.inr (.inr (.inr (.inl h')))))
  · exact .inr (.inr (.inr (.inr (.inr (.inr rfl)))))
def isIntD : D → Bool
  | .v (.int _) => true
  | _ => false
def isBlD : D → Bool
  | .v (.bl _) => true
  | _ => false
def isStrD : D → Bool
  | .v (.str _) => true
  | _ => false
def isTupD : D → Bool
  | .tup _ => true
  | _ => false
def isLstD : D → Bool
  | .lst _ => true
  | _ => false
def textB (l : List Nat) : Bool := l.all fun c => decide (32 ≤ c) && decide (c ≤ 126)
def isTextD : D → Bool
  | .v (.str s) => textB (tl s)
  | _ => false
def isVal : D → Bool
  | .v .non => true
  | .v (.bl _) => true
  | .v (.int i) => decide (i.natAbs ≤ 999999999999999999999999999999)
  | .v (.str s) => textB (tl s) && decide (s.length ≤ 200)
  | _ => false
def letters : List Nat := [97, 98, 99, 100, 101, 102, 103, 104, 105, 106, 107, 108, 109, 110, 111, 112, 113, 114, 115, 116, 117, 118, 119, 120, 121, 122]
theorem so_letters : Str.ofString "abcdefghijklmnopqrstuvwxyz" = mkS letters := by decide +kernel
def nameB (l : List Nat) : Bool := decide (1 ≤ l.length) && decide (l.length ≤ 8) && l.all fun c => decide (c ∈ letters)
def isNameD : D → Bool
  | .v (.str s) => nameB (tl s)
  | _ => false
def strOf : D → Str
  | .v (.str s) => s
  | _ => mkS []
def areNamesD : D → Bool
  | .tup ds => ds.all isNameD && decide (ds.map strOf).Nodup
  | _ => false
def colsOf : D → List Str
  | .tup ds => ds.map strOf
  | _ => []
def inCols (cols : List Str) : D → Bool
  | .v (.str s) => decide (s ∈ cols)
  | _ => false
def wAnd : Str := Str.ofString "and"
def wOr : Str := Str.ofString "or"
def wNot : Str := Str.ofString "not"
def wNone : Str := Str.ofString "none"
def wIs : Str := Str.ofString "is"
def wLess : Str := Str.ofString "less"
def wMost : Str := Str.ofString "most"
def leafB (cols : List Str) (a b : D) (r : List D) : Bool :=
  inCols cols b && (if D.isV a (.str wNone) then r.isEmpty else (D.isV a (.str wIs) || D.isV a (.str wLess) || D.isV a (.str wMost)) && match r with | [c] => isVal c | _ => false)
/-- a condition over columns, nested at most so deep -/
def isCond (cols : List Str) : Nat → D → Bool
  | 0, _ => false
  | n + 1, d => match d with
    | .tup (a :: b :: r) =>
      if D.isV a (.str wAnd) || D.isV a (.str wOr) then (match r with | [c] => isCond cols n b && isCond cols n c | _ => false)
      else if D.isV a (.str wNot) then r.isEmpty && isCond cols n b
      else leafB cols a b r
    | _ => false
inductive Cd
  | non (j : Nat)
  | cmp (w : Nat) (j : Nat) (v : D)
  | neg (c : Cd)
  | two (o : Bool) (c e : Cd)
def wd : Nat → Str
  | 0 => wIs
  | 1 => wLess
  | _ => wMost
def cdD (cols : List Str) : Cd → D
  | .non j => .tup [.str wNone, .str (cols.getD j (mkS []))]
  | .cmp w j v => .tup [.str (wd w), .str (cols.getD j (mkS [])), v]
  | .neg c => .tup [.str wNot, cdD cols c]
  | .two o c e => .tup [.str (if o then wOr else wAnd), cdD cols c, cdD cols e]
def CdOk (k : Nat) : Nat → Cd → Prop
  | _, .non j => j < k
  | _, .cmp w j v => w ≤ 2 ∧ j < k ∧ isVal v = true
  | n + 1, .neg c => CdOk k n c
  | n + 1, .two _ c e => CdOk k n c ∧ CdOk k n e
  | 0, .neg _ => False
  | 0, .two _ _ _ => False
def kindOf : D → String
  | .v .non => "none"
  | .v (.bl _) => "truth"
  | .v (.int _) => "int"
  | _ => "text"
def ltV : D → D → Bool
  | .v (.bl a), .v (.bl b) => !a && b
  | .v (.int a), .v (.int b) => decide (a < b)
  | .v (.str a), .v (.str b) => ltS a b
  | _, _ => false
def eqV' : D → D → Bool
  | .v x, .v y => decide (x = y)
  | _, _ => false
def cmpB : Nat → D → D → Bool
  | 0, x, v => eqV' x v
  | 1, x, v => ltV x v
  | _, x, v => ltV x v || eqV' x v
/-- true, false, unknown -/
def ev (row : List D) : Cd → Option Bool
  | .non j => some (D.isV (row.getD j .non) .non)
  | .cmp w j v => if D.isV (row.getD j .non) .non || decide (kindOf (row.getD j .non) ≠ kindOf v) then none else some (cmpB w (row.getD j .non) v)
  | .neg c => (ev row c).map not
  | .two o c e => if ev row c = some o ∨ ev row e = some o then some o else if ev row c = none ∨ ev row e = none then none else some (!o)
def tri : Option Bool → D
  | none => .non
  | some b => .bl b
/-! ### what is eaten by == and in -/
theorem good62 {d : D} (h : NV d) : D.good 62 d = true := good_up (by decide) h.good
theorem eqD_str {d : D} (h : NV d) (s : Str) : eqD (.str s) d = D.isV d (.str s) := by
  rcases nv_cases h with rfl | ⟨_, rfl⟩ | ⟨_, rfl⟩ | ⟨t, rfl⟩ | ⟨xs, rfl⟩ | ⟨xs, rfl⟩
  · simp [eqD, D.py, PyData.eqv, D.isV]
  · simp [eqD, D.py, PyData.eqv, D.isV]
  · simp [eqD, D.py, PyData.eqv, D.isV]
  · simp only [eqD, D.py, PyData.eqv, D.isV]
    rw [Bool.eq_iff_iff, decide_eq_true_eq, beq_iff_eq]
    constructor
    · intro h; rw [h]
    · intro h; cases h; rfl
  · simp [eqD, D.py, PyData.eqv, D.isV]
  · simp [eqD, D.py, PyData.eqv, D.isV]
theorem good_str {s : Str} (hs : PyData.strOk s = true) (n : Nat) : D.good n (.str s) = true := by rw [D.good]; exact hs
theorem in_strs {d : D} (h : NV d) {ss : List Str} (hs : ∀ s ∈ ss, PyData.strOk s = true) {neg : Bool} {P : D → Prop} (q : P (.bl (if neg then !ss.any fun s => D.isV d (.str s) else ss.any fun s => D.isV d (.str s)))) : dInB neg d (.tup (ss.map D.str)) P := by
  refine .inr ⟨ss.map D.str, .inr rfl, good62 h, ?_, ?_⟩
  · rw [goods_all, List.all_eq_true]
    intro x hx
    rw [List.mem_map] at hx
    obtain ⟨s, m, rfl⟩ := hx
    exact good_str (hs s m) 62
  · have e : ((ss.map D.str).any fun z => eqD z d) = ss.any fun s => D.isV d (.str s) := by
      rw [List.any_map]
      congr 1
      funext s
      exact eqD_str h s
    rw [e]; exact q
theorem eq_strV {s : Str} (hs : PyData.strOk s = true) {d : D} (h : NV d) {P : D → Prop} (q : P (.bl (D.isV d (.str s)))) : dEq d (.str s) P := by
  have gd := good_up (m := 64) (by decide) h.good
  have gs := good_str hs 64
  unfold dEq
  rcases nv_cases h with rfl | ⟨_, rfl⟩ | ⟨_, rfl⟩ | ⟨t, rfl⟩ | ⟨xs, rfl⟩ | ⟨xs, rfl⟩
  · exact q
  · exact q
  · exact q
  · exact q
  · exact ⟨gd, gs, by have : eqD (.tup xs) (.v (.str s)) = false := (by simp [eqD, D.py, PyData.eqv]); rw [this]; exact q⟩
  · exact ⟨gd, gs, by have : eqD (.lst xs) (.v (.str s)) = false := (by simp [eqD, D.py, PyData.eqv]); rw [this]; exact q⟩
theorem inCols_any {d : D} (cols : List Str) : (cols.any fun s => D.isV d (.str s)) = inCols cols d := by
  cases d with
  | v x =>
    cases x with
    | str t =>
      show _ = decide (t ∈ cols)
      rw [Bool.eq_iff_iff, List.any_eq_true, decide_eq_true_eq]
      constructor
      · rintro ⟨s, hs, e⟩
        have : t = s := by simpa [D.isV] using e
        rw [this]; exact hs
      · exact fun h => ⟨t, h, by simp [D.isV]⟩
    | _ => show _ = false; rw [List.any_eq_false]; intro s _; simp [D.isV]
  | _ => show _ = false; rw [List.any_eq_false]; intro s _; simp [D.isV]
theorem nv_item {ds : List D} {d : D} (h : NV (.tup ds)) (hd : d ∈ ds) : NV d := (h.untup.mem hd).up (by decide) (Nat.le_refl _)
theorem nv_litem {ds : List D} {d : D} (h : NV (.lst ds)) (hd : d ∈ ds) : NV d := (h.unlst.mem hd).up (by decide) (Nat.le_refl _)
theorem nv_len {ds : List D} (h : NV (.tup ds)) : ds.length ≤ 500000 := by have := h.untup.len; omega
theorem ok_and : PyData.strOk wAnd = true := by decide +kernel
theorem ok_or : PyData.strOk wOr = true := by decide +kernel
theorem ok_not : PyData.strOk wNot = true := by decide +kernel
theorem ok_none : PyData.strOk wNone = true := by decide +kernel
theorem ok_is : PyData.strOk wIs = true := by decide +kernel
theorem ok_less : PyData.strOk wLess = true := by decide +kernel
theorem ok_most : PyData.strOk wMost = true := by decide +kernel
/-! ### a condition is what cdD shows -/
theorem isV_str {d : D} {s : Str} (h : D.isV d (.str s) = true) : d = .str s := by
  unfold D.isV at h
  split at h
  · have := of_decide_eq_true h
    rw [this]
  · cases h
theorem cond_cd {cols : List Str} : ∀ (n : Nat) (d : D), isCond cols n d = true → ∃ c, d = cdD cols c ∧ CdOk cols.length n c
  | 0, d, h => by unfold isCond at h; cases h
  | n + 1, d, h => by
    unfold isCond at h
    split at h
    · rename_i a b r
      split at h
      · rename_i hw
        rw [Bool.or_eq_true] at hw
        split at h
        · rename_i c
          rw [Bool.and_eq_true] at h
          obtain ⟨x, rfl, hx⟩ := cond_cd n b h.1
          obtain ⟨y, rfl, hy⟩ := cond_cd n c h.2
          rcases hw with hw | hw
          · have := isV_str hw; subst this
            exact ⟨.two false x y, rfl, hx, hy⟩
          · have := isV_str hw; subst this
            exact ⟨.two true x y, rfl, hx, hy⟩
        · cases h
      split at h
      · rename_i hw
        have := isV_str hw; subst this
        rw [Bool.and_eq_true, List.isEmpty_iff] at h
        obtain ⟨rfl, h⟩ := h
        obtain ⟨x, rfl, hx⟩ := cond_cd n b h
        exact ⟨.neg x, rfl, hx⟩
      · unfold leafB at h
        rw [Bool.and_eq_true] at h
        obtain ⟨hb, h⟩ := h
        obtain ⟨s, rfl, hs⟩ : ∃ s, b = .str s ∧ s ∈ cols := by
          cases b with
          | v x =>
            cases x with
            | str s => exact ⟨s, rfl, of_decide_eq_true hb⟩
            | _ => exact absurd hb (by simp [inCols])
          | _ => exact absurd hb (by simp [inCols])
        obtain ⟨j, hj, rfl⟩ := List.getElem_of_mem hs
        have ej : cols.getD j (mkS []) = cols[j] := by rw [List.getD_eq_getElem?_getD, List.getElem?_eq_getElem hj]; rfl
        split at h
        · rename_i hw
          have := isV_str hw; subst this
          rw [List.isEmpty_iff] at h
          subst h
          exact ⟨.non j, by rw [cdD, ej], hj⟩
        · rw [Bool.and_eq_true, Bool.or_eq_true, Bool.or_eq_true] at h
          obtain ⟨hw, h⟩ := h
          split at h
          · rename_i v
            rcases hw with (hw | hw) | hw
            · have := isV_str hw; subst this
              exact ⟨.cmp 0 j v, by rw [cdD, ej]; rfl, by omega, hj, h⟩
            · have := isV_str hw; subst this
              exact ⟨.cmp 1 j v, by rw [cdD, ej]; rfl, by omega, hj, h⟩
            · have := isV_str hw; subst this
              exact ⟨.cmp 2 j v, by rw [cdD, ej]; rfl, by omega, hj, h⟩
          · cases h
    · cases h
theorem cd_up {k : Nat} : ∀ {n m : Nat} {c : Cd}, CdOk k n c → n ≤ m → CdOk k m c
  | _, _, .non j, h, _ => by unfold CdOk at h ⊢; exact h
  | _, _, .cmp w j v, h, _ => by unfold CdOk at h ⊢; exact h
  | n + 1, m + 1, .neg c, h, hm => by
    unfold CdOk at h ⊢
    exact cd_up h (by omega)
  | n + 1, m + 1, .two o c e, h, hm => by
    unfold CdOk at h ⊢
    exact ⟨cd_up h.1 (by omega), cd_up h.2 (by omega)⟩
  | 0, _, .neg c, h, _ => by unfold CdOk at h; exact h.elim
  | 0, _, .two o c e, h, _ => by unfold CdOk at h; exact h.elim
  | n + 1, 0, _, h, hm => by omega
end Q

namespace Q
open PySem PySem.Spec L2 G TL C
/-- a source with n draws left at least -/
def SrcOk (W : Wd) (p : Addr) (n : Nat) : Prop := ∃ a b c : Int, W p = some (.lst [.int a, .int b, .int c]) ∧ 0 ≤ a ∧ a.natAbs < bigB ∧ 0 ≤ b ∧ b < 2305843009213693951 ∧ 0 ≤ c ∧ c + n ≤ 1000000
theorem SrcOk.less {W : Wd} {p : Addr} {n m : Nat} (h : SrcOk W p n) (hm : m ≤ n) : SrcOk W p m := by
  obtain ⟨a, b, c, h1, h2, h3, h4, h5, h6, h7⟩ := h
  exact ⟨a, b, c, h1, h2, h3, h4, h5, h6, by omega⟩
def namesD (ls : List (List Nat)) : List D := ls.map fun l => D.str (mkS l)
structure NamesOk (m : Nat) (ls : List (List Nat)) : Prop where
  len : ls.length ≤ m
  nm : ∀ l ∈ ls, nameB l = true
  nd : ls.Nodup
theorem letters_pr : ∀ c ∈ letters, 32 ≤ c ∧ c ≤ 126 := by decide +kernel
theorem name_pr {l : List Nat} (h : nameB l = true) : Pr l := fun c hc => by
  unfold nameB at h
  rw [Bool.and_eq_true, List.all_eq_true] at h
  exact letters_pr c (of_decide_eq_true (h.2 c hc))
theorem name_len {l : List Nat} (h : nameB l = true) : 1 ≤ l.length ∧ l.length ≤ 8 := by
  unfold nameB at h
  rw [Bool.and_eq_true, Bool.and_eq_true] at h
  exact ⟨of_decide_eq_true h.1.1, of_decide_eq_true h.1.2⟩
theorem pr_ok {l : List Nat} (h : Pr l) : PyData.strOk (mkS l) = true := by
  unfold PyData.strOk mkS
  rw [Array.all_eq_true_iff_forall_mem]
  intro c hc
  have := h c (by simpa using hc)
  exact decide_eq_true (by omega)
theorem text_pr {l : List Nat} : textB l = true ↔ Pr l := by
  unfold textB Pr
  rw [List.all_eq_true]
  constructor
  · intro h c hc
    have := h c hc
    rw [Bool.and_eq_true, decide_eq_true_eq, decide_eq_true_eq] at this
    exact this
  · intro h c hc
    have := h c hc
    rw [Bool.and_eq_true, decide_eq_true_eq, decide_eq_true_eq]
    exact this
def kn : Nat → Str
  | 0 => Str.ofString "int"
  | 1 => Str.ofString "text"
  | _ => Str.ofString "truth"
def knS : Nat → String
  | 0 => "int"
  | 1 => "text"
  | _ => "truth"
structure Col where
  nm : List Nat
  kd : Nat
  free : Bool
def colD (c : Col) : D := .tup [.str (mkS c.nm), .str (kn c.kd), .bl c.free]
structure ColsOk (cs : List Col) : Prop where
  ne : cs ≠ []
  len : cs.length ≤ 8
  nm : ∀ c ∈ cs, nameB c.nm = true
  kd : ∀ c ∈ cs, c.kd ≤ 2
theorem val_nice (n : Nat) {d : D} (h : isVal d = true) : Nice n 2010 d := by
  unfold isVal at h
  split at h
  · exact Nice.non (by decide)
  · exact Nice.bl (by decide)
  · rename_i i
    have h1 := of_decide_eq_true h
    have h2 : (999999999999999999999999999999 : Nat) < 2 ^ 100 := by decide
    have h3 : i.natAbs.log2 < 100 := C.log2_small (k := 100) (Nat.lt_of_le_of_lt h1 h2) (by decide)
    exact Nice.int (by omega) (by omega)
  · rename_i s
    rw [Bool.and_eq_true] at h
    have h2 := of_decide_eq_true h.2
    have := pr_ok (text_pr.mp h.1)
    rw [mkS_tl] at this
    exact Nice.str this (by omega)
  · cases h
/-! ### parts of a value by their places -/
def atP : List Nat → D → Option D
  | [], d => some d
  | k :: q, d => match d with
    | .tup ds => (match ds[k]? with | some e => atP q e | none => none)
    | _ => none
def putP : List Nat → D → D → D
  | [], _, new => new
  | k :: q, d, new => match d with
    | .tup ds => .tup (ds.take k ++ [putP q (ds.getD k .non) new] ++ ds.drop (k + 1))
    | d => d
theorem at_tup {k : Nat} {q : List Nat} {d e : D} (h : atP (k :: q) d = some e) : ∃ ds x, d = .tup ds ∧ ds[k]? = some x ∧ atP q x = some e := by
  unfold atP at h
  split at h
  · rename_i ds
    split at h
    · rename_i x hx
      exact ⟨ds, x, rfl, hx, h⟩
    · cases h
  · cases h
theorem at_nice : ∀ {q : List Nat} {n B : Nat} {d e : D}, Nice n B d → atP q d = some e → Nice n B e
  | [], _, _, _, _, h, e => by cases e; exact h
  | k :: q, n, B, d, e, h, he => by
    obtain ⟨ds, x, rfl, hx, h2⟩ := at_tup he
    cases n with
    | zero => have := h.good; simp [D.good] at this
    | succ n => exact at_nice ((h.untup.mem (List.mem_of_getElem? hx)).up (Nat.le_succ n) (Nat.le_refl _)) h2
theorem wts_set {ds : List D} {k : Nat} {x : D} (h : ds[k]? = some x) : wts ds = wts (ds.take k) + (wt x + 2) + wts (ds.drop (k + 1)) := by
  have hk := (List.getElem?_eq_some_iff.mp h)
  obtain ⟨hk, e⟩ := hk
  have e2 : ds = ds.take k ++ (x :: ds.drop (k + 1)) := by
    rw [← e, List.getElem_cons_drop, List.take_append_drop]
  have := congrArg wts e2
  rw [wts_app, wts] at this
  omega
theorem put_nice : ∀ {q : List Nat} {n m C : Nat} {d e new : D}, Nice n (wt d) d → atP q d = some e → Nice m C new → Nice (n + m) (wt d + C) (putP q d new)
  | [], n, m, C, d, e, new, h, he, hn => hn.up (Nat.le_add_left ..) (Nat.le_add_left ..)
  | k :: q, n, m, C, d, e, new, h, he, hn => by
    obtain ⟨ds, x, rfl, hx, h2⟩ := at_tup he
    cases n with
    | zero => have := h.good; simp [D.good] at this
    | succ n =>
      have hL : NiceL n (wts ds) ds := by
        have := h.untup
        exact ⟨this.good, this.ok, Nat.le_refl _⟩
      have hxm := hL.mem (List.mem_of_getElem? hx)
      have hx1 : Nice n (wt x) x := ⟨hxm.good, hxm.ok, Nat.le_refl _⟩
      have ih := put_nice hx1 h2 hn
      have e0 : ds.getD k .non = x := by rw [List.getD_eq_getElem?_getD, hx]; rfl
      have e1 : putP (k :: q) (.tup ds) new = .tup (ds.take k ++ [putP q x new] ++ ds.drop (k + 1)) := by
        rw [putP, e0]
      rw [e1]
      have up : ∀ l : List D, l.Sublist ds → NiceL (n + m) (wts l) l := fun l s => by
        have a := hL.sub s
        exact ⟨goods_up (Nat.le_add_right ..) a.good, a.ok, Nat.le_refl _⟩
      have L := ((up _ (List.take_sublist k ds)).app (NiceL.cons ih (NiceL.nil (B := 0)))).app (up _ (List.drop_sublist (k + 1) ds))
      have := wts_set hx
      refine (Nice.tup L).up (by omega) ?_
      rw [G.wt]
      omega
/-- places of parts -/
structure PlOk (d : D) (qs : List (List Nat)) : Prop where
  ne : qs ≠ []
  ok : ∀ q ∈ qs, ∃ e, atP q d = some e
  le : qs.length ≤ wt d
def pathD (path : List D) (q : List Nat) : D := .tup (path ++ q.map fun k => D.int (k : Nat))
/-- what is no row, or one -/
def RowD (d : D) : Prop := AnyD d ∨ ∃ ds, d = .tup ds ∧ ds.length ≤ 20 ∧ ∀ x ∈ ds, AnyD x
def isRow : D → Bool
  | .tup ds => ds.all isVal
  | _ => false
def lenRow : D → Nat
  | .tup ds => ds.length
  | _ => 0
theorem any_nv {d : D} (h : NV d) : AnyD d := .inl h
theorem val_any {d : D} (h : isVal d = true) : AnyD d := .inl ((val_nice 50 h).up (Nat.le_refl _) (by decide))
section
variable {d : D} {P : D → Prop}
theorem ty_any (h : AnyD d) (c : String) (hc : c = "int" ∨ c = "bool" ∨ c = "str" ∨ c = "tuple" ∨ c = "list") : ∃ t b, tyD d = some t ∧ kitB t c = some b ∧ b = (match c with | "int" => isIntD d || isBlD d | "bool" => isBlD d | "str" => isStrD d | "tuple" => isTupD d | _ => isLstD d) := by
  rcases any_cases h with rfl | ⟨_, rfl⟩ | ⟨_, rfl⟩ | ⟨_, rfl, _⟩ | ⟨_, rfl⟩ | ⟨_, rfl⟩ | rfl <;> rcases hc with rfl | rfl | rfl | rfl | rfl <;> exact ⟨_, _, rfl, rfl, rfl⟩
theorem ty_str (h : AnyD d) : ∃ t, tyD d = some t ∧ kitB t "str" = some (isStrD d) := by
  rcases any_cases h with rfl | ⟨_, rfl⟩ | ⟨_, rfl⟩ | ⟨_, rfl, _⟩ | ⟨_, rfl⟩ | ⟨_, rfl⟩ | rfl <;> exact ⟨_, rfl, rfl⟩
theorem ty_tup (h : AnyD d) : ∃ t, tyD d = some t ∧ kitB t "tuple" = some (isTupD d) := by
  rcases any_cases h with rfl | ⟨_, rfl⟩ | ⟨_, rfl⟩ | ⟨_, rfl, _⟩ | ⟨_, rfl⟩ | ⟨_, rfl⟩ | rfl <;> exact ⟨_, rfl, rfl⟩
theorem ty_lst (h : AnyD d) : ∃ t, tyD d = some t ∧ kitB t "list" = some (isLstD d) := by
  rcases any_cases h with rfl | ⟨_, rfl⟩ | ⟨_, rfl⟩ | ⟨_, rfl, _⟩ | ⟨_, rfl⟩ | ⟨_, rfl⟩ | rfl <;> exact ⟨_, rfl, rfl⟩
theorem ty_bool (h : AnyD d) : ∃ t, tyD d = some t ∧ kitB t "bool" = some (isBlD d) := by
  rcases any_cases h with rfl | ⟨_, rfl⟩ | ⟨_, rfl⟩ | ⟨_, rfl, _⟩ | ⟨_, rfl⟩ | ⟨_, rfl⟩ | rfl <;> exact ⟨_, rfl, rfl⟩
theorem isi_int (h : AnyD d) (q : P (.bl (isIntD d || isBlD d))) : dIsi [d, .v (.ty "int")] P := by
  obtain ⟨t, b, h1, h2, h3⟩ := ty_any h "int" (.inl rfl); exact ⟨t, b, h1, h2, by rw [h3]; exact q⟩
theorem isi_bool (h : AnyD d) (q : P (.bl (isBlD d))) : dIsi [d, .v (.ty "bool")] P := by
  obtain ⟨t, b, h1, h2, h3⟩ := ty_any h "bool" (.inr (.inl rfl)); exact ⟨t, b, h1, h2, by rw [h3]; exact q⟩
theorem isi_str (h : AnyD d) (q : P (.bl (isStrD d))) : dIsi [d, .v (.ty "str")] P := by
  obtain ⟨t, b, h1, h2, h3⟩ := ty_any h "str" (.inr (.inr (.inl rfl))); exact ⟨t, b, h1, h2, by rw [h3]; exact q⟩
theorem isi_tup (h : AnyD d) (q : P (.bl (isTupD d))) : dIsi [d, .v (.ty "tuple")] P := by
  obtain ⟨t, b, h1, h2, h3⟩ := ty_any h "tuple" (.inr (.inr (.inr (.inl rfl)))); exact ⟨t, b, h1, h2, by rw [h3]; exact q⟩
theorem isi_lst (h : AnyD d) (q : P (.bl (isLstD d))) : dIsi [d, .v (.ty "list")] P := by
  obtain ⟨t, b, h1, h2, h3⟩ := ty_any h "list" (.inr (.inr (.inr (.inr rfl)))); exact ⟨t, b, h1, h2, by rw [h3]; exact q⟩
end
end Q

namespace K23
open PySem PySem.Spec L2 G TL C Q
def top (i : Nat) : Stmt := PySem.Challenge.pw_heldlevels_k23_whole_truths_of_condition.main.body.getD i (.Pass ⟨0, 0, 0, 0⟩)
abbrev s_is_integer : Stmt := top 7
abbrev n_is_integer : List Str := ["value"]
theorem sc_is_integer : FnScope n_is_integer ["value"] (defScope s_is_integer) := ⟨rfl, rfl, rfl, by decide +kernel, rfl, by decide +kernel, by decide +kernel⟩

abbrev s_is_text : Stmt := top 8
abbrev n_is_text : List Str := ["value", "sign"]
theorem sc_is_text : FnScope n_is_text ["value"] (defScope s_is_text) := ⟨rfl, rfl, rfl, by decide +kernel, rfl, by decide +kernel, by decide +kernel⟩

abbrev s_is_value : Stmt := top 12
abbrev n_is_value : List Str := ["value"]
theorem sc_is_value : FnScope n_is_value ["value"] (defScope s_is_value) := ⟨rfl, rfl, rfl, by decide +kernel, rfl, by decide +kernel, by decide +kernel⟩

abbrev s_is_name : Stmt := top 19
abbrev n_is_name : List Str := ["value", "sign"]
theorem sc_is_name : FnScope n_is_name ["value"] (defScope s_is_name) := ⟨rfl, rfl, rfl, by decide +kernel, rfl, by decide +kernel, by decide +kernel⟩

abbrev s_are_names : Stmt := top 20
abbrev n_are_names : List Str := ["value", "name"]
theorem sc_are_names : FnScope n_are_names ["value"] (defScope s_are_names) := ⟨rfl, rfl, rfl, by decide +kernel, rfl, by decide +kernel, by decide +kernel⟩

abbrev s_is_leaf : Stmt := top 21
abbrev n_is_leaf : List Str := ["columns", "value"]
theorem sc_is_leaf : FnScope n_is_leaf ["columns", "value"] (defScope s_is_leaf) := ⟨rfl, rfl, rfl, by decide +kernel, rfl, by decide +kernel, by decide +kernel⟩

abbrev s_is_condition_to : Stmt := top 22
abbrev n_is_condition_to : List Str := ["columns", "value", "left", "part"]
theorem sc_is_condition_to : FnScope n_is_condition_to ["columns", "value", "left"] (defScope s_is_condition_to) := ⟨rfl, rfl, rfl, by decide +kernel, rfl, by decide +kernel, by decide +kernel⟩

abbrev s_is_condition : Stmt := top 23
abbrev n_is_condition : List Str := ["columns", "value"]
theorem sc_is_condition : FnScope n_is_condition ["columns", "value"] (defScope s_is_condition) := ⟨rfl, rfl, rfl, by decide +kernel, rfl, by decide +kernel, by decide +kernel⟩

abbrev s_check_condition : Stmt := top 24
abbrev n_check_condition : List Str := ["columns", "condition"]
theorem sc_check_condition : FnScope n_check_condition ["columns", "condition"] (defScope s_check_condition) := ⟨rfl, rfl, rfl, by decide +kernel, rfl, by decide +kernel, by decide +kernel⟩

abbrev s_is_row : Stmt := top 25
abbrev n_is_row : List Str := ["value", "one"]
theorem sc_is_row : FnScope n_is_row ["value"] (defScope s_is_row) := ⟨rfl, rfl, rfl, by decide +kernel, rfl, by decide +kernel, by decide +kernel⟩

abbrev s_kind_of : Stmt := top 26
abbrev n_kind_of : List Str := ["value"]
theorem sc_kind_of : FnScope n_kind_of ["value"] (defScope s_kind_of) := ⟨rfl, rfl, rfl, by decide +kernel, rfl, by decide +kernel, by decide +kernel⟩

abbrev s_compared : Stmt := top 27
abbrev n_compared : List Str := ["word", "value", "told"]
theorem sc_compared : FnScope n_compared ["word", "value", "told"] (defScope s_compared) := ⟨rfl, rfl, rfl, by decide +kernel, rfl, by decide +kernel, by decide +kernel⟩

abbrev s_joined : Stmt := top 28
abbrev n_joined : List Str := ["word", "one", "other", "ruling"]
theorem sc_joined : FnScope n_joined ["word", "one", "other"] (defScope s_joined) := ⟨rfl, rfl, rfl, by decide +kernel, rfl, by decide +kernel, by decide +kernel⟩

abbrev s_truth : Stmt := top 29
abbrev n_truth : List Str := ["columns", "condition", "row", "word", "inner", "value"]
theorem sc_truth : FnScope n_truth ["columns", "condition", "row"] (defScope s_truth) := ⟨rfl, rfl, rfl, by decide +kernel, rfl, by decide +kernel, by decide +kernel⟩

abbrev s_truth_of : Stmt := top 30
abbrev n_truth_of : List Str := ["columns", "condition", "row"]
theorem sc_truth_of : FnScope n_truth_of ["columns", "condition", "row"] (defScope s_truth_of) := ⟨rfl, rfl, rfl, by decide +kernel, rfl, by decide +kernel, by decide +kernel⟩

abbrev s_meets : Stmt := top 31
abbrev n_meets : List Str := ["columns", "condition", "row"]
theorem sc_meets : FnScope n_meets ["columns", "condition", "row"] (defScope s_meets) := ⟨rfl, rfl, rfl, by decide +kernel, rfl, by decide +kernel, by decide +kernel⟩

abbrev s_law_source : Stmt := top 33
abbrev n_law_source : List Str := ["cell", "digits"]
theorem sc_law_source : FnScope n_law_source ["cell"] (defScope s_law_source) := ⟨rfl, rfl, rfl, by decide +kernel, rfl, by decide +kernel, by decide +kernel⟩

abbrev s_law_draw : Stmt := top 34
abbrev n_law_draw : List Str := ["source", "many", "rest", "found", "turn", "mixed"]
theorem sc_law_draw : FnScope n_law_draw ["source", "many"] (defScope s_law_draw) := ⟨rfl, rfl, rfl, by decide +kernel, rfl, by decide +kernel, by decide +kernel⟩

abbrev s_law_same : Stmt := top 35
abbrev n_law_same : List Str := ["found", "due", "k"]
theorem sc_law_same : FnScope n_law_same ["found", "due"] (defScope s_law_same) := ⟨rfl, rfl, rfl, by decide +kernel, rfl, by decide +kernel, by decide +kernel⟩

abbrev s_law_word : Stmt := top 36
abbrev n_law_word : List Str := ["source", "letters", "few", "word", "k"]
theorem sc_law_word : FnScope n_law_word ["source"] (defScope s_law_word) := ⟨rfl, rfl, rfl, by decide +kernel, rfl, by decide +kernel, by decide +kernel⟩

abbrev s_law_words : Stmt := top 37
abbrev n_law_words : List Str := ["source", "many", "banned", "words", "k", "word", "spare", "one"]
theorem sc_law_words : FnScope n_law_words ["source", "many", "banned"] (defScope s_law_words) := ⟨rfl, rfl, rfl, by decide +kernel, rfl, by decide +kernel, by decide +kernel⟩

abbrev s_law_text : Stmt := top 38
abbrev n_law_text : List Str := ["source", "few", "signs", "some", "text", "k"]
theorem sc_law_text : FnScope n_law_text ["source"] (defScope s_law_text) := ⟨rfl, rfl, rfl, by decide +kernel, rfl, by decide +kernel, by decide +kernel⟩

abbrev s_law_value : Stmt := top 39
abbrev n_law_value : List Str := ["source", "kind", "pick", "great"]
theorem sc_law_value : FnScope n_law_value ["source", "kind"] (defScope s_law_value) := ⟨rfl, rfl, rfl, by decide +kernel, rfl, by decide +kernel, by decide +kernel⟩

abbrev s_law_kind : Stmt := top 40
abbrev n_law_kind : List Str := ["value"]
theorem sc_law_kind : FnScope n_law_kind ["value"] (defScope s_law_kind) := ⟨rfl, rfl, rfl, by decide +kernel, rfl, by decide +kernel, by decide +kernel⟩

abbrev s_law_truths : Stmt := top 41
abbrev n_law_truths : List Str := ["names", "condition", "row", "word", "yes", "no", "one", "other", "value", "holds"]
theorem sc_law_truths : FnScope n_law_truths ["names", "condition", "row"] (defScope s_law_truths) := ⟨rfl, rfl, rfl, by decide +kernel, rfl, by decide +kernel, by decide +kernel⟩

abbrev s_law_condition : Stmt := top 42
abbrev n_law_condition : List Str := ["source", "columns", "left", "pick", "one", "name", "kind", "free", "word", "odd"]
theorem sc_law_condition : FnScope n_law_condition ["source", "columns", "left"] (defScope s_law_condition) := ⟨rfl, rfl, rfl, by decide +kernel, rfl, by decide +kernel, by decide +kernel⟩

abbrev s_law_places : Stmt := top 43
abbrev n_law_places : List Str := ["value", "place", "found", "k"]
theorem sc_law_places : FnScope n_law_places ["value", "place"] (defScope s_law_places) := ⟨rfl, rfl, rfl, by decide +kernel, rfl, by decide +kernel, by decide +kernel⟩

abbrev s_law_member : Stmt := top 44
abbrev n_law_member : List Str := ["value", "place", "index"]
theorem sc_law_member : FnScope n_law_member ["value", "place"] (defScope s_law_member) := ⟨rfl, rfl, rfl, by decide +kernel, rfl, by decide +kernel, by decide +kernel⟩

abbrev s_law_with : Stmt := top 45
abbrev n_law_with : List Str := ["value", "place", "new"]
theorem sc_law_with : FnScope n_law_with ["value", "place", "new"] (defScope s_law_with) := ⟨rfl, rfl, rfl, by decide +kernel, rfl, by decide +kernel, by decide +kernel⟩

abbrev s_law_bent : Stmt := top 46
abbrev n_law_bent : List Str := ["source", "value", "places", "place", "old", "other", "odd", "at"]
theorem sc_law_bent : FnScope n_law_bent ["source", "value"] (defScope s_law_bent) := ⟨rfl, rfl, rfl, by decide +kernel, rfl, by decide +kernel, by decide +kernel⟩

abbrev s_law_is_value : Stmt := top 47
abbrev n_law_is_value : List Str := ["value", "sign"]
theorem sc_law_is_value : FnScope n_law_is_value ["value"] (defScope s_law_is_value) := ⟨rfl, rfl, rfl, by decide +kernel, rfl, by decide +kernel, by decide +kernel⟩

abbrev s_law_is_name : Stmt := top 48
abbrev n_law_is_name : List Str := ["value", "sign"]
theorem sc_law_is_name : FnScope n_law_is_name ["value"] (defScope s_law_is_name) := ⟨rfl, rfl, rfl, by decide +kernel, rfl, by decide +kernel, by decide +kernel⟩

abbrev s_law_is_condition : Stmt := top 50
abbrev n_law_is_condition : List Str := ["columns", "value", "left", "word", "parts", "part"]
theorem sc_law_is_condition : FnScope n_law_is_condition ["columns", "value", "left"] (defScope s_law_is_condition) := ⟨rfl, rfl, rfl, by decide +kernel, rfl, by decide +kernel, by decide +kernel⟩

abbrev s_law_deep : Stmt := top 51
abbrev n_law_deep : List Str := ["source", "columns", "condition", "turn", "other"]
theorem sc_law_deep : FnScope n_law_deep ["source", "columns", "condition"] (defScope s_law_deep) := ⟨rfl, rfl, rfl, by decide +kernel, rfl, by decide +kernel, by decide +kernel⟩

abbrev s_law_told : Stmt := top 52
abbrev n_law_told : List Str := ["act", "columns", "condition", "row", "found", "error"]
theorem sc_law_told : FnScope n_law_told ["act", "columns", "condition", "row"] (defScope s_law_told) := ⟨rfl, rfl, rfl, by decide +kernel, rfl, by decide +kernel, by decide +kernel⟩

abbrev s_law_any_row : Stmt := top 53
abbrev n_law_any_row : List Str := ["source", "columns", "row", "word", "kind", "free", "other"]
theorem sc_law_any_row : FnScope n_law_any_row ["source", "columns"] (defScope s_law_any_row) := ⟨rfl, rfl, rfl, by decide +kernel, rfl, by decide +kernel, by decide +kernel⟩

abbrev s_law_odd_row : Stmt := top 54
abbrev n_law_odd_row : List Str := ["source", "row", "bad"]
theorem sc_law_odd_row : FnScope n_law_odd_row ["source", "row"] (defScope s_law_odd_row) := ⟨rfl, rfl, rfl, by decide +kernel, rfl, by decide +kernel, by decide +kernel⟩

abbrev s_law_right : Stmt := top 55
abbrev n_law_right : List Str := ["source", "names", "columns", "condition", "right", "copy", "turn", "row", "yes", "no", "due", "odd", "bad", "told", "word", "one"]
theorem sc_law_right : FnScope n_law_right ["source"] (defScope s_law_right) := ⟨rfl, rfl, rfl, by decide +kernel, rfl, by decide +kernel, by decide +kernel⟩

abbrev s_law : Stmt := top 56
abbrev n_law : List Str := ["script", "cell", "source"]
theorem sc_law : FnScope n_law ["script"] (defScope s_law) := ⟨rfl, rfl, rfl, by decide +kernel, rfl, by decide +kernel, by decide +kernel⟩

abbrev a_InvalidCondition : Addr := 49
abbrev a_InvalidRow : Addr := 37
abbrev a_StoreError : Addr := 24
structure Txt (K : PySem.W.Frag) (mg : Str → Option Value) : Prop where
  f_is_integer : DefAt K mg "is_integer" s_is_integer ["value"]
  f_is_text : DefAt K mg "is_text" s_is_text ["value"]
  f_is_value : DefAt K mg "is_value" s_is_value ["value"]
  f_is_name : DefAt K mg "is_name" s_is_name ["value"]
  f_are_names : DefAt K mg "are_names" s_are_names ["value"]
  f_is_leaf : DefAt K mg "is_leaf" s_is_leaf ["columns", "value"]
  f_is_condition_to : DefAt K mg "is_condition_to" s_is_condition_to ["columns", "value", "left"]
  f_is_condition : DefAt K mg "is_condition" s_is_condition ["columns", "value"]
  f_check_condition : DefAt K mg "check_condition" s_check_condition ["columns", "condition"]
  f_is_row : DefAt K mg "is_row" s_is_row ["value"]
  f_kind_of : DefAt K mg "kind_of" s_kind_of ["value"]
  f_compared : DefAt K mg "compared" s_compared ["word", "value", "told"]
  f_joined : DefAt K mg "joined" s_joined ["word", "one", "other"]
  f_truth : DefAt K mg "truth" s_truth ["columns", "condition", "row"]
  f_truth_of : DefAt K mg "truth_of" s_truth_of ["columns", "condition", "row"]
  f_meets : DefAt K mg "meets" s_meets ["columns", "condition", "row"]
  f_law_source : DefAt K mg "_law_source" s_law_source ["cell"]
  f_law_draw : DefAt K mg "_law_draw" s_law_draw ["source", "many"]
  f_law_same : DefAt K mg "_law_same" s_law_same ["found", "due"]
  f_law_word : DefAt K mg "_law_word" s_law_word ["source"]
  f_law_words : DefAt K mg "_law_words" s_law_words ["source", "many", "banned"]
  f_law_text : DefAt K mg "_law_text" s_law_text ["source"]
  f_law_value : DefAt K mg "_law_value" s_law_value ["source", "kind"]
  f_law_kind : DefAt K mg "_law_kind" s_law_kind ["value"]
  f_law_truths : DefAt K mg "_law_truths" s_law_truths ["names", "condition", "row"]
  f_law_condition : DefAt K mg "_law_condition" s_law_condition ["source", "columns", "left"]
  f_law_places : DefAt K mg "_law_places" s_law_places ["value", "place"]
  f_law_member : DefAt K mg "_law_member" s_law_member ["value", "place"]
  f_law_with : DefAt K mg "_law_with" s_law_with ["value", "place", "new"]
  f_law_bent : DefAt K mg "_law_bent" s_law_bent ["source", "value"]
  f_law_is_value : DefAt K mg "_law_is_value" s_law_is_value ["value"]
  f_law_is_name : DefAt K mg "_law_is_name" s_law_is_name ["value"]
  f_law_is_condition : DefAt K mg "_law_is_condition" s_law_is_condition ["columns", "value", "left"]
  f_law_deep : DefAt K mg "_law_deep" s_law_deep ["source", "columns", "condition"]
  f_law_told : DefAt K mg "_law_told" s_law_told ["act", "columns", "condition", "row"]
  f_law_any_row : DefAt K mg "_law_any_row" s_law_any_row ["source", "columns"]
  f_law_odd_row : DefAt K mg "_law_odd_row" s_law_odd_row ["source", "row"]
  f_law_right : DefAt K mg "_law_right" s_law_right ["source"]
  f_law : DefAt K mg "law" s_law ["script"]
  b_abs : mg "abs" = none
  b_all : mg "all" = none
  b_bool : mg "bool" = none
  b_int : mg "int" = none
  b_isinstance : mg "isinstance" = none
  b_len : mg "len" = none
  b_list : mg "list" = none
  b_range : mg "range" = none
  b_repr : mg "repr" = none
  b_set : mg "set" = none
  b_str : mg "str" = none
  b_tuple : mg "tuple" = none
  c_GREATEST_SIGN : ∃ u, mg "GREATEST_SIGN" = some u ∧ RelV (.str "~") u
  c_LEAST_SIGN : ∃ u, mg "LEAST_SIGN" = some u ∧ RelV (.str " ") u
  c_LETTERS : ∃ u, mg "LETTERS" = some u ∧ RelV (.str "abcdefghijklmnopqrstuvwxyz") u
  c_MOST_DEPTH : ∃ u, mg "MOST_DEPTH" = some u ∧ RelV (.int 12) u
  c_MOST_INTEGER : ∃ u, mg "MOST_INTEGER" = some u ∧ RelV (.int 999999999999999999999999999999) u
  c_MOST_SIGNS : ∃ u, mg "MOST_SIGNS" = some u ∧ RelV (.int 200) u
  c_MOST_SIGNS_OF_NAME : ∃ u, mg "MOST_SIGNS_OF_NAME" = some u ∧ RelV (.int 8) u
  t_COMPARED : TupAt K mg "COMPARED" [(.str "is"), (.str "less"), (.str "most")]
  t_PAIRED : TupAt K mg "PAIRED" [(.str "and"), (.str "or")]
  x_InvalidCondition : ExcAt K mg "InvalidCondition" a_InvalidCondition
  x_InvalidRow : ExcAt K mg "InvalidRow" a_InvalidRow
  x_StoreError : ExcAt K mg "StoreError" a_StoreError
  m_InvalidCondition_InvalidCondition : PySem.W.exmOne K (.ref a_InvalidCondition) (.ref a_InvalidCondition) = some true
  m_InvalidCondition_InvalidRow : PySem.W.exmOne K (.ref a_InvalidCondition) (.ref a_InvalidRow) = some false
  m_InvalidRow_InvalidCondition : PySem.W.exmOne K (.ref a_InvalidRow) (.ref a_InvalidCondition) = some false
  m_InvalidRow_InvalidRow : PySem.W.exmOne K (.ref a_InvalidRow) (.ref a_InvalidRow) = some true
  i_InvalidCondition_StoreError : IsAt K a_InvalidCondition a_StoreError true
  i_InvalidRow_StoreError : IsAt K a_InvalidRow a_StoreError true

/-! ### what the defs promise -/
def sp_is_integer : SpD := fun ds W Q _ => ∃ d, ds = [d] ∧ AnyD d ∧ Q (.bl (isIntD d)) W
def d_is_integer : TSD := (dRet (dAnd (dCB dIsi (dCons (dVar 0) (dCons (dC (.ty "int")) dNil))) (dNot (dCB dIsi (dCons (dVar 0) (dCons (dC (.ty "bool")) dNil))))))

def sp_is_text : SpD := fun ds W Q _ => ∃ d, ds = [d] ∧ AnyD d ∧ Q (.bl (isTextD d)) W
def d_is_text : TSD := (dRet (dAnd (dCB dIsi (dCons (dVar 0) (dCons (dC (.ty "str")) dNil))) (dCB dAll (dCons (dFresh (dLc (iStrD (dVar 0)) (gdName 1) dYes (dChain dLe dLe (dC (.str " ")) (dVar 1) (dC (.str "~"))) [1])) dNil))))

def sp_is_value : SpD := fun ds W Q _ => ∃ d, ds = [d] ∧ AnyD d ∧ Q (.bl (isVal d)) W
def d_is_value : TSD := (dSeq (dIfS (dOrB (dBool (dOp dIsA (dVar 0) (dC .non))) (dBool (dCB dIsi (dCons (dVar 0) (dCons (dC (.ty "bool")) dNil))))) (dRet (dC (.bl true))) dNext)
  (dSeq (dIfS (dBool (dCall sp_is_integer 1 (dCons (dVar 0) dNil))) (dRet (dOp dLe (dCB dAbs (dCons (dVar 0) dNil)) (dC (.int 999999999999999999999999999999)))) dNext)
  (dRet (dAnd (dCall sp_is_text 1 (dCons (dVar 0) dNil)) (dOp dLe (dCB dLen (dCons (dVar 0) dNil)) (dC (.int 200)))))))

def sp_is_name : SpD := fun ds W Q _ => ∃ d, ds = [d] ∧ NV d ∧ Q (.bl (isNameD d)) W
def d_is_name : TSD := (dSeq (dIfS (dOrB (dNotB (dBool (dCB dIsi (dCons (dVar 0) (dCons (dC (.ty "str")) dNil))))) (dNotB (dBool (dChain dLe dLe (dC (.int 1)) (dCB dLen (dCons (dVar 0) dNil)) (dC (.int 8)))))) (dRet (dC (.bl false))) dNext)
  (dRet (dCB dAll (dCons (dFresh (dLc (iStrD (dVar 0)) (gdName 1) dYes (dOp (dInB false) (dVar 1) (dC (.str "abcdefghijklmnopqrstuvwxyz"))) [1])) dNil))))

def sp_are_names : SpD := fun ds W Q _ => ∃ d, ds = [d] ∧ NV d ∧ lenRow d ≤ 3000 ∧ Q (.bl (areNamesD d)) W
def d_are_names : TSD := (dSeq (dIfS (dOrB (dNotB (dBool (dCB dIsi (dCons (dVar 0) (dCons (dC (.ty "tuple")) dNil))))) (dNotB (dBool (dCB dAll (dCons (dFresh (dLc (iTupD (dVar 0)) (gdName 1) dYes (dCall sp_is_name 1 (dCons (dVar 1) dNil)) [1])) dNil))))) (dRet (dC (.bl false))) dNext)
  (dRet (dOp dEq (dLenSet (dVar 0)) (dCB dLen (dCons (dVar 0) dNil)))))

def sp_is_leaf : SpD := fun ds W Q _ => ∃ cols a b r, ds = [.tup (cols.map D.str), .tup (a :: b :: r)] ∧ (∀ s ∈ cols, PyData.strOk s = true) ∧ NV (.tup (a :: b :: r)) ∧ Q (.bl (leafB cols a b r)) W
def d_is_leaf : TSD := (dSeq (dIfS (dBool (dOp (dInB true) (dOp dIx (dVar 1) (dC (.int 1))) (dVar 0))) (dRet (dC (.bl false))) dNext)
  (dSeq (dIfS (dBool (dOp dEq (dOp dIx (dVar 1) (dC (.int 0))) (dC (.str "none")))) (dRet (dOp dEq (dCB dLen (dCons (dVar 1) dNil)) (dC (.int 2)))) dNext)
  (dRet (dAnd (dOp (dInB false) (dOp dIx (dVar 1) (dC (.int 0))) (dCD (.tup (List.map D.v [(.str "is"), (.str "less"), (.str "most")])))) (dAnd (dOp dEq (dCB dLen (dCons (dVar 1) dNil)) (dC (.int 3))) (dCall sp_is_value 1 (dCons (dOp dIx (dVar 1) (dC (.int 2))) dNil)))))))

def spn_is_condition_to (m : Nat) : SpD := fun ds W Q _ => ∃ cols d, ds = [.tup (cols.map D.str), d, .int m] ∧ (∀ s ∈ cols, PyData.strOk s = true) ∧ NV d ∧ Q (.bl (isCond cols m d)) W
abbrev sp_is_condition_to : SpD := spn_is_condition_to 12
def d_is_condition_to (sp0 : SpD) : TSD := (dSeq (dIfS (dOrB (dBool (dOp dEq (dVar 2) (dC (.int 0)))) (dOrB (dNotB (dBool (dCB dIsi (dCons (dVar 1) (dCons (dC (.ty "tuple")) dNil))))) (dBool (dOp dLt (dCB dLen (dCons (dVar 1) dNil)) (dC (.int 2)))))) (dRet (dC (.bl false))) dNext)
  (dSeq (dIfS (dBool (dOp (dInB false) (dOp dIx (dVar 1) (dC (.int 0))) (dCD (.tup (List.map D.v [(.str "and"), (.str "or")]))))) (dRet (dAnd (dOp dEq (dCB dLen (dCons (dVar 1) dNil)) (dC (.int 3))) (dCB dAll (dCons (dFresh (dLc (iTupD (dSl dCut (dVar 1) (dPart (dC (.int 1))) dNoP)) (gdName 3) dYes (dCall sp0 3 (dCons (dVar 0) (dCons (dVar 3) (dCons (dOp dSub (dVar 2) (dC (.int 1))) dNil)))) [3])) dNil)))) dNext)
  (dSeq (dIfS (dBool (dOp dEq (dOp dIx (dVar 1) (dC (.int 0))) (dC (.str "not")))) (dRet (dAnd (dOp dEq (dCB dLen (dCons (dVar 1) dNil)) (dC (.int 2))) (dCall sp0 3 (dCons (dVar 0) (dCons (dOp dIx (dVar 1) (dC (.int 1))) (dCons (dOp dSub (dVar 2) (dC (.int 1))) dNil)))))) dNext)
  (dRet (dCall sp_is_leaf 2 (dCons (dVar 0) (dCons (dVar 1) dNil)))))))

def sp_is_condition : SpD := fun ds W Q Qx => ∃ c d, ds = [c, d] ∧ NV (wk c) ∧ lenRow (wk c) ≤ 3000 ∧ NV d ∧ ((areNamesD (wk c) = false ∧ Qx (.ref a_InvalidCondition) none W) ∨ (areNamesD (wk c) = true ∧ Q (.bl (isCond (colsOf (wk c)) 12 d)) W))
def d_is_condition : TSD := (dSeq (dIfS (dNotB (dBool (dCall sp_are_names 1 (dCons (dWk (dVar 0)) dNil)))) (dRaise (.ref a_InvalidCondition)) dNext)
  (dRet (dCall sp_is_condition_to 3 (dCons (dWk (dVar 0)) (dCons (dVar 1) (dCons (dC (.int 12)) dNil))))))

def sp_check_condition : SpD := fun ds W Q Qx => ∃ c d, ds = [c, d] ∧ NV (wk c) ∧ lenRow (wk c) ≤ 3000 ∧ NV d ∧ (((areNamesD (wk c) && (D.isV d .non || isCond (colsOf (wk c)) 12 d)) = false ∧ Qx (.ref a_InvalidCondition) none W) ∨ ((areNamesD (wk c) && (D.isV d .non || isCond (colsOf (wk c)) 12 d)) = true ∧ Q .non W))
def d_check_condition : TSD := (dSeq (dIfS (dNotB (dBool (dCall sp_are_names 1 (dCons (dWk (dVar 0)) dNil)))) (dRaise (.ref a_InvalidCondition)) dNext)
  (dIfS (dAndB (dBool (dOp dNotA (dVar 1) (dC .non))) (dNotB (dBool (dCall sp_is_condition_to 3 (dCons (dWk (dVar 0)) (dCons (dVar 1) (dCons (dC (.int 12)) dNil))))))) (dRaise (.ref a_InvalidCondition)) dNext))

def sp_is_row : SpD := fun ds W Q _ => ∃ d, ds = [d] ∧ RowD d ∧ Q (.bl (isRow d)) W
def d_is_row : TSD := (dRet (dAnd (dCB dIsi (dCons (dVar 0) (dCons (dC (.ty "tuple")) dNil))) (dCB dAll (dCons (dFresh (dLc (iTupD (dVar 0)) (gdName 1) dYes (dCall sp_is_value 1 (dCons (dVar 1) dNil)) [1])) dNil))))

def sp_kind_of : SpD := fun ds W Q _ => ∃ d, ds = [d] ∧ isVal d = true ∧ Q (.str (Str.ofString (kindOf d))) W
def d_kind_of : TSD := (dSeq (dIfS (dBool (dOp dIsA (dVar 0) (dC .non))) (dRet (dC (.str "none"))) dNext)
  (dSeq (dIfS (dBool (dCB dIsi (dCons (dVar 0) (dCons (dC (.ty "bool")) dNil)))) (dRet (dC (.str "truth"))) dNext)
  (dRet (dIf (dBool (dCB dIsi (dCons (dVar 0) (dCons (dC (.ty "int")) dNil)))) (dC (.str "int")) (dC (.str "text"))))))

def sp_compared : SpD := fun ds W Q _ => ∃ w x v, ds = [.str (wd w), x, v] ∧ isVal x = true ∧ isVal v = true ∧ Q (tri (if D.isV x .non || decide (kindOf x ≠ kindOf v) then none else some (cmpB w x v))) W
def d_compared : TSD := (dSeq (dIfS (dOrB (dBool (dOp dIsA (dVar 1) (dC .non))) (dBool (dOp dNe (dCall sp_kind_of 1 (dCons (dVar 1) dNil)) (dCall sp_kind_of 1 (dCons (dVar 2) dNil))))) (dRet (dC .non)) dNext)
  (dSeq (dIfS (dBool (dOp dEq (dVar 0) (dC (.str "is")))) (dRet (dOp dEq (dVar 1) (dVar 2))) dNext)
  (dRet (dOr (dOp dLtB (dVar 1) (dVar 2)) (dAnd (dOp dEq (dVar 0) (dC (.str "most"))) (dOp dEq (dVar 1) (dVar 2)))))))

def sp_joined : SpD := fun ds W Q _ => ∃ o a b, ds = [.str (if o then wOr else wAnd), tri a, tri b] ∧ Q (tri (if a = some o ∨ b = some o then some o else if a = none ∨ b = none then none else some (!o))) W
def d_joined : TSD := (dSeq (dAsg (dOp dEq (dVar 0) (dC (.str "or"))) (gdName 3))
  (dSeq (dIfS (dBool (dOp (dInB false) (dVar 3) (dTup (dCons (dVar 1) (dCons (dVar 2) dNil))))) (dRet (dVar 3)) dNext)
  (dRet (dIf (dBool (dOp (dInB false) (dC .non) (dTup (dCons (dVar 1) (dCons (dVar 2) dNil))))) (dC .non) (dNot (dVar 3))))))

def spn_truth (m : Nat) : SpD := fun ds W Q _ => ∃ cols c row, ds = [.tpf (cols.map D.str), cdD cols c, .tup row] ∧ cols.Nodup ∧ row.length = cols.length ∧ (∀ x ∈ row, isVal x = true) ∧ CdOk cols.length m c ∧ Q (tri (ev row c)) W
abbrev sp_truth : SpD := spn_truth 12
def d_truth (sp0 : SpD) : TSD := (dSeq (dAsg (dOp dIx (dVar 1) (dC (.int 0))) (gdName 3))
  (dSeq (dIfS (dBool (dOp dEq (dVar 3) (dC (.str "not")))) (dSeq (dAsg (dCall sp0 3 (dCons (dVar 0) (dCons (dOp dIx (dVar 1) (dC (.int 1))) (dCons (dVar 2) dNil)))) (gdName 4))
  (dRet (dIf (dBool (dOp dIsA (dVar 4) (dC .non))) (dC .non) (dNot (dVar 4))))) dNext)
  (dSeq (dIfS (dBool (dOp (dInB false) (dVar 3) (dCD (.tup (List.map D.v [(.str "and"), (.str "or")]))))) (dRet (dCall sp_joined 3 (dCons (dVar 3) (dCons (dCall sp0 3 (dCons (dVar 0) (dCons (dOp dIx (dVar 1) (dC (.int 1))) (dCons (dVar 2) dNil)))) (dCons (dCall sp0 3 (dCons (dVar 0) (dCons (dOp dIx (dVar 1) (dC (.int 2))) (dCons (dVar 2) dNil)))) dNil))))) dNext)
  (dSeq (dAsg (dOp dIx (dVar 2) (dIndexF (dVar 0) (dCons (dOp dIx (dVar 1) (dC (.int 1))) dNil))) (gdName 5))
  (dRet (dIf (dBool (dOp dEq (dVar 3) (dC (.str "none")))) (dOp dIsA (dVar 5) (dC .non)) (dCall sp_compared 3 (dCons (dVar 3) (dCons (dVar 5) (dCons (dOp dIx (dVar 1) (dC (.int 2))) dNil))))))))))

def outT (c d r : D) (A : D → Prop) (X : Value → Prop) : Prop :=
  ((areNamesD (wk c) && (D.isV d .non || isCond (colsOf (wk c)) 12 d)) = false ∧ X (.ref a_InvalidCondition)) ∨
  ((areNamesD (wk c) && (D.isV d .non || isCond (colsOf (wk c)) 12 d)) = true ∧ (((isRow r && decide (lenRow r = (colsOf (wk c)).length)) = false ∧ X (.ref a_InvalidRow)) ∨
    ((isRow r && decide (lenRow r = (colsOf (wk c)).length)) = true ∧ ((d = .non ∧ A (.bl true)) ∨ ∃ cols e row, c = .tpf (cols.map D.str) ∧ d = cdD cols e ∧ r = .tup row ∧ CdOk cols.length 12 e ∧ A (tri (ev row e))))))
def sp_truth_of : SpD := fun ds W Q Qx => ∃ c d r, ds = [c, d, r] ∧ NV (wk c) ∧ lenRow (wk c) ≤ 3000 ∧ NV d ∧ RowD r ∧ outT c d r (fun z => Q z W) fun cls => Qx cls none W
def d_truth_of : TSD := (dSeq (dDrop (dCall sp_check_condition 2 (dCons (dVar 0) (dCons (dVar 1) dNil))))
  (dSeq (dIfS (dOrB (dNotB (dBool (dCall sp_is_row 1 (dCons (dVar 2) dNil)))) (dBool (dOp dNe (dCB dLen (dCons (dVar 2) dNil)) (dCB dLen (dCons (dWk (dVar 0)) dNil))))) (dRaise (.ref a_InvalidRow)) dNext)
  (dRet (dIf (dBool (dOp dIsA (dVar 1) (dC .non))) (dC (.bl true)) (dCall sp_truth 3 (dCons (dVar 0) (dCons (dVar 1) (dCons (dVar 2) dNil))))))))

def sp_meets : SpD := fun ds W Q Qx => ∃ c d r, ds = [c, d, r] ∧ NV (wk c) ∧ lenRow (wk c) ≤ 3000 ∧ NV d ∧ RowD r ∧ outT c d r (fun z => Q (.bl (D.isV z (.bl true))) W) fun cls => Qx cls none W
def d_meets : TSD := (dRet (dOp dIsA (dCall sp_truth_of 3 (dCons (dVar 0) (dCons (dVar 1) (dCons (dVar 2) dNil)))) (dC (.bl true))))

def sp_law_source : SpD := fun ds W Q _ => ∃ z : Int, ds = [.int z] ∧ z.natAbs < bigB ∧ ∀ W' p, SrcOk W' p 1000000 → Q (.ref p) W'
def d_law_source : TSD := (dSeq (dAsg (dIf (dBool (dOp dGe (dVar 0) (dOp dPow (dC (.int 10)) (dC (.int 18))))) (dOp dSub (dVar 0) (dOp dPow (dC (.int 10)) (dC (.int 18)))) (dC (.int 0))) (gdName 1))
  (dRetW (dLstN (dCons (dVar 1) (dCons (dOp dMod (dCB dIntC (dCons (dVar 0) dNil)) (dC (.int 2305843009213693951))) (dCons (dC (.int 0)) dNil))))))

def sp_law_draw : SpD := fun ds W Q _ => ∃ (p : Addr) (many : Int) (n : Nat), ds = [.ref p, .int many] ∧ SrcOk W p (n + 1) ∧ 0 < many ∧ many ≤ 1000000000000000000000000000000 ∧ ∀ r W', 0 ≤ r → r < many → SrcOk W' p n → Q (.int r) W'
def d_law_draw : TSD := (dSeq (dIfS (dAndB (dBool (dOp dGt (dIxW (dVar 0) (dC (.int 0))) (dC (.int 0)))) (dBool (dOp dGt (dVar 1) (dC (.int 1))))) (dSeq (dAsg (dOp dFdv (dIxW (dVar 0) (dC (.int 0))) (dVar 1)) (gdName 2))
  (dSeq (dAsg (dOp dSub (dIxW (dVar 0) (dC (.int 0))) (dOp dMulA (dVar 2) (dVar 1))) (gdName 3))
  (dSeq (dSetW (dVar 2) (dVar 0) (dC (.int 0)))
  (dRet (dVar 3))))) dNext)
  (dSeq (dSetW (dOp dAdd (dIxW (dVar 0) (dC (.int 2))) (dC (.int 1))) (dVar 0) (dC (.int 2)))
  (dSeq (dAsg (dIxW (dVar 0) (dC (.int 2))) (gdName 4))
  (dSeq (dAsg (dOp dMod (dCB dIntC (dCons (dOp dAdd (dOp dAdd (dOp dMulA (dIxW (dVar 0) (dC (.int 1))) (dOp dAdd (dOp dMulA (dC (.int 2)) (dVar 4)) (dC (.int 31)))) (dOp dMulA (dOp dMulA (dC (.int 7919)) (dVar 4)) (dVar 4))) (dC (.int 17))) dNil)) (dC (.int 2305843009213693951))) (gdName 5))
  (dSeq (dAsg (dOp dFdv (dOp dMod (dCB dIntC (dCons (dOp dAdd (dOp dAdd (dOp dMulA (dVar 5) (dVar 5)) (dOp dMulA (dC (.int 104729)) (dVar 5))) (dVar 4)) dNil)) (dC (.int 2305843009213693951))) (dC (.int 1021))) (gdName 5))
  (dSeq (dAsg (dOp dFdv (dOp dMod (dCB dIntC (dCons (dOp dAdd (dOp dMulA (dVar 5) (dVar 5)) (dOp dMulA (dC (.int 611953)) (dVar 4))) dNil)) (dC (.int 1152921504606846883))) (dC (.int 4099))) (gdName 5))
  (dRet (dOp dMod (dCB dIntC (dCons (dVar 5) dNil)) (dVar 1)))))))))

/-- None, truths, ints, texts and what is made of them, n deep -/
def plainN : Nat → D → Prop
  | _, .v .non => True
  | _, .v (.bl _) => True
  | _, .v (.int i) => i.natAbs < 100000
  | _, .v (.str s) => s.length ≤ 100 ∧ PyData.strOk s = true
  | n + 1, .tup ds => ds.length ≤ 100000 ∧ ∀ d ∈ ds, plainN n d
  | n + 1, .lst ds => ds.length ≤ 100000 ∧ ∀ d ∈ ds, plainN n d
  | _, _ => False
def spn_law_same (n : Nat) : SpD := fun ds W Q _ => ∃ d, ds = [d, d] ∧ plainN n d ∧ Q (.bl true) W
abbrev sp_law_same : SpD := spn_law_same 3
def d_law_same (sp0 : SpD) : TSD := (dSeq (dIfS (dOrB (dBool (dOp dNe (dCB dIsi (dCons (dVar 1) (dCons (dC (.ty "tuple")) dNil))) (dCB dIsi (dCons (dVar 0) (dCons (dC (.ty "tuple")) dNil))))) (dBool (dOp dNe (dCB dIsi (dCons (dVar 1) (dCons (dC (.ty "list")) dNil))) (dCB dIsi (dCons (dVar 0) (dCons (dC (.ty "list")) dNil)))))) (dRet (dC (.bl false))) dNext)
  (dSeq (dIfS (dBool (dCB dIsiT (dCons (dVar 1) (dCons (dTup (dCons (dC (.ty "tuple")) (dCons (dC (.ty "list")) dNil))) dNil)))) (dRet (dAnd (dOp dEq (dCB dLen (dCons (dVar 0) dNil)) (dCB dLen (dCons (dVar 1) dNil))) (dOp dEq (dFresh (dLc (iRngD1 (dCons (dCB dLen (dCons (dVar 1) dNil)) dNil)) (gdName 2) (dNotB (dBool (dCall sp0 2 (dCons (dOp dIx (dVar 0) (dVar 2)) (dCons (dOp dIx (dVar 1) (dVar 2)) dNil))))) (dVar 2) [2])) (dLst dNil)))) dNext)
  (dRet (dAnd (dOp dEq (dVar 0) (dVar 1)) (dOp dEq (dCB dRepr (dCons (dVar 0) dNil)) (dCB dRepr (dCons (dVar 1) dNil)))))))

def sp_law_word : SpD := fun ds W Q _ => ∃ (p : Addr) (n : Nat), ds = [.ref p] ∧ SrcOk W p (n + 12) ∧ ∀ l W', nameB l = true → SrcOk W' p n → Q (.str (mkS l)) W'
def d_law_word : TSD := (dSeq (dAsg (dC (.str "abcdefghijklmnopqrstuvwxyz")) (gdName 1))
  (dSeq (dAsg (dIf (dBool (dOp dEq (dCall sp_law_draw 2 (dCons (dVar 0) (dCons (dC (.int 2)) dNil))) (dC (.int 0)))) (dC (.int 2)) (dC (.int 26))) (gdName 2))
  (dSeq (dAsg (dC (.str "")) (gdName 3))
  (dSeq (dFor (iRngD1 (dCons (dOp dIx (dLst (dCons (dC (.int 1)) (dCons (dC (.int 1)) (dCons (dC (.int 2)) (dCons (dC (.int 2)) (dCons (dC (.int 3)) (dCons (dC (.int 8)) dNil))))))) (dCall sp_law_draw 2 (dCons (dVar 0) (dCons (dC (.int 6)) dNil)))) dNil)) (gdName 4)
  (dAsg (dOp dAdd (dVar 3) (dOp dIx (dVar 1) (dCall sp_law_draw 2 (dCons (dVar 0) (dCons (dVar 2) dNil))))) (gdName 3)))
  (dRet (dVar 3))))))

def sp_law_words : SpD := fun ds W Q _ => ∃ (p : Addr) (m n : Nat) (bs : List (List Nat)), ds = [.ref p, .int m, .lst (namesD bs)] ∧ m + bs.length ≤ 11 ∧ SrcOk W p (n + 12 * m) ∧ ∀ ls W', ls.length = m → NamesOk m ls → (∀ l ∈ ls, l ∉ bs) → SrcOk W' p n → Q (.lst (namesD ls)) W'
def d_law_words : TSD := (dSeq (dAsgO 3 (dLstN dNil))
  (dSeq (dFor (iRngD1 (dCons (dVar 1) dNil)) (gdName 4)
  (dSeq (dAsg (dCall sp_law_word 1 (dCons (dVar 0) dNil)) (gdName 5))
  (dSeq (dAsg (dLst (dCons (dC (.str "q")) (dCons (dC (.str "qq")) (dCons (dC (.str "qqq")) (dCons (dC (.str "z")) (dCons (dC (.str "zq")) (dCons (dC (.str "zz")) (dCons (dC (.str "zzz")) (dCons (dC (.str "x")) (dCons (dC (.str "xq")) (dCons (dC (.str "xx")) (dCons (dC (.str "xxx")) (dCons (dC (.str "xxxxxxxx")) dNil))))))))))))) (gdName 6))
  (dSeq (dAsg (dFresh (dLc (iSeq (dVar 6)) (gdName 7) (dAndB (dBool (dInO true (dVar 7) 3)) (dBool (dOp (dInB true) (dVar 7) (dVar 2)))) (dVar 7) [7])) (gdName 6))
  (dApp 3 (dIf (dOrB (dBool (dInO false (dVar 5) 3)) (dBool (dOp (dInB false) (dVar 5) (dVar 2)))) (dOp dIx (dVar 6) (dC (.int 0))) (dVar 5)))))))
  (dFrz 3 (dRet (dVar 3)))))

def sp_law_text : SpD := fun ds W Q _ => ∃ (p : Addr) (n : Nat), ds = [.ref p] ∧ SrcOk W p (n + 70) ∧ ∀ l W', Pr l → l.length ≤ 60 → SrcOk W' p n → Q (.str (mkS l)) W'
def d_law_text : TSD := (dSeq (dAsg (dC (.str " !a0~bA9'")) (gdName 1))
  (dSeq (dAsg (dC (.str " !\"#$&'()*+,-./0123456789:;<=>?@ABCDEFGHIJKLMNOPQRSTUVWXYZ[\\]^_`abcdefghijklmnopqrstuvwxyz{|}~")) (gdName 2))
  (dSeq (dAsg (dIf (dBool (dOp dGt (dCall sp_law_draw 2 (dCons (dVar 0) (dCons (dC (.int 3)) dNil))) (dC (.int 0)))) (dVar 1) (dVar 2)) (gdName 3))
  (dSeq (dAsg (dC (.str "")) (gdName 4))
  (dSeq (dFor (iRngD1 (dCons (dOp dIx (dLst (dCons (dC (.int 0)) (dCons (dC (.int 1)) (dCons (dC (.int 1)) (dCons (dC (.int 2)) (dCons (dC (.int 3)) (dCons (dC (.int 8)) (dCons (dC (.int 3)) (dCons (dC (.int 60)) dNil))))))))) (dCall sp_law_draw 2 (dCons (dVar 0) (dCons (dC (.int 8)) dNil)))) dNil)) (gdName 5)
  (dAsg (dOp dAdd (dVar 4) (dOp dIx (dVar 3) (dCall sp_law_draw 2 (dCons (dVar 0) (dCons (dCB dLen (dCons (dVar 3) dNil)) dNil))))) (gdName 4)))
  (dRet (dVar 4)))))))

def sp_law_value : SpD := fun ds W Q _ => ∃ (p : Addr) (k n : Nat), ds = [.ref p, .str (kn k)] ∧ k ≤ 2 ∧ SrcOk W p (n + 80) ∧ ∀ d W', isVal d = true → kindOf d = knS k → wt d ≤ 700 → SrcOk W' p n → Q d W'
def d_law_value : TSD := (dSeq (dIfS (dBool (dOp dEq (dVar 1) (dC (.str "truth")))) (dRet (dOp dEq (dCall sp_law_draw 2 (dCons (dVar 0) (dCons (dC (.int 2)) dNil))) (dC (.int 0)))) dNext)
  (dSeq (dIfS (dBool (dOp dEq (dVar 1) (dC (.str "text")))) (dRet (dCall sp_law_text 1 (dCons (dVar 0) dNil))) dNext)
  (dSeq (dAsg (dCall sp_law_draw 2 (dCons (dVar 0) (dCons (dC (.int 12)) dNil))) (gdName 2))
  (dSeq (dIfS (dBool (dOp dLt (dVar 2) (dC (.int 9)))) (dRet (dOp dIx (dLst (dCons (dC (.int 0)) (dCons (dC (.int 1)) (dCons (dC (.int 2)) (dCons (dC (.int 3)) (dCons (dNeg (dC (.int 1))) (dCons (dNeg (dC (.int 2))) (dCons (dC (.int 9)) (dCons (dC (.int 10)) (dCons (dNeg (dC (.int 10))) dNil)))))))))) (dVar 2))) dNext)
  (dSeq (dAsg (dCall sp_law_draw 2 (dCons (dVar 0) (dCons (dOp dIx (dLst (dCons (dOp dPow (dC (.int 10)) (dC (.int 3))) (dCons (dOp dPow (dC (.int 10)) (dC (.int 12))) (dCons (dOp dPow (dC (.int 10)) (dC (.int 30))) dNil)))) (dOp dSub (dVar 2) (dC (.int 9)))) dNil))) (gdName 3))
  (dRet (dIf (dBool (dOp dEq (dCall sp_law_draw 2 (dCons (dVar 0) (dCons (dC (.int 2)) dNil))) (dC (.int 0)))) (dVar 3) (dOp dSub (dC (.int 0)) (dVar 3)))))))))

def sp_law_kind : SpD := fun ds W Q _ => ∃ d, ds = [d] ∧ isVal d = true ∧ Q (.str (Str.ofString (kindOf d))) W
def d_law_kind : TSD := (dSeq (dIfS (dOrB (dBool (dOp dIsA (dVar 0) (dC .non))) (dBool (dCB dIsi (dCons (dVar 0) (dCons (dC (.ty "bool")) dNil))))) (dRet (dIf (dBool (dOp dIsA (dVar 0) (dC .non))) (dC (.str "none")) (dC (.str "truth")))) dNext)
  (dRet (dIf (dBool (dCB dIsi (dCons (dVar 0) (dCons (dC (.ty "int")) dNil)))) (dC (.str "int")) (dC (.str "text")))))

def spn_law_truths (m : Nat) : SpD := fun ds W Q _ => ∃ cols c row, ds = [.lst (cols.map D.str), cdD cols c, .tup row] ∧ cols.Nodup ∧ row.length = cols.length ∧ (∀ x ∈ row, isVal x = true) ∧ CdOk cols.length m c ∧ Q (.tup [.bl (decide (ev row c = some true)), .bl (decide (ev row c = some false))]) W
abbrev sp_law_truths : SpD := spn_law_truths 12
def d_law_truths (sp0 : SpD) : TSD := (dSeq (dAsg (dOp dIx (dVar 1) (dC (.int 0))) (gdName 3))
  (dSeq (dIfS (dBool (dOp dEq (dVar 3) (dC (.str "not")))) (dSeq (dAsg (dCall sp0 3 (dCons (dVar 0) (dCons (dOp dIx (dVar 1) (dC (.int 1))) (dCons (dVar 2) dNil)))) (gdTup 2 (gdCons (gdName 4) (gdCons (gdName 5) gdNil))))
  (dRet (dTup (dCons (dVar 5) (dCons (dVar 4) dNil))))) dNext)
  (dSeq (dIfS (dBool (dOp (dInB false) (dVar 3) (dTup (dCons (dC (.str "and")) (dCons (dC (.str "or")) dNil))))) (dSeq (dPar 6 7 (dCons (dCall sp0 3 (dCons (dVar 0) (dCons (dOp dIx (dVar 1) (dC (.int 1))) (dCons (dVar 2) dNil)))) (dCons (dCall sp0 3 (dCons (dVar 0) (dCons (dOp dIx (dVar 1) (dC (.int 2))) (dCons (dVar 2) dNil)))) dNil)))
  (dSeq (dIfS (dBool (dOp dEq (dVar 3) (dC (.str "and")))) (dRet (dTup (dCons (dAnd (dOp dIx (dVar 6) (dC (.int 0))) (dOp dIx (dVar 7) (dC (.int 0)))) (dCons (dOr (dOp dIx (dVar 6) (dC (.int 1))) (dOp dIx (dVar 7) (dC (.int 1)))) dNil)))) dNext)
  (dRet (dTup (dCons (dOr (dOp dIx (dVar 6) (dC (.int 0))) (dOp dIx (dVar 7) (dC (.int 0)))) (dCons (dAnd (dOp dIx (dVar 6) (dC (.int 1))) (dOp dIx (dVar 7) (dC (.int 1)))) dNil)))))) dNext)
  (dSeq (dAsg (dOp dIx (dVar 2) (dIndexL (dVar 0) (dCons (dOp dIx (dVar 1) (dC (.int 1))) dNil))) (gdName 8))
  (dSeq (dIfS (dBool (dOp dEq (dVar 3) (dC (.str "none")))) (dRet (dTup (dCons (dOp dIsA (dVar 8) (dC .non)) (dCons (dOp dNotA (dVar 8) (dC .non)) dNil)))) dNext)
  (dSeq (dIfS (dOrB (dBool (dOp dIsA (dVar 8) (dC .non))) (dBool (dOp dNe (dCall sp_law_kind 1 (dCons (dVar 8) dNil)) (dCall sp_law_kind 1 (dCons (dOp dIx (dVar 1) (dC (.int 2))) dNil))))) (dRet (dTup (dCons (dC (.bl false)) (dCons (dC (.bl false)) dNil)))) dNext)
  (dSeq (dAsg (dOp dEq (dVar 8) (dOp dIx (dVar 1) (dC (.int 2)))) (gdName 9))
  (dSeq (dIfS (dBool (dOp dNe (dVar 3) (dC (.str "is")))) (dAsg (dOr (dOp dLtB (dVar 8) (dOp dIx (dVar 1) (dC (.int 2)))) (dAnd (dVar 9) (dOp dEq (dVar 3) (dC (.str "most"))))) (gdName 9)) dNext)
  (dRet (dTup (dCons (dVar 9) (dCons (dNot (dVar 9)) dNil))))))))))))

def spn_law_condition (m : Nat) : SpD := fun ds W Q _ => ∃ (p : Addr) (cs : List Col) (k n : Nat), ds = [.ref p, .lst (cs.map colD), .int k] ∧ k ≤ m ∧ ColsOk cs ∧ SrcOk W p (n + (200 * 2 ^ k - 100)) ∧ ∀ d W', Nice (k + 1) (1100 * 2 ^ k - 100) d → d ≠ .non → SrcOk W' p n → Q d W'
abbrev sp_law_condition : SpD := spn_law_condition 3
def d_law_condition (sp0 : SpD) : TSD := (dSeq (dAsg (dIf (dBool (dOp dGt (dVar 2) (dC (.int 0)))) (dCall sp_law_draw 2 (dCons (dVar 0) (dCons (dC (.int 8)) dNil))) (dC (.int 7))) (gdName 3))
  (dSeq (dIfS (dBool (dOp dLt (dVar 3) (dC (.int 4)))) (dSeq (dAsg (dCall sp0 3 (dCons (dVar 0) (dCons (dVar 1) (dCons (dOp dSub (dVar 2) (dC (.int 1))) dNil)))) (gdName 4))
  (dSeq (dIfS (dBool (dOp dEq (dVar 3) (dC (.int 0)))) (dRet (dTup (dCons (dC (.str "not")) (dCons (dVar 4) dNil)))) dNext)
  (dRet (dTup (dCons (dOp dIx (dLst (dCons (dC (.str "and")) (dCons (dC (.str "or")) (dCons (dC (.str "and")) dNil)))) (dOp dSub (dVar 3) (dC (.int 1)))) (dCons (dVar 4) (dCons (dCall sp0 3 (dCons (dVar 0) (dCons (dVar 1) (dCons (dOp dSub (dVar 2) (dC (.int 1))) dNil)))) dNil))))))) dNext)
  (dSeq (dAsg (dOp dIx (dVar 1) (dCall sp_law_draw 2 (dCons (dVar 0) (dCons (dCB dLen (dCons (dVar 1) dNil)) dNil)))) (gdTup 3 (gdCons (gdName 5) (gdCons (gdName 6) (gdCons (gdName 7) gdNil)))))
  (dSeq (dAsg (dOp dIx (dLst (dCons (dC (.str "is")) (dCons (dC (.str "less")) (dCons (dC (.str "most")) (dCons (dC (.str "none")) dNil))))) (dCall sp_law_draw 2 (dCons (dVar 0) (dCons (dC (.int 4)) dNil)))) (gdName 8))
  (dSeq (dIfS (dBool (dOp dEq (dVar 8) (dC (.str "none")))) (dRet (dTup (dCons (dVar 8) (dCons (dVar 5) dNil)))) dNext)
  (dSeq (dAsg (dCall sp_law_draw 2 (dCons (dVar 0) (dCons (dC (.int 12)) dNil))) (gdName 9))
  (dSeq (dIfS (dBool (dOp dLt (dVar 9) (dC (.int 2)))) (dRet (dTup (dCons (dVar 8) (dCons (dVar 5) (dCons (dIf (dBool (dOp dEq (dVar 9) (dC (.int 0)))) (dC .non) (dCall sp_law_value 2 (dCons (dVar 0) (dCons (dOp dIx (dLst (dCons (dC (.str "int")) (dCons (dC (.str "text")) (dCons (dC (.str "truth")) dNil)))) (dCall sp_law_draw 2 (dCons (dVar 0) (dCons (dC (.int 3)) dNil)))) dNil)))) dNil))))) dNext)
  (dRet (dTup (dCons (dVar 8) (dCons (dVar 5) (dCons (dCall sp_law_value 2 (dCons (dVar 0) (dCons (dVar 6) dNil))) dNil))))))))))))

def spn_law_places (m : Nat) : SpD := fun ds W Q _ => ∃ d path, ds = [d, .tup path] ∧ Nice m 200000 d ∧ path.length + m ≤ 100 ∧ ∀ qs, PlOk d qs → Q (.lst (qs.map (pathD path))) W
abbrev sp_law_places : SpD := spn_law_places 29
def d_law_places (sp0 : SpD) : TSD := (dSeq (dAsg (dLst (dCons (dVar 1) dNil)) (gdName 2))
  (dSeq (dIfS (dBool (dCB dIsi (dCons (dVar 0) (dCons (dC (.ty "tuple")) dNil)))) (dFor (iRngD1 (dCons (dCB dLen (dCons (dVar 0) dNil)) dNil)) (gdName 3)
  (dAsg (dOp dAdd (dVar 2) (dCall sp0 2 (dCons (dOp dIx (dVar 0) (dVar 3)) (dCons (dOp dAdd (dVar 1) (dTup (dCons (dVar 3) dNil))) dNil)))) (gdName 2))) dNext)
  (dRet (dVar 2))))

def sp_law_member : SpD := fun ds W Q _ => ∃ d q e, ds = [d, pathD [] q] ∧ q.length ≤ 100 ∧ atP q d = some e ∧ Q e W
def d_law_member : TSD := (dSeq (dFor (iTupD (dVar 1)) (gdName 2)
  (dAsg (dOp dIx (dVar 0) (dVar 2)) (gdName 0)))
  (dRet (dVar 0)))

def spn_law_with (m : Nat) : SpD := fun ds W Q _ => ∃ d q new e, ds = [d, pathD [] q, new] ∧ q.length ≤ m ∧ Nice 49 500000 d ∧ atP q d = some e ∧ Q (putP q d new) W
abbrev sp_law_with : SpD := spn_law_with 29
def d_law_with (sp0 : SpD) : TSD := (dSeq (dIfS (dBool (dOp dEq (dVar 1) (dTup dNil))) (dRet (dVar 2)) dNext)
  (dRet (dOp dAdd (dOp dAdd (dSl dCut (dVar 0) dNoP (dPart (dOp dIx (dVar 1) (dC (.int 0))))) (dTup (dCons (dCall sp0 3 (dCons (dOp dIx (dVar 0) (dOp dIx (dVar 1) (dC (.int 0)))) (dCons (dSl dCut (dVar 1) (dPart (dC (.int 1))) dNoP) (dCons (dVar 2) dNil)))) dNil))) (dSl dCut (dVar 0) (dPart (dOp dAdd (dOp dIx (dVar 1) (dC (.int 0))) (dC (.int 1)))) dNoP))))

def sp_law_bent : SpD := fun ds W Q _ => ∃ (p : Addr) (d : D) (n : Nat), ds = [.ref p, d] ∧ Nice 18 100000 d ∧ SrcOk W p (n + 4) ∧ ∀ d' W', NV d' → SrcOk W' p n → Q d' W'
def d_law_bent : TSD := (dSeq (dAsg (dCall sp_law_places 2 (dCons (dVar 1) (dCons (dTup dNil) dNil))) (gdName 2))
  (dSeq (dAsg (dOp dIx (dVar 2) (dCall sp_law_draw 2 (dCons (dVar 0) (dCons (dCB dLen (dCons (dVar 2) dNil)) dNil)))) (gdName 3))
  (dSeq (dPar 4 5 (dCons (dCall sp_law_member 2 (dCons (dVar 1) (dCons (dVar 3) dNil))) (dCons (dCall sp_law_member 2 (dCons (dVar 1) (dCons (dOp dIx (dVar 2) (dCall sp_law_draw 2 (dCons (dVar 0) (dCons (dCB dLen (dCons (dVar 2) dNil)) dNil)))) dNil))) dNil)))
  (dSeq (dAsg (dLst (dCons (dC .non) (dCons (dC (.bl true)) (dCons (dC (.bl false)) (dCons (dC (.int 0)) (dCons (dC (.int 1)) (dCons (dOp dPow (dC (.int 10)) (dC (.int 30))) (dCons (dOp dSub (dC (.int 0)) (dOp dPow (dC (.int 10)) (dC (.int 30)))) (dCons (dOp dSub (dOp dPow (dC (.int 10)) (dC (.int 30))) (dC (.int 1))) (dCons (dC (.str "")) (dCons (dC (.str "a")) (dCons (dC (.str "key")) (dCons (dC (.str "A")) (dCons (dC (.str "abcdefghi")) (dCons (dC (.str "a1")) (dCons (dOp dMulA (dC (.str "x")) (dC (.int 201))) (dCons (dOp dMulA (dC (.str "x")) (dC (.int 200))) (dCons (dC (.str "a\n")) (dCons (dTup dNil) (dCons (dLst dNil) (dCons (dLst (dCons (dC (.str "a")) dNil)) dNil))))))))))))))))))))) (gdName 6))
  (dSeq (dAsg (dOp dAdd (dVar 6) (dLst (dCons (dC (.str "is")) (dCons (dC (.str "less")) (dCons (dC (.str "most")) (dCons (dC (.str "none")) (dCons (dC (.str "and")) (dCons (dC (.str "or")) (dCons (dC (.str "not")) (dCons (dC (.str "int")) (dCons (dC (.str "text")) (dCons (dC (.str "truth")) (dCons (dTup (dCons (dC (.str "a")) dNil)) (dCons (dTup (dCons (dC (.str "none")) (dCons (dC (.str "a")) dNil))) (dCons (dVar 5) (dCons (dVar 5) (dCons (dVar 5) dNil))))))))))))))))) (gdName 6))
  (dSeq (dIfS (dAndB (dBool (dCB dIsi (dCons (dVar 4) (dCons (dC (.ty "tuple")) dNil)))) (dBool (dOp dNe (dVar 4) (dTup dNil)))) (dSeq (dAsg (dCall sp_law_draw 2 (dCons (dVar 0) (dCons (dCB dLen (dCons (dVar 4) dNil)) dNil))) (gdName 7))
  (dAsg (dOp dAdd (dSl dCut (dVar 6) dNoP (dPart (dC (.int 24)))) (dOp dMulA (dLst (dCons (dOp dAdd (dSl dCut (dVar 4) dNoP (dPart (dVar 7))) (dSl dCut (dVar 4) (dPart (dOp dAdd (dVar 7) (dC (.int 1)))) dNoP)) (dCons (dOp dAdd (dVar 4) (dTup (dCons (dVar 5) dNil))) (dCons (dRevT (dVar 4)) (dCons (dOp dAdd (dOp dAdd (dSl dCut (dVar 4) dNoP (dPart (dVar 7))) (dTup (dCons (dOp dIx (dVar 4) (dVar 7)) dNil))) (dSl dCut (dVar 4) (dPart (dVar 7)) dNoP)) (dCons (dCB dListC (dCons (dVar 4) dNil)) (dCons (dOp dAdd (dVar 4) (dTup (dCons (dOp dIx (dVar 4) (dVar 7)) dNil))) dNil))))))) (dC (.int 3)))) (gdName 6))) dNext)
  (dRet (dCall sp_law_with 3 (dCons (dVar 1) (dCons (dVar 3) (dCons (dOp dIx (dVar 6) (dCall sp_law_draw 2 (dCons (dVar 0) (dCons (dCB dLen (dCons (dVar 6) dNil)) dNil)))) dNil)))))))))))

def sp_law_is_value : SpD := fun ds W Q _ => ∃ d, ds = [d] ∧ AnyD d ∧ Q (.bl (isVal d)) W
def d_law_is_value : TSD := (dSeq (dIfS (dOrB (dBool (dOp dIsA (dVar 0) (dC .non))) (dBool (dCB dIsi (dCons (dVar 0) (dCons (dC (.ty "bool")) dNil))))) (dRet (dC (.bl true))) dNext)
  (dSeq (dIfS (dBool (dCB dIsi (dCons (dVar 0) (dCons (dC (.ty "int")) dNil)))) (dRet (dChain dLt dLt (dOp dSub (dC (.int 0)) (dOp dPow (dC (.int 10)) (dC (.int 30)))) (dVar 0) (dOp dPow (dC (.int 10)) (dC (.int 30))))) dNext)
  (dRet (dAnd (dCB dIsi (dCons (dVar 0) (dCons (dC (.ty "str")) dNil))) (dAnd (dOp dLe (dCB dLen (dCons (dVar 0) dNil)) (dC (.int 200))) (dOp dEq (dFresh (dLc (iStrD (dVar 0)) (gdName 1) (dNotB (dBool (dChain dLe dLe (dC (.str " ")) (dVar 1) (dC (.str "~"))))) (dVar 1) [1])) (dLst dNil)))))))

def sp_law_is_name : SpD := fun ds W Q _ => ∃ d, ds = [d] ∧ NV d ∧ Q (.bl (isNameD d)) W
def d_law_is_name : TSD := (dSeq (dIfS (dOrB (dNotB (dBool (dCB dIsi (dCons (dVar 0) (dCons (dC (.ty "str")) dNil))))) (dNotB (dBool (dChain dLt dLt (dC (.int 0)) (dCB dLen (dCons (dVar 0) dNil)) (dC (.int 9)))))) (dRet (dC (.bl false))) dNext)
  (dRet (dOp dEq (dFresh (dLc (iStrD (dVar 0)) (gdName 1) (dBool (dOp (dInB true) (dVar 1) (dC (.str "abcdefghijklmnopqrstuvwxyz")))) (dVar 1) [1])) (dLst dNil))))

def spn_law_is_condition (m : Nat) : SpD := fun ds W Q _ => ∃ cols d, ds = [.tup (cols.map D.str), d, .int m] ∧ (∀ s ∈ cols, PyData.strOk s = true) ∧ NV d ∧ Q (.bl (isCond cols m d)) W
abbrev sp_law_is_condition : SpD := spn_law_is_condition 12
def d_law_is_condition (sp0 : SpD) : TSD := (dSeq (dIfS (dOrB (dBool (dOp dEq (dVar 2) (dC (.int 0)))) (dOrB (dNotB (dBool (dCB dIsi (dCons (dVar 1) (dCons (dC (.ty "tuple")) dNil))))) (dOrB (dBool (dOp dEq (dVar 1) (dTup dNil))) (dNotB (dBool (dCB dIsi (dCons (dOp dIx (dVar 1) (dC (.int 0))) (dCons (dC (.ty "str")) dNil)))))))) (dRet (dC (.bl false))) dNext)
  (dSeq (dPar 3 4 (dCons (dOp dIx (dVar 1) (dC (.int 0))) (dCons (dSl dCut (dVar 1) (dPart (dC (.int 1))) dNoP) dNil)))
  (dSeq (dIfS (dBool (dOp (dInB false) (dVar 3) (dTup (dCons (dC (.str "and")) (dCons (dC (.str "or")) (dCons (dC (.str "not")) dNil)))))) (dSeq (dIfS (dBool (dOp dNe (dCB dLen (dCons (dVar 4) dNil)) (dOp dSub (dC (.int 2)) (dCB dIntC (dCons (dOp dEq (dVar 3) (dC (.str "not"))) dNil))))) (dRet (dC (.bl false))) dNext)
  (dRet (dOp dEq (dFresh (dLc (iTupD (dVar 4)) (gdName 5) (dNotB (dBool (dCall sp0 3 (dCons (dVar 0) (dCons (dVar 5) (dCons (dOp dSub (dVar 2) (dC (.int 1))) dNil)))))) (dVar 5) [5])) (dLst dNil)))) dNext)
  (dSeq (dIfS (dOrB (dBool (dOp (dInB true) (dVar 3) (dTup (dCons (dC (.str "is")) (dCons (dC (.str "less")) (dCons (dC (.str "most")) (dCons (dC (.str "none")) dNil))))))) (dBool (dOp dNe (dCB dLen (dCons (dVar 4) dNil)) (dOp dSub (dC (.int 2)) (dCB dIntC (dCons (dOp dEq (dVar 3) (dC (.str "none"))) dNil)))))) (dRet (dC (.bl false))) dNext)
  (dRet (dAnd (dCB dIsi (dCons (dOp dIx (dVar 4) (dC (.int 0))) (dCons (dC (.ty "str")) dNil))) (dAnd (dOp (dInB false) (dOp dIx (dVar 4) (dC (.int 0))) (dVar 0)) (dOr (dOp dEq (dVar 3) (dC (.str "none"))) (dCall sp_law_is_value 1 (dCons (dOp dIx (dVar 4) (dC (.int 1))) dNil))))))))))

def sp_law_deep : SpD := fun ds W Q _ => ∃ (p : Addr) (cs : List Col) (d : D) (n : Nat), ds = [.ref p, .lst (cs.map colD), d] ∧ ColsOk cs ∧ Nice 4 9000 d ∧ d ≠ .non ∧ SrcOk W p (n + 2000) ∧ ∀ d' W', Nice 17 80000 d' → d' ≠ .non → SrcOk W' p n → Q d' W'
def d_law_deep : TSD := (dSeq (dFor (iRngD1 (dCons (dOp dIx (dLst (dCons (dC (.int 0)) (dCons (dC (.int 0)) (dCons (dC (.int 9)) (dCons (dC (.int 10)) (dCons (dC (.int 11)) (dCons (dC (.int 12)) dNil))))))) (dCall sp_law_draw 2 (dCons (dVar 0) (dCons (dC (.int 6)) dNil)))) dNil)) (gdName 3)
  (dSeq (dAsg (dCall sp_law_condition 3 (dCons (dVar 0) (dCons (dVar 1) (dCons (dC (.int 0)) dNil)))) (gdName 4))
  (dAsg (dOp dIx (dLst (dCons (dTup (dCons (dC (.str "not")) (dCons (dVar 2) dNil))) (dCons (dTup (dCons (dC (.str "and")) (dCons (dVar 4) (dCons (dVar 2) dNil)))) (dCons (dTup (dCons (dC (.str "or")) (dCons (dVar 2) (dCons (dVar 4) dNil)))) dNil)))) (dCall sp_law_draw 2 (dCons (dVar 0) (dCons (dC (.int 3)) dNil)))) (gdName 2))))
  (dRet (dVar 2)))

def sp_law_told : SpD := fun ds W Q _ => ∃ (a : Nat) (c d r : D), ds = [.str (Str.ofString (["is", "truth", "meets"].getD a "")), c, d, r] ∧ a ≤ 2 ∧ NV (wk c) ∧ lenRow (wk c) ≤ 3000 ∧ NV d ∧ RowD r ∧
  ((a = 0 ∧ ((areNamesD (wk c) = false ∧ Q (.tup [.str (Str.ofString "condition"), .bl true]) W) ∨ (areNamesD (wk c) = true ∧ Q (.tup [.str (Str.ofString "told"), .bl (isCond (colsOf (wk c)) 12 d)]) W))) ∨
   (a = 1 ∧ outT c d r (fun z => Q (.tup [.str (Str.ofString "told"), z]) W) fun cls => Q (.tup [.str (if cls = .ref a_InvalidRow then Str.ofString "row" else Str.ofString "condition"), .bl true]) W) ∨
   (a = 2 ∧ outT c d r (fun z => Q (.tup [.str (Str.ofString "told"), .bl (D.isV z (.bl true))]) W) fun cls => Q (.tup [.str (if cls = .ref a_InvalidRow then Str.ofString "row" else Str.ofString "condition"), .bl true]) W))
def d_law_told : TSD := (dSeq (dAsg (dC (.str "none")) (gdName 4))
  (dSeq (dTry (dIfS (dBool (dOp dEq (dVar 0) (dC (.str "is")))) (dAsg (dTup (dCons (dC (.str "told")) (dCons (dCall sp_is_condition 2 (dCons (dVar 1) (dCons (dVar 2) dNil))) dNil))) (gdName 4)) (dIfS (dBool (dOp dEq (dVar 0) (dC (.str "truth")))) (dAsg (dTup (dCons (dC (.str "told")) (dCons (dCallKX sp_truth_of 3 3 [2, 1, 0] (dCons (dVar 3) (dCons (dVar 2) (dCons (dVar 1) dNil)))) dNil))) (gdName 4)) (dAsg (dTup (dCons (dC (.str "told")) (dCons (dCallKX sp_meets 3 3 [2, 1, 0] (dCons (dVar 3) (dCons (dVar 2) (dCons (dVar 1) dNil)))) dNil))) (gdName 4)))) [⟨.ref a_InvalidCondition, [.ref a_InvalidCondition], [.ref a_InvalidRow], (some 5), (dAsg (dTup (dCons (dC (.str "condition")) (dCons (dIsE [(.ref a_InvalidCondition, true), (.ref a_InvalidRow, true)] (.ref a_StoreError) (dVar 5)) dNil))) (gdName 4))⟩, ⟨.ref a_InvalidRow, [.ref a_InvalidRow], [.ref a_InvalidCondition], (some 5), (dAsg (dTup (dCons (dC (.str "row")) (dCons (dIsE [(.ref a_InvalidCondition, true), (.ref a_InvalidRow, true)] (.ref a_StoreError) (dVar 5)) dNil))) (gdName 4))⟩])
  (dRet (dVar 4))))

def sp_law_any_row : SpD := fun ds W Q _ => ∃ (p : Addr) (cs : List Col) (n : Nat), ds = [.ref p, .lst (cs.map colD)] ∧ ColsOk cs ∧ SrcOk W p (n + 800) ∧ ∀ row W', row.length = cs.length → (∀ x ∈ row, isVal x = true) → SrcOk W' p n → Q (.tup row) W'
def d_law_any_row : TSD := (dSeq (dAsgO 2 (dLstN dNil))
  (dSeq (dFor (iSeq (dVar 1)) (gdTup 3 (gdCons (gdName 3) (gdCons (gdName 4) (gdCons (gdName 5) gdNil))))
  (dSeq (dAsg (dIf (dBool (dOp dEq (dCall sp_law_draw 2 (dCons (dVar 0) (dCons (dC (.int 5)) dNil))) (dC (.int 0)))) (dOp dIx (dLst (dCons (dC (.str "int")) (dCons (dC (.str "text")) (dCons (dC (.str "truth")) dNil)))) (dCall sp_law_draw 2 (dCons (dVar 0) (dCons (dC (.int 3)) dNil)))) (dVar 4)) (gdName 6))
  (dApp 2 (dIf (dBool (dOp dEq (dCall sp_law_draw 2 (dCons (dVar 0) (dCons (dC (.int 5)) dNil))) (dC (.int 0)))) (dC .non) (dCall sp_law_value 2 (dCons (dVar 0) (dCons (dVar 6) dNil)))))))
  (dFrz 2 (dRet (dCB dTupC (dCons (dVar 2) dNil))))))

def sp_law_odd_row : SpD := fun ds W Q _ => ∃ (p : Addr) (row : List D) (n : Nat), ds = [.ref p, .tup row] ∧ row.length ≤ 8 ∧ (∀ x ∈ row, isVal x = true) ∧ SrcOk W p (n + 2) ∧ ∀ r W', RowD r → SrcOk W' p n → Q r W'
def d_law_odd_row : TSD := (dSeq (dAsg (dOp dIx (dLst (dCons (dOp dPow (dC (.int 10)) (dC (.int 30))) (dCons (dOp dMulA (dC (.str "x")) (dC (.int 201))) (dCons (dC (.str "a\n")) (dCons (dTup dNil) (dCons (dLst dNil) (dCons (dFreshD dEmp) dNil))))))) (dCall sp_law_draw 2 (dCons (dVar 0) (dCons (dC (.int 6)) dNil)))) (gdName 2))
  (dRet (dOp dIx (dLst (dCons (dOp dAdd (dVar 1) (dTup (dCons (dC (.int 1)) dNil))) (dCons (dSl dCut (dVar 1) (dPart (dC (.int 1))) dNoP) (dCons (dCB dListC (dCons (dVar 1) dNil)) (dCons (dC .non) (dCons (dOp dAdd (dSl dCut (dVar 1) dNoP (dPart (dNeg (dC (.int 1))))) (dTup (dCons (dVar 2) dNil))) (dCons (dC (.str "a")) (dCons (dC (.int 5)) (dCons (dOp dAdd (dTup (dCons (dVar 2) dNil)) (dSl dCut (dVar 1) (dPart (dC (.int 1))) dNoP)) dNil))))))))) (dCall sp_law_draw 2 (dCons (dVar 0) (dCons (dC (.int 8)) dNil))))))

def sp_law_right : SpD := fun ds W Q _ => ∃ (p : Addr) (n : Nat), ds = [.ref p] ∧ SrcOk W p (n + 20000) ∧ ∀ W', SrcOk W' p n → Q (.bl true) W'
def d_law_right : TSD := (dSeq (dAsg (dCB dTupF (dCons (dCall sp_law_words 3 (dCons (dVar 0) (dCons (dOp dAdd (dC (.int 1)) (dCall sp_law_draw 2 (dCons (dVar 0) (dCons (dC (.int 4)) dNil)))) (dCons (dLst dNil) dNil)))) dNil)) (gdName 1))
  (dSeq (dAsg (dFresh (dLc (iTupD (dWk (dVar 1))) (gdName 14) dYes (dTup (dCons (dVar 14) (dCons (dOp dIx (dLst (dCons (dC (.str "int")) (dCons (dC (.str "text")) (dCons (dC (.str "truth")) dNil)))) (dCall sp_law_draw 2 (dCons (dVar 0) (dCons (dC (.int 3)) dNil)))) (dCons (dC (.bl true)) dNil)))) [14])) (gdName 2))
  (dSeq (dAsg (dCall sp_law_deep 3 (dCons (dVar 0) (dCons (dVar 2) (dCons (dCall sp_law_condition 3 (dCons (dVar 0) (dCons (dVar 2) (dCons (dC (.int 3)) dNil)))) dNil)))) (gdName 3))
  (dSeq (dIfS (dBool (dOp dEq (dCall sp_law_draw 2 (dCons (dVar 0) (dCons (dC (.int 3)) dNil))) (dC (.int 0)))) (dAsg (dCall sp_law_bent 2 (dCons (dVar 0) (dCons (dVar 3) dNil))) (gdName 3)) dNext)
  (dSeq (dAsg (dIf (dBool (dOp dIsA (dVar 3) (dC .non))) (dTup dNil) (dVar 3)) (gdName 3))
  (dSeq (dPar 4 5 (dCons (dCall sp_law_is_condition 3 (dCons (dWk (dVar 1)) (dCons (dVar 3) (dCons (dC (.int 12)) dNil)))) (dCons (dCB dRepr (dCons (dVar 3) dNil)) dNil)))
  (dSeq (dIfS (dNotB (dBool (dCall sp_law_same 2 (dCons (dLst (dCons (dCall sp_is_condition 2 (dCons (dVar 1) (dCons (dVar 3) dNil))) (dCons (dCallKX sp_is_condition 2 2 [1, 0] (dCons (dVar 3) (dCons (dVar 1) dNil))) dNil))) (dCons (dLst (dCons (dVar 4) (dCons (dVar 4) dNil))) dNil))))) (dRet (dC (.bl false))) dNext)
  (dSeq (dFor (iRngD1 (dCons (dC (.int 4)) dNil)) (gdName 6)
  (dSeq (dAsg (dCall sp_law_any_row 2 (dCons (dVar 0) (dCons (dVar 2) dNil))) (gdName 7))
  (dSeq (dAsg (dIf (dBool (dVar 4)) (dCall sp_law_truths 3 (dCons (dCB dListC (dCons (dWk (dVar 1)) dNil)) (dCons (dVar 3) (dCons (dVar 7) dNil)))) (dTup (dCons (dC (.bl false)) (dCons (dC (.bl false)) dNil)))) (gdTup 2 (gdCons (gdName 8) (gdCons (gdName 9) gdNil))))
  (dSeq (dAsg (dIf (dBool (dVar 4)) (dTup (dCons (dC (.str "told")) (dCons (dIf (dBool (dVar 8)) (dC (.bl true)) (dIf (dBool (dVar 9)) (dC (.bl false)) (dC .non))) dNil))) (dTup (dCons (dC (.str "condition")) (dCons (dC (.bl true)) dNil)))) (gdName 10))
  (dSeq (dIfS (dNotB (dBool (dCall sp_law_same 2 (dCons (dCall sp_law_told 4 (dCons (dC (.str "truth")) (dCons (dVar 1) (dCons (dVar 3) (dCons (dVar 7) dNil))))) (dCons (dVar 10) dNil))))) (dRet (dC (.bl false))) dNext)
  (dSeq (dIfS (dNotB (dBool (dCall sp_law_same 2 (dCons (dCall sp_law_told 4 (dCons (dC (.str "meets")) (dCons (dVar 1) (dCons (dVar 3) (dCons (dVar 7) dNil))))) (dCons (dIf (dBool (dVar 4)) (dTup (dCons (dC (.str "told")) (dCons (dVar 8) dNil))) (dTup (dCons (dC (.str "condition")) (dCons (dC (.bl true)) dNil)))) dNil))))) (dRet (dC (.bl false))) dNext)
  (dSeq (dAsg (dCall sp_law_odd_row 2 (dCons (dVar 0) (dCons (dVar 7) dNil))) (gdName 11))
  (dSeq (dIfS (dOrB (dNotB (dBool (dCB dIsi (dCons (dVar 11) (dCons (dC (.ty "tuple")) dNil))))) (dOrB (dBool (dOp dNe (dCB dLen (dCons (dVar 11) dNil)) (dCB dLen (dCons (dWk (dVar 1)) dNil)))) (dBool (dOp dNeE (dFresh (dLc (iTupD (dVar 11)) (gdName 15) (dNotB (dBool (dCall sp_law_is_value 1 (dCons (dVar 15) dNil)))) (dVar 15) [15])) (dLst dNil))))) (dIfS (dNotB (dBool (dCall sp_law_same 2 (dCons (dCall sp_law_told 4 (dCons (dOp dIx (dLst (dCons (dC (.str "truth")) (dCons (dC (.str "meets")) dNil))) (dOp dMod (dVar 6) (dC (.int 2)))) (dCons (dVar 1) (dCons (dVar 3) (dCons (dVar 11) dNil))))) (dCons (dTup (dCons (dIf (dBool (dVar 4)) (dC (.str "row")) (dC (.str "condition"))) (dCons (dC (.bl true)) dNil))) dNil))))) (dRet (dC (.bl false))) dNext) dNext)
  (dSeq (dIfS (dNotB (dBool (dCall sp_law_same 2 (dCons (dLst (dCons (dCall sp_truth_of 3 (dCons (dVar 1) (dCons (dC .non) (dCons (dVar 7) dNil)))) (dCons (dCall sp_meets 3 (dCons (dVar 1) (dCons (dC .non) (dCons (dVar 7) dNil)))) dNil))) (dCons (dLst (dCons (dC (.bl true)) (dCons (dC (.bl true)) dNil))) dNil))))) (dRet (dC (.bl false))) dNext)
  (dIfS (dNotB (dBool (dCall sp_law_same 2 (dCons (dCall sp_law_told 4 (dCons (dOp dIx (dLst (dCons (dC (.str "truth")) (dCons (dC (.str "meets")) dNil))) (dOp dMod (dVar 6) (dC (.int 2)))) (dCons (dVar 1) (dCons (dC .non) (dCons (dOp dAdd (dVar 7) (dTup (dCons (dC (.int 1)) dNil))) dNil))))) (dCons (dTup (dCons (dC (.str "row")) (dCons (dC (.bl true)) dNil))) dNil))))) (dRet (dC (.bl false))) dNext))))))))))
  (dSeq (dAsg (dOp dIx (dLst (dCons (dTup (dCons (dC (.str "a")) (dCons (dC (.str "a")) dNil))) (dCons (dLst (dCons (dC (.str "a")) dNil)) (dCons (dC .non) (dCons (dTup (dCons (dC (.str "A")) dNil)) (dCons (dC (.int 5)) (dCons (dTup (dCons (dC (.str "")) dNil)) (dCons (dTup (dCons (dC (.str "a")) (dCons (dC .non) dNil))) dNil)))))))) (dCall sp_law_draw 2 (dCons (dVar 0) (dCons (dC (.int 7)) dNil)))) (gdName 12))
  (dSeq (dAsg (dLst (dCons (dCall sp_law_told 4 (dCons (dC (.str "truth")) (dCons (dVar 12) (dCons (dC .non) (dCons (dTup dNil) dNil))))) (dCons (dCall sp_law_told 4 (dCons (dC (.str "meets")) (dCons (dVar 12) (dCons (dVar 3) (dCons (dTup (dCons (dC (.int 1)) dNil)) dNil))))) (dCons (dCall sp_law_told 4 (dCons (dC (.str "is")) (dCons (dVar 12) (dCons (dVar 3) (dCons (dTup dNil) dNil))))) dNil)))) (gdName 13))
  (dSeq (dIfS (dNotB (dBool (dCall sp_law_same 2 (dCons (dVar 13) (dCons (dOp dMulA (dLst (dCons (dTup (dCons (dC (.str "condition")) (dCons (dC (.bl true)) dNil))) dNil)) (dC (.int 3))) dNil))))) (dRet (dC (.bl false))) dNext)
  (dSeq (dAsg (dOp dIx (dLst (dCons (dCall sp_law_word 1 (dCons (dVar 0) dNil)) (dCons (dC (.str "")) (dCons (dC (.str "abcdefghi")) (dCons (dC (.str "a b")) (dCons (dC (.str "A")) (dCons (dOp dMulA (dC (.str "z")) (dC (.int 8))) (dCons (dC (.int 5)) (dCons (dC .non) (dCons (dTup (dCons (dC (.str "a")) dNil)) (dCons (dC (.str "a1")) (dCons (dC (.str "~")) dNil)))))))))))) (dCall sp_law_draw 2 (dCons (dVar 0) (dCons (dC (.int 11)) dNil)))) (gdName 14))
  (dRet (dAnd (dCall sp_law_same 2 (dCons (dLst (dCons (dCall sp_is_name 1 (dCons (dVar 14) dNil)) (dCons (dCallKX sp_is_name 1 1 [0] (dCons (dVar 14) dNil)) dNil))) (dCons (dOp dMulA (dLst (dCons (dCall sp_law_is_name 1 (dCons (dVar 14) dNil)) dNil)) (dC (.int 2))) dNil))) (dOp dEq (dCB dRepr (dCons (dVar 3) dNil)) (dVar 5))))))))))))))))

def sp_law : SpD := spTrue

def d_law : TSD := (dSeq (dFor (iSeq (dOp dAdd (dLst (dCons (dCB dLen (dCons (dVar 0) dNil)) dNil)) (dSl dCut (dVar 0) dNoP (dPart (dC (.int 6)))))) (gdName 1)
  (dSeq (dAsg (dCall sp_law_source 1 (dCons (dVar 1) dNil)) (gdName 2))
  (dIfS (dOrB (dNotB (dBool (dCall sp_law_right 1 (dCons (dVar 2) dNil)))) (dNotB (dBool (dCall sp_law_right 1 (dCons (dVar 2) dNil))))) (dRet (dC (.bl false))) dNext)))
  (dRet (dCall sp_law_same 2 (dCons (dLst (dCons (dCall sp_truth_of 3 (dCons (dTup dNil) (dCons (dC .non) (dCons (dTup dNil) dNil)))) (dCons (dCall sp_meets 3 (dCons (dTup dNil) (dCons (dC .non) (dCons (dTup dNil) dNil)))) (dCons (dCall sp_is_condition 2 (dCons (dTup dNil) (dCons (dTup (dCons (dC (.str "none")) (dCons (dC (.str "a")) dNil))) dNil))) dNil)))) (dCons (dLst (dCons (dC (.bl true)) (dCons (dC (.bl true)) (dCons (dC (.bl false)) dNil)))) dNil)))))

end K23

namespace K23
open PySem PySem.Spec L2 G TL C Q
theorem rd_is_integer : Rd n_is_integer 1 sp_is_integer d_is_integer := by
  rintro ds W Q Qx _ ⟨d, rfl, hs, h⟩
  rcases any_cases hs with rfl | ⟨_, rfl⟩ | ⟨_, rfl⟩ | ⟨_, rfl, _⟩ | ⟨_, rfl⟩ | ⟨_, rfl⟩ | rfl
  · exact ⟨_, false, rfl, rfl, h⟩
  · exact ⟨_, true, rfl, rfl, _, true, rfl, rfl, h⟩
  · exact ⟨_, true, rfl, rfl, _, false, rfl, rfl, h⟩
  · exact ⟨_, false, rfl, rfl, h⟩
  · exact ⟨_, false, rfl, rfl, h⟩
  · exact ⟨_, false, rfl, rfl, h⟩
  · exact ⟨_, false, rfl, rfl, h⟩
theorem le_signs (c : Nat) {P : D → Prop} (hP : P (.bl (decide (32 ≤ c) && decide (c ≤ 126)))) : (match D.bl (!ltS (mkS [c]) (mkS [32])) with | .v (.bl true) => P (.bl (!ltS (mkS [126]) (mkS [c]))) | .v (.bl false) => P (.bl false) | _ => False) := by
  by_cases h32 : c < 32
  · rw [ltS_one, decide_eq_true h32]
    rw [decide_eq_false (by omega : ¬ 32 ≤ c)] at hP
    exact hP
  · rw [ltS_one, ltS_one, decide_eq_false h32]
    have e : decide (c ≤ 126) = !decide (126 < c) := by
      by_cases h : c ≤ 126
      · rw [decide_eq_true h, decide_eq_false (by omega)]; rfl
      · rw [decide_eq_false h, decide_eq_true (by omega)]; rfl
    rw [decide_eq_true (by omega : 32 ≤ c), Bool.true_and, e] at hP
    exact hP
theorem rd_is_text : Rd n_is_text 1 sp_is_text d_is_text := by
  rintro ds W Q Qx _ ⟨d, rfl, hs, h⟩
  show d_is_text _ [some (.sh d), none] W
  unfold d_is_text
  rw [so_sp, so_ti]
  rcases any_cases hs with rfl | ⟨_, rfl⟩ | ⟨i, rfl⟩ | ⟨s, rfl, hl⟩ | ⟨_, rfl⟩ | ⟨_, rfl⟩ | rfl
  · exact ⟨_, false, rfl, rfl, h⟩
  · exact ⟨_, false, rfl, rfl, h⟩
  · exact ⟨_, false, rfl, rfl, h⟩
  · refine ⟨_, true, rfl, rfl, ?_⟩
    refine dLc_mapF (tl s) (fun c => .str (mkS [c])) (fun c => .bl (decide (32 ≤ c) && decide (c ≤ 126))) (noOwn1 (by simp)) (sz _ (by rw [← len_tl s]; omega)) (fun P hP => hP) (fun c hc P hP => ?_) ?_
    · exact le_signs c (P := fun z => P z _ _) hP
    · refine ⟨(tl s).map fun c => decide (32 ≤ c) && decide (c ≤ 126), bls_map _ _, ?_⟩
      rw [List.all_map]
      exact h
  · exact ⟨_, false, rfl, rfl, h⟩
  · exact ⟨_, false, rfl, rfl, h⟩
  · exact ⟨_, false, rfl, rfl, h⟩
theorem abs_le (i : Int) : decide ((if i < 0 then -i else i) ≤ (999999999999999999999999999999 : Int)) = decide (i.natAbs ≤ 999999999999999999999999999999) := by
  refine decide_eq_decide.mpr ?_
  split <;> omega
theorem rd_is_value : Rd n_is_value 1 sp_is_value d_is_value := by
  rintro ds W Q Qx _ ⟨d, rfl, hs, h⟩
  show d_is_value _ [some (.sh d)] W
  unfold d_is_value
  have hsa := hs
  rcases any_cases hs with rfl | ⟨_, rfl⟩ | ⟨i, rfl⟩ | ⟨s, rfl, hl⟩ | ⟨_, rfl⟩ | ⟨_, rfl⟩ | rfl
  · exact h
  · exact ⟨_, true, rfl, rfl, h⟩
  · refine ⟨_, false, rfl, rfl, ?_⟩
    refine ⟨rfl, .int i, rfl, hsa, ?_⟩
    show Q (.bl (decide ((if i < 0 then -i else i) ≤ (999999999999999999999999999999 : Int)))) W
    rw [abs_le]; exact h
  · refine ⟨_, false, rfl, rfl, ?_⟩
    refine ⟨rfl, .str s, rfl, hsa, ?_⟩
    refine ⟨rfl, .str s, rfl, hsa, ?_⟩
    have h : Q (.bl (textB (tl s) && decide (s.length ≤ 200))) W := h
    show (match D.bl (textB (tl s)) with | .v (.bl true) => _ | .v (.bl false) => _ | _ => False)
    cases e : textB (tl s) with
    | false => rw [e] at h; exact h
    | true =>
      rw [e, Bool.true_and] at h
      refine ⟨sz _ (by omega), ?_⟩
      show Q (.bl (decide ((s.length : Int) ≤ 200))) W
      rw [show decide ((s.length : Int) ≤ 200) = decide (s.length ≤ 200) from decide_eq_decide.mpr (by omega)]
      exact h
  · exact ⟨_, false, rfl, rfl, rfl, _, rfl, hsa, rfl, _, rfl, hsa, h⟩
  · exact ⟨_, false, rfl, rfl, rfl, _, rfl, hsa, rfl, _, rfl, hsa, h⟩
  · exact ⟨_, false, rfl, rfl, rfl, _, rfl, hsa, rfl, _, rfl, hsa, h⟩
theorem rd_is_name : Rd n_is_name 1 sp_is_name d_is_name := by
  rintro ds W Q Qx _ ⟨d, rfl, hs, h⟩
  show d_is_name _ [some (.sh d), none] W
  unfold d_is_name
  rw [so_letters]
  rcases any_cases (any_nv hs) with rfl | ⟨_, rfl⟩ | ⟨i, rfl⟩ | ⟨s, rfl, hl⟩ | ⟨_, rfl⟩ | ⟨_, rfl⟩ | rfl
  · exact ⟨_, false, rfl, rfl, h⟩
  · exact ⟨_, false, rfl, rfl, h⟩
  · exact ⟨_, false, rfl, rfl, h⟩
  · refine ⟨_, true, rfl, rfl, ?_⟩
    have es : s.length = (tl s).length := len_tl' s
    have h : Q (.bl (nameB (tl s))) W := h
    unfold nameB at h
    refine ⟨sz _ (by omega), ?_⟩
    show (match D.bl (decide ((1 : Int) ≤ (s.length : Int))) with | .v (.bl true) => _ | .v (.bl false) => _ | _ => False)
    rw [show decide ((1 : Int) ≤ (s.length : Int)) = decide (1 ≤ (tl s).length) from decide_eq_decide.mpr (by omega)]
    cases e1 : decide (1 ≤ (tl s).length) with
    | false => rw [e1, Bool.false_and, Bool.false_and] at h; exact h
    | true =>
      rw [e1, Bool.true_and] at h
      show (if (!decide ((s.length : Int) ≤ 8)) = true then _ else _)
      rw [show decide ((s.length : Int) ≤ 8) = decide ((tl s).length ≤ 8) from decide_eq_decide.mpr (by omega)]
      cases e2 : decide ((tl s).length ≤ 8) with
      | false => rw [e2, Bool.false_and] at h; exact h
      | true =>
        rw [e2, Bool.true_and] at h
        refine hno ?_
        refine dLc_mapF (tl s) (fun c => .str (mkS [c])) (fun c => .bl (decide (c ∈ letters))) (noOwn1 (by simp)) (sz _ (by rw [← len_tl s]; omega)) (fun P hP => hP) (fun c hc P hP => ?_) ?_
        · refine .inl ?_
          show P (.bl (inS (mkS [c]) (mkS letters))) _ _
          rw [inS_one]; exact hP
        · refine ⟨(tl s).map fun c => decide (c ∈ letters), bls_map _ _, ?_⟩
          rw [List.all_map]
          exact h
  · exact ⟨_, false, rfl, rfl, h⟩
  · exact ⟨_, false, rfl, rfl, h⟩
  · have := hs.good; simp [D.good] at this
theorem names_strs {xs : List D} (h : xs.all isNameD = true) : xs = (xs.map strOf).map D.str := by
  rw [List.map_map]
  conv => lhs; rw [← List.map_id xs]
  refine List.map_congr_left fun x hx => ?_
  have := List.all_eq_true.mp h x hx
  unfold isNameD at this
  split at this
  · rfl
  · cases this
theorem dds_strs (ss : List Str) : decide (((dds (ss.map Sum.inr)).length : Int) = (ss.length : Int)) = decide ss.Nodup := by
  refine decide_eq_decide.mpr ?_
  have h := dds_len_eq (ss.map (Sum.inr : Str → Key))
  rw [List.length_map] at h
  constructor
  · intro e
    have := h.mp (by omega)
    exact (List.pairwise_map.mp this).imp fun {a b} q e => q (by rw [e])
  · intro e
    have : (ss.map (Sum.inr : Str → Key)).Nodup := List.pairwise_map.mpr (e.imp fun {a b} q e => q (Sum.inr.inj e))
    have := h.mpr this
    omega
theorem rd_are_names : Rd n_are_names 1 sp_are_names d_are_names := by
  rintro ds W Q Qx _ ⟨d, rfl, hs, hlen, h⟩
  show d_are_names _ [some (.sh d), none] W
  unfold d_are_names
  rcases nv_cases hs with rfl | ⟨_, rfl⟩ | ⟨i, rfl⟩ | ⟨s, rfl⟩ | ⟨xs, rfl⟩ | ⟨_, rfl⟩
  · exact ⟨_, false, rfl, rfl, h⟩
  · exact ⟨_, false, rfl, rfl, h⟩
  · exact ⟨_, false, rfl, rfl, h⟩
  · exact ⟨_, false, rfl, rfl, h⟩
  · refine ⟨_, true, rfl, rfl, ?_⟩
    have hl := nv_len hs
    have h : Q (.bl (xs.all isNameD && decide (xs.map strOf).Nodup)) W := h
    refine dLc_mapF xs id (fun d => .bl (isNameD d)) (noOwn1 (by simp)) (sz _ (by omega)) (fun P hP => by rw [List.map_id] at hP; exact hP) (fun d hd P hP => ⟨rfl, d, rfl, nv_item hs hd, hP⟩) ?_
    refine ⟨xs.map isNameD, bls_map _ _, ?_⟩
    rw [List.all_map]
    show (if (!xs.all isNameD) = true then _ else _)
    cases ha : xs.all isNameD with
    | false => rw [ha, Bool.false_and] at h; exact h
    | true =>
      rw [ha, Bool.true_and] at h
      have e := names_strs ha
      have e2 : xs = ((xs.map strOf).map (Sum.inr : Str → Key)).map kD := by
        rw [List.map_map]; exact e
      have hlen : xs.length ≤ 3000 := hlen
      refine hno ⟨(xs.map strOf).map Sum.inr, .inr (.inl (by rw [← e2])), by rw [List.length_map, List.length_map]; omega, ?_⟩
      refine dEq_int ?_
      have := dds_strs (xs.map strOf)
      rw [List.length_map] at this
      rw [this]; exact h
  · exact ⟨_, false, rfl, rfl, h⟩
theorem at0 (a b : D) (r : List D) : atI (a :: b :: r) 0 = some a := atI_of (i := 0) rfl
theorem at1 (a b : D) (r : List D) : atI (a :: b :: r) 1 = some b := atI_of (i := 1) rfl
theorem at2 (a b c : D) (r : List D) : atI (a :: b :: c :: r) 2 = some c := atI_of (i := 2) rfl
theorem in_words3 {d : D} (h : NV d) {P : D → Prop} (q : P (.bl (D.isV d (.str wIs) || D.isV d (.str wLess) || D.isV d (.str wMost)))) : dInB false d (.tup (List.map D.v [.str (Str.ofString "is"), .str (Str.ofString "less"), .str (Str.ofString "most")])) P := by
  have := in_strs (neg := false) h (ss := [wIs, wLess, wMost]) (fun s hs => by
    simp only [List.mem_cons, List.not_mem_nil, or_false] at hs
    rcases hs with rfl | rfl | rfl
    · exact ok_is
    · exact ok_less
    · exact ok_most) (P := P) (by simpa [Bool.or_assoc] using q)
  exact this
theorem in_words2 {d : D} (h : NV d) {P : D → Prop} (q : P (.bl (D.isV d (.str wAnd) || D.isV d (.str wOr)))) : dInB false d (.tup (List.map D.v [.str (Str.ofString "and"), .str (Str.ofString "or")])) P := by
  have := in_strs (neg := false) h (ss := [wAnd, wOr]) (fun s hs => by
    simp only [List.mem_cons, List.not_mem_nil, or_false] at hs
    rcases hs with rfl | rfl
    · exact ok_and
    · exact ok_or) (P := P) (by simpa using q)
  exact this
theorem len_eqB (n : Nat) (m : Nat) : decide ((n : Int) = (m : Int)) = decide (n = m) := decide_eq_decide.mpr (by omega)
theorem rd_is_leaf : Rd n_is_leaf 2 sp_is_leaf d_is_leaf := by
  rintro ds W Q Qx _ ⟨cols, a, b, r, rfl, hc, hs, h⟩
  show d_is_leaf _ [some (.sh (.tup (cols.map D.str))), some (.sh (.tup (a :: b :: r)))] W
  unfold d_is_leaf
  have na : NV a := nv_item hs (by simp)
  have nb : NV b := nv_item hs (by simp)
  unfold leafB at h
  refine ⟨b, at1 a b r, in_strs (neg := true) nb hc ?_⟩
  rw [inCols_any]
  cases eb : inCols cols b with
  | false => rw [eb, Bool.false_and] at h; exact h
  | true =>
    rw [eb, Bool.true_and] at h
    refine hno ?_
    refine ⟨a, at0 a b r, eq_strV ok_none na ?_⟩
    cases en : D.isV a (.str wNone) with
    | true =>
      rw [en, if_pos rfl] at h
      refine ite_t (dEq_int ?_)
      have e : decide (((a :: b :: r).length : Int) = 2) = r.isEmpty := by
        cases r with
        | nil => rfl
        | cons c r => exact decide_eq_false (by simp only [List.length_cons]; omega)
      rw [e]; exact h
    | false =>
      rw [en, if_neg Bool.false_ne_true] at h
      refine ite_f ⟨a, at0 a b r, in_words3 na ?_⟩
      cases ew : (D.isV a (.str wIs) || D.isV a (.str wLess) || D.isV a (.str wMost)) with
      | false => rw [ew, Bool.false_and] at h; exact h
      | true =>
        rw [ew, Bool.true_and] at h
        refine dEq_int ?_
        match r with
        | [c] =>
          exact ⟨c, at2 a b c [], rfl, c, rfl, any_nv (nv_item hs (by simp)), h⟩
        | [] => exact h
        | c :: e :: r =>
          rw [decide_eq_false (by simp only [List.length_cons]; omega)]
          exact h
theorem cut1 (a b : D) (r : List D) : cutD (a :: b :: r) (some 1) none = b :: r := by
  unfold cutD
  rw [show (1 : Int) = ((1 : Nat) : Int) from rfl, HT.sIx_nat, HT.sIx_none]
  simp
theorem rdn_is_condition_to (n : Nat) (sp0 : SpD) (h0 : ∀ m, n = m + 1 → sp0 = spn_is_condition_to m) : Rd n_is_condition_to 3 (spn_is_condition_to n) (d_is_condition_to sp0) := by
  rintro ds W Q Qx _ ⟨cols, d, rfl, hc, hs, h⟩
  show d_is_condition_to sp0 _ [some (.sh (.tup (cols.map D.str))), some (.sh d), some (.sh (.int n)), none] W
  unfold d_is_condition_to
  refine dEq_int ?_
  cases n with
  | zero => exact h
  | succ n =>
    rw [decide_eq_false (by omega : ¬ (((n + 1 : Nat) : Int) = 0))]
    have e0 := h0 n rfl
    subst e0
    refine ite_f ?_
    have en : ((n + 1 : Nat) : Int) - 1 = (n : Nat) := by omega
    rcases nv_cases hs with rfl | ⟨_, rfl⟩ | ⟨i, rfl⟩ | ⟨s, rfl⟩ | ⟨xs, rfl⟩ | ⟨_, rfl⟩
    · exact ⟨_, false, rfl, rfl, h⟩
    · exact ⟨_, false, rfl, rfl, h⟩
    · exact ⟨_, false, rfl, rfl, h⟩
    · exact ⟨_, false, rfl, rfl, h⟩
    · refine ⟨_, true, rfl, rfl, ?_⟩
      match xs with
      | [] => exact h
      | [x] => exact h
      | a :: b :: r =>
        have na : NV a := nv_item hs (by simp)
        have nb : NV b := nv_item hs (by simp)
        show (if decide (((a :: b :: r).length : Int) < 2) = true then _ else _)
        rw [decide_eq_false (by simp only [List.length_cons]; omega)]
        refine ite_f ?_
        unfold isCond at h
        dsimp only at h
        refine ⟨a, at0 a b r, in_words2 na ?_⟩
        cases e1 : (D.isV a (.str wAnd) || D.isV a (.str wOr)) with
        | true =>
          rw [e1, if_pos rfl] at h
          refine ite_t (dEq_int ?_)
          match r with
          | [c] =>
            refine dLc_mapF [b, c] id (fun d => .bl (isCond cols n d)) (noOwn1 (by simp)) (sz 2 (by decide)) (fun P hP => ?_) (fun x hx P hP => ?_) ?_
            · show P (cutD [a, b, c] (some 1) none) _ _
              rw [cut1]; exact hP
            · refine ⟨rfl, cols, x, ?_, hc, ?_, hP⟩
              · show [_, _, D.int (((n + 1 : Nat) : Int) - 1)] = _
                rw [en]; rfl
              · simp only [List.mem_cons, List.not_mem_nil, or_false] at hx
                rcases hx with rfl | rfl
                · exact nb
                · exact nv_item hs (by simp)
            · refine ⟨[isCond cols n b, isCond cols n c], rfl, ?_⟩
              show Q (.bl (isCond cols n b && (isCond cols n c && true))) W
              rw [Bool.and_true]; exact h
          | [] => exact h
          | c :: e :: r =>
            rw [decide_eq_false (by simp only [List.length_cons]; omega)]
            exact h
        | false =>
          rw [e1, if_neg Bool.false_ne_true] at h
          refine ite_f ⟨a, at0 a b r, eq_strV ok_not na ?_⟩
          cases e2 : D.isV a (.str wNot) with
          | true =>
            rw [e2, if_pos rfl] at h
            refine ite_t (dEq_int ?_)
            match r with
            | [] =>
              refine ⟨b, at1 a b [], rfl, cols, b, ?_, hc, nb, h⟩
              show [_, _, D.int (((n + 1 : Nat) : Int) - 1)] = _
              rw [en]
            | c :: r =>
              rw [decide_eq_false (by simp only [List.length_cons]; omega)]
              exact h
          | false =>
            rw [e2, if_neg Bool.false_ne_true] at h
            exact ite_f ⟨rfl, cols, a, b, r, rfl, hc, hs, h⟩
    · exact ⟨_, false, rfl, rfl, h⟩
end K23

namespace K23
open PySem PySem.Spec L2 G TL C Q
theorem names_are {d : D} (h : areNamesD d = true) : ∃ cols, d = .tup (cols.map D.str) ∧ colsOf d = cols ∧ cols.Nodup ∧ ∀ s ∈ cols, PyData.strOk s = true := by
  unfold areNamesD at h
  split at h
  · rename_i xs
    rw [Bool.and_eq_true] at h
    refine ⟨xs.map strOf, by rw [← names_strs h.1], rfl, of_decide_eq_true h.2, fun s hs => ?_⟩
    rw [List.mem_map] at hs
    obtain ⟨x, hx, rfl⟩ := hs
    have := List.all_eq_true.mp h.1 x hx
    unfold isNameD at this
    split at this
    · rename_i s
      have := pr_ok (name_pr this)
      rwa [mkS_tl] at this
    · cases this
  · cases h
theorem rd_is_condition : Rd n_is_condition 2 sp_is_condition d_is_condition := by
  rintro ds W Q Qx _ ⟨c, d, rfl, hc, hlc, hd, h⟩
  show d_is_condition _ [some (.sh c), some (.sh d)] W
  unfold d_is_condition
  refine ⟨rfl, wk c, rfl, hc, hlc, ?_⟩
  rcases h with ⟨e, h⟩ | ⟨e, h⟩
  · rw [e]; exact h
  · rw [e]
    obtain ⟨cols, e1, e2, _, e4⟩ := names_are e
    rw [e2] at h
    exact hno ⟨rfl, cols, d, by rw [e1]; rfl, e4, hd, h⟩
theorem rd_check_condition : Rd n_check_condition 2 sp_check_condition d_check_condition := by
  rintro ds W Q Qx _ ⟨c, d, rfl, hc, hlc, hd, h⟩
  show d_check_condition _ [some (.sh c), some (.sh d)] W
  unfold d_check_condition
  refine ⟨rfl, wk c, rfl, hc, hlc, ?_⟩
  cases e : areNamesD (wk c) with
  | false =>
    rw [e] at h
    rcases h with ⟨_, h⟩ | ⟨z, _⟩
    · exact h
    · cases z
  | true =>
    obtain ⟨cols, e1, e2, _, e4⟩ := names_are e
    rw [e, Bool.true_and, e2] at h
    refine hno ?_
    show (if (!D.isV d .non) = true then _ else _)
    cases en : D.isV d .non with
    | true =>
      rw [en, Bool.true_or] at h
      rcases h with ⟨z, _⟩ | ⟨_, h⟩
      · cases z
      · exact h
    | false =>
      rw [en, Bool.false_or] at h
      refine ite_t ⟨rfl, cols, d, by rw [e1]; rfl, e4, hd, ?_⟩
      rcases h with ⟨z, h⟩ | ⟨z, h⟩
      · rw [z]; exact h
      · rw [z]; exact h
theorem rd_is_row : Rd n_is_row 1 sp_is_row d_is_row := by
  rintro ds W Q Qx _ ⟨d, rfl, hs, h⟩
  show d_is_row _ [some (.sh d), none] W
  unfold d_is_row
  have go : ∀ xs : List D, xs.length ≤ 500000 → (∀ x ∈ xs, AnyD x) → Q (.bl (xs.all isVal)) W → dLc (iTupD (dVar 0)) (gdName 1) dYes (dCall sp_is_value 1 (dCons (dVar 1) dNil)) [1] [some (.sh (.tup xs)), none] W (fun ys _ W' => dAll [.lst ys] fun z => Q z W') (fun cls x _ W' => Qx cls x W') := fun xs hl ha h => by
    refine dLc_mapF xs id (fun d => .bl (isVal d)) (noOwn1 (by simp)) (sz _ (by omega)) (fun P hP => by rw [List.map_id] at hP; exact hP) (fun d hd P hP => ⟨rfl, d, rfl, ha d hd, hP⟩) ?_
    refine ⟨xs.map isVal, bls_map _ _, ?_⟩
    rw [List.all_map]
    exact h
  rcases hs with hs | ⟨xs, rfl, hl, ha⟩
  · have hsa := hs
    rcases any_cases hs with rfl | ⟨_, rfl⟩ | ⟨i, rfl⟩ | ⟨s, rfl, hl⟩ | ⟨xs, rfl⟩ | ⟨_, rfl⟩ | rfl
    · exact ⟨_, false, rfl, rfl, h⟩
    · exact ⟨_, false, rfl, rfl, h⟩
    · exact ⟨_, false, rfl, rfl, h⟩
    · exact ⟨_, false, rfl, rfl, h⟩
    · have nx : NV (.tup xs) := by
        rcases hsa with h | h
        · exact h
        · cases h
      exact ⟨_, true, rfl, rfl, go xs (nv_len nx) (fun x hx => any_nv (nv_item nx hx)) h⟩
    · exact ⟨_, false, rfl, rfl, h⟩
    · exact ⟨_, false, rfl, rfl, h⟩
  · exact ⟨_, true, rfl, rfl, go xs (by omega) ha h⟩
theorem rd_kind_of : Rd n_kind_of 1 sp_kind_of d_kind_of := by
  rintro ds W Q Qx _ ⟨d, rfl, hs, h⟩
  show d_kind_of _ [some (.sh d)] W
  unfold d_kind_of
  cases d with
  | v x =>
    cases x with
    | non => exact h
    | bl b => exact ⟨_, true, rfl, rfl, h⟩
    | int i => exact ⟨_, false, rfl, rfl, _, true, rfl, rfl, h⟩
    | str s => exact ⟨_, false, rfl, rfl, _, false, rfl, rfl, h⟩
    | _ => simp [isVal] at hs
  | _ => simp [isVal] at hs
theorem dEq_val {x v : D} (hx : isVal x = true) (hk : kindOf x = kindOf v) (hv : isVal v = true) {P : D → Prop} (q : P (.bl (eqV' x v))) : dEq x v P := by
  unfold dEq
  cases x with
  | v x =>
    cases v with
    | v y =>
      have sc : scal x y = true := by
        cases x <;> cases y <;> first | rfl | (simp [isVal] at hx; done) | (simp [isVal] at hv; done) | (simp [kindOf] at hk; done)
      show (if scal x y = true then _ else _)
      rw [if_pos sc]; exact q
    | _ => simp [isVal] at hv
  | _ => simp [isVal] at hx
theorem dLt_val {x v : D} (hx : isVal x = true) (hk : kindOf x = kindOf v) (hn : x ≠ .non) (hv : isVal v = true) {P : D → Prop} (q : P (.bl (ltV x v))) : dLtB x v P := by
  unfold dLtB
  cases x with
  | v x =>
    cases v with
    | v y => cases x <;> cases y <;> first | exact q | (simp [isVal] at hx; done) | (simp [isVal] at hv; done) | (simp [kindOf] at hk; done) | exact absurd rfl hn
    | _ => simp [isVal] at hv
  | _ => simp [isVal] at hx
theorem kind_ok (d : D) : PyData.strOk (Str.ofString (kindOf d)) = true := by
  unfold kindOf
  split <;> decide +kernel
theorem kind_eq (x v : D) : decide (Str.ofString (kindOf x) = Str.ofString (kindOf v)) = decide (kindOf x = kindOf v) := by
  refine decide_eq_decide.mpr ⟨fun h => ?_, fun h => by rw [h]⟩
  have key : ∀ a ∈ ["none", "truth", "int", "text"], ∀ b ∈ ["none", "truth", "int", "text"], Str.ofString a = Str.ofString b → a = b := by decide +kernel
  have m : ∀ d : D, kindOf d ∈ ["none", "truth", "int", "text"] := fun d => by
    unfold kindOf
    split <;> simp
  exact key _ (m x) _ (m v) h
theorem non_isV {d : D} : D.isV d .non = true ↔ d = .non := by
  cases d with
  | v x => exact ⟨fun h => by have := of_decide_eq_true h; rw [this], fun h => by cases h; rfl⟩
  | _ => exact ⟨fun h => (by cases h), fun h => (by cases h)⟩
theorem rd_compared : Rd n_compared 3 sp_compared d_compared := by
  rintro ds W Q Qx _ ⟨w, x, v, rfl, hx, hv, h⟩
  show d_compared _ [some (.sh (.str (wd w))), some (.sh x), some (.sh v)] W
  unfold d_compared
  show (if D.isV x .non = true then _ else _)
  cases en : D.isV x .non with
  | true => rw [en, Bool.true_or, if_pos rfl] at h; exact h
  | false =>
    rw [en, Bool.false_or] at h
    refine ite_f ⟨rfl, x, rfl, hx, rfl, v, rfl, hv, dNe_str ?_⟩
    rw [kind_eq]
    by_cases hk : kindOf x = kindOf v
    · rw [decide_eq_true hk]
      rw [decide_eq_false (fun z => z hk), if_neg Bool.false_ne_true] at h
      refine hno (dEq_str ?_)
      have hn : x ≠ .non := fun e => by rw [e] at en; cases en
      match w with
      | 0 => exact ite_t (dEq_val hx hk hv h)
      | 1 =>
        refine ite_f (dLt_val hx hk hn hv ?_)
        have h : Q (.bl (ltV x v)) W := h
        show (match D.bl (ltV x v) with | .v (.bl true) => _ | .v (.bl false) => _ | _ => False)
        cases e : ltV x v with
        | true => rw [e] at h; exact h
        | false => rw [e] at h; exact dEq_str h
      | w + 2 =>
        refine ite_f (dLt_val hx hk hn hv ?_)
        have h : Q (.bl (ltV x v || eqV' x v)) W := h
        show (match D.bl (ltV x v) with | .v (.bl true) => _ | .v (.bl false) => _ | _ => False)
        cases e : ltV x v with
        | true => rw [e] at h; exact h
        | false => rw [e, Bool.false_or] at h; exact dEq_str (dEq_val hx hk hv h)
    · rw [decide_eq_false hk]
      rw [decide_eq_true hk, if_pos rfl] at h
      exact h
def triV : Option Bool → V
  | none => .non
  | some b => .bl b
theorem tri_flat (a b : Option Bool) : flatOf [tri a, tri b] = some [triV a, triV b] := by
  cases a <;> cases b <;> rfl
theorem tri_fl (a b : Option Bool) : [triV a, triV b].all flatV = true := by
  cases a <;> cases b <;> rfl
theorem tri_in (o : Bool) : ∀ a b : Option Bool, inV (.bl o) [triV a, triV b] = decide (a = some o ∨ b = some o) := by
  intro a b
  cases o <;> rcases a with _ | _ | _ <;> rcases b with _ | _ | _ <;> rfl
theorem tri_non : ∀ a b : Option Bool, inV .non [triV a, triV b] = decide (a = none ∨ b = none) := by
  intro a b
  rcases a with _ | _ | _ <;> rcases b with _ | _ | _ <;> rfl
theorem rd_joined : Rd n_joined 3 sp_joined d_joined := by
  rintro ds W Q Qx _ ⟨o, a, b, rfl, h⟩
  show d_joined _ [some (.sh (.str (if o then wOr else wAnd))), some (.sh (tri a)), some (.sh (tri b)), none] W
  unfold d_joined
  refine dEq_str ?_
  have eo : decide ((if o then wOr else wAnd) = Str.ofString "or") = o := by cases o <;> decide +kernel
  rw [eo]
  refine ⟨sz 2 (by decide), .inl ⟨_, tri_flat a b, rfl, tri_fl a b, ?_⟩⟩
  show (if inV (.bl o) [triV a, triV b] = true then _ else _)
  rw [tri_in]
  by_cases hr : a = some o ∨ b = some o
  · rw [if_pos hr] at h
    rw [decide_eq_true hr]; exact h
  · rw [if_neg hr] at h
    rw [decide_eq_false hr]
    refine ite_f ⟨sz 2 (by decide), .inl ⟨_, tri_flat a b, rfl, tri_fl a b, ?_⟩⟩
    show (if inV .non [triV a, triV b] = true then _ else _)
    rw [tri_non]
    by_cases hn : a = none ∨ b = none
    · rw [decide_eq_true hn]
      rw [if_pos hn] at h; exact h
    · rw [decide_eq_false hn]
      rw [if_neg hn] at h; exact h
theorem getD_str (cols : List Str) (j : Nat) : cols.getD j (mkS []) = cols.getD j (mkS []) := rfl
theorem idx_cols {cols : List Str} (nd : cols.Nodup) {j : Nat} (hj : j < cols.length) : cols[j]? = some (cols.getD j (mkS [])) ∧ ∀ m, m < j → cols[m]? ≠ some (cols.getD j (mkS [])) := by
  have e : cols.getD j (mkS []) = cols[j] := by rw [List.getD_eq_getElem?_getD, List.getElem?_eq_getElem hj]; rfl
  rw [e]
  refine ⟨List.getElem?_eq_getElem hj, fun m hm z => ?_⟩
  obtain ⟨h1, h2⟩ := List.getElem?_eq_some_iff.mp z
  exact List.pairwise_iff_getElem.mp nd m j h1 hj hm h2
theorem wd_ne (w : Nat) : decide (wd w = Str.ofString "not") = false ∧ D.isV (.str (wd w)) (.str wAnd) = false ∧ D.isV (.str (wd w)) (.str wOr) = false ∧ decide (wd w = Str.ofString "none") = false := by
  match w with
  | 0 => decide +kernel
  | 1 => decide +kernel
  | w + 2 =>
    show decide (wMost = Str.ofString "not") = false ∧ D.isV (.str wMost) (.str wAnd) = false ∧ D.isV (.str wMost) (.str wOr) = false ∧ decide (wMost = Str.ofString "none") = false
    decide +kernel
theorem str_nv {s : Str} (h : PyData.strOk s = true) (hl : s.length ≤ 1000) : NV (.str s) := Nice.str h (by omega)
theorem ok_wd (w : Nat) : PyData.strOk (wd w) = true := by
  match w with
  | 0 => exact ok_is
  | 1 => exact ok_less
  | w + 2 => exact ok_most
theorem wd_len (w : Nat) : (wd w).length ≤ 1000 := by
  match w with
  | 0 => decide +kernel
  | 1 => decide +kernel
  | w + 2 => show wMost.length ≤ 1000; decide +kernel
theorem rdn_truth (n : Nat) (sp0 : SpD) (h0 : ∀ m, n = m + 1 → sp0 = spn_truth m) : Rd n_truth 3 (spn_truth n) (d_truth sp0) := by
  rintro ds W Q Qx _ ⟨cols, c, row, rfl, nd, hl, hrow, hok, h⟩
  show d_truth sp0 _ [some (.sh (.tpf (cols.map D.str))), some (.sh (cdD cols c)), some (.sh (.tup row)), none, none, none] W
  unfold d_truth
  have look : ∀ j, j < cols.length → ∃ x, row[j]? = some x ∧ row.getD j .non = x ∧ isVal x = true := fun j hj => by
    have hj' : j < row.length := by omega
    exact ⟨row[j], List.getElem?_eq_getElem hj', by rw [List.getD_eq_getElem?_getD, List.getElem?_eq_getElem hj']; rfl, hrow _ (List.getElem_mem hj')⟩
  cases c with
  | non j =>
    have hj : j < cols.length := by unfold CdOk at hok; exact hok
    obtain ⟨x, hx, ex, vx⟩ := look j hj
    obtain ⟨i1, i2⟩ := idx_cols nd hj
    rw [cdD]
    refine ⟨.str wNone, at0 _ _ _, dEq_str (ite_f ?_)⟩
    refine in_words2 (str_nv ok_none (by decide +kernel)) (ite_f ?_)
    refine ⟨⟨_, rfl⟩, _, at1 _ _ _, cols, _, j, rfl, rfl, i1, i2, x, atI_of hx, dEq_str ?_⟩
    refine ite_t ?_
    have h : Q (.bl (D.isV (row.getD j .non) .non)) W := h
    rw [ex] at h
    exact h
  | cmp w j v =>
    have hok' : w ≤ 2 ∧ j < cols.length ∧ isVal v = true := by unfold CdOk at hok; exact hok
    obtain ⟨_, hj, hv⟩ := hok'
    obtain ⟨x, hx, ex, vx⟩ := look j hj
    obtain ⟨i1, i2⟩ := idx_cols nd hj
    obtain ⟨w1, w2, w3, w4⟩ := wd_ne w
    rw [cdD]
    refine ⟨.str (wd w), at0 _ _ _, dEq_str ?_⟩
    rw [w1]
    refine ite_f (in_words2 (str_nv (ok_wd w) (wd_len w)) ?_)
    rw [w2, w3]
    refine ite_f ⟨⟨_, rfl⟩, _, at1 _ _ _, cols, _, j, rfl, rfl, i1, i2, x, atI_of hx, dEq_str ?_⟩
    rw [w4]
    refine ite_f ⟨v, at2 _ _ _ _, rfl, w, x, v, rfl, vx, hv, ?_⟩
    have h : Q (tri (if D.isV (row.getD j .non) .non || decide (kindOf (row.getD j .non) ≠ kindOf v) then none else some (cmpB w (row.getD j .non) v))) W := h
    rw [ex] at h
    exact h
  | neg c =>
    cases n with
    | zero => unfold CdOk at hok; exact hok.elim
    | succ n =>
      have hok' : CdOk cols.length n c := by unfold CdOk at hok; exact hok
      have e0 := h0 n rfl
      subst e0
      rw [cdD]
      refine ⟨.str wNot, at0 _ _ _, dEq_str (ite_t ?_)⟩
      refine ⟨_, at1 _ _ _, rfl, cols, c, row, rfl, nd, hl, hrow, hok', ?_⟩
      have h : Q (tri ((ev row c).map not)) W := h
      cases e : ev row c with
      | none => rw [e] at h; exact h
      | some b => rw [e] at h; exact h
  | two o c e =>
    cases n with
    | zero => unfold CdOk at hok; exact hok.elim
    | succ n =>
      have hok' : CdOk cols.length n c ∧ CdOk cols.length n e := by unfold CdOk at hok; exact hok
      have e0 := h0 n rfl
      subst e0
      rw [cdD]
      refine ⟨_, at0 _ _ _, dEq_str ?_⟩
      have w1 : decide ((if o then wOr else wAnd) = Str.ofString "not") = false := by cases o <;> decide +kernel
      rw [w1]
      refine ite_f (in_words2 (str_nv (by cases o; exact ok_and; exact ok_or) (by cases o <;> decide +kernel)) ?_)
      have w2 : (D.isV (.str (if o then wOr else wAnd)) (.str wAnd) || D.isV (.str (if o then wOr else wAnd)) (.str wOr)) = true := by cases o <;> decide +kernel
      rw [w2]
      refine ite_t ⟨_, at1 _ _ _, rfl, cols, c, row, rfl, nd, hl, hrow, hok'.1, ?_⟩
      refine ⟨_, at2 _ _ _ _, rfl, cols, e, row, rfl, nd, hl, hrow, hok'.2, ?_⟩
      exact ⟨rfl, o, ev row c, ev row e, rfl, h⟩
theorem map_str_inj {a b : List Str} (h : a.map D.str = b.map D.str) : a = b := by
  have := congrArg (List.map strOf) h
  rw [List.map_map, List.map_map] at this
  have e : strOf ∘ D.str = id := rfl
  rwa [e, List.map_id, List.map_id] at this
theorem rd_truth_of : Rd n_truth_of 3 sp_truth_of d_truth_of := by
  rintro ds W Q Qx _ ⟨c, d, r, rfl, hc, hlc, hd, hr, h⟩
  show d_truth_of _ [some (.sh c), some (.sh d), some (.sh r)] W
  unfold d_truth_of
  refine ⟨rfl, c, d, rfl, hc, hlc, hd, ?_⟩
  rcases h with ⟨e, h⟩ | ⟨e, h⟩
  · exact .inl ⟨e, h⟩
  refine .inr ⟨e, ?_⟩
  refine ⟨rfl, r, rfl, hr, ?_⟩
  have en : areNamesD (wk c) = true := (Bool.and_eq_true_iff.mp e).1
  obtain ⟨cols, e1, e2, nd, e4⟩ := names_are en
  rw [e2] at h
  have lw : ∀ P : D → Prop, P (.int (cols.length : Nat)) → dLen [wk c] P := fun P hP => by
    rw [e1]
    show P (.int ((cols.map D.str).length : Nat))
    rw [List.length_map]; exact hP
  have lens : ∀ xs : List D, ∀ {A B : Prop}, (xs.length ≠ cols.length → A) → (xs.length = cols.length → B) → (if (!decide ((xs.length : Int) = (cols.length : Int))) = true then A else B) := fun xs A B ha hb => by
    by_cases q : xs.length = cols.length
    · rw [decide_eq_true (by omega)]; exact hno (hb q)
    · rw [decide_eq_false (by omega)]; exact ite_t (ha q)
  cases er : isRow r with
  | false =>
    rcases h with ⟨_, h⟩ | ⟨z, _⟩
    · exact h
    · rw [er, Bool.false_and] at z; cases z
  | true =>
    refine hno ?_
    obtain ⟨xs, rfl⟩ : ∃ xs, r = .tup xs := by
      unfold isRow at er
      split at er
      · exact ⟨_, rfl⟩
      · cases er
    rw [er, Bool.true_and] at h
    refine lw (fun z => dNe (.int (xs.length : Nat)) z _) (dNe_int (lens xs (fun q => ?_) fun q => ?_))
    · rcases h with ⟨_, h⟩ | ⟨z, _⟩
      · exact h
      · exact absurd (of_decide_eq_true z) q
    · rcases h with ⟨z, _⟩ | ⟨_, h⟩
      · exact absurd q (of_decide_eq_false z)
      · rcases h with ⟨rfl, h⟩ | ⟨cols', cd, row, rfl, rfl, er2, hok, h⟩
        · exact h
        · cases er2
          have ec : cols' = cols := by
            have e1' : D.tup (cols'.map D.str) = D.tup (cols.map D.str) := e1
            injection e1' with e1'
            exact map_str_inj e1'
          subst ec
          show (if D.isV (cdD cols' cd) .non = true then _ else _)
          have nn : D.isV (cdD cols' cd) .non = false := by cases cd <;> rfl
          rw [nn]
          refine ite_f ⟨rfl, cols', cd, xs, rfl, nd, q, fun x hx => ?_, hok, h⟩
          exact List.all_eq_true.mp er x hx
theorem rd_meets : Rd n_meets 3 sp_meets d_meets := by
  rintro ds W Q Qx _ ⟨c, d, r, rfl, hc, hlc, hd, hr, h⟩
  show d_meets _ [some (.sh c), some (.sh d), some (.sh r)] W
  unfold d_meets
  exact ⟨rfl, c, d, r, rfl, hc, hlc, hd, hr, h⟩
end K23

namespace K23
open PySem PySem.Spec L2 G TL C Q
theorem rd_law_source : Rd n_law_source 1 sp_law_source d_law_source := by
  rintro ds W Q Qx _ ⟨z, rfl, hz, h⟩
  show d_law_source _ [some (.sh (.int z)), none] W
  unfold d_law_source
  have p18 : ((10 : Int) ^ (18 : Int).toNat) = 1000000000000000000 := by decide
  refine seq_gen (fun ρ W' => W' = W ∧ ∃ a : Int, 0 ≤ a ∧ a.natAbs < bigB ∧ ρ = [some (.sh (.int z)), some (.sh (.int a))]) (fun ρ W' hI => ?_) (fun N hN => ?_)
  case refine_2 =>
    refine ⟨⟨by decide, by decide, by decide⟩, ite_d (fun h0 => ?_) (fun h0 => ?_)⟩
    · refine ⟨⟨by decide, by decide, by decide⟩, hN _ _ ⟨rfl, _, ?_, ?_, rfl⟩⟩
      · rw [p18] at h0 ⊢; omega
      · rw [p18] at h0 ⊢; omega
    · exact hN _ _ ⟨rfl, 0, by decide, big_pos, rfl⟩
  obtain ⟨rfl, a, h0, h1, rfl⟩ := hI
  exact ⟨(by decide : (0 : Int) < 2305843009213693951), sz 3 (by decide), fun p hp => h _ p ⟨_, _, _, updW_same, h0, h1, Int.emod_nonneg _ (by decide), Int.emod_lt_of_pos _ (by decide), by decide, by decide⟩⟩
theorem rd_law_draw : Rd n_law_draw 2 sp_law_draw d_law_draw := by
  rintro ds W Q Qx _ ⟨p, many, n, rfl, ⟨a, b, c, hp, ha0, ha1, hb0, hb1, hc0, hc1⟩, hM0, hM1, h⟩
  show d_law_draw _ [some (.sh (.ref p)), some (.sh (.int many)), none, none, none, none] W
  unfold d_law_draw
  have mlt : many.natAbs < 2 ^ 100 := by
    have : (1000000000000000000000000000000 : Nat) < 2 ^ 100 := by decide
    omega
  refine seq_gen (fun ρ W' => W' = W ∧ ρ = [some (.sh (.ref p)), some (.sh (.int many)), none, none, none, none]) (fun ρ W' hI => ?_) (fun N hN => ?_)
  case refine_2 =>
    refine ⟨_, .int a, hp, rfl, ?_⟩
    refine ite_d (fun h0 => ?_) (fun h0 => ite_f (hN _ _ ⟨rfl, rfl⟩))
    refine ite_d (fun h1 => ?_) (fun h1 => hN _ _ ⟨rfl, rfl⟩)
    have hd : a / many ≤ a := Int.ediv_le_self _ ha0
    have hd0 : 0 ≤ a / many := Int.ediv_nonneg ha0 (by omega)
    have hlt : (a / many).natAbs < bigB := by omega
    refine ⟨_, .int a, hp, rfl, ⟨hM0, Nat.lt_of_lt_of_le (C.log2_small (k := 100) mlt (by decide)) (by decide)⟩, ?_⟩
    refine ⟨_, .int a, hp, rfl, mulX_big 100 hlt mlt (by decide) (by decide), ?_⟩
    refine ⟨_, 0, hp, rfl, ?_⟩
    have e : a - a / many * many = a % many := by rw [Int.emod_def, Int.mul_comm]
    show Q (.int (a - a / many * many)) _
    rw [e]
    exact h _ _ (Int.emod_nonneg _ (by omega)) (Int.emod_lt_of_pos _ hM0) ⟨a / many, b, c, updW_same, hd0, hlt, hb0, hb1, hc0, by omega⟩
  obtain ⟨rfl, rfl⟩ := hI
  refine seq_gen (fun ρ W2 => ρ = [some (.sh (.ref p)), some (.sh (.int many)), none, none, none, none] ∧ W2 p = some (.lst [.int a, .int b, .int (c + 1)])) (fun ρ W2 hI => ?_) (fun N hN => ⟨_, .int c, hp, rfl, _, 2, hp, rfl, hN _ _ ⟨rfl, updW_same⟩⟩)
  obtain ⟨rfl, hp2⟩ := hI
  have m1 : CMulX 2 (c + 1) := mulX_of 2 21 (by decide) (by omega) (by decide) (by decide) (by decide)
  have m2 : CMulX b (2 * (c + 1) + 31) := mulX_of 61 22 (by omega) (by omega) (by decide) (by decide) (by decide)
  have m3 : CMulX 7919 (c + 1) := mulX_of 13 21 (by decide) (by omega) (by decide) (by decide) (by decide)
  have m4 : CMulX (7919 * (c + 1)) (c + 1) := mulX_of 34 21 (by omega) (by omega) (by decide) (by decide) (by decide)
  have m8 : CMulX 611953 (c + 1) := mulX_of 20 21 (by decide) (by omega) (by decide) (by decide) (by decide)
  refine seq_gen (fun ρ W3 => W3 = W2 ∧ ρ = [some (.sh (.ref p)), some (.sh (.int many)), none, none, some (.sh (.int (c + 1))), none]) (fun ρ W3 hI => ?_) (fun N hN => ⟨_, .int (c + 1), hp2, rfl, hN _ _ ⟨rfl, rfl⟩⟩)
  obtain ⟨rfl, rfl⟩ := hI
  refine seq_gen (fun ρ W4 => W4 = W3 ∧ ∃ f : Int, f.natAbs < 2 ^ 61 ∧ ρ = [some (.sh (.ref p)), some (.sh (.int many)), none, none, some (.sh (.int (c + 1))), some (.sh (.int f))]) (fun ρ W4 hI => ?_) (fun N hN => ⟨_, .int b, hp2, rfl, m1, m2, m3, m4, (by decide : (0 : Int) < 2305843009213693951), hN _ _ ⟨rfl, _, mod61 _, rfl⟩⟩)
  obtain ⟨rfl, f, f2, rfl⟩ := hI
  have m5 : CMulX f f := mulX_of 61 61 f2 f2 (by decide) (by decide) (by decide)
  have m6 : CMulX 104729 f := mulX_of 17 61 (by decide) f2 (by decide) (by decide) (by decide)
  refine seq_gen (fun ρ W5 => W5 = W4 ∧ ∃ f : Int, f.natAbs < 2 ^ 61 ∧ ρ = [some (.sh (.ref p)), some (.sh (.int many)), none, none, some (.sh (.int (c + 1))), some (.sh (.int f))]) (fun ρ W5 hI => ?_) (fun N hN => ⟨m5, m6, (by decide : (0 : Int) < 2305843009213693951), ⟨by decide, by decide⟩, hN _ _ ⟨rfl, _, mod61d _ _ (by decide), rfl⟩⟩)
  obtain ⟨rfl, g, g2, rfl⟩ := hI
  have m7 : CMulX g g := mulX_of 61 61 g2 g2 (by decide) (by decide) (by decide)
  refine ⟨m7, m8, (by decide : (0 : Int) < 1152921504606846883), ⟨by decide, by decide⟩, hM0, ?_⟩
  exact h _ _ (Int.emod_nonneg _ (by omega)) (Int.emod_lt_of_pos _ hM0) ⟨a, b, c + 1, hp2, ha0, ha1, hb0, hb1, by omega, by omega⟩
theorem rdn_law_same (n : Nat) (sp0 : SpD) (h0 : ∀ m, n = m + 1 → sp0 = spn_law_same m) : Rd n_law_same 2 (spn_law_same n) (d_law_same sp0) := by
  rintro ds W Q Qx _ ⟨d, rfl, hp, h⟩
  show d_law_same sp0 _ [some (.sh d), some (.sh d), none] W
  unfold d_law_same
  have two : ∀ {P : D → Prop}, P (.lst []) → P (.lst []) := fun h => h
  have deep : ∀ (ds : List D), ds.length ≤ 100000 → (∀ m, n = m + 1 → ∀ z ∈ ds, plainN m z) → n ≠ 0 → (∀ i z, atI ds i = some z → ∀ P : D → Prop, P z → dIx d (.int i) P) → (∀ P : D → Prop, P (.int ds.length) → dLen [d] P) →
      dLc (iRngD1 (dCons (dCB dLen (dCons (dVar 1) dNil)) dNil)) (gdName 2) (dNotB (dBool (dCall sp0 2 (dCons (dOp dIx (dVar 0) (dVar 2)) (dCons (dOp dIx (dVar 1) (dVar 2)) dNil))))) (dVar 2) [2] [some (.sh d), some (.sh d), none] W (fun ys _ W' => ([] : List D).length ≤ sizeLine ∧ dEq (.lst ys) (.lst []) fun z => Q z W') (fun cls x _ W' => Qx cls x W') := fun ds hl hz hn hix hlen => by
    refine dLc_filtF (List.range ds.length) (fun i => .int (0 + (i : Int))) (fun i => .int (0 + (i : Int))) (fun _ => false) (noOwn1 (by simp)) ?_ (fun P hP => ?_) (fun i hi P hP => ?_) (fun i hi hpf => by cases hpf) ?_
    · rw [List.length_range]; exact sz _ (by omega)
    · refine hlen (fun z => match [z] with | [.v (.int j)] => -(2 ^ 62) ≤ j ∧ j < 2 ^ 62 ∧ P (rng 0 j.toNat) _ W | _ => False) ⟨by omega, by omega, ?_⟩
      rw [Int.toNat_natCast]; exact hP
    · rw [List.mem_range] at hi
      obtain ⟨m, rfl⟩ : ∃ m, n = m + 1 := ⟨n - 1, by omega⟩
      rw [h0 m rfl]
      have e := atI_of (List.getElem?_eq_getElem hi)
      rw [show (0 : Int) + (i : Int) = (i : Int) by omega] at hP ⊢
      exact hix _ _ e _ (hix _ _ e _ ⟨rfl, _, rfl, hz m rfl _ (List.getElem_mem hi), hP⟩)
    · have e : (List.range ds.length).filter (fun _ => false) = [] := by simp
      rw [e]
      exact ⟨sz 0 (by decide), dEq_self (by simp [D.good, goods]) h⟩
  have flat : ∀ x : V, scal x x = true → d = .v x → (dEq (.v x) (.v x) fun z => match z with | .v (.bl true) => dRepr [.v x] (fun r1 => dRepr [.v x] fun r2 => dEq r1 r2 fun z => Q z W) | .v (.bl false) => Q (.bl false) W | _ => False) → True := fun _ _ _ _ => trivial
  have eqs : ∀ (s : Str) {P : D → Prop}, P (.bl true) → dEq (.str s) (.str s) P := fun s P hP => dEq_str (by rw [decide_eq_true rfl]; exact hP)
  cases d with
  | v x =>
    have rep : ∀ {P : D → Prop} (hN : Nice 5 5000 (.v x)), P (.str (shownD (.v x))) → dRepr [.v x] P := fun {P} hN hP => by
      obtain ⟨a, b⟩ := show_of hN.good hN.ok
      refine ⟨good_up (by decide) hN.good, a, ?_, hP⟩
      unfold shownD
      have := hN.le
      rw [show sizeLine = 16777216 from rfl]; omega
    cases x with
    | non =>
      have hN : Nice 5 5000 (.v .non) := Nice.non (by decide)
      refine ⟨_, false, rfl, rfl, _, false, rfl, rfl, dNe_bl ?_⟩
      refine ⟨_, false, rfl, rfl, _, false, rfl, rfl, dNe_bl ?_⟩
      refine ⟨sz 2 (by decide), _, ["tuple", "list"], [false, false], rfl, rfl, rfl, ?_⟩
      refine dEq_self (by simp [D.good]) ?_
      exact rep (P := fun r1 => dRepr [.v .non] fun r2 => dEq r1 r2 fun z => Q z W) hN (rep hN (eqs _ h))
    | bl b =>
      have hN : Nice 5 5000 (.v (.bl b)) := Nice.bl (by decide)
      refine ⟨_, false, rfl, rfl, _, false, rfl, rfl, dNe_bl ?_⟩
      refine ⟨_, false, rfl, rfl, _, false, rfl, rfl, dNe_bl ?_⟩
      refine ⟨sz 2 (by decide), _, ["tuple", "list"], [false, false], rfl, rfl, rfl, ?_⟩
      refine dEq_self (by simp [D.good]) ?_
      exact rep (P := fun r1 => dRepr [.v (.bl b)] fun r2 => dEq r1 r2 fun z => Q z W) hN (rep hN (eqs _ h))
    | int b =>
      have hb : b.natAbs < 100000 := by unfold plainN at hp; cases n <;> exact hp
      have : b.natAbs.log2 < 17 := C.log2_small (k := 17) (by omega) (by decide)
      have hN : Nice 5 5000 (.v (.int b)) := Nice.int (by omega) (by omega)
      refine ⟨_, false, rfl, rfl, _, false, rfl, rfl, dNe_bl ?_⟩
      refine ⟨_, false, rfl, rfl, _, false, rfl, rfl, dNe_bl ?_⟩
      refine ⟨sz 2 (by decide), _, ["tuple", "list"], [false, false], rfl, rfl, rfl, ?_⟩
      refine dEq_self (by simp [D.good]) ?_
      exact rep (P := fun r1 => dRepr [.v (.int b)] fun r2 => dEq r1 r2 fun z => Q z W) hN (rep hN (eqs _ h))
    | str b =>
      have hb : b.length ≤ 100 ∧ PyData.strOk b = true := by unfold plainN at hp; cases n <;> exact hp
      have hN : Nice 5 5000 (.v (.str b)) := Nice.str hb.2 (by omega)
      refine ⟨_, false, rfl, rfl, _, false, rfl, rfl, dNe_bl ?_⟩
      refine ⟨_, false, rfl, rfl, _, false, rfl, rfl, dNe_bl ?_⟩
      refine ⟨sz 2 (by decide), _, ["tuple", "list"], [false, false], rfl, rfl, rfl, ?_⟩
      refine eqs b ?_
      exact rep (P := fun r1 => dRepr [.v (.str b)] fun r2 => dEq r1 r2 fun z => Q z W) hN (rep hN (eqs _ h))
    | _ => unfold plainN at hp; cases n <;> exact hp.elim
  | tup ds =>
    cases n with
    | zero => unfold plainN at hp; exact hp.elim
    | succ m =>
      have hp' : ds.length ≤ 100000 ∧ ∀ d ∈ ds, plainN m d := by unfold plainN at hp; exact hp
      refine ⟨_, true, rfl, rfl, _, true, rfl, rfl, dNe_bl ?_⟩
      refine ⟨_, false, rfl, rfl, _, false, rfl, rfl, dNe_bl ?_⟩
      refine ⟨sz 2 (by decide), _, ["tuple", "list"], [true, false], rfl, rfl, rfl, ?_⟩
      refine dEq_int ?_
      rw [decide_eq_true rfl]
      exact deep ds hp'.1 (fun m' e => by cases e; exact hp'.2) (by omega) (fun i z hz P hP => ⟨z, hz, hP⟩) fun P hP => hP
  | lst ds =>
    cases n with
    | zero => unfold plainN at hp; exact hp.elim
    | succ m =>
      have hp' : ds.length ≤ 100000 ∧ ∀ d ∈ ds, plainN m d := by unfold plainN at hp; exact hp
      refine ⟨_, false, rfl, rfl, _, false, rfl, rfl, dNe_bl ?_⟩
      refine ⟨_, true, rfl, rfl, _, true, rfl, rfl, dNe_bl ?_⟩
      refine ⟨sz 2 (by decide), _, ["tuple", "list"], [false, true], rfl, rfl, rfl, ?_⟩
      refine dEq_int ?_
      rw [decide_eq_true rfl]
      exact deep ds hp'.1 (fun m' e => by cases e; exact hp'.2) (by omega) (fun i z hz P hP => ⟨z, hz, hP⟩) fun P hP => hP
  | _ => unfold plainN at hp; cases n <;> exact hp.elim
end K23

namespace K23
open PySem PySem.Spec L2 G TL C Q
theorem pick_nat {xs : List Nat} {r : Int} {P : D → Prop} (h0 : 0 ≤ r) (h1 : r < xs.length) (h : ∀ m ∈ xs, P (.int (m : Nat))) : ∃ z, atI (xs.map fun m => D.int (m : Nat)) r = some z ∧ P z := by
  refine ix_all h0 (by rw [List.length_map]; exact h1) fun z hz => ?_
  rw [List.mem_map] at hz
  obtain ⟨m, hm, rfl⟩ := hz
  exact h m hm
theorem rd_law_word : Rd n_law_word 1 sp_law_word d_law_word := by
  rintro ds W Q Qx _ ⟨p, n, rfl, hs, h⟩
  show d_law_word _ [some (.sh (.ref p)), none, none, none, none] W
  unfold d_law_word
  rw [so_letters, so_nil]
  refine seq_gen (fun ρ W' => W' = W ∧ ρ = [some (.sh (.ref p)), some (.sh (.str (mkS letters))), none, none, none]) (fun ρ W' hI => ?_) (fun N hN => hN _ _ ⟨rfl, rfl⟩)
  obtain ⟨rfl, rfl⟩ := hI
  refine seq_gen (fun ρ W' => SrcOk W' p (n + 10) ∧ ∃ f : Nat, 1 ≤ f ∧ f ≤ 26 ∧ ρ = [some (.sh (.ref p)), some (.sh (.str (mkS letters))), some (.sh (.int f)), none, none]) (fun ρ W' hI => ?_) (fun N hN => ?_)
  case refine_2 =>
    refine ⟨rfl, p, 2, n + 10, rfl, hs.less (by omega), by decide, by decide, fun r W1 _ _ hs => dEq_int (ite_b (fun _ => hN _ _ ⟨hs, 2, by decide, by decide, rfl⟩) fun _ => hN _ _ ⟨hs, 26, by decide, by decide, rfl⟩)⟩
  obtain ⟨hs, f, f1, f2, rfl⟩ := hI
  refine seq_gen (fun ρ W2 => W2 = W' ∧ ρ = [some (.sh (.ref p)), some (.sh (.str (mkS letters))), some (.sh (.int f)), some (.sh (.str (mkS []))), none]) (fun ρ W2 hI => ?_) (fun N hN => hN _ _ ⟨rfl, rfl⟩)
  obtain ⟨rfl, rfl⟩ := hI
  refine seq_gen (fun ρ W2 => SrcOk W2 p n ∧ ∃ (l : List Nat) (x4 : Option Sl), nameB l = true ∧ ρ = [some (.sh (.ref p)), some (.sh (.str (mkS letters))), some (.sh (.int f)), some (.sh (.str (mkS l))), x4]) (fun ρ W2 hI => ?_) (fun N hN => ?_)
  case refine_1 =>
    obtain ⟨hs, l, x4, hl, rfl⟩ := hI
    exact h l W2 hl hs
  refine dFor_mk ⟨sz 6 (by decide), ?_⟩
  refine ⟨rfl, p, 6, n + 9, rfl, hs, by decide, by decide, fun r W1 h0 h1 hs => ?_⟩
  refine pick_nat (xs := [1, 1, 2, 2, 3, 8]) h0 h1 fun m hm => ?_
  have hm' : 1 ≤ m ∧ m ≤ 8 := by
    simp only [List.mem_cons, List.not_mem_nil, or_false] at hm
    omega
  refine ⟨by omega, by omega, fun i ρ W2 => SrcOk W2 p (n + (8 - i)) ∧ ∃ (l : List Nat) (x4 : Option Sl), l.length = i ∧ (l.all fun c => decide (c ∈ letters)) = true ∧ ρ = [some (.sh (.ref p)), some (.sh (.str (mkS letters))), some (.sh (.int f)), some (.sh (.str (mkS l))), x4], ⟨hs.less (by omega), [], none, rfl, rfl, rfl⟩, fun i d ρ W2 hd hI => ?_, fun ρ W2 hI => ?_⟩
  · obtain ⟨hs, l, x4, hl, ha, rfl⟩ := hI
    have hi : i < m := by
      have := (List.getElem?_eq_some_iff.mp hd).1
      rw [rng_len] at this; omega
    refine ⟨rfl, p, f, n + (8 - (i + 1)), rfl, hs.less (by omega), by omega, by omega, fun r W3 h0 h1 hs => ⟨sz _ (by decide), ?_⟩⟩
    obtain ⟨c, hc, e⟩ := at_lst letters r h0 (by show r < 26; omega)
    refine ⟨c, e, ?_⟩
    refine ⟨sz _ ?_, hs, l ++ [c], some (.sh d), by rw [List.length_append, hl]; rfl, by rw [List.all_append, ha]; simp [hc], ?_⟩
    · rw [len_mkS]; show l.length + 1 ≤ _; omega
    · show ([_, _, _, some (Sl.sh (D.str (mkS l ++ ⟨#[c]⟩))), _] : List (Option Sl)) = _
      rw [one_mkS, app_mkS]
  · obtain ⟨hs, l, x4, hl, ha, rfl⟩ := hI
    rw [rng_len] at hl hs
    refine hN _ _ ⟨hs.less (by omega), l, x4, ?_, rfl⟩
    unfold nameB
    rw [ha, decide_eq_true (by omega), decide_eq_true (by omega)]; rfl
theorem nd_len {α : Type} [DecidableEq α] : ∀ (l M : List α), l.Nodup → (∀ x ∈ l, x ∈ M) → l.length ≤ M.length
  | [], _, _, _ => Nat.zero_le _
  | x :: l, M, nd, hs => by
    rw [List.nodup_cons] at nd
    have := nd_len l (M.erase x) nd.2 fun y hy => (List.mem_erase_of_ne (fun e => nd.1 (by rw [← e]; exact hy))).mpr (hs y (List.mem_cons_of_mem _ hy))
    have e := List.length_erase_of_mem (hs x List.mem_cons_self)
    have : 0 < M.length := List.length_pos_of_mem (hs x List.mem_cons_self)
    rw [List.length_cons]; omega
def spares : List (List Nat) := [[113], [113, 113], [113, 113, 113], [122], [122, 113], [122, 122], [122, 122, 122], [120], [120, 113], [120, 120], [120, 120, 120], [120, 120, 120, 120, 120, 120, 120, 120]]
theorem spares_d : namesD spares = [.str (Str.ofString "q"), .str (Str.ofString "qq"), .str (Str.ofString "qqq"), .str (Str.ofString "z"), .str (Str.ofString "zq"), .str (Str.ofString "zz"), .str (Str.ofString "zzz"), .str (Str.ofString "x"), .str (Str.ofString "xq"), .str (Str.ofString "xx"), .str (Str.ofString "xxx"), .str (Str.ofString "xxxxxxxx")] := by
  have e : spares.map mkS = [Str.ofString "q", Str.ofString "qq", Str.ofString "qqq", Str.ofString "z", Str.ofString "zq", Str.ofString "zz", Str.ofString "zzz", Str.ofString "x", Str.ofString "xq", Str.ofString "xx", Str.ofString "xxx", Str.ofString "xxxxxxxx"] := by decide +kernel
  have := congrArg (List.map D.str) e
  rw [List.map_map] at this
  exact this
theorem spares_ok : (spares.all nameB) = true := by decide +kernel
theorem spares_nd : spares.Nodup := by decide +kernel
theorem flat_nm (ls : List (List Nat)) : flatOf (namesD ls) = some (ls.map fun l => V.str (mkS l)) ∧ (ls.map fun l => V.str (mkS l)).all flatV = true := by
  unfold namesD
  induction ls with
  | nil => exact ⟨rfl, rfl⟩
  | cons a r ih =>
    refine ⟨?_, ?_⟩
    · rw [List.map_cons, flatOf, ih.1]; rfl
    · rw [List.map_cons, List.all_cons, ih.2]; rfl
theorem inV_nm (w : List Nat) (ls : List (List Nat)) : inV (.str (mkS w)) (ls.map fun l => V.str (mkS l)) = decide (w ∈ ls) := by
  unfold inV
  rw [Bool.eq_iff_iff, List.any_map, List.any_eq_true, decide_eq_true_eq]
  constructor
  · rintro ⟨l, hl, e⟩
    have : mkS l = mkS w := by simpa [eqV] using e
    rw [← mkS_inj.mp this]; exact hl
  · exact fun h => ⟨w, h, by simp [eqV]⟩
theorem rd_law_words : Rd n_law_words 3 sp_law_words d_law_words := by
  rintro ds W Q Qx _ ⟨p, m, n, bs, rfl, hm, hs, h⟩
  show d_law_words _ [some (.sh (.ref p)), some (.sh (.int m)), some (.sh (.lst (namesD bs))), none, none, none, none, none] W
  unfold d_law_words
  refine seq_gen (fun ρ W' => W' = W ∧ ρ = [some (.sh (.ref p)), some (.sh (.int m)), some (.sh (.lst (namesD bs))), some (.ol (namesD [])), none, none, none, none]) (fun ρ W' hI => ?_) (fun N hN => ⟨sz 0 (by decide), hN _ _ ⟨rfl, rfl⟩⟩)
  obtain ⟨rfl, rfl⟩ := hI
  refine seq_gen (fun ρ W2 => SrcOk W2 p n ∧ ∃ (ls : List (List Nat)) (x4 x5 x6 : Option D) , ls.length = m ∧ NamesOk m ls ∧ (∀ l ∈ ls, l ∉ bs) ∧ ρ = [some (.sh (.ref p)), some (.sh (.int m)), some (.sh (.lst (namesD bs))), some (.ol (namesD ls)), x4.map Sl.sh, x5.map Sl.sh, x6.map Sl.sh, none]) (fun ρ W2 hI => ?_) (fun N hN => ?_)
  case refine_1 =>
    obtain ⟨hs, ls, x4, x5, x6, h1, h2, h3, rfl⟩ := hI
    exact h ls W2 h1 h2 h3 hs
  refine dFor_of (rng 0 m) (fun i ρ W2 => SrcOk W2 p (n + 12 * (m - i)) ∧ ∃ (ls : List (List Nat)) (x4 x5 x6 : Option D), ls.length = i ∧ NamesOk i ls ∧ (∀ l ∈ ls, l ∉ bs) ∧ ρ = [some (.sh (.ref p)), some (.sh (.int m)), some (.sh (.lst (namesD bs))), some (.ol (namesD ls)), x4.map Sl.sh, x5.map Sl.sh, x6.map Sl.sh, none]) (fun P hP => ?_) ⟨hs, [], none, none, none, rfl, ⟨Nat.le_refl _, by simp, List.nodup_nil⟩, by simp, rfl⟩ (fun i d ρ W2 hd hI => ?_) (fun ρ W2 hI => ?_)
  · refine ⟨by omega, by omega, ?_⟩
    rw [Int.toNat_natCast]; exact hP
  case refine_3 =>
    obtain ⟨hs, ls, x4, x5, x6, h1, h2, h3, rfl⟩ := hI
    rw [rng_len] at h1 h2 hs
    exact hN _ _ ⟨hs.less (by omega), ls, x4, x5, x6, h1, h2, h3, rfl⟩
  obtain ⟨hs, ls, x4, x5, x6, h1, h2, h3, rfl⟩ := hI
  have hi : i < m := by
    have := (List.getElem?_eq_some_iff.mp hd).1
    rwa [rng_len] at this
  have lt1 : (namesD ls).length < sizeLine := by
    unfold namesD
    rw [List.length_map]
    exact Nat.lt_of_lt_of_le (by omega : ls.length < 16777216) (sz _ (Nat.le_refl _))
  refine seq_gen (fun ρ W3 => SrcOk W3 p (n + 12 * (m - (i + 1))) ∧ ∃ w, nameB w = true ∧ ρ = [some (.sh (.ref p)), some (.sh (.int m)), some (.sh (.lst (namesD bs))), some (.ol (namesD ls)), some (.sh d), some (.sh (.str (mkS w))), x6.map Sl.sh, none]) (fun ρ W3 hI => ?_) (fun N hN => ⟨rfl, p, n + 12 * (m - (i + 1)), rfl, hs.less (by omega), fun w W3 hw hs => hN _ _ ⟨hs, w, hw, rfl⟩⟩)
  obtain ⟨hs, w, hw, rfl⟩ := hI
  refine seq_gen (fun ρ W4 => W4 = W3 ∧ ρ = [some (.sh (.ref p)), some (.sh (.int m)), some (.sh (.lst (namesD bs))), some (.ol (namesD ls)), some (.sh d), some (.sh (.str (mkS w))), some (.sh (.lst (namesD spares))), none]) (fun ρ W4 hI => ?_) (fun N hN => ⟨sz 12 (by decide), by
    have := hN [some (.sh (.ref p)), some (.sh (.int m)), some (.sh (.lst (namesD bs))), some (.ol (namesD ls)), some (.sh d), some (.sh (.str (mkS w))), some (.sh (.lst (namesD spares))), none] W3 ⟨rfl, rfl⟩
    rw [spares_d] at this
    exact this⟩)
  obtain ⟨rfl, rfl⟩ := hI
  obtain ⟨fl, hfl⟩ : ∃ fl, fl = spares.filter fun x => !decide (x ∈ ls) && !decide (x ∈ bs) := ⟨_, rfl⟩
  refine seq_gen (fun ρ W5 => W5 = W4 ∧ ρ = [some (.sh (.ref p)), some (.sh (.int m)), some (.sh (.lst (namesD bs))), some (.ol (namesD ls)), some (.sh d), some (.sh (.str (mkS w))), some (.sh (.lst (namesD fl))), none]) (fun ρ W5 hI => ?_) (fun N hN => ?_)
  case refine_2 =>
    refine dLc_filtF spares (fun l => .str (mkS l)) (fun l => .str (mkS l)) (fun x => !decide (x ∈ ls) && !decide (x ∈ bs)) (noOwn1 (by simp)) (sz 12 (by decide)) (fun P hP => hP) (fun x hx P hP => ?_) (fun x hx _ P hP => hP) ?_
    · refine ⟨_, (flat_nm ls).1, rfl, (flat_nm ls).2, ?_⟩
      show (if (!inV (.str (mkS x)) (ls.map fun l => V.str (mkS l))) = true then _ else _)
      rw [inV_nm]
      have bs1 : ∀ {P : D → Prop}, P (.bl (!decide (x ∈ bs))) → dInB true (.str (mkS x)) (.lst (namesD bs)) P := fun {P} q => .inl ⟨_, (flat_nm bs).1, rfl, (flat_nm bs).2, by
        show P (.bl (!inV (.str (mkS x)) (bs.map fun l => V.str (mkS l))))
        rw [inV_nm]; exact q⟩
      cases e : !decide (x ∈ ls) with
      | false => rw [e] at hP; exact hP
      | true =>
        rw [e] at hP
        exact bs1 hP
    · rw [← hfl]; exact hN _ _ ⟨rfl, rfl⟩
  obtain ⟨rfl, rfl⟩ := hI
  have fne : fl ≠ [] := fun e => by
    have := nd_len spares (ls ++ bs) spares_nd fun x hx => by
      rw [List.mem_append]
      by_cases q1 : x ∈ ls
      · exact .inl q1
      by_cases q2 : x ∈ bs
      · exact .inr q2
      have : x ∈ fl := by rw [hfl, List.mem_filter]; exact ⟨hx, by simp [q1, q2]⟩
      rw [e] at this; cases this
    rw [List.length_append] at this
    have l12 : spares.length = 12 := rfl
    omega
  have fmem : ∀ x ∈ fl, nameB x = true ∧ x ∉ ls ∧ x ∉ bs := fun x hx => by
    rw [hfl, List.mem_filter] at hx
    simp only [Bool.and_eq_true, Bool.not_eq_true', decide_eq_false_iff_not] at hx
    exact ⟨List.all_eq_true.mp spares_ok x hx.1, hx.2.1, hx.2.2⟩
  have fin : ∀ x, nameB x = true → x ∉ ls → x ∉ bs → SrcOk W5 p (n + 12 * (m - (i + 1))) ∧ ∃ (ls' : List (List Nat)) (x4 x5 x6 : Option D), ls'.length = i + 1 ∧ NamesOk (i + 1) ls' ∧ (∀ l ∈ ls', l ∉ bs) ∧ [some (.sh (.ref p)), some (.sh (.int m)), some (.sh (.lst (namesD bs))), some (.ol (namesD ls ++ [.str (mkS x)])), some (.sh d), some (.sh (.str (mkS w))), some (.sh (.lst (namesD fl))), none] = [some (.sh (.ref p)), some (.sh (.int m)), some (.sh (.lst (namesD bs))), some (.ol (namesD ls')), x4.map Sl.sh, x5.map Sl.sh, x6.map Sl.sh, none] := fun x q1 q2 q3 => by
    refine ⟨hs, ls ++ [x], some d, some (.str (mkS w)), some (.lst (namesD fl)), by rw [List.length_append, h1]; rfl, ⟨by rw [List.length_append, h1]; simp, fun l hl => ?_, ?_⟩, fun l hl => ?_, by unfold namesD; rw [List.map_append]; rfl⟩
    · rcases List.mem_append.mp hl with hl | hl
      · exact h2.nm l hl
      · rw [List.mem_singleton.mp hl]; exact q1
    · rw [List.nodup_append]
      exact ⟨h2.nd, by simp, fun a ha b hb e => q2 (by rw [List.mem_singleton.mp hb] at e; exact e ▸ ha)⟩
    · rcases List.mem_append.mp hl with hl | hl
      · exact h3 l hl
      · rw [List.mem_singleton.mp hl]; exact q3
  obtain ⟨x0, r0, e0⟩ : ∃ x r, fl = x :: r := by
    cases fl with
    | nil => exact absurd rfl fne
    | cons x r => exact ⟨x, r, rfl⟩
  have sp0 : ∀ {P : D → Prop}, P (.str (mkS x0)) → dIx (.lst (namesD fl)) (.int 0) P := fun {P} q => ⟨.str (mkS x0), by rw [e0]; exact atI_of (i := 0) rfl, q⟩
  have f0 := fmem x0 (by rw [e0]; exact List.mem_cons_self)
  refine ⟨⟨_, rfl⟩, ?_⟩
  refine ⟨_, (flat_nm ls).1, rfl, (flat_nm ls).2, ?_⟩
  show (if inV (.str (mkS w)) (ls.map fun l => V.str (mkS l)) = true then _ else _)
  rw [inV_nm]
  refine ite_d (fun q => ?_) (fun q => ?_)
  · exact sp0 ⟨lt1, fin x0 f0.1 f0.2.1 f0.2.2⟩
  · refine .inl ⟨_, (flat_nm bs).1, rfl, (flat_nm bs).2, ?_⟩
    show (if inV (.str (mkS w)) (bs.map fun l => V.str (mkS l)) = true then _ else _)
    rw [inV_nm]
    exact ite_d (fun q2 => sp0 ⟨lt1, fin x0 f0.1 f0.2.1 f0.2.2⟩) (fun q2 => ⟨lt1, fin w hw q q2⟩)
def few : List Nat := [32, 33, 97, 48, 126, 98, 65, 57, 39]
theorem so_few : Str.ofString " !a0~bA9'" = mkS few := by decide +kernel
theorem pr_few : Pr few := by unfold Pr; decide +kernel
theorem rd_law_text : Rd n_law_text 1 sp_law_text d_law_text := by
  rintro ds W Q Qx _ ⟨p, n, rfl, hs, h⟩
  show d_law_text _ [some (.sh (.ref p)), none, none, none, none, none] W
  unfold d_law_text
  rw [so_few, so_s1, so_nil]
  refine seq_gen (fun ρ W' => W' = W ∧ ρ = [some (.sh (.ref p)), some (.sh (.str (mkS few))), none, none, none, none]) (fun ρ W' hI => ?_) (fun N hN => hN _ _ ⟨rfl, rfl⟩)
  obtain ⟨rfl, rfl⟩ := hI
  refine seq_gen (fun ρ W2 => W2 = W' ∧ ρ = [some (.sh (.ref p)), some (.sh (.str (mkS few))), some (.sh (.str (mkS signs1))), none, none, none]) (fun ρ W2 hI => ?_) (fun N hN => hN _ _ ⟨rfl, rfl⟩)
  obtain ⟨rfl, rfl⟩ := hI
  refine seq_gen (fun ρ W' => SrcOk W' p (n + 65) ∧ ∃ f : List Nat, 1 ≤ f.length ∧ f.length ≤ 100 ∧ Pr f ∧ ρ = [some (.sh (.ref p)), some (.sh (.str (mkS few))), some (.sh (.str (mkS signs1))), some (.sh (.str (mkS f))), none, none]) (fun ρ W' hI => ?_) (fun N hN => ?_)
  case refine_2 =>
    refine ⟨rfl, p, 3, n + 65, rfl, hs.less (by omega), by decide, by decide, fun r W1 _ _ hs => ite_d (fun _ => hN _ _ ⟨hs, few, by decide, by decide, pr_few, rfl⟩) fun _ => hN _ _ ⟨hs, signs1, by decide, by decide, pr_s1, rfl⟩⟩
  obtain ⟨hs, f, f1, f2, f3, rfl⟩ := hI
  refine seq_gen (fun ρ W2 => W2 = W' ∧ ρ = [some (.sh (.ref p)), some (.sh (.str (mkS few))), some (.sh (.str (mkS signs1))), some (.sh (.str (mkS f))), some (.sh (.str (mkS []))), none]) (fun ρ W2 hI => ?_) (fun N hN => hN _ _ ⟨rfl, rfl⟩)
  obtain ⟨rfl, rfl⟩ := hI
  refine seq_gen (fun ρ W3 => SrcOk W3 p n ∧ ∃ (l : List Nat) (x4 : Option Sl), Pr l ∧ l.length ≤ 60 ∧ ρ = [some (.sh (.ref p)), some (.sh (.str (mkS few))), some (.sh (.str (mkS signs1))), some (.sh (.str (mkS f))), some (.sh (.str (mkS l))), x4]) (fun ρ W3 hI => ?_) (fun N hN => ?_)
  case refine_1 =>
    obtain ⟨hs, l, x4, hl, hl2, rfl⟩ := hI
    exact h l W3 hl hl2 hs
  refine dFor_mk ⟨sz 8 (by decide), ?_⟩
  refine ⟨rfl, p, 8, n + 64, rfl, hs, by decide, by decide, fun r W1 h0 h1 hs => ?_⟩
  refine pick_nat (xs := [0, 1, 1, 2, 3, 8, 3, 60]) h0 h1 fun m hm => ?_
  have hm' : m ≤ 60 := by
    simp only [List.mem_cons, List.not_mem_nil, or_false] at hm
    omega
  refine ⟨by omega, by omega, fun i ρ W2 => SrcOk W2 p (n + (60 - i)) ∧ ∃ (l : List Nat) (x4 : Option Sl), l.length = i ∧ Pr l ∧ ρ = [some (.sh (.ref p)), some (.sh (.str (mkS few))), some (.sh (.str (mkS signs1))), some (.sh (.str (mkS f))), some (.sh (.str (mkS l))), x4], ⟨hs.less (by omega), [], none, rfl, (fun c hc => nomatch hc), rfl⟩, fun i d ρ W2 hd hI => ?_, fun ρ W2 hI => ?_⟩
  · obtain ⟨hs, l, x4, hl, ha, rfl⟩ := hI
    have hi : i < m := by
      have := (List.getElem?_eq_some_iff.mp hd).1
      rw [rng_len] at this; omega
    refine ⟨sz _ (by rw [len_mkS]; omega), ?_⟩
    refine ⟨rfl, p, _, n + (60 - (i + 1)), rfl, hs.less (by omega), by show (0 : Int) < ((mkS f).length : Int); rw [len_mkS]; omega, by show ((mkS f).length : Int) ≤ _; rw [len_mkS]; omega, fun r W3 h0 h1 hs => ⟨sz _ (by rw [len_mkS]; omega), ?_⟩⟩
    obtain ⟨c, e, hc⟩ := at_mkS f r h0 (by have h1 : r < ((mkS f).length : Int) := h1; rw [len_mkS] at h1; exact h1) f3
    refine ⟨c, e, ?_⟩
    refine ⟨sz _ ?_, hs, l ++ [c], some (.sh d), by rw [List.length_append, hl]; rfl, fun x hx => ?_, ?_⟩
    · rw [len_mkS]; show l.length + 1 ≤ _; omega
    · rcases List.mem_append.mp hx with hx | hx
      · exact ha x hx
      · rw [List.mem_singleton.mp hx]; exact hc
    · show ([_, _, _, _, some (Sl.sh (D.str (mkS l ++ ⟨#[c]⟩))), _] : List (Option Sl)) = _
      rw [one_mkS, app_mkS]
  · obtain ⟨hs, l, x4, hl, ha, rfl⟩ := hI
    rw [rng_len] at hl hs
    exact hN _ _ ⟨hs.less (by omega), l, x4, ha, by omega, rfl⟩
theorem kn_truth (k : Nat) (hk : k ≤ 2) : decide (kn k = Str.ofString "truth") = decide (k = 2) := by
  match k, hk with
  | 0, _ => decide +kernel
  | 1, _ => decide +kernel
  | 2, _ => decide +kernel
theorem kn_text (k : Nat) (hk : k ≤ 2) : decide (kn k = Str.ofString "text") = decide (k = 1) := by
  match k, hk with
  | 0, _ => decide +kernel
  | 1, _ => decide +kernel
  | 2, _ => decide +kernel
theorem rd_law_value : Rd n_law_value 2 sp_law_value d_law_value := by
  rintro ds W Q Qx _ ⟨p, k, n, rfl, hk, hs, h⟩
  show d_law_value _ [some (.sh (.ref p)), some (.sh (.str (kn k))), none, none] W
  unfold d_law_value
  have hint : ∀ (i : Int) W', i.natAbs ≤ 999999999999999999999999999999 → k = 0 → SrcOk W' p n → Q (.int i) W' := fun i W' hi hk hs => by
    have e : isVal (.int i) = true := decide_eq_true hi
    refine h _ _ e (by rw [hk]; rfl) ?_ hs
    have h2 : (999999999999999999999999999999 : Nat) < 2 ^ 100 := by decide
    have h3 : i.natAbs.log2 < 100 := C.log2_small (k := 100) (Nat.lt_of_le_of_lt hi h2) (by decide)
    rw [G.wt]; omega
  refine seq_gen (fun ρ W' => W' = W ∧ k ≠ 2 ∧ ρ = [some (.sh (.ref p)), some (.sh (.str (kn k))), none, none]) (fun ρ W' hI => ?_) (fun N hN => dEq_str ?_)
  case refine_2 =>
    rw [kn_truth k hk]
    refine ite_d (fun e => ?_) (fun e => hN _ _ ⟨rfl, e, rfl⟩)
    exact ⟨rfl, p, 2, n, rfl, hs.less (by omega), by decide, by decide, fun r W1 _ _ hs => dEq_int (h _ _ rfl (by rw [e]; rfl) (by rw [G.wt]; decide) hs)⟩
  obtain ⟨rfl, k2, rfl⟩ := hI
  refine seq_gen (fun ρ W2 => W2 = W' ∧ k ≠ 1 ∧ ρ = [some (.sh (.ref p)), some (.sh (.str (kn k))), none, none]) (fun ρ W2 hI => ?_) (fun N hN => dEq_str ?_)
  case refine_2 =>
    rw [kn_text k hk]
    refine ite_d (fun e => ?_) (fun e => hN _ _ ⟨rfl, e, rfl⟩)
    refine ⟨rfl, p, n, rfl, hs.less (by omega), fun l W1 hl hl2 hs => h _ _ ?_ (by rw [e]; rfl) ?_ hs⟩
    · show (textB l && decide ((mkS l).length ≤ 200)) = true
      rw [text_pr.mpr hl, len_mkS, decide_eq_true (by omega)]; rfl
    · rw [G.wt, len_mkS]; omega
  obtain ⟨rfl, k1, rfl⟩ := hI
  have k0 : k = 0 := by omega
  refine seq_gen (fun ρ W3 => SrcOk W3 p (n + 5) ∧ ∃ r : Nat, r < 12 ∧ ρ = [some (.sh (.ref p)), some (.sh (.str (kn k))), some (.sh (.int r)), none]) (fun ρ W3 hI => ?_) (fun N hN => ⟨rfl, p, 12, n + 5, rfl, hs.less (by omega), by decide, by decide, fun r W1 h0 h1 hs => hN _ _ ⟨hs, r.toNat, by omega, by rw [Int.toNat_of_nonneg h0]; rfl⟩⟩)
  obtain ⟨hs, r, hr, rfl⟩ := hI
  refine seq_gen (fun ρ W4 => SrcOk W4 p (n + 5) ∧ 9 ≤ r ∧ ρ = [some (.sh (.ref p)), some (.sh (.str (kn k))), some (.sh (.int r)), none]) (fun ρ W4 hI => ?_) (fun N hN => ?_)
  case refine_2 =>
    refine ite_d (fun e => ?_) (fun e => hN _ _ ⟨hs, by omega, rfl⟩)
    refine ⟨sz 9 (by decide), ix_all (by omega) (by show (r : Int) < 9; omega) fun z hz => ?_⟩
    simp only [List.mem_cons, List.not_mem_nil, or_false] at hz
    rcases hz with rfl | rfl | rfl | rfl | rfl | rfl | rfl | rfl | rfl <;> exact hint _ _ (by decide) k0 (hs.less (by omega))
  obtain ⟨hs, r9, rfl⟩ := hI
  refine seq_gen (fun ρ W5 => SrcOk W5 p (n + 4) ∧ ∃ g : Nat, g < 1000000000000000000000000000000 ∧ ρ = [some (.sh (.ref p)), some (.sh (.str (kn k))), some (.sh (.int r)), some (.sh (.int g))]) (fun ρ W5 hI => ?_) (fun N hN => ?_)
  case refine_2 =>
    refine ⟨⟨by decide, by decide, by decide⟩, ⟨by decide, by decide, by decide⟩, ⟨by decide, by decide, by decide⟩, sz 3 (by decide), ix_all (by omega) (by show (r : Int) - 9 < 3; omega) fun z hz => ?_⟩
    obtain ⟨m, rfl, m1, m2⟩ : ∃ m : Int, z = .int m ∧ 0 < m ∧ m ≤ 1000000000000000000000000000000 := by
      simp only [List.mem_cons, List.not_mem_nil, or_false] at hz
      rcases hz with rfl | rfl | rfl
      · exact ⟨_, rfl, by decide, by decide⟩
      · exact ⟨_, rfl, by decide, by decide⟩
      · exact ⟨_, rfl, by decide, by decide⟩
    exact ⟨rfl, p, m, n + 4, rfl, hs, m1, m2, fun r W1 h0 h1 hs => hN _ _ ⟨hs, r.toNat, by omega, by rw [Int.toNat_of_nonneg h0]; rfl⟩⟩
  obtain ⟨hs, g, hg, rfl⟩ := hI
  refine ⟨rfl, p, 2, n, rfl, hs.less (by omega), by decide, by decide, fun r W1 _ _ hs => dEq_int (ite_b (fun _ => hint _ _ (by omega) k0 hs) fun _ => hint _ _ (by omega) k0 hs)⟩
theorem rd_law_kind : Rd n_law_kind 1 sp_law_kind d_law_kind := by
  rintro ds W Q Qx _ ⟨d, rfl, hs, h⟩
  show d_law_kind _ [some (.sh d)] W
  unfold d_law_kind
  cases d with
  | v x =>
    cases x with
    | non => exact h
    | bl b => exact ⟨_, true, rfl, rfl, h⟩
    | int i => exact ⟨_, false, rfl, rfl, _, true, rfl, rfl, h⟩
    | str s => exact ⟨_, false, rfl, rfl, _, false, rfl, rfl, h⟩
    | _ => simp [isVal] at hs
  | _ => simp [isVal] at hs
end K23

namespace K23
open PySem PySem.Spec L2 G TL C Q
theorem cols_flat (cols : List Str) : (cols.map V.str).all flatV = true := by
  rw [List.all_map, List.all_eq_true]; intro _ _; rfl
theorem cols_map (cols : List Str) : (cols.map V.str).map D.v = cols.map D.str := by rw [List.map_map]; rfl
theorem idx_list {cols : List Str} (nd : cols.Nodup) {j : Nat} (hj : j < cols.length) : ∃ z : V, (cols.map V.str)[j]? = some z ∧ eqV z (.str (cols.getD j (mkS []))) = true ∧ ∀ (m : Nat) (z' : V), m < j → (cols.map V.str)[m]? = some z' → eqV z' (.str (cols.getD j (mkS []))) = false := by
  obtain ⟨i1, i2⟩ := idx_cols nd hj
  refine ⟨.str (cols.getD j (mkS [])), by rw [List.getElem?_map, i1]; rfl, by simp [eqV], fun m z' hm hz => ?_⟩
  rw [List.getElem?_map] at hz
  obtain ⟨s, hs, rfl⟩ := Option.map_eq_some_iff.mp hz
  have : s ≠ cols.getD j (mkS []) := fun e => i2 m hm (by rw [hs, e])
  simp only [eqV, beq_eq_false_iff_ne]
  exact this
theorem wd_is (w : Nat) (hw : w ≤ 2) : decide (wd w = Str.ofString "is") = decide (w = 0) ∧ decide (wd w = Str.ofString "most") = decide (w = 2) := by
  match w, hw with
  | 0, _ => decide +kernel
  | 1, _ => decide +kernel
  | 2, _ => decide +kernel
theorem ev_two (o : Bool) (a b : Option Bool) : (if a = some o ∨ b = some o then some o else if a = none ∨ b = none then none else some (!o)) = (if o then (if a = some true ∨ b = some true then some true else if a = some false ∧ b = some false then some false else none) else (if a = some true ∧ b = some true then some true else if a = some false ∨ b = some false then some false else none)) := by
  cases o <;> rcases a with _ | _ | _ <;> rcases b with _ | _ | _ <;> rfl
theorem rdn_law_truths (n : Nat) (sp0 : SpD) (h0 : ∀ m, n = m + 1 → sp0 = spn_law_truths m) : Rd n_law_truths 3 (spn_law_truths n) (d_law_truths sp0) := by
  rintro ds W Q Qx _ ⟨cols, c, row, rfl, nd, hl, hrow, hok, h⟩
  show d_law_truths sp0 _ [some (.sh (.lst (cols.map D.str))), some (.sh (cdD cols c)), some (.sh (.tup row)), none, none, none, none, none, none, none] W
  unfold d_law_truths
  have look : ∀ j, j < cols.length → ∃ x, row[j]? = some x ∧ row.getD j .non = x ∧ isVal x = true := fun j hj => by
    have hj' : j < row.length := by omega
    exact ⟨row[j], List.getElem?_eq_getElem hj', by rw [List.getD_eq_getElem?_getD, List.getElem?_eq_getElem hj']; rfl, hrow _ (List.getElem_mem hj')⟩
  cases c with
  | non j =>
    have hj : j < cols.length := by unfold CdOk at hok; exact hok
    obtain ⟨x, hx, ex, vx⟩ := look j hj
    obtain ⟨z, i1, i2, i3⟩ := idx_list nd hj
    rw [cdD]
    refine ⟨.str wNone, at0 _ _ _, dEq_str (ite_f ?_)⟩
    refine ⟨sz 2 (by decide), in_words2 (str_nv ok_none (by decide +kernel)) (ite_f ?_)⟩
    refine ⟨⟨_, rfl⟩, _, at1 _ _ _, cols.map V.str, _, z, j, by rw [cols_map], rfl, rfl, cols_flat cols, i1, i2, i3, x, atI_of hx, dEq_str (ite_t ⟨sz 2 (by decide), ?_⟩)⟩
    have h : Q (.tup [.bl (decide (some (D.isV (row.getD j .non) .non) = some true)), .bl (decide (some (D.isV (row.getD j .non) .non) = some false))]) W := h
    rw [ex] at h
    show Q (.tup [.bl (D.isV x .non), .bl (!D.isV x .non)]) W
    cases e : D.isV x .non <;> (rw [e] at h; exact h)
  | cmp w j v =>
    have hok' : w ≤ 2 ∧ j < cols.length ∧ isVal v = true := by unfold CdOk at hok; exact hok
    obtain ⟨hw, hj, hv⟩ := hok'
    obtain ⟨x, hx, ex, vx⟩ := look j hj
    obtain ⟨z, i1, i2, i3⟩ := idx_list nd hj
    obtain ⟨w1, w2, w3, w4⟩ := wd_ne w
    obtain ⟨w5, w6⟩ := wd_is w hw
    have h : Q (.tup [.bl (decide ((if D.isV (row.getD j .non) .non || decide (kindOf (row.getD j .non) ≠ kindOf v) then none else some (cmpB w (row.getD j .non) v)) = some true)), .bl (decide ((if D.isV (row.getD j .non) .non || decide (kindOf (row.getD j .non) ≠ kindOf v) then none else some (cmpB w (row.getD j .non) v)) = some false))]) W := h
    rw [ex] at h
    rw [cdD]
    refine ⟨.str (wd w), at0 _ _ _, dEq_str ?_⟩
    rw [w1]
    refine ite_f ⟨sz 2 (by decide), in_words2 (str_nv (ok_wd w) (wd_len w)) ?_⟩
    rw [w2, w3]
    refine ite_f ⟨⟨_, rfl⟩, _, at1 _ _ _, cols.map V.str, _, z, j, by rw [cols_map], rfl, rfl, cols_flat cols, i1, i2, i3, x, atI_of hx, dEq_str ?_⟩
    rw [w4]
    refine ite_f ?_
    show (if D.isV x .non = true then _ else _)
    cases en : D.isV x .non with
    | true =>
      rw [en, Bool.true_or, if_pos rfl] at h
      exact ite_t ⟨sz 2 (by decide), h⟩
    | false =>
      rw [en, Bool.false_or] at h
      refine ite_f ⟨rfl, x, rfl, vx, v, at2 _ _ _ _, rfl, v, rfl, hv, dNe_str ?_⟩
      rw [kind_eq]
      by_cases hk : kindOf x = kindOf v
      · rw [decide_eq_true hk]
        rw [show decide (kindOf x ≠ kindOf v) = false from decide_eq_false (fun q => q hk), if_neg Bool.false_ne_true] at h
        have hn : x ≠ .non := fun e => by rw [e] at en; cases en
        refine hno ?_
        refine ⟨v, at2 _ _ _ _, dEq_val vx hk hv ?_⟩
        refine dNe_str ?_
        rw [w5]
        have fin : ∀ b : Bool, b = cmpB w x v → Q (.tup [.bl b, .bl (!b)]) W := fun b e => by
          rw [← e] at h
          cases b <;> exact h
        match w, hw, fin with
        | 0, _, fin => exact hno ⟨sz 2 (by decide), fin _ rfl⟩
        | 1, _, fin =>
          refine ite_t ⟨v, at2 _ _ _ _, dLt_val vx hk hn hv ?_⟩
          cases e : ltV x v with
          | true => exact ⟨sz 2 (by decide), fin true e.symm⟩
          | false =>
            show (match D.bl (eqV' x v) with | .v (.bl true) => _ | .v (.bl false) => _ | _ => False)
            cases e2 : eqV' x v with
            | true => exact dEq_str ⟨sz 2 (by decide), fin false e.symm⟩
            | false => exact ⟨sz 2 (by decide), fin false e.symm⟩
        | 2, _, fin =>
          refine ite_t ⟨v, at2 _ _ _ _, dLt_val vx hk hn hv ?_⟩
          cases e : ltV x v with
          | true => exact ⟨sz 2 (by decide), fin true (by show true = (ltV x v || eqV' x v); rw [e]; rfl)⟩
          | false =>
            show (match D.bl (eqV' x v) with | .v (.bl true) => _ | .v (.bl false) => _ | _ => False)
            cases e2 : eqV' x v with
            | true => exact dEq_str ⟨sz 2 (by decide), fin true (by show true = (ltV x v || eqV' x v); rw [e, e2]; rfl)⟩
            | false => exact ⟨sz 2 (by decide), fin false (by show false = (ltV x v || eqV' x v); rw [e, e2]; rfl)⟩
      · rw [decide_eq_false hk]
        rw [show decide (kindOf x ≠ kindOf v) = true from decide_eq_true hk, if_pos rfl] at h
        exact ite_t ⟨sz 2 (by decide), h⟩
  | neg c =>
    cases n with
    | zero => unfold CdOk at hok; exact hok.elim
    | succ n =>
      have hok' : CdOk cols.length n c := by unfold CdOk at hok; exact hok
      have e0 := h0 n rfl
      subst e0
      rw [cdD]
      refine ⟨.str wNot, at0 _ _ _, dEq_str (ite_t ?_)⟩
      refine ⟨_, at1 _ _ _, rfl, cols, c, row, rfl, nd, hl, hrow, hok', ?_⟩
      refine ⟨rfl, sz 2 (by decide), ?_⟩
      have h : Q (.tup [.bl (decide ((ev row c).map not = some true)), .bl (decide ((ev row c).map not = some false))]) W := h
      show Q (.tup [.bl (decide (ev row c = some false)), .bl (decide (ev row c = some true))]) W
      rcases e : ev row c with _ | _ | _ <;> (rw [e] at h; exact h)
  | two o c e =>
    cases n with
    | zero => unfold CdOk at hok; exact hok.elim
    | succ n =>
      have hok' : CdOk cols.length n c ∧ CdOk cols.length n e := by unfold CdOk at hok; exact hok
      have e0 := h0 n rfl
      subst e0
      rw [cdD]
      refine ⟨_, at0 _ _ _, dEq_str ?_⟩
      have w1 : decide ((if o then wOr else wAnd) = Str.ofString "not") = false := by cases o <;> decide +kernel
      rw [w1]
      refine ite_f ⟨sz 2 (by decide), in_words2 (str_nv (by cases o; exact ok_and; exact ok_or) (by cases o <;> decide +kernel)) ?_⟩
      have w2 : (D.isV (.str (if o then wOr else wAnd)) (.str wAnd) || D.isV (.str (if o then wOr else wAnd)) (.str wOr)) = true := by cases o <;> decide +kernel
      rw [w2]
      refine ite_t ⟨_, at1 _ _ _, rfl, cols, c, row, rfl, nd, hl, hrow, hok'.1, ?_⟩
      refine ⟨_, at2 _ _ _ _, rfl, cols, e, row, rfl, nd, hl, hrow, hok'.2, ?_⟩
      refine dEq_str ?_
      have w3 : decide ((if o then wOr else wAnd) = Str.ofString "and") = !o := by cases o <;> decide +kernel
      rw [w3]
      have h : Q (.tup [.bl (decide ((if ev row c = some o ∨ ev row e = some o then some o else if ev row c = none ∨ ev row e = none then none else some (!o)) = some true)), .bl (decide ((if ev row c = some o ∨ ev row e = some o then some o else if ev row c = none ∨ ev row e = none then none else some (!o)) = some false))]) W := h
      have a0 : ∀ x y : D, atI [x, y] 0 = some x := fun x y => at0 x y []
      have a1 : ∀ x y : D, atI [x, y] 1 = some y := fun x y => at1 x y []
      cases o with
      | false =>
        refine ite_t ⟨_, a0 _ _, ?_⟩
        rcases ec : ev row c with _ | _ | _ <;> rcases ee : ev row e with _ | _ | _ <;> rw [ec, ee] at h
        all_goals first
          | exact ⟨_, a0 _ _, _, a1 _ _, _, a1 _ _, sz 2 (by decide), h⟩
          | exact ⟨_, a0 _ _, _, a1 _ _, sz 2 (by decide), h⟩
          | exact ⟨_, a1 _ _, _, a1 _ _, sz 2 (by decide), h⟩
          | exact ⟨_, a1 _ _, sz 2 (by decide), h⟩
      | true =>
        refine ite_f ⟨_, a0 _ _, ?_⟩
        rcases ec : ev row c with _ | _ | _ <;> rcases ee : ev row e with _ | _ | _ <;> rw [ec, ee] at h
        all_goals first
          | exact ⟨_, a0 _ _, _, a1 _ _, _, a1 _ _, sz 2 (by decide), h⟩
          | exact ⟨_, a0 _ _, _, a1 _ _, sz 2 (by decide), h⟩
          | exact ⟨_, a1 _ _, _, a1 _ _, sz 2 (by decide), h⟩
          | exact ⟨_, a1 _ _, sz 2 (by decide), h⟩
end K23

namespace K23
open PySem PySem.Spec L2 G TL C Q
theorem niceB {n B : Nat} {d : D} (h : (D.good n d && (iOk d && decide (wt d ≤ B))) = true) : Nice n B d := by
  rw [Bool.and_eq_true, Bool.and_eq_true, decide_eq_true_eq] at h
  exact ⟨h.1, h.2.1, h.2.2⟩
theorem nice_name (n : Nat) {l : List Nat} (h : nameB l = true) : Nice n 82 (.str (mkS l)) := Nice.str (pr_ok (name_pr h)) (by rw [len_mkS]; have := (name_len h).2; omega)
theorem nice_val (n : Nat) {d : D} (h : isVal d = true) (hw : wt d ≤ 700) : Nice n 700 d := by
  have := val_nice n h
  exact ⟨this.good, this.ok, hw⟩
theorem rdn_law_condition (n : Nat) (sp0 : SpD) (h0 : ∀ m, n = m + 1 → sp0 = spn_law_condition m) : Rd n_law_condition 3 (spn_law_condition n) (d_law_condition sp0) := by
  rintro ds W Q Qx _ ⟨p, cs, k, N, rfl, hk, hc, hs, h⟩
  show d_law_condition sp0 _ [some (.sh (.ref p)), some (.sh (.lst (cs.map colD))), some (.sh (.int k)), none, none, none, none, none, none, none] W
  unfold d_law_condition
  have k1 : 1 ≤ 2 ^ k := Nat.one_le_two_pow
  obtain ⟨B, hB⟩ : ∃ B, N + 99 = B := ⟨_, rfl⟩
  -- the pick
  refine seq_gen (fun ρ W' => ∃ r : Nat, r < 8 ∧ ((r < 4 ∧ 0 < k ∧ SrcOk W' p (N + (200 * 2 ^ k - 101))) ∨ (4 ≤ r ∧ SrcOk W' p B)) ∧ ρ = [some (.sh (.ref p)), some (.sh (.lst (cs.map colD))), some (.sh (.int k)), some (.sh (.int r)), none, none, none, none, none, none]) (fun ρ W' hI => ?_) (fun M hM => ?_)
  case refine_2 =>
    refine ite_d (fun hk0 => ?_) (fun hk0 => hM _ _ ⟨7, by decide, .inr ⟨by decide, hs.less (by omega)⟩, rfl⟩)
    refine ⟨rfl, p, 8, N + (200 * 2 ^ k - 101), rfl, hs.less (by omega), by decide, by decide, fun r W1 r0 r1 hs => ?_⟩
    have e : r = ((r.toNat : Nat) : Int) := (Int.toNat_of_nonneg r0).symm
    rw [e]
    by_cases q : r.toNat < 4
    · exact hM _ _ ⟨r.toNat, by omega, .inl ⟨q, by omega, hs⟩, rfl⟩
    · exact hM _ _ ⟨r.toNat, by omega, .inr ⟨by omega, hs.less (by omega)⟩, rfl⟩
  obtain ⟨r, hr, hcase, rfl⟩ := hI
  refine seq_gen (fun ρ W2 => SrcOk W2 p B ∧ ρ = [some (.sh (.ref p)), some (.sh (.lst (cs.map colD))), some (.sh (.int k)), some (.sh (.int r)), none, none, none, none, none, none]) (fun ρ W2 hI => ?_) (fun M hM => ?_)
  case refine_2 =>
    refine ite_d (fun hr4 => ?_) (fun hr4 => ?_)
    case refine_2 =>
      rcases hcase with ⟨q, _⟩ | ⟨_, hs⟩
      · omega
      · exact hM _ _ ⟨hs, rfl⟩
    obtain ⟨hk0, hs⟩ : 0 < k ∧ SrcOk W' p (N + (200 * 2 ^ k - 101)) := by
      rcases hcase with ⟨_, q1, q2⟩ | ⟨q, _⟩
      · exact ⟨q1, q2⟩
      · omega
    obtain ⟨m, rfl⟩ : ∃ m, n = m + 1 := ⟨n - 1, by omega⟩
    obtain ⟨j, rfl⟩ : ∃ j, k = j + 1 := ⟨k - 1, by omega⟩
    have e0 := h0 m rfl
    subst e0
    have ej : ((j + 1 : Nat) : Int) - 1 = (j : Nat) := by omega
    have p2 : 2 ^ (j + 1) = 2 * 2 ^ j := by rw [Nat.pow_succ]; omega
    have j1 : 1 ≤ 2 ^ j := Nat.one_le_two_pow
    refine seq_gen (fun ρ W3 => SrcOk W3 p (N + (200 * 2 ^ j - 100)) ∧ ∃ d, Nice (j + 1) (1100 * 2 ^ j - 100) d ∧ ρ = [some (.sh (.ref p)), some (.sh (.lst (cs.map colD))), some (.sh (.int ((j + 1 : Nat) : Int))), some (.sh (.int r)), some (.sh d), none, none, none, none, none]) (fun ρ W3 hI => ?_) (fun M2 hM2 => ?_)
    case refine_2 =>
      refine ⟨rfl, p, cs, j, N + (200 * 2 ^ j - 100), ?_, by omega, hc, hs.less (by omega), fun d W3 hd _ hs => hM2 _ _ ⟨hs, d, hd, rfl⟩⟩
      show [_, _, D.int (((j + 1 : Nat) : Int) - 1)] = _
      rw [ej]
    obtain ⟨hs, d, hd, rfl⟩ := hI
    refine seq_gen (fun ρ W4 => W4 = W3 ∧ r ≠ 0 ∧ ρ = [some (.sh (.ref p)), some (.sh (.lst (cs.map colD))), some (.sh (.int ((j + 1 : Nat) : Int))), some (.sh (.int r)), some (.sh d), none, none, none, none, none]) (fun ρ W4 hI => ?_) (fun M2 hM2 => dEq_int ?_)
    case refine_2 =>
      refine ite_d (fun e => ?_) (fun e => hM2 _ _ ⟨rfl, by omega, rfl⟩)
      refine ⟨sz 2 (by decide), h _ _ ?_ (by simp) (hs.less (by omega))⟩
      have a1 : Nice (j + 1) 32 (.str (Str.ofString "not")) := Nice.str ok_not (by decide +kernel)
      exact (Nice.tup (NiceL.cons a1 (NiceL.cons hd (NiceL.nil (B := 0))))).up (Nat.le_refl _) (by omega)
    obtain ⟨rfl, r0, rfl⟩ := hI
    refine ⟨sz 3 (by decide), ix_all (by omega) (by show (r : Int) - 1 < 3; omega) fun z hz => ?_⟩
    have a1 : Nice (j + 1) 32 z := by
      simp only [List.mem_cons, List.not_mem_nil, or_false] at hz
      rcases hz with rfl | rfl | rfl
      · exact Nice.str ok_and (by decide +kernel)
      · exact Nice.str ok_or (by decide +kernel)
      · exact Nice.str ok_and (by decide +kernel)
    refine ⟨rfl, p, cs, j, N, ?_, by omega, hc, hs, fun d2 W3 hd2 _ hs => ⟨sz 3 (by decide), h _ _ ?_ (by simp) hs⟩⟩
    · show [_, _, D.int (((j + 1 : Nat) : Int) - 1)] = _
      rw [ej]
    · exact (Nice.tup (NiceL.cons a1 (NiceL.cons hd (NiceL.cons hd2 (NiceL.nil (B := 0)))))).up (Nat.le_refl _) (by omega)
  obtain ⟨hs, rfl⟩ := hI
  subst hB
  clear hcase
  -- the column
  refine seq_gen (fun ρ W3 => SrcOk W3 p (N + 98) ∧ ∃ c ∈ cs, ρ = [some (.sh (.ref p)), some (.sh (.lst (cs.map colD))), some (.sh (.int k)), some (.sh (.int r)), none, some (.sh (.str (mkS c.nm))), some (.sh (.str (kn c.kd))), some (.sh (.bl c.free)), none, none]) (fun ρ W3 hI => ?_) (fun M hM => ?_)
  case refine_2 =>
    have hcl : 0 < cs.length := List.length_pos_iff.mpr hc.ne
    have := hc.len
    refine ⟨rfl, p, ((cs.map colD).length : Int), N + 98, rfl, hs, by rw [List.length_map]; omega, by rw [List.length_map]; omega, fun q W3 q0 q1 hs => ix_all q0 q1 fun z hz => ?_⟩
    rw [List.mem_map] at hz
    obtain ⟨c, hcm, rfl⟩ := hz
    exact ⟨rfl, hM _ _ ⟨hs, c, hcm, rfl⟩⟩
  obtain ⟨hs, c, hcm, rfl⟩ := hI
  have nn := nice_name k (hc.nm c hcm)
  -- the word
  refine seq_gen (fun ρ W4 => SrcOk W4 p (N + 97) ∧ ∃ w : Str, PyData.strOk w = true ∧ w.length ≤ 4 ∧ ρ = [some (.sh (.ref p)), some (.sh (.lst (cs.map colD))), some (.sh (.int k)), some (.sh (.int r)), none, some (.sh (.str (mkS c.nm))), some (.sh (.str (kn c.kd))), some (.sh (.bl c.free)), some (.sh (.str w)), none]) (fun ρ W4 hI => ?_) (fun M hM => ?_)
  case refine_2 =>
    refine ⟨sz 4 (by decide), rfl, p, 4, N + 97, rfl, hs, by decide, by decide, fun q W4 q0 q1 hs => ix_all q0 q1 fun z hz => ?_⟩
    simp only [List.mem_cons, List.not_mem_nil, or_false] at hz
    rcases hz with rfl | rfl | rfl | rfl
    · exact hM _ _ ⟨hs, _, ok_is, by decide +kernel, rfl⟩
    · exact hM _ _ ⟨hs, _, ok_less, by decide +kernel, rfl⟩
    · exact hM _ _ ⟨hs, _, ok_most, by decide +kernel, rfl⟩
    · exact hM _ _ ⟨hs, _, ok_none, by decide +kernel, rfl⟩
  obtain ⟨hs, w, w1, w2, rfl⟩ := hI
  have nw : Nice k 42 (.str w) := Nice.str w1 (by omega)
  refine seq_gen (fun ρ W5 => W5 = W4 ∧ ρ = [some (.sh (.ref p)), some (.sh (.lst (cs.map colD))), some (.sh (.int k)), some (.sh (.int r)), none, some (.sh (.str (mkS c.nm))), some (.sh (.str (kn c.kd))), some (.sh (.bl c.free)), some (.sh (.str w)), none]) (fun ρ W5 hI => ?_) (fun M hM => dEq_str ?_)
  case refine_2 =>
    refine ite_d (fun e => ?_) (fun e => hM _ _ ⟨rfl, rfl⟩)
    refine ⟨sz 2 (by decide), h _ _ ?_ (by simp) (hs.less (by omega))⟩
    exact (Nice.tup (NiceL.cons nw (NiceL.cons nn (NiceL.nil (B := 0))))).up (Nat.le_refl _) (by omega)
  obtain ⟨rfl, rfl⟩ := hI
  have fin : ∀ v W', Nice k 700 v → SrcOk W' p N → Q (.tup [.str w, .str (mkS c.nm), v]) W' := fun v W' hv hs => by
    refine h _ _ ?_ (by simp) hs
    exact (Nice.tup (NiceL.cons nw (NiceL.cons nn (NiceL.cons hv (NiceL.nil (B := 0)))))).up (Nat.le_refl _) (by omega)
  refine seq_gen (fun ρ W6 => SrcOk W6 p (N + 96) ∧ ∃ o : Int, ρ = [some (.sh (.ref p)), some (.sh (.lst (cs.map colD))), some (.sh (.int k)), some (.sh (.int r)), none, some (.sh (.str (mkS c.nm))), some (.sh (.str (kn c.kd))), some (.sh (.bl c.free)), some (.sh (.str w)), some (.sh (.int o))]) (fun ρ W6 hI => ?_) (fun M hM => ⟨rfl, p, 12, N + 96, rfl, hs, by decide, by decide, fun q W6 q0 q1 hs => hM _ _ ⟨hs, q, rfl⟩⟩)
  obtain ⟨hs, o, rfl⟩ := hI
  refine seq_gen (fun ρ W7 => SrcOk W7 p (N + 90) ∧ ρ = [some (.sh (.ref p)), some (.sh (.lst (cs.map colD))), some (.sh (.int k)), some (.sh (.int r)), none, some (.sh (.str (mkS c.nm))), some (.sh (.str (kn c.kd))), some (.sh (.bl c.free)), some (.sh (.str w)), some (.sh (.int o))]) (fun ρ W7 hI => ?_) (fun M hM => ?_)
  case refine_2 =>
    refine ite_d (fun e => ?_) (fun e => hM _ _ ⟨hs.less (by omega), rfl⟩)
    refine dEq_int (ite_b (fun _ => ⟨sz 3 (by decide), fin _ _ (Nice.non (by decide)) (hs.less (by omega))⟩) fun _ => ?_)
    refine ⟨sz 3 (by decide), rfl, p, 3, N + 90, rfl, hs.less (by omega), by decide, by decide, fun q W7 q0 q1 hs => ix_all q0 q1 fun z hz => ?_⟩
    obtain ⟨kd, hkd, rfl⟩ : ∃ kd, kd ≤ 2 ∧ z = .str (kn kd) := by
      simp only [List.mem_cons, List.not_mem_nil, or_false] at hz
      rcases hz with rfl | rfl | rfl
      · exact ⟨0, by decide, rfl⟩
      · exact ⟨1, by decide, rfl⟩
      · exact ⟨2, by decide, rfl⟩
    exact ⟨rfl, p, kd, N, rfl, hkd, hs.less (by omega), fun v W8 hv _ hw hs => ⟨sz 3 (by decide), fin v W8 (nice_val k hv hw) hs⟩⟩
  obtain ⟨hs, rfl⟩ := hI
  exact ⟨rfl, p, c.kd, N, rfl, hc.kd c hcm, hs.less (by omega), fun v W8 hv _ hw hs => ⟨sz 3 (by decide), fin v W8 (nice_val k hv hw) hs⟩⟩
theorem pl_flat {ds : List D} {qss : List (List (List Nat))} (i : Nat) (hi : i < ds.length) : True := trivial
theorem wt_pos (d : D) : ∀ n, D.good n d = true → iOk d = true → 1 ≤ wt d := fun n h k => by
  have hN : Nice n (wt d) d := ⟨h, k, Nat.le_refl _⟩
  rcases nv_cases hN with rfl | ⟨_, rfl⟩ | ⟨_, rfl⟩ | ⟨_, rfl⟩ | ⟨_, rfl⟩ | ⟨_, rfl⟩ <;> rw [G.wt] <;> omega
theorem wts_take {ds : List D} {i : Nat} {x : D} (h : ds[i]? = some x) : wts (ds.take (i + 1)) = wts (ds.take i) + (wt x + 2) := by
  rw [List.take_add_one, h, wts_app]
  show wts (ds.take i) + wts [x] = _
  rw [wts, wts]
theorem rdn_law_places (n : Nat) (sp0 : SpD) (h0 : ∀ m, n = m + 1 → sp0 = spn_law_places m) : Rd n_law_places 2 (spn_law_places n) (d_law_places sp0) := by
  rintro ds W Q Qx _ ⟨d, path, rfl, hd, hp, h⟩
  show d_law_places sp0 _ [some (.sh d), some (.sh (.tup path)), none, none] W
  unfold d_law_places
  have e1 : D.tup path = pathD path [] := by unfold pathD; rw [List.map_nil, List.append_nil]
  refine seq_gen (fun ρ W' => W' = W ∧ ρ = [some (.sh d), some (.sh (.tup path)), some (.sh (.lst ([([] : List Nat)].map (pathD path)))), none]) (fun ρ W' hI => ?_) (fun M hM => ⟨sz 1 (by decide), by
    have := hM [some (.sh d), some (.sh (.tup path)), some (.sh (.lst ([([] : List Nat)].map (pathD path)))), none] W ⟨rfl, rfl⟩
    rw [List.map_cons, List.map_nil, ← e1] at this
    exact this⟩)
  obtain ⟨rfl, rfl⟩ := hI
  have hpos := wt_pos d n hd.good hd.ok
  refine seq_gen (fun ρ W2 => W2 = W' ∧ ∃ (qs : List (List Nat)) (x3 : Option Sl), PlOk d qs ∧ ρ = [some (.sh d), some (.sh (.tup path)), some (.sh (.lst (qs.map (pathD path)))), x3]) (fun ρ W2 hI => ?_) (fun M hM => ?_)
  case refine_1 =>
    obtain ⟨rfl, qs, x3, hq, rfl⟩ := hI
    exact h qs hq
  have triv : PlOk d [[]] := ⟨by simp, fun q hq => by rw [List.mem_singleton.mp hq]; exact ⟨d, rfl⟩, hpos⟩
  have no : ∀ b : Bool, isTupD d = b → (b = false → M [some (.sh d), some (.sh (.tup path)), some (.sh (.lst ([([] : List Nat)].map (pathD path)))), none] W') := fun b _ _ => hM _ _ ⟨rfl, _, none, triv, rfl⟩
  rcases nv_cases hd with rfl | ⟨_, rfl⟩ | ⟨_, rfl⟩ | ⟨_, rfl⟩ | ⟨xs, rfl⟩ | ⟨_, rfl⟩
  · exact ⟨_, false, rfl, rfl, hM _ _ ⟨rfl, _, none, triv, rfl⟩⟩
  · exact ⟨_, false, rfl, rfl, hM _ _ ⟨rfl, _, none, triv, rfl⟩⟩
  · exact ⟨_, false, rfl, rfl, hM _ _ ⟨rfl, _, none, triv, rfl⟩⟩
  · exact ⟨_, false, rfl, rfl, hM _ _ ⟨rfl, _, none, triv, rfl⟩⟩
  · refine ⟨_, true, rfl, rfl, ?_⟩
    cases n with
    | zero => have := hd.good; simp [D.good] at this
    | succ n =>
      have e0 := h0 n rfl
      subst e0
      have hL := hd.untup
      have hlen := hL.len
      have hle := hL.le
      show dFor _ _ _ _ _ _
      refine dFor_of (rng 0 xs.length) (fun i ρ W2 => W2 = W' ∧ ∃ (qs : List (List Nat)) (x3 : Option Sl), qs ≠ [] ∧ (∀ q ∈ qs, ∃ e, atP q (.tup xs) = some e) ∧ qs.length ≤ 1 + wts (xs.take i) ∧ ρ = [some (.sh (.tup xs)), some (.sh (.tup path)), some (.sh (.lst (qs.map (pathD path)))), x3]) (fun P hP => ?_) ⟨rfl, [[]], none, by simp, triv.ok, by simp, rfl⟩ (fun i d ρ W2 hd2 hI => ?_) (fun ρ W2 hI => ?_)
      · refine ⟨by omega, by omega, ?_⟩
        rw [Int.toNat_natCast]; exact hP
      · obtain ⟨rfl, qs, x3, q1, q2, q3, rfl⟩ := hI
        have hi : i < xs.length := by
          have := (List.getElem?_eq_some_iff.mp hd2).1
          rwa [rng_len] at this
        obtain rfl : d = .int i := by
          have := hd2
          unfold rng at this
          rw [List.getElem?_map, List.getElem?_range hi] at this
          simp at this
          exact this.symm
        have hxi : xs[i]? = some xs[i] := List.getElem?_eq_getElem hi
        have hx := hL.mem (List.getElem_mem hi)
        have hw := wts_take hxi
        have hwle : wts (xs.take (i + 1)) ≤ wts xs := wts_sub (List.take_sublist _ _)
        refine ⟨xs[i], atI_of hxi, sz 1 (by decide), sz _ (by show path.length + 1 ≤ _; omega), rfl, xs[i], path ++ [.int i], rfl, hx.up (Nat.le_refl _) (by omega), by rw [List.length_append, List.length_singleton]; omega, fun rs hr => ?_⟩
        have e2 : rs.map (pathD (path ++ [.int i])) = (rs.map fun q => i :: q).map (pathD path) := by
          rw [List.map_map]
          refine List.map_congr_left fun q _ => ?_
          show D.tup (path ++ [D.int i] ++ q.map _) = D.tup (path ++ (i :: q).map _)
          rw [List.append_assoc]; rfl
        have hrl := hr.le
        refine ⟨sz _ ?_, rfl, qs ++ rs.map (fun q => i :: q), some (.sh (.int i)), by simp [q1], fun q hq => ?_, ?_, ?_⟩
        · rw [List.length_map, List.length_map]
          omega
        · rcases List.mem_append.mp hq with hq | hq
          · exact q2 q hq
          · rw [List.mem_map] at hq
            obtain ⟨q', hq', rfl⟩ := hq
            obtain ⟨e, he⟩ := hr.ok q' hq'
            exact ⟨e, by rw [atP]; show (match xs[i]? with | some e => atP q' e | none => none) = some e; rw [hxi]; exact he⟩
        · rw [List.length_append, List.length_map, hw]; omega
        · show ([_, _, some (Sl.sh (D.lst (qs.map (pathD path) ++ rs.map (pathD (path ++ [.int i]))))), _] : List (Option Sl)) = _
          rw [e2, ← List.map_append]
      · obtain ⟨rfl, qs, x3, q1, q2, q3, rfl⟩ := hI
        rw [rng_len, List.take_length] at q3
        refine hM _ _ ⟨rfl, qs, x3, ⟨q1, q2, ?_⟩, rfl⟩
        rw [G.wt]; omega
  · exact ⟨_, false, rfl, rfl, hM _ _ ⟨rfl, _, none, triv, rfl⟩⟩
theorem rd_law_member : Rd n_law_member 2 sp_law_member d_law_member := by
  rintro ds W Q Qx _ ⟨d, q, e, rfl, hq, he, h⟩
  show d_law_member _ [some (.sh d), some (.sh (pathD [] q)), none] W
  unfold d_law_member
  refine seq_gen (fun ρ W' => W' = W ∧ ∃ x2 : Option Sl, ρ = [some (.sh e), some (.sh (pathD [] q)), x2]) (fun ρ W' hI => ?_) (fun M hM => ?_)
  · obtain ⟨rfl, x2, rfl⟩ := hI
    exact h
  refine dFor_of (q.map fun k => D.int (k : Nat)) (fun i ρ W' => W' = W ∧ ∃ (x : D) (x2 : Option Sl), atP (q.drop i) x = some e ∧ ρ = [some (.sh x), some (.sh (pathD [] q)), x2]) (fun P hP => hP) ⟨rfl, d, none, he, rfl⟩ (fun i k ρ W' hk hI => ?_) (fun ρ W' hI => ?_)
  · obtain ⟨rfl, x, x2, hx, rfl⟩ := hI
    rw [List.getElem?_map] at hk
    obtain ⟨j, hj, rfl⟩ := Option.map_eq_some_iff.mp hk
    have e2 : q.drop i = j :: q.drop (i + 1) := by
      obtain ⟨h1, h2⟩ := List.getElem?_eq_some_iff.mp hj
      rw [← h2, List.getElem_cons_drop]
    rw [e2] at hx
    obtain ⟨xs, y, rfl, hy, hy2⟩ := at_tup hx
    exact ⟨y, atI_of hy, rfl, y, some (.sh (.int j)), hy2, rfl⟩
  · obtain ⟨rfl, x, x2, hx, rfl⟩ := hI
    rw [List.length_map, List.drop_length] at hx
    cases hx
    exact hM _ _ ⟨rfl, x2, rfl⟩
end K23

namespace K23
open PySem PySem.Spec L2 G TL C Q
theorem path_nice {q : List Nat} (hq : ∀ k ∈ q, k ≤ 500000) (hl : q.length ≤ 100) : NV (pathD [] q) := by
  unfold pathD
  rw [List.nil_append]
  have : NiceL 49 2500 (q.map fun k => D.int (k : Nat)) := NiceL.of (B := 22) (fun d hd => by
    rw [List.mem_map] at hd
    obtain ⟨k, hk, rfl⟩ := hd
    have := hq k hk
    have : ((k : Nat) : Int).natAbs.log2 < 19 := C.log2_small (k := 19) (by omega) (by decide)
    exact Nice.int (by omega) (by omega)) (by rw [List.length_map]; omega)
  exact (Nice.tup this).up (Nat.le_refl _) (by decide)
theorem goods_path (q : List Nat) (n : Nat) : goods n (q.map fun k => D.int (k : Nat)) = true := by
  rw [goods_all, List.all_eq_true]
  intro d hd
  rw [List.mem_map] at hd
  obtain ⟨k, _, rfl⟩ := hd
  simp [D.good]
theorem dEq_tnil {ds : List D} (hg : goods 63 ds = true) {P : D → Prop} (q : P (.bl ds.isEmpty)) : dEq (.tup ds) (.tup []) P := by
  unfold dEq
  refine ⟨by rw [D.good]; exact hg, by simp [D.good, goods], ?_⟩
  have : eqD (.tup ds) (.tup []) = ds.isEmpty := by
    cases ds <;> simp [eqD, D.py, pys, PyData.eqv, PyData.eqvAll]
  rw [this]; exact q
theorem dNe_tnil {ds : List D} (hg : goods 63 ds = true) {P : D → Prop} (q : P (.bl (!ds.isEmpty))) : dNe (.tup ds) (.tup []) P := by
  unfold dNe
  refine ⟨by rw [D.good]; exact hg, by simp [D.good, goods], ?_⟩
  have : eqD (.tup ds) (.tup []) = ds.isEmpty := by
    cases ds <;> simp [eqD, D.py, pys, PyData.eqv, PyData.eqvAll]
  rw [this]; exact q
theorem cut_lo (ds : List D) (k : Nat) : cutD ds none (some (k : Int)) = ds.take k := by
  unfold cutD
  rw [HT.sIx_nat, HT.sIx_none, List.drop_zero, Nat.sub_zero]
  by_cases h : k ≤ ds.length
  · rw [Nat.min_eq_left h]
  · rw [Nat.min_eq_right (by omega), List.take_of_length_le (Nat.le_refl _), List.take_of_length_le (by omega)]
theorem cut_hi (ds : List D) (k : Nat) : cutD ds (some (k : Int)) none = ds.drop k := by
  unfold cutD
  rw [HT.sIx_nat, HT.sIx_none]
  by_cases h : k ≤ ds.length
  · rw [Nat.min_eq_left h, List.take_of_length_le (by rw [List.length_drop]; exact Nat.le_refl _)]
  · rw [Nat.min_eq_right (by omega), List.drop_of_length_le (Nat.le_refl _), List.drop_of_length_le (by omega)]; simp
theorem rdn_law_with (n : Nat) (sp0 : SpD) (h0 : ∀ m, n = m + 1 → sp0 = spn_law_with m) : Rd n_law_with 3 (spn_law_with n) (d_law_with sp0) := by
  rintro ds W Q Qx _ ⟨d, q, new, e, rfl, hq, hd, he, h⟩
  show d_law_with sp0 _ [some (.sh d), some (.sh (pathD [] q)), some (.sh new)] W
  unfold d_law_with
  refine ⟨sz 0 (by decide), dEq_tnil (goods_path q 63) ?_⟩
  cases q with
  | nil => exact h
  | cons k q =>
    refine ite_f ?_
    obtain ⟨m, rfl⟩ : ∃ m, n = m + 1 := ⟨n - 1, by rw [List.length_cons] at hq; omega⟩
    have e0 := h0 m rfl
    subst e0
    obtain ⟨xs, x, rfl, hx, hx2⟩ := at_tup he
    have hk : k < xs.length := (List.getElem?_eq_some_iff.mp hx).1
    have hL := hd.untup
    have hlen := hL.len
    have a0 : atI (([] : List D) ++ (k :: q).map fun k => D.int (k : Nat)) 0 = some (.int (k : Nat)) := atI_of (i := 0) rfl
    have ex : xs.getD k .non = x := by rw [List.getD_eq_getElem?_getD, hx]; rfl
    have ep : putP (k :: q) (.tup xs) new = .tup (xs.take k ++ [putP q x new] ++ xs.drop (k + 1)) := by rw [putP, ex]
    refine ⟨_, a0, _, a0, x, atI_of hx, ?_⟩
    refine ⟨rfl, x, q, new, e, ?_, by rw [List.length_cons] at hq; omega, (hL.mem (List.mem_of_getElem? hx)).up (by decide) (by omega), hx2, ?_⟩
    · show [x, D.tup (cutD (([] : List D) ++ (k :: q).map fun k => D.int (k : Nat)) (some 1) none), new] = _
      rw [show (1 : Int) = ((1 : Nat) : Int) from rfl, cut_hi]; rfl
    · have e1 : cutD xs none (some (k : Int)) = xs.take k := cut_lo xs k
      have e2 : cutD xs (some ((k : Int) + 1)) none = xs.drop (k + 1) := cut_hi xs (k + 1)
      refine ⟨sz 1 (by decide), sz _ ?_, _, a0, ?_, ?_⟩
      · show (cutD xs none (some (k : Int))).length + 1 ≤ _
        rw [e1, List.length_take]; omega
      · refine sz _ ?_
        show (cutD xs none (some (k : Int)) ++ [putP q x new]).length + (cutD xs (some ((k : Int) + 1)) none).length ≤ _
        rw [e1, e2, List.length_append, List.length_take, List.length_drop, List.length_singleton]; omega
      · show Q (.tup (cutD xs none (some (k : Int)) ++ [putP q x new] ++ cutD xs (some ((k : Int) + 1)) none)) W
        rw [e1, e2, ← ep]; exact h
theorem odd_ok : ([D.non, .bl true, .bl false, .int 0, .int 1, .int (10 ^ (30 : Int).toNat), .int (0 - 10 ^ (30 : Int).toNat), .int (10 ^ (30 : Int).toNat - 1), .str (Str.ofString ""), .str (Str.ofString "a"), .str (Str.ofString "key"), .str (Str.ofString "A"), .str (Str.ofString "abcdefghi"), .str (Str.ofString "a1"), .str (repS (Str.ofString "x") 201), .str (repS (Str.ofString "x") 200), .str (Str.ofString "a\n"), .tup [], .lst [], .lst [.str (Str.ofString "a")],
    .str (Str.ofString "is"), .str (Str.ofString "less"), .str (Str.ofString "most"), .str (Str.ofString "none"), .str (Str.ofString "and"), .str (Str.ofString "or"), .str (Str.ofString "not"), .str (Str.ofString "int"), .str (Str.ofString "text"), .str (Str.ofString "truth"), .tup [.str (Str.ofString "a")], .tup [.str (Str.ofString "none"), .str (Str.ofString "a")]] : List D).all (fun d => D.good 19 d && (iOk d && decide (wt d ≤ 250000))) = true := by decide +kernel
theorem rd_law_bent : Rd n_law_bent 2 sp_law_bent d_law_bent := by
  rintro ds W Q Qx _ ⟨p, d, n, rfl, hd, hs, h⟩
  show d_law_bent _ [some (.sh (.ref p)), some (.sh d), none, none, none, none, none, none] W
  unfold d_law_bent
  have hd1 : Nice 18 (wt d) d := ⟨hd.good, hd.ok, Nat.le_refl _⟩
  -- the places
  refine seq_gen (fun ρ W' => W' = W ∧ ∃ qs, PlOk d qs ∧ ρ = [some (.sh (.ref p)), some (.sh d), some (.sh (.lst (qs.map (pathD [])))), none, none, none, none, none]) (fun ρ W' hI => ?_) (fun M hM => ⟨sz 0 (by decide), rfl, d, [], rfl, hd.up (by decide) (by decide), by decide, fun qs hq => hM _ _ ⟨rfl, qs, hq, rfl⟩⟩)
  obtain ⟨rfl, qs, hq, rfl⟩ := hI
  have hql : 0 < qs.length := List.length_pos_iff.mpr hq.ne
  have hqle := hq.le
  have hwd := hd.le
  have path_len : ∀ q ∈ qs, q.length ≤ 18 := by
    have key : ∀ (q : List Nat) (k B : Nat) (x e : D), Nice k B x → atP q x = some e → q.length ≤ k := by
      intro q
      induction q with
      | nil => intro k B x e _ _; exact Nat.zero_le _
      | cons j q ih =>
        intro k B x e hx he
        obtain ⟨xs, y, rfl, hy, hy2⟩ := at_tup he
        cases k with
        | zero => have := hx.good; simp [D.good] at this
        | succ k =>
          have := ih k B y e (hx.untup.mem (List.mem_of_getElem? hy) |>.up (Nat.le_refl _) (by omega)) hy2
          rw [List.length_cons]; omega
    exact fun q hqm => by
      obtain ⟨e, he⟩ := hq.ok q hqm
      exact key q 18 _ d e hd he
  have pick : ∀ {r : Int} {P : D → Prop}, 0 ≤ r → r < ((qs.map (pathD [])).length : Int) → (∀ q ∈ qs, P (pathD [] q)) → dIx (.lst (qs.map (pathD []))) (.int r) P := fun {r P} r0 r1 hP => ix_all r0 r1 fun z hz => by
    rw [List.mem_map] at hz
    obtain ⟨q, hqm, rfl⟩ := hz
    exact hP q hqm
  have mx : (1000000000000000000000000000000 : Int) = 10 ^ 30 := by decide
  have ql1 : (0 : Int) < ((qs.map (pathD [])).length : Int) := by rw [List.length_map]; omega
  have ql2 : ((qs.map (pathD [])).length : Int) ≤ 1000000000000000000000000000000 := by rw [List.length_map]; omega
  refine seq_gen (fun ρ W2 => SrcOk W2 p (n + 3) ∧ ∃ q ∈ qs, ρ = [some (.sh (.ref p)), some (.sh d), some (.sh (.lst (qs.map (pathD [])))), some (.sh (pathD [] q)), none, none, none, none]) (fun ρ W2 hI => ?_) (fun M hM => ⟨rfl, p, _, n + 3, rfl, hs, ql1, ql2, fun r W2 r0 r1 hs => pick r0 r1 fun q hqm => hM _ _ ⟨hs, q, hqm, rfl⟩⟩)
  obtain ⟨hs, q, hqm, rfl⟩ := hI
  obtain ⟨old, hold⟩ := hq.ok q hqm
  have nold := at_nice hd hold
  refine seq_gen (fun ρ W3 => SrcOk W3 p (n + 2) ∧ ∃ oth, Nice 18 100000 oth ∧ ρ = [some (.sh (.ref p)), some (.sh d), some (.sh (.lst (qs.map (pathD [])))), some (.sh (pathD [] q)), some (.sh old), some (.sh oth), none, none]) (fun ρ W3 hI => ?_) (fun M hM => ?_)
  case refine_2 =>
    refine ⟨rfl, d, q, old, rfl, by have := path_len q hqm; omega, hold, ?_⟩
    refine ⟨rfl, p, _, n + 2, rfl, hs, ql1, ql2, fun r W3 r0 r1 hs => pick r0 r1 fun q2 hqm2 => ?_⟩
    obtain ⟨oth, hoth⟩ := hq.ok q2 hqm2
    exact ⟨rfl, d, q2, oth, rfl, by have := path_len q2 hqm2; omega, hoth, hM _ _ ⟨hs, oth, at_nice hd hoth, rfl⟩⟩
  obtain ⟨hs, oth, noth, rfl⟩ := hI
  -- what may come there
  have odd : ∀ z ∈ ([D.non, .bl true, .bl false, .int 0, .int 1, .int (10 ^ (30 : Int).toNat), .int (0 - 10 ^ (30 : Int).toNat), .int (10 ^ (30 : Int).toNat - 1), .str (Str.ofString ""), .str (Str.ofString "a"), .str (Str.ofString "key"), .str (Str.ofString "A"), .str (Str.ofString "abcdefghi"), .str (Str.ofString "a1"), .str (repS (Str.ofString "x") 201), .str (repS (Str.ofString "x") 200), .str (Str.ofString "a\n"), .tup [], .lst [], .lst [.str (Str.ofString "a")],
    .str (Str.ofString "is"), .str (Str.ofString "less"), .str (Str.ofString "most"), .str (Str.ofString "none"), .str (Str.ofString "and"), .str (Str.ofString "or"), .str (Str.ofString "not"), .str (Str.ofString "int"), .str (Str.ofString "text"), .str (Str.ofString "truth"), .tup [.str (Str.ofString "a")], .tup [.str (Str.ofString "none"), .str (Str.ofString "a")]] : List D), Nice 19 250000 z := fun z hz => niceB (List.all_eq_true.mp odd_ok z hz)
  refine seq_gen (fun ρ W4 => W4 = W3 ∧ ∃ os : List D, os.length = 20 ∧ (∀ z ∈ os, Nice 19 250000 z) ∧ ρ = [some (.sh (.ref p)), some (.sh d), some (.sh (.lst (qs.map (pathD [])))), some (.sh (pathD [] q)), some (.sh old), some (.sh oth), some (.sh (.lst os)), none]) (fun ρ W4 hI => ?_) (fun M hM => ?_)
  case refine_2 =>
    refine ⟨⟨by decide, by decide, by decide⟩, ⟨by decide, by decide, by decide⟩, ⟨by decide, by decide, by decide⟩, ⟨by decide, by decide, sz _ (by decide +kernel), by decide, by decide, sz _ (by decide +kernel), sz 0 (by decide), sz 0 (by decide), sz 1 (by decide), sz 20 (by decide), hM _ _ ⟨rfl, _, ?_, fun z hz => odd z ?_, rfl⟩⟩⟩
    · rfl
    · simp only [List.mem_cons, List.not_mem_nil, or_false] at hz ⊢
      rcases hz with h | h | h | h | h | h | h | h | h | h | h | h | h | h | h | h | h | h | h | h <;> simp [h]
  obtain ⟨rfl, os, hol, hos, rfl⟩ := hI
  refine seq_gen (fun ρ W5 => W5 = W4 ∧ ∃ os : List D, os.length = 35 ∧ (∀ z ∈ os, Nice 19 250000 z) ∧ ρ = [some (.sh (.ref p)), some (.sh d), some (.sh (.lst (qs.map (pathD [])))), some (.sh (pathD [] q)), some (.sh old), some (.sh oth), some (.sh (.lst os)), none]) (fun ρ W5 hI => ?_) (fun M hM => ?_)
  case refine_2 =>
    refine ⟨sz 1 (by decide), sz 2 (by decide), sz 15 (by decide), sz _ ?_, hM _ _ ⟨rfl, _, ?_, fun z hz => ?_, rfl⟩⟩
    · show os.length + 15 ≤ _; omega
    · rw [List.length_append, hol]; rfl
    · rcases List.mem_append.mp hz with hz | hz
      · exact hos z hz
      · simp only [List.mem_cons, List.not_mem_nil, or_false] at hz
        have no2 : Nice 19 250000 oth := noth.up (by decide) (by decide)
        rcases hz with rfl | rfl | rfl | rfl | rfl | rfl | rfl | rfl | rfl | rfl | rfl | rfl | rfl | rfl | rfl
        all_goals first | exact no2 | exact odd _ (by simp)
  obtain ⟨rfl, os2, hol2, hos2, rfl⟩ := hI
  clear hos hol os
  refine seq_gen (fun ρ W6 => SrcOk W6 p (n + 1) ∧ ∃ (os : List D) (x7 : Option Sl), 0 < os.length ∧ os.length ≤ 1000 ∧ (∀ z ∈ os, Nice 19 250000 z) ∧ ρ = [some (.sh (.ref p)), some (.sh d), some (.sh (.lst (qs.map (pathD [])))), some (.sh (pathD [] q)), some (.sh old), some (.sh oth), some (.sh (.lst os)), x7]) (fun ρ W6 hI => ?_) (fun M hM => ?_)
  case refine_1 =>
    obtain ⟨hs, os, x7, o1, o2, o3, rfl⟩ := hI
    refine ⟨rfl, p, (os.length : Int), n, rfl, hs, by omega, by omega, fun r W7 r0 r1 hs => ix_all r0 r1 fun z hz => ?_⟩
    refine ⟨rfl, d, q, z, old, rfl, by have := path_len q hqm; omega, hd.up (by decide) (by decide), hold, h _ _ ?_ hs⟩
    exact (put_nice hd1 hold (o3 z hz)).up (by decide) (by omega)
  have skip : M [some (.sh (.ref p)), some (.sh d), some (.sh (.lst (qs.map (pathD [])))), some (.sh (pathD [] q)), some (.sh old), some (.sh oth), some (.sh (.lst os2)), none] W5 := hM _ _ ⟨hs.less (by omega), os2, none, by omega, by omega, hos2, rfl⟩
  rcases nv_cases nold with rfl | ⟨_, rfl⟩ | ⟨_, rfl⟩ | ⟨_, rfl⟩ | ⟨xs, rfl⟩ | ⟨_, rfl⟩
  · exact ⟨_, false, rfl, rfl, skip⟩
  · exact ⟨_, false, rfl, rfl, skip⟩
  · exact ⟨_, false, rfl, rfl, skip⟩
  · exact ⟨_, false, rfl, rfl, skip⟩
  · have hL := nold.untup
    have hlen := hL.len
    refine ⟨_, true, rfl, rfl, ?_⟩
    refine ⟨sz 0 (by decide), dNe_tnil (goods_up (by decide) hL.good) ?_⟩
    cases hxe : xs.isEmpty with
    | true => exact skip
    | false =>
      have hx0 : 0 < xs.length := by
        cases xs with
        | nil => cases hxe
        | cons a r => simp
      refine ite_t ?_
      show dSeq (dAsg _ (gdName 7)) _ _ _ _
      refine seq_gen (fun ρ W6 => SrcOk W6 p (n + 1) ∧ ∃ a : Nat, a < xs.length ∧ ρ = [some (.sh (.ref p)), some (.sh d), some (.sh (.lst (qs.map (pathD [])))), some (.sh (pathD [] q)), some (.sh (.tup xs)), some (.sh oth), some (.sh (.lst os2)), some (.sh (.int a))]) (fun ρ W6 hI => ?_) (fun M2 hM2 => ⟨rfl, p, (xs.length : Int), n + 1, rfl, hs, by omega, by omega, fun r W6 r0 r1 hs => hM2 _ _ ⟨hs, r.toNat, by omega, by rw [Int.toNat_of_nonneg r0]; rfl⟩⟩)
      obtain ⟨hs, a, ha, rfl⟩ := hI
      have hxa : xs[a]? = some xs[a] := List.getElem?_eq_getElem ha
      have e1 : cutD xs none (some (a : Int)) = xs.take a := cut_lo xs a
      have e2 : cutD xs (some ((a : Int) + 1)) none = xs.drop (a + 1) := cut_hi xs (a + 1)
      have e3 : cutD xs (some (a : Int)) none = xs.drop a := cut_hi xs a
      have e4 : cutD os2 none (some 24) = os2.take 24 := cut_lo os2 24
      have n17 : Nice 17 100000 xs[a] := hL.mem (List.getElem_mem ha) |>.up (Nat.le_refl _) (by omega)
      have t1 : NiceL 17 100000 (xs.take a) := (hL.sub (List.take_sublist _ _)).up (Nat.le_refl _) (by omega)
      have d1 : NiceL 17 100000 (xs.drop (a + 1)) := (hL.sub (List.drop_sublist _ _)).up (Nat.le_refl _) (by omega)
      have d2 : NiceL 17 100000 (xs.drop a) := (hL.sub (List.drop_sublist _ _)).up (Nat.le_refl _) (by omega)
      have x18 : NiceL 18 100000 xs := hL.up (by decide) (by omega)
      have c1 : Nice 19 250000 (.tup (xs.take a ++ xs.drop (a + 1))) := (Nice.tup (t1.app d1)).up (by decide) (by decide)
      have c2 : Nice 19 250000 (.tup (xs ++ [oth])) := (Nice.tup (x18.app (NiceL.cons noth (NiceL.nil (B := 0))))).up (by decide) (by decide)
      have c3 : Nice 19 250000 (.tup xs.reverse) := (Nice.tup hL.rev).up (by decide) (by omega)
      have c4 : Nice 19 250000 (.tup (xs.take a ++ [xs[a]] ++ xs.drop a)) := by
        have := wts_set hxa
        have w2 : wts xs = wts (xs.take a) + wts (xs.drop a) := by rw [← wts_app, List.take_append_drop]
        have hle := hL.le
        have T : NiceL 17 (wts (xs.take a)) (xs.take a) := ⟨t1.good, t1.ok, Nat.le_refl _⟩
        have D2 : NiceL 17 (wts (xs.drop a)) (xs.drop a) := ⟨d2.good, d2.ok, Nat.le_refl _⟩
        exact (Nice.tup ((T.app (NiceL.cons n17 (NiceL.nil (B := 0)))).app D2)).up (by decide) (by omega)
      have c5 : Nice 19 250000 (.lst xs) := (Nice.lst hL).up (by decide) (by omega)
      have c6 : Nice 19 250000 (.tup (xs ++ [xs[a]])) := (Nice.tup (hL.app (NiceL.cons n17 (NiceL.nil (B := 0))))).up (by decide) (by omega)
      refine ⟨?_, sz 1 (by decide), ?_, ?_⟩
      · show _ ≤ sizeLine
        rw [e1, e2]
        refine sz _ ?_
        rw [List.length_take, List.length_drop]; omega
      · exact sz _ (by show xs.length + 1 ≤ _; omega)
      refine ⟨_, atI_of hxa, sz 1 (by decide), ?_, ?_, _, atI_of hxa, sz 1 (by decide), ?_, sz 6 (by decide), by decide, by decide, sz 18 (by decide), ?_, ?_⟩
      · show _ ≤ sizeLine
        rw [e1]
        exact sz _ (by rw [List.length_take]; show _ + 1 ≤ _; omega)
      · show _ ≤ sizeLine
        rw [e1, e3]
        exact sz _ (by rw [List.length_append, List.length_take, List.length_drop, List.length_singleton]; omega)
      · exact sz _ (by show xs.length + 1 ≤ _; omega)
      · show _ ≤ sizeLine
        rw [e4]
        exact sz _ (by rw [List.length_take]; show _ + 18 ≤ _; omega)
      · obtain ⟨six, hsix⟩ : ∃ six : List D, six = [.tup (cutD xs none (some (a : Int)) ++ cutD xs (some ((a : Int) + 1)) none), .tup (xs ++ [oth]), .tup xs.reverse, .tup (cutD xs none (some (a : Int)) ++ [xs[a]] ++ cutD xs (some (a : Int)) none), .lst xs, .tup (xs ++ [xs[a]])] := ⟨_, rfl⟩
        refine hM _ _ ⟨hs, cutD os2 none (some 24) ++ (List.replicate 3 six).flatten, some (.sh (.int a)), ?_, ?_, fun z hz => ?_, by rw [hsix]; rfl⟩
        · rw [e4, List.length_append, List.length_take]; omega
        · rw [e4, hsix, List.length_append, List.length_take]
          show _ + 18 ≤ _; omega
        · rcases List.mem_append.mp hz with hz | hz
          · rw [e4] at hz
            exact hos2 z (List.mem_of_mem_take hz)
          · rw [List.mem_flatten] at hz
            obtain ⟨l, hl, hz⟩ := hz
            rw [(List.mem_replicate.mp hl).2, hsix, e1, e2, e3] at hz
            simp only [List.mem_cons, List.not_mem_nil, or_false] at hz
            rcases hz with rfl | rfl | rfl | rfl | rfl | rfl
            · exact c1
            · exact c2
            · exact c3
            · exact c4
            · exact c5
            · exact c6
  · exact ⟨_, false, rfl, rfl, skip⟩
end K23

namespace K23
open PySem PySem.Spec L2 G TL C Q
theorem lt30 (i : Int) {P : D → Prop} (q : P (.bl (decide (i.natAbs ≤ 999999999999999999999999999999)))) : (match D.bl (decide (0 - (10 : Int) ^ (30 : Int).toNat < i)) with | .v (.bl true) => P (.bl (decide (i < (10 : Int) ^ (30 : Int).toNat))) | .v (.bl false) => P (.bl false) | _ => False) := by
  have p : (10 : Int) ^ (30 : Int).toNat = 1000000000000000000000000000000 := by decide
  rw [p]
  by_cases h : 0 - 1000000000000000000000000000000 < i
  · rw [decide_eq_true h]
    rw [show decide (i.natAbs ≤ 999999999999999999999999999999) = decide (i < 1000000000000000000000000000000) from decide_eq_decide.mpr (by omega)] at q
    exact q
  · rw [decide_eq_false h]
    rw [decide_eq_false (by omega)] at q
    exact q
theorem no_bad {l : List Nat} (p : Nat → Bool) (hp : Pr l ∨ True) {P : D → Prop} (hl : l.length ≤ 1000000) (hg : ∀ c ∈ l, c < 1114112) (q : P (.bl (l.all p))) : dEq (.lst ((l.filter fun c => !p c).map fun c => D.str (mkS [c]))) (.lst []) P := by
  unfold dEq
  refine ⟨?_, by simp [D.good, goods], ?_⟩
  · rw [D.good, goods_all, List.all_eq_true]
    intro d hd
    rw [List.mem_map] at hd
    obtain ⟨c, hc, rfl⟩ := hd
    rw [D.good]
    unfold PyData.strOk mkS
    have := hg c (List.mem_filter.mp hc).1
    simpa using this
  · rw [eqD_nil]
    have : ((l.filter fun c => !p c).map fun c => D.str (mkS [c])).isEmpty = l.all p := by
      rw [List.isEmpty_map]
      induction l with
      | nil => rfl
      | cons a r ih =>
        rw [List.filter_cons, List.all_cons]
        cases e : p a with
        | false => rfl
        | true =>
          have := ih (by rcases hp with hp | hp; exact .inr trivial; exact .inr trivial) (by rw [List.length_cons] at hl; omega) (fun c hc => hg c (List.mem_cons_of_mem _ hc)) (by
            rw [List.all_cons, e, Bool.true_and] at q; exact q)
          simpa using this
    rw [this]; exact q
theorem str_ok {s : Str} {n B : Nat} (h : Nice n B (.str s)) : ∀ c ∈ tl s, c < 1114112 := fun c hc => by
  have g := h.good
  rw [D.good] at g
  unfold PyData.strOk at g
  rw [Array.all_eq_true_iff_forall_mem] at g
  exact of_decide_eq_true (g c (by simpa [tl] using hc))
theorem rd_law_is_value : Rd n_law_is_value 1 sp_law_is_value d_law_is_value := by
  rintro ds W Q Qx _ ⟨d, rfl, hs, h⟩
  show d_law_is_value _ [some (.sh d), none] W
  unfold d_law_is_value
  rw [so_sp, so_ti]
  have hsa := hs
  rcases any_cases hs with rfl | ⟨_, rfl⟩ | ⟨i, rfl⟩ | ⟨s, rfl, hl⟩ | ⟨_, rfl⟩ | ⟨_, rfl⟩ | rfl
  · exact h
  · exact ⟨_, true, rfl, rfl, h⟩
  · refine ⟨_, false, rfl, rfl, _, true, rfl, rfl, ⟨by decide, by decide, by decide⟩, ?_⟩
    exact lt30 i (P := fun z => (match z with | .v (.bl true) => (CPow 10 30 ∧ Q (.bl (decide (i < (10 : Int) ^ (30 : Int).toNat))) W) | .v (.bl false) => Q (.bl false) W | _ => False) → True) (fun _ => trivial) |> fun _ => by
      have p : (10 : Int) ^ (30 : Int).toNat = 1000000000000000000000000000000 := by decide
      have h : Q (.bl (decide (i.natAbs ≤ 999999999999999999999999999999))) W := h
      show (match D.bl (decide (0 - (10 : Int) ^ (30 : Int).toNat < i)) with | .v (.bl true) => _ | .v (.bl false) => _ | _ => False)
      rw [p]
      by_cases hi : 0 - 1000000000000000000000000000000 < i
      · rw [decide_eq_true hi]
        rw [show decide (i.natAbs ≤ 999999999999999999999999999999) = decide (i < 1000000000000000000000000000000) from decide_eq_decide.mpr (by omega)] at h
        refine ⟨⟨by decide, by decide, by decide⟩, ?_⟩
        show Q (.bl (decide (i < (10 : Int) ^ (30 : Int).toNat))) W
        rw [p]; exact h
      · rw [decide_eq_false hi]
        rw [decide_eq_false (by omega)] at h
        exact h
  · refine ⟨_, false, rfl, rfl, _, false, rfl, rfl, _, true, rfl, rfl, sz _ (by omega), ?_⟩
    have nS : NV (.str s) := by
      rcases hsa with hsa | hsa
      · exact hsa
      · cases hsa
    have h : Q (.bl (textB (tl s) && decide (s.length ≤ 200))) W := h
    show (match D.bl (decide ((s.length : Int) ≤ 200)) with | .v (.bl true) => _ | .v (.bl false) => _ | _ => False)
    rw [show decide ((s.length : Int) ≤ 200) = decide (s.length ≤ 200) from decide_eq_decide.mpr (by omega)]
    cases e : decide (s.length ≤ 200) with
    | false => rw [e, Bool.and_false] at h; exact h
    | true =>
      rw [e, Bool.and_true] at h
      refine dLc_filtF (tl s) (fun c => .str (mkS [c])) (fun c => .str (mkS [c])) (fun c => !(decide (32 ≤ c) && decide (c ≤ 126))) (noOwn1 (by simp)) (sz _ (by rw [← len_tl s]; omega)) (fun P hP => hP) (fun c hc P hP => ?_) (fun c hc _ P hP => hP) ?_
      · exact le_signs c (P := fun z => match z with | .v (.bl b) => P (!b) _ _ | _ => False) hP
      · refine ⟨sz 0 (by decide), no_bad (fun c => decide (32 ≤ c) && decide (c ≤ 126)) (.inr trivial) (by rw [← len_tl s]; omega) (str_ok nS) h⟩
  · exact ⟨_, false, rfl, rfl, _, false, rfl, rfl, _, false, rfl, rfl, h⟩
  · exact ⟨_, false, rfl, rfl, _, false, rfl, rfl, _, false, rfl, rfl, h⟩
  · exact ⟨_, false, rfl, rfl, _, false, rfl, rfl, _, false, rfl, rfl, h⟩
theorem rd_law_is_name : Rd n_law_is_name 1 sp_law_is_name d_law_is_name := by
  rintro ds W Q Qx _ ⟨d, rfl, hs, h⟩
  show d_law_is_name _ [some (.sh d), none] W
  unfold d_law_is_name
  rw [so_letters]
  rcases nv_cases hs with rfl | ⟨_, rfl⟩ | ⟨i, rfl⟩ | ⟨s, rfl⟩ | ⟨_, rfl⟩ | ⟨_, rfl⟩
  · exact ⟨_, false, rfl, rfl, h⟩
  · exact ⟨_, false, rfl, rfl, h⟩
  · exact ⟨_, false, rfl, rfl, h⟩
  · refine ⟨_, true, rfl, rfl, ?_⟩
    have hl : s.length ≤ 1000000 := hs.slen
    have es : s.length = (tl s).length := len_tl' s
    have h : Q (.bl (nameB (tl s))) W := h
    unfold nameB at h
    refine ⟨sz _ (by omega), ?_⟩
    show (match D.bl (decide ((0 : Int) < (s.length : Int))) with | .v (.bl true) => _ | .v (.bl false) => _ | _ => False)
    rw [show decide ((0 : Int) < (s.length : Int)) = decide (1 ≤ (tl s).length) from decide_eq_decide.mpr (by omega)]
    cases e1 : decide (1 ≤ (tl s).length) with
    | false => rw [e1, Bool.false_and, Bool.false_and] at h; exact h
    | true =>
      rw [e1, Bool.true_and] at h
      show (if (!decide ((s.length : Int) < 9)) = true then _ else _)
      rw [show decide ((s.length : Int) < 9) = decide ((tl s).length ≤ 8) from decide_eq_decide.mpr (by omega)]
      cases e2 : decide ((tl s).length ≤ 8) with
      | false => rw [e2, Bool.false_and] at h; exact h
      | true =>
        rw [e2, Bool.true_and] at h
        refine hno ?_
        refine dLc_filtF (tl s) (fun c => .str (mkS [c])) (fun c => .str (mkS [c])) (fun c => !decide (c ∈ letters)) (noOwn1 (by simp)) (sz _ (by omega)) (fun P hP => hP) (fun c hc P hP => ?_) (fun c hc _ P hP => hP) ?_
        · refine .inl ?_
          show P (!inS (mkS [c]) (mkS letters)) _ _
          rw [inS_one]; exact hP
        · exact ⟨sz 0 (by decide), no_bad (fun c => decide (c ∈ letters)) (.inr trivial) (by omega) (str_ok hs) h⟩
  · exact ⟨_, false, rfl, rfl, h⟩
  · exact ⟨_, false, rfl, rfl, h⟩
theorem in_words3t {d : D} (h : NV d) {P : D → Prop} (q : P (.bl (D.isV d (.str wAnd) || D.isV d (.str wOr) || D.isV d (.str wNot)))) : dInB false d (.tup [.str (Str.ofString "and"), .str (Str.ofString "or"), .str (Str.ofString "not")]) P := by
  have := in_strs (neg := false) h (ss := [wAnd, wOr, wNot]) (fun s hs => by
    simp only [List.mem_cons, List.not_mem_nil, or_false] at hs
    rcases hs with rfl | rfl | rfl
    · exact ok_and
    · exact ok_or
    · exact ok_not) (P := P) (by simpa [Bool.or_assoc] using q)
  exact this
theorem in_words4t {d : D} (h : NV d) {P : D → Prop} (q : P (.bl (!(D.isV d (.str wIs) || D.isV d (.str wLess) || D.isV d (.str wMost) || D.isV d (.str wNone))))) : dInB true d (.tup [.str (Str.ofString "is"), .str (Str.ofString "less"), .str (Str.ofString "most"), .str (Str.ofString "none")]) P := by
  have := in_strs (neg := true) h (ss := [wIs, wLess, wMost, wNone]) (fun s hs => by
    simp only [List.mem_cons, List.not_mem_nil, or_false] at hs
    rcases hs with rfl | rfl | rfl | rfl
    · exact ok_is
    · exact ok_less
    · exact ok_most
    · exact ok_none) (P := P) (by simpa [Bool.or_assoc] using q)
  exact this
theorem filt_all {α : Type} (p : α → Bool) : ∀ l : List α, (l.filter fun x => !p x).isEmpty = l.all p
  | [] => rfl
  | x :: l => by
    rw [List.filter_cons, List.all_cons]
    cases p x with
    | false => rfl
    | true => simpa using filt_all p l
theorem isV_no {d : D} (h : isStrD d = false) (s : Str) : D.isV d (.str s) = false := by
  cases d with
  | v x => cases x <;> first | rfl | cases h
  | _ => rfl
theorem isV_eq {d : D} {s t : Str} (h : D.isV d (.str s) = true) (hn : s ≠ t) : D.isV d (.str t) = false := by
  have := isV_str h
  subst this
  exact decide_eq_false fun e => hn (by injection e)
theorem rdn_law_is_condition (n : Nat) (sp0 : SpD) (h0 : ∀ m, n = m + 1 → sp0 = spn_law_is_condition m) : Rd n_law_is_condition 3 (spn_law_is_condition n) (d_law_is_condition sp0) := by
  rintro ds W Q Qx _ ⟨cols, d, rfl, hc, hs, h⟩
  show d_law_is_condition sp0 _ [some (.sh (.tup (cols.map D.str))), some (.sh d), some (.sh (.int n)), none, none, none] W
  unfold d_law_is_condition
  refine seq_gen (fun ρ W' => W' = W ∧ ∃ m a r, n = m + 1 ∧ d = .tup (a :: r) ∧ isStrD a = true ∧ ρ = [some (.sh (.tup (cols.map D.str))), some (.sh d), some (.sh (.int n)), none, none, none]) (fun ρ W' hI => ?_) (fun M hM => ?_)
  case refine_2 =>
    refine dEq_int ?_
    cases n with
    | zero => exact h
    | succ n =>
      rw [decide_eq_false (by omega : ¬ (((n + 1 : Nat) : Int) = 0))]
      refine ite_f ?_
      rcases nv_cases hs with rfl | ⟨_, rfl⟩ | ⟨i, rfl⟩ | ⟨s, rfl⟩ | ⟨xs, rfl⟩ | ⟨_, rfl⟩
      · exact ⟨_, false, rfl, rfl, h⟩
      · exact ⟨_, false, rfl, rfl, h⟩
      · exact ⟨_, false, rfl, rfl, h⟩
      · exact ⟨_, false, rfl, rfl, h⟩
      · refine ⟨_, true, rfl, rfl, ?_⟩
        refine ⟨sz 0 (by decide), dEq_tnil (goods_up (by decide) hs.untup.good) ?_⟩
        cases xs with
        | nil => exact h
        | cons a r =>
          obtain ⟨t, t1, t2⟩ := ty_str (any_nv (nv_item hs (d := a) (by simp)))
          refine ite_f ⟨a, atI_of (i := 0) rfl, t, _, t1, t2, ?_⟩
          cases ea : isStrD a with
          | true => exact hno (hM _ _ ⟨rfl, n, a, r, rfl, rfl, ea, rfl⟩)
          | false =>
            refine ite_t ?_
            have e : isCond cols (n + 1) (.tup (a :: r)) = false := by
              unfold isCond
              split
              · rename_i a' b r' e
                cases e
                rw [isV_no ea, isV_no ea, isV_no ea]
                simp [leafB, isV_no ea]
              · rfl
            rw [e] at h
            exact h
      · exact ⟨_, false, rfl, rfl, h⟩
  obtain ⟨rfl, m, a, r, rfl, rfl, ha, rfl⟩ := hI
  have e0 := h0 m rfl
  subst e0
  have na : NV a := nv_item hs (by simp)
  have em : ((m + 1 : Nat) : Int) - 1 = (m : Nat) := by omega
  refine seq_gen (fun ρ W2 => W2 = W' ∧ ρ = [some (.sh (.tup (cols.map D.str))), some (.sh (.tup (a :: r))), some (.sh (.int ((m + 1 : Nat) : Int))), some (.sh a), some (.sh (.tup r)), none]) (fun ρ W2 hI => ?_) (fun M hM => ⟨a, atI_of (i := 0) rfl, ?_⟩)
  case refine_2 =>
    have e : cutD (a :: r) (some 1) none = r := cut_hi (a :: r) 1
    have := hM [some (.sh (.tup (cols.map D.str))), some (.sh (.tup (a :: r))), some (.sh (.int ((m + 1 : Nat) : Int))), some (.sh a), some (.sh (.tup r)), none] W' ⟨rfl, rfl⟩
    have e2 : D.tup r = .tup (cutD (a :: r) (some 1) none) := by rw [e]
    rw [e2] at this
    exact this
  obtain ⟨rfl, rfl⟩ := hI
  obtain ⟨s, rfl⟩ : ∃ s, a = .str s := by
    cases a with
    | v x => cases x <;> first | exact ⟨_, rfl⟩ | cases ha
    | _ => cases ha
  have nr : ∀ x ∈ r, NV x := fun x hx => nv_item hs (by simp [hx])
  have dn : decide (s = Str.ofString "not") = D.isV (.str s) (.str wNot) := by
    show decide (s = wNot) = decide (V.str s = V.str wNot)
    exact decide_eq_decide.mpr ⟨fun e => by rw [e], fun e => by injection e⟩
  have dnn : decide (s = Str.ofString "none") = D.isV (.str s) (.str wNone) := by
    show decide (s = wNone) = decide (V.str s = V.str wNone)
    exact decide_eq_decide.mpr ⟨fun e => by rw [e], fun e => by injection e⟩
  have lenI : ∀ b : Bool, decide ((r.length : Int) = 2 - (if b then 1 else 0)) = decide (r.length = 2 - (if b then 1 else 0)) := fun b => decide_eq_decide.mpr (by cases b <;> simp <;> omega)
  have n1 : wAnd ≠ wNot := by decide +kernel
  have n2 : wOr ≠ wNot := by decide +kernel
  have n3 : wIs ≠ wNone := by decide +kernel
  have n4 : wLess ≠ wNone := by decide +kernel
  have n5 : wMost ≠ wNone := by decide +kernel
  refine seq_gen (fun ρ W3 => W3 = W2 ∧ (D.isV (.str s) (.str wAnd) || D.isV (.str s) (.str wOr) || D.isV (.str s) (.str wNot)) = false ∧ ρ = [some (.sh (.tup (cols.map D.str))), some (.sh (.tup (.str s :: r))), some (.sh (.int ((m + 1 : Nat) : Int))), some (.sh (.str s)), some (.sh (.tup r)), none]) (fun ρ W3 hI => ?_) (fun M hM => ⟨sz 3 (by decide), in_words3t na ?_⟩)
  case refine_2 =>
    cases e1 : (D.isV (.str s) (.str wAnd) || D.isV (.str s) (.str wOr) || D.isV (.str s) (.str wNot)) with
    | false => exact hM _ _ ⟨rfl, e1, rfl⟩
    | true =>
      refine ite_t ?_
      show dSeq _ _ _ _ _
      -- all parts are conditions
      have parts : ∀ xs : List D, (∀ x ∈ xs, x ∈ r) → xs = r → Q (.bl (r.all (isCond cols m))) W2 → dLc (iTupD (dVar 4)) (gdName 5) (dNotB (dBool (dCall (spn_law_is_condition m) 3 (dCons (dVar 0) (dCons (dVar 5) (dCons (dOp dSub (dVar 2) (dC (.int 1))) dNil)))))) (dVar 5) [5] [some (.sh (.tup (cols.map D.str))), some (.sh (.tup (.str s :: r))), some (.sh (.int ((m + 1 : Nat) : Int))), some (.sh (.str s)), some (.sh (.tup r)), none] W2 (fun ys _ W' => ([] : List D).length ≤ sizeLine ∧ dEq (.lst ys) (.lst []) fun z => Q z W') (fun cls x _ W' => Qx cls x W') := fun xs _ _ q => by
        refine dLc_filtF r id id (fun x => !isCond cols m x) (noOwn1 (by simp)) (sz _ (by have := nv_len hs; rw [List.length_cons] at this; omega)) (fun P hP => by rw [List.map_id] at hP; exact hP) (fun x hx P hP => ?_) (fun x hx _ P hP => hP) ?_
        · refine ⟨rfl, cols, x, ?_, hc, nr x hx, hP⟩
          show [_, _, D.int (((m + 1 : Nat) : Int) - 1)] = _
          rw [em]; rfl
        · refine ⟨sz 0 (by decide), ?_⟩
          rw [List.map_id]
          unfold dEq
          refine ⟨?_, by simp [D.good, goods], ?_⟩
          · rw [D.good, goods_all, List.all_eq_true]
            intro x hx
            exact good_up (by decide) (nr x (List.mem_filter.mp hx).1).good
          · rw [eqD_nil]
            have : (r.filter fun x => !isCond cols m x).isEmpty = r.all (isCond cols m) := filt_all _ _
            rw [this]; exact q
      refine seq_gen (fun ρ W3 => W3 = W2 ∧ r.length = 2 - (if D.isV (.str s) (.str wNot) then 1 else 0) ∧ ρ = [some (.sh (.tup (cols.map D.str))), some (.sh (.tup (.str s :: r))), some (.sh (.int ((m + 1 : Nat) : Int))), some (.sh (.str s)), some (.sh (.tup r)), none]) (fun ρ W3 hI => ?_) (fun M2 hM2 => ?_)
      case refine_2 =>
        refine dEq_str ?_
        rw [dn]
        refine dNe_int ?_
        show (if (!decide ((r.length : Int) = 2 - (if D.isV (.str s) (.str wNot) then 1 else 0))) = true then _ else _)
        rw [lenI]
        refine ite_n (fun q => ?_) (fun q => hM2 _ _ ⟨rfl, q, rfl⟩)
        have e : isCond cols (m + 1) (.tup (.str s :: r)) = false := by
          unfold isCond
          split
          · rename_i a' b r' e
            cases e
            by_cases hw : (D.isV (.str s) (.str wAnd) || D.isV (.str s) (.str wOr)) = true
            · rw [if_pos hw]
              have hn : D.isV (.str s) (.str wNot) = false := by
                rw [Bool.or_eq_true] at hw
                rcases hw with hw | hw
                · exact isV_eq hw n1
                · exact isV_eq hw n2
              rw [hn, if_neg Bool.false_ne_true, List.length_cons] at q
              split
              · exact absurd rfl q
              · rfl
            · rw [if_neg hw]
              have hn : D.isV (.str s) (.str wNot) = true := by
                rw [Bool.or_eq_true] at e1
                rcases e1 with e1 | e1
                · exact absurd e1 hw
                · exact e1
              rw [hn, if_pos rfl] at q
              rw [if_pos hn]
              cases r' with
              | nil => exact absurd rfl q
              | cons c r' => rfl
          · rfl
        rw [e] at h; exact h
      obtain ⟨rfl, hlen, rfl⟩ := hI
      refine parts r (fun _ hx => hx) rfl ?_
      have e : isCond cols (m + 1) (.tup (.str s :: r)) = r.all (isCond cols m) := by
        by_cases hw : (D.isV (.str s) (.str wAnd) || D.isV (.str s) (.str wOr)) = true
        · have hn : D.isV (.str s) (.str wNot) = false := by
            rw [Bool.or_eq_true] at hw
            rcases hw with hw | hw
            · exact isV_eq hw n1
            · exact isV_eq hw n2
          rw [hn, if_neg Bool.false_ne_true] at hlen
          match r, hlen with
          | [b, c], _ =>
            unfold isCond
            dsimp only
            rw [if_pos hw]
            simp
        · have hn : D.isV (.str s) (.str wNot) = true := by
            rw [Bool.or_eq_true] at e1
            rcases e1 with e1 | e1
            · exact absurd e1 hw
            · exact e1
          rw [hn, if_pos rfl] at hlen
          match r, hlen with
          | [b], _ =>
            unfold isCond
            dsimp only
            rw [if_neg hw, if_pos hn]
            simp
      rw [e] at h; exact h
  obtain ⟨rfl, e1, rfl⟩ := hI
  rw [Bool.or_eq_false_iff] at e1
  have lf : ∀ b r', r = b :: r' → isCond cols (m + 1) (.tup (.str s :: r)) = leafB cols (.str s) b r' := fun b r' e => by
    subst e
    unfold isCond
    dsimp only
    rw [e1.1, e1.2, if_neg Bool.false_ne_true, if_neg Bool.false_ne_true]
  refine seq_gen (fun ρ W4 => W4 = W3 ∧ (D.isV (.str s) (.str wIs) || D.isV (.str s) (.str wLess) || D.isV (.str s) (.str wMost) || D.isV (.str s) (.str wNone)) = true ∧ r.length = 2 - (if D.isV (.str s) (.str wNone) then 1 else 0) ∧ ρ = [some (.sh (.tup (cols.map D.str))), some (.sh (.tup (.str s :: r))), some (.sh (.int ((m + 1 : Nat) : Int))), some (.sh (.str s)), some (.sh (.tup r)), none]) (fun ρ W4 hI => ?_) (fun M hM => ⟨sz 4 (by decide), in_words4t na ?_⟩)
  case refine_2 =>
    have none0 : r = [] → isCond cols (m + 1) (.tup (.str s :: r)) = false := fun e => by subst e; rfl
    cases e2 : (D.isV (.str s) (.str wIs) || D.isV (.str s) (.str wLess) || D.isV (.str s) (.str wMost) || D.isV (.str s) (.str wNone)) with
    | false =>
      refine ite_t ?_
      rw [Bool.or_eq_false_iff] at e2
      have e : isCond cols (m + 1) (.tup (.str s :: r)) = false := by
        cases r with
        | nil => rfl
        | cons b r' =>
          rw [lf b r' rfl]
          unfold leafB
          rw [e2.1, e2.2, if_neg Bool.false_ne_true, Bool.false_and, Bool.and_false]
      rw [e] at h; exact h
    | true =>
      refine ite_f (dEq_str ?_)
      rw [dnn]
      refine dNe_int ?_
      show (if (!decide ((r.length : Int) = 2 - (if D.isV (.str s) (.str wNone) then 1 else 0))) = true then _ else _)
      rw [lenI]
      refine ite_n (fun q => ?_) (fun q => hM _ _ ⟨rfl, e2, q, rfl⟩)
      have e : isCond cols (m + 1) (.tup (.str s :: r)) = false := by
        cases r with
        | nil => rfl
        | cons b r' =>
          rw [lf b r' rfl]
          unfold leafB
          cases hn : D.isV (.str s) (.str wNone) with
          | true =>
            rw [hn, if_pos rfl, List.length_cons] at q
            rw [if_pos rfl]
            cases r' with
            | nil => exact absurd rfl q
            | cons c r' => exact Bool.and_false _
          | false =>
            rw [hn, if_neg Bool.false_ne_true, List.length_cons] at q
            rw [if_neg Bool.false_ne_true]
            split
            · exact absurd rfl q
            · rw [Bool.and_false, Bool.and_false]
      rw [e] at h; exact h
  obtain ⟨rfl, e2, hlen, rfl⟩ := hI
  obtain ⟨b, r', rfl⟩ : ∃ b r', r = b :: r' := by
    cases r with
    | nil => exact absurd hlen (by split <;> simp)
    | cons b r' => exact ⟨b, r', rfl⟩
  rw [lf b r' rfl] at h
  have nb : NV b := nr b (by simp)
  have ab : atI (b :: r') 0 = some b := atI_of (i := 0) rfl
  unfold leafB at h
  obtain ⟨t, t1, t2⟩ := ty_str (any_nv nb)
  refine ⟨b, ab, t, _, t1, t2, ?_⟩
  cases eb : isStrD b with
  | false =>
    have : inCols cols b = false := by
      cases b with
      | v x => cases x <;> first | rfl | cases eb
      | _ => rfl
    rw [this, Bool.false_and] at h; exact h
  | true =>
    refine ⟨b, ab, in_strs (neg := false) nb hc ?_⟩
    rw [inCols_any]
    cases ec : inCols cols b with
    | false => rw [ec, Bool.false_and] at h; exact h
    | true =>
      rw [ec, Bool.true_and] at h
      refine dEq_str ?_
      rw [dnn]
      cases hn : D.isV (.str s) (.str wNone) with
      | true =>
        rw [hn, if_pos rfl, List.length_cons] at hlen
        rw [hn, if_pos rfl] at h
        have : r' = [] := List.length_eq_zero_iff.mp (by omega)
        subst this
        exact h
      | false =>
        rw [hn, if_neg Bool.false_ne_true, List.length_cons] at hlen
        rw [hn, if_neg Bool.false_ne_true] at h
        rw [hn, Bool.or_false] at e2
        rw [e2, Bool.true_and] at h
        match r', hlen with
        | [c], _ => exact ⟨c, atI_of (i := 1) rfl, rfl, c, rfl, any_nv (nr c (by simp)), h⟩
theorem rd_law_deep : Rd n_law_deep 3 sp_law_deep d_law_deep := by
  rintro ds W Q Qx _ ⟨p, cs, d, n, rfl, hc, hd, hdn, hs, h⟩
  show d_law_deep _ [some (.sh (.ref p)), some (.sh (.lst (cs.map colD))), some (.sh d), none, none] W
  unfold d_law_deep
  refine seq_gen (fun ρ W' => SrcOk W' p n ∧ ∃ (d' : D) (x3 x4 : Option Sl), Nice 17 80000 d' ∧ d' ≠ .non ∧ ρ = [some (.sh (.ref p)), some (.sh (.lst (cs.map colD))), some (.sh d'), x3, x4]) (fun ρ W' hI => ?_) (fun M hM => ?_)
  · obtain ⟨hs, d', x3, x4, h1, h2, rfl⟩ := hI
    exact h d' W' h1 h2 hs
  refine dFor_mk ⟨sz 6 (by decide), ?_⟩
  refine ⟨rfl, p, 6, n + 1900, rfl, hs.less (by omega), by decide, by decide, fun r W1 r0 r1 hs => ?_⟩
  refine pick_nat (xs := [0, 0, 9, 10, 11, 12]) r0 r1 fun m hm => ?_
  have hm' : m ≤ 12 := by
    simp only [List.mem_cons, List.not_mem_nil, or_false] at hm
    omega
  refine ⟨by omega, by omega, fun i ρ W' => SrcOk W' p (n + (1900 - 110 * i)) ∧ ∃ (d' : D) (x3 x4 : Option Sl), Nice (4 + i) (9000 + 1200 * i) d' ∧ d' ≠ .non ∧ ρ = [some (.sh (.ref p)), some (.sh (.lst (cs.map colD))), some (.sh d'), x3, x4], ⟨hs.less (by omega), d, none, none, hd, hdn, rfl⟩, fun i k ρ W' hk hI => ?_, fun ρ W' hI => ?_⟩
  · obtain ⟨hs, d', x3, x4, h1, h2, rfl⟩ := hI
    have hi : i < m := by
      have := (List.getElem?_eq_some_iff.mp hk).1
      rw [rng_len] at this; omega
    obtain ⟨N0, hN0⟩ : ∃ N0, n + (1900 - 110 * (i + 1)) = N0 := ⟨_, rfl⟩
    have hs : SrcOk W' p (N0 + 110) := hs.less (by omega)
    refine seq_gen (fun ρ W2 => SrcOk W2 p (N0 + 5) ∧ ∃ o, Nice 1 1000 o ∧ ρ = [some (.sh (.ref p)), some (.sh (.lst (cs.map colD))), some (.sh d'), some (.sh k), some (.sh o)]) (fun ρ W2 hI => ?_) (fun M2 hM2 => ⟨rfl, p, cs, 0, N0 + 5, rfl, by omega, hc, hs.less (by omega), fun o W2 ho _ hs => hM2 _ _ ⟨hs, o, ho, rfl⟩⟩)
    obtain ⟨hs, o, ho, rfl⟩ := hI
    refine ⟨sz 2 (by decide), sz 3 (by decide), sz 3 (by decide), sz 3 (by decide), rfl, p, 3, N0, rfl, hs.less (by omega), by decide, by decide, fun r W3 r0 r1 hs => ix_all r0 r1 fun z hz => ?_⟩
    refine ⟨by show SrcOk W3 p (n + (1900 - 110 * (i + 1))); rw [hN0]; exact hs, z, some (.sh k), some (.sh o), ?_, ?_, rfl⟩
    · have a1 : Nice (4 + i) 32 (.str (Str.ofString "not")) := Nice.str ok_not (by decide +kernel)
      have a2 : Nice (4 + i) 32 (.str (Str.ofString "and")) := Nice.str ok_and (by decide +kernel)
      have a3 : Nice (4 + i) 32 (.str (Str.ofString "or")) := Nice.str ok_or (by decide +kernel)
      have o1 : Nice (4 + i) 1000 o := ho.up (by omega) (Nat.le_refl _)
      simp only [List.mem_cons, List.not_mem_nil, or_false] at hz
      rcases hz with rfl | rfl | rfl
      · exact (Nice.tup (NiceL.cons a1 (NiceL.cons h1 (NiceL.nil (B := 0))))).up (by omega) (by omega)
      · exact (Nice.tup (NiceL.cons a2 (NiceL.cons o1 (NiceL.cons h1 (NiceL.nil (B := 0)))))).up (by omega) (by omega)
      · exact (Nice.tup (NiceL.cons a3 (NiceL.cons h1 (NiceL.cons o1 (NiceL.nil (B := 0)))))).up (by omega) (by omega)
    · simp only [List.mem_cons, List.not_mem_nil, or_false] at hz
      rcases hz with rfl | rfl | rfl <;> simp
  · obtain ⟨hs, d', x3, x4, h1, h2, rfl⟩ := hI
    rw [rng_len] at h1 hs
    exact hM _ _ ⟨hs.less (by omega), d', x3, x4, h1.up (by omega) (by omega), h2, rfl⟩
theorem rd_law_any_row : Rd n_law_any_row 2 sp_law_any_row d_law_any_row := by
  rintro ds W Q Qx _ ⟨p, cs, n, rfl, hc, hs, h⟩
  show d_law_any_row _ [some (.sh (.ref p)), some (.sh (.lst (cs.map colD))), none, none, none, none, none] W
  unfold d_law_any_row
  have hl := hc.len
  refine seq_gen (fun ρ W' => W' = W ∧ ρ = [some (.sh (.ref p)), some (.sh (.lst (cs.map colD))), some (.ol []), none, none, none, none]) (fun ρ W' hI => ?_) (fun M hM => ⟨sz 0 (by decide), hM _ _ ⟨rfl, rfl⟩⟩)
  obtain ⟨rfl, rfl⟩ := hI
  refine seq_gen (fun ρ W' => SrcOk W' p n ∧ ∃ (row : List D) (x3 x4 x5 x6 : Option D), row.length = cs.length ∧ (∀ x ∈ row, isVal x = true) ∧ ρ = [some (.sh (.ref p)), some (.sh (.lst (cs.map colD))), some (.ol row), x3.map Sl.sh, x4.map Sl.sh, x5.map Sl.sh, x6.map Sl.sh]) (fun ρ W' hI => ?_) (fun M hM => ?_)
  · obtain ⟨hs, row, x3, x4, x5, x6, h1, h2, rfl⟩ := hI
    exact h row W' h1 h2 hs
  refine dFor_of (cs.map colD) (fun i ρ W' => SrcOk W' p (n + (800 - 90 * i)) ∧ ∃ (row : List D) (x3 x4 x5 x6 : Option D), row.length = i ∧ (∀ x ∈ row, isVal x = true) ∧ ρ = [some (.sh (.ref p)), some (.sh (.lst (cs.map colD))), some (.ol row), x3.map Sl.sh, x4.map Sl.sh, x5.map Sl.sh, x6.map Sl.sh]) (fun P hP => hP) ⟨hs, [], none, none, none, none, rfl, by simp, rfl⟩ (fun i d ρ W' hd hI => ?_) (fun ρ W' hI => ?_)
  · obtain ⟨hs, row, x3, x4, x5, x6, h1, h2, rfl⟩ := hI
    have hi : i < cs.length := by
      have := (List.getElem?_eq_some_iff.mp hd).1
      rwa [List.length_map] at this
    have hdm := List.mem_of_getElem? hd
    rw [List.mem_map] at hdm
    obtain ⟨c, hcm, rfl⟩ := hdm
    obtain ⟨N0, hN0⟩ : ∃ N0, n + (800 - 90 * (i + 1)) = N0 := ⟨_, rfl⟩
    have hs : SrcOk W' p (N0 + 90) := hs.less (by omega)
    rw [hN0]
    refine ⟨rfl, ?_⟩
    simp only [gdCons, gdName, gdNil, List.set]
    refine seq_gen (fun ρ W2 => SrcOk W2 p (N0 + 85) ∧ ∃ kd, kd ≤ 2 ∧ ρ = [some (.sh (.ref p)), some (.sh (.lst (cs.map colD))), some (.ol row), some (.sh (.str (mkS c.nm))), some (.sh (.str (kn c.kd))), some (.sh (.bl c.free)), some (.sh (.str (kn kd)))]) (fun ρ W2 hI => ?_) (fun M2 hM2 => ?_)
    case refine_2 =>
      refine ⟨rfl, p, 5, N0 + 88, rfl, hs.less (by omega), by decide, by decide, fun r W2 _ _ hs => dEq_int (ite_b (fun _ => ?_) fun _ => hM2 _ _ ⟨hs.less (by omega), c.kd, hc.kd c hcm, rfl⟩)⟩
      refine ⟨sz 3 (by decide), rfl, p, 3, N0 + 85, rfl, hs.less (by omega), by decide, by decide, fun q W3 q0 q1 hs => ix_all q0 q1 fun z hz => ?_⟩
      simp only [List.mem_cons, List.not_mem_nil, or_false] at hz
      rcases hz with rfl | rfl | rfl
      · exact hM2 _ _ ⟨hs, 0, by decide, rfl⟩
      · exact hM2 _ _ ⟨hs, 1, by decide, rfl⟩
      · exact hM2 _ _ ⟨hs, 2, by decide, rfl⟩
    obtain ⟨hs, kd, hkd, rfl⟩ := hI
    have lt1 : row.length < sizeLine := Nat.lt_of_lt_of_le (by omega : row.length < 16777216) (sz _ (Nat.le_refl _))
    have fin : ∀ x W', isVal x = true → SrcOk W' p N0 → SrcOk W' p N0 ∧ ∃ (row' : List D) (x3 x4 x5 x6 : Option D), row'.length = i + 1 ∧ (∀ x ∈ row', isVal x = true) ∧ [some (.sh (.ref p)), some (.sh (.lst (cs.map colD))), some (.ol (row ++ [x])), some (.sh (.str (mkS c.nm))), some (.sh (.str (kn c.kd))), some (.sh (.bl c.free)), some (.sh (.str (kn kd)))] = [some (.sh (.ref p)), some (.sh (.lst (cs.map colD))), some (.ol row'), x3.map Sl.sh, x4.map Sl.sh, x5.map Sl.sh, x6.map Sl.sh] := fun x W' hx hs => ⟨hs, row ++ [x], some _, some _, some _, some _, by rw [List.length_append, h1]; rfl, fun y hy => by
      rcases List.mem_append.mp hy with hy | hy
      · exact h2 y hy
      · rw [List.mem_singleton.mp hy]; exact hx, rfl⟩
    refine ⟨⟨_, rfl⟩, rfl, p, 5, N0 + 84, rfl, hs, by decide, by decide, fun r W3 _ _ hs => dEq_int (ite_b (fun _ => ⟨lt1, fin .non W3 rfl (hs.less (by omega))⟩) fun _ => ?_)⟩
    exact ⟨rfl, p, kd, N0, rfl, hkd, hs.less (by omega), fun v W4 hv _ _ hs => ⟨lt1, fin v W4 hv hs⟩⟩
  · obtain ⟨hs, row, x3, x4, x5, x6, h1, h2, rfl⟩ := hI
    rw [List.length_map] at h1 hs
    exact hM _ _ ⟨hs.less (by omega), row, x3, x4, x5, x6, h1, h2, rfl⟩
theorem odd_vals : ([D.int (10 ^ (30 : Int).toNat), .str (repS (Str.ofString "x") 201), .str (Str.ofString "a\n"), .tup [], .lst []] : List D).all (fun d => D.good 50 d && (iOk d && decide (wt d ≤ 1000000))) = true := by decide +kernel
theorem rd_law_odd_row : Rd n_law_odd_row 2 sp_law_odd_row d_law_odd_row := by
  rintro ds W Q Qx _ ⟨p, row, n, rfl, hl, hr, hs, h⟩
  show d_law_odd_row _ [some (.sh (.ref p)), some (.sh (.tup row)), none] W
  unfold d_law_odd_row
  refine seq_gen (fun ρ W' => SrcOk W' p (n + 1) ∧ ∃ b, AnyD b ∧ ρ = [some (.sh (.ref p)), some (.sh (.tup row)), some (.sh b)]) (fun ρ W' hI => ?_) (fun M hM => ?_)
  case refine_2 =>
    refine ⟨⟨by decide, by decide, by decide⟩, by decide, by decide, sz _ (by decide +kernel), sz 0 (by decide), sz 0 (by decide), sz 6 (by decide), rfl, p, 6, n + 1, rfl, hs, by decide, by decide, fun r W' r0 r1 hs => ix_all r0 r1 fun z hz => hM _ _ ⟨hs, z, ?_, rfl⟩⟩
    simp only [List.mem_cons, List.not_mem_nil, or_false] at hz
    have ov : ∀ z ∈ ([D.int (10 ^ (30 : Int).toNat), .str (repS (Str.ofString "x") 201), .str (Str.ofString "a\n"), .tup [], .lst []] : List D), AnyD z := fun z hz => .inl (niceB (List.all_eq_true.mp odd_vals z hz))
    rcases hz with rfl | rfl | rfl | rfl | rfl | rfl
    · exact ov _ (by simp)
    · exact ov _ (by simp)
    · exact ov _ (by simp)
    · exact ov _ (by simp)
    · exact ov _ (by simp)
    · exact .inr rfl
  obtain ⟨hs, b, hb, rfl⟩ := hI
  have one : ∀ x : D, isVal x = true → AnyD x := fun x hx => val_any hx
  have a1 : AnyD (.int 1) := one _ (by decide)
  have rl : NiceL 49 20000 row := NiceL.of (B := 2010) (fun d hd => (val_nice 49 (hr d hd)).up (Nat.le_refl _) (Nat.le_refl _)) (by omega)
  have e1 : cutD row (some 1) none = row.drop 1 := cut_hi row 1
  have esub : ∀ lo hi, (cutD row lo hi).Sublist row := fun lo hi => (List.take_sublist _ _).trans (List.drop_sublist _ _)
  have mem : ∀ (lo hi : Option Int), ∀ x ∈ cutD row lo hi, AnyD x := fun lo hi x hx => one x (hr x ((esub lo hi).subset hx))
  have clen : ∀ lo hi, (cutD row lo hi).length ≤ 8 := fun lo hi => Nat.le_trans (esub lo hi).length_le hl
  have tupR : ∀ xs : List D, xs.length ≤ 20 → (∀ x ∈ xs, AnyD x) → RowD (.tup xs) := fun xs hx ha => .inr ⟨xs, rfl, hx, ha⟩
  refine ⟨sz 1 (by decide), sz _ (by show row.length + 1 ≤ _; omega), sz 1 (by decide), sz _ (by show (cutD row none (some (-1))).length + 1 ≤ _; have := clen none (some (-1)); omega), sz 1 (by decide), sz _ (by show 1 + (cutD row (some 1) none).length ≤ _; have := clen (some 1) none; omega), sz 8 (by decide), rfl, p, 8, n, rfl, hs, by decide, by decide, fun r W2 r0 r1 hs => ix_all r0 r1 fun z hz => h z W2 ?_ hs⟩
  have nvl : ∀ d : D, (D.good 50 d && (iOk d && decide (wt d ≤ 1000000))) = true → RowD d := fun d hd => .inl (.inl (niceB hd))
  simp only [List.mem_cons, List.not_mem_nil, or_false] at hz
  rcases hz with rfl | rfl | rfl | rfl | rfl | rfl | rfl | rfl
  · refine tupR _ (by rw [List.length_append]; show _ + 1 ≤ _; omega) fun x hx => ?_
    rcases List.mem_append.mp hx with hx | hx
    · exact one x (hr x hx)
    · rw [List.mem_singleton.mp hx]; exact a1
  · exact tupR _ (Nat.le_trans (clen _ _) (by decide)) (mem _ _)
  · exact .inl (.inl ((Nice.lst rl).up (by decide) (by decide)))
  · exact nvl _ (by decide +kernel)
  · refine tupR _ (by rw [List.length_append]; have := clen none (some (-1)); show _ + 1 ≤ _; omega) fun x hx => ?_
    rcases List.mem_append.mp hx with hx | hx
    · exact mem _ _ x hx
    · rw [List.mem_singleton.mp hx]; exact hb
  · exact nvl _ (by decide +kernel)
  · exact nvl _ (by decide +kernel)
  · refine tupR _ (by rw [List.length_append]; have := clen (some 1) none; show 1 + _ ≤ _; omega) fun x hx => ?_
    rcases List.mem_append.mp hx with hx | hx
    · rw [List.mem_singleton.mp hx]; exact hb
    · exact mem _ _ x hx
end K23

namespace K23
open PySem PySem.Spec L2 G TL C Q
theorem ic_ne_ir : ¬ (Value.ref a_InvalidCondition = Value.ref a_InvalidRow) := by decide +kernel
theorem outT_mono {c d r : D} {A A' : D → Prop} {X X' : Value → Prop} (ha : ∀ z, A z → A' z) (hx : ∀ v, (v = .ref a_InvalidCondition ∨ v = .ref a_InvalidRow) → X v → X' v) (h : outT c d r A X) : outT c d r A' X' := by
  rcases h with ⟨h1, h2⟩ | ⟨h1, ⟨h2, h3⟩ | ⟨h2, h3⟩⟩
  · exact .inl ⟨h1, hx _ (.inl rfl) h2⟩
  · exact .inr ⟨h1, .inl ⟨h2, hx _ (.inr rfl) h3⟩⟩
  · refine .inr ⟨h1, .inr ⟨h2, ?_⟩⟩
    rcases h3 with ⟨h3, h4⟩ | ⟨cols, e, row, h3, h4, h5, h6, h7⟩
    · exact .inl ⟨h3, ha _ h4⟩
    · exact .inr ⟨cols, e, row, h3, h4, h5, h6, ha _ h7⟩
theorem rd_law_told : Rd n_law_told 4 sp_law_told d_law_told := by
  rintro ds W Q Qx _ ⟨a, c, d, r, rfl, ha, hc, hlc, hd, hr, h⟩
  show d_law_told _ [some (.sh (.str _)), some (.sh c), some (.sh d), some (.sh r), none, none] W
  unfold d_law_told
  rcases h with ⟨rfl, h⟩ | ⟨rfl, h⟩ | ⟨rfl, h⟩
  · refine dEq_str (ite_t ⟨rfl, c, d, rfl, hc, hlc, hd, ?_⟩)
    rcases h with ⟨h1, h2⟩ | ⟨h1, h2⟩
    · refine .inl ⟨h1, Or.inl ⟨by simp, true, by simp, sz 2 (by decide), h2⟩⟩
    · exact .inr ⟨h1, sz 2 (by decide), h2⟩
  · refine dEq_str (ite_f (dEq_str (ite_t ⟨rfl, rfl, c, d, r, rfl, hc, hlc, hd, hr, ?_⟩)))
    refine outT_mono (fun z q => ⟨sz 2 (by decide), q⟩) (fun v hv q => ?_) h
    rcases hv with rfl | rfl
    · rw [if_neg ic_ne_ir] at q
      show (_ ∧ _) ∨ _
      exact Or.inl ⟨by simp, true, by simp, sz 2 (by decide), q⟩
    · rw [if_pos rfl] at q
      show _ ∨ (_ ∧ ((_ ∧ _) ∨ _))
      exact Or.inr ⟨by simp, Or.inl ⟨by simp, true, by simp, sz 2 (by decide), q⟩⟩
  · refine dEq_str (ite_f (dEq_str (ite_f ⟨rfl, rfl, c, d, r, rfl, hc, hlc, hd, hr, ?_⟩)))
    refine outT_mono (fun z q => ⟨sz 2 (by decide), q⟩) (fun v hv q => ?_) h
    rcases hv with rfl | rfl
    · rw [if_neg ic_ne_ir] at q
      show (_ ∧ _) ∨ _
      exact Or.inl ⟨by simp, true, by simp, sz 2 (by decide), q⟩
    · rw [if_pos rfl] at q
      show _ ∨ (_ ∧ ((_ ∧ _) ∨ _))
      exact Or.inr ⟨by simp, Or.inl ⟨by simp, true, by simp, sz 2 (by decide), q⟩⟩
end K23

namespace K23
open PySem PySem.Spec L2 G TL C Q
structure NmOk (ls : List (List Nat)) (cs : List Col) : Prop where
  l1 : 1 ≤ ls.length
  l4 : ls.length ≤ 4
  nm : ∀ l ∈ ls, nameB l = true
  nd : ls.Nodup
  cl : cs.length = ls.length
  cok : ColsOk cs
abbrev cL (ls : List (List Nat)) : List Str := ls.map mkS
theorem namesD_eq (ls : List (List Nat)) : namesD ls = (cL ls).map D.str := by
  unfold namesD cL
  rw [List.map_map]; rfl
theorem colsOf_str (cols : List Str) : colsOf (.tup (cols.map D.str)) = cols := by
  show (cols.map D.str).map strOf = cols
  rw [List.map_map]
  exact (List.map_congr_left fun _ _ => rfl).trans (List.map_id _)
section
variable {ls : List (List Nat)} {cs : List Col}
theorem NmOk.nodup (h : NmOk ls cs) : (cL ls).Nodup := List.Pairwise.map _ (fun a b q e => q (mkS_inj.mp e)) h.nd
theorem NmOk.are (h : NmOk ls cs) : areNamesD (.tup ((cL ls).map D.str)) = true := by
  show (((cL ls).map D.str).all isNameD && decide (((cL ls).map D.str).map strOf).Nodup) = true
  have e : ((cL ls).map D.str).map strOf = cL ls := colsOf_str (cL ls)
  rw [e, decide_eq_true h.nodup, Bool.and_true, List.all_eq_true]
  intro x hx
  rw [List.mem_map] at hx
  obtain ⟨s, hs, rfl⟩ := hx
  rw [List.mem_map] at hs
  obtain ⟨l, hl, rfl⟩ := hs
  exact h.nm l hl
theorem NmOk.ok (h : NmOk ls cs) : ∀ s ∈ cL ls, PyData.strOk s = true := fun s hs => by
  rw [List.mem_map] at hs
  obtain ⟨l, hl, rfl⟩ := hs
  exact pr_ok (name_pr (h.nm l hl))
theorem NmOk.nv (h : NmOk ls cs) : NV (.tup ((cL ls).map D.str)) := by
  refine (Nice.tup (NiceL.of (n := 1) (B := 100) (fun d hd => ?_) (?_ : _ * _ ≤ 408))).up (by decide) (by decide)
  · rw [List.mem_map] at hd
    obtain ⟨s, hs, rfl⟩ := hd
    have o := h.ok s hs
    rw [List.mem_map] at hs
    obtain ⟨l, hl, rfl⟩ := hs
    exact Nice.str o (by have := (name_len (h.nm l hl)).2; rw [len_mkS]; omega)
  · rw [List.length_map, List.length_map]
    have := h.l4
    omega
theorem NmOk.lr (h : NmOk ls cs) : lenRow (.tup ((cL ls).map D.str)) ≤ 3000 := by
  show ((cL ls).map D.str).length ≤ 3000
  rw [List.length_map, List.length_map]
  have := h.l4
  omega
theorem NmOk.cL_len (h : NmOk ls cs) : (cL ls).length = cs.length := by rw [List.length_map, h.cl]
end
/-- what the law computes of a condition and a row -/
def triB (y n : Bool) : D := if y then .bl true else if n then .bl false else .non
def dueD (R y n : Bool) : D := if R then .tup [.str (Str.ofString "told"), triB y n] else .tup [.str (Str.ofString "condition"), .bl true]
def dueM (R y : Bool) : D := if R then .tup [.str (Str.ofString "told"), .bl y] else .tup [.str (Str.ofString "condition"), .bl true]
def dueO (R : Bool) : D := .tup [.str (if R then Str.ofString "row" else Str.ofString "condition"), .bl true]
def YN (cols : List Str) (d : D) (row : List D) (R y n : Bool) : Prop := (R = true ∧ ∃ c, d = cdD cols c ∧ CdOk cols.length 12 c ∧ y = decide (ev row c = some true) ∧ n = decide (ev row c = some false)) ∨ (R = false ∧ y = false ∧ n = false)
theorem row_facts {cols : List Str} {row : List D} (hl : row.length = cols.length) (hr : ∀ x ∈ row, isVal x = true) : (isRow (.tup row) && decide (lenRow (.tup row) = cols.length)) = true := by
  rw [Bool.and_eq_true, decide_eq_true_eq]
  exact ⟨List.all_eq_true.mpr hr, hl⟩
theorem outs {ls : List (List Nat)} {cs : List Col} (hn : NmOk ls cs) {d : D} (hd : d ≠ .non) {row : List D} (hl : row.length = (cL ls).length) (hr : ∀ x ∈ row, isVal x = true) {R y n : Bool} (eR : isCond (cL ls) 12 d = R) (h : YN (cL ls) d row R y n) :
    outT (.tpf ((cL ls).map D.str)) d (.tup row) (fun z => R = true ∧ z = triB y n) (fun cls => R = false ∧ cls = .ref a_InvalidCondition) := by
  have dn : D.isV d .non = false := by
    cases q : D.isV d .non with
    | true => exact absurd (non_isV.mp q) hd
    | false => rfl
  have e1 : wk (.tpf ((cL ls).map D.str)) = .tup ((cL ls).map D.str) := rfl
  unfold outT
  rw [e1, hn.are, colsOf_str, dn, eR, row_facts hl hr, Bool.true_and, Bool.false_or]
  rcases h with ⟨rfl, c, e, hc, rfl, rfl⟩ | ⟨rfl, rfl, rfl⟩
  · refine .inr ⟨rfl, .inr ⟨rfl, .inr ⟨_, c, row, rfl, e, rfl, hc, rfl, ?_⟩⟩⟩
    unfold tri triB
    cases q : ev row c with
    | none => rfl
    | some b => cases b <;> rfl
  · exact .inl ⟨rfl, rfl, rfl⟩
theorem outsN {ls : List (List Nat)} {cs : List Col} (hn : NmOk ls cs) {row : List D} (hl : row.length = (cL ls).length) (hr : ∀ x ∈ row, isVal x = true) {A : D → Prop} {X : Value → Prop} (h : A (.bl true)) : outT (.tpf ((cL ls).map D.str)) .non (.tup row) A X := by
  have e1 : wk (.tpf ((cL ls).map D.str)) = .tup ((cL ls).map D.str) := rfl
  have e2 : D.isV .non .non = true := rfl
  unfold outT
  rw [e1, hn.are, colsOf_str, e2, row_facts hl hr, Bool.true_and, Bool.true_or]
  exact .inr ⟨rfl, .inr ⟨rfl, .inl ⟨rfl, h⟩⟩⟩
/-- an odd row -/
theorem outsO {ls : List (List Nat)} {cs : List Col} (hn : NmOk ls cs) {d r : D} {R : Bool} (eR : (D.isV d .non || isCond (cL ls) 12 d) = R) (hr : (isRow r && decide (lenRow r = (cL ls).length)) = false) : outT (.tpf ((cL ls).map D.str)) d r (fun _ => False) (fun cls => D.tup [.str (if cls = .ref a_InvalidRow then Str.ofString "row" else Str.ofString "condition"), .bl true] = dueO R) := by
  have e1 : wk (.tpf ((cL ls).map D.str)) = .tup ((cL ls).map D.str) := rfl
  unfold outT
  rw [e1, hn.are, colsOf_str, eR, hr, Bool.true_and]
  cases R with
  | true => exact .inr ⟨rfl, .inl ⟨rfl, by show D.tup [.str (if _ = _ then _ else _), _] = _; rw [if_pos rfl]; rfl⟩⟩
  | false => exact .inl ⟨rfl, by show D.tup [.str (if _ = _ then _ else _), _] = _; rw [if_neg ic_ne_ir]; rfl⟩
theorem outsB {c d r : D} (h : areNamesD (wk c) = false) {A : D → Prop} {X : Value → Prop} (q : X (.ref a_InvalidCondition)) : outT c d r A X := by
  unfold outT
  rw [h]
  exact .inl ⟨rfl, q⟩
/-- law_told of truth_of -/
theorem told1 {c d r z : D} (hc : NV (wk c)) (hlc : lenRow (wk c) ≤ 3000) (hd : NV d) (hr : RowD r) {W : Wd} {Q : KDW} {Qx : KXW} (q : Q z W) (h : outT c d r (fun x => D.tup [.str (Str.ofString "told"), x] = z) fun cls => D.tup [.str (if cls = .ref a_InvalidRow then Str.ofString "row" else Str.ofString "condition"), .bl true] = z) : sp_law_told [.str (Str.ofString "truth"), c, d, r] W Q Qx :=
  ⟨1, c, d, r, rfl, by decide, hc, hlc, hd, hr, .inr (.inl ⟨rfl, outT_mono (fun x e => by rw [e]; exact q) (fun v _ e => by rw [e]; exact q) h⟩)⟩
theorem told2 {c d r z : D} (hc : NV (wk c)) (hlc : lenRow (wk c) ≤ 3000) (hd : NV d) (hr : RowD r) {W : Wd} {Q : KDW} {Qx : KXW} (q : Q z W) (h : outT c d r (fun x => D.tup [.str (Str.ofString "told"), .bl (D.isV x (.bl true))] = z) fun cls => D.tup [.str (if cls = .ref a_InvalidRow then Str.ofString "row" else Str.ofString "condition"), .bl true] = z) : sp_law_told [.str (Str.ofString "meets"), c, d, r] W Q Qx :=
  ⟨2, c, d, r, rfl, by decide, hc, hlc, hd, hr, .inr (.inr ⟨rfl, outT_mono (fun x e => by rw [e]; exact q) (fun v _ e => by rw [e]; exact q) h⟩)⟩
/-- one of both, where nothing is told -/
theorem row_cases {o : D} (h : RowD o) : (∃ ds, o = .tup ds ∧ ds.length ≤ 500000 ∧ ∀ x ∈ ds, AnyD x) ∨ (isRow o = false ∧ ∃ t, tyD o = some t ∧ kitB t "tuple" = some false) := by
  rcases h with h | ⟨ds, rfl, hl, ha⟩
  · have h' := h
    rcases any_cases h with rfl | ⟨_, rfl⟩ | ⟨i, rfl⟩ | ⟨s, rfl, hl⟩ | ⟨xs, rfl⟩ | ⟨_, rfl⟩ | rfl
    · exact .inr ⟨rfl, _, rfl, rfl⟩
    · exact .inr ⟨rfl, _, rfl, rfl⟩
    · exact .inr ⟨rfl, _, rfl, rfl⟩
    · exact .inr ⟨rfl, _, rfl, rfl⟩
    · have nx : NV (.tup xs) := by
        rcases h' with h | h
        · exact h
        · cases h
      exact .inl ⟨xs, rfl, nv_len nx, fun x hx => any_nv (nv_item nx hx)⟩
    · exact .inr ⟨rfl, _, rfl, rfl⟩
    · exact .inr ⟨rfl, _, rfl, rfl⟩
  · exact .inl ⟨ds, rfl, by omega, ha⟩
theorem neE_fil {ds : List D} (p : D → Bool) {P : D → Prop} (q : P (.bl (!ds.all p))) : dNeE (.lst (ds.filter fun x => !p x)) (.lst []) P := by
  have e : (ds.filter fun x => !p x).isEmpty = ds.all p := filt_all _ _
  cases f : ds.filter fun x => !p x with
  | nil =>
    rw [f] at e
    rw [← e] at q
    exact .inr (dNe_nil (by simp [goods]) q)
  | cons a r =>
    rw [f] at e
    rw [← e] at q
    exact .inl ⟨_, rfl, rfl, by simp, q⟩
theorem told12 {c d r z : D} (t : Int) (h0 : 0 ≤ t) (hc : NV (wk c)) (hlc : lenRow (wk c) ≤ 3000) (hd : NV d) (hr : RowD r) {W : Wd} {Q : KDW} {Qx : KXW} (q : Q z W) (h : outT c d r (fun _ => False) fun cls => D.tup [.str (if cls = .ref a_InvalidRow then Str.ofString "row" else Str.ofString "condition"), .bl true] = z) : ∃ w, atI [D.str (Str.ofString "truth"), .str (Str.ofString "meets")] (t % 2) = some w ∧ [w, c, d, r].length = 4 ∧ sp_law_told [w, c, d, r] W Q Qx := by
  refine ix_all (by omega) (by show t % 2 < 2; omega) fun w hw => ?_
  simp only [List.mem_cons, List.not_mem_nil, or_false] at hw
  rcases hw with rfl | rfl
  · exact ⟨rfl, told1 hc hlc hd hr q (outT_mono (fun _ f => f.elim) (fun _ _ e => e) h)⟩
  · exact ⟨rfl, told2 hc hlc hd hr q (outT_mono (fun _ f => f.elim) (fun _ _ e => e) h)⟩
theorem told12x {E1 E2 : Prop} (x1 : E1) (x2 : E2) {c d r z : D} (t : Int) (h0 : 0 ≤ t) (hc : NV (wk c)) (hlc : lenRow (wk c) ≤ 3000) (hd : NV d) (hr : RowD r) {W : Wd} {Q : KDW} {Qx : KXW} (q : Q z W) (h : outT c d r (fun _ => False) fun cls => D.tup [.str (if cls = .ref a_InvalidRow then Str.ofString "row" else Str.ofString "condition"), .bl true] = z) : ∃ w, atI [D.str (Str.ofString "truth"), .str (Str.ofString "meets")] (t % 2) = some w ∧ E1 ∧ E2 ∧ [w, c, d, r].length = 4 ∧ sp_law_told [w, c, d, r] W Q Qx := by
  obtain ⟨w, e1, e2, e3⟩ := told12 t h0 hc hlc hd hr (Qx := Qx) q h
  exact ⟨w, e1, x1, x2, e2, e3⟩
theorem plain_due (b : Bool) (s : Str) (hs : s.length ≤ 100 ∧ PyData.strOk s = true) (d : D) (hd : plainN 2 d) : plainN 3 (.tup [.str s, d]) := by
  refine ⟨(by show 2 ≤ 100000; decide), fun x hx => ?_⟩
  simp only [List.mem_cons, List.not_mem_nil, or_false] at hx
  rcases hx with rfl | rfl
  · exact hs
  · exact hd
theorem so_told : (Str.ofString "told").length ≤ 100 ∧ PyData.strOk (Str.ofString "told") = true := by decide +kernel
theorem so_cond : (Str.ofString "condition").length ≤ 100 ∧ PyData.strOk (Str.ofString "condition") = true := by decide +kernel
theorem so_row : (Str.ofString "row").length ≤ 100 ∧ PyData.strOk (Str.ofString "row") = true := by decide +kernel
theorem plain_D (R y n : Bool) : plainN 3 (dueD R y n) := by
  unfold dueD triB
  cases R with
  | true => exact plain_due true _ so_told _ (by cases y <;> cases n <;> trivial)
  | false => exact plain_due true _ so_cond _ trivial
theorem plain_M (R y : Bool) : plainN 3 (dueM R y) := by
  unfold dueM
  cases R with
  | true => exact plain_due true _ so_told _ trivial
  | false => exact plain_due true _ so_cond _ trivial
theorem plain_O (R : Bool) : plainN 3 (dueO R) := by
  unfold dueO
  cases R with
  | true => exact plain_due true _ so_row _ trivial
  | false => exact plain_due true _ so_cond _ trivial
theorem plain_bb (a b : Bool) : plainN 3 (.lst [.bl a, .bl b]) := by
  refine ⟨(by show 2 ≤ 100000; decide), fun x hx => ?_⟩
  simp only [List.mem_cons, List.not_mem_nil, or_false] at hx
  rcases hx with rfl | rfl <;> trivial
theorem cols_of : ∀ ys : List D, (∀ y ∈ ys, ∃ c : Col, y = colD c ∧ nameB c.nm = true ∧ c.kd ≤ 2) → ∃ cs : List Col, ys = cs.map colD ∧ ∀ c ∈ cs, nameB c.nm = true ∧ c.kd ≤ 2
  | [], _ => ⟨[], rfl, fun c h => by cases h⟩
  | y :: ys, h => by
    obtain ⟨c, rfl, h1⟩ := h y (by simp)
    obtain ⟨cs, rfl, h2⟩ := cols_of ys fun z hz => h z (List.mem_cons_of_mem _ hz)
    refine ⟨c :: cs, rfl, fun x hx => ?_⟩
    rcases List.mem_cons.mp hx with rfl | hx
    · exact h1
    · exact h2 x hx
theorem bads : ([D.tup [.str (Str.ofString "a"), .str (Str.ofString "a")], .lst [.str (Str.ofString "a")], .non, .tup [.str (Str.ofString "A")], .int 5, .tup [.str (Str.ofString "")], .tup [.str (Str.ofString "a"), .non]] : List D).all (fun b => (D.good 50 b && (iOk b && decide (wt b ≤ 1000000))) && (decide (lenRow b ≤ 3000) && !areNamesD b)) = true := by decide +kernel
theorem plain_3 : plainN 3 (.lst [D.tup [.str (Str.ofString "condition"), .bl true], D.tup [.str (Str.ofString "condition"), .bl true], D.tup [.str (Str.ofString "condition"), .bl true]]) := by
  have one : plainN 2 (D.tup [.str (Str.ofString "condition"), .bl true]) := by
    refine ⟨(by show 2 ≤ 100000; decide), fun x hx => ?_⟩
    simp only [List.mem_cons, List.not_mem_nil, or_false] at hx
    rcases hx with rfl | rfl
    · exact so_cond
    · trivial
  refine ⟨(by show 3 ≤ 100000; decide), fun x hx => ?_⟩
  simp only [List.mem_cons, List.not_mem_nil, or_false] at hx
  rcases hx with rfl | rfl | rfl <;> exact one
theorem ws : ([D.str (Str.ofString ""), .str (Str.ofString "abcdefghi"), .str (Str.ofString "a b"), .str (Str.ofString "A"), .str (repS (Str.ofString "z") 8), .int 5, .non, .tup [.str (Str.ofString "a")], .str (Str.ofString "a1"), .str (Str.ofString "~")] : List D).all (fun b => (D.good 50 b && (iOk b && decide (wt b ≤ 1000000)))) = true := by decide +kernel
abbrev E0 (p : Addr) (a b c e f g h i j k l m n o q : Option Sl) : G.Env := [some (.sh (.ref p)), a, b, c, e, f, g, h, i, j, k, l, m, n, o, q]
theorem rd_law_right : Rd n_law_right 1 sp_law_right d_law_right := by
  rintro ds W Q Qx _ ⟨p, n0, rfl, hs, h⟩
  show d_law_right _ [some (.sh (.ref p)), none, none, none, none, none, none, none, none, none, none, none, none, none, none, none] W
  unfold d_law_right
  -- names
  refine seq_gen (fun ρ W' => SrcOk W' p (n0 + 19900) ∧ ∃ ls : List (List Nat), 1 ≤ ls.length ∧ ls.length ≤ 4 ∧ (∀ l ∈ ls, nameB l = true) ∧ ls.Nodup ∧ ρ = [some (.sh (.ref p)), some (.sh (.tpf ((cL ls).map D.str))), none, none, none, none, none, none, none, none, none, none, none, none, none, none]) (fun ρ W' hI => ?_) (fun N hN => ?_)
  case refine_2 =>
    refine ⟨rfl, p, 4, n0 + 19999, rfl, hs.less (by omega), by decide, by decide, fun r W1 r0 r1 hs => ⟨sz 0 (by decide), rfl, p, (1 + r).toNat, n0 + 19900, [], ?_, ?_, hs.less ?_, fun ls W2 hl hno' hnb hs => ?_⟩⟩
    · rw [Int.toNat_of_nonneg (by omega)]; rfl
    · show _ + 0 ≤ 11; omega
    · omega
    · have := hN [some (.sh (.ref p)), some (.sh (.tpf (namesD ls))), none, none, none, none, none, none, none, none, none, none, none, none, none, none] W2 ⟨hs, ls, by omega, by omega, hno'.nm, hno'.nd, by rw [namesD_eq]⟩
      exact this
  obtain ⟨hs, ls, l1, l4, hnm, hnd, rfl⟩ := hI
  -- columns
  refine seq_gen (fun ρ W' => SrcOk W' p (n0 + 19000) ∧ ∃ cs, NmOk ls cs ∧ ρ = [some (.sh (.ref p)), some (.sh (.tpf ((cL ls).map D.str))), some (.sh (.lst (cs.map colD))), none, none, none, none, none, none, none, none, none, none, none, none, none]) (fun ρ W' hI => ?_) (fun N hN => ?_)
  case refine_2 =>
    refine dLc_each ((cL ls).map D.str) (fun j W' => SrcOk W' p (n0 + 19000 + (ls.length - j))) (fun d => ∃ c : Col, d = colD c ∧ nameB c.nm = true ∧ c.kd ≤ 2) (noOwn1 (by simp)) (sz _ (by rw [List.length_map, List.length_map]; omega)) W' (fun P hP => hP) (hs.less (by omega)) (fun j d W1 hj hs P hP => ?_) (fun ys W1 hl ha hs => ?_)
    · have hjl : j < ls.length := by
        have := (List.getElem?_eq_some_iff.mp hj).1
        rwa [List.length_map, List.length_map] at this
      have hdm := List.mem_of_getElem? hj
      rw [List.mem_map] at hdm
      obtain ⟨s, hsm, rfl⟩ := hdm
      rw [List.mem_map] at hsm
      obtain ⟨l, hlm, rfl⟩ := hsm
      refine ⟨sz 3 (by decide), rfl, p, 3, n0 + 19000 + (ls.length - (j + 1)), rfl, hs.less (by omega), by decide, by decide, fun r W2 r0 r1 hs => ix_all r0 r1 fun z hz => ⟨sz 3 (by decide), hP _ _ ?_ hs⟩⟩
      simp only [List.mem_cons, List.not_mem_nil, or_false] at hz
      rcases hz with rfl | rfl | rfl
      · exact ⟨⟨l, 0, true⟩, rfl, hnm l hlm, (by show 0 ≤ 2; decide)⟩
      · exact ⟨⟨l, 1, true⟩, rfl, hnm l hlm, (by show 1 ≤ 2; decide)⟩
      · exact ⟨⟨l, 2, true⟩, rfl, hnm l hlm, (by show 2 ≤ 2; decide)⟩
    · obtain ⟨cs, rfl, hc⟩ := cols_of ys ha
      rw [List.length_map, List.length_map, List.length_map] at hl
      exact hN _ _ ⟨hs.less (by omega), cs, ⟨l1, l4, hnm, hnd, hl, ⟨fun e => by rw [e] at hl; simp at hl; omega, by omega, fun c h => (hc c h).1, fun c h => (hc c h).2⟩⟩, rfl⟩
  obtain ⟨hs, cs, hn, rfl⟩ := hI
  -- condition
  refine seq_gen (fun ρ W' => SrcOk W' p (n0 + 15000) ∧ ∃ d, Nice 17 80000 d ∧ ρ = [some (.sh (.ref p)), some (.sh (.tpf ((cL ls).map D.str))), some (.sh (.lst (cs.map colD))), some (.sh d), none, none, none, none, none, none, none, none, none, none, none, none]) (fun ρ W' hI => ?_) (fun N hN => ?_)
  case refine_2 =>
    refine ⟨rfl, p, cs, 3, n0 + 17000, rfl, by decide, hn.cok, hs.less (by omega), fun d W1 hd hd0 hs => ⟨rfl, p, cs, d, n0 + 15000, rfl, hn.cok, hd.up (by decide) (by decide), hd0, hs, fun d' W2 hd' _ hs => hN _ _ ⟨hs, d', hd', rfl⟩⟩⟩
  obtain ⟨hs, d, hd, rfl⟩ := hI
  refine seq_gen (fun ρ W' => SrcOk W' p (n0 + 14000) ∧ ∃ d, NV d ∧ ρ = [some (.sh (.ref p)), some (.sh (.tpf ((cL ls).map D.str))), some (.sh (.lst (cs.map colD))), some (.sh d), none, none, none, none, none, none, none, none, none, none, none, none]) (fun ρ W' hI => ?_) (fun N hN => ?_)
  case refine_2 =>
    refine ⟨rfl, p, 3, n0 + 14998, rfl, hs.less (by omega), by decide, by decide, fun r W1 r0 r1 hs => dEq_int (ite_b (fun _ => ?_) fun _ => hN _ _ ⟨hs.less (by omega), d, hd.up (by decide) (by decide), rfl⟩)⟩
    exact ⟨rfl, p, d, n0 + 14000, rfl, hd.up (by decide) (by decide), hs.less (by omega), fun d' W2 hd' hs => hN _ _ ⟨hs, d', hd', rfl⟩⟩
  obtain ⟨hs, d, hd, rfl⟩ := hI
  refine seq_gen (fun ρ W' => SrcOk W' p (n0 + 14000) ∧ ∃ d, NV d ∧ d ≠ .non ∧ ρ = [some (.sh (.ref p)), some (.sh (.tpf ((cL ls).map D.str))), some (.sh (.lst (cs.map colD))), some (.sh d), none, none, none, none, none, none, none, none, none, none, none, none]) (fun ρ W' hI => ?_) (fun N hN => ?_)
  case refine_2 =>
    refine ite_b (fun q => ⟨sz 0 (by decide), hN _ _ ⟨hs, .tup [], ?_, (fun e => by cases e), rfl⟩⟩) fun q => hN _ _ ⟨hs, d, hd, fun e => ?_, rfl⟩
    · exact (Nice.tup (NiceL.nil (n := 0) (B := 0))).up (by decide) (by decide)
    · rw [e] at q; cases q
  obtain ⟨hs, d, hd, hd0, rfl⟩ := hI
  obtain ⟨rpa, rpb'⟩ := show_of hd.good hd.ok
  have rpb : (shownD d).length ≤ sizeLine := by
    unfold shownD
    have := hd.le
    rw [show sizeLine = 16777216 from rfl]; omega
  -- right, copy
  obtain ⟨R, eR⟩ : ∃ R, isCond (cL ls) 12 d = R := ⟨_, rfl⟩
  refine seq_gen (fun ρ W' => SrcOk W' p (n0 + 14000) ∧ ρ = [some (.sh (.ref p)), some (.sh (.tpf ((cL ls).map D.str))), some (.sh (.lst (cs.map colD))), some (.sh d), some (.sh (.bl R)), some (.sh (.str (shownD d))), none, none, none, none, none, none, none, none, none, none]) (fun ρ W' hI => ?_) (fun N hN => ?_)
  case refine_2 =>
    refine ⟨rfl, cL ls, d, rfl, hn.ok, hd, ?_⟩
    rw [eR]
    exact ⟨good_up (by decide) hd.good, rpa, rpb, hN _ _ ⟨hs, rfl⟩⟩
  obtain ⟨hs, rfl⟩ := hI
  have wkE : wk (.tpf ((cL ls).map D.str)) = .tup ((cL ls).map D.str) := rfl
  have hcv : NV (wk (.tpf ((cL ls).map D.str))) := hn.nv
  have hcl : lenRow (wk (.tpf ((cL ls).map D.str))) ≤ 3000 := hn.lr
  have hca : areNamesD (wk (.tpf ((cL ls).map D.str))) = true := hn.are
  have hcc : colsOf (wk (.tpf ((cL ls).map D.str))) = cL ls := colsOf_str _
  have hnon : NV .non := Nice.non (by decide)
  -- is_condition
  refine seq_gen (fun ρ W' => SrcOk W' p (n0 + 14000) ∧ ρ = [some (.sh (.ref p)), some (.sh (.tpf ((cL ls).map D.str))), some (.sh (.lst (cs.map colD))), some (.sh d), some (.sh (.bl R)), some (.sh (.str (shownD d))), none, none, none, none, none, none, none, none, none, none]) (fun ρ W' hI => ?_) (fun N hN => ?_)
  case refine_2 =>
    refine ⟨rfl, _, d, rfl, hcv, hcl, hd, .inr ⟨hca, rfl, rfl, _, d, rfl, hcv, hcl, hd, .inr ⟨hca, ?_⟩⟩⟩
    rw [hcc, eR]
    exact ⟨sz 2 (by decide), sz 2 (by decide), rfl, _, rfl, plain_bb R R, hno (hN _ _ ⟨hs, rfl⟩)⟩
  obtain ⟨hs, rfl⟩ := hI
  -- rows
  refine seq_gen (fun ρ W' => SrcOk W' p (n0 + 5000) ∧ ∃ (x6 x7 x8 x9 x10 x11 : Option D), ρ = [some (.sh (.ref p)), some (.sh (.tpf ((cL ls).map D.str))), some (.sh (.lst (cs.map colD))), some (.sh d), some (.sh (.bl R)), some (.sh (.str (shownD d))), x6.map Sl.sh, x7.map Sl.sh, x8.map Sl.sh, x9.map Sl.sh, x10.map Sl.sh, x11.map Sl.sh, none, none, none, none]) (fun ρ W' hI => ?_) (fun N hN => ?_)
  case refine_2 =>
    refine dFor_of (rng 0 4) (fun i ρ W' => SrcOk W' p (n0 + 5000 + 1000 * (4 - i)) ∧ ∃ (x6 x7 x8 x9 x10 x11 : Option D), ρ = [some (.sh (.ref p)), some (.sh (.tpf ((cL ls).map D.str))), some (.sh (.lst (cs.map colD))), some (.sh d), some (.sh (.bl R)), some (.sh (.str (shownD d))), x6.map Sl.sh, x7.map Sl.sh, x8.map Sl.sh, x9.map Sl.sh, x10.map Sl.sh, x11.map Sl.sh, none, none, none, none]) (fun P hP => ?_) ⟨hs.less (by omega), none, none, none, none, none, none, rfl⟩ (fun i t ρ W' ht hI => ?_) (fun ρ W' hI => ?_)
    · exact ⟨by decide, by decide, hP⟩
    · obtain ⟨hs, x6, x7, x8, x9, x10, x11, rfl⟩ := hI
      have hi : i < 4 := by
        have := (List.getElem?_eq_some_iff.mp ht).1
        rwa [rng_len] at this
      obtain rfl : t = .int (i : Int) := by
        unfold rng at ht
        rw [List.getElem?_map, List.getElem?_range hi] at ht
        injection ht with ht
        rw [← ht]
        show D.int (0 + (i : Int)) = _
        rw [Int.zero_add]
      obtain ⟨m0, hm0⟩ : ∃ m0, n0 + 5000 + 1000 * (4 - (i + 1)) = m0 := ⟨_, rfl⟩
      have hs : SrcOk W' p (m0 + 1000) := hs.less (by omega)
      rw [hm0]
      refine seq_gen (fun ρ W' => SrcOk W' p (m0 + 200) ∧ ∃ row : List D, row.length = (cL ls).length ∧ (∀ x ∈ row, isVal x = true) ∧ ρ = [some (.sh (.ref p)), some (.sh (.tpf ((cL ls).map D.str))), some (.sh (.lst (cs.map colD))), some (.sh d), some (.sh (.bl R)), some (.sh (.str (shownD d))), some (.sh (.int (i : Int))), some (.sh (.tup row)), x8.map Sl.sh, x9.map Sl.sh, x10.map Sl.sh, x11.map Sl.sh, none, none, none, none]) (fun ρ W' hI => ?_) (fun N2 hN2 => ?_)
      case refine_2 =>
        exact ⟨rfl, p, cs, m0 + 200, rfl, hn.cok, hs, fun row W1 h1 h2 hs => hN2 _ _ ⟨hs, row, by rw [h1, hn.cL_len], h2, rfl⟩⟩
      obtain ⟨hs, row, hl, hr, rfl⟩ := hI
      -- yes, no
      refine seq_gen (fun ρ W' => SrcOk W' p (m0 + 200) ∧ ∃ y n, YN (cL ls) d row R y n ∧ ρ = [some (.sh (.ref p)), some (.sh (.tpf ((cL ls).map D.str))), some (.sh (.lst (cs.map colD))), some (.sh d), some (.sh (.bl R)), some (.sh (.str (shownD d))), some (.sh (.int (i : Int))), some (.sh (.tup row)), some (.sh (.bl y)), some (.sh (.bl n)), x10.map Sl.sh, x11.map Sl.sh, none, none, none, none]) (fun ρ W' hI => ?_) (fun N2 hN2 => ?_)
      case refine_2 =>
        refine ite_b (fun hR => ?_) fun hR => ?_
        · subst hR
          obtain ⟨c, hc, hok⟩ := cond_cd 12 d eR
          refine ⟨rfl, cL ls, c, row, by rw [hc], hn.nodup, hl, hr, hok, rfl, hN2 _ _ ⟨hs, _, _, .inl ⟨rfl, c, hc, hok, rfl, rfl⟩, rfl⟩⟩
        · subst hR
          exact ⟨sz 2 (by decide), rfl, hN2 _ _ ⟨hs, _, _, .inr ⟨rfl, rfl, rfl⟩, rfl⟩⟩
      obtain ⟨hs, y, n, hyn, rfl⟩ := hI
      have oT := outs hn hd0 hl hr eR hyn
      have hyR : R = false → y = false ∧ n = false := fun q => by
        rcases hyn with ⟨q', _⟩ | ⟨_, q'⟩
        · rw [q] at q'; cases q'
        · exact q'
      have rowR : RowD (.tup row) := .inr ⟨row, rfl, by rw [hl, List.length_map]; omega, fun x hx => val_any (hr x hx)⟩
      -- due
      refine seq_gen (fun ρ W' => SrcOk W' p (m0 + 200) ∧ ρ = [some (.sh (.ref p)), some (.sh (.tpf ((cL ls).map D.str))), some (.sh (.lst (cs.map colD))), some (.sh d), some (.sh (.bl R)), some (.sh (.str (shownD d))), some (.sh (.int (i : Int))), some (.sh (.tup row)), some (.sh (.bl y)), some (.sh (.bl n)), some (.sh (dueD R y n)), x11.map Sl.sh, none, none, none, none]) (fun ρ W' hI => ?_) (fun N2 hN2 => ?_)
      case refine_2 =>
        have q := hN2 _ _ ⟨hs, rfl⟩
        clear hN2 oT hyn eR hyR
        cases R with
        | true => cases y <;> cases n <;> exact ⟨sz 2 (by decide), q⟩
        | false => exact ⟨sz 2 (by decide), q⟩
      obtain ⟨hs, rfl⟩ := hI
      -- truth_of
      refine seq_gen (fun ρ W' => SrcOk W' p (m0 + 200) ∧ ρ = [some (.sh (.ref p)), some (.sh (.tpf ((cL ls).map D.str))), some (.sh (.lst (cs.map colD))), some (.sh d), some (.sh (.bl R)), some (.sh (.str (shownD d))), some (.sh (.int (i : Int))), some (.sh (.tup row)), some (.sh (.bl y)), some (.sh (.bl n)), some (.sh (dueD R y n)), x11.map Sl.sh, none, none, none, none]) (fun ρ W' hI => ?_) (fun N2 hN2 => ?_)
      case refine_2 =>
        refine ⟨rfl, told1 (z := dueD R y n) hcv hcl hd rowR ⟨rfl, _, rfl, plain_D R y n, hno (hN2 _ _ ⟨hs, rfl⟩)⟩ (outT_mono (fun z e => ?_) (fun v _ e => ?_) oT)⟩
        · obtain ⟨rfl, rfl⟩ := e; rfl
        · obtain ⟨rfl, rfl⟩ := e; show D.tup [.str (if _ = _ then _ else _), _] = _; rw [if_neg ic_ne_ir]; rfl
      obtain ⟨hs, rfl⟩ := hI
      -- meets
      refine seq_gen (fun ρ W' => SrcOk W' p (m0 + 200) ∧ ρ = [some (.sh (.ref p)), some (.sh (.tpf ((cL ls).map D.str))), some (.sh (.lst (cs.map colD))), some (.sh d), some (.sh (.bl R)), some (.sh (.str (shownD d))), some (.sh (.int (i : Int))), some (.sh (.tup row)), some (.sh (.bl y)), some (.sh (.bl n)), some (.sh (dueD R y n)), x11.map Sl.sh, none, none, none, none]) (fun ρ W' hI => ?_) (fun N2 hN2 => ?_)
      case refine_2 =>
        have q := hN2 _ _ ⟨hs, rfl⟩
        refine ⟨rfl, told2 (z := dueM R y) hcv hcl hd rowR ?_ (outT_mono (fun z e => ?_) (fun v _ e => ?_) oT)⟩
        · clear hN2 oT hyn eR hyR
          cases R with
          | true => exact ⟨sz 2 (by decide), rfl, _, rfl, plain_M true y, hno q⟩
          | false => exact ⟨sz 2 (by decide), rfl, _, rfl, plain_M false y, hno q⟩
        · obtain ⟨rfl, rfl⟩ := e
          unfold triB
          rcases hyn with ⟨_, c, _, _, hy, hn'⟩ | ⟨q', _⟩
          · cases y <;> cases n <;> rfl
          · cases q'
        · obtain ⟨rfl, rfl⟩ := e; show D.tup [.str (if _ = _ then _ else _), _] = _; rw [if_neg ic_ne_ir]; rfl
      obtain ⟨hs, rfl⟩ := hI
      -- odd
      refine seq_gen (fun ρ W' => SrcOk W' p m0 ∧ ∃ o, RowD o ∧ ρ = [some (.sh (.ref p)), some (.sh (.tpf ((cL ls).map D.str))), some (.sh (.lst (cs.map colD))), some (.sh d), some (.sh (.bl R)), some (.sh (.str (shownD d))), some (.sh (.int (i : Int))), some (.sh (.tup row)), some (.sh (.bl y)), some (.sh (.bl n)), some (.sh (dueD R y n)), some (.sh o), none, none, none, none]) (fun ρ W' hI => ?_) (fun N2 hN2 => ?_)
      case refine_2 =>
        exact ⟨rfl, p, row, m0, rfl, by rw [hl, List.length_map]; omega, hr, hs.less (by omega), fun r W1 hr hs => hN2 _ _ ⟨hs, r, hr, rfl⟩⟩
      obtain ⟨hs, o, ho, rfl⟩ := hI
      have eRd : (D.isV d .non || isCond (cL ls) 12 d) = R := by
        have : D.isV d .non = false := by
          cases q : D.isV d .non with
          | true => exact absurd (non_isV.mp q) hd0
          | false => rfl
        rw [this, eR]; rfl
      refine seq_gen (fun ρ W' => SrcOk W' p m0 ∧ ρ = [some (.sh (.ref p)), some (.sh (.tpf ((cL ls).map D.str))), some (.sh (.lst (cs.map colD))), some (.sh d), some (.sh (.bl R)), some (.sh (.str (shownD d))), some (.sh (.int (i : Int))), some (.sh (.tup row)), some (.sh (.bl y)), some (.sh (.bl n)), some (.sh (dueD R y n)), some (.sh o), none, none, none, none]) (fun ρ W' hI => ?_) (fun N2 hN2 => ?_)
      case refine_2 =>
        rcases row_cases ho with ⟨os, rfl, hol, hoa⟩ | ⟨hrf, t, ht1, ht2⟩
        · refine ⟨_, true, rfl, rfl, dNe_int (ite_n (fun q => ?_) fun q => ?_)⟩
          · have hr0 : (isRow (.tup os) && decide (lenRow (.tup os) = (cL ls).length)) = false := by
              rw [Bool.and_eq_false_iff]
              refine .inr (decide_eq_false fun e => q ?_)
              show ((os.length : Nat) : Int) = (((cL ls).map D.str).length : Nat)
              rw [List.length_map]
              exact congrArg _ e
            exact ⟨sz 2 (by decide), (by show (0 : Int) < 2; decide), told12 (z := dueO R) (i : Int) (by omega) hcv hcl hd ho (by cases R <;> exact ⟨sz 2 (by decide), rfl, _, rfl, plain_O _, hno (hN2 _ _ ⟨hs, rfl⟩)⟩) (outT_mono (fun _ f => f) (fun _ _ e => e) (outsO hn eRd hr0))⟩
          · refine dLc_filtF os id id (fun x => !isVal x) (noOwn1 (by simp)) (sz _ (by omega)) (fun P hP => by rw [List.map_id] at hP; exact hP) (fun x hx P hP => ⟨rfl, x, rfl, hoa x hx, hP⟩) (fun x hx _ P hP => hP) ?_
            refine ⟨sz 0 (by decide), ?_⟩
            rw [List.map_id]
            refine neE_fil isVal ?_
            cases ea : os.all isVal with
            | true => exact hN2 _ _ ⟨hs, rfl⟩
            | false =>
              have hr0 : (isRow (.tup os) && decide (lenRow (.tup os) = (cL ls).length)) = false := by
                show (os.all isVal && _) = false
                rw [ea]; rfl
              exact ⟨sz 2 (by decide), (by show (0 : Int) < 2; decide), told12 (z := dueO R) (i : Int) (by omega) hcv hcl hd ho (by cases R <;> exact ⟨sz 2 (by decide), rfl, _, rfl, plain_O _, hno (hN2 _ _ ⟨hs, rfl⟩)⟩) (outT_mono (fun _ f => f) (fun _ _ e => e) (outsO hn eRd hr0))⟩
        · have hr0 : (isRow o && decide (lenRow o = (cL ls).length)) = false := by rw [hrf]; rfl
          refine ⟨t, false, ht1, ht2, ⟨sz 2 (by decide), (by show (0 : Int) < 2; decide), told12 (z := dueO R) (i : Int) (by omega) hcv hcl hd ho (by cases R <;> exact ⟨sz 2 (by decide), rfl, _, rfl, plain_O _, hno (hN2 _ _ ⟨hs, rfl⟩)⟩) (outT_mono (fun _ f => f) (fun _ _ e => e) (outsO hn eRd hr0))⟩⟩
      obtain ⟨hs, rfl⟩ := hI
      -- no condition
      refine seq_gen (fun ρ W' => SrcOk W' p m0 ∧ ρ = [some (.sh (.ref p)), some (.sh (.tpf ((cL ls).map D.str))), some (.sh (.lst (cs.map colD))), some (.sh d), some (.sh (.bl R)), some (.sh (.str (shownD d))), some (.sh (.int (i : Int))), some (.sh (.tup row)), some (.sh (.bl y)), some (.sh (.bl n)), some (.sh (dueD R y n)), some (.sh o), none, none, none, none]) (fun ρ W' hI => ?_) (fun N2 hN2 => ?_)
      case refine_2 =>
        refine ⟨rfl, _, .non, _, rfl, hcv, hcl, hnon, rowR, outsN hn hl hr ⟨rfl, _, .non, _, rfl, hcv, hcl, hnon, rowR, outsN hn hl hr ?_⟩⟩
        exact ⟨sz 2 (by decide), sz 2 (by decide), rfl, _, rfl, plain_bb true true, hno (hN2 _ _ ⟨hs, rfl⟩)⟩
      obtain ⟨hs, rfl⟩ := hI
      have long : RowD (.tup (row ++ [.int 1])) := .inr ⟨_, rfl, by rw [List.length_append, hl, List.length_map]; show _ + 1 ≤ 20; omega, fun x hx => by
        rcases List.mem_append.mp hx with hx | hx
        · exact val_any (hr x hx)
        · rw [List.mem_singleton.mp hx]; exact val_any (by decide)⟩
      have hr0 : (isRow (.tup (row ++ [.int 1])) && decide (lenRow (.tup (row ++ [.int 1])) = (cL ls).length)) = false := by
        rw [Bool.and_eq_false_iff]
        refine .inr (decide_eq_false fun e => ?_)
        have : (row ++ [D.int 1]).length = (cL ls).length := e
        rw [List.length_append, hl] at this
        have : (cL ls).length + 1 = (cL ls).length := this
        omega
      exact ⟨sz 2 (by decide), (by show (0 : Int) < 2; decide), told12x (sz 1 (by decide)) (sz _ (by show row.length + 1 ≤ _; rw [hl, List.length_map]; omega)) (z := dueO true) (i : Int) (by omega) hcv hcl hnon long ⟨sz 2 (by decide), rfl, _, rfl, plain_O true, hno ⟨hs, some _, some _, some _, some _, some _, some _, rfl⟩⟩ (outT_mono (fun _ f => f) (fun _ _ e => e) (outsO hn rfl hr0))⟩
    · obtain ⟨hs, x6, x7, x8, x9, x10, x11, rfl⟩ := hI
      exact hN _ _ ⟨hs.less (by omega), x6, x7, x8, x9, x10, x11, rfl⟩
  obtain ⟨hs, x6, x7, x8, x9, x10, x11, rfl⟩ := hI
  -- bad columns
  refine seq_gen (fun ρ W' => SrcOk W' p (n0 + 4000) ∧ ∃ b, NV b ∧ wk b = b ∧ lenRow b ≤ 3000 ∧ areNamesD b = false ∧ ρ = [some (.sh (.ref p)), some (.sh (.tpf ((cL ls).map D.str))), some (.sh (.lst (cs.map colD))), some (.sh d), some (.sh (.bl R)), some (.sh (.str (shownD d))), x6.map Sl.sh, x7.map Sl.sh, x8.map Sl.sh, x9.map Sl.sh, x10.map Sl.sh, x11.map Sl.sh, some (.sh b), none, none, none]) (fun ρ W' hI => ?_) (fun N hN => ?_)
  case refine_2 =>
    refine ⟨sz 2 (by decide), sz 1 (by decide), sz 1 (by decide), sz 1 (by decide), sz 2 (by decide), sz 7 (by decide), rfl, p, 7, n0 + 4000, rfl, hs.less (by omega), by decide, by decide, fun r W1 r0 r1 hs => ix_all r0 r1 fun z hz => hN _ _ ⟨hs, z, ?_, ?_, ?_, ?_, rfl⟩⟩
    · have := List.all_eq_true.mp bads z hz
      rw [Bool.and_eq_true] at this
      exact niceB this.1
    · simp only [List.mem_cons, List.not_mem_nil, or_false] at hz
      rcases hz with rfl | rfl | rfl | rfl | rfl | rfl | rfl <;> rfl
    · have := List.all_eq_true.mp bads z hz
      have := (Bool.and_eq_true_iff.mp this).2
      exact of_decide_eq_true (Bool.and_eq_true_iff.mp this).1
    · have := List.all_eq_true.mp bads z hz
      have := (Bool.and_eq_true_iff.mp this).2
      have := (Bool.and_eq_true_iff.mp this).2
      rwa [Bool.not_eq_true'] at this
  obtain ⟨hs, b, hb, hbw, hbl, hba, rfl⟩ := hI
  have hbv : NV (wk b) := by rw [hbw]; exact hb
  have hbl2 : lenRow (wk b) ≤ 3000 := by rw [hbw]; exact hbl
  have hba2 : areNamesD (wk b) = false := by rw [hbw]; exact hba
  refine seq_gen (fun ρ W' => SrcOk W' p (n0 + 4000) ∧ ρ = [some (.sh (.ref p)), some (.sh (.tpf ((cL ls).map D.str))), some (.sh (.lst (cs.map colD))), some (.sh d), some (.sh (.bl R)), some (.sh (.str (shownD d))), x6.map Sl.sh, x7.map Sl.sh, x8.map Sl.sh, x9.map Sl.sh, x10.map Sl.sh, x11.map Sl.sh, some (.sh b), some (.sh (.lst [D.tup [.str (Str.ofString "condition"), .bl true], D.tup [.str (Str.ofString "condition"), .bl true], D.tup [.str (Str.ofString "condition"), .bl true]])), none, none]) (fun ρ W' hI => ?_) (fun N hN => ?_)
  case refine_2 =>
    have r0 : RowD (.tup []) := .inr ⟨[], rfl, by decide, fun x h => by cases h⟩
    have r1 : RowD (.tup [.int 1]) := .inr ⟨[.int 1], rfl, by decide, fun x h => by rw [List.mem_singleton.mp h]; exact val_any (by decide)⟩
    refine ⟨sz 0 (by decide), rfl, told1 (z := D.tup [.str (Str.ofString "condition"), .bl true]) hbv hbl2 hnon r0 ⟨sz 1 (by decide), rfl, told2 (z := D.tup [.str (Str.ofString "condition"), .bl true]) hbv hbl2 hd r1 ⟨sz 0 (by decide), rfl, 0, b, d, .tup [], rfl, by decide, hbv, hbl2, hd, r0, .inl ⟨rfl, .inl ⟨hba2, sz 3 (by decide), hN _ _ ⟨hs, rfl⟩⟩⟩⟩ (outsB hba2 ?_)⟩ (outsB hba2 ?_)⟩
    · show D.tup [.str (if _ = _ then _ else _), _] = _
      rw [if_neg ic_ne_ir]
    · show D.tup [.str (if _ = _ then _ else _), _] = _
      rw [if_neg ic_ne_ir]
  obtain ⟨hs, rfl⟩ := hI
  refine seq_gen (fun ρ W' => SrcOk W' p (n0 + 4000) ∧ ρ = [some (.sh (.ref p)), some (.sh (.tpf ((cL ls).map D.str))), some (.sh (.lst (cs.map colD))), some (.sh d), some (.sh (.bl R)), some (.sh (.str (shownD d))), x6.map Sl.sh, x7.map Sl.sh, x8.map Sl.sh, x9.map Sl.sh, x10.map Sl.sh, x11.map Sl.sh, some (.sh b), some (.sh (.lst [D.tup [.str (Str.ofString "condition"), .bl true], D.tup [.str (Str.ofString "condition"), .bl true], D.tup [.str (Str.ofString "condition"), .bl true]])), none, none]) (fun ρ W' hI => ?_) (fun N hN => ?_)
  case refine_2 =>
    exact ⟨sz 2 (by decide), sz 1 (by decide), by decide, by decide, sz 3 (by decide), rfl, _, rfl, plain_3, hno (hN _ _ ⟨hs, rfl⟩)⟩
  obtain ⟨hs, rfl⟩ := hI
  -- a word
  refine seq_gen (fun ρ W' => SrcOk W' p n0 ∧ ∃ w, NV w ∧ ρ = [some (.sh (.ref p)), some (.sh (.tpf ((cL ls).map D.str))), some (.sh (.lst (cs.map colD))), some (.sh d), some (.sh (.bl R)), some (.sh (.str (shownD d))), x6.map Sl.sh, x7.map Sl.sh, x8.map Sl.sh, x9.map Sl.sh, x10.map Sl.sh, x11.map Sl.sh, some (.sh b), some (.sh (.lst [D.tup [.str (Str.ofString "condition"), .bl true], D.tup [.str (Str.ofString "condition"), .bl true], D.tup [.str (Str.ofString "condition"), .bl true]])), some (.sh w), none]) (fun ρ W' hI => ?_) (fun N hN => ?_)
  case refine_2 =>
    refine ⟨rfl, p, n0 + 3000, rfl, hs.less (by omega), fun l W1 hlw hs => ⟨by decide, by decide, sz _ (by decide +kernel), sz 1 (by decide), sz 11 (by decide), rfl, p, 11, n0, rfl, hs.less (by omega), by decide, by decide, fun r W2 r0 r1 hs => ix_all r0 r1 fun z hz => hN _ _ ⟨hs, z, ?_, rfl⟩⟩⟩
    rcases List.mem_cons.mp hz with rfl | hz
    · exact (nice_name 50 hlw).up (by decide) (by decide)
    · exact niceB (List.all_eq_true.mp ws z hz)
  obtain ⟨hs, w, hw, rfl⟩ := hI
  refine ⟨rfl, w, rfl, hw, rfl, rfl, w, rfl, hw, sz 2 (by decide), rfl, w, rfl, hw, sz 1 (by decide), by decide, by decide, sz 2 (by decide), rfl, _, rfl, plain_bb _ _, ?_⟩
  refine ⟨good_up (by decide) hd.good, rpa, rpb, dEq_str ?_⟩
  rw [decide_eq_true rfl]
  exact h _ hs
theorem plain_ttf : plainN 3 (.lst [.bl true, .bl true, .bl false]) := by
  refine ⟨(by show 3 ≤ 100000; decide), fun x hx => ?_⟩
  simp only [List.mem_cons, List.not_mem_nil, or_false] at hx
  rcases hx with rfl | rfl | rfl <;> trivial
theorem rd_law : Rd n_law 1 sp_law d_law := by
  rintro ds W Q Qx _ ⟨ns, rfl, hl, hb, h⟩
  show d_law _ [some (.sh (.scr ns)), none, none] W
  unfold d_law
  refine seq_gen (fun ρ W' => ∃ x1 x2 : Option Sl, ρ = [some (.sh (.scr ns)), x1, x2]) (fun ρ W' hI => ?_) (fun N hN => ?_)
  · obtain ⟨x1, x2, rfl⟩ := hI
    have nv0 : NV (wk (.tup [])) := (Nice.tup (NiceL.nil (n := 0) (B := 0))).up (by decide) (by decide)
    have r0 : RowD (.tup []) := .inr ⟨[], rfl, by decide, fun x h => by cases h⟩
    have hnon : NV .non := Nice.non (by decide)
    have o : ∀ {A : D → Prop} {X : Value → Prop}, A (.bl true) → outT (.tup []) .non (.tup []) A X := fun q => .inr ⟨by decide +kernel, .inr ⟨by decide +kernel, .inl ⟨rfl, q⟩⟩⟩
    have l0 : lenRow (wk (.tup [])) ≤ 3000 := by decide
    refine ⟨sz 0 (by decide), sz 0 (by decide), rfl, _, _, _, rfl, nv0, l0, hnon, r0, o ⟨sz 0 (by decide), sz 0 (by decide), rfl, _, _, _, rfl, nv0, l0, hnon, r0, o ⟨sz 0 (by decide), sz 2 (by decide), rfl, _, _, rfl, nv0, l0, ?_, .inr ⟨by decide +kernel, ?_⟩⟩⟩⟩
    · exact niceB (by decide +kernel)
    · have : isCond (colsOf (wk (.tup []))) 12 (.tup [.str (Str.ofString "none"), .str (Str.ofString "a")]) = false := by decide +kernel
      rw [this]
      exact ⟨sz 3 (by decide), sz 3 (by decide), rfl, _, rfl, plain_ttf, h _⟩
  have big1 : 2 ^ 300 ≤ bigB := by unfold bigB; exact Nat.pow_le_pow_right (by decide) (by decide)
  refine dFor_of ([D.int ns.length] ++ (((ns.drop (HT.sIx ns.length 0 none)).take (HT.sIx ns.length ns.length (some 6) - HT.sIx ns.length 0 none)).map D.int)) (fun i ρ W' => ∃ x1 x2 : Option Sl, ρ = [some (.sh (.scr ns)), x1, x2]) (fun P hP => ?_) ⟨none, none, rfl⟩ (fun i d ρ W' hd hI => ?_) (fun ρ W' hI => hN _ _ hI)
  · refine ⟨sz 1 (by decide), sz _ (by show 1 + _ ≤ _; rw [List.length_map, List.length_take, List.length_drop]; omega), hP⟩
  obtain ⟨x1, x2, rfl⟩ := hI
  obtain ⟨z, hz, rfl⟩ : ∃ z : Int, z.natAbs < bigB ∧ d = .int z := by
    have := List.mem_of_getElem? hd
    rcases List.mem_append.mp this with this | this
    · rw [List.mem_singleton.mp this]
      refine ⟨_, Nat.lt_of_lt_of_le ?_ big1, rfl⟩
      have : (16777216 : Nat) < 2 ^ 300 := by decide
      omega
    · rw [List.mem_map] at this
      obtain ⟨z, hz, rfl⟩ := this
      exact ⟨z, bits_big (hb z (List.mem_of_mem_drop (List.mem_of_mem_take hz))), rfl⟩
  refine seq_gen (fun ρ W' => ∃ p, SrcOk W' p 1000000 ∧ ρ = [some (.sh (.scr ns)), some (.sh (.int z)), some (.sh (.ref p))]) (fun ρ W1 hI => ?_) (fun N hN => ?_)
  case refine_2 => exact ⟨rfl, z, rfl, hz, fun W1 p hs => hN _ _ ⟨p, hs, rfl⟩⟩
  obtain ⟨p, hs, rfl⟩ := hI
  exact ⟨rfl, p, 980000, rfl, hs, fun W1 hs => ⟨rfl, p, 960000, rfl, hs, fun W2 hs => ⟨_, _, rfl⟩⟩⟩
end K23

namespace K23
open PySem PySem.Spec L2 G TL C Q
variable {P : Program} {w : World} {K : PySem.W.Frag} {mg : Str → Option Value} {base : Heap}
theorem ok_is_integer (T : Txt K mg)  : Cal P w K mg base 1 "is_integer" s_is_integer ["value"] sp_is_integer :=
  calD T.f_is_integer sc_is_integer fun f cdv A outer s H E hr => ⟨d_is_integer, (gss_one (gs_ret (ge_and (ge_callB call_isi cs_isi rfl T.b_isinstance (by decide +kernel) (ga_cons (gv 0) (ga_cons (ge_ty T.b_int (by decide +kernel)) ga_nil))) (ge_one (ge_not (ge_callB call_isi cs_isi rfl T.b_isinstance (by decide +kernel) (ga_cons (gv 0) (ga_cons (ge_ty T.b_bool (by decide +kernel)) ga_nil)))))))), rd_is_integer⟩

theorem ok_is_text (T : Txt K mg)  : Cal P w K mg base 1 "is_text" s_is_text ["value"] sp_is_text :=
  calD T.f_is_text sc_is_text fun f cdv A outer s H E hr => ⟨d_is_text, (gss_one (gs_ret (ge_and (ge_callB call_isi cs_isi rfl T.b_isinstance (by decide +kernel) (ga_cons (gv 0) (ga_cons (ge_ty T.b_str (by decide +kernel)) ga_nil))) (ge_one (ge_callB (cr_all rfl) cs_all rfl T.b_all (by decide +kernel) (ga_cons (GN.ge (gn_lc [("sign", 1)] rfl sc_is_text.nd (gi_str (gv 0)) (blkOk_by (own := [("sign", 1)]) (N := n_is_text) (sc := defScope s_is_text) (by decide +kernel)) (by decide) (fun _ _ _ _ _ => (gg_name (i := 1) sc_is_text.nd rfl (Or.inl rfl))) (fun _ _ _ _ _ => gts_nil) (fun _ _ _ _ _ => (ge_chain op_leA op_leA rs_cmp rs_cmp (ge_gc T.c_LEAST_SIGN) (gv 1) (ge_gc T.c_GREATEST_SIGN))))) ga_nil)))))), rd_is_text⟩

theorem ok_is_value (T : Txt K mg) (C_is_integer : Cal P w K mg base 1 "is_integer" s_is_integer ["value"] sp_is_integer) (C_is_text : Cal P w K mg base 1 "is_text" s_is_text ["value"] sp_is_text) : Cal P w K mg base 2 "is_value" s_is_value ["value"] sp_is_value :=
  calD T.f_is_value sc_is_value fun f cdv A outer s H E hr => ⟨d_is_value, (gss_cons (gs_if (GW.gt (gw_or (gt_cmp op_isA rs_isA (gv 0) ge_non (nomark _)) (gw_or1 (gt_val (ge_callB call_isi cs_isi rfl T.b_isinstance (by decide +kernel) (ga_cons (gv 0) (ga_cons (ge_ty T.b_bool (by decide +kernel)) ga_nil))))))) (gss_one (gs_ret ge_bl)) gss_nil)
  (gss_cons (gs_if (gt_val (ge_c (takes_of rfl rfl rfl rfl) C_is_integer hr (by decide) (ga_cons (gv 0) ga_nil))) (gss_one (gs_ret (ge_cmp op_leA rs_cmp (ge_callB call_abs cs_abs rfl T.b_abs (by decide +kernel) (ga_cons (gv 0) ga_nil)) (ge_gc T.c_MOST_INTEGER) (nomark _)))) gss_nil)
  (gss_one (gs_ret (ge_and (ge_c (takes_of rfl rfl rfl rfl) C_is_text hr (by decide) (ga_cons (gv 0) ga_nil)) (ge_one (ge_cmp op_leA rs_cmp (ge_callB call_len cs_len rfl T.b_len (by decide +kernel) (ga_cons (gv 0) ga_nil)) (ge_gc T.c_MOST_SIGNS) (nomark _)))))))), rd_is_value⟩

theorem ok_is_name (T : Txt K mg)  : Cal P w K mg base 1 "is_name" s_is_name ["value"] sp_is_name :=
  calD T.f_is_name sc_is_name fun f cdv A outer s H E hr => ⟨d_is_name, (gss_cons (gs_if (GW.gt (gw_or (gt_not (gt_val (ge_callB call_isi cs_isi rfl T.b_isinstance (by decide +kernel) (ga_cons (gv 0) (ga_cons (ge_ty T.b_str (by decide +kernel)) ga_nil))))) (gw_or1 (gt_not (gt_chain op_leA op_leA rs_cmp rs_cmp ge_int (ge_callB call_len cs_len rfl T.b_len (by decide +kernel) (ga_cons (gv 0) ga_nil)) (ge_gc T.c_MOST_SIGNS_OF_NAME)))))) (gss_one (gs_ret ge_bl)) gss_nil)
  (gss_one (gs_ret (ge_callB (cr_all rfl) cs_all rfl T.b_all (by decide +kernel) (ga_cons (GN.ge (gn_lc [("sign", 1)] rfl sc_is_name.nd (gi_str (gv 0)) (blkOk_by (own := [("sign", 1)]) (N := n_is_name) (sc := defScope s_is_name) (by decide +kernel)) (by decide) (fun _ _ _ _ _ => (gg_name (i := 1) sc_is_name.nd rfl (Or.inl rfl))) (fun _ _ _ _ _ => gts_nil) (fun _ _ _ _ _ => (ge_cmp (op_inB hr.units) rs_inB (gv 1) (ge_gc T.c_LETTERS) rfl)))) ga_nil))))), rd_is_name⟩

theorem ok_are_names (T : Txt K mg) (C_is_name : Cal P w K mg base 1 "is_name" s_is_name ["value"] sp_is_name) : Cal P w K mg base 2 "are_names" s_are_names ["value"] sp_are_names :=
  calD T.f_are_names sc_are_names fun f cdv A outer s H E hr => ⟨d_are_names, (gss_cons (gs_if (GW.gt (gw_or (gt_not (gt_val (ge_callB call_isi cs_isi rfl T.b_isinstance (by decide +kernel) (ga_cons (gv 0) (ga_cons (ge_ty T.b_tuple (by decide +kernel)) ga_nil))))) (gw_or1 (gt_not (gt_val (ge_callB (cr_all rfl) cs_all rfl T.b_all (by decide +kernel) (ga_cons (GN.ge (gn_lc [("name", 1)] rfl sc_are_names.nd (gi_tup (gv 0)) (blkOk_by (own := [("name", 1)]) (N := n_are_names) (sc := defScope s_are_names) (by decide +kernel)) (by decide) (fun _ _ _ _ _ => (gg_name (i := 1) sc_are_names.nd rfl (Or.inl rfl))) (fun _ _ _ _ _ => gts_nil) (fun _ _ _ _ _ => (ge_c takes0 C_is_name hr (by decide) (ga_cons (gv 1) ga_nil))))) ga_nil))))))) (gss_one (gs_ret ge_bl)) gss_nil)
  (gss_one (gs_ret (ge_cmp (op_eqA hr.units) rs_eq (ge_lenSet rfl T.b_len T.b_set (gv 0)) (ge_callB call_len cs_len rfl T.b_len (by decide +kernel) (ga_cons (gv 0) ga_nil)) (nomark _))))), rd_are_names⟩

theorem ok_is_leaf (T : Txt K mg) (C_is_value : Cal P w K mg base 2 "is_value" s_is_value ["value"] sp_is_value) : Cal P w K mg base 3 "is_leaf" s_is_leaf ["columns", "value"] sp_is_leaf :=
  calD T.f_is_leaf sc_is_leaf fun f cdv A outer s H E hr => ⟨d_is_leaf, (gss_cons (gs_if (gt_cmp (op_niB hr.units) rs_inB (ge_ix ix_seq rs_ix (gv 1) ge_int (fun _ _ => rfl)) (gv 0) rfl) (gss_one (gs_ret ge_bl)) gss_nil)
  (gss_cons (gs_if (gt_cmp (op_eqA hr.units) rs_eq (ge_ix ix_seq rs_ix (gv 1) ge_int (fun _ _ => rfl)) ge_str (nomark _)) (gss_one (gs_ret (ge_cmp (op_eqA hr.units) rs_eq (ge_callB call_len cs_len rfl T.b_len (by decide +kernel) (ga_cons (gv 1) ga_nil)) ge_int (nomark _)))) gss_nil)
  (gss_one (gs_ret (ge_and (ge_cmp (op_inB hr.units) rs_inB (ge_ix ix_seq rs_ix (gv 1) ge_int (fun _ _ => rfl)) (ge_tc T.t_COMPARED) rfl) (ge_and (ge_cmp (op_eqA hr.units) rs_eq (ge_callB call_len cs_len rfl T.b_len (by decide +kernel) (ga_cons (gv 1) ga_nil)) ge_int (nomark _)) (ge_one (ge_c (takes_of rfl rfl rfl rfl) C_is_value hr (by decide) (ga_cons (ge_ix ix_seq rs_ix (gv 1) ge_int (fun _ _ => rfl)) ga_nil))))))))), rd_is_leaf⟩

theorem step_is_condition_to (T : Txt K mg) (C_is_leaf : Cal P w K mg base 3 "is_leaf" s_is_leaf ["columns", "value"] sp_is_leaf) {k : Nat} {sp0 sp1 : SpD} (C_is_condition_to : Cal P w K mg base k "is_condition_to" s_is_condition_to ["columns", "value", "left"] sp0) (hk : 3 ≤ k) (rd : ∀ ds W Qd Qx, ds.length = 3 → sp1 ds W Qd Qx → d_is_condition_to sp0 { nx := fun _ W' => Qd .non W', rt := Qd, ex := fun cls x _ W' => Qx cls x W' } (ds.map (fun d => some (Sl.sh d)) ++ List.replicate (n_is_condition_to.length - ds.length) none) W) : Cal P w K mg base (k + 1) "is_condition_to" s_is_condition_to ["columns", "value", "left"] sp1 :=
  calD T.f_is_condition_to sc_is_condition_to fun f cdv A outer s H E hr => ⟨d_is_condition_to sp0, (gss_cons (gs_if (GW.gt (gw_or (gt_cmp (op_eqA hr.units) rs_eq (gv 2) ge_int (nomark _)) (gw_or (gt_not (gt_val (ge_callB call_isi cs_isi rfl T.b_isinstance (by decide +kernel) (ga_cons (gv 1) (ga_cons (ge_ty T.b_tuple (by decide +kernel)) ga_nil))))) (gw_or1 (gt_cmp op_ltA rs_cmp (ge_callB call_len cs_len rfl T.b_len (by decide +kernel) (ga_cons (gv 1) ga_nil)) ge_int (nomark _)))))) (gss_one (gs_ret ge_bl)) gss_nil)
  (gss_cons (gs_if (gt_cmp (op_inB hr.units) rs_inB (ge_ix ix_seq rs_ix (gv 1) ge_int (fun _ _ => rfl)) (ge_tc T.t_PAIRED) rfl) (gss_one (gs_ret (ge_and (ge_cmp (op_eqA hr.units) rs_eq (ge_callB call_len cs_len rfl T.b_len (by decide +kernel) (ga_cons (gv 1) ga_nil)) ge_int (nomark _)) (ge_one (ge_callB (cr_all rfl) cs_all rfl T.b_all (by decide +kernel) (ga_cons (GN.ge (gn_lc [("part", 3)] rfl sc_is_condition_to.nd (gi_tup (ge_sl sl_any ss_cut (gv 1) (go_some ge_int) go_none)) (blkOk_by (own := [("part", 3)]) (N := n_is_condition_to) (sc := defScope s_is_condition_to) (by decide +kernel)) (by decide) (fun _ _ _ _ _ => (gg_name (i := 3) sc_is_condition_to.nd rfl (Or.inl rfl))) (fun _ _ _ _ _ => gts_nil) (fun _ _ _ _ _ => (ge_c takes0 C_is_condition_to hr (Nat.le_refl _) (ga_cons (gv 0) (ga_cons (gv 3) (ga_cons (ge_op op_sub rs_J (gv 2) ge_int) ga_nil))))))) ga_nil)))))) gss_nil)
  (gss_cons (gs_if (gt_cmp (op_eqA hr.units) rs_eq (ge_ix ix_seq rs_ix (gv 1) ge_int (fun _ _ => rfl)) ge_str (nomark _)) (gss_one (gs_ret (ge_and (ge_cmp (op_eqA hr.units) rs_eq (ge_callB call_len cs_len rfl T.b_len (by decide +kernel) (ga_cons (gv 1) ga_nil)) ge_int (nomark _)) (ge_one (ge_c (takes_of rfl rfl rfl rfl) C_is_condition_to hr (Nat.le_refl _) (ga_cons (gv 0) (ga_cons (ge_ix ix_seq rs_ix (gv 1) ge_int (fun _ _ => rfl)) (ga_cons (ge_op op_sub rs_J (gv 2) ge_int) ga_nil)))))))) gss_nil)
  (gss_one (gs_ret (ge_c (takes_of rfl rfl rfl rfl) C_is_leaf hr (by omega) (ga_cons (gv 0) (ga_cons (gv 1) ga_nil)))))))), rd⟩
theorem ok_is_condition_to (T : Txt K mg) (C_is_leaf : Cal P w K mg base 3 "is_leaf" s_is_leaf ["columns", "value"] sp_is_leaf) : Cal P w K mg base 16 "is_condition_to" s_is_condition_to ["columns", "value", "left"] sp_is_condition_to := by
  have c0 := step_is_condition_to (P := P) (w := w) (base := base) T C_is_leaf (cal_no (k := 3) T.f_is_condition_to) (by decide) (rdn_is_condition_to 0 spNo fun m h => by cases h)
  have c1 := step_is_condition_to T C_is_leaf c0 (by decide) (rdn_is_condition_to 1 (spn_is_condition_to 0) fun m h => by cases h; rfl)
  have c2 := step_is_condition_to T C_is_leaf c1 (by decide) (rdn_is_condition_to 2 (spn_is_condition_to 1) fun m h => by cases h; rfl)
  have c3 := step_is_condition_to T C_is_leaf c2 (by decide) (rdn_is_condition_to 3 (spn_is_condition_to 2) fun m h => by cases h; rfl)
  have c4 := step_is_condition_to T C_is_leaf c3 (by decide) (rdn_is_condition_to 4 (spn_is_condition_to 3) fun m h => by cases h; rfl)
  have c5 := step_is_condition_to T C_is_leaf c4 (by decide) (rdn_is_condition_to 5 (spn_is_condition_to 4) fun m h => by cases h; rfl)
  have c6 := step_is_condition_to T C_is_leaf c5 (by decide) (rdn_is_condition_to 6 (spn_is_condition_to 5) fun m h => by cases h; rfl)
  have c7 := step_is_condition_to T C_is_leaf c6 (by decide) (rdn_is_condition_to 7 (spn_is_condition_to 6) fun m h => by cases h; rfl)
  have c8 := step_is_condition_to T C_is_leaf c7 (by decide) (rdn_is_condition_to 8 (spn_is_condition_to 7) fun m h => by cases h; rfl)
  have c9 := step_is_condition_to T C_is_leaf c8 (by decide) (rdn_is_condition_to 9 (spn_is_condition_to 8) fun m h => by cases h; rfl)
  have c10 := step_is_condition_to T C_is_leaf c9 (by decide) (rdn_is_condition_to 10 (spn_is_condition_to 9) fun m h => by cases h; rfl)
  have c11 := step_is_condition_to T C_is_leaf c10 (by decide) (rdn_is_condition_to 11 (spn_is_condition_to 10) fun m h => by cases h; rfl)
  have c12 := step_is_condition_to T C_is_leaf c11 (by decide) (rdn_is_condition_to 12 (spn_is_condition_to 11) fun m h => by cases h; rfl)
  exact c12

theorem ok_is_condition (T : Txt K mg) (C_are_names : Cal P w K mg base 2 "are_names" s_are_names ["value"] sp_are_names) (C_is_condition_to : Cal P w K mg base 16 "is_condition_to" s_is_condition_to ["columns", "value", "left"] sp_is_condition_to) : Cal P w K mg base 17 "is_condition" s_is_condition ["columns", "value"] sp_is_condition :=
  calD T.f_is_condition sc_is_condition fun f cdv A outer s H E hr => ⟨d_is_condition, (gss_cons (gs_if (gt_not (gt_val (ge_c (takes_of rfl rfl rfl rfl) C_are_names hr (by decide) (ga_cons (ge_wk (gv 0)) ga_nil)))) (gss_one (gs_raise rfl (takes_of rfl rfl rfl rfl) T.x_InvalidCondition)) gss_nil)
  (gss_one (gs_ret (ge_c (takes_of rfl rfl rfl rfl) C_is_condition_to hr (by decide) (ga_cons (ge_wk (gv 0)) (ga_cons (gv 1) (ga_cons (ge_gc T.c_MOST_DEPTH) ga_nil))))))), rd_is_condition⟩

theorem ok_check_condition (T : Txt K mg) (C_are_names : Cal P w K mg base 2 "are_names" s_are_names ["value"] sp_are_names) (C_is_condition_to : Cal P w K mg base 16 "is_condition_to" s_is_condition_to ["columns", "value", "left"] sp_is_condition_to) : Cal P w K mg base 17 "check_condition" s_check_condition ["columns", "condition"] sp_check_condition :=
  calD T.f_check_condition sc_check_condition fun f cdv A outer s H E hr => ⟨d_check_condition, (gss_cons (gs_if (gt_not (gt_val (ge_c (takes_of rfl rfl rfl rfl) C_are_names hr (by decide) (ga_cons (ge_wk (gv 0)) ga_nil)))) (gss_one (gs_raise rfl (takes_of rfl rfl rfl rfl) T.x_InvalidCondition)) gss_nil)
  (gss_one (gs_if (GW.gt (gw_and (gt_cmp op_notA rs_notA (gv 1) ge_non (nomark _)) (gw_and1 (gt_not (gt_val (ge_c (takes_of rfl rfl rfl rfl) C_is_condition_to hr (by decide) (ga_cons (ge_wk (gv 0)) (ga_cons (gv 1) (ga_cons (ge_gc T.c_MOST_DEPTH) ga_nil))))))))) (gss_one (gs_raise rfl (takes_of rfl rfl rfl rfl) T.x_InvalidCondition)) gss_nil))), rd_check_condition⟩

theorem ok_is_row (T : Txt K mg) (C_is_value : Cal P w K mg base 2 "is_value" s_is_value ["value"] sp_is_value) : Cal P w K mg base 3 "is_row" s_is_row ["value"] sp_is_row :=
  calD T.f_is_row sc_is_row fun f cdv A outer s H E hr => ⟨d_is_row, (gss_one (gs_ret (ge_and (ge_callB call_isi cs_isi rfl T.b_isinstance (by decide +kernel) (ga_cons (gv 0) (ga_cons (ge_ty T.b_tuple (by decide +kernel)) ga_nil))) (ge_one (ge_callB (cr_all rfl) cs_all rfl T.b_all (by decide +kernel) (ga_cons (GN.ge (gn_lc [("one", 1)] rfl sc_is_row.nd (gi_tup (gv 0)) (blkOk_by (own := [("one", 1)]) (N := n_is_row) (sc := defScope s_is_row) (by decide +kernel)) (by decide) (fun _ _ _ _ _ => (gg_name (i := 1) sc_is_row.nd rfl (Or.inl rfl))) (fun _ _ _ _ _ => gts_nil) (fun _ _ _ _ _ => (ge_c takes0 C_is_value hr (by decide) (ga_cons (gv 1) ga_nil))))) ga_nil)))))), rd_is_row⟩

theorem ok_kind_of (T : Txt K mg)  : Cal P w K mg base 1 "kind_of" s_kind_of ["value"] sp_kind_of :=
  calD T.f_kind_of sc_kind_of fun f cdv A outer s H E hr => ⟨d_kind_of, (gss_cons (gs_if (gt_cmp op_isA rs_isA (gv 0) ge_non (nomark _)) (gss_one (gs_ret ge_str)) gss_nil)
  (gss_cons (gs_if (gt_val (ge_callB call_isi cs_isi rfl T.b_isinstance (by decide +kernel) (ga_cons (gv 0) (ga_cons (ge_ty T.b_bool (by decide +kernel)) ga_nil)))) (gss_one (gs_ret ge_str)) gss_nil)
  (gss_one (gs_ret (ge_if (gt_val (ge_callB call_isi cs_isi rfl T.b_isinstance (by decide +kernel) (ga_cons (gv 0) (ga_cons (ge_ty T.b_int (by decide +kernel)) ga_nil)))) ge_str ge_str))))), rd_kind_of⟩

theorem ok_compared (T : Txt K mg) (C_kind_of : Cal P w K mg base 1 "kind_of" s_kind_of ["value"] sp_kind_of) : Cal P w K mg base 2 "compared" s_compared ["word", "value", "told"] sp_compared :=
  calD T.f_compared sc_compared fun f cdv A outer s H E hr => ⟨d_compared, (gss_cons (gs_if (GW.gt (gw_or (gt_cmp op_isA rs_isA (gv 1) ge_non (nomark _)) (gw_or1 (gt_cmp (op_neA hr.units) rs_ne (ge_c (takes_of rfl rfl rfl rfl) C_kind_of hr (by decide) (ga_cons (gv 1) ga_nil)) (ge_c (takes_of rfl rfl rfl rfl) C_kind_of hr (by decide) (ga_cons (gv 2) ga_nil)) (nomark _))))) (gss_one (gs_ret ge_non)) gss_nil)
  (gss_cons (gs_if (gt_cmp (op_eqA hr.units) rs_eq (gv 0) ge_str (nomark _)) (gss_one (gs_ret (ge_cmp (op_eqA hr.units) rs_eq (gv 1) (gv 2) (nomark _)))) gss_nil)
  (gss_one (gs_ret (ge_or (ge_cmp op_ltB rs_ltB (gv 1) (gv 2) (nomark _)) (ge_one (ge_and (ge_cmp (op_eqA hr.units) rs_eq (gv 0) ge_str (nomark _)) (ge_one (ge_cmp (op_eqA hr.units) rs_eq (gv 1) (gv 2) (nomark _)))))))))), rd_compared⟩

theorem ok_joined (T : Txt K mg)  : Cal P w K mg base 1 "joined" s_joined ["word", "one", "other"] sp_joined :=
  calD T.f_joined sc_joined fun f cdv A outer s H E hr => ⟨d_joined, (gss_cons (gs_set (i := 3) sc_joined.nd rfl (Or.inl rfl) (ge_cmp (op_eqA hr.units) rs_eq (gv 0) ge_str (nomark _)))
  (gss_cons (gs_if (gt_cmp (op_inB hr.units) rs_inB (gv 3) (ge_tup (ga_cons (gv 1) (ga_cons (gv 2) ga_nil))) rfl) (gss_one (gs_ret (gv 3))) gss_nil)
  (gss_one (gs_ret (ge_if (gt_cmp (op_inB hr.units) rs_inB ge_non (ge_tup (ga_cons (gv 1) (ga_cons (gv 2) ga_nil))) rfl) ge_non (ge_not (gv 3))))))), rd_joined⟩

theorem step_truth (T : Txt K mg) (C_joined : Cal P w K mg base 1 "joined" s_joined ["word", "one", "other"] sp_joined) (C_compared : Cal P w K mg base 2 "compared" s_compared ["word", "value", "told"] sp_compared) {k : Nat} {sp0 sp1 : SpD} (C_truth : Cal P w K mg base k "truth" s_truth ["columns", "condition", "row"] sp0) (hk : 2 ≤ k) (rd : ∀ ds W Qd Qx, ds.length = 3 → sp1 ds W Qd Qx → d_truth sp0 { nx := fun _ W' => Qd .non W', rt := Qd, ex := fun cls x _ W' => Qx cls x W' } (ds.map (fun d => some (Sl.sh d)) ++ List.replicate (n_truth.length - ds.length) none) W) : Cal P w K mg base (k + 1) "truth" s_truth ["columns", "condition", "row"] sp1 :=
  calD T.f_truth sc_truth fun f cdv A outer s H E hr => ⟨d_truth sp0, (gss_cons (gs_set (i := 3) sc_truth.nd rfl (Or.inl rfl) (ge_ix ix_seq rs_ix (gv 1) ge_int (fun _ _ => rfl)))
  (gss_cons (gs_if (gt_cmp (op_eqA hr.units) rs_eq (gv 3) ge_str (nomark _)) (gss_cons (gs_set (i := 4) sc_truth.nd rfl (Or.inl rfl) (ge_c (takes_of rfl rfl rfl rfl) C_truth hr (Nat.le_refl _) (ga_cons (gv 0) (ga_cons (ge_ix ix_seq rs_ix (gv 1) ge_int (fun _ _ => rfl)) (ga_cons (gv 2) ga_nil)))))
  (gss_one (gs_ret (ge_if (gt_cmp op_isA rs_isA (gv 4) ge_non (nomark _)) ge_non (ge_not (gv 4)))))) gss_nil)
  (gss_cons (gs_if (gt_cmp (op_inB hr.units) rs_inB (gv 3) (ge_tc T.t_PAIRED) rfl) (gss_one (gs_ret (ge_c (takes_of rfl rfl rfl rfl) C_joined hr (by omega) (ga_cons (gv 3) (ga_cons (ge_c (takes_of rfl rfl rfl rfl) C_truth hr (Nat.le_refl _) (ga_cons (gv 0) (ga_cons (ge_ix ix_seq rs_ix (gv 1) ge_int (fun _ _ => rfl)) (ga_cons (gv 2) ga_nil)))) (ga_cons (ge_c (takes_of rfl rfl rfl rfl) C_truth hr (Nat.le_refl _) (ga_cons (gv 0) (ga_cons (ge_ix ix_seq rs_ix (gv 1) ge_int (fun _ _ => rfl)) (ga_cons (gv 2) ga_nil)))) ga_nil)))))) gss_nil)
  (gss_cons (gs_set (i := 5) sc_truth.nd rfl (Or.inl rfl) (ge_ix ix_seq rs_ix (gv 2) (ge_indexF (gv 0) (ga_cons (ge_ix ix_seq rs_ix (gv 1) ge_int (fun _ _ => rfl)) ga_nil)) (fun _ _ => rfl)))
  (gss_one (gs_ret (ge_if (gt_cmp (op_eqA hr.units) rs_eq (gv 3) ge_str (nomark _)) (ge_cmp op_isA rs_isA (gv 5) ge_non (nomark _)) (ge_c (takes_of rfl rfl rfl rfl) C_compared hr (by omega) (ga_cons (gv 3) (ga_cons (gv 5) (ga_cons (ge_ix ix_seq rs_ix (gv 1) ge_int (fun _ _ => rfl)) ga_nil))))))))))), rd⟩
theorem ok_truth (T : Txt K mg) (C_joined : Cal P w K mg base 1 "joined" s_joined ["word", "one", "other"] sp_joined) (C_compared : Cal P w K mg base 2 "compared" s_compared ["word", "value", "told"] sp_compared) : Cal P w K mg base 15 "truth" s_truth ["columns", "condition", "row"] sp_truth := by
  have c0 := step_truth (P := P) (w := w) (base := base) T C_joined C_compared (cal_no (k := 2) T.f_truth) (by decide) (rdn_truth 0 spNo fun m h => by cases h)
  have c1 := step_truth T C_joined C_compared c0 (by decide) (rdn_truth 1 (spn_truth 0) fun m h => by cases h; rfl)
  have c2 := step_truth T C_joined C_compared c1 (by decide) (rdn_truth 2 (spn_truth 1) fun m h => by cases h; rfl)
  have c3 := step_truth T C_joined C_compared c2 (by decide) (rdn_truth 3 (spn_truth 2) fun m h => by cases h; rfl)
  have c4 := step_truth T C_joined C_compared c3 (by decide) (rdn_truth 4 (spn_truth 3) fun m h => by cases h; rfl)
  have c5 := step_truth T C_joined C_compared c4 (by decide) (rdn_truth 5 (spn_truth 4) fun m h => by cases h; rfl)
  have c6 := step_truth T C_joined C_compared c5 (by decide) (rdn_truth 6 (spn_truth 5) fun m h => by cases h; rfl)
  have c7 := step_truth T C_joined C_compared c6 (by decide) (rdn_truth 7 (spn_truth 6) fun m h => by cases h; rfl)
  have c8 := step_truth T C_joined C_compared c7 (by decide) (rdn_truth 8 (spn_truth 7) fun m h => by cases h; rfl)
  have c9 := step_truth T C_joined C_compared c8 (by decide) (rdn_truth 9 (spn_truth 8) fun m h => by cases h; rfl)
  have c10 := step_truth T C_joined C_compared c9 (by decide) (rdn_truth 10 (spn_truth 9) fun m h => by cases h; rfl)
  have c11 := step_truth T C_joined C_compared c10 (by decide) (rdn_truth 11 (spn_truth 10) fun m h => by cases h; rfl)
  have c12 := step_truth T C_joined C_compared c11 (by decide) (rdn_truth 12 (spn_truth 11) fun m h => by cases h; rfl)
  exact c12

theorem ok_truth_of (T : Txt K mg) (C_check_condition : Cal P w K mg base 17 "check_condition" s_check_condition ["columns", "condition"] sp_check_condition) (C_is_row : Cal P w K mg base 3 "is_row" s_is_row ["value"] sp_is_row) (C_truth : Cal P w K mg base 15 "truth" s_truth ["columns", "condition", "row"] sp_truth) : Cal P w K mg base 18 "truth_of" s_truth_of ["columns", "condition", "row"] sp_truth_of :=
  calD T.f_truth_of sc_truth_of fun f cdv A outer s H E hr => ⟨d_truth_of, (gss_cons (gs_expr (ge_c (takes_of rfl rfl rfl rfl) C_check_condition hr (by decide) (ga_cons (gv 0) (ga_cons (gv 1) ga_nil))))
  (gss_cons (gs_if (GW.gt (gw_or (gt_not (gt_val (ge_c (takes_of rfl rfl rfl rfl) C_is_row hr (by decide) (ga_cons (gv 2) ga_nil)))) (gw_or1 (gt_cmp (op_neA hr.units) rs_ne (ge_callB call_len cs_len rfl T.b_len (by decide +kernel) (ga_cons (gv 2) ga_nil)) (ge_callB call_len cs_len rfl T.b_len (by decide +kernel) (ga_cons (ge_wk (gv 0)) ga_nil)) (nomark _))))) (gss_one (gs_raise rfl (takes_of rfl rfl rfl rfl) T.x_InvalidRow)) gss_nil)
  (gss_one (gs_ret (ge_if (gt_cmp op_isA rs_isA (gv 1) ge_non (nomark _)) ge_bl (ge_c (takes_of rfl rfl rfl rfl) C_truth hr (by decide) (ga_cons (gv 0) (ga_cons (gv 1) (ga_cons (gv 2) ga_nil))))))))), rd_truth_of⟩

theorem ok_meets (T : Txt K mg) (C_truth_of : Cal P w K mg base 18 "truth_of" s_truth_of ["columns", "condition", "row"] sp_truth_of) : Cal P w K mg base 19 "meets" s_meets ["columns", "condition", "row"] sp_meets :=
  calD T.f_meets sc_meets fun f cdv A outer s H E hr => ⟨d_meets, (gss_one (gs_ret (ge_cmp op_isA rs_isA (ge_c (takes_of rfl rfl rfl rfl) C_truth_of hr (by decide) (ga_cons (gv 0) (ga_cons (gv 1) (ga_cons (gv 2) ga_nil)))) ge_bl (nomark _)))), rd_meets⟩

theorem ok_law_source (T : Txt K mg)  : Cal P w K mg base 1 "_law_source" s_law_source ["cell"] sp_law_source :=
  calD T.f_law_source sc_law_source fun f cdv A outer s H E hr => ⟨d_law_source, (gss_cons (gs_set (i := 1) sc_law_source.nd rfl (Or.inl rfl) (ge_if (gt_cmp op_geA rs_cmp (gv 0) (ge_op op_pow rs_I ge_int ge_int) (nomark _)) (ge_op op_sub rs_J (gv 0) (ge_op op_pow rs_I ge_int ge_int)) ge_int))
  (gss_one (gs_retW (gn_lst (ga_cons (gv 1) (ga_cons (ge_op op_mod rs_I (ge_callTy call_intA cs_int rfl T.b_int (by decide +kernel) (ga_cons (gv 0) ga_nil)) ge_int) (ga_cons ge_int ga_nil))))))), rd_law_source⟩

theorem ok_law_draw (T : Txt K mg)  : Cal P w K mg base 1 "_law_draw" s_law_draw ["source", "many"] sp_law_draw :=
  calD T.f_law_draw sc_law_draw fun f cdv A outer s H E hr => ⟨d_law_draw, (gss_cons (gs_if (GW.gt (gw_and (gt_cmp op_gtA rs_cmp (ge_ixW (gv 0) ge_int (fun _ _ => rfl)) ge_int (nomark _)) (gw_and1 (gt_cmp op_gtA rs_cmp (gv 1) ge_int (nomark _))))) (gss_cons (gs_set (i := 2) sc_law_draw.nd rfl (Or.inl rfl) (ge_op op_fdivW rs_I (ge_ixW (gv 0) ge_int (fun _ _ => rfl)) (gv 1)))
  (gss_cons (gs_set (i := 3) sc_law_draw.nd rfl (Or.inl rfl) (ge_op op_sub rs_J (ge_ixW (gv 0) ge_int (fun _ _ => rfl)) (ge_op op_mulAll rs_mulA (gv 2) (gv 1))))
  (gss_cons (gs_setW (gv 2) (gv 0) ge_int)
  (gss_one (gs_ret (gv 3)))))) gss_nil)
  (gss_cons (gs_setW (ge_op op_addA rs_add (ge_ixW (gv 0) ge_int (fun _ _ => rfl)) ge_int) (gv 0) ge_int)
  (gss_cons (gs_set (i := 4) sc_law_draw.nd rfl (Or.inl rfl) (ge_ixW (gv 0) ge_int (fun _ _ => rfl)))
  (gss_cons (gs_set (i := 5) sc_law_draw.nd rfl (Or.inl rfl) (ge_op op_mod rs_I (ge_callTy call_intA cs_int rfl T.b_int (by decide +kernel) (ga_cons (ge_op op_addA rs_add (ge_op op_addA rs_add (ge_op op_mulAll rs_mulA (ge_ixW (gv 0) ge_int (fun _ _ => rfl)) (ge_op op_addA rs_add (ge_op op_mulAll rs_mulA ge_int (gv 4)) ge_int)) (ge_op op_mulAll rs_mulA (ge_op op_mulAll rs_mulA ge_int (gv 4)) (gv 4))) ge_int) ga_nil)) ge_int))
  (gss_cons (gs_set (i := 5) sc_law_draw.nd rfl (Or.inl rfl) (ge_op op_fdivW rs_I (ge_op op_mod rs_I (ge_callTy call_intA cs_int rfl T.b_int (by decide +kernel) (ga_cons (ge_op op_addA rs_add (ge_op op_addA rs_add (ge_op op_mulAll rs_mulA (gv 5) (gv 5)) (ge_op op_mulAll rs_mulA ge_int (gv 5))) (gv 4)) ga_nil)) ge_int) ge_int))
  (gss_cons (gs_set (i := 5) sc_law_draw.nd rfl (Or.inl rfl) (ge_op op_fdivW rs_I (ge_op op_mod rs_I (ge_callTy call_intA cs_int rfl T.b_int (by decide +kernel) (ga_cons (ge_op op_addA rs_add (ge_op op_mulAll rs_mulA (gv 5) (gv 5)) (ge_op op_mulAll rs_mulA ge_int (gv 4))) ga_nil)) ge_int) ge_int))
  (gss_one (gs_ret (ge_op op_mod rs_I (ge_callTy call_intA cs_int rfl T.b_int (by decide +kernel) (ga_cons (gv 5) ga_nil)) (gv 1)))))))))), rd_law_draw⟩

theorem step_law_same (T : Txt K mg)  {k : Nat} {sp0 sp1 : SpD} (C_law_same : Cal P w K mg base k "_law_same" s_law_same ["found", "due"] sp0) (hk : 0 ≤ k) (rd : ∀ ds W Qd Qx, ds.length = 2 → sp1 ds W Qd Qx → d_law_same sp0 { nx := fun _ W' => Qd .non W', rt := Qd, ex := fun cls x _ W' => Qx cls x W' } (ds.map (fun d => some (Sl.sh d)) ++ List.replicate (n_law_same.length - ds.length) none) W) : Cal P w K mg base (k + 1) "_law_same" s_law_same ["found", "due"] sp1 :=
  calD T.f_law_same sc_law_same fun f cdv A outer s H E hr => ⟨d_law_same sp0, (gss_cons (gs_if (GW.gt (gw_or (gt_cmp (op_neA hr.units) rs_ne (ge_callB call_isi cs_isi rfl T.b_isinstance (by decide +kernel) (ga_cons (gv 1) (ga_cons (ge_ty T.b_tuple (by decide +kernel)) ga_nil))) (ge_callB call_isi cs_isi rfl T.b_isinstance (by decide +kernel) (ga_cons (gv 0) (ga_cons (ge_ty T.b_tuple (by decide +kernel)) ga_nil))) (nomark _)) (gw_or1 (gt_cmp (op_neA hr.units) rs_ne (ge_callB call_isi cs_isi rfl T.b_isinstance (by decide +kernel) (ga_cons (gv 1) (ga_cons (ge_ty T.b_list (by decide +kernel)) ga_nil))) (ge_callB call_isi cs_isi rfl T.b_isinstance (by decide +kernel) (ga_cons (gv 0) (ga_cons (ge_ty T.b_list (by decide +kernel)) ga_nil))) (nomark _))))) (gss_one (gs_ret ge_bl)) gss_nil)
  (gss_cons (gs_if (gt_val (ge_callB call_isiA cs_isiT rfl T.b_isinstance (by decide +kernel) (ga_cons (gv 1) (ga_cons (ge_tup (ga_cons (ge_ty T.b_tuple (by decide +kernel)) (ga_cons (ge_ty T.b_list (by decide +kernel)) ga_nil))) ga_nil)))) (gss_one (gs_ret (ge_and (ge_cmp (op_eqA hr.units) rs_eq (ge_callB call_len cs_len rfl T.b_len (by decide +kernel) (ga_cons (gv 0) ga_nil)) (ge_callB call_len cs_len rfl T.b_len (by decide +kernel) (ga_cons (gv 1) ga_nil)) (nomark _)) (ge_one (ge_cmp (op_eqA hr.units) rs_eq (GN.ge (gn_lc [("k", 2)] rfl sc_law_same.nd (gi_range1 rfl T.b_range (ga_cons (ge_callB call_len cs_len rfl T.b_len (by decide +kernel) (ga_cons (gv 1) ga_nil)) ga_nil)) (blkOk_by (own := [("k", 2)]) (N := n_law_same) (sc := defScope s_law_same) (by decide +kernel)) (by decide) (fun _ _ _ _ _ => (gg_name (i := 2) sc_law_same.nd rfl (Or.inl rfl))) (fun _ _ _ _ _ => (gts_one (gt_not (gt_val (ge_c takes0 C_law_same hr (Nat.le_refl _) (ga_cons (ge_ix ix_seq rs_ix (gv 0) (gv 2) (fun _ _ => rfl)) (ga_cons (ge_ix ix_seq rs_ix (gv 1) (gv 2) (fun _ _ => rfl)) ga_nil))))))) (fun _ _ _ _ _ => (gv 2)))) (ge_lst ga_nil) (nomark _)))))) gss_nil)
  (gss_one (gs_ret (ge_and (ge_cmp (op_eqA hr.units) rs_eq (gv 0) (gv 1) (nomark _)) (ge_one (ge_cmp (op_eqA hr.units) rs_eq (ge_callB (cr_repr hr.toRoom.units hr.gd) cs_repr rfl T.b_repr (by decide +kernel) (ga_cons (gv 0) ga_nil)) (ge_callB (cr_repr hr.toRoom.units hr.gd) cs_repr rfl T.b_repr (by decide +kernel) (ga_cons (gv 1) ga_nil)) (nomark _)))))))), rd⟩
theorem ok_law_same (T : Txt K mg)  : Cal P w K mg base 5 "_law_same" s_law_same ["found", "due"] sp_law_same := by
  have c0 := step_law_same (P := P) (w := w) (base := base) T  (cal_no (k := 1) T.f_law_same) (by decide) (rdn_law_same 0 spNo fun m h => by cases h)
  have c1 := step_law_same T  c0 (by decide) (rdn_law_same 1 (spn_law_same 0) fun m h => by cases h; rfl)
  have c2 := step_law_same T  c1 (by decide) (rdn_law_same 2 (spn_law_same 1) fun m h => by cases h; rfl)
  have c3 := step_law_same T  c2 (by decide) (rdn_law_same 3 (spn_law_same 2) fun m h => by cases h; rfl)
  exact c3

theorem ok_law_word (T : Txt K mg) (C_law_draw : Cal P w K mg base 1 "_law_draw" s_law_draw ["source", "many"] sp_law_draw) : Cal P w K mg base 2 "_law_word" s_law_word ["source"] sp_law_word :=
  calD T.f_law_word sc_law_word fun f cdv A outer s H E hr => ⟨d_law_word, (gss_cons (gs_set (i := 1) sc_law_word.nd rfl (Or.inl rfl) ge_str)
  (gss_cons (gs_set (i := 2) sc_law_word.nd rfl (Or.inl rfl) (ge_if (gt_cmp (op_eqA hr.units) rs_eq (ge_c (takes_of rfl rfl rfl rfl) C_law_draw hr (by decide) (ga_cons (gv 0) (ga_cons ge_int ga_nil))) ge_int (nomark _)) ge_int ge_int))
  (gss_cons (gs_set (i := 3) sc_law_word.nd rfl (Or.inl rfl) ge_str)
  (gss_cons (gs_for (passes_of rfl) rfl (gi_range1 rfl T.b_range (ga_cons (ge_ix ix_seq rs_ix (ge_lst (ga_cons ge_int (ga_cons ge_int (ga_cons ge_int (ga_cons ge_int (ga_cons ge_int (ga_cons ge_int ga_nil))))))) (ge_c (takes_of rfl rfl rfl rfl) C_law_draw hr (by decide) (ga_cons (gv 0) (ga_cons ge_int ga_nil))) (fun _ _ => rfl)) ga_nil)) (gg_name (i := 4) sc_law_word.nd rfl (Or.inl rfl))
  (gss_one (gs_set (i := 3) sc_law_word.nd rfl (Or.inl rfl) (ge_op op_addA rs_add (gv 3) (ge_ix ix_seq rs_ix (gv 1) (ge_c (takes_of rfl rfl rfl rfl) C_law_draw hr (by decide) (ga_cons (gv 0) (ga_cons (gv 2) ga_nil))) (fun _ _ => rfl))))))
  (gss_one (gs_ret (gv 3))))))), rd_law_word⟩

theorem ok_law_words (T : Txt K mg) (C_law_word : Cal P w K mg base 2 "_law_word" s_law_word ["source"] sp_law_word) : Cal P w K mg base 3 "_law_words" s_law_words ["source", "many", "banned"] sp_law_words :=
  calD T.f_law_words sc_law_words fun f cdv A outer s H E hr => ⟨d_law_words, (gss_cons (gs_setO (i := 3) sc_law_words.nd rfl (Or.inr rfl) (gn_lst ga_nil))
  (gss_cons (gs_for (passes_of rfl) rfl (gi_range1 rfl T.b_range (ga_cons (gv 1) ga_nil)) (gg_name (i := 4) sc_law_words.nd rfl (Or.inl rfl))
  (gss_cons (gs_set (i := 5) sc_law_words.nd rfl (Or.inl rfl) (ge_c (takes_of rfl rfl rfl rfl) C_law_word hr (by decide) (ga_cons (gv 0) ga_nil)))
  (gss_cons (gs_set (i := 6) sc_law_words.nd rfl (Or.inl rfl) (ge_lst (ga_cons ge_str (ga_cons ge_str (ga_cons ge_str (ga_cons ge_str (ga_cons ge_str (ga_cons ge_str (ga_cons ge_str (ga_cons ge_str (ga_cons ge_str (ga_cons ge_str (ga_cons ge_str (ga_cons ge_str ga_nil))))))))))))))
  (gss_cons (gs_setLc (k := 6) [("one", 7)] rfl sc_law_words.nd rfl rfl (sw_true rfl rfl rfl (by decide +kernel)) (gi_list (gv 6)) (blkOk_by (own := [("one", 7)]) (N := n_law_words) (sc := defScope s_law_words) (by decide +kernel)) (by decide) (fun _ _ _ _ _ => (gg_name (i := 7) sc_law_words.nd rfl (Or.inl rfl))) (fun _ _ _ _ _ => (gts_one (GW.gt (gw_and (gt_niO 3 (gv 7)) (gw_and1 (gt_cmp (op_niB hr.units) rs_inB (gv 7) (gv 2) rfl)))))) (fun _ _ _ _ _ => (gv 7)))
  (gss_one (gs_app (i := 3) (ge_if (GW.gt (gw_or (gt_inO 3 (gv 5)) (gw_or1 (gt_cmp (op_inB hr.units) rs_inB (gv 5) (gv 2) rfl)))) (ge_ix ix_seq rs_ix (gv 6) ge_int (fun _ _ => rfl)) (gv 5))))))))
  (gss_frz 3 (gss_one (gs_ret (gv 3)))))), rd_law_words⟩

theorem ok_law_text (T : Txt K mg) (C_law_draw : Cal P w K mg base 1 "_law_draw" s_law_draw ["source", "many"] sp_law_draw) : Cal P w K mg base 2 "_law_text" s_law_text ["source"] sp_law_text :=
  calD T.f_law_text sc_law_text fun f cdv A outer s H E hr => ⟨d_law_text, (gss_cons (gs_set (i := 1) sc_law_text.nd rfl (Or.inl rfl) ge_str)
  (gss_cons (gs_set (i := 2) sc_law_text.nd rfl (Or.inl rfl) ge_str)
  (gss_cons (gs_set (i := 3) sc_law_text.nd rfl (Or.inl rfl) (ge_if (gt_cmp op_gtA rs_cmp (ge_c (takes_of rfl rfl rfl rfl) C_law_draw hr (by decide) (ga_cons (gv 0) (ga_cons ge_int ga_nil))) ge_int (nomark _)) (gv 1) (gv 2)))
  (gss_cons (gs_set (i := 4) sc_law_text.nd rfl (Or.inl rfl) ge_str)
  (gss_cons (gs_for (passes_of rfl) rfl (gi_range1 rfl T.b_range (ga_cons (ge_ix ix_seq rs_ix (ge_lst (ga_cons ge_int (ga_cons ge_int (ga_cons ge_int (ga_cons ge_int (ga_cons ge_int (ga_cons ge_int (ga_cons ge_int (ga_cons ge_int ga_nil))))))))) (ge_c (takes_of rfl rfl rfl rfl) C_law_draw hr (by decide) (ga_cons (gv 0) (ga_cons ge_int ga_nil))) (fun _ _ => rfl)) ga_nil)) (gg_name (i := 5) sc_law_text.nd rfl (Or.inl rfl))
  (gss_one (gs_set (i := 4) sc_law_text.nd rfl (Or.inl rfl) (ge_op op_addA rs_add (gv 4) (ge_ix ix_seq rs_ix (gv 3) (ge_c (takes_of rfl rfl rfl rfl) C_law_draw hr (by decide) (ga_cons (gv 0) (ga_cons (ge_callB call_len cs_len rfl T.b_len (by decide +kernel) (ga_cons (gv 3) ga_nil)) ga_nil))) (fun _ _ => rfl))))))
  (gss_one (gs_ret (gv 4)))))))), rd_law_text⟩

theorem ok_law_value (T : Txt K mg) (C_law_draw : Cal P w K mg base 1 "_law_draw" s_law_draw ["source", "many"] sp_law_draw) (C_law_text : Cal P w K mg base 2 "_law_text" s_law_text ["source"] sp_law_text) : Cal P w K mg base 3 "_law_value" s_law_value ["source", "kind"] sp_law_value :=
  calD T.f_law_value sc_law_value fun f cdv A outer s H E hr => ⟨d_law_value, (gss_cons (gs_if (gt_cmp (op_eqA hr.units) rs_eq (gv 1) ge_str (nomark _)) (gss_one (gs_ret (ge_cmp (op_eqA hr.units) rs_eq (ge_c (takes_of rfl rfl rfl rfl) C_law_draw hr (by decide) (ga_cons (gv 0) (ga_cons ge_int ga_nil))) ge_int (nomark _)))) gss_nil)
  (gss_cons (gs_if (gt_cmp (op_eqA hr.units) rs_eq (gv 1) ge_str (nomark _)) (gss_one (gs_ret (ge_c (takes_of rfl rfl rfl rfl) C_law_text hr (by decide) (ga_cons (gv 0) ga_nil)))) gss_nil)
  (gss_cons (gs_set (i := 2) sc_law_value.nd rfl (Or.inl rfl) (ge_c (takes_of rfl rfl rfl rfl) C_law_draw hr (by decide) (ga_cons (gv 0) (ga_cons ge_int ga_nil))))
  (gss_cons (gs_if (gt_cmp op_ltA rs_cmp (gv 2) ge_int (nomark _)) (gss_one (gs_ret (ge_ix ix_seq rs_ix (ge_lst (ga_cons ge_int (ga_cons ge_int (ga_cons ge_int (ga_cons ge_int (ga_cons (ge_neg ge_int) (ga_cons (ge_neg ge_int) (ga_cons ge_int (ga_cons ge_int (ga_cons (ge_neg ge_int) ga_nil)))))))))) (gv 2) (fun _ _ => rfl)))) gss_nil)
  (gss_cons (gs_set (i := 3) sc_law_value.nd rfl (Or.inl rfl) (ge_c (takes_of rfl rfl rfl rfl) C_law_draw hr (by decide) (ga_cons (gv 0) (ga_cons (ge_ix ix_seq rs_ix (ge_lst (ga_cons (ge_op op_pow rs_I ge_int ge_int) (ga_cons (ge_op op_pow rs_I ge_int ge_int) (ga_cons (ge_op op_pow rs_I ge_int ge_int) ga_nil)))) (ge_op op_sub rs_J (gv 2) ge_int) (fun _ _ => rfl)) ga_nil))))
  (gss_one (gs_ret (ge_if (gt_cmp (op_eqA hr.units) rs_eq (ge_c (takes_of rfl rfl rfl rfl) C_law_draw hr (by decide) (ga_cons (gv 0) (ga_cons ge_int ga_nil))) ge_int (nomark _)) (gv 3) (ge_op op_sub rs_J ge_int (gv 3)))))))))), rd_law_value⟩

theorem ok_law_kind (T : Txt K mg)  : Cal P w K mg base 1 "_law_kind" s_law_kind ["value"] sp_law_kind :=
  calD T.f_law_kind sc_law_kind fun f cdv A outer s H E hr => ⟨d_law_kind, (gss_cons (gs_if (GW.gt (gw_or (gt_cmp op_isA rs_isA (gv 0) ge_non (nomark _)) (gw_or1 (gt_val (ge_callB call_isi cs_isi rfl T.b_isinstance (by decide +kernel) (ga_cons (gv 0) (ga_cons (ge_ty T.b_bool (by decide +kernel)) ga_nil))))))) (gss_one (gs_ret (ge_if (gt_cmp op_isA rs_isA (gv 0) ge_non (nomark _)) ge_str ge_str))) gss_nil)
  (gss_one (gs_ret (ge_if (gt_val (ge_callB call_isi cs_isi rfl T.b_isinstance (by decide +kernel) (ga_cons (gv 0) (ga_cons (ge_ty T.b_int (by decide +kernel)) ga_nil)))) ge_str ge_str)))), rd_law_kind⟩

theorem step_law_truths (T : Txt K mg) (C_law_kind : Cal P w K mg base 1 "_law_kind" s_law_kind ["value"] sp_law_kind) {k : Nat} {sp0 sp1 : SpD} (C_law_truths : Cal P w K mg base k "_law_truths" s_law_truths ["names", "condition", "row"] sp0) (hk : 1 ≤ k) (rd : ∀ ds W Qd Qx, ds.length = 3 → sp1 ds W Qd Qx → d_law_truths sp0 { nx := fun _ W' => Qd .non W', rt := Qd, ex := fun cls x _ W' => Qx cls x W' } (ds.map (fun d => some (Sl.sh d)) ++ List.replicate (n_law_truths.length - ds.length) none) W) : Cal P w K mg base (k + 1) "_law_truths" s_law_truths ["names", "condition", "row"] sp1 :=
  calD T.f_law_truths sc_law_truths fun f cdv A outer s H E hr => ⟨d_law_truths sp0, (gss_cons (gs_set (i := 3) sc_law_truths.nd rfl (Or.inl rfl) (ge_ix ix_seq rs_ix (gv 1) ge_int (fun _ _ => rfl)))
  (gss_cons (gs_if (gt_cmp (op_eqA hr.units) rs_eq (gv 3) ge_str (nomark _)) (gss_cons (gs_asg (ge_c (takes_of rfl rfl rfl rfl) C_law_truths hr (Nat.le_refl _) (ga_cons (gv 0) (ga_cons (ge_ix ix_seq rs_ix (gv 1) ge_int (fun _ _ => rfl)) (ga_cons (gv 2) ga_nil)))) (gg_tup rfl (ggs_cons (gg_name (i := 4) sc_law_truths.nd rfl (Or.inl rfl)) (ggs_cons (gg_name (i := 5) sc_law_truths.nd rfl (Or.inl rfl)) ggs_nil))))
  (gss_one (gs_ret (ge_tup (ga_cons (gv 5) (ga_cons (gv 4) ga_nil)))))) gss_nil)
  (gss_cons (gs_if (gt_cmp (op_inB hr.units) rs_inB (gv 3) (ge_tup (ga_cons ge_str (ga_cons ge_str ga_nil))) rfl) (gss_cons (gs_par (i := 6) (j := 7) rfl sc_law_truths.nd rfl rfl (by decide) rfl rfl (ga_cons (ge_c (takes_of rfl rfl rfl rfl) C_law_truths hr (Nat.le_refl _) (ga_cons (gv 0) (ga_cons (ge_ix ix_seq rs_ix (gv 1) ge_int (fun _ _ => rfl)) (ga_cons (gv 2) ga_nil)))) (ga_cons (ge_c (takes_of rfl rfl rfl rfl) C_law_truths hr (Nat.le_refl _) (ga_cons (gv 0) (ga_cons (ge_ix ix_seq rs_ix (gv 1) ge_int (fun _ _ => rfl)) (ga_cons (gv 2) ga_nil)))) ga_nil)) rfl)
  (gss_cons (gs_if (gt_cmp (op_eqA hr.units) rs_eq (gv 3) ge_str (nomark _)) (gss_one (gs_ret (ge_tup (ga_cons (ge_and (ge_ix ix_seq rs_ix (gv 6) ge_int (fun _ _ => rfl)) (ge_one (ge_ix ix_seq rs_ix (gv 7) ge_int (fun _ _ => rfl)))) (ga_cons (ge_or (ge_ix ix_seq rs_ix (gv 6) ge_int (fun _ _ => rfl)) (ge_one (ge_ix ix_seq rs_ix (gv 7) ge_int (fun _ _ => rfl)))) ga_nil))))) gss_nil)
  (gss_one (gs_ret (ge_tup (ga_cons (ge_or (ge_ix ix_seq rs_ix (gv 6) ge_int (fun _ _ => rfl)) (ge_one (ge_ix ix_seq rs_ix (gv 7) ge_int (fun _ _ => rfl)))) (ga_cons (ge_and (ge_ix ix_seq rs_ix (gv 6) ge_int (fun _ _ => rfl)) (ge_one (ge_ix ix_seq rs_ix (gv 7) ge_int (fun _ _ => rfl)))) ga_nil))))))) gss_nil)
  (gss_cons (gs_set (i := 8) sc_law_truths.nd rfl (Or.inl rfl) (ge_ix ix_seq rs_ix (gv 2) (ge_indexL (gv 0) (ga_cons (ge_ix ix_seq rs_ix (gv 1) ge_int (fun _ _ => rfl)) ga_nil)) (fun _ _ => rfl)))
  (gss_cons (gs_if (gt_cmp (op_eqA hr.units) rs_eq (gv 3) ge_str (nomark _)) (gss_one (gs_ret (ge_tup (ga_cons (ge_cmp op_isA rs_isA (gv 8) ge_non (nomark _)) (ga_cons (ge_cmp op_notA rs_notA (gv 8) ge_non (nomark _)) ga_nil))))) gss_nil)
  (gss_cons (gs_if (GW.gt (gw_or (gt_cmp op_isA rs_isA (gv 8) ge_non (nomark _)) (gw_or1 (gt_cmp (op_neA hr.units) rs_ne (ge_c (takes_of rfl rfl rfl rfl) C_law_kind hr (by omega) (ga_cons (gv 8) ga_nil)) (ge_c (takes_of rfl rfl rfl rfl) C_law_kind hr (by omega) (ga_cons (ge_ix ix_seq rs_ix (gv 1) ge_int (fun _ _ => rfl)) ga_nil)) (nomark _))))) (gss_one (gs_ret (ge_tup (ga_cons ge_bl (ga_cons ge_bl ga_nil))))) gss_nil)
  (gss_cons (gs_set (i := 9) sc_law_truths.nd rfl (Or.inl rfl) (ge_cmp (op_eqA hr.units) rs_eq (gv 8) (ge_ix ix_seq rs_ix (gv 1) ge_int (fun _ _ => rfl)) (nomark _)))
  (gss_cons (gs_if (gt_cmp (op_neA hr.units) rs_ne (gv 3) ge_str (nomark _)) (gss_one (gs_set (i := 9) sc_law_truths.nd rfl (Or.inl rfl) (ge_or (ge_cmp op_ltB rs_ltB (gv 8) (ge_ix ix_seq rs_ix (gv 1) ge_int (fun _ _ => rfl)) (nomark _)) (ge_one (ge_and (gv 9) (ge_one (ge_cmp (op_eqA hr.units) rs_eq (gv 3) ge_str (nomark _)))))))) gss_nil)
  (gss_one (gs_ret (ge_tup (ga_cons (gv 9) (ga_cons (ge_not (gv 9)) ga_nil))))))))))))), rd⟩
theorem ok_law_truths (T : Txt K mg) (C_law_kind : Cal P w K mg base 1 "_law_kind" s_law_kind ["value"] sp_law_kind) : Cal P w K mg base 14 "_law_truths" s_law_truths ["names", "condition", "row"] sp_law_truths := by
  have c0 := step_law_truths (P := P) (w := w) (base := base) T C_law_kind (cal_no (k := 1) T.f_law_truths) (by decide) (rdn_law_truths 0 spNo fun m h => by cases h)
  have c1 := step_law_truths T C_law_kind c0 (by decide) (rdn_law_truths 1 (spn_law_truths 0) fun m h => by cases h; rfl)
  have c2 := step_law_truths T C_law_kind c1 (by decide) (rdn_law_truths 2 (spn_law_truths 1) fun m h => by cases h; rfl)
  have c3 := step_law_truths T C_law_kind c2 (by decide) (rdn_law_truths 3 (spn_law_truths 2) fun m h => by cases h; rfl)
  have c4 := step_law_truths T C_law_kind c3 (by decide) (rdn_law_truths 4 (spn_law_truths 3) fun m h => by cases h; rfl)
  have c5 := step_law_truths T C_law_kind c4 (by decide) (rdn_law_truths 5 (spn_law_truths 4) fun m h => by cases h; rfl)
  have c6 := step_law_truths T C_law_kind c5 (by decide) (rdn_law_truths 6 (spn_law_truths 5) fun m h => by cases h; rfl)
  have c7 := step_law_truths T C_law_kind c6 (by decide) (rdn_law_truths 7 (spn_law_truths 6) fun m h => by cases h; rfl)
  have c8 := step_law_truths T C_law_kind c7 (by decide) (rdn_law_truths 8 (spn_law_truths 7) fun m h => by cases h; rfl)
  have c9 := step_law_truths T C_law_kind c8 (by decide) (rdn_law_truths 9 (spn_law_truths 8) fun m h => by cases h; rfl)
  have c10 := step_law_truths T C_law_kind c9 (by decide) (rdn_law_truths 10 (spn_law_truths 9) fun m h => by cases h; rfl)
  have c11 := step_law_truths T C_law_kind c10 (by decide) (rdn_law_truths 11 (spn_law_truths 10) fun m h => by cases h; rfl)
  have c12 := step_law_truths T C_law_kind c11 (by decide) (rdn_law_truths 12 (spn_law_truths 11) fun m h => by cases h; rfl)
  exact c12

theorem step_law_condition (T : Txt K mg) (C_law_draw : Cal P w K mg base 1 "_law_draw" s_law_draw ["source", "many"] sp_law_draw) (C_law_value : Cal P w K mg base 3 "_law_value" s_law_value ["source", "kind"] sp_law_value) {k : Nat} {sp0 sp1 : SpD} (C_law_condition : Cal P w K mg base k "_law_condition" s_law_condition ["source", "columns", "left"] sp0) (hk : 3 ≤ k) (rd : ∀ ds W Qd Qx, ds.length = 3 → sp1 ds W Qd Qx → d_law_condition sp0 { nx := fun _ W' => Qd .non W', rt := Qd, ex := fun cls x _ W' => Qx cls x W' } (ds.map (fun d => some (Sl.sh d)) ++ List.replicate (n_law_condition.length - ds.length) none) W) : Cal P w K mg base (k + 1) "_law_condition" s_law_condition ["source", "columns", "left"] sp1 :=
  calD T.f_law_condition sc_law_condition fun f cdv A outer s H E hr => ⟨d_law_condition sp0, (gss_cons (gs_set (i := 3) sc_law_condition.nd rfl (Or.inl rfl) (ge_if (gt_cmp op_gtA rs_cmp (gv 2) ge_int (nomark _)) (ge_c (takes_of rfl rfl rfl rfl) C_law_draw hr (by omega) (ga_cons (gv 0) (ga_cons ge_int ga_nil))) ge_int))
  (gss_cons (gs_if (gt_cmp op_ltA rs_cmp (gv 3) ge_int (nomark _)) (gss_cons (gs_set (i := 4) sc_law_condition.nd rfl (Or.inl rfl) (ge_c (takes_of rfl rfl rfl rfl) C_law_condition hr (Nat.le_refl _) (ga_cons (gv 0) (ga_cons (gv 1) (ga_cons (ge_op op_sub rs_J (gv 2) ge_int) ga_nil)))))
  (gss_cons (gs_if (gt_cmp (op_eqA hr.units) rs_eq (gv 3) ge_int (nomark _)) (gss_one (gs_ret (ge_tup (ga_cons ge_str (ga_cons (gv 4) ga_nil))))) gss_nil)
  (gss_one (gs_ret (ge_tup (ga_cons (ge_ix ix_seq rs_ix (ge_lst (ga_cons ge_str (ga_cons ge_str (ga_cons ge_str ga_nil)))) (ge_op op_sub rs_J (gv 3) ge_int) (fun _ _ => rfl)) (ga_cons (gv 4) (ga_cons (ge_c (takes_of rfl rfl rfl rfl) C_law_condition hr (Nat.le_refl _) (ga_cons (gv 0) (ga_cons (gv 1) (ga_cons (ge_op op_sub rs_J (gv 2) ge_int) ga_nil)))) ga_nil)))))))) gss_nil)
  (gss_cons (gs_asg (ge_ix ix_seq rs_ix (gv 1) (ge_c (takes_of rfl rfl rfl rfl) C_law_draw hr (by omega) (ga_cons (gv 0) (ga_cons (ge_callB call_len cs_len rfl T.b_len (by decide +kernel) (ga_cons (gv 1) ga_nil)) ga_nil))) (fun _ _ => rfl)) (gg_tup rfl (ggs_cons (gg_name (i := 5) sc_law_condition.nd rfl (Or.inl rfl)) (ggs_cons (gg_name (i := 6) sc_law_condition.nd rfl (Or.inl rfl)) (ggs_cons (gg_name (i := 7) sc_law_condition.nd rfl (Or.inl rfl)) ggs_nil)))))
  (gss_cons (gs_set (i := 8) sc_law_condition.nd rfl (Or.inl rfl) (ge_ix ix_seq rs_ix (ge_lst (ga_cons ge_str (ga_cons ge_str (ga_cons ge_str (ga_cons ge_str ga_nil))))) (ge_c (takes_of rfl rfl rfl rfl) C_law_draw hr (by omega) (ga_cons (gv 0) (ga_cons ge_int ga_nil))) (fun _ _ => rfl)))
  (gss_cons (gs_if (gt_cmp (op_eqA hr.units) rs_eq (gv 8) ge_str (nomark _)) (gss_one (gs_ret (ge_tup (ga_cons (gv 8) (ga_cons (gv 5) ga_nil))))) gss_nil)
  (gss_cons (gs_set (i := 9) sc_law_condition.nd rfl (Or.inl rfl) (ge_c (takes_of rfl rfl rfl rfl) C_law_draw hr (by omega) (ga_cons (gv 0) (ga_cons ge_int ga_nil))))
  (gss_cons (gs_if (gt_cmp op_ltA rs_cmp (gv 9) ge_int (nomark _)) (gss_one (gs_ret (ge_tup (ga_cons (gv 8) (ga_cons (gv 5) (ga_cons (ge_if (gt_cmp (op_eqA hr.units) rs_eq (gv 9) ge_int (nomark _)) ge_non (ge_c (takes_of rfl rfl rfl rfl) C_law_value hr (by omega) (ga_cons (gv 0) (ga_cons (ge_ix ix_seq rs_ix (ge_lst (ga_cons ge_str (ga_cons ge_str (ga_cons ge_str ga_nil)))) (ge_c (takes_of rfl rfl rfl rfl) C_law_draw hr (by omega) (ga_cons (gv 0) (ga_cons ge_int ga_nil))) (fun _ _ => rfl)) ga_nil)))) ga_nil)))))) gss_nil)
  (gss_one (gs_ret (ge_tup (ga_cons (gv 8) (ga_cons (gv 5) (ga_cons (ge_c (takes_of rfl rfl rfl rfl) C_law_value hr (by omega) (ga_cons (gv 0) (ga_cons (gv 6) ga_nil))) ga_nil))))))))))))), rd⟩
theorem ok_law_condition (T : Txt K mg) (C_law_draw : Cal P w K mg base 1 "_law_draw" s_law_draw ["source", "many"] sp_law_draw) (C_law_value : Cal P w K mg base 3 "_law_value" s_law_value ["source", "kind"] sp_law_value) : Cal P w K mg base 7 "_law_condition" s_law_condition ["source", "columns", "left"] sp_law_condition := by
  have c0 := step_law_condition (P := P) (w := w) (base := base) T C_law_draw C_law_value (cal_no (k := 3) T.f_law_condition) (by decide) (rdn_law_condition 0 spNo fun m h => by cases h)
  have c1 := step_law_condition T C_law_draw C_law_value c0 (by decide) (rdn_law_condition 1 (spn_law_condition 0) fun m h => by cases h; rfl)
  have c2 := step_law_condition T C_law_draw C_law_value c1 (by decide) (rdn_law_condition 2 (spn_law_condition 1) fun m h => by cases h; rfl)
  have c3 := step_law_condition T C_law_draw C_law_value c2 (by decide) (rdn_law_condition 3 (spn_law_condition 2) fun m h => by cases h; rfl)
  exact c3

theorem step_law_places (T : Txt K mg)  {k : Nat} {sp0 sp1 : SpD} (C_law_places : Cal P w K mg base k "_law_places" s_law_places ["value", "place"] sp0) (hk : 0 ≤ k) (rd : ∀ ds W Qd Qx, ds.length = 2 → sp1 ds W Qd Qx → d_law_places sp0 { nx := fun _ W' => Qd .non W', rt := Qd, ex := fun cls x _ W' => Qx cls x W' } (ds.map (fun d => some (Sl.sh d)) ++ List.replicate (n_law_places.length - ds.length) none) W) : Cal P w K mg base (k + 1) "_law_places" s_law_places ["value", "place"] sp1 :=
  calD T.f_law_places sc_law_places fun f cdv A outer s H E hr => ⟨d_law_places sp0, (gss_cons (gs_set (i := 2) sc_law_places.nd rfl (Or.inl rfl) (ge_lst (ga_cons (gv 1) ga_nil)))
  (gss_cons (gs_if (gt_val (ge_callB call_isi cs_isi rfl T.b_isinstance (by decide +kernel) (ga_cons (gv 0) (ga_cons (ge_ty T.b_tuple (by decide +kernel)) ga_nil)))) (gss_one (gs_for (passes_of rfl) rfl (gi_range1 rfl T.b_range (ga_cons (ge_callB call_len cs_len rfl T.b_len (by decide +kernel) (ga_cons (gv 0) ga_nil)) ga_nil)) (gg_name (i := 3) sc_law_places.nd rfl (Or.inl rfl))
  (gss_one (gs_set (i := 2) sc_law_places.nd rfl (Or.inl rfl) (ge_op op_addA rs_add (gv 2) (ge_c (takes_of rfl rfl rfl rfl) C_law_places hr (Nat.le_refl _) (ga_cons (ge_ix ix_seq rs_ix (gv 0) (gv 3) (fun _ _ => rfl)) (ga_cons (ge_op op_addA rs_add (gv 1) (ge_tup (ga_cons (gv 3) ga_nil))) ga_nil)))))))) gss_nil)
  (gss_one (gs_ret (gv 2))))), rd⟩
theorem ok_law_places (T : Txt K mg)  : Cal P w K mg base 31 "_law_places" s_law_places ["value", "place"] sp_law_places := by
  have c0 := step_law_places (P := P) (w := w) (base := base) T  (cal_no (k := 1) T.f_law_places) (by decide) (rdn_law_places 0 spNo fun m h => by cases h)
  have c1 := step_law_places T  c0 (by decide) (rdn_law_places 1 (spn_law_places 0) fun m h => by cases h; rfl)
  have c2 := step_law_places T  c1 (by decide) (rdn_law_places 2 (spn_law_places 1) fun m h => by cases h; rfl)
  have c3 := step_law_places T  c2 (by decide) (rdn_law_places 3 (spn_law_places 2) fun m h => by cases h; rfl)
  have c4 := step_law_places T  c3 (by decide) (rdn_law_places 4 (spn_law_places 3) fun m h => by cases h; rfl)
  have c5 := step_law_places T  c4 (by decide) (rdn_law_places 5 (spn_law_places 4) fun m h => by cases h; rfl)
  have c6 := step_law_places T  c5 (by decide) (rdn_law_places 6 (spn_law_places 5) fun m h => by cases h; rfl)
  have c7 := step_law_places T  c6 (by decide) (rdn_law_places 7 (spn_law_places 6) fun m h => by cases h; rfl)
  have c8 := step_law_places T  c7 (by decide) (rdn_law_places 8 (spn_law_places 7) fun m h => by cases h; rfl)
  have c9 := step_law_places T  c8 (by decide) (rdn_law_places 9 (spn_law_places 8) fun m h => by cases h; rfl)
  have c10 := step_law_places T  c9 (by decide) (rdn_law_places 10 (spn_law_places 9) fun m h => by cases h; rfl)
  have c11 := step_law_places T  c10 (by decide) (rdn_law_places 11 (spn_law_places 10) fun m h => by cases h; rfl)
  have c12 := step_law_places T  c11 (by decide) (rdn_law_places 12 (spn_law_places 11) fun m h => by cases h; rfl)
  have c13 := step_law_places T  c12 (by decide) (rdn_law_places 13 (spn_law_places 12) fun m h => by cases h; rfl)
  have c14 := step_law_places T  c13 (by decide) (rdn_law_places 14 (spn_law_places 13) fun m h => by cases h; rfl)
  have c15 := step_law_places T  c14 (by decide) (rdn_law_places 15 (spn_law_places 14) fun m h => by cases h; rfl)
  have c16 := step_law_places T  c15 (by decide) (rdn_law_places 16 (spn_law_places 15) fun m h => by cases h; rfl)
  have c17 := step_law_places T  c16 (by decide) (rdn_law_places 17 (spn_law_places 16) fun m h => by cases h; rfl)
  have c18 := step_law_places T  c17 (by decide) (rdn_law_places 18 (spn_law_places 17) fun m h => by cases h; rfl)
  have c19 := step_law_places T  c18 (by decide) (rdn_law_places 19 (spn_law_places 18) fun m h => by cases h; rfl)
  have c20 := step_law_places T  c19 (by decide) (rdn_law_places 20 (spn_law_places 19) fun m h => by cases h; rfl)
  have c21 := step_law_places T  c20 (by decide) (rdn_law_places 21 (spn_law_places 20) fun m h => by cases h; rfl)
  have c22 := step_law_places T  c21 (by decide) (rdn_law_places 22 (spn_law_places 21) fun m h => by cases h; rfl)
  have c23 := step_law_places T  c22 (by decide) (rdn_law_places 23 (spn_law_places 22) fun m h => by cases h; rfl)
  have c24 := step_law_places T  c23 (by decide) (rdn_law_places 24 (spn_law_places 23) fun m h => by cases h; rfl)
  have c25 := step_law_places T  c24 (by decide) (rdn_law_places 25 (spn_law_places 24) fun m h => by cases h; rfl)
  have c26 := step_law_places T  c25 (by decide) (rdn_law_places 26 (spn_law_places 25) fun m h => by cases h; rfl)
  have c27 := step_law_places T  c26 (by decide) (rdn_law_places 27 (spn_law_places 26) fun m h => by cases h; rfl)
  have c28 := step_law_places T  c27 (by decide) (rdn_law_places 28 (spn_law_places 27) fun m h => by cases h; rfl)
  have c29 := step_law_places T  c28 (by decide) (rdn_law_places 29 (spn_law_places 28) fun m h => by cases h; rfl)
  exact c29

theorem ok_law_member (T : Txt K mg)  : Cal P w K mg base 1 "_law_member" s_law_member ["value", "place"] sp_law_member :=
  calD T.f_law_member sc_law_member fun f cdv A outer s H E hr => ⟨d_law_member, (gss_cons (gs_for (passes_of rfl) rfl (gi_tup (gv 1)) (gg_name (i := 2) sc_law_member.nd rfl (Or.inl rfl))
  (gss_one (gs_set (i := 0) sc_law_member.nd rfl (Or.inl rfl) (ge_ix ix_seq rs_ix (gv 0) (gv 2) (fun _ _ => rfl)))))
  (gss_one (gs_ret (gv 0)))), rd_law_member⟩

theorem step_law_with (T : Txt K mg)  {k : Nat} {sp0 sp1 : SpD} (C_law_with : Cal P w K mg base k "_law_with" s_law_with ["value", "place", "new"] sp0) (hk : 0 ≤ k) (rd : ∀ ds W Qd Qx, ds.length = 3 → sp1 ds W Qd Qx → d_law_with sp0 { nx := fun _ W' => Qd .non W', rt := Qd, ex := fun cls x _ W' => Qx cls x W' } (ds.map (fun d => some (Sl.sh d)) ++ List.replicate (n_law_with.length - ds.length) none) W) : Cal P w K mg base (k + 1) "_law_with" s_law_with ["value", "place", "new"] sp1 :=
  calD T.f_law_with sc_law_with fun f cdv A outer s H E hr => ⟨d_law_with sp0, (gss_cons (gs_if (gt_cmp (op_eqA hr.units) rs_eq (gv 1) (ge_tup ga_nil) (nomark _)) (gss_one (gs_ret (gv 2))) gss_nil)
  (gss_one (gs_ret (ge_op op_addA rs_add (ge_op op_addA rs_add (ge_sl sl_any ss_cut (gv 0) go_none (go_some (ge_ix ix_seq rs_ix (gv 1) ge_int (fun _ _ => rfl)))) (ge_tup (ga_cons (ge_c (takes_of rfl rfl rfl rfl) C_law_with hr (Nat.le_refl _) (ga_cons (ge_ix ix_seq rs_ix (gv 0) (ge_ix ix_seq rs_ix (gv 1) ge_int (fun _ _ => rfl)) (fun _ _ => rfl)) (ga_cons (ge_sl sl_any ss_cut (gv 1) (go_some ge_int) go_none) (ga_cons (gv 2) ga_nil)))) ga_nil))) (ge_sl sl_any ss_cut (gv 0) (go_some (ge_op op_addA rs_add (ge_ix ix_seq rs_ix (gv 1) ge_int (fun _ _ => rfl)) ge_int)) go_none))))), rd⟩
theorem ok_law_with (T : Txt K mg)  : Cal P w K mg base 31 "_law_with" s_law_with ["value", "place", "new"] sp_law_with := by
  have c0 := step_law_with (P := P) (w := w) (base := base) T  (cal_no (k := 1) T.f_law_with) (by decide) (rdn_law_with 0 spNo fun m h => by cases h)
  have c1 := step_law_with T  c0 (by decide) (rdn_law_with 1 (spn_law_with 0) fun m h => by cases h; rfl)
  have c2 := step_law_with T  c1 (by decide) (rdn_law_with 2 (spn_law_with 1) fun m h => by cases h; rfl)
  have c3 := step_law_with T  c2 (by decide) (rdn_law_with 3 (spn_law_with 2) fun m h => by cases h; rfl)
  have c4 := step_law_with T  c3 (by decide) (rdn_law_with 4 (spn_law_with 3) fun m h => by cases h; rfl)
  have c5 := step_law_with T  c4 (by decide) (rdn_law_with 5 (spn_law_with 4) fun m h => by cases h; rfl)
  have c6 := step_law_with T  c5 (by decide) (rdn_law_with 6 (spn_law_with 5) fun m h => by cases h; rfl)
  have c7 := step_law_with T  c6 (by decide) (rdn_law_with 7 (spn_law_with 6) fun m h => by cases h; rfl)
  have c8 := step_law_with T  c7 (by decide) (rdn_law_with 8 (spn_law_with 7) fun m h => by cases h; rfl)
  have c9 := step_law_with T  c8 (by decide) (rdn_law_with 9 (spn_law_with 8) fun m h => by cases h; rfl)
  have c10 := step_law_with T  c9 (by decide) (rdn_law_with 10 (spn_law_with 9) fun m h => by cases h; rfl)
  have c11 := step_law_with T  c10 (by decide) (rdn_law_with 11 (spn_law_with 10) fun m h => by cases h; rfl)
  have c12 := step_law_with T  c11 (by decide) (rdn_law_with 12 (spn_law_with 11) fun m h => by cases h; rfl)
  have c13 := step_law_with T  c12 (by decide) (rdn_law_with 13 (spn_law_with 12) fun m h => by cases h; rfl)
  have c14 := step_law_with T  c13 (by decide) (rdn_law_with 14 (spn_law_with 13) fun m h => by cases h; rfl)
  have c15 := step_law_with T  c14 (by decide) (rdn_law_with 15 (spn_law_with 14) fun m h => by cases h; rfl)
  have c16 := step_law_with T  c15 (by decide) (rdn_law_with 16 (spn_law_with 15) fun m h => by cases h; rfl)
  have c17 := step_law_with T  c16 (by decide) (rdn_law_with 17 (spn_law_with 16) fun m h => by cases h; rfl)
  have c18 := step_law_with T  c17 (by decide) (rdn_law_with 18 (spn_law_with 17) fun m h => by cases h; rfl)
  have c19 := step_law_with T  c18 (by decide) (rdn_law_with 19 (spn_law_with 18) fun m h => by cases h; rfl)
  have c20 := step_law_with T  c19 (by decide) (rdn_law_with 20 (spn_law_with 19) fun m h => by cases h; rfl)
  have c21 := step_law_with T  c20 (by decide) (rdn_law_with 21 (spn_law_with 20) fun m h => by cases h; rfl)
  have c22 := step_law_with T  c21 (by decide) (rdn_law_with 22 (spn_law_with 21) fun m h => by cases h; rfl)
  have c23 := step_law_with T  c22 (by decide) (rdn_law_with 23 (spn_law_with 22) fun m h => by cases h; rfl)
  have c24 := step_law_with T  c23 (by decide) (rdn_law_with 24 (spn_law_with 23) fun m h => by cases h; rfl)
  have c25 := step_law_with T  c24 (by decide) (rdn_law_with 25 (spn_law_with 24) fun m h => by cases h; rfl)
  have c26 := step_law_with T  c25 (by decide) (rdn_law_with 26 (spn_law_with 25) fun m h => by cases h; rfl)
  have c27 := step_law_with T  c26 (by decide) (rdn_law_with 27 (spn_law_with 26) fun m h => by cases h; rfl)
  have c28 := step_law_with T  c27 (by decide) (rdn_law_with 28 (spn_law_with 27) fun m h => by cases h; rfl)
  have c29 := step_law_with T  c28 (by decide) (rdn_law_with 29 (spn_law_with 28) fun m h => by cases h; rfl)
  exact c29

theorem ok_law_bent (T : Txt K mg) (C_law_places : Cal P w K mg base 31 "_law_places" s_law_places ["value", "place"] sp_law_places) (C_law_draw : Cal P w K mg base 1 "_law_draw" s_law_draw ["source", "many"] sp_law_draw) (C_law_member : Cal P w K mg base 1 "_law_member" s_law_member ["value", "place"] sp_law_member) (C_law_with : Cal P w K mg base 31 "_law_with" s_law_with ["value", "place", "new"] sp_law_with) : Cal P w K mg base 32 "_law_bent" s_law_bent ["source", "value"] sp_law_bent :=
  calD T.f_law_bent sc_law_bent fun f cdv A outer s H E hr => ⟨d_law_bent, (gss_cons (gs_set (i := 2) sc_law_bent.nd rfl (Or.inl rfl) (ge_c (takes_of rfl rfl rfl rfl) C_law_places hr (by decide) (ga_cons (gv 1) (ga_cons (ge_tup ga_nil) ga_nil))))
  (gss_cons (gs_set (i := 3) sc_law_bent.nd rfl (Or.inl rfl) (ge_ix ix_seq rs_ix (gv 2) (ge_c (takes_of rfl rfl rfl rfl) C_law_draw hr (by decide) (ga_cons (gv 0) (ga_cons (ge_callB call_len cs_len rfl T.b_len (by decide +kernel) (ga_cons (gv 2) ga_nil)) ga_nil))) (fun _ _ => rfl)))
  (gss_cons (gs_par (i := 4) (j := 5) rfl sc_law_bent.nd rfl rfl (by decide) rfl rfl (ga_cons (ge_c (takes_of rfl rfl rfl rfl) C_law_member hr (by decide) (ga_cons (gv 1) (ga_cons (gv 3) ga_nil))) (ga_cons (ge_c (takes_of rfl rfl rfl rfl) C_law_member hr (by decide) (ga_cons (gv 1) (ga_cons (ge_ix ix_seq rs_ix (gv 2) (ge_c (takes_of rfl rfl rfl rfl) C_law_draw hr (by decide) (ga_cons (gv 0) (ga_cons (ge_callB call_len cs_len rfl T.b_len (by decide +kernel) (ga_cons (gv 2) ga_nil)) ga_nil))) (fun _ _ => rfl)) ga_nil))) ga_nil)) rfl)
  (gss_cons (gs_set (i := 6) sc_law_bent.nd rfl (Or.inl rfl) (ge_lst (ga_cons ge_non (ga_cons ge_bl (ga_cons ge_bl (ga_cons ge_int (ga_cons ge_int (ga_cons (ge_op op_pow rs_I ge_int ge_int) (ga_cons (ge_op op_sub rs_J ge_int (ge_op op_pow rs_I ge_int ge_int)) (ga_cons (ge_op op_sub rs_J (ge_op op_pow rs_I ge_int ge_int) ge_int) (ga_cons ge_str (ga_cons ge_str (ga_cons ge_str (ga_cons ge_str (ga_cons ge_str (ga_cons ge_str (ga_cons (ge_op op_mulAll rs_mulA ge_str ge_int) (ga_cons (ge_op op_mulAll rs_mulA ge_str ge_int) (ga_cons ge_str (ga_cons (ge_tup ga_nil) (ga_cons (ge_lst ga_nil) (ga_cons (ge_lst (ga_cons ge_str ga_nil)) ga_nil))))))))))))))))))))))
  (gss_cons (gs_set (i := 6) sc_law_bent.nd rfl (Or.inl rfl) (ge_op op_addA rs_add (gv 6) (ge_lst (ga_cons ge_str (ga_cons ge_str (ga_cons ge_str (ga_cons ge_str (ga_cons ge_str (ga_cons ge_str (ga_cons ge_str (ga_cons ge_str (ga_cons ge_str (ga_cons ge_str (ga_cons (ge_tup (ga_cons ge_str ga_nil)) (ga_cons (ge_tup (ga_cons ge_str (ga_cons ge_str ga_nil))) (ga_cons (gv 5) (ga_cons (gv 5) (ga_cons (gv 5) ga_nil))))))))))))))))))
  (gss_cons (gs_if (GW.gt (gw_and (gt_val (ge_callB call_isi cs_isi rfl T.b_isinstance (by decide +kernel) (ga_cons (gv 4) (ga_cons (ge_ty T.b_tuple (by decide +kernel)) ga_nil)))) (gw_and1 (gt_cmp (op_neA hr.units) rs_ne (gv 4) (ge_tup ga_nil) (nomark _))))) (gss_cons (gs_set (i := 7) sc_law_bent.nd rfl (Or.inl rfl) (ge_c (takes_of rfl rfl rfl rfl) C_law_draw hr (by decide) (ga_cons (gv 0) (ga_cons (ge_callB call_len cs_len rfl T.b_len (by decide +kernel) (ga_cons (gv 4) ga_nil)) ga_nil))))
  (gss_one (gs_set (i := 6) sc_law_bent.nd rfl (Or.inl rfl) (ge_op op_addA rs_add (ge_sl sl_any ss_cut (gv 6) go_none (go_some ge_int)) (ge_op op_mulAll rs_mulA (ge_lst (ga_cons (ge_op op_addA rs_add (ge_sl sl_any ss_cut (gv 4) go_none (go_some (gv 7))) (ge_sl sl_any ss_cut (gv 4) (go_some (ge_op op_addA rs_add (gv 7) ge_int)) go_none)) (ga_cons (ge_op op_addA rs_add (gv 4) (ge_tup (ga_cons (gv 5) ga_nil))) (ga_cons (ge_revT (gv 4)) (ga_cons (ge_op op_addA rs_add (ge_op op_addA rs_add (ge_sl sl_any ss_cut (gv 4) go_none (go_some (gv 7))) (ge_tup (ga_cons (ge_ix ix_seq rs_ix (gv 4) (gv 7) (fun _ _ => rfl)) ga_nil))) (ge_sl sl_any ss_cut (gv 4) (go_some (gv 7)) go_none)) (ga_cons (ge_callTy call_list_of cs_list rfl T.b_list (by decide +kernel) (ga_cons (gv 4) ga_nil)) (ga_cons (ge_op op_addA rs_add (gv 4) (ge_tup (ga_cons (ge_ix ix_seq rs_ix (gv 4) (gv 7) (fun _ _ => rfl)) ga_nil))) ga_nil))))))) ge_int))))) gss_nil)
  (gss_one (gs_ret (ge_c (takes_of rfl rfl rfl rfl) C_law_with hr (by decide) (ga_cons (gv 1) (ga_cons (gv 3) (ga_cons (ge_ix ix_seq rs_ix (gv 6) (ge_c (takes_of rfl rfl rfl rfl) C_law_draw hr (by decide) (ga_cons (gv 0) (ga_cons (ge_callB call_len cs_len rfl T.b_len (by decide +kernel) (ga_cons (gv 6) ga_nil)) ga_nil))) (fun _ _ => rfl)) ga_nil)))))))))))), rd_law_bent⟩

theorem ok_law_is_value (T : Txt K mg)  : Cal P w K mg base 1 "_law_is_value" s_law_is_value ["value"] sp_law_is_value :=
  calD T.f_law_is_value sc_law_is_value fun f cdv A outer s H E hr => ⟨d_law_is_value, (gss_cons (gs_if (GW.gt (gw_or (gt_cmp op_isA rs_isA (gv 0) ge_non (nomark _)) (gw_or1 (gt_val (ge_callB call_isi cs_isi rfl T.b_isinstance (by decide +kernel) (ga_cons (gv 0) (ga_cons (ge_ty T.b_bool (by decide +kernel)) ga_nil))))))) (gss_one (gs_ret ge_bl)) gss_nil)
  (gss_cons (gs_if (gt_val (ge_callB call_isi cs_isi rfl T.b_isinstance (by decide +kernel) (ga_cons (gv 0) (ga_cons (ge_ty T.b_int (by decide +kernel)) ga_nil)))) (gss_one (gs_ret (ge_chain op_ltA op_ltA rs_cmp rs_cmp (ge_op op_sub rs_J ge_int (ge_op op_pow rs_I ge_int ge_int)) (gv 0) (ge_op op_pow rs_I ge_int ge_int)))) gss_nil)
  (gss_one (gs_ret (ge_and (ge_callB call_isi cs_isi rfl T.b_isinstance (by decide +kernel) (ga_cons (gv 0) (ga_cons (ge_ty T.b_str (by decide +kernel)) ga_nil))) (ge_and (ge_cmp op_leA rs_cmp (ge_callB call_len cs_len rfl T.b_len (by decide +kernel) (ga_cons (gv 0) ga_nil)) ge_int (nomark _)) (ge_one (ge_cmp (op_eqA hr.units) rs_eq (GN.ge (gn_lc [("sign", 1)] rfl sc_law_is_value.nd (gi_str (gv 0)) (blkOk_by (own := [("sign", 1)]) (N := n_law_is_value) (sc := defScope s_law_is_value) (by decide +kernel)) (by decide) (fun _ _ _ _ _ => (gg_name (i := 1) sc_law_is_value.nd rfl (Or.inl rfl))) (fun _ _ _ _ _ => (gts_one (gt_not (gt_chain op_leA op_leA rs_cmp rs_cmp ge_str (gv 1) ge_str)))) (fun _ _ _ _ _ => (gv 1)))) (ge_lst ga_nil) (nomark _))))))))), rd_law_is_value⟩

theorem ok_law_is_name (T : Txt K mg)  : Cal P w K mg base 1 "_law_is_name" s_law_is_name ["value"] sp_law_is_name :=
  calD T.f_law_is_name sc_law_is_name fun f cdv A outer s H E hr => ⟨d_law_is_name, (gss_cons (gs_if (GW.gt (gw_or (gt_not (gt_val (ge_callB call_isi cs_isi rfl T.b_isinstance (by decide +kernel) (ga_cons (gv 0) (ga_cons (ge_ty T.b_str (by decide +kernel)) ga_nil))))) (gw_or1 (gt_not (gt_chain op_ltA op_ltA rs_cmp rs_cmp ge_int (ge_callB call_len cs_len rfl T.b_len (by decide +kernel) (ga_cons (gv 0) ga_nil)) ge_int))))) (gss_one (gs_ret ge_bl)) gss_nil)
  (gss_one (gs_ret (ge_cmp (op_eqA hr.units) rs_eq (GN.ge (gn_lc [("sign", 1)] rfl sc_law_is_name.nd (gi_str (gv 0)) (blkOk_by (own := [("sign", 1)]) (N := n_law_is_name) (sc := defScope s_law_is_name) (by decide +kernel)) (by decide) (fun _ _ _ _ _ => (gg_name (i := 1) sc_law_is_name.nd rfl (Or.inl rfl))) (fun _ _ _ _ _ => (gts_one (gt_cmp (op_niB hr.units) rs_inB (gv 1) ge_str rfl))) (fun _ _ _ _ _ => (gv 1)))) (ge_lst ga_nil) (nomark _))))), rd_law_is_name⟩

theorem step_law_is_condition (T : Txt K mg) (C_law_is_value : Cal P w K mg base 1 "_law_is_value" s_law_is_value ["value"] sp_law_is_value) {k : Nat} {sp0 sp1 : SpD} (C_law_is_condition : Cal P w K mg base k "_law_is_condition" s_law_is_condition ["columns", "value", "left"] sp0) (hk : 1 ≤ k) (rd : ∀ ds W Qd Qx, ds.length = 3 → sp1 ds W Qd Qx → d_law_is_condition sp0 { nx := fun _ W' => Qd .non W', rt := Qd, ex := fun cls x _ W' => Qx cls x W' } (ds.map (fun d => some (Sl.sh d)) ++ List.replicate (n_law_is_condition.length - ds.length) none) W) : Cal P w K mg base (k + 1) "_law_is_condition" s_law_is_condition ["columns", "value", "left"] sp1 :=
  calD T.f_law_is_condition sc_law_is_condition fun f cdv A outer s H E hr => ⟨d_law_is_condition sp0, (gss_cons (gs_if (GW.gt (gw_or (gt_cmp (op_eqA hr.units) rs_eq (gv 2) ge_int (nomark _)) (gw_or (gt_not (gt_val (ge_callB call_isi cs_isi rfl T.b_isinstance (by decide +kernel) (ga_cons (gv 1) (ga_cons (ge_ty T.b_tuple (by decide +kernel)) ga_nil))))) (gw_or (gt_cmp (op_eqA hr.units) rs_eq (gv 1) (ge_tup ga_nil) (nomark _)) (gw_or1 (gt_not (gt_val (ge_callB call_isi cs_isi rfl T.b_isinstance (by decide +kernel) (ga_cons (ge_ix ix_seq rs_ix (gv 1) ge_int (fun _ _ => rfl)) (ga_cons (ge_ty T.b_str (by decide +kernel)) ga_nil)))))))))) (gss_one (gs_ret ge_bl)) gss_nil)
  (gss_cons (gs_par (i := 3) (j := 4) rfl sc_law_is_condition.nd rfl rfl (by decide) rfl rfl (ga_cons (ge_ix ix_seq rs_ix (gv 1) ge_int (fun _ _ => rfl)) (ga_cons (ge_sl sl_any ss_cut (gv 1) (go_some ge_int) go_none) ga_nil)) rfl)
  (gss_cons (gs_if (gt_cmp (op_inB hr.units) rs_inB (gv 3) (ge_tup (ga_cons ge_str (ga_cons ge_str (ga_cons ge_str ga_nil)))) rfl) (gss_cons (gs_if (gt_cmp (op_neA hr.units) rs_ne (ge_callB call_len cs_len rfl T.b_len (by decide +kernel) (ga_cons (gv 4) ga_nil)) (ge_op op_sub rs_J ge_int (ge_callTy call_intA cs_int rfl T.b_int (by decide +kernel) (ga_cons (ge_cmp (op_eqA hr.units) rs_eq (gv 3) ge_str (nomark _)) ga_nil))) (nomark _)) (gss_one (gs_ret ge_bl)) gss_nil)
  (gss_one (gs_ret (ge_cmp (op_eqA hr.units) rs_eq (GN.ge (gn_lc [("part", 5)] rfl sc_law_is_condition.nd (gi_tup (gv 4)) (blkOk_by (own := [("part", 5)]) (N := n_law_is_condition) (sc := defScope s_law_is_condition) (by decide +kernel)) (by decide) (fun _ _ _ _ _ => (gg_name (i := 5) sc_law_is_condition.nd rfl (Or.inl rfl))) (fun _ _ _ _ _ => (gts_one (gt_not (gt_val (ge_c takes0 C_law_is_condition hr (Nat.le_refl _) (ga_cons (gv 0) (ga_cons (gv 5) (ga_cons (ge_op op_sub rs_J (gv 2) ge_int) ga_nil)))))))) (fun _ _ _ _ _ => (gv 5)))) (ge_lst ga_nil) (nomark _))))) gss_nil)
  (gss_cons (gs_if (GW.gt (gw_or (gt_cmp (op_niB hr.units) rs_inB (gv 3) (ge_tup (ga_cons ge_str (ga_cons ge_str (ga_cons ge_str (ga_cons ge_str ga_nil))))) rfl) (gw_or1 (gt_cmp (op_neA hr.units) rs_ne (ge_callB call_len cs_len rfl T.b_len (by decide +kernel) (ga_cons (gv 4) ga_nil)) (ge_op op_sub rs_J ge_int (ge_callTy call_intA cs_int rfl T.b_int (by decide +kernel) (ga_cons (ge_cmp (op_eqA hr.units) rs_eq (gv 3) ge_str (nomark _)) ga_nil))) (nomark _))))) (gss_one (gs_ret ge_bl)) gss_nil)
  (gss_one (gs_ret (ge_and (ge_callB call_isi cs_isi rfl T.b_isinstance (by decide +kernel) (ga_cons (ge_ix ix_seq rs_ix (gv 4) ge_int (fun _ _ => rfl)) (ga_cons (ge_ty T.b_str (by decide +kernel)) ga_nil))) (ge_and (ge_cmp (op_inB hr.units) rs_inB (ge_ix ix_seq rs_ix (gv 4) ge_int (fun _ _ => rfl)) (gv 0) rfl) (ge_one (ge_or (ge_cmp (op_eqA hr.units) rs_eq (gv 3) ge_str (nomark _)) (ge_one (ge_c (takes_of rfl rfl rfl rfl) C_law_is_value hr (by omega) (ga_cons (ge_ix ix_seq rs_ix (gv 4) ge_int (fun _ _ => rfl)) ga_nil))))))))))))), rd⟩
theorem ok_law_is_condition (T : Txt K mg) (C_law_is_value : Cal P w K mg base 1 "_law_is_value" s_law_is_value ["value"] sp_law_is_value) : Cal P w K mg base 14 "_law_is_condition" s_law_is_condition ["columns", "value", "left"] sp_law_is_condition := by
  have c0 := step_law_is_condition (P := P) (w := w) (base := base) T C_law_is_value (cal_no (k := 1) T.f_law_is_condition) (by decide) (rdn_law_is_condition 0 spNo fun m h => by cases h)
  have c1 := step_law_is_condition T C_law_is_value c0 (by decide) (rdn_law_is_condition 1 (spn_law_is_condition 0) fun m h => by cases h; rfl)
  have c2 := step_law_is_condition T C_law_is_value c1 (by decide) (rdn_law_is_condition 2 (spn_law_is_condition 1) fun m h => by cases h; rfl)
  have c3 := step_law_is_condition T C_law_is_value c2 (by decide) (rdn_law_is_condition 3 (spn_law_is_condition 2) fun m h => by cases h; rfl)
  have c4 := step_law_is_condition T C_law_is_value c3 (by decide) (rdn_law_is_condition 4 (spn_law_is_condition 3) fun m h => by cases h; rfl)
  have c5 := step_law_is_condition T C_law_is_value c4 (by decide) (rdn_law_is_condition 5 (spn_law_is_condition 4) fun m h => by cases h; rfl)
  have c6 := step_law_is_condition T C_law_is_value c5 (by decide) (rdn_law_is_condition 6 (spn_law_is_condition 5) fun m h => by cases h; rfl)
  have c7 := step_law_is_condition T C_law_is_value c6 (by decide) (rdn_law_is_condition 7 (spn_law_is_condition 6) fun m h => by cases h; rfl)
  have c8 := step_law_is_condition T C_law_is_value c7 (by decide) (rdn_law_is_condition 8 (spn_law_is_condition 7) fun m h => by cases h; rfl)
  have c9 := step_law_is_condition T C_law_is_value c8 (by decide) (rdn_law_is_condition 9 (spn_law_is_condition 8) fun m h => by cases h; rfl)
  have c10 := step_law_is_condition T C_law_is_value c9 (by decide) (rdn_law_is_condition 10 (spn_law_is_condition 9) fun m h => by cases h; rfl)
  have c11 := step_law_is_condition T C_law_is_value c10 (by decide) (rdn_law_is_condition 11 (spn_law_is_condition 10) fun m h => by cases h; rfl)
  have c12 := step_law_is_condition T C_law_is_value c11 (by decide) (rdn_law_is_condition 12 (spn_law_is_condition 11) fun m h => by cases h; rfl)
  exact c12

theorem ok_law_deep (T : Txt K mg) (C_law_draw : Cal P w K mg base 1 "_law_draw" s_law_draw ["source", "many"] sp_law_draw) (C_law_condition : Cal P w K mg base 7 "_law_condition" s_law_condition ["source", "columns", "left"] sp_law_condition) : Cal P w K mg base 8 "_law_deep" s_law_deep ["source", "columns", "condition"] sp_law_deep :=
  calD T.f_law_deep sc_law_deep fun f cdv A outer s H E hr => ⟨d_law_deep, (gss_cons (gs_for (passes_of rfl) rfl (gi_range1 rfl T.b_range (ga_cons (ge_ix ix_seq rs_ix (ge_lst (ga_cons ge_int (ga_cons ge_int (ga_cons ge_int (ga_cons ge_int (ga_cons ge_int (ga_cons ge_int ga_nil))))))) (ge_c (takes_of rfl rfl rfl rfl) C_law_draw hr (by decide) (ga_cons (gv 0) (ga_cons ge_int ga_nil))) (fun _ _ => rfl)) ga_nil)) (gg_name (i := 3) sc_law_deep.nd rfl (Or.inl rfl))
  (gss_cons (gs_set (i := 4) sc_law_deep.nd rfl (Or.inl rfl) (ge_c (takes_of rfl rfl rfl rfl) C_law_condition hr (by decide) (ga_cons (gv 0) (ga_cons (gv 1) (ga_cons ge_int ga_nil)))))
  (gss_one (gs_set (i := 2) sc_law_deep.nd rfl (Or.inl rfl) (ge_ix ix_seq rs_ix (ge_lst (ga_cons (ge_tup (ga_cons ge_str (ga_cons (gv 2) ga_nil))) (ga_cons (ge_tup (ga_cons ge_str (ga_cons (gv 4) (ga_cons (gv 2) ga_nil)))) (ga_cons (ge_tup (ga_cons ge_str (ga_cons (gv 2) (ga_cons (gv 4) ga_nil)))) ga_nil)))) (ge_c (takes_of rfl rfl rfl rfl) C_law_draw hr (by decide) (ga_cons (gv 0) (ga_cons ge_int ga_nil))) (fun _ _ => rfl))))))
  (gss_one (gs_ret (gv 2)))), rd_law_deep⟩

theorem ok_law_told (T : Txt K mg) (C_is_condition : Cal P w K mg base 17 "is_condition" s_is_condition ["columns", "value"] sp_is_condition) (C_truth_of : Cal P w K mg base 18 "truth_of" s_truth_of ["columns", "condition", "row"] sp_truth_of) (C_meets : Cal P w K mg base 19 "meets" s_meets ["columns", "condition", "row"] sp_meets) : Cal P w K mg base 20 "_law_told" s_law_told ["act", "columns", "condition", "row"] sp_law_told :=
  calD T.f_law_told sc_law_told fun f cdv A outer s H E hr => ⟨d_law_told, (gss_cons (gs_set (i := 4) sc_law_told.nd rfl (Or.inl rfl) ge_str)
  (gss_cons (gs_try rfl rfl (takes_of rfl rfl rfl rfl) (fun _ _ _ tk hp => (gss_one (gs_if (gt_cmp (op_eqA hr.units) rs_eq (gv 0) ge_str (nomark _)) (gss_one (gs_set (i := 4) sc_law_told.nd rfl (Or.inl rfl) (ge_tup (ga_cons ge_str (ga_cons (ge_c tk C_is_condition hr (by decide) (ga_cons (gv 1) (ga_cons (gv 2) ga_nil))) ga_nil))))) (gss_one (gs_if (gt_cmp (op_eqA hr.units) rs_eq (gv 0) ge_str (nomark _)) (gss_one (gs_set (i := 4) sc_law_told.nd rfl (Or.inl rfl) (ge_tup (ga_cons ge_str (ga_cons (ge_ckx (ks := ["row", "condition", "columns"]) tk [2, 1, 0] C_truth_of hr (by decide) (fun _ _ _ _ _ _ ws hl => match ws, hl with | [_, _, _], _ => rfl) (gk_cons (gv 3) (gk_cons (gv 2) (gk_cons (gv 1) gk_nil)))) ga_nil))))) (gss_one (gs_set (i := 4) sc_law_told.nd rfl (Or.inl rfl) (ge_tup (ga_cons ge_str (ga_cons (ge_ckx (ks := ["row", "condition", "columns"]) tk [2, 1, 0] C_meets hr (by decide) (fun _ _ _ _ _ _ ws hl => match ws, hl with | [_, _, _], _ => rfl) (gk_cons (gv 3) (gk_cons (gv 2) (gk_cons (gv 1) gk_nil)))) ga_nil)))))))))) (.named ⟨rfl, by decide, .inl T.x_InvalidCondition.mg⟩ sc_law_told.nd rfl rfl (al1 T.m_InvalidCondition_InvalidCondition al0) (al1 T.m_InvalidRow_InvalidCondition al0) (fun _ _ => (gss_one (gs_set (i := 4) sc_law_told.nd rfl (Or.inl rfl) (ge_tup (ga_cons ge_str (ga_cons (ge_isE (l := [(.ref a_InvalidCondition, true), (.ref a_InvalidRow, true)]) (al1q T.i_InvalidCondition_StoreError (al1q T.i_InvalidRow_StoreError al0q)) T.x_StoreError.mg T.b_isinstance (gv 5)) ga_nil)))))) (.named ⟨rfl, by decide, .inl T.x_InvalidRow.mg⟩ sc_law_told.nd rfl rfl (al1 T.m_InvalidRow_InvalidRow al0) (al1 T.m_InvalidCondition_InvalidRow al0) (fun _ _ => (gss_one (gs_set (i := 4) sc_law_told.nd rfl (Or.inl rfl) (ge_tup (ga_cons ge_str (ga_cons (ge_isE (l := [(.ref a_InvalidCondition, true), (.ref a_InvalidRow, true)]) (al1q T.i_InvalidCondition_StoreError (al1q T.i_InvalidRow_StoreError al0q)) T.x_StoreError.mg T.b_isinstance (gv 5)) ga_nil)))))) .nil)))
  (gss_one (gs_ret (gv 4))))), rd_law_told⟩

theorem ok_law_any_row (T : Txt K mg) (C_law_draw : Cal P w K mg base 1 "_law_draw" s_law_draw ["source", "many"] sp_law_draw) (C_law_value : Cal P w K mg base 3 "_law_value" s_law_value ["source", "kind"] sp_law_value) : Cal P w K mg base 4 "_law_any_row" s_law_any_row ["source", "columns"] sp_law_any_row :=
  calD T.f_law_any_row sc_law_any_row fun f cdv A outer s H E hr => ⟨d_law_any_row, (gss_cons (gs_setO (i := 2) sc_law_any_row.nd rfl (Or.inl rfl) (gn_lst ga_nil))
  (gss_cons (gs_for (passes_of rfl) rfl (gi_list (gv 1)) (gg_tup rfl (ggs_cons (gg_name (i := 3) sc_law_any_row.nd rfl (Or.inl rfl)) (ggs_cons (gg_name (i := 4) sc_law_any_row.nd rfl (Or.inl rfl)) (ggs_cons (gg_name (i := 5) sc_law_any_row.nd rfl (Or.inl rfl)) ggs_nil))))
  (gss_cons (gs_set (i := 6) sc_law_any_row.nd rfl (Or.inl rfl) (ge_if (gt_cmp (op_eqA hr.units) rs_eq (ge_c (takes_of rfl rfl rfl rfl) C_law_draw hr (by decide) (ga_cons (gv 0) (ga_cons ge_int ga_nil))) ge_int (nomark _)) (ge_ix ix_seq rs_ix (ge_lst (ga_cons ge_str (ga_cons ge_str (ga_cons ge_str ga_nil)))) (ge_c (takes_of rfl rfl rfl rfl) C_law_draw hr (by decide) (ga_cons (gv 0) (ga_cons ge_int ga_nil))) (fun _ _ => rfl)) (gv 4)))
  (gss_one (gs_app (i := 2) (ge_if (gt_cmp (op_eqA hr.units) rs_eq (ge_c (takes_of rfl rfl rfl rfl) C_law_draw hr (by decide) (ga_cons (gv 0) (ga_cons ge_int ga_nil))) ge_int (nomark _)) ge_non (ge_c (takes_of rfl rfl rfl rfl) C_law_value hr (by decide) (ga_cons (gv 0) (ga_cons (gv 6) ga_nil))))))))
  (gss_frz 2 (gss_one (gs_ret (ge_callTy call_tuple_of cs_tup rfl T.b_tuple (by decide +kernel) (ga_cons (gv 2) ga_nil))))))), rd_law_any_row⟩

theorem ok_law_odd_row (T : Txt K mg) (C_law_draw : Cal P w K mg base 1 "_law_draw" s_law_draw ["source", "many"] sp_law_draw) : Cal P w K mg base 2 "_law_odd_row" s_law_odd_row ["source", "row"] sp_law_odd_row :=
  calD T.f_law_odd_row sc_law_odd_row fun f cdv A outer s H E hr => ⟨d_law_odd_row, (gss_cons (gs_set (i := 2) sc_law_odd_row.nd rfl (Or.inl rfl) (ge_ix ix_seq rs_ix (ge_lst (ga_cons (ge_op op_pow rs_I ge_int ge_int) (ga_cons (ge_op op_mulAll rs_mulA ge_str ge_int) (ga_cons ge_str (ga_cons (ge_tup ga_nil) (ga_cons (ge_lst ga_nil) (ga_cons (GD.ge gd_emp) ga_nil))))))) (ge_c (takes_of rfl rfl rfl rfl) C_law_draw hr (by decide) (ga_cons (gv 0) (ga_cons ge_int ga_nil))) (fun _ _ => rfl)))
  (gss_one (gs_ret (ge_ix ix_seq rs_ix (ge_lst (ga_cons (ge_op op_addA rs_add (gv 1) (ge_tup (ga_cons ge_int ga_nil))) (ga_cons (ge_sl sl_any ss_cut (gv 1) (go_some ge_int) go_none) (ga_cons (ge_callTy call_list_of cs_list rfl T.b_list (by decide +kernel) (ga_cons (gv 1) ga_nil)) (ga_cons ge_non (ga_cons (ge_op op_addA rs_add (ge_sl sl_any ss_cut (gv 1) go_none (go_some (ge_neg ge_int))) (ge_tup (ga_cons (gv 2) ga_nil))) (ga_cons ge_str (ga_cons ge_int (ga_cons (ge_op op_addA rs_add (ge_tup (ga_cons (gv 2) ga_nil)) (ge_sl sl_any ss_cut (gv 1) (go_some ge_int) go_none)) ga_nil))))))))) (ge_c (takes_of rfl rfl rfl rfl) C_law_draw hr (by decide) (ga_cons (gv 0) (ga_cons ge_int ga_nil))) (fun _ _ => rfl))))), rd_law_odd_row⟩

theorem ok_law_right (T : Txt K mg) (C_law_words : Cal P w K mg base 3 "_law_words" s_law_words ["source", "many", "banned"] sp_law_words) (C_law_draw : Cal P w K mg base 1 "_law_draw" s_law_draw ["source", "many"] sp_law_draw) (C_law_deep : Cal P w K mg base 8 "_law_deep" s_law_deep ["source", "columns", "condition"] sp_law_deep) (C_law_condition : Cal P w K mg base 7 "_law_condition" s_law_condition ["source", "columns", "left"] sp_law_condition) (C_law_bent : Cal P w K mg base 32 "_law_bent" s_law_bent ["source", "value"] sp_law_bent) (C_law_is_condition : Cal P w K mg base 14 "_law_is_condition" s_law_is_condition ["columns", "value", "left"] sp_law_is_condition) (C_law_same : Cal P w K mg base 5 "_law_same" s_law_same ["found", "due"] sp_law_same) (C_is_condition : Cal P w K mg base 17 "is_condition" s_is_condition ["columns", "value"] sp_is_condition) (C_law_any_row : Cal P w K mg base 4 "_law_any_row" s_law_any_row ["source", "columns"] sp_law_any_row) (C_law_truths : Cal P w K mg base 14 "_law_truths" s_law_truths ["names", "condition", "row"] sp_law_truths) (C_law_told : Cal P w K mg base 20 "_law_told" s_law_told ["act", "columns", "condition", "row"] sp_law_told) (C_law_odd_row : Cal P w K mg base 2 "_law_odd_row" s_law_odd_row ["source", "row"] sp_law_odd_row) (C_law_is_value : Cal P w K mg base 1 "_law_is_value" s_law_is_value ["value"] sp_law_is_value) (C_meets : Cal P w K mg base 19 "meets" s_meets ["columns", "condition", "row"] sp_meets) (C_truth_of : Cal P w K mg base 18 "truth_of" s_truth_of ["columns", "condition", "row"] sp_truth_of) (C_law_word : Cal P w K mg base 2 "_law_word" s_law_word ["source"] sp_law_word) (C_law_is_name : Cal P w K mg base 1 "_law_is_name" s_law_is_name ["value"] sp_law_is_name) (C_is_name : Cal P w K mg base 1 "is_name" s_is_name ["value"] sp_is_name) : Cal P w K mg base 33 "_law_right" s_law_right ["source"] sp_law_right :=
  calD T.f_law_right sc_law_right fun f cdv A outer s H E hr => ⟨d_law_right, (gss_cons (gs_set (i := 1) sc_law_right.nd rfl (Or.inl rfl) (ge_callTy cr_tupF cs_tupF rfl T.b_tuple (by decide +kernel) (ga_cons (ge_c (takes_of rfl rfl rfl rfl) C_law_words hr (by decide) (ga_cons (gv 0) (ga_cons (ge_op op_addA rs_add ge_int (ge_c (takes_of rfl rfl rfl rfl) C_law_draw hr (by decide) (ga_cons (gv 0) (ga_cons ge_int ga_nil)))) (ga_cons (ge_lst ga_nil) ga_nil)))) ga_nil)))
  (gss_cons (gs_setLc (k := 2) [("word", 14)] rfl sc_law_right.nd rfl rfl (sw_true rfl rfl rfl (by decide +kernel)) (gi_tup (ge_wk (gv 1))) (blkOk_by (own := [("word", 14)]) (N := n_law_right) (sc := defScope s_law_right) (by decide +kernel)) (by decide) (fun _ _ _ _ _ => (gg_name (i := 14) sc_law_right.nd rfl (Or.inl rfl))) (fun _ _ _ _ _ => gts_nil) (fun _ _ _ _ _ => (ge_tup (ga_cons (gv 14) (ga_cons (ge_ix ix_seq rs_ix (ge_lst (ga_cons ge_str (ga_cons ge_str (ga_cons ge_str ga_nil)))) (ge_c takes0 C_law_draw hr (by decide) (ga_cons (gv 0) (ga_cons ge_int ga_nil))) (fun _ _ => rfl)) (ga_cons ge_bl ga_nil))))))
  (gss_cons (gs_set (i := 3) sc_law_right.nd rfl (Or.inl rfl) (ge_c (takes_of rfl rfl rfl rfl) C_law_deep hr (by decide) (ga_cons (gv 0) (ga_cons (gv 2) (ga_cons (ge_c (takes_of rfl rfl rfl rfl) C_law_condition hr (by decide) (ga_cons (gv 0) (ga_cons (gv 2) (ga_cons ge_int ga_nil)))) ga_nil)))))
  (gss_cons (gs_if (gt_cmp (op_eqA hr.units) rs_eq (ge_c (takes_of rfl rfl rfl rfl) C_law_draw hr (by decide) (ga_cons (gv 0) (ga_cons ge_int ga_nil))) ge_int (nomark _)) (gss_one (gs_set (i := 3) sc_law_right.nd rfl (Or.inl rfl) (ge_c (takes_of rfl rfl rfl rfl) C_law_bent hr (by decide) (ga_cons (gv 0) (ga_cons (gv 3) ga_nil))))) gss_nil)
  (gss_cons (gs_set (i := 3) sc_law_right.nd rfl (Or.inl rfl) (ge_if (gt_cmp op_isA rs_isA (gv 3) ge_non (nomark _)) (ge_tup ga_nil) (gv 3)))
  (gss_cons (gs_par (i := 4) (j := 5) rfl sc_law_right.nd rfl rfl (by decide) rfl rfl (ga_cons (ge_c (takes_of rfl rfl rfl rfl) C_law_is_condition hr (by decide) (ga_cons (ge_wk (gv 1)) (ga_cons (gv 3) (ga_cons ge_int ga_nil)))) (ga_cons (ge_callB (cr_repr hr.toRoom.units hr.gd) cs_repr rfl T.b_repr (by decide +kernel) (ga_cons (gv 3) ga_nil)) ga_nil)) rfl)
  (gss_cons (gs_if (gt_not (gt_val (ge_c (takes_of rfl rfl rfl rfl) C_law_same hr (by decide) (ga_cons (ge_lst (ga_cons (ge_c (takes_of rfl rfl rfl rfl) C_is_condition hr (by decide) (ga_cons (gv 1) (ga_cons (gv 3) ga_nil))) (ga_cons (ge_ckx (ks := ["value", "columns"]) (takes_of rfl rfl rfl rfl) [1, 0] C_is_condition hr (by decide) (fun _ _ _ _ _ _ ws hl => match ws, hl with | [_, _], _ => rfl) (gk_cons (gv 3) (gk_cons (gv 1) gk_nil))) ga_nil))) (ga_cons (ge_lst (ga_cons (gv 4) (ga_cons (gv 4) ga_nil))) ga_nil))))) (gss_one (gs_ret ge_bl)) gss_nil)
  (gss_cons (gs_for (passes_of rfl) rfl (gi_range1 rfl T.b_range (ga_cons ge_int ga_nil)) (gg_name (i := 6) sc_law_right.nd rfl (Or.inl rfl))
  (gss_cons (gs_set (i := 7) sc_law_right.nd rfl (Or.inl rfl) (ge_c (takes_of rfl rfl rfl rfl) C_law_any_row hr (by decide) (ga_cons (gv 0) (ga_cons (gv 2) ga_nil))))
  (gss_cons (gs_asg (ge_if (gt_val (gv 4)) (ge_c (takes_of rfl rfl rfl rfl) C_law_truths hr (by decide) (ga_cons (ge_callTy call_list_of cs_list rfl T.b_list (by decide +kernel) (ga_cons (ge_wk (gv 1)) ga_nil)) (ga_cons (gv 3) (ga_cons (gv 7) ga_nil)))) (ge_tup (ga_cons ge_bl (ga_cons ge_bl ga_nil)))) (gg_tup rfl (ggs_cons (gg_name (i := 8) sc_law_right.nd rfl (Or.inl rfl)) (ggs_cons (gg_name (i := 9) sc_law_right.nd rfl (Or.inl rfl)) ggs_nil))))
  (gss_cons (gs_set (i := 10) sc_law_right.nd rfl (Or.inl rfl) (ge_if (gt_val (gv 4)) (ge_tup (ga_cons ge_str (ga_cons (ge_if (gt_val (gv 8)) ge_bl (ge_if (gt_val (gv 9)) ge_bl ge_non)) ga_nil))) (ge_tup (ga_cons ge_str (ga_cons ge_bl ga_nil)))))
  (gss_cons (gs_if (gt_not (gt_val (ge_c (takes_of rfl rfl rfl rfl) C_law_same hr (by decide) (ga_cons (ge_c (takes_of rfl rfl rfl rfl) C_law_told hr (by decide) (ga_cons ge_str (ga_cons (gv 1) (ga_cons (gv 3) (ga_cons (gv 7) ga_nil))))) (ga_cons (gv 10) ga_nil))))) (gss_one (gs_ret ge_bl)) gss_nil)
  (gss_cons (gs_if (gt_not (gt_val (ge_c (takes_of rfl rfl rfl rfl) C_law_same hr (by decide) (ga_cons (ge_c (takes_of rfl rfl rfl rfl) C_law_told hr (by decide) (ga_cons ge_str (ga_cons (gv 1) (ga_cons (gv 3) (ga_cons (gv 7) ga_nil))))) (ga_cons (ge_if (gt_val (gv 4)) (ge_tup (ga_cons ge_str (ga_cons (gv 8) ga_nil))) (ge_tup (ga_cons ge_str (ga_cons ge_bl ga_nil)))) ga_nil))))) (gss_one (gs_ret ge_bl)) gss_nil)
  (gss_cons (gs_set (i := 11) sc_law_right.nd rfl (Or.inl rfl) (ge_c (takes_of rfl rfl rfl rfl) C_law_odd_row hr (by decide) (ga_cons (gv 0) (ga_cons (gv 7) ga_nil))))
  (gss_cons (gs_if (GW.gt (gw_or (gt_not (gt_val (ge_callB call_isi cs_isi rfl T.b_isinstance (by decide +kernel) (ga_cons (gv 11) (ga_cons (ge_ty T.b_tuple (by decide +kernel)) ga_nil))))) (gw_or (gt_cmp (op_neA hr.units) rs_ne (ge_callB call_len cs_len rfl T.b_len (by decide +kernel) (ga_cons (gv 11) ga_nil)) (ge_callB call_len cs_len rfl T.b_len (by decide +kernel) (ga_cons (ge_wk (gv 1)) ga_nil)) (nomark _)) (gw_or1 (gt_cmp (op_neE hr.units) rs_neE (GN.ge (gn_lc [("one", 15)] rfl sc_law_right.nd (gi_tup (gv 11)) (blkOk_by (own := [("one", 15)]) (N := n_law_right) (sc := defScope s_law_right) (by decide +kernel)) (by decide) (fun _ _ _ _ _ => (gg_name (i := 15) sc_law_right.nd rfl (Or.inl rfl))) (fun _ _ _ _ _ => (gts_one (gt_not (gt_val (ge_c takes0 C_law_is_value hr (by decide) (ga_cons (gv 15) ga_nil)))))) (fun _ _ _ _ _ => (gv 15)))) (ge_lst ga_nil) (nomark _)))))) (gss_one (gs_if (gt_not (gt_val (ge_c (takes_of rfl rfl rfl rfl) C_law_same hr (by decide) (ga_cons (ge_c (takes_of rfl rfl rfl rfl) C_law_told hr (by decide) (ga_cons (ge_ix ix_seq rs_ix (ge_lst (ga_cons ge_str (ga_cons ge_str ga_nil))) (ge_op op_mod rs_I (gv 6) ge_int) (fun _ _ => rfl)) (ga_cons (gv 1) (ga_cons (gv 3) (ga_cons (gv 11) ga_nil))))) (ga_cons (ge_tup (ga_cons (ge_if (gt_val (gv 4)) ge_str ge_str) (ga_cons ge_bl ga_nil))) ga_nil))))) (gss_one (gs_ret ge_bl)) gss_nil)) gss_nil)
  (gss_cons (gs_if (gt_not (gt_val (ge_c (takes_of rfl rfl rfl rfl) C_law_same hr (by decide) (ga_cons (ge_lst (ga_cons (ge_c (takes_of rfl rfl rfl rfl) C_truth_of hr (by decide) (ga_cons (gv 1) (ga_cons ge_non (ga_cons (gv 7) ga_nil)))) (ga_cons (ge_c (takes_of rfl rfl rfl rfl) C_meets hr (by decide) (ga_cons (gv 1) (ga_cons ge_non (ga_cons (gv 7) ga_nil)))) ga_nil))) (ga_cons (ge_lst (ga_cons ge_bl (ga_cons ge_bl ga_nil))) ga_nil))))) (gss_one (gs_ret ge_bl)) gss_nil)
  (gss_one (gs_if (gt_not (gt_val (ge_c (takes_of rfl rfl rfl rfl) C_law_same hr (by decide) (ga_cons (ge_c (takes_of rfl rfl rfl rfl) C_law_told hr (by decide) (ga_cons (ge_ix ix_seq rs_ix (ge_lst (ga_cons ge_str (ga_cons ge_str ga_nil))) (ge_op op_mod rs_I (gv 6) ge_int) (fun _ _ => rfl)) (ga_cons (gv 1) (ga_cons ge_non (ga_cons (ge_op op_addA rs_add (gv 7) (ge_tup (ga_cons ge_int ga_nil))) ga_nil))))) (ga_cons (ge_tup (ga_cons ge_str (ga_cons ge_bl ga_nil))) ga_nil))))) (gss_one (gs_ret ge_bl)) gss_nil)))))))))))
  (gss_cons (gs_set (i := 12) sc_law_right.nd rfl (Or.inl rfl) (ge_ix ix_seq rs_ix (ge_lst (ga_cons (ge_tup (ga_cons ge_str (ga_cons ge_str ga_nil))) (ga_cons (ge_lst (ga_cons ge_str ga_nil)) (ga_cons ge_non (ga_cons (ge_tup (ga_cons ge_str ga_nil)) (ga_cons ge_int (ga_cons (ge_tup (ga_cons ge_str ga_nil)) (ga_cons (ge_tup (ga_cons ge_str (ga_cons ge_non ga_nil))) ga_nil)))))))) (ge_c (takes_of rfl rfl rfl rfl) C_law_draw hr (by decide) (ga_cons (gv 0) (ga_cons ge_int ga_nil))) (fun _ _ => rfl)))
  (gss_cons (gs_set (i := 13) sc_law_right.nd rfl (Or.inl rfl) (ge_lst (ga_cons (ge_c (takes_of rfl rfl rfl rfl) C_law_told hr (by decide) (ga_cons ge_str (ga_cons (gv 12) (ga_cons ge_non (ga_cons (ge_tup ga_nil) ga_nil))))) (ga_cons (ge_c (takes_of rfl rfl rfl rfl) C_law_told hr (by decide) (ga_cons ge_str (ga_cons (gv 12) (ga_cons (gv 3) (ga_cons (ge_tup (ga_cons ge_int ga_nil)) ga_nil))))) (ga_cons (ge_c (takes_of rfl rfl rfl rfl) C_law_told hr (by decide) (ga_cons ge_str (ga_cons (gv 12) (ga_cons (gv 3) (ga_cons (ge_tup ga_nil) ga_nil))))) ga_nil)))))
  (gss_cons (gs_if (gt_not (gt_val (ge_c (takes_of rfl rfl rfl rfl) C_law_same hr (by decide) (ga_cons (gv 13) (ga_cons (ge_op op_mulAll rs_mulA (ge_lst (ga_cons (ge_tup (ga_cons ge_str (ga_cons ge_bl ga_nil))) ga_nil)) ge_int) ga_nil))))) (gss_one (gs_ret ge_bl)) gss_nil)
  (gss_cons (gs_set (i := 14) sc_law_right.nd rfl (Or.inl rfl) (ge_ix ix_seq rs_ix (ge_lst (ga_cons (ge_c (takes_of rfl rfl rfl rfl) C_law_word hr (by decide) (ga_cons (gv 0) ga_nil)) (ga_cons ge_str (ga_cons ge_str (ga_cons ge_str (ga_cons ge_str (ga_cons (ge_op op_mulAll rs_mulA ge_str ge_int) (ga_cons ge_int (ga_cons ge_non (ga_cons (ge_tup (ga_cons ge_str ga_nil)) (ga_cons ge_str (ga_cons ge_str ga_nil)))))))))))) (ge_c (takes_of rfl rfl rfl rfl) C_law_draw hr (by decide) (ga_cons (gv 0) (ga_cons ge_int ga_nil))) (fun _ _ => rfl)))
  (gss_one (gs_ret (ge_and (ge_c (takes_of rfl rfl rfl rfl) C_law_same hr (by decide) (ga_cons (ge_lst (ga_cons (ge_c (takes_of rfl rfl rfl rfl) C_is_name hr (by decide) (ga_cons (gv 14) ga_nil)) (ga_cons (ge_ckx (ks := ["value"]) (takes_of rfl rfl rfl rfl) [0] C_is_name hr (by decide) (fun _ _ _ _ _ _ ws hl => match ws, hl with | [_], _ => rfl) (gk_cons (gv 14) gk_nil)) ga_nil))) (ga_cons (ge_op op_mulAll rs_mulA (ge_lst (ga_cons (ge_c (takes_of rfl rfl rfl rfl) C_law_is_name hr (by decide) (ga_cons (gv 14) ga_nil)) ga_nil)) ge_int) ga_nil))) (ge_one (ge_cmp (op_eqA hr.units) rs_eq (ge_callB (cr_repr hr.toRoom.units hr.gd) cs_repr rfl T.b_repr (by decide +kernel) (ga_cons (gv 3) ga_nil)) (gv 5) (nomark _)))))))))))))))))), rd_law_right⟩

theorem ok_law (T : Txt K mg) (C_law_source : Cal P w K mg base 1 "_law_source" s_law_source ["cell"] sp_law_source) (C_law_right : Cal P w K mg base 33 "_law_right" s_law_right ["source"] sp_law_right) (C_law_same : Cal P w K mg base 5 "_law_same" s_law_same ["found", "due"] sp_law_same) (C_is_condition : Cal P w K mg base 17 "is_condition" s_is_condition ["columns", "value"] sp_is_condition) (C_meets : Cal P w K mg base 19 "meets" s_meets ["columns", "condition", "row"] sp_meets) (C_truth_of : Cal P w K mg base 18 "truth_of" s_truth_of ["columns", "condition", "row"] sp_truth_of) : Cal P w K mg base 34 "law" s_law ["script"] sp_law :=
  calD T.f_law sc_law fun f cdv A outer s H E hr => ⟨d_law, (gss_cons (gs_for (passes_of rfl) rfl (gi_list (ge_op op_addA rs_add (ge_lst (ga_cons (ge_callB call_len cs_len rfl T.b_len (by decide +kernel) (ga_cons (gv 0) ga_nil)) ga_nil)) (ge_sl sl_any ss_cut (gv 0) go_none (go_some ge_int)))) (gg_name (i := 1) sc_law.nd rfl (Or.inl rfl))
  (gss_cons (gs_set (i := 2) sc_law.nd rfl (Or.inl rfl) (ge_c (takes_of rfl rfl rfl rfl) C_law_source hr (by decide) (ga_cons (gv 1) ga_nil)))
  (gss_one (gs_if (GW.gt (gw_or (gt_not (gt_val (ge_c (takes_of rfl rfl rfl rfl) C_law_right hr (by decide) (ga_cons (gv 2) ga_nil)))) (gw_or1 (gt_not (gt_val (ge_c (takes_of rfl rfl rfl rfl) C_law_right hr (by decide) (ga_cons (gv 2) ga_nil))))))) (gss_one (gs_ret ge_bl)) gss_nil))))
  (gss_one (gs_ret (ge_c (takes_of rfl rfl rfl rfl) C_law_same hr (by decide) (ga_cons (ge_lst (ga_cons (ge_c (takes_of rfl rfl rfl rfl) C_truth_of hr (by decide) (ga_cons (ge_tup ga_nil) (ga_cons ge_non (ga_cons (ge_tup ga_nil) ga_nil)))) (ga_cons (ge_c (takes_of rfl rfl rfl rfl) C_meets hr (by decide) (ga_cons (ge_tup ga_nil) (ga_cons ge_non (ga_cons (ge_tup ga_nil) ga_nil)))) (ga_cons (ge_c (takes_of rfl rfl rfl rfl) C_is_condition hr (by decide) (ga_cons (ge_tup ga_nil) (ga_cons (ge_tup (ga_cons ge_str (ga_cons ge_str ga_nil))) ga_nil))) ga_nil)))) (ga_cons (ge_lst (ga_cons ge_bl (ga_cons ge_bl (ga_cons ge_bl ga_nil)))) ga_nil)))))), rd_law⟩

theorem txt_mk {K : PySem.W.Frag} {h : Heap} {mg : Str → Option Value} (X : K.In h)
  (GN : h.Ns mainGlobals mg)
  {f0 : Addr} {oc0 kV0 dc0 pm0 cd0 ct0 : Value} {od0 an0 : Option Addr} {sl0 : Array (Option Value)}
  (a0 : PySem.W.nsIn K mainGlobals "is_integer" = some (some (.ref f0)))
  (l0 : K.lookup f0 = some ⟨oc0, od0, .func (PySem.W.fnOf "is_integer" "is_integer" (defArgs s_is_integer) (defBody s_is_integer) (defScope s_is_integer) .none kV0 dc0 pm0 an0 cd0 ct0), sl0⟩)
  (c0 : PySem.W.codeIn K cd0 "is_integer" = true) (k0 : PySem.W.keepIn K (.ref f0) = true)
  {f1 : Addr} {oc1 kV1 dc1 pm1 cd1 ct1 : Value} {od1 an1 : Option Addr} {sl1 : Array (Option Value)}
  (a1 : PySem.W.nsIn K mainGlobals "is_text" = some (some (.ref f1)))
  (l1 : K.lookup f1 = some ⟨oc1, od1, .func (PySem.W.fnOf "is_text" "is_text" (defArgs s_is_text) (defBody s_is_text) (defScope s_is_text) .none kV1 dc1 pm1 an1 cd1 ct1), sl1⟩)
  (c1 : PySem.W.codeIn K cd1 "is_text" = true) (k1 : PySem.W.keepIn K (.ref f1) = true)
  {f2 : Addr} {oc2 kV2 dc2 pm2 cd2 ct2 : Value} {od2 an2 : Option Addr} {sl2 : Array (Option Value)}
  (a2 : PySem.W.nsIn K mainGlobals "is_value" = some (some (.ref f2)))
  (l2 : K.lookup f2 = some ⟨oc2, od2, .func (PySem.W.fnOf "is_value" "is_value" (defArgs s_is_value) (defBody s_is_value) (defScope s_is_value) .none kV2 dc2 pm2 an2 cd2 ct2), sl2⟩)
  (c2 : PySem.W.codeIn K cd2 "is_value" = true) (k2 : PySem.W.keepIn K (.ref f2) = true)
  {f3 : Addr} {oc3 kV3 dc3 pm3 cd3 ct3 : Value} {od3 an3 : Option Addr} {sl3 : Array (Option Value)}
  (a3 : PySem.W.nsIn K mainGlobals "is_name" = some (some (.ref f3)))
  (l3 : K.lookup f3 = some ⟨oc3, od3, .func (PySem.W.fnOf "is_name" "is_name" (defArgs s_is_name) (defBody s_is_name) (defScope s_is_name) .none kV3 dc3 pm3 an3 cd3 ct3), sl3⟩)
  (c3 : PySem.W.codeIn K cd3 "is_name" = true) (k3 : PySem.W.keepIn K (.ref f3) = true)
  {f4 : Addr} {oc4 kV4 dc4 pm4 cd4 ct4 : Value} {od4 an4 : Option Addr} {sl4 : Array (Option Value)}
  (a4 : PySem.W.nsIn K mainGlobals "are_names" = some (some (.ref f4)))
  (l4 : K.lookup f4 = some ⟨oc4, od4, .func (PySem.W.fnOf "are_names" "are_names" (defArgs s_are_names) (defBody s_are_names) (defScope s_are_names) .none kV4 dc4 pm4 an4 cd4 ct4), sl4⟩)
  (c4 : PySem.W.codeIn K cd4 "are_names" = true) (k4 : PySem.W.keepIn K (.ref f4) = true)
  {f5 : Addr} {oc5 kV5 dc5 pm5 cd5 ct5 : Value} {od5 an5 : Option Addr} {sl5 : Array (Option Value)}
  (a5 : PySem.W.nsIn K mainGlobals "is_leaf" = some (some (.ref f5)))
  (l5 : K.lookup f5 = some ⟨oc5, od5, .func (PySem.W.fnOf "is_leaf" "is_leaf" (defArgs s_is_leaf) (defBody s_is_leaf) (defScope s_is_leaf) .none kV5 dc5 pm5 an5 cd5 ct5), sl5⟩)
  (c5 : PySem.W.codeIn K cd5 "is_leaf" = true) (k5 : PySem.W.keepIn K (.ref f5) = true)
  {f6 : Addr} {oc6 kV6 dc6 pm6 cd6 ct6 : Value} {od6 an6 : Option Addr} {sl6 : Array (Option Value)}
  (a6 : PySem.W.nsIn K mainGlobals "is_condition_to" = some (some (.ref f6)))
  (l6 : K.lookup f6 = some ⟨oc6, od6, .func (PySem.W.fnOf "is_condition_to" "is_condition_to" (defArgs s_is_condition_to) (defBody s_is_condition_to) (defScope s_is_condition_to) .none kV6 dc6 pm6 an6 cd6 ct6), sl6⟩)
  (c6 : PySem.W.codeIn K cd6 "is_condition_to" = true) (k6 : PySem.W.keepIn K (.ref f6) = true)
  {f7 : Addr} {oc7 kV7 dc7 pm7 cd7 ct7 : Value} {od7 an7 : Option Addr} {sl7 : Array (Option Value)}
  (a7 : PySem.W.nsIn K mainGlobals "is_condition" = some (some (.ref f7)))
  (l7 : K.lookup f7 = some ⟨oc7, od7, .func (PySem.W.fnOf "is_condition" "is_condition" (defArgs s_is_condition) (defBody s_is_condition) (defScope s_is_condition) .none kV7 dc7 pm7 an7 cd7 ct7), sl7⟩)
  (c7 : PySem.W.codeIn K cd7 "is_condition" = true) (k7 : PySem.W.keepIn K (.ref f7) = true)
  {f8 : Addr} {oc8 kV8 dc8 pm8 cd8 ct8 : Value} {od8 an8 : Option Addr} {sl8 : Array (Option Value)}
  (a8 : PySem.W.nsIn K mainGlobals "check_condition" = some (some (.ref f8)))
  (l8 : K.lookup f8 = some ⟨oc8, od8, .func (PySem.W.fnOf "check_condition" "check_condition" (defArgs s_check_condition) (defBody s_check_condition) (defScope s_check_condition) .none kV8 dc8 pm8 an8 cd8 ct8), sl8⟩)
  (c8 : PySem.W.codeIn K cd8 "check_condition" = true) (k8 : PySem.W.keepIn K (.ref f8) = true)
  {f9 : Addr} {oc9 kV9 dc9 pm9 cd9 ct9 : Value} {od9 an9 : Option Addr} {sl9 : Array (Option Value)}
  (a9 : PySem.W.nsIn K mainGlobals "is_row" = some (some (.ref f9)))
  (l9 : K.lookup f9 = some ⟨oc9, od9, .func (PySem.W.fnOf "is_row" "is_row" (defArgs s_is_row) (defBody s_is_row) (defScope s_is_row) .none kV9 dc9 pm9 an9 cd9 ct9), sl9⟩)
  (c9 : PySem.W.codeIn K cd9 "is_row" = true) (k9 : PySem.W.keepIn K (.ref f9) = true)
  {f10 : Addr} {oc10 kV10 dc10 pm10 cd10 ct10 : Value} {od10 an10 : Option Addr} {sl10 : Array (Option Value)}
  (a10 : PySem.W.nsIn K mainGlobals "kind_of" = some (some (.ref f10)))
  (l10 : K.lookup f10 = some ⟨oc10, od10, .func (PySem.W.fnOf "kind_of" "kind_of" (defArgs s_kind_of) (defBody s_kind_of) (defScope s_kind_of) .none kV10 dc10 pm10 an10 cd10 ct10), sl10⟩)
  (c10 : PySem.W.codeIn K cd10 "kind_of" = true) (k10 : PySem.W.keepIn K (.ref f10) = true)
  {f11 : Addr} {oc11 kV11 dc11 pm11 cd11 ct11 : Value} {od11 an11 : Option Addr} {sl11 : Array (Option Value)}
  (a11 : PySem.W.nsIn K mainGlobals "compared" = some (some (.ref f11)))
  (l11 : K.lookup f11 = some ⟨oc11, od11, .func (PySem.W.fnOf "compared" "compared" (defArgs s_compared) (defBody s_compared) (defScope s_compared) .none kV11 dc11 pm11 an11 cd11 ct11), sl11⟩)
  (c11 : PySem.W.codeIn K cd11 "compared" = true) (k11 : PySem.W.keepIn K (.ref f11) = true)
  {f12 : Addr} {oc12 kV12 dc12 pm12 cd12 ct12 : Value} {od12 an12 : Option Addr} {sl12 : Array (Option Value)}
  (a12 : PySem.W.nsIn K mainGlobals "joined" = some (some (.ref f12)))
  (l12 : K.lookup f12 = some ⟨oc12, od12, .func (PySem.W.fnOf "joined" "joined" (defArgs s_joined) (defBody s_joined) (defScope s_joined) .none kV12 dc12 pm12 an12 cd12 ct12), sl12⟩)
  (c12 : PySem.W.codeIn K cd12 "joined" = true) (k12 : PySem.W.keepIn K (.ref f12) = true)
  {f13 : Addr} {oc13 kV13 dc13 pm13 cd13 ct13 : Value} {od13 an13 : Option Addr} {sl13 : Array (Option Value)}
  (a13 : PySem.W.nsIn K mainGlobals "truth" = some (some (.ref f13)))
  (l13 : K.lookup f13 = some ⟨oc13, od13, .func (PySem.W.fnOf "truth" "truth" (defArgs s_truth) (defBody s_truth) (defScope s_truth) .none kV13 dc13 pm13 an13 cd13 ct13), sl13⟩)
  (c13 : PySem.W.codeIn K cd13 "truth" = true) (k13 : PySem.W.keepIn K (.ref f13) = true)
  {f14 : Addr} {oc14 kV14 dc14 pm14 cd14 ct14 : Value} {od14 an14 : Option Addr} {sl14 : Array (Option Value)}
  (a14 : PySem.W.nsIn K mainGlobals "truth_of" = some (some (.ref f14)))
  (l14 : K.lookup f14 = some ⟨oc14, od14, .func (PySem.W.fnOf "truth_of" "truth_of" (defArgs s_truth_of) (defBody s_truth_of) (defScope s_truth_of) .none kV14 dc14 pm14 an14 cd14 ct14), sl14⟩)
  (c14 : PySem.W.codeIn K cd14 "truth_of" = true) (k14 : PySem.W.keepIn K (.ref f14) = true)
  {f15 : Addr} {oc15 kV15 dc15 pm15 cd15 ct15 : Value} {od15 an15 : Option Addr} {sl15 : Array (Option Value)}
  (a15 : PySem.W.nsIn K mainGlobals "meets" = some (some (.ref f15)))
  (l15 : K.lookup f15 = some ⟨oc15, od15, .func (PySem.W.fnOf "meets" "meets" (defArgs s_meets) (defBody s_meets) (defScope s_meets) .none kV15 dc15 pm15 an15 cd15 ct15), sl15⟩)
  (c15 : PySem.W.codeIn K cd15 "meets" = true) (k15 : PySem.W.keepIn K (.ref f15) = true)
  {f16 : Addr} {oc16 kV16 dc16 pm16 cd16 ct16 : Value} {od16 an16 : Option Addr} {sl16 : Array (Option Value)}
  (a16 : PySem.W.nsIn K mainGlobals "_law_source" = some (some (.ref f16)))
  (l16 : K.lookup f16 = some ⟨oc16, od16, .func (PySem.W.fnOf "_law_source" "_law_source" (defArgs s_law_source) (defBody s_law_source) (defScope s_law_source) .none kV16 dc16 pm16 an16 cd16 ct16), sl16⟩)
  (c16 : PySem.W.codeIn K cd16 "_law_source" = true) (k16 : PySem.W.keepIn K (.ref f16) = true)
  {f17 : Addr} {oc17 kV17 dc17 pm17 cd17 ct17 : Value} {od17 an17 : Option Addr} {sl17 : Array (Option Value)}
  (a17 : PySem.W.nsIn K mainGlobals "_law_draw" = some (some (.ref f17)))
  (l17 : K.lookup f17 = some ⟨oc17, od17, .func (PySem.W.fnOf "_law_draw" "_law_draw" (defArgs s_law_draw) (defBody s_law_draw) (defScope s_law_draw) .none kV17 dc17 pm17 an17 cd17 ct17), sl17⟩)
  (c17 : PySem.W.codeIn K cd17 "_law_draw" = true) (k17 : PySem.W.keepIn K (.ref f17) = true)
  {f18 : Addr} {oc18 kV18 dc18 pm18 cd18 ct18 : Value} {od18 an18 : Option Addr} {sl18 : Array (Option Value)}
  (a18 : PySem.W.nsIn K mainGlobals "_law_same" = some (some (.ref f18)))
  (l18 : K.lookup f18 = some ⟨oc18, od18, .func (PySem.W.fnOf "_law_same" "_law_same" (defArgs s_law_same) (defBody s_law_same) (defScope s_law_same) .none kV18 dc18 pm18 an18 cd18 ct18), sl18⟩)
  (c18 : PySem.W.codeIn K cd18 "_law_same" = true) (k18 : PySem.W.keepIn K (.ref f18) = true)
  {f19 : Addr} {oc19 kV19 dc19 pm19 cd19 ct19 : Value} {od19 an19 : Option Addr} {sl19 : Array (Option Value)}
  (a19 : PySem.W.nsIn K mainGlobals "_law_word" = some (some (.ref f19)))
  (l19 : K.lookup f19 = some ⟨oc19, od19, .func (PySem.W.fnOf "_law_word" "_law_word" (defArgs s_law_word) (defBody s_law_word) (defScope s_law_word) .none kV19 dc19 pm19 an19 cd19 ct19), sl19⟩)
  (c19 : PySem.W.codeIn K cd19 "_law_word" = true) (k19 : PySem.W.keepIn K (.ref f19) = true)
  {f20 : Addr} {oc20 kV20 dc20 pm20 cd20 ct20 : Value} {od20 an20 : Option Addr} {sl20 : Array (Option Value)}
  (a20 : PySem.W.nsIn K mainGlobals "_law_words" = some (some (.ref f20)))
  (l20 : K.lookup f20 = some ⟨oc20, od20, .func (PySem.W.fnOf "_law_words" "_law_words" (defArgs s_law_words) (defBody s_law_words) (defScope s_law_words) .none kV20 dc20 pm20 an20 cd20 ct20), sl20⟩)
  (c20 : PySem.W.codeIn K cd20 "_law_words" = true) (k20 : PySem.W.keepIn K (.ref f20) = true)
  {f21 : Addr} {oc21 kV21 dc21 pm21 cd21 ct21 : Value} {od21 an21 : Option Addr} {sl21 : Array (Option Value)}
  (a21 : PySem.W.nsIn K mainGlobals "_law_text" = some (some (.ref f21)))
  (l21 : K.lookup f21 = some ⟨oc21, od21, .func (PySem.W.fnOf "_law_text" "_law_text" (defArgs s_law_text) (defBody s_law_text) (defScope s_law_text) .none kV21 dc21 pm21 an21 cd21 ct21), sl21⟩)
  (c21 : PySem.W.codeIn K cd21 "_law_text" = true) (k21 : PySem.W.keepIn K (.ref f21) = true)
  {f22 : Addr} {oc22 kV22 dc22 pm22 cd22 ct22 : Value} {od22 an22 : Option Addr} {sl22 : Array (Option Value)}
  (a22 : PySem.W.nsIn K mainGlobals "_law_value" = some (some (.ref f22)))
  (l22 : K.lookup f22 = some ⟨oc22, od22, .func (PySem.W.fnOf "_law_value" "_law_value" (defArgs s_law_value) (defBody s_law_value) (defScope s_law_value) .none kV22 dc22 pm22 an22 cd22 ct22), sl22⟩)
  (c22 : PySem.W.codeIn K cd22 "_law_value" = true) (k22 : PySem.W.keepIn K (.ref f22) = true)
  {f23 : Addr} {oc23 kV23 dc23 pm23 cd23 ct23 : Value} {od23 an23 : Option Addr} {sl23 : Array (Option Value)}
  (a23 : PySem.W.nsIn K mainGlobals "_law_kind" = some (some (.ref f23)))
  (l23 : K.lookup f23 = some ⟨oc23, od23, .func (PySem.W.fnOf "_law_kind" "_law_kind" (defArgs s_law_kind) (defBody s_law_kind) (defScope s_law_kind) .none kV23 dc23 pm23 an23 cd23 ct23), sl23⟩)
  (c23 : PySem.W.codeIn K cd23 "_law_kind" = true) (k23 : PySem.W.keepIn K (.ref f23) = true)
  {f24 : Addr} {oc24 kV24 dc24 pm24 cd24 ct24 : Value} {od24 an24 : Option Addr} {sl24 : Array (Option Value)}
  (a24 : PySem.W.nsIn K mainGlobals "_law_truths" = some (some (.ref f24)))
  (l24 : K.lookup f24 = some ⟨oc24, od24, .func (PySem.W.fnOf "_law_truths" "_law_truths" (defArgs s_law_truths) (defBody s_law_truths) (defScope s_law_truths) .none kV24 dc24 pm24 an24 cd24 ct24), sl24⟩)
  (c24 : PySem.W.codeIn K cd24 "_law_truths" = true) (k24 : PySem.W.keepIn K (.ref f24) = true)
  {f25 : Addr} {oc25 kV25 dc25 pm25 cd25 ct25 : Value} {od25 an25 : Option Addr} {sl25 : Array (Option Value)}
  (a25 : PySem.W.nsIn K mainGlobals "_law_condition" = some (some (.ref f25)))
  (l25 : K.lookup f25 = some ⟨oc25, od25, .func (PySem.W.fnOf "_law_condition" "_law_condition" (defArgs s_law_condition) (defBody s_law_condition) (defScope s_law_condition) .none kV25 dc25 pm25 an25 cd25 ct25), sl25⟩)
  (c25 : PySem.W.codeIn K cd25 "_law_condition" = true) (k25 : PySem.W.keepIn K (.ref f25) = true)
  {f26 : Addr} {oc26 kV26 dc26 pm26 cd26 ct26 : Value} {od26 an26 : Option Addr} {sl26 : Array (Option Value)}
  (a26 : PySem.W.nsIn K mainGlobals "_law_places" = some (some (.ref f26)))
  (l26 : K.lookup f26 = some ⟨oc26, od26, .func (PySem.W.fnOf "_law_places" "_law_places" (defArgs s_law_places) (defBody s_law_places) (defScope s_law_places) .none kV26 dc26 pm26 an26 cd26 ct26), sl26⟩)
  (c26 : PySem.W.codeIn K cd26 "_law_places" = true) (k26 : PySem.W.keepIn K (.ref f26) = true)
  {f27 : Addr} {oc27 kV27 dc27 pm27 cd27 ct27 : Value} {od27 an27 : Option Addr} {sl27 : Array (Option Value)}
  (a27 : PySem.W.nsIn K mainGlobals "_law_member" = some (some (.ref f27)))
  (l27 : K.lookup f27 = some ⟨oc27, od27, .func (PySem.W.fnOf "_law_member" "_law_member" (defArgs s_law_member) (defBody s_law_member) (defScope s_law_member) .none kV27 dc27 pm27 an27 cd27 ct27), sl27⟩)
  (c27 : PySem.W.codeIn K cd27 "_law_member" = true) (k27 : PySem.W.keepIn K (.ref f27) = true)
  {f28 : Addr} {oc28 kV28 dc28 pm28 cd28 ct28 : Value} {od28 an28 : Option Addr} {sl28 : Array (Option Value)}
  (a28 : PySem.W.nsIn K mainGlobals "_law_with" = some (some (.ref f28)))
  (l28 : K.lookup f28 = some ⟨oc28, od28, .func (PySem.W.fnOf "_law_with" "_law_with" (defArgs s_law_with) (defBody s_law_with) (defScope s_law_with) .none kV28 dc28 pm28 an28 cd28 ct28), sl28⟩)
  (c28 : PySem.W.codeIn K cd28 "_law_with" = true) (k28 : PySem.W.keepIn K (.ref f28) = true)
  {f29 : Addr} {oc29 kV29 dc29 pm29 cd29 ct29 : Value} {od29 an29 : Option Addr} {sl29 : Array (Option Value)}
  (a29 : PySem.W.nsIn K mainGlobals "_law_bent" = some (some (.ref f29)))
  (l29 : K.lookup f29 = some ⟨oc29, od29, .func (PySem.W.fnOf "_law_bent" "_law_bent" (defArgs s_law_bent) (defBody s_law_bent) (defScope s_law_bent) .none kV29 dc29 pm29 an29 cd29 ct29), sl29⟩)
  (c29 : PySem.W.codeIn K cd29 "_law_bent" = true) (k29 : PySem.W.keepIn K (.ref f29) = true)
  {f30 : Addr} {oc30 kV30 dc30 pm30 cd30 ct30 : Value} {od30 an30 : Option Addr} {sl30 : Array (Option Value)}
  (a30 : PySem.W.nsIn K mainGlobals "_law_is_value" = some (some (.ref f30)))
  (l30 : K.lookup f30 = some ⟨oc30, od30, .func (PySem.W.fnOf "_law_is_value" "_law_is_value" (defArgs s_law_is_value) (defBody s_law_is_value) (defScope s_law_is_value) .none kV30 dc30 pm30 an30 cd30 ct30), sl30⟩)
  (c30 : PySem.W.codeIn K cd30 "_law_is_value" = true) (k30 : PySem.W.keepIn K (.ref f30) = true)
  {f31 : Addr} {oc31 kV31 dc31 pm31 cd31 ct31 : Value} {od31 an31 : Option Addr} {sl31 : Array (Option Value)}
  (a31 : PySem.W.nsIn K mainGlobals "_law_is_name" = some (some (.ref f31)))
  (l31 : K.lookup f31 = some ⟨oc31, od31, .func (PySem.W.fnOf "_law_is_name" "_law_is_name" (defArgs s_law_is_name) (defBody s_law_is_name) (defScope s_law_is_name) .none kV31 dc31 pm31 an31 cd31 ct31), sl31⟩)
  (c31 : PySem.W.codeIn K cd31 "_law_is_name" = true) (k31 : PySem.W.keepIn K (.ref f31) = true)
  {f32 : Addr} {oc32 kV32 dc32 pm32 cd32 ct32 : Value} {od32 an32 : Option Addr} {sl32 : Array (Option Value)}
  (a32 : PySem.W.nsIn K mainGlobals "_law_is_condition" = some (some (.ref f32)))
  (l32 : K.lookup f32 = some ⟨oc32, od32, .func (PySem.W.fnOf "_law_is_condition" "_law_is_condition" (defArgs s_law_is_condition) (defBody s_law_is_condition) (defScope s_law_is_condition) .none kV32 dc32 pm32 an32 cd32 ct32), sl32⟩)
  (c32 : PySem.W.codeIn K cd32 "_law_is_condition" = true) (k32 : PySem.W.keepIn K (.ref f32) = true)
  {f33 : Addr} {oc33 kV33 dc33 pm33 cd33 ct33 : Value} {od33 an33 : Option Addr} {sl33 : Array (Option Value)}
  (a33 : PySem.W.nsIn K mainGlobals "_law_deep" = some (some (.ref f33)))
  (l33 : K.lookup f33 = some ⟨oc33, od33, .func (PySem.W.fnOf "_law_deep" "_law_deep" (defArgs s_law_deep) (defBody s_law_deep) (defScope s_law_deep) .none kV33 dc33 pm33 an33 cd33 ct33), sl33⟩)
  (c33 : PySem.W.codeIn K cd33 "_law_deep" = true) (k33 : PySem.W.keepIn K (.ref f33) = true)
  {f34 : Addr} {oc34 kV34 dc34 pm34 cd34 ct34 : Value} {od34 an34 : Option Addr} {sl34 : Array (Option Value)}
  (a34 : PySem.W.nsIn K mainGlobals "_law_told" = some (some (.ref f34)))
  (l34 : K.lookup f34 = some ⟨oc34, od34, .func (PySem.W.fnOf "_law_told" "_law_told" (defArgs s_law_told) (defBody s_law_told) (defScope s_law_told) .none kV34 dc34 pm34 an34 cd34 ct34), sl34⟩)
  (c34 : PySem.W.codeIn K cd34 "_law_told" = true) (k34 : PySem.W.keepIn K (.ref f34) = true)
  {f35 : Addr} {oc35 kV35 dc35 pm35 cd35 ct35 : Value} {od35 an35 : Option Addr} {sl35 : Array (Option Value)}
  (a35 : PySem.W.nsIn K mainGlobals "_law_any_row" = some (some (.ref f35)))
  (l35 : K.lookup f35 = some ⟨oc35, od35, .func (PySem.W.fnOf "_law_any_row" "_law_any_row" (defArgs s_law_any_row) (defBody s_law_any_row) (defScope s_law_any_row) .none kV35 dc35 pm35 an35 cd35 ct35), sl35⟩)
  (c35 : PySem.W.codeIn K cd35 "_law_any_row" = true) (k35 : PySem.W.keepIn K (.ref f35) = true)
  {f36 : Addr} {oc36 kV36 dc36 pm36 cd36 ct36 : Value} {od36 an36 : Option Addr} {sl36 : Array (Option Value)}
  (a36 : PySem.W.nsIn K mainGlobals "_law_odd_row" = some (some (.ref f36)))
  (l36 : K.lookup f36 = some ⟨oc36, od36, .func (PySem.W.fnOf "_law_odd_row" "_law_odd_row" (defArgs s_law_odd_row) (defBody s_law_odd_row) (defScope s_law_odd_row) .none kV36 dc36 pm36 an36 cd36 ct36), sl36⟩)
  (c36 : PySem.W.codeIn K cd36 "_law_odd_row" = true) (k36 : PySem.W.keepIn K (.ref f36) = true)
  {f37 : Addr} {oc37 kV37 dc37 pm37 cd37 ct37 : Value} {od37 an37 : Option Addr} {sl37 : Array (Option Value)}
  (a37 : PySem.W.nsIn K mainGlobals "_law_right" = some (some (.ref f37)))
  (l37 : K.lookup f37 = some ⟨oc37, od37, .func (PySem.W.fnOf "_law_right" "_law_right" (defArgs s_law_right) (defBody s_law_right) (defScope s_law_right) .none kV37 dc37 pm37 an37 cd37 ct37), sl37⟩)
  (c37 : PySem.W.codeIn K cd37 "_law_right" = true) (k37 : PySem.W.keepIn K (.ref f37) = true)
  {f38 : Addr} {oc38 kV38 dc38 pm38 cd38 ct38 : Value} {od38 an38 : Option Addr} {sl38 : Array (Option Value)}
  (a38 : PySem.W.nsIn K mainGlobals "law" = some (some (.ref f38)))
  (l38 : K.lookup f38 = some ⟨oc38, od38, .func (PySem.W.fnOf "law" "law" (defArgs s_law) (defBody s_law) (defScope s_law) .none kV38 dc38 pm38 an38 cd38 ct38), sl38⟩)
  (c38 : PySem.W.codeIn K cd38 "law" = true) (k38 : PySem.W.keepIn K (.ref f38) = true)
  (z_abs : PySem.W.nsIn K mainGlobals "abs" = some none)
  (z_all : PySem.W.nsIn K mainGlobals "all" = some none)
  (z_bool : PySem.W.nsIn K mainGlobals "bool" = some none)
  (z_int : PySem.W.nsIn K mainGlobals "int" = some none)
  (z_isinstance : PySem.W.nsIn K mainGlobals "isinstance" = some none)
  (z_len : PySem.W.nsIn K mainGlobals "len" = some none)
  (z_list : PySem.W.nsIn K mainGlobals "list" = some none)
  (z_range : PySem.W.nsIn K mainGlobals "range" = some none)
  (z_repr : PySem.W.nsIn K mainGlobals "repr" = some none)
  (z_set : PySem.W.nsIn K mainGlobals "set" = some none)
  (z_str : PySem.W.nsIn K mainGlobals "str" = some none)
  (z_tuple : PySem.W.nsIn K mainGlobals "tuple" = some none)
  {t_GREATEST_SIGN : Tok}
  (v_GREATEST_SIGN : PySem.W.nsIn K mainGlobals "GREATEST_SIGN" = some (some (.str "~" t_GREATEST_SIGN)))
  {t_LEAST_SIGN : Tok}
  (v_LEAST_SIGN : PySem.W.nsIn K mainGlobals "LEAST_SIGN" = some (some (.str " " t_LEAST_SIGN)))
  {t_LETTERS : Tok}
  (v_LETTERS : PySem.W.nsIn K mainGlobals "LETTERS" = some (some (.str "abcdefghijklmnopqrstuvwxyz" t_LETTERS)))
  {t_MOST_DEPTH : Tok}
  (v_MOST_DEPTH : PySem.W.nsIn K mainGlobals "MOST_DEPTH" = some (some (.int 12 t_MOST_DEPTH)))
  {t_MOST_INTEGER : Tok}
  (v_MOST_INTEGER : PySem.W.nsIn K mainGlobals "MOST_INTEGER" = some (some (.int 999999999999999999999999999999 t_MOST_INTEGER)))
  {t_MOST_SIGNS : Tok}
  (v_MOST_SIGNS : PySem.W.nsIn K mainGlobals "MOST_SIGNS" = some (some (.int 200 t_MOST_SIGNS)))
  {t_MOST_SIGNS_OF_NAME : Tok}
  (v_MOST_SIGNS_OF_NAME : PySem.W.nsIn K mainGlobals "MOST_SIGNS_OF_NAME" = some (some (.int 8 t_MOST_SIGNS_OF_NAME)))
  {t0_COMPARED t1_COMPARED t2_COMPARED : Tok}
  {g_COMPARED : Addr} {d_COMPARED : Option Addr} {n_COMPARED : Nat} {s_COMPARED : Array (Option Value)} (v_COMPARED : PySem.W.nsIn K mainGlobals "COMPARED" = some (some (.ref g_COMPARED))) (w_COMPARED : K.lookup g_COMPARED = some ⟨.type "tuple", d_COMPARED, .seq #[.str "is" t0_COMPARED, .str "less" t1_COMPARED, .str "most" t2_COMPARED] n_COMPARED, s_COMPARED⟩)
  {t0_PAIRED t1_PAIRED : Tok}
  {g_PAIRED : Addr} {d_PAIRED : Option Addr} {n_PAIRED : Nat} {s_PAIRED : Array (Option Value)} (v_PAIRED : PySem.W.nsIn K mainGlobals "PAIRED" = some (some (.ref g_PAIRED))) (w_PAIRED : K.lookup g_PAIRED = some ⟨.type "tuple", d_PAIRED, .seq #[.str "and" t0_PAIRED, .str "or" t1_PAIRED] n_PAIRED, s_PAIRED⟩)
  (p_InvalidCondition : PySem.W.nsIn K mainGlobals "InvalidCondition" = some (some (.ref a_InvalidCondition))) (q_InvalidCondition : PySem.W.excIn K a_InvalidCondition [.type "ValueError", .type "Exception", .type "BaseException", .type "object"] "ValueError.__new__" = true) (r_InvalidCondition : PySem.W.keepIn K (.ref a_InvalidCondition) = true) (s_InvalidCondition : PySem.W.subIn K (.ref a_InvalidCondition) (.type "BaseException") = some true) (y_InvalidCondition : PySem.W.typeIn K (.ref a_InvalidCondition) = some (.type "type"))
  (p_InvalidRow : PySem.W.nsIn K mainGlobals "InvalidRow" = some (some (.ref a_InvalidRow))) (q_InvalidRow : PySem.W.excIn K a_InvalidRow [.type "ValueError", .type "Exception", .type "BaseException", .type "object"] "ValueError.__new__" = true) (r_InvalidRow : PySem.W.keepIn K (.ref a_InvalidRow) = true) (s_InvalidRow : PySem.W.subIn K (.ref a_InvalidRow) (.type "BaseException") = some true) (y_InvalidRow : PySem.W.typeIn K (.ref a_InvalidRow) = some (.type "type"))
  (p_StoreError : PySem.W.nsIn K mainGlobals "StoreError" = some (some (.ref a_StoreError))) (q_StoreError : PySem.W.excIn K a_StoreError [.type "ValueError", .type "Exception", .type "BaseException", .type "object"] "ValueError.__new__" = true) (r_StoreError : PySem.W.keepIn K (.ref a_StoreError) = true) (s_StoreError : PySem.W.subIn K (.ref a_StoreError) (.type "BaseException") = some true) (y_StoreError : PySem.W.typeIn K (.ref a_StoreError) = some (.type "type"))
  (h_InvalidCondition : PySem.W.hasDictIn K a_InvalidCondition = true)
  (h_InvalidRow : PySem.W.hasDictIn K a_InvalidRow = true)
  (h_StoreError : PySem.W.hasDictIn K a_StoreError = true)
  (m_InvalidCondition_InvalidCondition : PySem.W.subIn K (.ref a_InvalidCondition) (.ref a_InvalidCondition) = some true)
  (m_InvalidCondition_InvalidRow : PySem.W.subIn K (.ref a_InvalidCondition) (.ref a_InvalidRow) = some false)
  (m_InvalidRow_InvalidCondition : PySem.W.subIn K (.ref a_InvalidRow) (.ref a_InvalidCondition) = some false)
  (m_InvalidRow_InvalidRow : PySem.W.subIn K (.ref a_InvalidRow) (.ref a_InvalidRow) = some true)
  (u1_InvalidCondition : PySem.W.findIn K (.ref a_InvalidCondition) "__getattribute__" = some (some (.builtin "BaseException.__getattribute__")))
  (u2_InvalidCondition : PySem.W.findIn K (.ref a_InvalidCondition) "__getattr__" = some none)
  (u3_InvalidCondition : PySem.W.subIn K (.ref a_InvalidCondition) (.type "BaseException") = some true)
  (u4_InvalidCondition : PySem.W.hasDictIn K a_InvalidCondition = true) (u5_InvalidCondition : PySem.W.findIn K (.ref a_InvalidCondition) "__class__" = some (some (.builtin "object.__class__")))
  (u8_InvalidCondition : PySem.W.mroIn K a_InvalidCondition (.type "object") = some true)
  (u1_InvalidRow : PySem.W.findIn K (.ref a_InvalidRow) "__getattribute__" = some (some (.builtin "BaseException.__getattribute__")))
  (u2_InvalidRow : PySem.W.findIn K (.ref a_InvalidRow) "__getattr__" = some none)
  (u3_InvalidRow : PySem.W.subIn K (.ref a_InvalidRow) (.type "BaseException") = some true)
  (u4_InvalidRow : PySem.W.hasDictIn K a_InvalidRow = true) (u5_InvalidRow : PySem.W.findIn K (.ref a_InvalidRow) "__class__" = some (some (.builtin "object.__class__")))
  (u8_InvalidRow : PySem.W.mroIn K a_InvalidRow (.type "object") = some true)
  (u6 : PySem.W.specialIn K (.builtin "object.__class__") "__get__" = some (some (.builtin "getset_descriptor.__get__"))) (u7 : PySem.W.takesIn K (.builtin "object.__class__") = some true)
  (v_InvalidCondition_StoreError : PySem.W.subIn K (.ref a_InvalidCondition) (.ref a_StoreError) = some true)
  (v_InvalidRow_StoreError : PySem.W.subIn K (.ref a_InvalidRow) (.ref a_StoreError) = some true) : Txt K mg where
  f_is_integer := def_mk X GN a0 l0 c0 k0 fun _ _ _ _ _ _ us hl => match us, hl with | [_], _ => rfl
  f_is_text := def_mk X GN a1 l1 c1 k1 fun _ _ _ _ _ _ us hl => match us, hl with | [_], _ => rfl
  f_is_value := def_mk X GN a2 l2 c2 k2 fun _ _ _ _ _ _ us hl => match us, hl with | [_], _ => rfl
  f_is_name := def_mk X GN a3 l3 c3 k3 fun _ _ _ _ _ _ us hl => match us, hl with | [_], _ => rfl
  f_are_names := def_mk X GN a4 l4 c4 k4 fun _ _ _ _ _ _ us hl => match us, hl with | [_], _ => rfl
  f_is_leaf := def_mk X GN a5 l5 c5 k5 fun _ _ _ _ _ _ us hl => match us, hl with | [_, _], _ => rfl
  f_is_condition_to := def_mk X GN a6 l6 c6 k6 fun _ _ _ _ _ _ us hl => match us, hl with | [_, _, _], _ => rfl
  f_is_condition := def_mk X GN a7 l7 c7 k7 fun _ _ _ _ _ _ us hl => match us, hl with | [_, _], _ => rfl
  f_check_condition := def_mk X GN a8 l8 c8 k8 fun _ _ _ _ _ _ us hl => match us, hl with | [_, _], _ => rfl
  f_is_row := def_mk X GN a9 l9 c9 k9 fun _ _ _ _ _ _ us hl => match us, hl with | [_], _ => rfl
  f_kind_of := def_mk X GN a10 l10 c10 k10 fun _ _ _ _ _ _ us hl => match us, hl with | [_], _ => rfl
  f_compared := def_mk X GN a11 l11 c11 k11 fun _ _ _ _ _ _ us hl => match us, hl with | [_, _, _], _ => rfl
  f_joined := def_mk X GN a12 l12 c12 k12 fun _ _ _ _ _ _ us hl => match us, hl with | [_, _, _], _ => rfl
  f_truth := def_mk X GN a13 l13 c13 k13 fun _ _ _ _ _ _ us hl => match us, hl with | [_, _, _], _ => rfl
  f_truth_of := def_mk X GN a14 l14 c14 k14 fun _ _ _ _ _ _ us hl => match us, hl with | [_, _, _], _ => rfl
  f_meets := def_mk X GN a15 l15 c15 k15 fun _ _ _ _ _ _ us hl => match us, hl with | [_, _, _], _ => rfl
  f_law_source := def_mk X GN a16 l16 c16 k16 fun _ _ _ _ _ _ us hl => match us, hl with | [_], _ => rfl
  f_law_draw := def_mk X GN a17 l17 c17 k17 fun _ _ _ _ _ _ us hl => match us, hl with | [_, _], _ => rfl
  f_law_same := def_mk X GN a18 l18 c18 k18 fun _ _ _ _ _ _ us hl => match us, hl with | [_, _], _ => rfl
  f_law_word := def_mk X GN a19 l19 c19 k19 fun _ _ _ _ _ _ us hl => match us, hl with | [_], _ => rfl
  f_law_words := def_mk X GN a20 l20 c20 k20 fun _ _ _ _ _ _ us hl => match us, hl with | [_, _, _], _ => rfl
  f_law_text := def_mk X GN a21 l21 c21 k21 fun _ _ _ _ _ _ us hl => match us, hl with | [_], _ => rfl
  f_law_value := def_mk X GN a22 l22 c22 k22 fun _ _ _ _ _ _ us hl => match us, hl with | [_, _], _ => rfl
  f_law_kind := def_mk X GN a23 l23 c23 k23 fun _ _ _ _ _ _ us hl => match us, hl with | [_], _ => rfl
  f_law_truths := def_mk X GN a24 l24 c24 k24 fun _ _ _ _ _ _ us hl => match us, hl with | [_, _, _], _ => rfl
  f_law_condition := def_mk X GN a25 l25 c25 k25 fun _ _ _ _ _ _ us hl => match us, hl with | [_, _, _], _ => rfl
  f_law_places := def_mk X GN a26 l26 c26 k26 fun _ _ _ _ _ _ us hl => match us, hl with | [_, _], _ => rfl
  f_law_member := def_mk X GN a27 l27 c27 k27 fun _ _ _ _ _ _ us hl => match us, hl with | [_, _], _ => rfl
  f_law_with := def_mk X GN a28 l28 c28 k28 fun _ _ _ _ _ _ us hl => match us, hl with | [_, _, _], _ => rfl
  f_law_bent := def_mk X GN a29 l29 c29 k29 fun _ _ _ _ _ _ us hl => match us, hl with | [_, _], _ => rfl
  f_law_is_value := def_mk X GN a30 l30 c30 k30 fun _ _ _ _ _ _ us hl => match us, hl with | [_], _ => rfl
  f_law_is_name := def_mk X GN a31 l31 c31 k31 fun _ _ _ _ _ _ us hl => match us, hl with | [_], _ => rfl
  f_law_is_condition := def_mk X GN a32 l32 c32 k32 fun _ _ _ _ _ _ us hl => match us, hl with | [_, _, _], _ => rfl
  f_law_deep := def_mk X GN a33 l33 c33 k33 fun _ _ _ _ _ _ us hl => match us, hl with | [_, _, _], _ => rfl
  f_law_told := def_mk X GN a34 l34 c34 k34 fun _ _ _ _ _ _ us hl => match us, hl with | [_, _, _, _], _ => rfl
  f_law_any_row := def_mk X GN a35 l35 c35 k35 fun _ _ _ _ _ _ us hl => match us, hl with | [_, _], _ => rfl
  f_law_odd_row := def_mk X GN a36 l36 c36 k36 fun _ _ _ _ _ _ us hl => match us, hl with | [_, _], _ => rfl
  f_law_right := def_mk X GN a37 l37 c37 k37 fun _ _ _ _ _ _ us hl => match us, hl with | [_], _ => rfl
  f_law := def_mk X GN a38 l38 c38 k38 fun _ _ _ _ _ _ us hl => match us, hl with | [_], _ => rfl
  b_abs := PySem.W.mg_none_of X GN z_abs
  b_all := PySem.W.mg_none_of X GN z_all
  b_bool := PySem.W.mg_none_of X GN z_bool
  b_int := PySem.W.mg_none_of X GN z_int
  b_isinstance := PySem.W.mg_none_of X GN z_isinstance
  b_len := PySem.W.mg_none_of X GN z_len
  b_list := PySem.W.mg_none_of X GN z_list
  b_range := PySem.W.mg_none_of X GN z_range
  b_repr := PySem.W.mg_none_of X GN z_repr
  b_set := PySem.W.mg_none_of X GN z_set
  b_str := PySem.W.mg_none_of X GN z_str
  b_tuple := PySem.W.mg_none_of X GN z_tuple
  c_GREATEST_SIGN := ⟨_, PySem.W.mg_of X GN v_GREATEST_SIGN, ⟨_, rfl⟩⟩
  c_LEAST_SIGN := ⟨_, PySem.W.mg_of X GN v_LEAST_SIGN, ⟨_, rfl⟩⟩
  c_LETTERS := ⟨_, PySem.W.mg_of X GN v_LETTERS, ⟨_, rfl⟩⟩
  c_MOST_DEPTH := ⟨_, PySem.W.mg_of X GN v_MOST_DEPTH, ⟨_, rfl⟩⟩
  c_MOST_INTEGER := ⟨_, PySem.W.mg_of X GN v_MOST_INTEGER, ⟨_, rfl⟩⟩
  c_MOST_SIGNS := ⟨_, PySem.W.mg_of X GN v_MOST_SIGNS, ⟨_, rfl⟩⟩
  c_MOST_SIGNS_OF_NAME := ⟨_, PySem.W.mg_of X GN v_MOST_SIGNS_OF_NAME, ⟨_, rfl⟩⟩
  t_COMPARED := tupAt_mk (PySem.W.mg_of X GN v_COMPARED) w_COMPARED (.cons ⟨_, rfl⟩ (.cons ⟨_, rfl⟩ (.cons ⟨_, rfl⟩ .nil))) (by show 3 ≤ 16777216; decide)
  t_PAIRED := tupAt_mk (PySem.W.mg_of X GN v_PAIRED) w_PAIRED (.cons ⟨_, rfl⟩ (.cons ⟨_, rfl⟩ .nil)) (by show 2 ≤ 16777216; decide)
  x_InvalidCondition := ⟨PySem.W.mg_of X GN p_InvalidCondition, q_InvalidCondition, r_InvalidCondition, s_InvalidCondition, y_InvalidCondition⟩
  x_InvalidRow := ⟨PySem.W.mg_of X GN p_InvalidRow, q_InvalidRow, r_InvalidRow, s_InvalidRow, y_InvalidRow⟩
  x_StoreError := ⟨PySem.W.mg_of X GN p_StoreError, q_StoreError, r_StoreError, s_StoreError, y_StoreError⟩
  m_InvalidCondition_InvalidCondition := PySem.W.exm_ref s_InvalidCondition h_InvalidCondition y_InvalidCondition m_InvalidCondition_InvalidCondition
  m_InvalidCondition_InvalidRow := PySem.W.exm_ref s_InvalidRow h_InvalidRow y_InvalidRow m_InvalidCondition_InvalidRow
  m_InvalidRow_InvalidCondition := PySem.W.exm_ref s_InvalidCondition h_InvalidCondition y_InvalidCondition m_InvalidRow_InvalidCondition
  m_InvalidRow_InvalidRow := PySem.W.exm_ref s_InvalidRow h_InvalidRow y_InvalidRow m_InvalidRow_InvalidRow
  i_InvalidCondition_StoreError := ⟨⟨u1_InvalidCondition, u2_InvalidCondition, u3_InvalidCondition, u4_InvalidCondition, u5_InvalidCondition, u6, u7, u8_InvalidCondition⟩, kit_ref (by decide) h_StoreError y_StoreError v_InvalidCondition_StoreError⟩
  i_InvalidRow_StoreError := ⟨⟨u1_InvalidRow, u2_InvalidRow, u3_InvalidRow, u4_InvalidRow, u5_InvalidRow, u6, u7, u8_InvalidRow⟩, kit_ref (by decide) h_StoreError y_StoreError v_InvalidRow_StoreError⟩

theorem law_cal (T : Txt K mg) : Cal P w K mg base 34 "law" s_law ["script"] sp_law := by
  have C_is_integer : Cal P w K mg base 1 "is_integer" s_is_integer ["value"] sp_is_integer := ok_is_integer T 
  have C_is_text : Cal P w K mg base 1 "is_text" s_is_text ["value"] sp_is_text := ok_is_text T 
  have C_is_value : Cal P w K mg base 2 "is_value" s_is_value ["value"] sp_is_value := ok_is_value T C_is_integer C_is_text
  have C_is_name : Cal P w K mg base 1 "is_name" s_is_name ["value"] sp_is_name := ok_is_name T 
  have C_are_names : Cal P w K mg base 2 "are_names" s_are_names ["value"] sp_are_names := ok_are_names T C_is_name
  have C_is_leaf : Cal P w K mg base 3 "is_leaf" s_is_leaf ["columns", "value"] sp_is_leaf := ok_is_leaf T C_is_value
  have C_is_condition_to : Cal P w K mg base 16 "is_condition_to" s_is_condition_to ["columns", "value", "left"] sp_is_condition_to := ok_is_condition_to T C_is_leaf
  have C_is_condition : Cal P w K mg base 17 "is_condition" s_is_condition ["columns", "value"] sp_is_condition := ok_is_condition T C_are_names C_is_condition_to
  have C_check_condition : Cal P w K mg base 17 "check_condition" s_check_condition ["columns", "condition"] sp_check_condition := ok_check_condition T C_are_names C_is_condition_to
  have C_is_row : Cal P w K mg base 3 "is_row" s_is_row ["value"] sp_is_row := ok_is_row T C_is_value
  have C_kind_of : Cal P w K mg base 1 "kind_of" s_kind_of ["value"] sp_kind_of := ok_kind_of T 
  have C_compared : Cal P w K mg base 2 "compared" s_compared ["word", "value", "told"] sp_compared := ok_compared T C_kind_of
  have C_joined : Cal P w K mg base 1 "joined" s_joined ["word", "one", "other"] sp_joined := ok_joined T 
  have C_truth : Cal P w K mg base 15 "truth" s_truth ["columns", "condition", "row"] sp_truth := ok_truth T C_joined C_compared
  have C_truth_of : Cal P w K mg base 18 "truth_of" s_truth_of ["columns", "condition", "row"] sp_truth_of := ok_truth_of T C_check_condition C_is_row C_truth
  have C_meets : Cal P w K mg base 19 "meets" s_meets ["columns", "condition", "row"] sp_meets := ok_meets T C_truth_of
  have C_law_source : Cal P w K mg base 1 "_law_source" s_law_source ["cell"] sp_law_source := ok_law_source T 
  have C_law_draw : Cal P w K mg base 1 "_law_draw" s_law_draw ["source", "many"] sp_law_draw := ok_law_draw T 
  have C_law_same : Cal P w K mg base 5 "_law_same" s_law_same ["found", "due"] sp_law_same := ok_law_same T 
  have C_law_word : Cal P w K mg base 2 "_law_word" s_law_word ["source"] sp_law_word := ok_law_word T C_law_draw
  have C_law_words : Cal P w K mg base 3 "_law_words" s_law_words ["source", "many", "banned"] sp_law_words := ok_law_words T C_law_word
  have C_law_text : Cal P w K mg base 2 "_law_text" s_law_text ["source"] sp_law_text := ok_law_text T C_law_draw
  have C_law_value : Cal P w K mg base 3 "_law_value" s_law_value ["source", "kind"] sp_law_value := ok_law_value T C_law_draw C_law_text
  have C_law_kind : Cal P w K mg base 1 "_law_kind" s_law_kind ["value"] sp_law_kind := ok_law_kind T 
  have C_law_truths : Cal P w K mg base 14 "_law_truths" s_law_truths ["names", "condition", "row"] sp_law_truths := ok_law_truths T C_law_kind
  have C_law_condition : Cal P w K mg base 7 "_law_condition" s_law_condition ["source", "columns", "left"] sp_law_condition := ok_law_condition T C_law_draw C_law_value
  have C_law_places : Cal P w K mg base 31 "_law_places" s_law_places ["value", "place"] sp_law_places := ok_law_places T 
  have C_law_member : Cal P w K mg base 1 "_law_member" s_law_member ["value", "place"] sp_law_member := ok_law_member T 
  have C_law_with : Cal P w K mg base 31 "_law_with" s_law_with ["value", "place", "new"] sp_law_with := ok_law_with T 
  have C_law_bent : Cal P w K mg base 32 "_law_bent" s_law_bent ["source", "value"] sp_law_bent := ok_law_bent T C_law_places C_law_draw C_law_member C_law_with
  have C_law_is_value : Cal P w K mg base 1 "_law_is_value" s_law_is_value ["value"] sp_law_is_value := ok_law_is_value T 
  have C_law_is_name : Cal P w K mg base 1 "_law_is_name" s_law_is_name ["value"] sp_law_is_name := ok_law_is_name T 
  have C_law_is_condition : Cal P w K mg base 14 "_law_is_condition" s_law_is_condition ["columns", "value", "left"] sp_law_is_condition := ok_law_is_condition T C_law_is_value
  have C_law_deep : Cal P w K mg base 8 "_law_deep" s_law_deep ["source", "columns", "condition"] sp_law_deep := ok_law_deep T C_law_draw C_law_condition
  have C_law_told : Cal P w K mg base 20 "_law_told" s_law_told ["act", "columns", "condition", "row"] sp_law_told := ok_law_told T C_is_condition C_truth_of C_meets
  have C_law_any_row : Cal P w K mg base 4 "_law_any_row" s_law_any_row ["source", "columns"] sp_law_any_row := ok_law_any_row T C_law_draw C_law_value
  have C_law_odd_row : Cal P w K mg base 2 "_law_odd_row" s_law_odd_row ["source", "row"] sp_law_odd_row := ok_law_odd_row T C_law_draw
  have C_law_right : Cal P w K mg base 33 "_law_right" s_law_right ["source"] sp_law_right := ok_law_right T C_law_words C_law_draw C_law_deep C_law_condition C_law_bent C_law_is_condition C_law_same C_is_condition C_law_any_row C_law_truths C_law_told C_law_odd_row C_law_is_value C_meets C_truth_of C_law_word C_law_is_name C_is_name
  have C_law : Cal P w K mg base 34 "law" s_law ["script"] sp_law := ok_law T C_law_source C_law_right C_law_same C_is_condition C_meets C_truth_of
  exact C_law
theorem all_mk {P : Program} {w : World} {K : PySem.W.Frag} {h : Heap} {mg : Str → Option Value} {fa : Addr} (hm : mg "law" = some (.ref fa)) (X : K.In h)
  (GN : h.Ns mainGlobals mg)
  {f0 : Addr} {oc0 kV0 dc0 pm0 cd0 ct0 : Value} {od0 an0 : Option Addr} {sl0 : Array (Option Value)}
  (a0 : PySem.W.nsIn K mainGlobals "is_integer" = some (some (.ref f0)))
  (l0 : K.lookup f0 = some ⟨oc0, od0, .func (PySem.W.fnOf "is_integer" "is_integer" (defArgs s_is_integer) (defBody s_is_integer) (defScope s_is_integer) .none kV0 dc0 pm0 an0 cd0 ct0), sl0⟩)
  (c0 : PySem.W.codeIn K cd0 "is_integer" = true) (k0 : PySem.W.keepIn K (.ref f0) = true)
  {f1 : Addr} {oc1 kV1 dc1 pm1 cd1 ct1 : Value} {od1 an1 : Option Addr} {sl1 : Array (Option Value)}
  (a1 : PySem.W.nsIn K mainGlobals "is_text" = some (some (.ref f1)))
  (l1 : K.lookup f1 = some ⟨oc1, od1, .func (PySem.W.fnOf "is_text" "is_text" (defArgs s_is_text) (defBody s_is_text) (defScope s_is_text) .none kV1 dc1 pm1 an1 cd1 ct1), sl1⟩)
  (c1 : PySem.W.codeIn K cd1 "is_text" = true) (k1 : PySem.W.keepIn K (.ref f1) = true)
  {f2 : Addr} {oc2 kV2 dc2 pm2 cd2 ct2 : Value} {od2 an2 : Option Addr} {sl2 : Array (Option Value)}
  (a2 : PySem.W.nsIn K mainGlobals "is_value" = some (some (.ref f2)))
  (l2 : K.lookup f2 = some ⟨oc2, od2, .func (PySem.W.fnOf "is_value" "is_value" (defArgs s_is_value) (defBody s_is_value) (defScope s_is_value) .none kV2 dc2 pm2 an2 cd2 ct2), sl2⟩)
  (c2 : PySem.W.codeIn K cd2 "is_value" = true) (k2 : PySem.W.keepIn K (.ref f2) = true)
  {f3 : Addr} {oc3 kV3 dc3 pm3 cd3 ct3 : Value} {od3 an3 : Option Addr} {sl3 : Array (Option Value)}
  (a3 : PySem.W.nsIn K mainGlobals "is_name" = some (some (.ref f3)))
  (l3 : K.lookup f3 = some ⟨oc3, od3, .func (PySem.W.fnOf "is_name" "is_name" (defArgs s_is_name) (defBody s_is_name) (defScope s_is_name) .none kV3 dc3 pm3 an3 cd3 ct3), sl3⟩)
  (c3 : PySem.W.codeIn K cd3 "is_name" = true) (k3 : PySem.W.keepIn K (.ref f3) = true)
  {f4 : Addr} {oc4 kV4 dc4 pm4 cd4 ct4 : Value} {od4 an4 : Option Addr} {sl4 : Array (Option Value)}
  (a4 : PySem.W.nsIn K mainGlobals "are_names" = some (some (.ref f4)))
  (l4 : K.lookup f4 = some ⟨oc4, od4, .func (PySem.W.fnOf "are_names" "are_names" (defArgs s_are_names) (defBody s_are_names) (defScope s_are_names) .none kV4 dc4 pm4 an4 cd4 ct4), sl4⟩)
  (c4 : PySem.W.codeIn K cd4 "are_names" = true) (k4 : PySem.W.keepIn K (.ref f4) = true)
  {f5 : Addr} {oc5 kV5 dc5 pm5 cd5 ct5 : Value} {od5 an5 : Option Addr} {sl5 : Array (Option Value)}
  (a5 : PySem.W.nsIn K mainGlobals "is_leaf" = some (some (.ref f5)))
  (l5 : K.lookup f5 = some ⟨oc5, od5, .func (PySem.W.fnOf "is_leaf" "is_leaf" (defArgs s_is_leaf) (defBody s_is_leaf) (defScope s_is_leaf) .none kV5 dc5 pm5 an5 cd5 ct5), sl5⟩)
  (c5 : PySem.W.codeIn K cd5 "is_leaf" = true) (k5 : PySem.W.keepIn K (.ref f5) = true)
  {f6 : Addr} {oc6 kV6 dc6 pm6 cd6 ct6 : Value} {od6 an6 : Option Addr} {sl6 : Array (Option Value)}
  (a6 : PySem.W.nsIn K mainGlobals "is_condition_to" = some (some (.ref f6)))
  (l6 : K.lookup f6 = some ⟨oc6, od6, .func (PySem.W.fnOf "is_condition_to" "is_condition_to" (defArgs s_is_condition_to) (defBody s_is_condition_to) (defScope s_is_condition_to) .none kV6 dc6 pm6 an6 cd6 ct6), sl6⟩)
  (c6 : PySem.W.codeIn K cd6 "is_condition_to" = true) (k6 : PySem.W.keepIn K (.ref f6) = true)
  {f7 : Addr} {oc7 kV7 dc7 pm7 cd7 ct7 : Value} {od7 an7 : Option Addr} {sl7 : Array (Option Value)}
  (a7 : PySem.W.nsIn K mainGlobals "is_condition" = some (some (.ref f7)))
  (l7 : K.lookup f7 = some ⟨oc7, od7, .func (PySem.W.fnOf "is_condition" "is_condition" (defArgs s_is_condition) (defBody s_is_condition) (defScope s_is_condition) .none kV7 dc7 pm7 an7 cd7 ct7), sl7⟩)
  (c7 : PySem.W.codeIn K cd7 "is_condition" = true) (k7 : PySem.W.keepIn K (.ref f7) = true)
  {f8 : Addr} {oc8 kV8 dc8 pm8 cd8 ct8 : Value} {od8 an8 : Option Addr} {sl8 : Array (Option Value)}
  (a8 : PySem.W.nsIn K mainGlobals "check_condition" = some (some (.ref f8)))
  (l8 : K.lookup f8 = some ⟨oc8, od8, .func (PySem.W.fnOf "check_condition" "check_condition" (defArgs s_check_condition) (defBody s_check_condition) (defScope s_check_condition) .none kV8 dc8 pm8 an8 cd8 ct8), sl8⟩)
  (c8 : PySem.W.codeIn K cd8 "check_condition" = true) (k8 : PySem.W.keepIn K (.ref f8) = true)
  {f9 : Addr} {oc9 kV9 dc9 pm9 cd9 ct9 : Value} {od9 an9 : Option Addr} {sl9 : Array (Option Value)}
  (a9 : PySem.W.nsIn K mainGlobals "is_row" = some (some (.ref f9)))
  (l9 : K.lookup f9 = some ⟨oc9, od9, .func (PySem.W.fnOf "is_row" "is_row" (defArgs s_is_row) (defBody s_is_row) (defScope s_is_row) .none kV9 dc9 pm9 an9 cd9 ct9), sl9⟩)
  (c9 : PySem.W.codeIn K cd9 "is_row" = true) (k9 : PySem.W.keepIn K (.ref f9) = true)
  {f10 : Addr} {oc10 kV10 dc10 pm10 cd10 ct10 : Value} {od10 an10 : Option Addr} {sl10 : Array (Option Value)}
  (a10 : PySem.W.nsIn K mainGlobals "kind_of" = some (some (.ref f10)))
  (l10 : K.lookup f10 = some ⟨oc10, od10, .func (PySem.W.fnOf "kind_of" "kind_of" (defArgs s_kind_of) (defBody s_kind_of) (defScope s_kind_of) .none kV10 dc10 pm10 an10 cd10 ct10), sl10⟩)
  (c10 : PySem.W.codeIn K cd10 "kind_of" = true) (k10 : PySem.W.keepIn K (.ref f10) = true)
  {f11 : Addr} {oc11 kV11 dc11 pm11 cd11 ct11 : Value} {od11 an11 : Option Addr} {sl11 : Array (Option Value)}
  (a11 : PySem.W.nsIn K mainGlobals "compared" = some (some (.ref f11)))
  (l11 : K.lookup f11 = some ⟨oc11, od11, .func (PySem.W.fnOf "compared" "compared" (defArgs s_compared) (defBody s_compared) (defScope s_compared) .none kV11 dc11 pm11 an11 cd11 ct11), sl11⟩)
  (c11 : PySem.W.codeIn K cd11 "compared" = true) (k11 : PySem.W.keepIn K (.ref f11) = true)
  {f12 : Addr} {oc12 kV12 dc12 pm12 cd12 ct12 : Value} {od12 an12 : Option Addr} {sl12 : Array (Option Value)}
  (a12 : PySem.W.nsIn K mainGlobals "joined" = some (some (.ref f12)))
  (l12 : K.lookup f12 = some ⟨oc12, od12, .func (PySem.W.fnOf "joined" "joined" (defArgs s_joined) (defBody s_joined) (defScope s_joined) .none kV12 dc12 pm12 an12 cd12 ct12), sl12⟩)
  (c12 : PySem.W.codeIn K cd12 "joined" = true) (k12 : PySem.W.keepIn K (.ref f12) = true)
  {f13 : Addr} {oc13 kV13 dc13 pm13 cd13 ct13 : Value} {od13 an13 : Option Addr} {sl13 : Array (Option Value)}
  (a13 : PySem.W.nsIn K mainGlobals "truth" = some (some (.ref f13)))
  (l13 : K.lookup f13 = some ⟨oc13, od13, .func (PySem.W.fnOf "truth" "truth" (defArgs s_truth) (defBody s_truth) (defScope s_truth) .none kV13 dc13 pm13 an13 cd13 ct13), sl13⟩)
  (c13 : PySem.W.codeIn K cd13 "truth" = true) (k13 : PySem.W.keepIn K (.ref f13) = true)
  {f14 : Addr} {oc14 kV14 dc14 pm14 cd14 ct14 : Value} {od14 an14 : Option Addr} {sl14 : Array (Option Value)}
  (a14 : PySem.W.nsIn K mainGlobals "truth_of" = some (some (.ref f14)))
  (l14 : K.lookup f14 = some ⟨oc14, od14, .func (PySem.W.fnOf "truth_of" "truth_of" (defArgs s_truth_of) (defBody s_truth_of) (defScope s_truth_of) .none kV14 dc14 pm14 an14 cd14 ct14), sl14⟩)
  (c14 : PySem.W.codeIn K cd14 "truth_of" = true) (k14 : PySem.W.keepIn K (.ref f14) = true)
  {f15 : Addr} {oc15 kV15 dc15 pm15 cd15 ct15 : Value} {od15 an15 : Option Addr} {sl15 : Array (Option Value)}
  (a15 : PySem.W.nsIn K mainGlobals "meets" = some (some (.ref f15)))
  (l15 : K.lookup f15 = some ⟨oc15, od15, .func (PySem.W.fnOf "meets" "meets" (defArgs s_meets) (defBody s_meets) (defScope s_meets) .none kV15 dc15 pm15 an15 cd15 ct15), sl15⟩)
  (c15 : PySem.W.codeIn K cd15 "meets" = true) (k15 : PySem.W.keepIn K (.ref f15) = true)
  {f16 : Addr} {oc16 kV16 dc16 pm16 cd16 ct16 : Value} {od16 an16 : Option Addr} {sl16 : Array (Option Value)}
  (a16 : PySem.W.nsIn K mainGlobals "_law_source" = some (some (.ref f16)))
  (l16 : K.lookup f16 = some ⟨oc16, od16, .func (PySem.W.fnOf "_law_source" "_law_source" (defArgs s_law_source) (defBody s_law_source) (defScope s_law_source) .none kV16 dc16 pm16 an16 cd16 ct16), sl16⟩)
  (c16 : PySem.W.codeIn K cd16 "_law_source" = true) (k16 : PySem.W.keepIn K (.ref f16) = true)
  {f17 : Addr} {oc17 kV17 dc17 pm17 cd17 ct17 : Value} {od17 an17 : Option Addr} {sl17 : Array (Option Value)}
  (a17 : PySem.W.nsIn K mainGlobals "_law_draw" = some (some (.ref f17)))
  (l17 : K.lookup f17 = some ⟨oc17, od17, .func (PySem.W.fnOf "_law_draw" "_law_draw" (defArgs s_law_draw) (defBody s_law_draw) (defScope s_law_draw) .none kV17 dc17 pm17 an17 cd17 ct17), sl17⟩)
  (c17 : PySem.W.codeIn K cd17 "_law_draw" = true) (k17 : PySem.W.keepIn K (.ref f17) = true)
  {f18 : Addr} {oc18 kV18 dc18 pm18 cd18 ct18 : Value} {od18 an18 : Option Addr} {sl18 : Array (Option Value)}
  (a18 : PySem.W.nsIn K mainGlobals "_law_same" = some (some (.ref f18)))
  (l18 : K.lookup f18 = some ⟨oc18, od18, .func (PySem.W.fnOf "_law_same" "_law_same" (defArgs s_law_same) (defBody s_law_same) (defScope s_law_same) .none kV18 dc18 pm18 an18 cd18 ct18), sl18⟩)
  (c18 : PySem.W.codeIn K cd18 "_law_same" = true) (k18 : PySem.W.keepIn K (.ref f18) = true)
  {f19 : Addr} {oc19 kV19 dc19 pm19 cd19 ct19 : Value} {od19 an19 : Option Addr} {sl19 : Array (Option Value)}
  (a19 : PySem.W.nsIn K mainGlobals "_law_word" = some (some (.ref f19)))
  (l19 : K.lookup f19 = some ⟨oc19, od19, .func (PySem.W.fnOf "_law_word" "_law_word" (defArgs s_law_word) (defBody s_law_word) (defScope s_law_word) .none kV19 dc19 pm19 an19 cd19 ct19), sl19⟩)
  (c19 : PySem.W.codeIn K cd19 "_law_word" = true) (k19 : PySem.W.keepIn K (.ref f19) = true)
  {f20 : Addr} {oc20 kV20 dc20 pm20 cd20 ct20 : Value} {od20 an20 : Option Addr} {sl20 : Array (Option Value)}
  (a20 : PySem.W.nsIn K mainGlobals "_law_words" = some (some (.ref f20)))
  (l20 : K.lookup f20 = some ⟨oc20, od20, .func (PySem.W.fnOf "_law_words" "_law_words" (defArgs s_law_words) (defBody s_law_words) (defScope s_law_words) .none kV20 dc20 pm20 an20 cd20 ct20), sl20⟩)
  (c20 : PySem.W.codeIn K cd20 "_law_words" = true) (k20 : PySem.W.keepIn K (.ref f20) = true)
  {f21 : Addr} {oc21 kV21 dc21 pm21 cd21 ct21 : Value} {od21 an21 : Option Addr} {sl21 : Array (Option Value)}
  (a21 : PySem.W.nsIn K mainGlobals "_law_text" = some (some (.ref f21)))
  (l21 : K.lookup f21 = some ⟨oc21, od21, .func (PySem.W.fnOf "_law_text" "_law_text" (defArgs s_law_text) (defBody s_law_text) (defScope s_law_text) .none kV21 dc21 pm21 an21 cd21 ct21), sl21⟩)
  (c21 : PySem.W.codeIn K cd21 "_law_text" = true) (k21 : PySem.W.keepIn K (.ref f21) = true)
  {f22 : Addr} {oc22 kV22 dc22 pm22 cd22 ct22 : Value} {od22 an22 : Option Addr} {sl22 : Array (Option Value)}
  (a22 : PySem.W.nsIn K mainGlobals "_law_value" = some (some (.ref f22)))
  (l22 : K.lookup f22 = some ⟨oc22, od22, .func (PySem.W.fnOf "_law_value" "_law_value" (defArgs s_law_value) (defBody s_law_value) (defScope s_law_value) .none kV22 dc22 pm22 an22 cd22 ct22), sl22⟩)
  (c22 : PySem.W.codeIn K cd22 "_law_value" = true) (k22 : PySem.W.keepIn K (.ref f22) = true)
  {f23 : Addr} {oc23 kV23 dc23 pm23 cd23 ct23 : Value} {od23 an23 : Option Addr} {sl23 : Array (Option Value)}
  (a23 : PySem.W.nsIn K mainGlobals "_law_kind" = some (some (.ref f23)))
  (l23 : K.lookup f23 = some ⟨oc23, od23, .func (PySem.W.fnOf "_law_kind" "_law_kind" (defArgs s_law_kind) (defBody s_law_kind) (defScope s_law_kind) .none kV23 dc23 pm23 an23 cd23 ct23), sl23⟩)
  (c23 : PySem.W.codeIn K cd23 "_law_kind" = true) (k23 : PySem.W.keepIn K (.ref f23) = true)
  {f24 : Addr} {oc24 kV24 dc24 pm24 cd24 ct24 : Value} {od24 an24 : Option Addr} {sl24 : Array (Option Value)}
  (a24 : PySem.W.nsIn K mainGlobals "_law_truths" = some (some (.ref f24)))
  (l24 : K.lookup f24 = some ⟨oc24, od24, .func (PySem.W.fnOf "_law_truths" "_law_truths" (defArgs s_law_truths) (defBody s_law_truths) (defScope s_law_truths) .none kV24 dc24 pm24 an24 cd24 ct24), sl24⟩)
  (c24 : PySem.W.codeIn K cd24 "_law_truths" = true) (k24 : PySem.W.keepIn K (.ref f24) = true)
  {f25 : Addr} {oc25 kV25 dc25 pm25 cd25 ct25 : Value} {od25 an25 : Option Addr} {sl25 : Array (Option Value)}
  (a25 : PySem.W.nsIn K mainGlobals "_law_condition" = some (some (.ref f25)))
  (l25 : K.lookup f25 = some ⟨oc25, od25, .func (PySem.W.fnOf "_law_condition" "_law_condition" (defArgs s_law_condition) (defBody s_law_condition) (defScope s_law_condition) .none kV25 dc25 pm25 an25 cd25 ct25), sl25⟩)
  (c25 : PySem.W.codeIn K cd25 "_law_condition" = true) (k25 : PySem.W.keepIn K (.ref f25) = true)
  {f26 : Addr} {oc26 kV26 dc26 pm26 cd26 ct26 : Value} {od26 an26 : Option Addr} {sl26 : Array (Option Value)}
  (a26 : PySem.W.nsIn K mainGlobals "_law_places" = some (some (.ref f26)))
  (l26 : K.lookup f26 = some ⟨oc26, od26, .func (PySem.W.fnOf "_law_places" "_law_places" (defArgs s_law_places) (defBody s_law_places) (defScope s_law_places) .none kV26 dc26 pm26 an26 cd26 ct26), sl26⟩)
  (c26 : PySem.W.codeIn K cd26 "_law_places" = true) (k26 : PySem.W.keepIn K (.ref f26) = true)
  {f27 : Addr} {oc27 kV27 dc27 pm27 cd27 ct27 : Value} {od27 an27 : Option Addr} {sl27 : Array (Option Value)}
  (a27 : PySem.W.nsIn K mainGlobals "_law_member" = some (some (.ref f27)))
  (l27 : K.lookup f27 = some ⟨oc27, od27, .func (PySem.W.fnOf "_law_member" "_law_member" (defArgs s_law_member) (defBody s_law_member) (defScope s_law_member) .none kV27 dc27 pm27 an27 cd27 ct27), sl27⟩)
  (c27 : PySem.W.codeIn K cd27 "_law_member" = true) (k27 : PySem.W.keepIn K (.ref f27) = true)
  {f28 : Addr} {oc28 kV28 dc28 pm28 cd28 ct28 : Value} {od28 an28 : Option Addr} {sl28 : Array (Option Value)}
  (a28 : PySem.W.nsIn K mainGlobals "_law_with" = some (some (.ref f28)))
  (l28 : K.lookup f28 = some ⟨oc28, od28, .func (PySem.W.fnOf "_law_with" "_law_with" (defArgs s_law_with) (defBody s_law_with) (defScope s_law_with) .none kV28 dc28 pm28 an28 cd28 ct28), sl28⟩)
  (c28 : PySem.W.codeIn K cd28 "_law_with" = true) (k28 : PySem.W.keepIn K (.ref f28) = true)
  {f29 : Addr} {oc29 kV29 dc29 pm29 cd29 ct29 : Value} {od29 an29 : Option Addr} {sl29 : Array (Option Value)}
  (a29 : PySem.W.nsIn K mainGlobals "_law_bent" = some (some (.ref f29)))
  (l29 : K.lookup f29 = some ⟨oc29, od29, .func (PySem.W.fnOf "_law_bent" "_law_bent" (defArgs s_law_bent) (defBody s_law_bent) (defScope s_law_bent) .none kV29 dc29 pm29 an29 cd29 ct29), sl29⟩)
  (c29 : PySem.W.codeIn K cd29 "_law_bent" = true) (k29 : PySem.W.keepIn K (.ref f29) = true)
  {f30 : Addr} {oc30 kV30 dc30 pm30 cd30 ct30 : Value} {od30 an30 : Option Addr} {sl30 : Array (Option Value)}
  (a30 : PySem.W.nsIn K mainGlobals "_law_is_value" = some (some (.ref f30)))
  (l30 : K.lookup f30 = some ⟨oc30, od30, .func (PySem.W.fnOf "_law_is_value" "_law_is_value" (defArgs s_law_is_value) (defBody s_law_is_value) (defScope s_law_is_value) .none kV30 dc30 pm30 an30 cd30 ct30), sl30⟩)
  (c30 : PySem.W.codeIn K cd30 "_law_is_value" = true) (k30 : PySem.W.keepIn K (.ref f30) = true)
  {f31 : Addr} {oc31 kV31 dc31 pm31 cd31 ct31 : Value} {od31 an31 : Option Addr} {sl31 : Array (Option Value)}
  (a31 : PySem.W.nsIn K mainGlobals "_law_is_name" = some (some (.ref f31)))
  (l31 : K.lookup f31 = some ⟨oc31, od31, .func (PySem.W.fnOf "_law_is_name" "_law_is_name" (defArgs s_law_is_name) (defBody s_law_is_name) (defScope s_law_is_name) .none kV31 dc31 pm31 an31 cd31 ct31), sl31⟩)
  (c31 : PySem.W.codeIn K cd31 "_law_is_name" = true) (k31 : PySem.W.keepIn K (.ref f31) = true)
  {f32 : Addr} {oc32 kV32 dc32 pm32 cd32 ct32 : Value} {od32 an32 : Option Addr} {sl32 : Array (Option Value)}
  (a32 : PySem.W.nsIn K mainGlobals "_law_is_condition" = some (some (.ref f32)))
  (l32 : K.lookup f32 = some ⟨oc32, od32, .func (PySem.W.fnOf "_law_is_condition" "_law_is_condition" (defArgs s_law_is_condition) (defBody s_law_is_condition) (defScope s_law_is_condition) .none kV32 dc32 pm32 an32 cd32 ct32), sl32⟩)
  (c32 : PySem.W.codeIn K cd32 "_law_is_condition" = true) (k32 : PySem.W.keepIn K (.ref f32) = true)
  {f33 : Addr} {oc33 kV33 dc33 pm33 cd33 ct33 : Value} {od33 an33 : Option Addr} {sl33 : Array (Option Value)}
  (a33 : PySem.W.nsIn K mainGlobals "_law_deep" = some (some (.ref f33)))
  (l33 : K.lookup f33 = some ⟨oc33, od33, .func (PySem.W.fnOf "_law_deep" "_law_deep" (defArgs s_law_deep) (defBody s_law_deep) (defScope s_law_deep) .none kV33 dc33 pm33 an33 cd33 ct33), sl33⟩)
  (c33 : PySem.W.codeIn K cd33 "_law_deep" = true) (k33 : PySem.W.keepIn K (.ref f33) = true)
  {f34 : Addr} {oc34 kV34 dc34 pm34 cd34 ct34 : Value} {od34 an34 : Option Addr} {sl34 : Array (Option Value)}
  (a34 : PySem.W.nsIn K mainGlobals "_law_told" = some (some (.ref f34)))
  (l34 : K.lookup f34 = some ⟨oc34, od34, .func (PySem.W.fnOf "_law_told" "_law_told" (defArgs s_law_told) (defBody s_law_told) (defScope s_law_told) .none kV34 dc34 pm34 an34 cd34 ct34), sl34⟩)
  (c34 : PySem.W.codeIn K cd34 "_law_told" = true) (k34 : PySem.W.keepIn K (.ref f34) = true)
  {f35 : Addr} {oc35 kV35 dc35 pm35 cd35 ct35 : Value} {od35 an35 : Option Addr} {sl35 : Array (Option Value)}
  (a35 : PySem.W.nsIn K mainGlobals "_law_any_row" = some (some (.ref f35)))
  (l35 : K.lookup f35 = some ⟨oc35, od35, .func (PySem.W.fnOf "_law_any_row" "_law_any_row" (defArgs s_law_any_row) (defBody s_law_any_row) (defScope s_law_any_row) .none kV35 dc35 pm35 an35 cd35 ct35), sl35⟩)
  (c35 : PySem.W.codeIn K cd35 "_law_any_row" = true) (k35 : PySem.W.keepIn K (.ref f35) = true)
  {f36 : Addr} {oc36 kV36 dc36 pm36 cd36 ct36 : Value} {od36 an36 : Option Addr} {sl36 : Array (Option Value)}
  (a36 : PySem.W.nsIn K mainGlobals "_law_odd_row" = some (some (.ref f36)))
  (l36 : K.lookup f36 = some ⟨oc36, od36, .func (PySem.W.fnOf "_law_odd_row" "_law_odd_row" (defArgs s_law_odd_row) (defBody s_law_odd_row) (defScope s_law_odd_row) .none kV36 dc36 pm36 an36 cd36 ct36), sl36⟩)
  (c36 : PySem.W.codeIn K cd36 "_law_odd_row" = true) (k36 : PySem.W.keepIn K (.ref f36) = true)
  {f37 : Addr} {oc37 kV37 dc37 pm37 cd37 ct37 : Value} {od37 an37 : Option Addr} {sl37 : Array (Option Value)}
  (a37 : PySem.W.nsIn K mainGlobals "_law_right" = some (some (.ref f37)))
  (l37 : K.lookup f37 = some ⟨oc37, od37, .func (PySem.W.fnOf "_law_right" "_law_right" (defArgs s_law_right) (defBody s_law_right) (defScope s_law_right) .none kV37 dc37 pm37 an37 cd37 ct37), sl37⟩)
  (c37 : PySem.W.codeIn K cd37 "_law_right" = true) (k37 : PySem.W.keepIn K (.ref f37) = true)
  {f38 : Addr} {oc38 kV38 dc38 pm38 cd38 ct38 : Value} {od38 an38 : Option Addr} {sl38 : Array (Option Value)}
  (a38 : PySem.W.nsIn K mainGlobals "law" = some (some (.ref f38)))
  (l38 : K.lookup f38 = some ⟨oc38, od38, .func (PySem.W.fnOf "law" "law" (defArgs s_law) (defBody s_law) (defScope s_law) .none kV38 dc38 pm38 an38 cd38 ct38), sl38⟩)
  (c38 : PySem.W.codeIn K cd38 "law" = true) (k38 : PySem.W.keepIn K (.ref f38) = true)
  (z_abs : PySem.W.nsIn K mainGlobals "abs" = some none)
  (z_all : PySem.W.nsIn K mainGlobals "all" = some none)
  (z_bool : PySem.W.nsIn K mainGlobals "bool" = some none)
  (z_int : PySem.W.nsIn K mainGlobals "int" = some none)
  (z_isinstance : PySem.W.nsIn K mainGlobals "isinstance" = some none)
  (z_len : PySem.W.nsIn K mainGlobals "len" = some none)
  (z_list : PySem.W.nsIn K mainGlobals "list" = some none)
  (z_range : PySem.W.nsIn K mainGlobals "range" = some none)
  (z_repr : PySem.W.nsIn K mainGlobals "repr" = some none)
  (z_set : PySem.W.nsIn K mainGlobals "set" = some none)
  (z_str : PySem.W.nsIn K mainGlobals "str" = some none)
  (z_tuple : PySem.W.nsIn K mainGlobals "tuple" = some none)
  {t_GREATEST_SIGN : Tok}
  (v_GREATEST_SIGN : PySem.W.nsIn K mainGlobals "GREATEST_SIGN" = some (some (.str "~" t_GREATEST_SIGN)))
  {t_LEAST_SIGN : Tok}
  (v_LEAST_SIGN : PySem.W.nsIn K mainGlobals "LEAST_SIGN" = some (some (.str " " t_LEAST_SIGN)))
  {t_LETTERS : Tok}
  (v_LETTERS : PySem.W.nsIn K mainGlobals "LETTERS" = some (some (.str "abcdefghijklmnopqrstuvwxyz" t_LETTERS)))
  {t_MOST_DEPTH : Tok}
  (v_MOST_DEPTH : PySem.W.nsIn K mainGlobals "MOST_DEPTH" = some (some (.int 12 t_MOST_DEPTH)))
  {t_MOST_INTEGER : Tok}
  (v_MOST_INTEGER : PySem.W.nsIn K mainGlobals "MOST_INTEGER" = some (some (.int 999999999999999999999999999999 t_MOST_INTEGER)))
  {t_MOST_SIGNS : Tok}
  (v_MOST_SIGNS : PySem.W.nsIn K mainGlobals "MOST_SIGNS" = some (some (.int 200 t_MOST_SIGNS)))
  {t_MOST_SIGNS_OF_NAME : Tok}
  (v_MOST_SIGNS_OF_NAME : PySem.W.nsIn K mainGlobals "MOST_SIGNS_OF_NAME" = some (some (.int 8 t_MOST_SIGNS_OF_NAME)))
  {t0_COMPARED t1_COMPARED t2_COMPARED : Tok}
  {g_COMPARED : Addr} {d_COMPARED : Option Addr} {n_COMPARED : Nat} {s_COMPARED : Array (Option Value)} (v_COMPARED : PySem.W.nsIn K mainGlobals "COMPARED" = some (some (.ref g_COMPARED))) (w_COMPARED : K.lookup g_COMPARED = some ⟨.type "tuple", d_COMPARED, .seq #[.str "is" t0_COMPARED, .str "less" t1_COMPARED, .str "most" t2_COMPARED] n_COMPARED, s_COMPARED⟩)
  {t0_PAIRED t1_PAIRED : Tok}
  {g_PAIRED : Addr} {d_PAIRED : Option Addr} {n_PAIRED : Nat} {s_PAIRED : Array (Option Value)} (v_PAIRED : PySem.W.nsIn K mainGlobals "PAIRED" = some (some (.ref g_PAIRED))) (w_PAIRED : K.lookup g_PAIRED = some ⟨.type "tuple", d_PAIRED, .seq #[.str "and" t0_PAIRED, .str "or" t1_PAIRED] n_PAIRED, s_PAIRED⟩)
  (p_InvalidCondition : PySem.W.nsIn K mainGlobals "InvalidCondition" = some (some (.ref a_InvalidCondition))) (q_InvalidCondition : PySem.W.excIn K a_InvalidCondition [.type "ValueError", .type "Exception", .type "BaseException", .type "object"] "ValueError.__new__" = true) (r_InvalidCondition : PySem.W.keepIn K (.ref a_InvalidCondition) = true) (s_InvalidCondition : PySem.W.subIn K (.ref a_InvalidCondition) (.type "BaseException") = some true) (y_InvalidCondition : PySem.W.typeIn K (.ref a_InvalidCondition) = some (.type "type"))
  (p_InvalidRow : PySem.W.nsIn K mainGlobals "InvalidRow" = some (some (.ref a_InvalidRow))) (q_InvalidRow : PySem.W.excIn K a_InvalidRow [.type "ValueError", .type "Exception", .type "BaseException", .type "object"] "ValueError.__new__" = true) (r_InvalidRow : PySem.W.keepIn K (.ref a_InvalidRow) = true) (s_InvalidRow : PySem.W.subIn K (.ref a_InvalidRow) (.type "BaseException") = some true) (y_InvalidRow : PySem.W.typeIn K (.ref a_InvalidRow) = some (.type "type"))
  (p_StoreError : PySem.W.nsIn K mainGlobals "StoreError" = some (some (.ref a_StoreError))) (q_StoreError : PySem.W.excIn K a_StoreError [.type "ValueError", .type "Exception", .type "BaseException", .type "object"] "ValueError.__new__" = true) (r_StoreError : PySem.W.keepIn K (.ref a_StoreError) = true) (s_StoreError : PySem.W.subIn K (.ref a_StoreError) (.type "BaseException") = some true) (y_StoreError : PySem.W.typeIn K (.ref a_StoreError) = some (.type "type"))
  (h_InvalidCondition : PySem.W.hasDictIn K a_InvalidCondition = true)
  (h_InvalidRow : PySem.W.hasDictIn K a_InvalidRow = true)
  (h_StoreError : PySem.W.hasDictIn K a_StoreError = true)
  (m_InvalidCondition_InvalidCondition : PySem.W.subIn K (.ref a_InvalidCondition) (.ref a_InvalidCondition) = some true)
  (m_InvalidCondition_InvalidRow : PySem.W.subIn K (.ref a_InvalidCondition) (.ref a_InvalidRow) = some false)
  (m_InvalidRow_InvalidCondition : PySem.W.subIn K (.ref a_InvalidRow) (.ref a_InvalidCondition) = some false)
  (m_InvalidRow_InvalidRow : PySem.W.subIn K (.ref a_InvalidRow) (.ref a_InvalidRow) = some true)
  (u1_InvalidCondition : PySem.W.findIn K (.ref a_InvalidCondition) "__getattribute__" = some (some (.builtin "BaseException.__getattribute__")))
  (u2_InvalidCondition : PySem.W.findIn K (.ref a_InvalidCondition) "__getattr__" = some none)
  (u3_InvalidCondition : PySem.W.subIn K (.ref a_InvalidCondition) (.type "BaseException") = some true)
  (u4_InvalidCondition : PySem.W.hasDictIn K a_InvalidCondition = true) (u5_InvalidCondition : PySem.W.findIn K (.ref a_InvalidCondition) "__class__" = some (some (.builtin "object.__class__")))
  (u8_InvalidCondition : PySem.W.mroIn K a_InvalidCondition (.type "object") = some true)
  (u1_InvalidRow : PySem.W.findIn K (.ref a_InvalidRow) "__getattribute__" = some (some (.builtin "BaseException.__getattribute__")))
  (u2_InvalidRow : PySem.W.findIn K (.ref a_InvalidRow) "__getattr__" = some none)
  (u3_InvalidRow : PySem.W.subIn K (.ref a_InvalidRow) (.type "BaseException") = some true)
  (u4_InvalidRow : PySem.W.hasDictIn K a_InvalidRow = true) (u5_InvalidRow : PySem.W.findIn K (.ref a_InvalidRow) "__class__" = some (some (.builtin "object.__class__")))
  (u8_InvalidRow : PySem.W.mroIn K a_InvalidRow (.type "object") = some true)
  (u6 : PySem.W.specialIn K (.builtin "object.__class__") "__get__" = some (some (.builtin "getset_descriptor.__get__"))) (u7 : PySem.W.takesIn K (.builtin "object.__class__") = some true)
  (v_InvalidCondition_StoreError : PySem.W.subIn K (.ref a_InvalidCondition) (.ref a_StoreError) = some true)
  (v_InvalidRow_StoreError : PySem.W.subIn K (.ref a_InvalidRow) (.ref a_StoreError) = some true) :
  ∃ fd : FuncData, (∀ (s : Shared) (u : Value), BindsTo s fd ⟨[u], []⟩ [("script", u)]) ∧ ∀ base : Heap, K.In base → base.Ns mainGlobals mg → FnG P w K mg base 34 fa fd ["script"] (toSp K 1 sp_law) := by
  have T : Txt K mg := txt_mk X GN a0 l0 c0 k0 a1 l1 c1 k1 a2 l2 c2 k2 a3 l3 c3 k3 a4 l4 c4 k4 a5 l5 c5 k5 a6 l6 c6 k6 a7 l7 c7 k7 a8 l8 c8 k8 a9 l9 c9 k9 a10 l10 c10 k10 a11 l11 c11 k11 a12 l12 c12 k12 a13 l13 c13 k13 a14 l14 c14 k14 a15 l15 c15 k15 a16 l16 c16 k16 a17 l17 c17 k17 a18 l18 c18 k18 a19 l19 c19 k19 a20 l20 c20 k20 a21 l21 c21 k21 a22 l22 c22 k22 a23 l23 c23 k23 a24 l24 c24 k24 a25 l25 c25 k25 a26 l26 c26 k26 a27 l27 c27 k27 a28 l28 c28 k28 a29 l29 c29 k29 a30 l30 c30 k30 a31 l31 c31 k31 a32 l32 c32 k32 a33 l33 c33 k33 a34 l34 c34 k34 a35 l35 c35 k35 a36 l36 c36 k36 a37 l37 c37 k37 a38 l38 c38 k38 z_abs z_all z_bool z_int z_isinstance z_len z_list z_range z_repr z_set z_str z_tuple v_GREATEST_SIGN v_LEAST_SIGN v_LETTERS v_MOST_DEPTH v_MOST_INTEGER v_MOST_SIGNS v_MOST_SIGNS_OF_NAME v_COMPARED w_COMPARED v_PAIRED w_PAIRED p_InvalidCondition q_InvalidCondition r_InvalidCondition s_InvalidCondition y_InvalidCondition p_InvalidRow q_InvalidRow r_InvalidRow s_InvalidRow y_InvalidRow p_StoreError q_StoreError r_StoreError s_StoreError y_StoreError h_InvalidCondition h_InvalidRow h_StoreError m_InvalidCondition_InvalidCondition m_InvalidCondition_InvalidRow m_InvalidRow_InvalidCondition m_InvalidRow_InvalidRow u1_InvalidCondition u2_InvalidCondition u3_InvalidCondition u4_InvalidCondition u5_InvalidCondition u8_InvalidCondition u1_InvalidRow u2_InvalidRow u3_InvalidRow u4_InvalidRow u5_InvalidRow u8_InvalidRow u6 u7 v_InvalidCondition_StoreError v_InvalidRow_StoreError
  obtain ⟨fd, hb, hF⟩ := law_fn (P := P) (w := w) T.f_law (fun _ _ _ _ _ _ _ => rfl) (fun base => law_cal T) hm
  exact ⟨fd, hb, fun base _ _ => hF base⟩

end K23

open PySem PySem.W PyProof.Rows in
set_option maxRecDepth 100000 in
set_option maxHeartbeats 0 in
theorem PySem.Challenge.cw_heldlevels_k23_whole_truths_of_condition_holds : PySem.Challenge.rw_heldlevels_k23_whole_truths_of_condition.Holds := by
  w_on; o_law; k_head; (case hw => w_witness2)
  k_fill
  refine G.walkX (n := 63) (k := 34) (x := "script") (sp := fun w => G.toSp _ 1 G.spTrue) (by decide +kernel) (by decide) rfl ⟨⟨rfl, by decide, by decide⟩, rfl⟩ (fun w h Y => PySem.W.kIn_of Y) ?F (fun w H a ns h1 h2 _ hS => G.toSp_true h1 h2 hS)
  case F =>
    intro w mg fa h XP KX GN hmg
    refine' K23.all_mk hmg KX GN ?a0 ?l0 ?c0 ?k0 ?a1 ?l1 ?c1 ?k1 ?a2 ?l2 ?c2 ?k2 ?a3 ?l3 ?c3 ?k3 ?a4 ?l4 ?c4 ?k4 ?a5 ?l5 ?c5 ?k5 ?a6 ?l6 ?c6 ?k6 ?a7 ?l7 ?c7 ?k7 ?a8 ?l8 ?c8 ?k8 ?a9 ?l9 ?c9 ?k9 ?a10 ?l10 ?c10 ?k10 ?a11 ?l11 ?c11 ?k11 ?a12 ?l12 ?c12 ?k12 ?a13 ?l13 ?c13 ?k13 ?a14 ?l14 ?c14 ?k14 ?a15 ?l15 ?c15 ?k15 ?a16 ?l16 ?c16 ?k16 ?a17 ?l17 ?c17 ?k17 ?a18 ?l18 ?c18 ?k18 ?a19 ?l19 ?c19 ?k19 ?a20 ?l20 ?c20 ?k20 ?a21 ?l21 ?c21 ?k21 ?a22 ?l22 ?c22 ?k22 ?a23 ?l23 ?c23 ?k23 ?a24 ?l24 ?c24 ?k24 ?a25 ?l25 ?c25 ?k25 ?a26 ?l26 ?c26 ?k26 ?a27 ?l27 ?c27 ?k27 ?a28 ?l28 ?c28 ?k28 ?a29 ?l29 ?c29 ?k29 ?a30 ?l30 ?c30 ?k30 ?a31 ?l31 ?c31 ?k31 ?a32 ?l32 ?c32 ?k32 ?a33 ?l33 ?c33 ?k33 ?a34 ?l34 ?c34 ?k34 ?a35 ?l35 ?c35 ?k35 ?a36 ?l36 ?c36 ?k36 ?a37 ?l37 ?c37 ?k37 ?a38 ?l38 ?c38 ?k38 ?z_abs ?z_all ?z_bool ?z_int ?z_isinstance ?z_len ?z_list ?z_range ?z_repr ?z_set ?z_str ?z_tuple ?v_GREATEST_SIGN ?v_LEAST_SIGN ?v_LETTERS ?v_MOST_DEPTH ?v_MOST_INTEGER ?v_MOST_SIGNS ?v_MOST_SIGNS_OF_NAME ?v_COMPARED ?w_COMPARED ?v_PAIRED ?w_PAIRED ?p_InvalidCondition ?q_InvalidCondition ?r_InvalidCondition ?s_InvalidCondition ?y_InvalidCondition ?p_InvalidRow ?q_InvalidRow ?r_InvalidRow ?s_InvalidRow ?y_InvalidRow ?p_StoreError ?q_StoreError ?r_StoreError ?s_StoreError ?y_StoreError ?h_InvalidCondition ?h_InvalidRow ?h_StoreError ?m_InvalidCondition_InvalidCondition ?m_InvalidCondition_InvalidRow ?m_InvalidRow_InvalidCondition ?m_InvalidRow_InvalidRow ?u1_InvalidCondition ?u2_InvalidCondition ?u3_InvalidCondition ?u4_InvalidCondition ?u5_InvalidCondition ?u8_InvalidCondition ?u1_InvalidRow ?u2_InvalidRow ?u3_InvalidRow ?u4_InvalidRow ?u5_InvalidRow ?u8_InvalidRow ?u6 ?u7 ?v_InvalidCondition_StoreError ?v_InvalidRow_StoreError
    (case a0 => k_is)
    (case l0 => k_is)
    (case c0 => k_is)
    (case k0 => k_is)
    (case a1 => k_is)
    (case l1 => k_is)
    (case c1 => k_is)
    (case k1 => k_is)
    (case a2 => k_is)
    (case l2 => k_is)
    (case c2 => k_is)
    (case k2 => k_is)
    (case a3 => k_is)
    (case l3 => k_is)
    (case c3 => k_is)
    (case k3 => k_is)
    (case a4 => k_is)
    (case l4 => k_is)
    (case c4 => k_is)
    (case k4 => k_is)
    (case a5 => k_is)
    (case l5 => k_is)
    (case c5 => k_is)
    (case k5 => k_is)
    (case a6 => k_is)
    (case l6 => k_is)
    (case c6 => k_is)
    (case k6 => k_is)
    (case a7 => k_is)
    (case l7 => k_is)
    (case c7 => k_is)
    (case k7 => k_is)
    (case a8 => k_is)
    (case l8 => k_is)
    (case c8 => k_is)
    (case k8 => k_is)
    (case a9 => k_is)
    (case l9 => k_is)
    (case c9 => k_is)
    (case k9 => k_is)
    (case a10 => k_is)
    (case l10 => k_is)
    (case c10 => k_is)
    (case k10 => k_is)
    (case a11 => k_is)
    (case l11 => k_is)
    (case c11 => k_is)
    (case k11 => k_is)
    (case a12 => k_is)
    (case l12 => k_is)
    (case c12 => k_is)
    (case k12 => k_is)
    (case a13 => k_is)
    (case l13 => k_is)
    (case c13 => k_is)
    (case k13 => k_is)
    (case a14 => k_is)
    (case l14 => k_is)
    (case c14 => k_is)
    (case k14 => k_is)
    (case a15 => k_is)
    (case l15 => k_is)
    (case c15 => k_is)
    (case k15 => k_is)
    (case a16 => k_is)
    (case l16 => k_is)
    (case c16 => k_is)
    (case k16 => k_is)
    (case a17 => k_is)
    (case l17 => k_is)
    (case c17 => k_is)
    (case k17 => k_is)
    (case a18 => k_is)
    (case l18 => k_is)
    (case c18 => k_is)
    (case k18 => k_is)
    (case a19 => k_is)
    (case l19 => k_is)
    (case c19 => k_is)
    (case k19 => k_is)
    (case a20 => k_is)
    (case l20 => k_is)
    (case c20 => k_is)
    (case k20 => k_is)
    (case a21 => k_is)
    (case l21 => k_is)
    (case c21 => k_is)
    (case k21 => k_is)
    (case a22 => k_is)
    (case l22 => k_is)
    (case c22 => k_is)
    (case k22 => k_is)
    (case a23 => k_is)
    (case l23 => k_is)
    (case c23 => k_is)
    (case k23 => k_is)
    (case a24 => k_is)
    (case l24 => k_is)
    (case c24 => k_is)
    (case k24 => k_is)
    (case a25 => k_is)
    (case l25 => k_is)
    (case c25 => k_is)
    (case k25 => k_is)
    (case a26 => k_is)
    (case l26 => k_is)
    (case c26 => k_is)
    (case k26 => k_is)
    (case a27 => k_is)
    (case l27 => k_is)
    (case c27 => k_is)
    (case k27 => k_is)
    (case a28 => k_is)
    (case l28 => k_is)
    (case c28 => k_is)
    (case k28 => k_is)
    (case a29 => k_is)
    (case l29 => k_is)
    (case c29 => k_is)
    (case k29 => k_is)
    (case a30 => k_is)
    (case l30 => k_is)
    (case c30 => k_is)
    (case k30 => k_is)
    (case a31 => k_is)
    (case l31 => k_is)
    (case c31 => k_is)
    (case k31 => k_is)
    (case a32 => k_is)
    (case l32 => k_is)
    (case c32 => k_is)
    (case k32 => k_is)
    (case a33 => k_is)
    (case l33 => k_is)
    (case c33 => k_is)
    (case k33 => k_is)
    (case a34 => k_is)
    (case l34 => k_is)
    (case c34 => k_is)
    (case k34 => k_is)
    (case a35 => k_is)
    (case l35 => k_is)
    (case c35 => k_is)
    (case k35 => k_is)
    (case a36 => k_is)
    (case l36 => k_is)
    (case c36 => k_is)
    (case k36 => k_is)
    (case a37 => k_is)
    (case l37 => k_is)
    (case c37 => k_is)
    (case k37 => k_is)
    (case a38 => k_is)
    (case l38 => k_is)
    (case c38 => k_is)
    (case k38 => k_is)
    (case z_abs => k_is)
    (case z_all => k_is)
    (case z_bool => k_is)
    (case z_int => k_is)
    (case z_isinstance => k_is)
    (case z_len => k_is)
    (case z_list => k_is)
    (case z_range => k_is)
    (case z_repr => k_is)
    (case z_set => k_is)
    (case z_str => k_is)
    (case z_tuple => k_is)
    (case v_GREATEST_SIGN => k_is)
    (case v_LEAST_SIGN => k_is)
    (case v_LETTERS => k_is)
    (case v_MOST_DEPTH => k_is)
    (case v_MOST_INTEGER => k_is)
    (case v_MOST_SIGNS => k_is)
    (case v_MOST_SIGNS_OF_NAME => k_is)
    (case v_COMPARED => k_is)
    (case w_COMPARED => k_is)
    (case v_PAIRED => k_is)
    (case w_PAIRED => k_is)
    (case p_InvalidCondition => k_is)
    (case q_InvalidCondition => k_exc)
    (case r_InvalidCondition => k_is)
    (case s_InvalidCondition => k_is)
    (case y_InvalidCondition => k_is)
    (case p_InvalidRow => k_is)
    (case q_InvalidRow => k_exc)
    (case r_InvalidRow => k_is)
    (case s_InvalidRow => k_is)
    (case y_InvalidRow => k_is)
    (case p_StoreError => k_is)
    (case q_StoreError => k_exc)
    (case r_StoreError => k_is)
    (case s_StoreError => k_is)
    (case y_StoreError => k_is)
    (case h_InvalidCondition => k_is)
    (case h_InvalidRow => k_is)
    (case h_StoreError => k_is)
    (case m_InvalidCondition_InvalidCondition => k_is)
    (case m_InvalidCondition_InvalidRow => k_is)
    (case m_InvalidRow_InvalidCondition => k_is)
    (case m_InvalidRow_InvalidRow => k_is)
    (case u1_InvalidCondition => k_is)
    (case u2_InvalidCondition => k_is)
    (case u3_InvalidCondition => k_is)
    (case u4_InvalidCondition => k_is)
    (case u5_InvalidCondition => k_is)
    (case u8_InvalidCondition => k_is)
    (case u1_InvalidRow => k_is)
    (case u2_InvalidRow => k_is)
    (case u3_InvalidRow => k_is)
    (case u4_InvalidRow => k_is)
    (case u5_InvalidRow => k_is)
    (case u8_InvalidRow => k_is)
    (case u6 => k_is)
    (case u7 => k_is)
    (case v_InvalidCondition_StoreError => k_is)
    (case v_InvalidRow_StoreError => k_is)
#print axioms PySem.Challenge.cw_heldlevels_k23_whole_truths_of_condition_holds
