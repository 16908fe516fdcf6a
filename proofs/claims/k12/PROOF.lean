import PyProof.Rows.All
import Wide.All
import OpenK.AllK
import Wide.FinOn
import HandS.ForMost
import HandS.ForExc
import HandS.Wide
import HandS.IsInst
import HandS.StrMore
import HandS.TupAny
import PyProof.StrOps2
import PyProof.Rows.StrPadFill
import HandS.EndBits
import KE.IntTextLaws
import HandS.More
import HandS.Style
import HandS.List
import KE.KRevSl
import PyProof.ReprLen
import HandS.TryMany
import PyProof.ExcBaseAll.ValueError
import HandS.Sort
import KE.KSortTupG
import KE.KDictPairs
import HandS.ExcIs
import HandS.ExcField
import HandS.SetKeys
import HandS.Strs
import PyProof.WalksMore
import PyProof.Rows.RuleB_bool
import HandS.Property
import KE.SortKeyed
import HandS.SortKw
import KE.DataCmp
import HandS.Keys
import HandS.ExcInit
import KE.KExcSuper
import KE.KExcLine
import HandS.Codes
import PyProof.Rows.StrCase
import PySem.Challenge.RW_heldlevels_k12_codes_told
set_option Elab.async false
set_option linter.all false
set_option maxRecDepth 100000
set_option maxHeartbeats 4000000
/-! G: programs read over plain data. -/
namespace G
open PySem PySem.Spec L2

/-- plain data: a flat value, a tuple, a list that nobody changes any more -/
inductive D where
  | v (x : V)
  | tup (ds : List D)
  | lst (ds : List D)
  /-- the script -/
  | scr (ns : List Int)
  /-- a dict that nobody changes any more: its keys, their values -/
  | dct (ks : List Key) (ds : List D)
  /-- a tuple of which it is known that it has no dict -/
  | tpf (ds : List D)
  /-- a caught exception: its class, the names of its fields (none: it has no dict), their values -/
  | exc (c : Value) (ks : Option (List Str)) (ds : List D)
abbrev Reg := Addr → Prop
/-- an object that may change -/
inductive MO where
  | lst (ds : List D)
  | ins (C dx : Addr) (fs : List (Str × D))
  | dK (kvs : List (Key × D))
abbrev Wd := Addr → Option MO
/-- what a slot of the frame holds: shared data, or a list of its own -/
inductive Sl where
  | sh (d : D)
  | om (o : MO)
abbrev Sl.ol (ds : List D) : Sl := .om (.lst ds)
abbrev Sl.od (kvs : List (Key × D)) : Sl := .om (.dK kvs)
abbrev Env := List (Option Sl)

abbrev D.int (i : Int) : D := .v (.int i)
abbrev D.str (s : Str) : D := .v (.str s)
abbrev D.bl (b : Bool) : D := .v (.bl b)
abbrev D.non : D := .v .non
abbrev D.ref (a : Addr) : D := .v (.ref a)

def emp : Hp := fun _ => none
def ImL (S : Reg) (H : Hp) (a : Addr) (xs : List V) : Prop := H a = some (.lst xs) ∧ ¬ S a
def ImS (K : PySem.W.Frag) (S : Reg) (H : Hp) (a : Addr) (xs : List V) : Prop := (Rd H a (.lst xs) ∧ ¬ S a) ∨ SqL K emp a xs
def ImT (K : PySem.W.Frag) (S : Reg) (H : Hp) (a : Addr) (xs : List V) : Prop := (H a = some (.tup xs) ∧ ¬ S a) ∨ SqT K emp a xs ∨ ∃ o, H a = some (.frz o (.tup xs)) ∧ ¬ S a
/-- an exception object of the class c, its dict, as it stands -/
def ExH (c : Value) (od : Option Addr) (a : Addr) : HO := .ext fun h => ∃ (oe : Obj) (vs : Array Value), h.get? a = some oe ∧ Zc c od oe ∧ oe.data = .fields vs
def XdAt (S : Reg) (H : Hp) (od : Option Addr) (n : Nat) (xs : List V) : Option (List Str) → Prop
  | none => od = none
  | some ks => ∃ d, od = some d ∧ (H d = some (.xd (ks.zip xs)) ∧ ¬ S d) ∧ ks.length = n
mutual
def Rep (K : PySem.W.Frag) (S : Reg) (H : Hp) : D → V → Prop
  | .v x, y => y = x
  | .tup ds, y => ∃ a xs, y = .ref a ∧ ImT K S H a xs ∧ Reps K S H ds xs
  | .lst ds, y => ∃ a xs, y = .ref a ∧ ImL S H a xs ∧ Reps K S H ds xs
  | .scr ns, y => ∃ a, y = .ref a ∧ ImS K S H a (ns.map V.int)
  | .dct ks ds, y => ∃ a xs, y = .ref a ∧ (H a = some (.dK (ks.zip xs)) ∧ ¬ S a) ∧ ks.length = ds.length ∧ Reps K S H ds xs
  | .tpf ds, y => ∃ a xs o, y = .ref a ∧ (H a = some (.frz o (.tup xs)) ∧ ¬ S a) ∧ o.dict = none ∧ Reps K S H ds xs
  | .exc c ks ds, y => ∃ a od xs, y = .ref a ∧ (H a = some (ExH c od a) ∧ ¬ S a) ∧ XdAt S H od ds.length xs ks ∧ Reps K S H ds xs
def Reps (K : PySem.W.Frag) (S : Reg) (H : Hp) : List D → List V → Prop
  | [], xs => xs = []
  | d :: ds, xs => ∃ x r, xs = x :: r ∧ Rep K S H d x ∧ Reps K S H ds r
end

/-- from one moment to a later one: F is not touched, what is no region of change stands -/
structure Stp (F : Reg) (S : Reg) (H : Hp) (S' : Reg) (H' : Hp) : Prop where
  keep : ∀ a o, ¬ S a → H a = some o → H' a = some o
  new : ∀ a, S' a → ¬ S a → H a = none
  dom : ∀ a, H' a = none → H a = none
  frn : ∀ a, F a → H' a = H a
theorem Stp.refl {F S : Reg} {H : Hp} : Stp F S H S H := ⟨fun _ _ _ e => e, fun _ a b => absurd a b, fun _ e => e, fun _ _ => rfl⟩
theorem Stp.trans {F S S1 S2 : Reg} {H H1 H2 : Hp} (a : Stp F S H S1 H1) (b : Stp F S1 H1 S2 H2) : Stp F S H S2 H2 where
  keep := fun x o hs e => by
    have e1 := a.keep x o hs e
    refine b.keep x o (fun hs1 => ?_) e1
    have := a.new x hs1 hs
    rw [this] at e; cases e
  new := fun x h2 hs => by
    by_cases h1 : S1 x
    · exact a.new x h1 hs
    · exact a.dom x (b.new x h2 h1)
  dom := fun x e => a.dom x (b.dom x e)
  frn := fun x hx => (b.frn x hx).trans (a.frn x hx)
theorem Stp.mono {F F' S S' : Reg} {H H' : Hp} (a : Stp F S H S' H') (h : ∀ x, F' x → F x) : Stp F' S H S' H' := ⟨a.keep, a.new, a.dom, fun x hx => a.frn x (h x hx)⟩
theorem Stp.rd {F S S' : Reg} {H H' : Hp} {a : Addr} {u : HO} (e : Stp F S H S' H') (h : Rd H a u ∧ ¬ S a) : Rd H' a u ∧ ¬ S' a := by
  obtain ⟨h, hs⟩ := h
  have hn : H a ≠ none := by
    rcases h with h | ⟨o, h⟩ <;> rw [h] <;> simp
  refine ⟨?_, fun hs' => hn (e.new a hs' hs)⟩
  rcases h with h | ⟨o, h⟩
  · exact .inl (e.keep a _ hs h)
  · exact .inr ⟨o, e.keep a _ hs h⟩
theorem Stp.imS {K : PySem.W.Frag} {F S S' : Reg} {H H' : Hp} {a : Addr} {xs : List V} (e : Stp F S H S' H') (h : ImS K S H a xs) : ImS K S' H' a xs := by
  rcases h with h | h
  · exact .inl (e.rd h)
  · exact .inr h
theorem Stp.imL {F S S' : Reg} {H H' : Hp} {a : Addr} {xs : List V} (e : Stp F S H S' H') (h : ImL S H a xs) : ImL S' H' a xs :=
  ⟨e.keep a _ h.2 h.1, fun hs' => by
    have := e.new a hs' h.2
    rw [h.1] at this; cases this⟩
theorem Stp.has {F S S' : Reg} {H H' : Hp} {a : Addr} {o : HO} (e : Stp F S H S' H') (h : H a = some o ∧ ¬ S a) : H' a = some o ∧ ¬ S' a :=
  ⟨e.keep a _ h.2 h.1, fun hs' => by
    have := e.new a hs' h.2
    rw [h.1] at this; cases this⟩
theorem Stp.imT {K : PySem.W.Frag} {F S S' : Reg} {H H' : Hp} {a : Addr} {xs : List V} (e : Stp F S H S' H') (h : ImT K S H a xs) : ImT K S' H' a xs := by
  rcases h with ⟨h, hs⟩ | h | ⟨o, h⟩
  · refine .inl ⟨e.keep a _ hs h, fun hs' => ?_⟩
    have := e.new a hs' hs
    rw [h] at this; cases this
  · exact .inr (.inl h)
  · exact .inr (.inr ⟨o, e.has h⟩)
theorem Stp.xd {F S S' : Reg} {H H' : Hp} {od : Option Addr} {n : Nat} {xs : List V} (e : Stp F S H S' H') : ∀ {ks : Option (List Str)}, XdAt S H od n xs ks → XdAt S' H' od n xs ks
  | none, h => h
  | some ks, ⟨d, h1, h2, h3⟩ => ⟨d, h1, e.has h2, h3⟩
mutual
theorem Rep.up {K : PySem.W.Frag} {F S S' : Reg} {H H' : Hp} (e : Stp F S H S' H') : ∀ {d : D} {v : V}, Rep K S H d v → Rep K S' H' d v
  | .v _, _, h => by simp only [Rep] at h ⊢; exact h
  | .tup ds, v, h => by
    simp only [Rep] at h ⊢
    obtain ⟨a, xs, e1, h1, h2⟩ := h
    exact ⟨a, xs, e1, e.imT h1, Reps.up e h2⟩
  | .lst ds, v, h => by
    simp only [Rep] at h ⊢
    obtain ⟨a, xs, e1, h1, h2⟩ := h
    exact ⟨a, xs, e1, e.imL h1, Reps.up e h2⟩
  | .scr ns, v, h => by
    simp only [Rep] at h ⊢
    obtain ⟨a, e1, h1⟩ := h
    exact ⟨a, e1, e.imS h1⟩
  | .dct ks ds, v, h => by
    simp only [Rep] at h ⊢
    obtain ⟨a, xs, e1, ⟨h1, hs⟩, hl, h2⟩ := h
    refine ⟨a, xs, e1, ⟨e.keep a _ hs h1, fun hs' => ?_⟩, hl, Reps.up e h2⟩
    have := e.new a hs' hs
    rw [h1] at this; cases this
  | .tpf ds, v, h => by
    simp only [Rep] at h ⊢
    obtain ⟨a, xs, o, e1, h0, h1, h2⟩ := h
    exact ⟨a, xs, o, e1, e.has h0, h1, Reps.up e h2⟩
  | .exc c ks ds, v, h => by
    simp only [Rep] at h ⊢
    obtain ⟨a, od, xs, e1, h0, h1, h2⟩ := h
    exact ⟨a, od, xs, e1, e.has h0, e.xd h1, Reps.up e h2⟩
theorem Reps.up {K : PySem.W.Frag} {F S S' : Reg} {H H' : Hp} (e : Stp F S H S' H') : ∀ {ds : List D} {vs : List V}, Reps K S H ds vs → Reps K S' H' ds vs
  | [], _, h => by simp only [Reps] at h ⊢; exact h
  | d :: ds, vs, h => by
    simp only [Reps] at h ⊢
    obtain ⟨x, r, e1, h1, h2⟩ := h
    exact ⟨x, r, e1, Rep.up e h1, Reps.up e h2⟩
end
theorem emp_l {K : PySem.W.Frag} {H : Hp} {a : Addr} {xs : List V} (h : SqL K emp a xs) : SqL K H a xs := by
  rcases h with (h | ⟨_, h⟩) | h
  · cases h
  · cases h
  · exact .inr h
theorem emp_t {K : PySem.W.Frag} {H : Hp} {a : Addr} {xs : List V} (h : SqT K emp a xs) : SqT K H a xs := by
  rcases h with (h | ⟨_, h⟩) | h
  · cases h
  · cases h
  · exact .inr h
theorem ImS.sq {K : PySem.W.Frag} {S : Reg} {H : Hp} {a : Addr} {xs : List V} (h : ImS K S H a xs) : SqL K H a xs := by
  rcases h with h | h
  · exact .inl h.1
  · exact emp_l h
theorem ImL.sq {K : PySem.W.Frag} {S : Reg} {H : Hp} {a : Addr} {xs : List V} (h : ImL S H a xs) : SqL K H a xs := SqL.of h.1
theorem ImT.sq {K : PySem.W.Frag} {S : Reg} {H : Hp} {a : Addr} {xs : List V} (h : ImT K S H a xs) : SqT K H a xs := by
  rcases h with h | h | ⟨o, h⟩
  · exact SqT.of h.1
  · exact emp_t h
  · exact .inl (.inr ⟨o, h.1⟩)
section
variable {K : PySem.W.Frag} {S : Reg} {H : Hp} {d : D} {ds : List D} {v : V} {vs : List V}
theorem Rep.v_iff {x : V} : Rep K S H (.v x) v ↔ v = x := by simp only [Rep]
theorem Rep.tup_iff : Rep K S H (.tup ds) v ↔ ∃ a xs, v = .ref a ∧ ImT K S H a xs ∧ Reps K S H ds xs := by simp only [Rep]
theorem Rep.lst_iff : Rep K S H (.lst ds) v ↔ ∃ a xs, v = .ref a ∧ ImL S H a xs ∧ Reps K S H ds xs := by simp only [Rep]
theorem Rep.scr_iff {ns : List Int} : Rep K S H (.scr ns) v ↔ ∃ a, v = .ref a ∧ ImS K S H a (ns.map V.int) := by simp only [Rep]
theorem Rep.dct_iff {ks : List Key} : Rep K S H (.dct ks ds) v ↔ ∃ a xs, v = .ref a ∧ (H a = some (.dK (ks.zip xs)) ∧ ¬ S a) ∧ ks.length = ds.length ∧ Reps K S H ds xs := by simp only [Rep]
theorem Rep.tpf_iff : Rep K S H (.tpf ds) v ↔ ∃ a xs o, v = .ref a ∧ (H a = some (.frz o (.tup xs)) ∧ ¬ S a) ∧ o.dict = none ∧ Reps K S H ds xs := by simp only [Rep]
theorem Rep.exc_iff {c : Value} {ks : Option (List Str)} : Rep K S H (.exc c ks ds) v ↔ ∃ a od xs, v = .ref a ∧ (H a = some (ExH c od a) ∧ ¬ S a) ∧ XdAt S H od ds.length xs ks ∧ Reps K S H ds xs := by simp only [Rep]
theorem Reps.nil_iff : Reps K S H [] vs ↔ vs = [] := by simp only [Reps]
theorem Reps.cons_iff : Reps K S H (d :: ds) vs ↔ ∃ x r, vs = x :: r ∧ Rep K S H d x ∧ Reps K S H ds r := by simp only [Reps]
theorem Reps.nil : Reps K S H [] [] := Reps.nil_iff.mpr rfl
theorem Reps.cons (h : Rep K S H d v) (r : Reps K S H ds vs) : Reps K S H (d :: ds) (v :: vs) := Reps.cons_iff.mpr ⟨_, _, rfl, h, r⟩
theorem Reps.length : ∀ {ds : List D} {vs : List V}, Reps K S H ds vs → vs.length = ds.length
  | [], vs, h => by rw [Reps.nil_iff.mp h] <;> rfl
  | d :: ds, vs, h => by
    obtain ⟨x, r, rfl, _, h2⟩ := Reps.cons_iff.mp h
    simp [Reps.length h2]
theorem Reps.append : ∀ {ds es : List D} {vs ws : List V}, Reps K S H ds vs → Reps K S H es ws → Reps K S H (ds ++ es) (vs ++ ws)
  | [], _, _, _, h, h2 => by rw [Reps.nil_iff.mp h]; exact h2
  | d :: ds, _, _, _, h, h2 => by
    obtain ⟨x, r, rfl, h1, h3⟩ := Reps.cons_iff.mp h
    exact Reps.cons h1 (Reps.append h3 h2)
theorem Reps.get : ∀ {ds : List D} {vs : List V} {i : Nat} {d : D}, Reps K S H ds vs → ds[i]? = some d → ∃ v, vs[i]? = some v ∧ Rep K S H d v
  | [], _, i, _, _, e => by simp at e
  | d :: ds, _, 0, d', h, e => by
    obtain ⟨x, r, rfl, h1, _⟩ := Reps.cons_iff.mp h
    simp at e; subst e
    exact ⟨x, rfl, h1⟩
  | d :: ds, _, i + 1, d', h, e => by
    obtain ⟨x, r, rfl, _, h2⟩ := Reps.cons_iff.mp h
    obtain ⟨v, e1, h3⟩ := Reps.get (i := i) h2 (by simpa using e)
    exact ⟨v, by simpa using e1, h3⟩
theorem Reps.get' : ∀ {ds : List D} {vs : List V} {i : Nat} {v : V}, Reps K S H ds vs → vs[i]? = some v → ∃ d, ds[i]? = some d ∧ Rep K S H d v := fun {ds vs i v} h e => by
  have hl := h.length
  have hi : i < vs.length := (List.getElem?_eq_some_iff.mp e).1
  have hd : ds[i]? = some ds[i] := List.getElem?_eq_getElem (by omega)
  obtain ⟨v', e1, h1⟩ := h.get hd
  rw [e] at e1; cases e1
  exact ⟨_, hd, h1⟩
theorem Reps.take (n : Nat) : ∀ {ds : List D} {vs : List V}, Reps K S H ds vs → Reps K S H (ds.take n) (vs.take n) := by
  induction n with
  | zero => intro ds vs _; exact Reps.nil
  | succ n ih =>
    intro ds vs h
    cases ds with
    | nil => rw [Reps.nil_iff.mp h]; exact Reps.nil
    | cons d ds =>
      obtain ⟨x, r, rfl, h1, h2⟩ := Reps.cons_iff.mp h
      exact Reps.cons h1 (ih h2)
theorem Reps.drop (n : Nat) : ∀ {ds : List D} {vs : List V}, Reps K S H ds vs → Reps K S H (ds.drop n) (vs.drop n) := by
  induction n with
  | zero => intro ds vs h; exact h
  | succ n ih =>
    intro ds vs h
    cases ds with
    | nil => rw [Reps.nil_iff.mp h]; exact Reps.nil
    | cons d ds =>
      obtain ⟨x, r, rfl, h1, h2⟩ := Reps.cons_iff.mp h
      exact ih h2
theorem Reps.set {d : D} {v : V} (hd : Rep K S H d v) : ∀ (n : Nat) {ds : List D} {vs : List V}, Reps K S H ds vs → Reps K S H (ds.set n d) (vs.set n v)
  | n, [], _, h => by rw [Reps.nil_iff.mp h]; exact Reps.nil
  | 0, d' :: ds, _, h => by
    obtain ⟨x, r, rfl, h1, h2⟩ := Reps.cons_iff.mp h
    exact Reps.cons hd h2
  | n + 1, d' :: ds, _, h => by
    obtain ⟨x, r, rfl, h1, h2⟩ := Reps.cons_iff.mp h
    exact Reps.cons h1 (Reps.set hd n h2)
theorem Reps.map_v (xs : List V) : Reps K S H (xs.map D.v) xs := by
  induction xs with
  | nil => exact Reps.nil
  | cons x xs ih => exact Reps.cons (Rep.v_iff.mpr rfl) ih
theorem Reps.of_map_v : ∀ {xs vs : List V}, Reps K S H (xs.map D.v) vs → vs = xs
  | [], vs, h => Reps.nil_iff.mp h
  | x :: xs, vs, h => by
    obtain ⟨y, r, rfl, h1, h2⟩ := Reps.cons_iff.mp h
    rw [Rep.v_iff.mp h1, Reps.of_map_v h2]
end

/-! ### the state -/
def MRep (K : PySem.W.Frag) (S : Reg) (H : Hp) (p : Addr) : MO → Prop
  | .lst ds => ∃ xs, H p = some (.lst xs) ∧ Reps K S H ds xs
  | .ins C dx fs => ∃ vs, H p = some (.ins C dx vs) ∧ vs.map (·.1) = fs.map (·.1) ∧ Reps K S H (fs.map (·.2)) (vs.map (·.2))
  | .dK kvs => ∃ vs, H p = some (.dK vs) ∧ vs.map (·.1) = kvs.map (·.1) ∧ Reps K S H (kvs.map (·.2)) (vs.map (·.2))
/-- without the frame -/
structure Cb (K : PySem.W.Frag) (F S : Reg) (H : Hp) (W : Wd) : Prop where
  sd : ∀ a, S a → H a ≠ none
  fs : ∀ a, F a → S a
  w : ∀ p o, W p = some o → S p ∧ ¬ F p ∧ MRep K S H p o
def Own (σ : St) (ρ : Env) (i : Nat) (p : Addr) : Prop := ∃ o, ρ[i]? = some (some (.om o)) ∧ σ[i]? = some (some (.ref p))
def OwnSet (σ : St) (ρ : Env) : Reg := fun p => ∃ i, Own σ ρ i p
structure Cf (K : PySem.W.Frag) (F S : Reg) (H : Hp) (σ : St) (ρ : Env) (W : Wd) : Prop where
  cb : Cb K F S H W
  len : σ.length = ρ.length
  sh : ∀ (i : Nat) d, ρ[i]? = some (some (.sh d)) → ∃ v, σ[i]? = some (some v) ∧ Rep K S H d v
  om : ∀ (i : Nat) o, ρ[i]? = some (some (.om o)) → ∃ p, σ[i]? = some (some (.ref p)) ∧ MRep K S H p o ∧ S p ∧ ¬ F p ∧ W p = none
  dis : ∀ i j p, Own σ ρ i p → Own σ ρ j p → i = j
theorem MRep.up {K : PySem.W.Frag} {F S S' : Reg} {H H' : Hp} (e : Stp F S H S' H') {p : Addr} {o : MO} (hp : H' p = H p) (h : MRep K S H p o) : MRep K S' H' p o := by
  cases o with
  | lst ds => obtain ⟨xs, h1, h2⟩ := h; exact ⟨xs, hp.trans h1, h2.up e⟩
  | ins C dx fs => obtain ⟨xs, h1, h2, h3⟩ := h; exact ⟨xs, hp.trans h1, h2, h3.up e⟩
  | dK fs => obtain ⟨xs, h1, h2, h3⟩ := h; exact ⟨xs, hp.trans h1, h2, h3.up e⟩
section
variable {K : PySem.W.Frag} {F S S' : Reg} {H H' : Hp} {σ : St} {ρ : Env} {W W' : Wd}
/-- the heap has grown alone -/
theorem stp_same (c : Cb K F S H W) (e : Same H H') : Stp F S H S H' where
  keep := fun a o _ h => e a o h
  new := fun a h1 h2 => absurd h1 h2
  dom := fun a h => by
    cases q : H a with
    | none => rfl
    | some o => rw [e a o q] at h; cases h
  frn := fun a hf => by
    cases q : H a with
    | none => exact absurd q (c.sd a (c.fs a hf))
    | some o => exact e a o q
theorem Cb.same (c : Cb K F S H W) (e : Same H H') : Cb K F S H' W where
  sd := fun a hs q => c.sd a hs ((stp_same c e).dom a q)
  fs := c.fs
  w := fun p o hw => by
    obtain ⟨h1, h2, h3⟩ := c.w p o hw
    refine ⟨h1, h2, h3.up (stp_same c e) ?_⟩
    cases q : H p with
    | none => exact absurd q (c.sd p h1)
    | some o => exact e p o q
theorem Cf.same (c : Cf K F S H σ ρ W) (e : Same H H') : Cf K F S H' σ ρ W where
  cb := c.cb.same e
  len := c.len
  sh := fun i d h => by
    obtain ⟨v, h1, h2⟩ := c.sh i d h
    exact ⟨v, h1, h2.up (stp_same c.cb e)⟩
  om := fun i o h => by
    obtain ⟨p, h1, h2, h4⟩ := c.om i o h
    refine ⟨p, h1, h2.up (stp_same c.cb e) ?_, h4⟩
    cases q : H p with
    | none => exact absurd q (c.cb.sd p h4.1)
    | some o => exact e p o q
  dis := c.dis
/-- what a callee sees: the frame's own lists are foreign to it -/
theorem Cf.below (c : Cf K F S H σ ρ W) : Cb K (fun a => F a ∨ OwnSet σ ρ a) S H W where
  sd := c.cb.sd
  fs := fun a h => by
    rcases h with h | ⟨i, ds, h1, h2⟩
    · exact c.cb.fs a h
    · obtain ⟨p, e1, _, hs, _⟩ := c.om i ds h1
      rw [h2] at e1; cases e1; exact hs
  w := fun p o hw => by
    obtain ⟨h1, h2, h3⟩ := c.cb.w p o hw
    refine ⟨h1, fun h => ?_, h3⟩
    rcases h with h | ⟨i, ds, q1, q2⟩
    · exact h2 h
    · obtain ⟨p', e1, _, _, _, hw'⟩ := c.om i ds q1
      rw [q2] at e1; cases e1
      rw [hw] at hw'; cases hw'
theorem Cf.back (c : Cf K F S H σ ρ W) (e : Stp (fun a => F a ∨ OwnSet σ ρ a) S H S' H') (b : Cb K (fun a => F a ∨ OwnSet σ ρ a) S' H' W') : Cf K F S' H' σ ρ W' where
  cb := ⟨b.sd, fun a h => b.fs a (.inl h), fun p o hw => by
    obtain ⟨h1, h2, h3⟩ := b.w p o hw
    exact ⟨h1, fun h => h2 (.inl h), h3⟩⟩
  len := c.len
  sh := fun i d h => by
    obtain ⟨v, h1, h2⟩ := c.sh i d h
    exact ⟨v, h1, h2.up e⟩
  om := fun i ds h => by
    obtain ⟨p, h1, h2, h4, h5, h6⟩ := c.om i ds h
    have ho : OwnSet σ ρ p := ⟨i, ds, h, h1⟩
    refine ⟨p, h1, h2.up e (e.frn p (.inr ho)), b.fs p (.inr ho), h5, ?_⟩
    cases q : W' p with
    | none => rfl
    | some o => exact absurd (.inr ho) (b.w p o q).2.1
  dis := c.dis
end

/-! ### readings over data -/
abbrev KD := D → Env → Wd → Prop
abbrev KB := Bool → Env → Wd → Prop
abbrev KL := List D → Env → Wd → Prop
/-- a wish about exceptions: the class, its fields -/
abbrev KX := Value → Option (List (Str × D)) → Env → Wd → Prop
abbrev TD := Env → Wd → KD → KX → Prop
abbrev TB := Env → Wd → KB → KX → Prop
abbrev TL := Env → Wd → KL → KX → Prop
def XRep (K : PySem.W.Frag) (S : Reg) (H : Hp) : Option (List (Str × D)) → Option Addr → Prop
  | none, d => d = none
  | some fs, d => ∃ a vs, d = some a ∧ H a = some (.xd vs) ∧ ¬ S a ∧ vs.map (·.1) = fs.map (·.1) ∧ Reps K S H (fs.map (·.2)) (vs.map (·.2))
/-- how a wish of exceptions over data lies in one over the heap -/
def LkX (K : PySem.W.Frag) (F S : Reg) (H : Hp) (Wx : WX) (Qx : KX) : Prop :=
  ∀ S' H' σ' ρ' W' cls x od, Stp F S H S' H' → Cf K F S' H' σ' ρ' W' → XRep K S' H' x od → Qx cls x ρ' W' → Wx cls od σ' H'
theorem LkX.up {K : PySem.W.Frag} {F S S1 : Reg} {H H1 : Hp} {Wx : WX} {Qx : KX} (h : LkX K F S H Wx Qx) (e : Stp F S H S1 H1) : LkX K F S1 H1 Wx Qx :=
  fun S' H' σ' ρ' W' cls x od e' c xr q => h S' H' σ' ρ' W' cls x od (e.trans e') c xr q
def EndE (K : PySem.W.Frag) (F S : Reg) (H : Hp) (σ : St) (Q : KD) (R : VK) : Prop :=
  ∀ S' H' ρ' W' d v, Stp F S H S' H' → Cf K F S' H' σ ρ' W' → Rep K S' H' d v → Q d ρ' W' → R v H'
def EndB (K : PySem.W.Frag) (F S : Reg) (H : Hp) (σ : St) (Q : KB) (R : Bool → Hp → Prop) : Prop :=
  ∀ S' H' ρ' W' b, Stp F S H S' H' → Cf K F S' H' σ ρ' W' → Q b ρ' W' → R b H'
def EndL (K : PySem.W.Frag) (F S : Reg) (H : Hp) (σ : St) (Q : KL) (R : List V → Hp → Prop) : Prop :=
  ∀ S' H' ρ' W' ds vs, Stp F S H S' H' → Cf K F S' H' σ ρ' W' → Reps K S' H' ds vs → Q ds ρ' W' → R vs H'
def Snd (K : PySem.W.Frag) (Wx : WX) (te : TE) (f : TD) : Prop :=
  ∀ F S H σ ρ W Q Qx R, Cf K F S H σ ρ W → f ρ W Q Qx → LkX K F S H Wx Qx → EndE K F S H σ Q R → te σ H R
def SndB (K : PySem.W.Frag) (Wx : WX) (te : TT) (f : TB) : Prop :=
  ∀ F S H σ ρ W Q Qx R, Cf K F S H σ ρ W → f ρ W Q Qx → LkX K F S H Wx Qx → EndB K F S H σ Q R → te σ H R
def SndL (K : PySem.W.Frag) (Wx : WX) (te : TA) (f : TL) : Prop :=
  ∀ F S H σ ρ W Q Qx R, Cf K F S H σ ρ W → f ρ W Q Qx → LkX K F S H Wx Qx → EndL K F S H σ Q R → te σ H R
def GE (X : Cx) (Wx : WX) (e : Expr) (f : TD) : Prop := ∃ te, PE X e te ∧ Snd X.K Wx te f
def GT (X : Cx) (Wx : WX) (e : Expr) (f : TB) : Prop := ∃ te, PT X e te ∧ SndB X.K Wx te f
def GW (X : Cx) (Wx : WX) (e : Expr) (f : TB) : Prop := ∃ te, PW X e te ∧ SndB X.K Wx te f
def GA (X : Cx) (Wx : WX) (es : List Expr) (f : TL) : Prop := ∃ te, PA X es te ∧ SndL X.K Wx te f
section
variable {X : Cx} {Wx : WX} {a b c e : Expr} {es : List Expr} {f g h : TD} {fb gb : TB} {fl : TL} {pos : Pos}

def dVar (i : Nat) : TD := fun ρ W Q _ => match ρ[i]? with
  | some (some (.sh d)) => Q d ρ W
  | _ => False
theorem gv (i : Nat) {x : Str} {pos : Pos} (hN : X.N[i]? = some x := by rfl) (hv : Vis X.env.scope x := by first | exact Or.inl rfl | exact Or.inr (Or.inl rfl) | exact Or.inr (Or.inr rfl)) (hd : (x == ("__debug__" : Str)) = false := by decide)
    (hcd : (x == ("__classdict__" : Str)) = false := by decide) : GE X Wx (.Name x pos) (dVar i) := by
  refine ⟨_, pe_var hN hv hd hcd, fun F S H σ ρ W Q Qx R cf hf _ hE => ?_⟩
  unfold dVar at hf
  split at hf
  · rename_i d e
    obtain ⟨v, e1, h1⟩ := cf.sh i d e
    exact ⟨v, e1, hE S H ρ W d v .refl cf h1 hf⟩
  · exact hf.elim
def dC (x : V) : TD := fun ρ W Q _ => Q (.v x) ρ W
theorem snd_c {K : PySem.W.Frag} {x : V} : Snd K Wx (tC x) (dC x) := fun F S H σ ρ W Q Qx R cf hf _ hE => hE S H ρ W (.v x) x .refl cf (Rep.v_iff.mpr rfl) hf
theorem ge_int {i j pos} : GE X Wx (.Constant (.int i) j pos) (dC (.int i)) := ⟨_, pe_int, snd_c⟩
theorem ge_bl {i j pos} : GE X Wx (.Constant (.bool i) j pos) (dC (.bl i)) := ⟨_, pe_bl, snd_c⟩
theorem ge_non {j pos} : GE X Wx (.Constant .none j pos) (dC .non) := ⟨_, pe_non, snd_c⟩
theorem ge_str {x j pos} : GE X Wx (.Constant (.str x) j pos) (dC (.str x)) := ⟨_, pe_str, snd_c⟩
theorem ge_glob {x : Str} {v : V} {u : Value} {pos : Pos} (hg : Gl X x) (hm : X.mg x = some u) (r : RelV v u) (hd : (x == ("__debug__" : Str)) = false := by decide) : GE X Wx (.Name x pos) (dC v) := ⟨_, pe_glob hg hm r hd, snd_c⟩

/-- a two-place rule over data: pure, the heap grows alone -/
def RSnd (K : PySem.W.Frag) (r : R2) (g : D → D → (D → Prop) → Prop) : Prop :=
  ∀ F S H W d e x y (P : D → Prop) (R : VK), Cb K F S H W → Rep K S H d x → Rep K S H e y → g d e P → (∀ d' v H', Same H H' → Rep K S H' d' v → P d' → R v H') → r x y H R
def dOp (g : D → D → (D → Prop) → Prop) (fa fb : TD) : TD := fun ρ W Q Qx => fa ρ W (fun d ρ1 W1 => fb ρ1 W1 (fun e ρ2 W2 => g d e fun z => Q z ρ2 W2) Qx) Qx
theorem snd_op {K : PySem.W.Frag} {r : R2} {k : D → D → (D → Prop) → Prop} {ta tb : TE} (hr : RSnd K r k) (ha : Snd K Wx ta f) (hb : Snd K Wx tb g) : Snd K Wx (tOp r ta tb) (dOp k f g) := by
  intro F S H σ ρ W Q Qx R cf hf hx hE
  refine ha F S H σ ρ W _ Qx _ cf hf hx fun S1 H1 ρ1 W1 d v e1 c1 r1 q1 => ?_
  refine hb F S1 H1 σ ρ1 W1 _ Qx _ c1 q1 (hx.up e1) fun S2 H2 ρ2 W2 d2 v2 e2 c2 r2 q2 => ?_
  refine hr F S2 H2 W2 d d2 v v2 _ _ c2.cb (r1.up e2) r2 q2 fun d3 v3 H3 s3 r3 q3 => ?_
  exact hE S2 H3 ρ2 W2 d3 v3 ((e1.trans e2).trans (stp_same c2.cb s3)) (c2.same s3) r3 q3
theorem ge_op {op : Operator} {r : R2} {k : D → D → (D → Prop) → Prop} (ho : OpR X (binaryOp op) r) (hr : RSnd X.K r k) (ha : GE X Wx a f) (hb : GE X Wx b g) : GE X Wx (.BinOp a op b pos) (dOp k f g) := by
  obtain ⟨ta, pa, sa⟩ := ha
  obtain ⟨tb, pb, sb⟩ := hb
  exact ⟨_, pe_op ho pa pb, snd_op hr sa sb⟩
theorem ge_cmp {op : CmpOp} {r : R2} {k : D → D → (D → Prop) → Prop} (ho : OpR X (compareOp op) r) (hr : RSnd X.K r k) (ha : GE X Wx a f) (hb : GE X Wx b g) (hm : behindInMarks op b = false) : GE X Wx (.Compare a [op] [b] pos) (dOp k f g) := by
  obtain ⟨ta, pa, sa⟩ := ha
  obtain ⟨tb, pb, sb⟩ := hb
  exact ⟨_, pe_cmpR ho pa pb hm, snd_op hr sa sb⟩
/-- an expression whose value is a Boolean, as a test -/
def dBool (f : TD) : TB := fun ρ W Q Qx => f ρ W (fun d ρ' W' => match d with | .v (.bl b) => Q b ρ' W' | _ => False) Qx
theorem snd_tB {K : PySem.W.Frag} {te : TE} (ha : Snd K Wx te f) : SndB K Wx (tB te) (dBool f) := by
  intro F S H σ ρ W Q Qx R cf hf hx hE
  refine ha F S H σ ρ W _ Qx _ cf hf hx fun S1 H1 ρ1 W1 d v e1 c1 r1 q1 => ?_
  split at q1
  · rename_i b
    rw [Rep.v_iff] at r1
    exact ⟨b, r1, hE S1 H1 ρ1 W1 b e1 c1 q1⟩
  · exact q1.elim
theorem gt_val (ha : GE X Wx e f) (he : ∀ whole, isTrue e X.env whole = (do let v ← whole; standAt e.pos; holding [v] (truthy v)) := by intro _; rfl) : GT X Wx e (dBool f) := by
  obtain ⟨ta, pa, sa⟩ := ha
  exact ⟨_, pt_val pa he, snd_tB sa⟩
theorem gt_cmp {op : CmpOp} {r : R2} {k : D → D → (D → Prop) → Prop} (ho : OpR X (compareOp op) r) (hr : RSnd X.K r k) (ha : GE X Wx a f) (hb : GE X Wx b g) (hm : behindInMarks op b = false) : GT X Wx (.Compare a [op] [b] pos) (dBool (dOp k f g)) := by
  obtain ⟨ta, pa, sa⟩ := ha
  obtain ⟨tb, pb, sb⟩ := hb
  exact ⟨_, pt_cmpR ho pa pb hm, snd_tB (snd_op hr sa sb)⟩
/-- a < b < c -/
def dChain (k k' : D → D → (D → Prop) → Prop) (fa fb fc : TD) : TD := fun ρ W Q Qx => fa ρ W (fun d ρ1 W1 => fb ρ1 W1 (fun e ρ2 W2 => k d e fun z =>
  match z with | .v (.bl true) => fc ρ2 W2 (fun c ρ3 W3 => k' e c fun z' => Q z' ρ3 W3) Qx | .v (.bl false) => Q (.bl false) ρ2 W2 | _ => False) Qx) Qx
theorem snd_chain {K : PySem.W.Frag} {r r' : R2} {k k' : D → D → (D → Prop) → Prop} {ta tb tc : TE} (hr : RSnd K r k) (hr' : RSnd K r' k') (ha : Snd K Wx ta f) (hb : Snd K Wx tb g) (hc : Snd K Wx tc h) : Snd K Wx (tChain r r' ta tb tc) (dChain k k' f g h) := by
  intro F S H σ ρ W Q Qx R cf hf hx hE
  refine ha F S H σ ρ W _ Qx _ cf hf hx fun S1 H1 ρ1 W1 d v e1 c1 r1 q1 => ?_
  refine hb F S1 H1 σ ρ1 W1 _ Qx _ c1 q1 (hx.up e1) fun S2 H2 ρ2 W2 d2 v2 e2 c2 r2 q2 => ?_
  refine hr F S2 H2 W2 d d2 v v2 _ _ c2.cb (r1.up e2) r2 q2 fun d3 v3 H3 s3 r3 q3 => ?_
  have e3 := (e1.trans e2).trans (stp_same c2.cb s3)
  split at q3
  · rw [Rep.v_iff] at r3
    refine ⟨true, r3, ?_⟩
    show tc σ H3 _
    refine hc F S2 H3 σ ρ2 W2 _ Qx _ (c2.same s3) q3 (hx.up e3) fun S4 H4 ρ4 W4 d4 v4 e4 c4 r4 q4 => ?_
    refine hr' F S4 H4 W4 d2 d4 v2 v4 _ _ c4.cb ((r2.up (stp_same c2.cb s3)).up e4) r4 q4 fun d5 v5 H5 s5 r5 q5 => ?_
    exact hE S4 H5 ρ4 W4 d5 v5 ((e3.trans e4).trans (stp_same c4.cb s5)) (c4.same s5) r5 q5
  · rw [Rep.v_iff] at r3
    refine ⟨false, r3, ?_⟩
    show R (.bl false) H3
    exact hE S2 H3 ρ2 W2 (.bl false) _ e3 (c2.same s3) (Rep.v_iff.mpr rfl) q3
  · exact q3.elim
theorem ge_chain {op op' : CmpOp} {r r' : R2} {k k' : D → D → (D → Prop) → Prop} (ho : OpR X (compareOp op) r) (ho' : OpR X (compareOp op') r') (hr : RSnd X.K r k) (hr' : RSnd X.K r' k') (ha : GE X Wx a f) (hb : GE X Wx b g) (hc : GE X Wx c h)
    (hm : lastMarks [op, op'] [b, c] = false := by with_unfolding_all rfl) : GE X Wx (.Compare a [op, op'] [b, c] pos) (dChain k k' f g h) := by
  obtain ⟨ta, pa, sa⟩ := ha
  obtain ⟨tb, pb, sb⟩ := hb
  obtain ⟨tc, pc, sc⟩ := hc
  exact ⟨_, pe_chain ho ho' pa pb pc hm, snd_chain hr hr' sa sb sc⟩
/-! ### and, or, not, if -/
def dNotB (f : TB) : TB := fun ρ W Q Qx => f ρ W (fun b ρ' W' => Q (!b) ρ' W') Qx
theorem gt_not (ha : GT X Wx a fb) : GT X Wx (.UnaryOp .Not a pos) (dNotB fb) := by
  obtain ⟨ta, pa, sa⟩ := ha
  refine ⟨_, pt_not pa, fun F S H σ ρ W Q Qx R cf hf hx hE => ?_⟩
  exact sa F S H σ ρ W _ Qx _ cf hf hx fun S1 H1 ρ1 W1 b e1 c1 q1 => hE S1 H1 ρ1 W1 _ e1 c1 q1
def dAndB (f g : TB) : TB := fun ρ W Q Qx => f ρ W (fun b ρ' W' => if b = true then g ρ' W' Q Qx else Q false ρ' W') Qx
def dOrB (f g : TB) : TB := fun ρ W Q Qx => f ρ W (fun b ρ' W' => if b = true then Q true ρ' W' else g ρ' W' Q Qx) Qx
theorem gw_and1 (ha : GT X Wx a fb) : GW X Wx (.BoolOp .And [a] pos) fb := by
  obtain ⟨ta, pa, sa⟩ := ha
  exact ⟨_, pw_and1 pa, sa⟩
theorem gw_or1 (ha : GT X Wx a fb) : GW X Wx (.BoolOp .Or [a] pos) fb := by
  obtain ⟨ta, pa, sa⟩ := ha
  exact ⟨_, pw_or1 pa, sa⟩
theorem snd_and {K : PySem.W.Frag} {t u : TT} (ha : SndB K Wx t fb) (hb : SndB K Wx u gb) : SndB K Wx (tAnd t u) (dAndB fb gb) := by
  intro F S H σ ρ W Q Qx R cf hf hx hE
  refine ha F S H σ ρ W _ Qx _ cf hf hx fun S1 H1 ρ1 W1 b e1 c1 q1 => ?_
  cases b with
  | true => exact hb F S1 H1 σ ρ1 W1 Q Qx R c1 q1 (hx.up e1) fun S2 H2 ρ2 W2 b e2 c2 q2 => hE S2 H2 ρ2 W2 b (e1.trans e2) c2 q2
  | false => exact hE S1 H1 ρ1 W1 false e1 c1 q1
theorem snd_or {K : PySem.W.Frag} {t u : TT} (ha : SndB K Wx t fb) (hb : SndB K Wx u gb) : SndB K Wx (tOr t u) (dOrB fb gb) := by
  intro F S H σ ρ W Q Qx R cf hf hx hE
  refine ha F S H σ ρ W _ Qx _ cf hf hx fun S1 H1 ρ1 W1 b e1 c1 q1 => ?_
  cases b with
  | false => exact hb F S1 H1 σ ρ1 W1 Q Qx R c1 q1 (hx.up e1) fun S2 H2 ρ2 W2 b e2 c2 q2 => hE S2 H2 ρ2 W2 b (e1.trans e2) c2 q2
  | true => exact hE S1 H1 ρ1 W1 true e1 c1 q1
theorem gw_and {rest : List Expr} (ha : GT X Wx a fb) (hb : GW X Wx (.BoolOp .And (b :: rest) pos) gb) : GW X Wx (.BoolOp .And (a :: b :: rest) pos) (dAndB fb gb) := by
  obtain ⟨ta, pa, sa⟩ := ha
  obtain ⟨tb, pb, sb⟩ := hb
  exact ⟨_, pw_and pa pb, snd_and sa sb⟩
theorem gw_or {rest : List Expr} (ha : GT X Wx a fb) (hb : GW X Wx (.BoolOp .Or (b :: rest) pos) gb) : GW X Wx (.BoolOp .Or (a :: b :: rest) pos) (dOrB fb gb) := by
  obtain ⟨ta, pa, sa⟩ := ha
  obtain ⟨tb, pb, sb⟩ := hb
  exact ⟨_, pw_or pa pb, snd_or sa sb⟩
theorem GW.gt (h : GW X Wx a fb) : GT X Wx a fb := by
  obtain ⟨ta, pa, sa⟩ := h
  exact ⟨_, pa.pt, sa⟩
/-- .. as values -/
def dAnd (f g : TD) : TD := fun ρ W Q Qx => f ρ W (fun d ρ' W' => match d with | .v (.bl true) => g ρ' W' Q Qx | .v (.bl false) => Q (.bl false) ρ' W' | _ => False) Qx
def dOr (f g : TD) : TD := fun ρ W Q Qx => f ρ W (fun d ρ' W' => match d with | .v (.bl true) => Q (.bl true) ρ' W' | .v (.bl false) => g ρ' W' Q Qx | _ => False) Qx
def dNot (f : TD) : TD := fun ρ W Q Qx => f ρ W (fun d ρ' W' => match d with | .v (.bl b) => Q (.bl (!b)) ρ' W' | _ => False) Qx
theorem ge_one {op} (ha : GE X Wx a f) : GE X Wx (.BoolOp op [a] pos) f := by
  obtain ⟨ta, pa, sa⟩ := ha
  exact ⟨_, pe_one pa, sa⟩
theorem ge_and {rest : List Expr} (ha : GE X Wx a f) (hb : GE X Wx (.BoolOp .And (b :: rest) pos) g) : GE X Wx (.BoolOp .And (a :: b :: rest) pos) (dAnd f g) := by
  obtain ⟨ta, pa, sa⟩ := ha
  obtain ⟨tb, pb, sb⟩ := hb
  refine ⟨_, pe_and pa pb, fun F S H σ ρ W Q Qx R cf hf hx hE => ?_⟩
  refine sa F S H σ ρ W _ Qx _ cf hf hx fun S1 H1 ρ1 W1 d v e1 c1 r1 q1 => ?_
  split at q1
  · exact ⟨true, Rep.v_iff.mp r1, sb F S1 H1 σ ρ1 W1 Q Qx R c1 q1 (hx.up e1) fun S2 H2 ρ2 W2 d2 v2 e2 c2 r2 q2 => hE S2 H2 ρ2 W2 d2 v2 (e1.trans e2) c2 r2 q2⟩
  · exact ⟨false, Rep.v_iff.mp r1, hE S1 H1 ρ1 W1 _ _ e1 c1 (Rep.v_iff.mpr rfl) q1⟩
  · exact q1.elim
theorem ge_or {rest : List Expr} (ha : GE X Wx a f) (hb : GE X Wx (.BoolOp .Or (b :: rest) pos) g) : GE X Wx (.BoolOp .Or (a :: b :: rest) pos) (dOr f g) := by
  obtain ⟨ta, pa, sa⟩ := ha
  obtain ⟨tb, pb, sb⟩ := hb
  refine ⟨_, pe_or pa pb, fun F S H σ ρ W Q Qx R cf hf hx hE => ?_⟩
  refine sa F S H σ ρ W _ Qx _ cf hf hx fun S1 H1 ρ1 W1 d v e1 c1 r1 q1 => ?_
  split at q1
  · exact ⟨true, Rep.v_iff.mp r1, hE S1 H1 ρ1 W1 _ _ e1 c1 (Rep.v_iff.mpr rfl) q1⟩
  · exact ⟨false, Rep.v_iff.mp r1, sb F S1 H1 σ ρ1 W1 Q Qx R c1 q1 (hx.up e1) fun S2 H2 ρ2 W2 d2 v2 e2 c2 r2 q2 => hE S2 H2 ρ2 W2 d2 v2 (e1.trans e2) c2 r2 q2⟩
  · exact q1.elim
theorem ge_not (ha : GE X Wx a f) : GE X Wx (.UnaryOp .Not a pos) (dNot f) := by
  obtain ⟨ta, pa, sa⟩ := ha
  refine ⟨_, pe_not pa, fun F S H σ ρ W Q Qx R cf hf hx hE => ?_⟩
  refine sa F S H σ ρ W _ Qx _ cf hf hx fun S1 H1 ρ1 W1 d v e1 c1 r1 q1 => ?_
  split at q1
  · rename_i b
    exact ⟨b, Rep.v_iff.mp r1, hE S1 H1 ρ1 W1 _ _ e1 c1 (Rep.v_iff.mpr rfl) q1⟩
  · exact q1.elim
def dIf (t : TB) (f g : TD) : TD := fun ρ W Q Qx => t ρ W (fun b ρ' W' => if b = true then f ρ' W' Q Qx else g ρ' W' Q Qx) Qx
theorem ge_if (hc : GT X Wx c fb) (ha : GE X Wx a f) (hb : GE X Wx b g) : GE X Wx (.IfExp c a b pos) (dIf fb f g) := by
  obtain ⟨tc, pc, sc⟩ := hc
  obtain ⟨ta, pa, sa⟩ := ha
  obtain ⟨tb, pb, sb⟩ := hb
  refine ⟨_, pe_ifExp pc pa pb, fun F S H σ ρ W Q Qx R cf hf hx hE => ?_⟩
  refine sc F S H σ ρ W _ Qx _ cf hf hx fun S1 H1 ρ1 W1 k e1 c1 q1 => ?_
  cases k with
  | true => exact sa F S1 H1 σ ρ1 W1 Q Qx R c1 q1 (hx.up e1) fun S2 H2 ρ2 W2 d2 v2 e2 c2 r2 q2 => hE S2 H2 ρ2 W2 d2 v2 (e1.trans e2) c2 r2 q2
  | false => exact sb F S1 H1 σ ρ1 W1 Q Qx R c1 q1 (hx.up e1) fun S2 H2 ρ2 W2 d2 v2 e2 c2 r2 q2 => hE S2 H2 ρ2 W2 d2 v2 (e1.trans e2) c2 r2 q2
/-! ### arguments, displays -/
def dNil : TL := fun ρ W Q _ => Q [] ρ W
def dCons (f : TD) (g : TL) : TL := fun ρ W Q Qx => f ρ W (fun d ρ1 W1 => g ρ1 W1 (fun ds ρ2 W2 => Q (d :: ds) ρ2 W2) Qx) Qx
theorem ga_nil : GA X Wx [] dNil := ⟨_, pa_nil, fun F S H σ ρ W Q Qx R cf hf hx hE => hE S H ρ W [] [] .refl cf Reps.nil hf⟩
theorem snd_cons {K : PySem.W.Frag} {te : TE} {ta : TA} (he : Snd K Wx te f) (ha : SndL K Wx ta fl) : SndL K Wx (tCons te ta) (dCons f fl) := by
  intro F S H σ ρ W Q Qx R cf hf hx hE
  refine he F S H σ ρ W _ Qx _ cf hf hx fun S1 H1 ρ1 W1 d v e1 c1 r1 q1 => ?_
  refine ha F S1 H1 σ ρ1 W1 _ Qx _ c1 q1 (hx.up e1) fun S2 H2 ρ2 W2 ds vs e2 c2 r2 q2 => ?_
  exact hE S2 H2 ρ2 W2 _ _ (e1.trans e2) c2 (Reps.cons (r1.up e2) r2) q2
theorem ga_cons (he : GE X Wx e f) (ha : GA X Wx es fl) (hs : starEach (e :: es) X.env = (false, eval e X.env) :: starEach es X.env := by rfl) : GA X Wx (e :: es) (dCons f fl) := by
  obtain ⟨te, pe, se⟩ := he
  obtain ⟨ta, pa, sa⟩ := ha
  exact ⟨_, pa_cons pe pa hs, snd_cons se sa⟩
theorem same_new {H : Hp} {p : Addr} {o : HO} (h : H p = none) : Same H (upd H p o) := fun b u e => by
  rw [upd_ne (ne_of_none e h)]; exact e
def dTup (fl : TL) : TD := fun ρ W Q Qx => fl ρ W (fun ds ρ' W' => ds.length ≤ sizeLine ∧ Q (.tup ds) ρ' W') Qx
def dLst (fl : TL) : TD := fun ρ W Q Qx => fl ρ W (fun ds ρ' W' => ds.length ≤ sizeLine ∧ Q (.lst ds) ρ' W') Qx
theorem not_s {K : PySem.W.Frag} {F S : Reg} {H : Hp} {W : Wd} {p : Addr} (c : Cb K F S H W) (h : H p = none) : ¬ S p := fun hs => c.sd p hs h
theorem rep_newT {K : PySem.W.Frag} {F S : Reg} {H : Hp} {W : Wd} {p : Addr} {ds : List D} {vs : List V} (c : Cb K F S H W) (h : H p = none) (r : Reps K S H ds vs) : Rep K S (upd H p (.tup vs)) (.tup ds) (.ref p) :=
  Rep.tup_iff.mpr ⟨p, vs, rfl, .inl ⟨upd_same, not_s c h⟩, r.up (stp_same c (same_new h))⟩
theorem rep_newL {K : PySem.W.Frag} {F S : Reg} {H : Hp} {W : Wd} {p : Addr} {ds : List D} {vs : List V} (c : Cb K F S H W) (h : H p = none) (r : Reps K S H ds vs) : Rep K S (upd H p (.lst vs)) (.lst ds) (.ref p) :=
  Rep.lst_iff.mpr ⟨p, vs, rfl, ⟨upd_same, not_s c h⟩, r.up (stp_same c (same_new h))⟩
theorem ge_tup {x1} (ha : GA X Wx es fl) : GE X Wx (.Tuple es x1 pos) (dTup fl) := by
  obtain ⟨ta, pa, sa⟩ := ha
  refine ⟨_, pe_tup pa, fun F S H σ ρ W Q Qx R cf hf hx hE => ?_⟩
  refine sa F S H σ ρ W _ Qx _ cf hf hx fun S1 H1 ρ1 W1 ds vs e1 c1 r1 q1 => ?_
  refine ⟨by rw [r1.length]; exact q1.1, fun p hp => ?_⟩
  exact hE S1 _ ρ1 W1 _ _ (e1.trans (stp_same c1.cb (same_new hp))) (c1.same (same_new hp)) (rep_newT c1.cb hp r1) q1.2
theorem ge_lst (ha : GA X Wx es fl) : GE X Wx (.List es pos) (dLst fl) := by
  obtain ⟨ta, pa, sa⟩ := ha
  refine ⟨_, pe_lst pa, fun F S H σ ρ W Q Qx R cf hf hx hE => ?_⟩
  refine sa F S H σ ρ W _ Qx _ cf hf hx fun S1 H1 ρ1 W1 ds vs e1 c1 r1 q1 => ?_
  refine ⟨by rw [r1.length]; exact q1.1, fun p hp => ?_⟩
  exact hE S1 _ ρ1 W1 _ _ (e1.trans (stp_same c1.cb (same_new hp))) (c1.same (same_new hp)) (rep_newL c1.cb hp r1) q1.2
/-! ### calls of built-ins by values -/
def CSnd (K : PySem.W.Frag) (r : List V → Hp → VK → Prop) (g : List D → (D → Prop) → Prop) : Prop :=
  ∀ F S H W ds xs (P : D → Prop) (R : VK), Cb K F S H W → Reps K S H ds xs → g ds P → (∀ d' v H', Same H H' → Rep K S H' d' v → P d' → R v H') → r xs H R
def dCB (g : List D → (D → Prop) → Prop) (fl : TL) : TD := fun ρ W Q Qx => fl ρ W (fun ds ρ' W' => g ds fun z => Q z ρ' W') Qx
theorem snd_cb {K : PySem.W.Frag} {r : List V → Hp → VK → Prop} {k : List D → (D → Prop) → Prop} {ta : TA} (hr : CSnd K r k) (ha : SndL K Wx ta fl) : Snd K Wx (tCB r ta) (dCB k fl) := by
  intro F S H σ ρ W Q Qx R cf hf hx hE
  refine ha F S H σ ρ W _ Qx _ cf hf hx fun S1 H1 ρ1 W1 ds vs e1 c1 r1 q1 => ?_
  refine hr F S1 H1 W1 ds vs _ _ c1.cb r1 q1 fun d3 v3 H3 s3 r3 q3 => ?_
  exact hE S1 H3 ρ1 W1 d3 v3 (e1.trans (stp_same c1.cb s3)) (c1.same s3) r3 q3
theorem ge_callB {x : Str} {id : String} {p : Pos} {r : List V → Hp → VK → Prop} {k : List D → (D → Prop) → Prop} (hc : CallR X (.builtin id) r) (hr : CSnd X.K r k) (hg : Gl X x) (hm : X.mg x = none) (hv : bootBuiltins x = some (.builtin id)) (ha : GA X Wx (e :: es) fl) (hn : x ≠ "__name__" := by decide) (hdb : (x == ("__debug__" : Str)) = false := by decide)
    (he : starEach (e :: es) X.env = (false, eval e X.env) :: starEach es X.env := by rfl) (hpl : (backTo pos (starEach es X.env)).any (·.1) = false := by rfl) : GE X Wx (.Call (.Name x p) (e :: es) [] pos) (dCB k fl) := by
  obtain ⟨ta, pa, sa⟩ := ha
  exact ⟨_, pe_callB hc hg hm hv pa hn hdb he hpl, snd_cb hr sa⟩
theorem ge_callTy {x : Str} {id : String} {p : Pos} {r : List V → Hp → VK → Prop} {k : List D → (D → Prop) → Prop} (hc : CallR X (.type id) r) (hr : CSnd X.K r k) (hg : Gl X x) (hm : X.mg x = none) (hv : bootBuiltins x = some (.type id)) (ha : GA X Wx (e :: es) fl) (hn : x ≠ "__name__" := by decide) (hdb : (x == ("__debug__" : Str)) = false := by decide)
    (he : starEach (e :: es) X.env = (false, eval e X.env) :: starEach es X.env := by rfl) (hpl : (backTo pos (starEach es X.env)).any (·.1) = false := by rfl) : GE X Wx (.Call (.Name x p) (e :: es) [] pos) (dCB k fl) := by
  obtain ⟨ta, pa, sa⟩ := ha
  exact ⟨_, pe_callTy hc hg hm hv pa hn hdb he hpl, snd_cb hr sa⟩
end
end G

namespace G
open PySem PySem.Spec L2

/-! ### statements -/
abbrev KS := Env → Wd → Prop
structure EndsD where
  nx : KS
  rt : D → Wd → Prop
  bk : KS := fun _ _ => False
  ct : KS := fun _ _ => False
  ex : KX := fun _ _ _ _ => False
abbrev TSD := EndsD → Env → Wd → Prop
structure Lnk (K : PySem.W.Frag) (Wx : WX) (F S : Reg) (H : Hp) (De : EndsD) (Dh : Ends) : Prop where
  nx : ∀ S' H' σ' ρ' W', Stp F S H S' H' → Cf K F S' H' σ' ρ' W' → De.nx ρ' W' → Dh.nx σ' H'
  rt : ∀ S' H' σ' ρ' W' d v, Stp F S H S' H' → Cf K F S' H' σ' ρ' W' → Rep K S' H' d v → De.rt d W' → Dh.rt v H'
  bk : ∀ S' H' σ' ρ' W', Stp F S H S' H' → Cf K F S' H' σ' ρ' W' → De.bk ρ' W' → Dh.bk σ' H'
  ct : ∀ S' H' σ' ρ' W', Stp F S H S' H' → Cf K F S' H' σ' ρ' W' → De.ct ρ' W' → Dh.ct σ' H'
  ex : LkX K F S H Wx De.ex
theorem Lnk.up {K : PySem.W.Frag} {Wx : WX} {F S S1 : Reg} {H H1 : Hp} {De : EndsD} {Dh : Ends} (l : Lnk K Wx F S H De Dh) (e : Stp F S H S1 H1) : Lnk K Wx F S1 H1 De Dh where
  nx := fun S' H' σ' ρ' W' e' c q => l.nx S' H' σ' ρ' W' (e.trans e') c q
  rt := fun S' H' σ' ρ' W' d v e' c r q => l.rt S' H' σ' ρ' W' d v (e.trans e') c r q
  bk := fun S' H' σ' ρ' W' e' c q => l.bk S' H' σ' ρ' W' (e.trans e') c q
  ct := fun S' H' σ' ρ' W' e' c q => l.ct S' H' σ' ρ' W' (e.trans e') c q
  ex := l.ex.up e
def SndS (K : PySem.W.Frag) (Wx : WX) (t : TS) (f : TSD) : Prop :=
  ∀ F S H σ ρ W De Dh, Cf K F S H σ ρ W → f De ρ W → Lnk K Wx F S H De Dh → t Dh σ H
def GS (X : Cx) (Wx : WX) (st : Stmt) (f : TSD) : Prop := ∃ t, PS X st t ∧ SndS X.K Wx t f
def GSs (X : Cx) (Wx : WX) (st : List Stmt) (f : TSD) : Prop := ∃ t, PSs X st t ∧ SndS X.K Wx t f
section
variable {X : Cx} {Wx : WX} {st : Stmt} {rest : List Stmt} {f g : TSD} {e : Expr} {fe : TD} {pos : Pos}
def dNext : TSD := fun De ρ W => De.nx ρ W
def dSeq (f g : TSD) : TSD := fun De ρ W => f { De with nx := g De } ρ W
theorem gss_nil : GSs X Wx [] dNext := ⟨_, pss_nil, fun F S H σ ρ W De Dh cf hf l => l.nx S H σ ρ W .refl cf hf⟩
theorem snd_seq {K : PySem.W.Frag} {t u : TS} (ha : SndS K Wx t f) (hb : SndS K Wx u g) : SndS K Wx (tSeq t u) (dSeq f g) := fun F S H σ ρ W De Dh cf hf l =>
  ha F S H σ ρ W { De with nx := g De } { Dh with nx := u Dh } cf hf ⟨fun S' H' σ' ρ' W' e' c q => hb F S' H' σ' ρ' W' De Dh c q (l.up e'), l.rt, l.bk, l.ct, l.ex⟩
theorem gss_cons (h1 : GS X Wx st f) (h2 : GSs X Wx rest g) : GSs X Wx (st :: rest) (dSeq f g) := by
  obtain ⟨ta, pa, sa⟩ := h1
  obtain ⟨tb, pb, sb⟩ := h2
  exact ⟨_, pss_cons pa pb, snd_seq sa sb⟩
theorem gss_one (h1 : GS X Wx st f) : GSs X Wx [st] f := by
  obtain ⟨ta, pa, sa⟩ := h1
  exact ⟨_, pss_one pa, sa⟩
def dNever : TSD := fun _ _ _ => False
theorem gs_never : GS X Wx st dNever := ⟨_, ps_never, fun F S H σ ρ W De Dh cf hf l => hf.elim⟩
theorem gss_never : GSs X Wx rest dNever := ⟨_, pss_never, fun F S H σ ρ W De Dh cf hf l => hf.elim⟩
theorem gs_pass : GS X Wx (.Pass pos) dNext := ⟨_, ps_pass, fun F S H σ ρ W De Dh cf hf l => l.nx S H σ ρ W .refl cf hf⟩
def dBreak : TSD := fun De ρ W => De.bk ρ W
def dCont : TSD := fun De ρ W => De.ct ρ W
theorem gs_break : GS X Wx (.Break pos) dBreak := ⟨_, ps_break, fun F S H σ ρ W De Dh cf hf l => l.bk S H σ ρ W .refl cf hf⟩
theorem gs_cont : GS X Wx (.Continue pos) dCont := ⟨_, ps_continue, fun F S H σ ρ W De Dh cf hf l => l.ct S H σ ρ W .refl cf hf⟩
theorem gs_doc {x j pos pos'} : GS X Wx (.Expr (.Constant (.str x) j pos) pos') dNext := ⟨_, ps_doc, fun F S H σ ρ W De Dh cf hf l => l.nx S H σ ρ W .refl cf hf⟩
def dDrop (fe : TD) : TSD := fun De ρ W => fe ρ W (fun _ ρ' W' => De.nx ρ' W') De.ex
theorem gs_expr (he : GE X Wx e fe) (hs : swapsWith e none pos.line X.env = pure false := by rfl) : GS X Wx (.Expr e pos) (dDrop fe) := by
  obtain ⟨te, pe, se⟩ := he
  exact ⟨_, ps_expr pe hs, fun F S H σ ρ W De Dh cf hf l => se F S H σ ρ W _ De.ex _ cf hf l.ex fun S' H' ρ' W' d v e' c r q => l.nx S' H' σ ρ' W' e' c q⟩
def dRet (fe : TD) : TSD := fun De ρ W => fe ρ W (fun d _ W' => De.rt d W') De.ex
theorem gs_ret (he : GE X Wx e fe) : GS X Wx (.Return (some e) pos) (dRet fe) := by
  obtain ⟨te, pe, se⟩ := he
  exact ⟨_, ps_ret pe, fun F S H σ ρ W De Dh cf hf l => se F S H σ ρ W _ De.ex _ cf hf l.ex fun S' H' ρ' W' d v e' c r q => l.rt S' H' σ ρ' W' d v e' c r q⟩
def dRetN : TSD := fun De ρ W => De.rt .non W
theorem gs_retN : GS X Wx (.Return none pos) dRetN := ⟨_, ps_retN, fun F S H σ ρ W De Dh cf hf l => l.rt S H σ ρ W _ _ .refl cf (Rep.v_iff.mpr rfl) hf⟩
def dIfS (t : TB) (f g : TSD) : TSD := fun De ρ W => t ρ W (fun b ρ' W' => if b = true then f De ρ' W' else g De ρ' W') De.ex
theorem gs_if {c : Expr} {a b : List Stmt} {fc : TB} (hc : GT X Wx c fc) (ha : GSs X Wx a f) (hb : GSs X Wx b g) : GS X Wx (.If c a b pos) (dIfS fc f g) := by
  obtain ⟨tc, pc, sc⟩ := hc
  obtain ⟨ta, pa, sa⟩ := ha
  obtain ⟨tb, pb, sb⟩ := hb
  refine ⟨_, ps_if pc pa pb, fun F S H σ ρ W De Dh cf hf l => ?_⟩
  refine sc F S H σ ρ W _ De.ex _ cf hf l.ex fun S' H' ρ' W' b e' c q => ?_
  cases b with
  | true => exact sa F S' H' σ ρ' W' De Dh c q (l.up e')
  | false => exact sb F S' H' σ ρ' W' De Dh c q (l.up e')

/-! ### targets -/
abbrev TGD := D → Env → Wd → KS → Prop
abbrev TGLD := List D → Env → Wd → KS → Prop
/-- other slots than these are as they were -/
def Off {α : Type} (ts : List Nat) (l l' : List α) : Prop := l'.length = l.length ∧ ∀ j, j ∉ ts → l'[j]? = l[j]?
theorem Off.refl {α : Type} {ts : List Nat} {l : List α} : Off ts l l := ⟨rfl, fun _ _ => rfl⟩
theorem Off.set {α : Type} {l : List α} {i : Nat} {x : α} : Off [i] l (l.set i x) := ⟨by simp, fun j hj => by rw [List.getElem?_set_ne (by simpa [eq_comm] using hj)]⟩
theorem Off.trans {α : Type} {ts us : List Nat} {l l' l'' : List α} (a : Off ts l l') (b : Off us l' l'') : Off (ts ++ us) l l'' := ⟨b.1.trans a.1, fun j hj => by
  rw [List.mem_append, not_or] at hj
  exact (b.2 j hj.2).trans (a.2 j hj.1)⟩
def SndG (K : PySem.W.Frag) (t : TG) (g : TGD) (ts : List Nat) : Prop :=
  ∀ F S H σ ρ W d v (P : KS) (R : St → Hp → Prop), Cf K F S H σ ρ W → Rep K S H d v → g d ρ W P → (∀ S' H' σ' ρ' W', Stp F S H S' H' → Cf K F S' H' σ' ρ' W' → Off ts σ σ' → Off ts ρ ρ' → P ρ' W' → R σ' H') → t v σ H R
def SndGL (K : PySem.W.Frag) (t : TGs) (g : TGLD) (ts : List Nat) : Prop :=
  ∀ F S H σ ρ W ds vs (P : KS) (R : St → Hp → Prop), Cf K F S H σ ρ W → Reps K S H ds vs → g ds ρ W P → (∀ S' H' σ' ρ' W', Stp F S H S' H' → Cf K F S' H' σ' ρ' W' → Off ts σ σ' → Off ts ρ ρ' → P ρ' W' → R σ' H') → t vs σ H R
def GG (X : Cx) (target : Expr) (g : TGD) (us : List Nat) : Prop := ∃ t, PG X target t ∧ SndG X.K t g us
def GGs (X : Cx) (ts : List Expr) (g : TGLD) (us : List Nat) : Prop := ∃ t, PGs X ts t ∧ SndGL X.K t g us
end
/-- shared data into a slot -/
theorem Cf.setSh {K : PySem.W.Frag} {F S : Reg} {H : Hp} {σ : St} {ρ : Env} {W : Wd} (c : Cf K F S H σ ρ W) (i : Nat) {d : D} {v : V} (r : Rep K S H d v) : Cf K F S H (σ.set i (some v)) (ρ.set i (some (.sh d))) W where
  cb := c.cb
  len := by simp [c.len]
  sh := fun j d' h => by
    by_cases hj : i = j
    · subst hj
      have hl : i < ρ.length := by
        have := (List.getElem?_eq_some_iff.mp h).1
        simpa using this
      rw [List.getElem?_set_self hl] at h
      cases h
      exact ⟨v, by rw [List.getElem?_set_self (by rw [c.len]; exact hl)], r⟩
    · rw [List.getElem?_set_ne hj] at h
      obtain ⟨w, h1, h2⟩ := c.sh j d' h
      exact ⟨w, by rw [List.getElem?_set_ne hj]; exact h1, h2⟩
  om := fun j ds h => by
    by_cases hj : i = j
    · subst hj
      have hl : i < ρ.length := by
        have := (List.getElem?_eq_some_iff.mp h).1
        simpa using this
      rw [List.getElem?_set_self hl] at h
      cases h
    · rw [List.getElem?_set_ne hj] at h
      obtain ⟨p, h1, h2⟩ := c.om j ds h
      exact ⟨p, by rw [List.getElem?_set_ne hj]; exact h1, h2⟩
  dis := fun j k p h1 h2 => by
    have go : ∀ j, Own (σ.set i (some v)) (ρ.set i (some (.sh d))) j p → Own σ ρ j p := fun j ⟨ds, q1, q2⟩ => by
      by_cases hj : i = j
      · subst hj
        have hl : i < ρ.length := by
          have := (List.getElem?_eq_some_iff.mp q1).1
          simpa using this
        rw [List.getElem?_set_self hl] at q1
        cases q1
      · rw [List.getElem?_set_ne hj] at q1 q2
        exact ⟨ds, q1, q2⟩
    exact c.dis j k p (go j h1) (go k h2)
section
variable {X : Cx} {Wx : WX} {st : Stmt} {rest : List Stmt} {f g : TSD} {e : Expr} {fe : TD} {pos : Pos}
def gdName (i : Nat) : TGD := fun d ρ W P => P (ρ.set i (some (.sh d))) W
theorem snd_gName {K : PySem.W.Frag} {i : Nat} : SndG K (gName i) (gdName i) [i] := fun F S H σ ρ W d v P R cf r hp k => k S H _ _ W .refl (cf.setSh i r) .set .set hp
theorem gg_name {i : Nat} {x : Str} (hN : X.N.Nodup) (hi : X.N[i]? = some x) (hx : Loc X.env.scope x) (hf : X.fn x = true ∨ X.env.scope.names.lookup x = some .local := by first | exact .inl rfl | exact .inr rfl | assumption) : GG X (.Name x pos) (gdName i) [i] :=
  ⟨_, pg_name hN hi hx hf, snd_gName⟩
def gdNil : TGLD := fun ds ρ W P => match ds with | [] => P ρ W | _ => False
def gdCons (g : TGD) (h : TGLD) : TGLD := fun ds ρ W P => match ds with | d :: r => g d ρ W (fun ρ' W' => h r ρ' W' P) | _ => False
theorem ggs_nil : GGs X [] gdNil [] := ⟨_, pgs_nil, fun F S H σ ρ W ds vs P R cf r hp k => by
  unfold gdNil at hp
  split at hp
  · exact ⟨Reps.nil_iff.mp r, k S H _ _ W .refl cf .refl .refl hp⟩
  · exact hp.elim⟩
theorem ggs_cons {es : List Expr} {g : TGD} {h : TGLD} {ts us : List Nat} (h1 : GG X e g ts) (h2 : GGs X es h us) (hs : (assignEach (e :: es) X.env).map (·.2) = assign e X.env :: (assignEach es X.env).map (·.2) := by rfl) : GGs X (e :: es) (gdCons g h) (ts ++ us) := by
  obtain ⟨ta, pa, sa⟩ := h1
  obtain ⟨tb, pb, sb⟩ := h2
  refine ⟨_, pgs_cons pa pb hs, fun F S H σ ρ W ds vs P R cf r hp k => ?_⟩
  unfold gdCons at hp
  split at hp
  · rename_i d rd
    obtain ⟨x, rx, rfl, r1, r2⟩ := Reps.cons_iff.mp r
    refine ⟨x, rx, rfl, ?_⟩
    refine sa F S H σ ρ W d x _ _ cf r1 hp fun S' H' σ' ρ' W' e' c o1 o2 q => ?_
    exact sb F S' H' σ' ρ' W' rd rx P R c (r2.up e') q fun S2 H2 σ2 ρ2 W2 e2 c2 o3 o4 q2 => k S2 H2 σ2 ρ2 W2 (e'.trans e2) c2 (o1.trans o3) (o2.trans o4) q2
  · exact hp.elim
def gdTup (n : Nat) (g : TGLD) : TGD := fun d ρ W P => match d with | .tup ds => ds.length = n ∧ g ds ρ W P | _ => False
theorem gg_tup {es : List Expr} {k : Nat} {g : TGLD} {n : Nat} {ts : List Nat} (hc : X.calm = true) (h : GGs X es g ts) (hn : (assignEach es X.env).length = n := by rfl) (hst : (assignEach es X.env).findIdx? (·.1) = none := by rfl) : GG X (.Tuple es k pos) (gdTup n g) ts := by
  obtain ⟨ta, pa, sa⟩ := h
  refine ⟨_, pg_tup hc pa hn hst, fun F S H σ ρ W d v P R cf r hp k => ?_⟩
  unfold gdTup at hp
  split at hp
  · rename_i ds
    obtain ⟨a, xs, rfl, h1, h2⟩ := Rep.tup_iff.mp r
    exact ⟨a, xs, rfl, h1.sq, by rw [h2.length]; exact hp.1, sa F S H σ ρ W ds xs P R cf h2 hp.2 k⟩
  · exact hp.elim
/-- target = e -/
def dAsg (fe : TD) (g : TGD) : TSD := fun De ρ W => fe ρ W (fun d ρ' W' => g d ρ' W' De.nx) De.ex
theorem snd_asg {K : PySem.W.Frag} {te : TE} {t : TG} {g : TGD} {ts : List Nat} (se : Snd K Wx te fe) (sg : SndG K t g ts) : SndS K Wx (tAsg te t) (dAsg fe g) := fun F S H σ ρ W De Dh cf hf l =>
  se F S H σ ρ W _ De.ex _ cf hf l.ex fun S' H' ρ' W' d v e' c r q => sg F S' H' σ ρ' W' d v _ _ c r q fun S2 H2 σ2 ρ2 W2 e2 c2 _ _ q2 => l.nx S2 H2 σ2 ρ2 W2 (e'.trans e2) c2 q2
theorem gs_asg {tg : Expr} {g : TGD} {ts : List Nat} (he : GE X Wx e fe) (hg : GG X tg g ts) (hs : swapsWithSole [tg] e pos.line X.env = pure false := by rfl) (hw : swappedStores [tg] e X.env = pure none := by rfl) (h1 : (assignEach [tg] X.env).map (·.2) = [assign tg X.env] := by rfl) : GS X Wx (.Assign [tg] e pos) (dAsg fe g) := by
  obtain ⟨te, pe, se⟩ := he
  obtain ⟨tg', pg, sg⟩ := hg
  exact ⟨_, ps_asg pe pg hs hw h1, snd_asg se sg⟩
theorem gs_set {i : Nat} {x : Str} {pos' : Pos} (hN : X.N.Nodup) (hi : X.N[i]? = some x) (hx : Loc X.env.scope x) (he : GE X Wx e fe) (hs : swapsWith e (some (.Name x pos')) pos.line X.env = pure false := by rfl) (hf : X.fn x = true ∨ X.env.scope.names.lookup x = some .local := by first | exact .inl rfl | exact .inr rfl | assumption) :
    GS X Wx (.Assign [.Name x pos'] e pos) (dAsg fe (gdName i)) := by
  obtain ⟨te, pe, se⟩ := he
  exact ⟨_, ps_set hN hi hx pe hs hf, snd_asg se snd_gName⟩
/-- a, b = e1, e2 with two local names -/
def dPar (i j : Nat) (fl : TL) : TSD := fun De ρ W => fl ρ W (fun ds ρ' W' => match ds with | [d, d'] => De.nx ((ρ'.set i (some (.sh d))).set j (some (.sh d'))) W' | _ => False) De.ex
theorem gs_par {i j : Nat} {x y : Str} {a b : Expr} {fl : TL} {px py pt : Pos} {kt k2 pt2} (hc : X.calm = true) (hN : X.N.Nodup) (hi : X.N[i]? = some x) (hj : X.N[j]? = some y) (hij : i ≠ j)
    (hx : X.env.scope.names.lookup x = some .local) (hy : X.env.scope.names.lookup y = some .local) (ha : GA X Wx [a, b] fl)
    (hw : swappedStores [.Tuple [.Name x px, .Name y py] kt pt] (.Tuple [a, b] k2 pt2) X.env = pure (some [x, y]))
    (hs : swapsWithSole [.Tuple [.Name x px, .Name y py] kt pt] (.Tuple [a, b] k2 pt2) pos.line X.env = pure false := by rfl) :
    GS X Wx (.Assign [.Tuple [.Name x px, .Name y py] kt pt] (.Tuple [a, b] k2 pt2) pos) (dPar i j fl) := by
  obtain ⟨ta, pa, sa⟩ := ha
  refine ⟨_, ps_par hc hN hi hj hij hx hy pa hw hs, fun F S H σ ρ W De Dh cf hf l => ?_⟩
  refine sa F S H σ ρ W _ De.ex _ cf hf l.ex fun S' H' ρ' W' ds vs e' c r q => ?_
  split at q
  · rename_i d d'
    obtain ⟨v, rv, rfl, r1, r2⟩ := Reps.cons_iff.mp r
    obtain ⟨w, rw', rfl, r3, r4⟩ := Reps.cons_iff.mp r2
    rw [Reps.nil_iff.mp r4]
    exact ⟨v, w, rfl, l.nx S' H' _ _ W' e' ((c.setSh i r1).setSh j r3) q⟩
  · exact q.elim
/-- x op= e -/
def IpSnd (K : PySem.W.Frag) (r : TIp) (g : D → D → (D → Prop) → Prop) : Prop := RSnd K r g
def dAug (i : Nat) (k : D → D → (D → Prop) → Prop) (fe : TD) : TSD := fun De ρ W => match ρ[i]? with
  | some (some (.sh d)) => fe ρ W (fun e ρ' W' => k d e fun z => De.nx (ρ'.set i (some (.sh z))) W') De.ex
  | _ => False
theorem gs_aug {i : Nat} {x : Str} {op : Operator} {r : TIp} {k : D → D → (D → Prop) → Prop} {pos' : Pos} (hN : X.N.Nodup) (hi : X.N[i]? = some x) (hx : Loc X.env.scope x) (he : GE X Wx e fe) (ho : PIp X op r) (hr : RSnd X.K r k) (hf : X.fn x = true ∨ X.env.scope.names.lookup x = some .local := by first | exact .inl rfl | exact .inr rfl | assumption) :
    GS X Wx (.AugAssign (.Name x pos') op e pos) (dAug i k fe) := by
  obtain ⟨te, pe, se⟩ := he
  refine ⟨_, ps_aug hN hi hx pe ho hf, fun F S H σ ρ W De Dh cf hf l => ?_⟩
  unfold dAug at hf
  split at hf
  · rename_i d e1
    obtain ⟨v, h1, h2⟩ := cf.sh i d e1
    refine ⟨v, h1, ?_⟩
    refine se F S H σ ρ W _ De.ex _ cf hf l.ex fun S' H' ρ' W' d2 v2 e' c r2 q => ?_
    refine hr F S' H' W' d d2 v v2 _ _ c.cb (h2.up e') r2 q fun d3 v3 H3 s3 r3 q3 => ?_
    exact l.nx S' H3 _ _ W' (e'.trans (stp_same c.cb s3)) ((c.same s3).setSh i r3) q3
  · exact hf.elim
end

/-! ### a list of the frame's own -/
theorem own_set {σ : St} {ρ : Env} {i j : Nat} {v : Option V} {d : Option Sl} {p : Addr} (h : Own (σ.set i v) (ρ.set i d) j p) : i = j ∨ Own σ ρ j p := by
  by_cases hj : i = j
  · exact .inl hj
  · obtain ⟨ds, q1, q2⟩ := h
    rw [List.getElem?_set_ne hj] at q1 q2
    exact .inr ⟨ds, q1, q2⟩
/-- a fresh list into a slot -/
theorem Cf.newOm {K : PySem.W.Frag} {F S : Reg} {H : Hp} {σ : St} {ρ : Env} {W : Wd} (c : Cf K F S H σ ρ W) (i : Nat) {p : Addr} {u : HO} {o : MO} (hp : H p = none) (r : ∀ S' H', Stp F S H S' H' → H' p = some u → MRep K S' H' p o) :
    Stp F S H (fun a => S a ∨ a = p) (upd H p u) ∧ Cf K F (fun a => S a ∨ a = p) (upd H p u) (σ.set i (some (.ref p))) (ρ.set i (some (.om o))) W := by
  have st : Stp F S H (fun a => S a ∨ a = p) (upd H p u) :=
    ⟨fun a o _ h => same_new hp a o h, fun a h1 h2 => by
      rcases h1 with h1 | h1
      · exact absurd h1 h2
      · rw [h1]; exact hp, fun a h => by
      by_cases ha : a = p
      · rw [ha]; exact hp
      · rw [upd_ne ha] at h; exact h, fun a hf => by
      have : a ≠ p := fun q => by
        rw [q] at hf
        exact c.cb.sd p (c.cb.fs p hf) hp
      rw [upd_ne this]⟩
  have np : ∀ a, S a → a ≠ p := fun a hs q => c.cb.sd a hs (by rw [q]; exact hp)
  refine ⟨st, ⟨fun a h => ?_, fun a h => .inl (c.cb.fs a h), fun q o hw => ?_⟩, by simp [c.len], fun j d' h => ?_, fun j ds' h => ?_, fun j k q h1 h2 => ?_⟩
  · rcases h with h | h
    · rw [upd_ne (np a h)]; exact c.cb.sd a h
    · rw [h, upd_same]; simp
  · obtain ⟨h1, h2, h3⟩ := c.cb.w q o hw
    exact ⟨.inl h1, h2, h3.up st (upd_ne (np q h1))⟩
  · by_cases hj : i = j
    · subst hj
      have hl : i < ρ.length := by
        have := (List.getElem?_eq_some_iff.mp h).1
        simpa using this
      rw [List.getElem?_set_self hl] at h
      cases h
    · rw [List.getElem?_set_ne hj] at h
      obtain ⟨w, h1, h2⟩ := c.sh j d' h
      exact ⟨w, by rw [List.getElem?_set_ne hj]; exact h1, h2.up st⟩
  · by_cases hj : i = j
    · subst hj
      have hl : i < ρ.length := by
        have := (List.getElem?_eq_some_iff.mp h).1
        simpa using this
      rw [List.getElem?_set_self hl] at h
      cases h
      refine ⟨p, by rw [List.getElem?_set_self (by rw [c.len]; exact hl)], r _ _ st upd_same, .inr rfl, fun hf => c.cb.sd p (c.cb.fs p hf) hp, ?_⟩
      cases q : W p with
      | none => rfl
      | some o => exact absurd hp (c.cb.sd p (c.cb.w p o q).1)
    · rw [List.getElem?_set_ne hj] at h
      obtain ⟨q, h1, h3, h4, h5⟩ := c.om j ds' h
      exact ⟨q, by rw [List.getElem?_set_ne hj]; exact h1, h3.up st (upd_ne (np q h4)), .inl h4, h5⟩
  · have own_s : ∀ j, Own σ ρ j q → S q := fun j ⟨ds, q1, q2⟩ => by
      obtain ⟨p', e1, _, hs, _⟩ := c.om j ds q1
      rw [q2] at e1; cases e1; exact hs
    have at_i : ∀ {j}, i = j → Own (σ.set i (some (.ref p))) (ρ.set i (some (.om o))) j q → q = p := fun {j} e ⟨ds', q1, q2⟩ => by
      subst e
      have hl : i < σ.length := by
        have := (List.getElem?_eq_some_iff.mp q2).1
        simpa using this
      rw [List.getElem?_set_self hl] at q2
      cases q2; rfl
    rcases own_set h1 with e1 | o1
    · rcases own_set h2 with e2 | o2
      · exact e1.symm.trans e2
      · exact absurd (at_i e1 h1) (np q (own_s k o2))
    · rcases own_set h2 with e2 | o2
      · exact absurd (at_i e2 h2) (np q (own_s j o1))
      · exact c.dis j k q o1 o2
/-- the own list's content changes -/
theorem Cf.chOm {K : PySem.W.Frag} {F S : Reg} {H : Hp} {σ : St} {ρ : Env} {W : Wd} (c : Cf K F S H σ ρ W) {i : Nat} {p : Addr} {u : HO} {o1 o0 : MO} (h0 : ρ[i]? = some (some (.om o0))) (hp : σ[i]? = some (some (.ref p))) (r : ∀ S' H', Stp (fun _ => False) S H S' H' → H' p = some u → MRep K S' H' p o1) :
    Stp F S H S (upd H p u) ∧ Cf K F S (upd H p u) σ (ρ.set i (some (.om o1))) W := by
  obtain ⟨p', e1, r0, hs, hf, hw⟩ := c.om i o0 h0
  rw [hp] at e1; cases e1
  have st0 : Stp (fun _ => False) S H S (upd H p u) :=
    ⟨fun a o h e => by
      have : a ≠ p := fun q => h (q ▸ hs)
      rw [upd_ne this]; exact e, fun a h1 h2 => absurd h1 h2, fun a h => by
      by_cases ha : a = p
      · rw [ha, upd_same] at h; cases h
      · rw [upd_ne ha] at h; exact h, fun a h => h.elim⟩
  have st : Stp F S H S (upd H p u) :=
    ⟨fun a o h e => by
      have : a ≠ p := fun q => h (q ▸ hs)
      rw [upd_ne this]; exact e, fun a h1 h2 => absurd h1 h2, fun a h => by
      by_cases ha : a = p
      · rw [ha, upd_same] at h; cases h
      · rw [upd_ne ha] at h; exact h, fun a h => by
      have : a ≠ p := fun q => hf (q ▸ h)
      rw [upd_ne this]⟩
  have hl : i < ρ.length := (List.getElem?_eq_some_iff.mp h0).1
  refine ⟨st, ⟨fun a h => ?_, c.cb.fs, fun q o hq => ?_⟩, by simp [c.len], fun j d' h => ?_, fun j ds' h => ?_, fun j k q h1 h2 => ?_⟩
  · intro q; exact c.cb.sd a h (st.dom a q)
  · obtain ⟨h1, h2, h3⟩ := c.cb.w q o hq
    have : q ≠ p := fun z => by rw [z, hw] at hq; cases hq
    exact ⟨h1, h2, h3.up st (upd_ne this)⟩
  · by_cases hj : i = j
    · subst hj
      rw [List.getElem?_set_self hl] at h
      cases h
    · rw [List.getElem?_set_ne hj] at h
      obtain ⟨w, h1, h2⟩ := c.sh j d' h
      exact ⟨w, h1, h2.up st⟩
  · by_cases hj : i = j
    · subst hj
      rw [List.getElem?_set_self hl] at h
      cases h
      exact ⟨p, hp, r _ _ st0 upd_same, hs, hf, hw⟩
    · rw [List.getElem?_set_ne hj] at h
      obtain ⟨q, h1, h3, h4, h5⟩ := c.om j ds' h
      have : q ≠ p := fun z => hj (c.dis i j p ⟨o0, h0, hp⟩ ⟨ds', h, z ▸ h1⟩)
      exact ⟨q, h1, h3.up st (upd_ne this), h4, h5⟩
  · have go : ∀ j, Own σ (ρ.set i (some (.om o1))) j q → Own σ ρ j q := fun j ⟨ds', q1, q2⟩ => by
      by_cases hj : i = j
      · subst hj
        exact ⟨o0, h0, q2⟩
      · rw [List.getElem?_set_ne hj] at q1
        exact ⟨ds', q1, q2⟩
    exact c.dis j k q (go j h1) (go k h2)
theorem Cf.ol {K : PySem.W.Frag} {F S : Reg} {H : Hp} {σ : St} {ρ : Env} {W : Wd} (c : Cf K F S H σ ρ W) (i : Nat) (ds : List D) (h0 : ρ[i]? = some (some (.ol ds))) : ∃ p xs, σ[i]? = some (some (.ref p)) ∧ H p = some (.lst xs) ∧ Reps K S H ds xs ∧ S p ∧ ¬ F p ∧ W p = none := by
  obtain ⟨p, h1, ⟨xs, h2, h3⟩, h4⟩ := c.om i _ h0
  exact ⟨p, xs, h1, h2, h3, h4⟩
theorem Cf.newOl {K : PySem.W.Frag} {F S : Reg} {H : Hp} {σ : St} {ρ : Env} {W : Wd} (c : Cf K F S H σ ρ W) (i : Nat) {p : Addr} {xs : List V} {ds : List D} (hp : H p = none) (r : Reps K S H ds xs) :
    Stp F S H (fun a => S a ∨ a = p) (upd H p (.lst xs)) ∧ Cf K F (fun a => S a ∨ a = p) (upd H p (.lst xs)) (σ.set i (some (.ref p))) (ρ.set i (some (.ol ds))) W :=
  c.newOm i hp fun S' H' e h => ⟨xs, h, r.up e⟩
theorem Cf.chOl {K : PySem.W.Frag} {F S : Reg} {H : Hp} {σ : St} {ρ : Env} {W : Wd} (c : Cf K F S H σ ρ W) {i : Nat} {p : Addr} {ds : List D} {xs : List V} {o0 : MO} (h0 : ρ[i]? = some (some (.om o0))) (hp : σ[i]? = some (some (.ref p))) (r : Reps K S H ds xs) :
    Stp F S H S (upd H p (.lst xs)) ∧ Cf K F S (upd H p (.lst xs)) σ (ρ.set i (some (.ol ds))) W :=
  c.chOm h0 hp fun S' H' e h => ⟨xs, h, r.up e⟩
/-- nobody changes it any more -/
theorem Cf.freezeM {K : PySem.W.Frag} {F S : Reg} {H : Hp} {σ : St} {ρ : Env} {W : Wd} (c : Cf K F S H σ ρ W) {i : Nat} {o : MO} {d : D} (h0 : ρ[i]? = some (some (.om o))) (hd : ∀ p S', Stp F S H S' H → ¬ S' p → MRep K S' H p o → Rep K S' H d (.ref p)) :
    ∃ S', Stp F S H S' H ∧ Cf K F S' H σ (ρ.set i (some (.sh d))) W := by
  obtain ⟨p, hp, r0, hs, hf, hw⟩ := c.om i o h0
  have st : Stp F S H (fun a => S a ∧ a ≠ p) H := ⟨fun a o _ e => e, fun a h1 h2 => absurd h1.1 h2, fun a h => h, fun a _ => rfl⟩
  have hl : i < ρ.length := (List.getElem?_eq_some_iff.mp h0).1
  refine ⟨_, st, ⟨fun a h => c.cb.sd a h.1, fun a h => ⟨c.cb.fs a h, fun z => hf (z ▸ h)⟩, fun q o hq => ?_⟩, by simp [c.len], fun j d' h => ?_, fun j ds' h => ?_, fun j k q h1 h2 => ?_⟩
  · obtain ⟨h1, h2, h3⟩ := c.cb.w q o hq
    exact ⟨⟨h1, fun z => by rw [z, hw] at hq; cases hq⟩, h2, h3.up st rfl⟩
  · by_cases hj : i = j
    · subst hj
      rw [List.getElem?_set_self hl] at h
      cases h
      exact ⟨_, hp, hd p _ st (fun z => z.2 rfl) (r0.up st rfl)⟩
    · rw [List.getElem?_set_ne hj] at h
      obtain ⟨w, h1, h2⟩ := c.sh j d' h
      exact ⟨w, h1, h2.up st⟩
  · by_cases hj : i = j
    · subst hj
      rw [List.getElem?_set_self hl] at h
      cases h
    · rw [List.getElem?_set_ne hj] at h
      obtain ⟨q, h1, h3, h4, h5⟩ := c.om j ds' h
      exact ⟨q, h1, h3.up st rfl, ⟨h4, fun z => hj (c.dis i j p ⟨o, h0, hp⟩ ⟨ds', h, z ▸ h1⟩)⟩, h5⟩
  · have go : ∀ j, Own σ (ρ.set i (some (.sh d))) j q → Own σ ρ j q := fun j ⟨ds', q1, q2⟩ => by
      by_cases hj : i = j
      · subst hj
        rw [List.getElem?_set_self hl] at q1
        cases q1
      · rw [List.getElem?_set_ne hj] at q1
        exact ⟨ds', q1, q2⟩
    exact c.dis j k q (go j h1) (go k h2)

theorem Cf.freeze {K : PySem.W.Frag} {F S : Reg} {H : Hp} {σ : St} {ρ : Env} {W : Wd} (c : Cf K F S H σ ρ W) {i : Nat} {ds : List D} (h0 : ρ[i]? = some (some (.ol ds))) :
    ∃ S', Stp F S H S' H ∧ Cf K F S' H σ (ρ.set i (some (.sh (.lst ds)))) W :=
  c.freezeM h0 fun p S' _ hn ⟨xs, h1, h2⟩ => Rep.lst_iff.mpr ⟨p, xs, rfl, ⟨h1, hn⟩, h2⟩
/-- an expression that makes a new list, last of all -/
def EndN (K : PySem.W.Frag) (F S : Reg) (H : Hp) (σ : St) (Q : KL) (R : VK) : Prop :=
  ∀ S' H' ρ' W' ds xs p, Stp F S H S' H' → Cf K F S' H' σ ρ' W' → Reps K S' H' ds xs → H' p = none → Q ds ρ' W' → R (.ref p) (upd H' p (.lst xs))
def SndN (K : PySem.W.Frag) (Wx : WX) (te : TE) (f : TL) : Prop :=
  ∀ F S H σ ρ W Q Qx R, Cf K F S H σ ρ W → f ρ W Q Qx → LkX K F S H Wx Qx → EndN K F S H σ Q R → te σ H R
def GN (X : Cx) (Wx : WX) (e : Expr) (f : TL) : Prop := ∃ te, PE X e te ∧ SndN X.K Wx te f
section
variable {X : Cx} {Wx : WX} {st : Stmt} {rest : List Stmt} {f g : TSD} {e : Expr} {es : List Expr} {fe : TD} {fl : TL} {pos : Pos}
def dFresh (fl : TL) : TD := fun ρ W Q Qx => fl ρ W (fun ds ρ' W' => Q (.lst ds) ρ' W') Qx
theorem snd_fresh {K : PySem.W.Frag} {te : TE} (se : SndN K Wx te fl) : Snd K Wx te (dFresh fl) := by
  intro F S H σ ρ W Q Qx R cf hf hx hE
  refine se F S H σ ρ W _ Qx _ cf hf hx fun S1 H1 ρ1 W1 ds xs p e1 c1 r1 hp q1 => ?_
  exact hE S1 _ ρ1 W1 _ _ (e1.trans (stp_same c1.cb (same_new hp))) (c1.same (same_new hp)) (rep_newL c1.cb hp r1) q1
theorem GN.ge (h : GN X Wx e fl) : GE X Wx e (dFresh fl) := by
  obtain ⟨te, pe, se⟩ := h
  exact ⟨_, pe, snd_fresh se⟩
def dLstN (fl : TL) : TL := fun ρ W Q Qx => fl ρ W (fun ds ρ' W' => ds.length ≤ sizeLine ∧ Q ds ρ' W') Qx
theorem gn_lst (ha : GA X Wx es fl) : GN X Wx (.List es pos) (dLstN fl) := by
  obtain ⟨ta, pa, sa⟩ := ha
  refine ⟨_, pe_lst pa, fun F S H σ ρ W Q Qx R cf hf hx hE => ?_⟩
  refine sa F S H σ ρ W _ Qx _ cf hf hx fun S1 H1 ρ1 W1 ds vs e1 c1 r1 q1 => ?_
  exact ⟨by rw [r1.length]; exact q1.1, fun p hp => hE S1 H1 ρ1 W1 ds vs p e1 c1 r1 hp q1.2⟩
/-- x = [..], the list the frame's own -/
def dAsgO (i : Nat) (fl : TL) : TSD := fun De ρ W => fl ρ W (fun ds ρ' W' => De.nx (ρ'.set i (some (.ol ds))) W') De.ex
theorem snd_asgO {K : PySem.W.Frag} {te : TE} {i : Nat} (se : SndN K Wx te fl) : SndS K Wx (tAsg te (gName i)) (dAsgO i fl) := fun F S H σ ρ W De Dh cf hf l => by
  refine se F S H σ ρ W _ De.ex _ cf hf l.ex fun S' H' ρ' W' ds xs p e' c r hp q => ?_
  obtain ⟨st, c2⟩ := c.newOl i hp r
  exact l.nx _ _ _ _ W' (e'.trans st) c2 q
theorem gs_setO {i : Nat} {x : Str} {pos' : Pos} (hN : X.N.Nodup) (hi : X.N[i]? = some x) (hx : Loc X.env.scope x) (he : GN X Wx e fl) (hs : swapsWith e (some (.Name x pos')) pos.line X.env = pure false := by rfl) (hf : X.fn x = true ∨ X.env.scope.names.lookup x = some .local := by first | exact .inl rfl | exact .inr rfl | assumption) :
    GS X Wx (.Assign [.Name x pos'] e pos) (dAsgO i fl) := by
  obtain ⟨te, pe, se⟩ := he
  exact ⟨_, ps_set hN hi hx pe hs hf, snd_asgO se⟩
/-- x.append(e) -/
def dApp0 (i : Nat) (ρ : Env) : Prop := ∃ ds, ρ[i]? = some (some (.ol ds))
def dApp (i : Nat) (fe : TD) : TSD := fun De ρ W => dApp0 i ρ ∧ fe ρ W (fun d ρ' W' => match ρ'[i]? with
  | some (some (.ol ds)) => ds.length < sizeLine ∧ De.nx (ρ'.set i (some (.ol (ds ++ [d])))) W'
  | _ => False) De.ex
theorem gs_app {i : Nat} {x : Str} {px apos cpos : Pos} (he : GE X Wx e fe) (hN : X.N[i]? = some x := by rfl) (hv : Vis X.env.scope x := by first | exact Or.inl rfl | exact Or.inr (Or.inl rfl) | exact Or.inr (Or.inr rfl)) (hd : (x == ("__debug__" : Str)) = false := by decide) (hcd : (x == ("__classdict__" : Str)) = false := by decide)
    (hbase : attributeBase (.Name x px) "append" X.env (eval (.Name x px) X.env) = eval (.Name x px) X.env := by rfl)
    (hfew : ((backTo cpos (starEach (e :: []) X.env)).all (fun x => !x.1) && (backToKw cpos (keywordEach [] X.env)).all (fun x => x.1.isSome) && decide ((e :: ([] : List Expr)).length + ([] : List Keyword).length + (if ([] : List Keyword).isEmpty then 0 else 1) < 30)) = true := by rfl)
    (hline : (apos.endLine == cpos.line) = true := by rfl) (hse : starEach (e :: []) X.env = (false, eval e X.env) :: starEach [] X.env := by rfl) (hplain : (backTo cpos (starEach [] X.env)).any (·.1) = false := by rfl)
    (hs : swapsWith (.Call (.Attribute (.Name x px) "append" apos) [e] [] cpos) none pos.line X.env = pure false := by rfl) :
    GS X Wx (.Expr (.Call (.Attribute (.Name x px) "append" apos) [e] [] cpos) pos) (dApp i fe) := by
  obtain ⟨te, pe, se⟩ := he
  refine ⟨_, ps_expr (pe_bm PySem.F.plainAttrs_list PySem.F.slot_list_append PySem.F.type_list_append mt_append (pe_var hN hv hd hcd) (pa_cons pe pa_nil hse) hbase hfew hline hse hplain) hs, fun F S H σ ρ W De Dh cf hf l => ?_⟩
  have pre : ∃ p xs, σ[i]? = some (some (.ref p)) ∧ H p = some (.lst xs) := by
    unfold dApp0 at hf
    obtain ⟨⟨ds, h0⟩, hf⟩ := hf
    obtain ⟨p, xs, h1, h2, _⟩ := cf.ol i ds h0
    exact ⟨p, xs, h1, h2⟩
  obtain ⟨p, xs, hp, hH⟩ := pre
  refine ⟨_, hp, .inl ⟨rfl, xs, SqL.of hH⟩, ?_⟩
  refine se F S H σ ρ W _ De.ex _ cf hf.2 l.ex fun S' H' ρ' W' d v e' c r q => ?_
  split at q
  · rename_i ds1 h1
    obtain ⟨p', xs1, e1, h2, h3, _⟩ := c.ol i ds1 h1
    rw [hp] at e1; cases e1
    refine ⟨p, xs1, v, rfl, rfl, h2, by rw [h3.length]; exact q.1, ?_⟩
    obtain ⟨st, c2⟩ := c.chOl h1 hp (h3.append (Reps.cons r Reps.nil))
    exact l.nx _ _ _ _ W' (e'.trans st) c2 q.2
  · exact q.elim
end

section
variable {X : Cx} {Wx : WX} {st : Stmt} {rest : List Stmt} {f g : TSD} {e o : Expr} {es : List Expr} {fe fo : TD} {fl : TL} {pos : Pos}
/-- nobody changes the list of slot i from here on -/
def dFrz (i : Nat) (f : TSD) : TSD := fun De ρ W => match ρ[i]? with
  | some (some (.ol ds)) => f De (ρ.set i (some (.sh (.lst ds)))) W
  | _ => f De ρ W
theorem gss_frz (i : Nat) (h : GSs X Wx rest f) : GSs X Wx rest (dFrz i f) := by
  obtain ⟨t, p, s⟩ := h
  refine ⟨t, p, fun F S H σ ρ W De Dh cf hf l => ?_⟩
  unfold dFrz at hf
  split at hf
  · rename_i ds h0
    obtain ⟨S', st, c2⟩ := cf.freeze h0
    exact s F S' H σ _ W De Dh c2 hf (l.up st)
  · exact s F S H σ ρ W De Dh cf hf l
/-- a method of a text -/
def MSnd (K : PySem.W.Frag) (r : V → List V → Hp → VK → Prop) (g : D → List D → (D → Prop) → Prop) : Prop :=
  ∀ F S H W d ds x xs (P : D → Prop) (R : VK), Cb K F S H W → Rep K S H d x → Reps K S H ds xs → g d ds P → (∀ d' v H', Same H H' → Rep K S H' d' v → P d' → R v H') → r x xs H R
def dM (k : D → List D → (D → Prop) → Prop) (fo : TD) (fl : TL) : TD := fun ρ W Q Qx => fo ρ W (fun d ρ1 W1 => (∃ s, d = .str s) ∧ fl ρ1 W1 (fun ds ρ2 W2 => k d ds fun z => Q z ρ2 W2) Qx) Qx
theorem ge_strM {name : Str} {id : String} {apos cpos : Pos} {r : V → List V → Hp → VK → Prop} {k : D → List D → (D → Prop) → Prop} (slot : Slot "str" name id) (hty : typeOf (.builtin id) = pure (.type "method_descriptor")) (hm : MtR X id r) (hr : MSnd X.K r k) (ho : GE X Wx o fo) (ha : GA X Wx (e :: es) fl)
    (hbase : attributeBase o name X.env (eval o X.env) = eval o X.env := by rfl)
    (hfew : ((backTo cpos (starEach (e :: es) X.env)).all (fun x => !x.1) && (backToKw cpos (keywordEach [] X.env)).all (fun x => x.1.isSome) && decide ((e :: es).length + ([] : List Keyword).length + (if ([] : List Keyword).isEmpty then 0 else 1) < 30)) = true := by rfl)
    (hline : (apos.endLine == cpos.line) = true := by rfl) (hs : starEach (e :: es) X.env = (false, eval e X.env) :: starEach es X.env := by rfl) (hplain : (backTo cpos (starEach es X.env)).any (·.1) = false := by rfl) :
    GE X Wx (.Call (.Attribute o name apos) (e :: es) [] cpos) (dM k fo fl) := by
  obtain ⟨ta, pa, sa⟩ := ha
  obtain ⟨to, po, so⟩ := ho
  refine ⟨_, pe_bm PySem.F.plainAttrs_str slot hty hm po pa hbase hfew hline hs hplain, fun F S H σ ρ W Q Qx R cf hf hx hE => ?_⟩
  refine so F S H σ ρ W _ Qx _ cf hf hx fun S1 H1 ρ1 W1 d v e1 c1 r1 q1 => ?_
  obtain ⟨⟨s, rfl⟩, q1⟩ := q1
  cases Rep.v_iff.mp r1
  refine ⟨rfl, ?_⟩
  refine sa F S1 H1 σ ρ1 W1 _ Qx _ c1 q1 (hx.up e1) fun S2 H2 ρ2 W2 ds vs e2 c2 r2 q2 => ?_
  refine hr F S2 H2 W2 _ ds _ vs _ _ c2.cb (r1.up e2) r2 q2 fun d3 v3 H3 s3 r3 q3 => ?_
  exact hE S2 H3 ρ2 W2 d3 v3 ((e1.trans e2).trans (stp_same c2.cb s3)) (c2.same s3) r3 q3
theorem ge_strM0 {name : Str} {id : String} {apos cpos : Pos} {r : V → List V → Hp → VK → Prop} {k : D → List D → (D → Prop) → Prop} (slot : Slot "str" name id) (hty : typeOf (.builtin id) = pure (.type "method_descriptor")) (hm : MtR X id r) (hr : MSnd X.K r k) (ho : GE X Wx o fo)
    (hbase : attributeBase o name X.env (eval o X.env) = eval o X.env := by rfl) (hline : (apos.endLine == cpos.line) = true := by rfl) : GE X Wx (.Call (.Attribute o name apos) [] [] cpos) (dM k fo dNil) := by
  obtain ⟨to, po, so⟩ := ho
  refine ⟨_, pe_bm0 PySem.F.plainAttrs_str slot hty hm po hbase hline, fun F S H σ ρ W Q Qx R cf hf hx hE => ?_⟩
  refine so F S H σ ρ W _ Qx _ cf hf hx fun S1 H1 ρ1 W1 d v e1 c1 r1 q1 => ?_
  obtain ⟨⟨s, rfl⟩, q1⟩ := q1
  cases Rep.v_iff.mp r1
  refine ⟨rfl, ?_⟩
  refine hr F S1 H1 W1 _ [] _ [] _ _ c1.cb r1 Reps.nil q1 fun d3 v3 H3 s3 r3 q3 => ?_
  exact hE S1 H3 ρ1 W1 d3 v3 (e1.trans (stp_same c1.cb s3)) (c1.same s3) r3 q3
/-- a subscript -/
theorem ge_ix {a b : Expr} {fa fb : TD} {r : R2} {k : D → D → (D → Prop) → Prop} (hr : IxR X r) (hk : RSnd X.K r k) (ha : GE X Wx a fa) (hb : GE X Wx b fb) (hs : PlainIx b) : GE X Wx (.Subscript a b pos) (dOp k fa fb) := by
  obtain ⟨ta, pa, sa⟩ := ha
  obtain ⟨tb, pb, sb⟩ := hb
  exact ⟨_, pe_ix hr pa pb hs, snd_op hk sa sb⟩
/-- a slice -/
abbrev TOD := Env → Wd → (Option Int → Env → Wd → Prop) → KX → Prop
def SndO (K : PySem.W.Frag) (Wx : WX) (te : TO) (f : TOD) : Prop :=
  ∀ F S H σ ρ W (Q : Option Int → Env → Wd → Prop) Qx (R : Option Int → Hp → Prop), Cf K F S H σ ρ W → f ρ W Q Qx → LkX K F S H Wx Qx → (∀ S' H' ρ' W' o, Stp F S H S' H' → Cf K F S' H' σ ρ' W' → Q o ρ' W' → R o H') → te σ H R
def GO (X : Cx) (Wx : WX) (e : Option Expr) (f : TOD) : Prop := ∃ te, PO X e te ∧ SndO X.K Wx te f
def dNoP : TOD := fun ρ W Q _ => Q none ρ W
def dPart (fe : TD) : TOD := fun ρ W Q Qx => fe ρ W (fun d ρ' W' => match d with | .v (.int i) => Q (some i) ρ' W' | _ => False) Qx
theorem go_none : GO X Wx none dNoP := ⟨_, po_none, fun F S H σ ρ W Q Qx R cf hf hx hE => hE S H ρ W none .refl cf hf⟩
theorem go_some (he : GE X Wx e fe) : GO X Wx (some e) (dPart fe) := by
  obtain ⟨te, pe, se⟩ := he
  refine ⟨_, po_some pe, fun F S H σ ρ W Q Qx R cf hf hx hE => ?_⟩
  refine se F S H σ ρ W _ Qx _ cf hf hx fun S1 H1 ρ1 W1 d v e1 c1 r1 q1 => ?_
  split at q1
  · rename_i i
    exact ⟨i, Rep.v_iff.mp r1, hE S1 H1 ρ1 W1 _ e1 c1 q1⟩
  · exact q1.elim
def SlSnd (K : PySem.W.Frag) (r : V → Option Int → Option Int → Hp → VK → Prop) (g : D → Option Int → Option Int → (D → Prop) → Prop) : Prop :=
  ∀ F S H W d x lo hi (P : D → Prop) (R : VK), Cb K F S H W → Rep K S H d x → g d lo hi P → (∀ d' v H', Same H H' → Rep K S H' d' v → P d' → R v H') → r x lo hi H R
def dSl (k : D → Option Int → Option Int → (D → Prop) → Prop) (fe : TD) (fl fh : TOD) : TD := fun ρ W Q Qx => fe ρ W (fun d ρ1 W1 => fl ρ1 W1 (fun lo ρ2 W2 => fh ρ2 W2 (fun hi ρ3 W3 => k d lo hi fun z => Q z ρ3 W3) Qx) Qx) Qx
theorem ge_sl {lo hi : Option Expr} {p2 : Pos} {flo fhi : TOD} {r : V → Option Int → Option Int → Hp → VK → Prop} {k : D → Option Int → Option Int → (D → Prop) → Prop} (hr : SlR X r) (hk : SlSnd X.K r k) (he : GE X Wx e fe) (hl : GO X Wx lo flo) (hu : GO X Wx hi fhi) :
    GE X Wx (.Subscript e (.Slice lo hi none p2) pos) (dSl k fe flo fhi) := by
  obtain ⟨te, pe, se⟩ := he
  obtain ⟨tl, pl, sl⟩ := hl
  obtain ⟨tu, pu, su⟩ := hu
  refine ⟨_, pe_slice hr pe pl pu, fun F S H σ ρ W Q Qx R cf hf hx hE => ?_⟩
  refine se F S H σ ρ W _ Qx _ cf hf hx fun S1 H1 ρ1 W1 d v e1 c1 r1 q1 => ?_
  refine sl F S1 H1 σ ρ1 W1 _ Qx _ c1 q1 (hx.up e1) fun S2 H2 ρ2 W2 o2 e2 c2 q2 => ?_
  refine su F S2 H2 σ ρ2 W2 _ Qx _ c2 q2 (hx.up (e1.trans e2)) fun S3 H3 ρ3 W3 o3 e3 c3 q3 => ?_
  refine hk F S3 H3 W3 d v o2 o3 _ _ c3.cb ((r1.up e2).up e3) q3 fun d4 v4 H4 s4 r4 q4 => ?_
  exact hE S3 H4 ρ3 W3 d4 v4 (((e1.trans e2).trans e3).trans (stp_same c3.cb s4)) (c3.same s4) r4 q4

/-! ### calls of defs -/
/-- a promise over data -/
abbrev KDW := D → Wd → Prop
abbrev KXW := Value → Option (List (Str × D)) → Wd → Prop
abbrev SpD := List D → Wd → KDW → KXW → Prop
def toSp (K : PySem.W.Frag) (n : Nat) (sp : SpD) : Sp := fun vs H Q E => ∃ F S W ds Qd Qx, Cb K F S H W ∧ Reps K S H ds vs ∧ ds.length = n ∧ sp ds W Qd Qx ∧
  (∀ S' H' W' d v, Stp F S H S' H' → Cb K F S' H' W' → Rep K S' H' d v → Qd d W' → Q v H') ∧
  (∀ S' H' W' cls x od, Stp F S H S' H' → Cb K F S' H' W' → XRep K S' H' x od → Qx cls x W' → E cls od H')
/-! ### defs that are called where no repr is under way -/
/-- room for k calls, and no object is being shown -/
structure Rm (k : Nat) (A : Around) : Prop extends Room k A where
  gd : A.guards = some []
theorem Rm.less {j k : Nat} {A : Around} (r : Rm k A) (h : j ≤ k) : Rm j A := ⟨r.toRoom.mono h, r.gd⟩
/-- the kit's FnOk, but only where Rm holds -/
structure FnG (P : Program) (w : World) (K : PySem.W.Frag) (mg : Str → Option Value) (base : Heap) (k : Nat) (f : Addr) (fd : FuncData) (ps : List Str) (sp : Sp) : Prop where
  many : ∀ {vs H Q E}, sp vs H Q E → vs.length = ps.length
  go : ∀ {A : Around} {outer : List PySem.Env} {s : Shared} {H : Hp} {args : Args} {us : List Value} {vs : List V} {Q : VK} {E : XK}, Rm k A → Env0 P w K mg base A outer s H → BindsTo s fd args (ps.zip us) → Vals vs us → sp vs H Q E →
    codeAny (model P w) A (.call (.ref f) args) (CR (L2.CX P w) outer P w H s Q E) s
theorem FnG.mono {P : Program} {w : World} {K : PySem.W.Frag} {mg : Str → Option Value} {base : Heap} {j k : Nat} {f : Addr} {fd : FuncData} {ps : List Str} {sp : Sp} (F : FnG P w K mg base j f fd ps sp) (h : j ≤ k) : FnG P w K mg base k f fd ps sp :=
  ⟨F.many, fun r => F.go (r.less h)⟩
theorem FnG.imp {P : Program} {w : World} {K : PySem.W.Frag} {mg : Str → Option Value} {base : Heap} {k : Nat} {f : Addr} {fd : FuncData} {ps : List Str} {sp sp' : Sp} (F : FnG P w K mg base k f fd ps sp) (h : ∀ {vs H Q E}, sp' vs H Q E → sp vs H Q E) :
    FnG P w K mg base k f fd ps sp' := ⟨fun q => F.many (h q), fun r e b v q => F.go r e b v (h q)⟩
/-- the end of a call within a body -/
theorem end_call {X : Cx} {pins : List (Addr × Obj)} {σ : St} {H : Hp} {s : Shared} {Q : VK} {E : XK} (I : Inv X pins σ H s) (hx : ∀ e s', L2.CX X.prog X.w X.stack H s E e s' → X.xe e s') {c : Code} (h : codeAny (model X.prog X.w) X.A c (CR (L2.CX X.prog X.w) X.stack X.prog X.w H s Q E) s) :
    codeAny (model X.prog X.w) X.A c (fun r s' => match r with | .ok (.ret u) => EP X pins σ Q u s' | .ok _ => False | .error e => X.xe e s') s := by
  refine codeAny_mono h fun r s' q => ?_
  match r, q with
  | .error e, q => exact hx e s' q
  | .ok (.ret u), q => exact I.after q
  | .ok .next, q => exact q.elim
  | .ok .brk, q => exact q.elim
  | .ok .cont, q => exact q.elim
/-- a def by its body, where no repr is under way -/
theorem fng_of {P : Program} {w : World} {K : PySem.W.Frag} {mg : Str → Option Value} {base : Heap} {k : Nat} {x qual : Str} {st : Stmt} {f : Addr} {fd : FuncData} {N ps : List Str} {sp : Sp} (F : Fun K x qual st f fd) (S : FnScope N ps (defScope st)) (hl : ∀ {vs H Q E}, sp vs H Q E → vs.length = ps.length)
    (hb : ∀ (cdv : Value) (A : Around) (outer : List PySem.Env) (s : Shared) (H : Hp) (vs : List V) (Q : VK) (E : XK), Rm k (A.deeper (PyProof.Rows.envOfC qual (defScope st) s.heap.objs.size f cdv)) → sp vs H Q E →
      ∃ t, PSs (cxOf (L2.CX P w) P w K mg base N qual (defScope st) f cdv A outer s H E) (defBody st) t ∧ t { nx := fun _ H' => Q .non H', rt := Q } (L2.start N vs) H) : FnG P w K mg base (k + 1) f fd ps sp := by
  obtain ⟨oc, od, kV, doc, pm, an, cdv, ct, osl, efd, atK, isC⟩ := F.ex
  subst efd
  refine ⟨hl, ?_⟩
  intro A outer s H args us vs Q E rm env bnd rel hsp
  have stay : ∀ b o, base.get? b = some o → s.heap.get? b = some o := fun b o e => (env.bs b o e).1
  have inK : K.In s.heap := env.mod.kin.keeps stay
  have par : ∀ y ∈ ps.zip us, (defScope st).names.lookup y.1 = some .local ∨ ((defScope st).names.lookup y.1 = some .cell ∧ ((cellsFrom (s.heap.objs.size + 1) (defScope st).names []).lookup y.1).isSome = true) := by
    rintro ⟨n, v⟩ hy
    refine (S.par n (List.of_mem_zip hy).1).imp id fun q => ⟨q, PySem.W.cellsFrom_some _ _ _ (.inl q)⟩
  refine codeAny_call_function rm.toRoom.depth (inK _ _ atK) rfl S.co S.gen rfl (PySem.W.codeRec_of inK isC) (bnd _ _ _ _ ?_)
  refine wpAny_newFunctionEnv_cells S.kind par ?_
  rintro env' rfl s1 inC
  refine ⟨(env.mod.nolimit.keeps stay).keeps inC.toInCall.keep, codeAny_func ?_⟩
  obtain ⟨t, pt, qt⟩ := hb cdv A outer s H vs Q E ⟨rm.toRoom.deeper _, rm.gd⟩ hsp
  have I := inv_start (CX := L2.CX P w) (E := E) S rm.toRoom.hd env (hl hsp) rel inC
  refine wpAny_mono (pt.run [] s1 (L2.start N vs) H _ I qt) (fun fl s' q => ?_) (fun _ _ q => q)
  match fl, q with
  | .ret u, ⟨v, _, H', J, rv, q⟩ => exact ⟨v, H', J.os, J.bare, J.base, J.hok, rv, q⟩
  | .next, ⟨_, H', J, q⟩ => exact ⟨V.non, H', J.os, J.bare, J.base, J.hok, rfl, q⟩
  | .brk, ⟨_, _, _, q⟩ => exact q.elim
  | .cont, ⟨_, _, _, q⟩ => exact q.elim
section
variable {X : Cx} {Wx : WX} {k : Nat} {f : Addr} {fd : FuncData} {ps : List Str} {sp : Sp}
theorem pe_callG {x : Str} {e : Expr} {es : List Expr} {E : St → XK} {t : TA} {p pos : Pos} (F : FnG X.prog X.w X.K X.mg X.base k f fd ps sp) (hr : Rm k X.A) (hg : Gl X x) (hm : X.mg x = some (.ref f)) (hk : PySem.W.keepIn X.K (.ref f) = true) (hb : Binds X.K fd ps [])
    (hx : ∀ σ, PassesAt (L2.CX X.prog X.w) X σ (E σ)) (ha : PA X (e :: es) t) (hdb : (x == ("__debug__" : Str)) = false) (he : starEach (e :: es) X.env = (false, eval e X.env) :: starEach es X.env) (hpl : (backTo pos (starEach es X.env)).any (·.1) = false) :
    PE X (.Call (.Name x p) (e :: es) [] pos) (tCallS sp E t) := by
  constructor
  intro pins s σ H Q I h
  refine wpAny_Call_Name_kw (ld_glob I hg hm (PySem.W.callWith_K (h₀ := X.base) I.ok.mod.kin hk (thn (ha.run pos pins s σ H _ I h) ?_) he hpl) hdb)
  rintro us s1 ⟨vs, H1, I1, rel, q⟩
  refine ⟨I1.kIn, ?_⟩
  have b := hb s1 us I1.kIn (by rw [List.append_nil, ← rel.length]; exact F.many q)
  rw [List.append_nil] at b
  refine wpAny_call (codeAny_mono (end_call (pins := pins) I1 (fun e s' z => hx σ pins H1 s1 e s' I1 z) (F.go hr I1.env0 b rel q)) fun r s' z => ?_)
  match r, z with
  | .error e, z => exact z
  | .ok (.ret u), z => exact z
  | .ok .next, z => exact z.elim
  | .ok .brk, z => exact z.elim
  | .ok .cont, z => exact z.elim
end
def dCall (sp : SpD) (n : Nat) (fl : TL) : TD := fun ρ W Q Qx => fl ρ W (fun ds ρ' W' => ds.length = n ∧ sp ds W' (fun d W2 => Q d ρ' W2) (fun cls x W2 => Qx cls x ρ' W2)) Qx
theorem snd_call {K : PySem.W.Frag} {n : Nat} {sp : SpD} {ta : TA} (ha : SndL K Wx ta fl) : Snd K Wx (tCallS (toSp K n sp) (WE Wx) ta) (dCall sp n fl) := by
  intro F S H σ ρ W Q Qx R cf hf hx hE
  refine ha F S H σ ρ W _ Qx _ cf hf hx fun S1 H1 ρ1 W1 ds vs e1 c1 r1 q1 => ?_
  refine ⟨_, S1, W1, ds, _, _, c1.below, r1, q1.1, q1.2, fun S' H' W' d v e' b r q => ?_, fun S' H' W' cls x od e' b xr q => ?_⟩
  · exact hE S' H' ρ1 W' d v (e1.trans (e'.mono fun _ h => .inl h)) (c1.back e' b) r q
  · exact hx S' H' σ ρ1 W' cls x od (e1.trans (e'.mono fun _ h => .inl h)) (c1.back e' b) xr q
theorem ge_call {f : Addr} {fd : FuncData} {ps : List Str} {k n : Nat} {sp : SpD} {x : Str} {p : Pos} (tk : Takes X Wx) (GF : FnG X.prog X.w X.K X.mg X.base k f fd ps (toSp X.K n sp)) (hr : Rm k X.A) (hg : Gl X x) (hm : X.mg x = some (.ref f)) (hk : PySem.W.keepIn X.K (.ref f) = true) (hb : Binds X.K fd ps [])
    (ha : GA X Wx (e :: es) fl) (hdb : (x == ("__debug__" : Str)) = false := by decide) (he : starEach (e :: es) X.env = (false, eval e X.env) :: starEach es X.env := by rfl) (hpl : (backTo pos (starEach es X.env)).any (·.1) = false := by rfl) :
    GE X Wx (.Call (.Name x p) (e :: es) [] pos) (dCall sp n fl) := by
  obtain ⟨ta, pa, sa⟩ := ha
  exact ⟨_, pe_callG GF hr hg hm hk hb (fun σ => passAt tk σ) pa hdb he hpl, snd_call sa⟩
end
/-- THE RULE for a def -/
theorem okD {P : Program} {w : World} {K : PySem.W.Frag} {mg : Str → Option Value} {base : Heap} {x qual : Str} {st : Stmt} {f : Addr} {fd : FuncData} {N ps : List Str} {k : Nat} {sp : SpD} (F : Fun K x qual st f fd) (Sc : FnScope N ps (defScope st))
    (hbody : ∀ (cdv : Value) (A : Around) (outer : List PySem.Env) (s : Shared) (H : Hp) (E : XK), Rm k (A.deeper (PyProof.Rows.envOfC qual (defScope st) s.heap.objs.size f cdv)) →
      ∃ g, GSs (cxOf (L2.CX P w) P w K mg base N qual (defScope st) f cdv A outer s H E) (fun cls d _ H => E cls d H) (defBody st) g ∧
        ∀ ds W Qd Qx, ds.length = ps.length → sp ds W Qd Qx → g { nx := fun _ W' => Qd .non W', rt := Qd, ex := fun cls x _ W' => Qx cls x W' } (ds.map (fun d => some (Sl.sh d)) ++ List.replicate (N.length - ds.length) none) W) :
    FnG P w K mg base (k + 1) f fd ps (toSp K ps.length sp) := by
  refine fng_of F Sc (fun {vs H Q E} h => ?_) (fun cdv A outer s H vs Q E hr h => ?_)
  · obtain ⟨_, _, _, ds, _, _, _, h1, h2, _⟩ := h
    rw [h1.length, h2]
  · obtain ⟨g, ⟨t, pt, sg⟩, hg⟩ := hbody cdv A outer s H E hr
    obtain ⟨Fr, S, W, ds, Qd, Qx, cb, rs, hl, hsp, hQ, hE⟩ := h
    refine ⟨t, pt, ?_⟩
    have hvl : vs.length = ps.length := by rw [rs.length, hl]
    refine sg Fr S H (L2.start N vs) _ W _ _ ?_ (hg ds W Qd Qx hl hsp) ?_
    · have shp : ∀ (i : Nat) (sl : Sl), (ds.map (fun d => some (Sl.sh d)) ++ List.replicate (N.length - ds.length) none)[i]? = some (some sl) → ∃ d, ds[i]? = some d ∧ sl = .sh d := fun i sl h => by
        rw [List.getElem?_append] at h
        split at h
        · rename_i hi
          rw [List.getElem?_map] at h
          cases e : ds[i]? with
          | none => rw [e] at h; cases h
          | some d => rw [e] at h; cases h; exact ⟨d, rfl, rfl⟩
        · rw [List.getElem?_replicate] at h
          split at h <;> cases h
      refine ⟨cb, ?_, fun i d h => ?_, fun i ds' h => ?_, fun i j p h1 h2 => ?_⟩
      · unfold L2.start
        simp [rs.length]
      · obtain ⟨d', e1, e2⟩ := shp i _ h
        cases e2
        obtain ⟨v, e3, r⟩ := rs.get e1
        refine ⟨v, ?_, r⟩
        unfold L2.start
        have hi : i < vs.length := (List.getElem?_eq_some_iff.mp e3).1
        rw [List.getElem?_append_left (by simpa using hi), List.getElem?_map, e3]
        rfl
      · obtain ⟨d', e1, e2⟩ := shp i _ h
        cases e2
      · obtain ⟨ds', h1, _⟩ := h1
        obtain ⟨d', e1, e2⟩ := shp i _ h1
        cases e2
    · exact ⟨fun S' H' σ' ρ' W' e c q => hQ S' H' W' _ _ e c.cb (Rep.v_iff.mpr rfl) q, fun S' H' σ' ρ' W' d v e c r q => hQ S' H' W' d v e c.cb r q,
        fun S' H' σ' ρ' W' e c q => q.elim, fun S' H' σ' ρ' W' e c q => q.elim, fun S' H' σ' ρ' W' cls x od e c xr q => hE S' H' W' cls x od e c.cb xr q⟩
/-- a weaker promise -/
theorem toSp_imp {K : PySem.W.Frag} {n : Nat} {sp sp' : SpD} (h : ∀ ds W Q Qx, sp' ds W Q Qx → sp ds W Q Qx) : ∀ vs H Q E, toSp K n sp' vs H Q E → toSp K n sp vs H Q E := fun vs H Q E ⟨F, S, W, ds, Qd, Qx, a, b, c, d, e, f⟩ => ⟨F, S, W, ds, Qd, Qx, a, b, c, h _ _ _ _ d, e, f⟩
end G

namespace G
open PySem PySem.Spec L2

/-! ### what is walked -/
/-- J yields the data ds, whatever happens outside of them meanwhile -/
def ItOk (K : PySem.W.Frag) (F S : Reg) (H : Hp) (J : It) (ds : List D) : Prop :=
  ∀ S' H', Stp F S H S' H' → (∀ (i : Nat) d, ds[i]? = some d → J.go i H' ∧ ∀ x H3, J.yld i H' x H3 → Same H' H3 ∧ ((∀ a, S' a → H' a ≠ none) → Rep K S' H3 d x)) ∧ J.stop ds.length H'
theorem ItOk.up {K : PySem.W.Frag} {F S S1 : Reg} {H H1 : Hp} {J : It} {ds : List D} (h : ItOk K F S H J ds) (e : Stp F S H S1 H1) : ItOk K F S1 H1 J ds := fun S' H' e' => h S' H' (e.trans e')
abbrev TID := Env → Wd → KL → KX → Prop
def SndI (K : PySem.W.Frag) (Wx : WX) (wi : TI) (f : TID) : Prop :=
  ∀ F S H σ ρ W Q Qx (R : It → Hp → Prop), Cf K F S H σ ρ W → f ρ W Q Qx → LkX K F S H Wx Qx → (∀ S' H' ρ' W' ds J, Stp F S H S' H' → Cf K F S' H' σ ρ' W' → ItOk K F S' H' J ds → Q ds ρ' W' → R J H') → wi σ H R
def GI (X : Cx) (Wx : WX) (tg iter : Expr) (f : TID) : Prop := ∃ wi, PI X tg iter wi ∧ SndI X.K Wx wi f
section
variable {X : Cx} {Wx : WX} {e tg a b c : Expr} {es : List Expr} {fe : TD} {fl : TL} {p pos : Pos}
theorem itok_l {K : PySem.W.Frag} {F S : Reg} {H : Hp} {a : Addr} {xs : List V} {ds : List D} (h : ImL S H a xs) (r : Reps K S H ds xs) : ItOk K F S H (Itl K a) ds := fun S' H' e => by
  have h' : SqL K H' a xs := (e.imL h).sq
  have r' := r.up e
  refine ⟨fun i d hd => ?_, ⟨xs, h', by rw [r'.length]; exact Nat.le_refl _⟩⟩
  obtain ⟨v, hv, rv⟩ := r'.get hd
  exact ⟨⟨xs, v, h', hv⟩, fun x H3 ⟨e3, y⟩ => by
    subst e3
    have := y xs h'
    rw [hv] at this; cases this
    exact ⟨Same.refl _, fun _ => rv⟩⟩
theorem itok_t {K : PySem.W.Frag} {F S : Reg} {H : Hp} {a : Addr} {xs : List V} {ds : List D} (h : ImT K S H a xs) (r : Reps K S H ds xs) : ItOk K F S H (Itt K a) ds := fun S' H' e => by
  have h' := (e.imT h).sq
  have r' := r.up e
  refine ⟨fun i d hd => ?_, ⟨xs, h', by rw [r'.length]; exact Nat.le_refl _⟩⟩
  obtain ⟨v, hv, rv⟩ := r'.get hd
  exact ⟨⟨xs, v, h', hv⟩, fun x H3 ⟨e3, y⟩ => by
    subst e3
    have := y xs h'
    rw [hv] at this; cases this
    exact ⟨Same.refl _, fun _ => rv⟩⟩
def iSeq (fe : TD) : TID := fun ρ W Q Qx => fe ρ W (fun d ρ' W' => match d with | .lst ds => Q ds ρ' W' | _ => False) Qx
def iTupD (fe : TD) : TID := fun ρ W Q Qx => fe ρ W (fun d ρ' W' => match d with | .tup ds => Q ds ρ' W' | _ => False) Qx
theorem gi_list (he : GE X Wx e fe) : GI X Wx tg e (iSeq fe) := by
  obtain ⟨te, pe, se⟩ := he
  refine ⟨_, pi_list pe, fun F S H σ ρ W Q Qx R cf hf hx hE => ?_⟩
  refine se F S H σ ρ W _ Qx _ cf hf hx fun S1 H1 ρ1 W1 d v e1 c1 r1 q1 => ?_
  split at q1
  · rename_i ds
    obtain ⟨a, xs, rfl, h1, h2⟩ := Rep.lst_iff.mp r1
    exact ⟨a, rfl, ⟨xs, h1.sq⟩, hE S1 H1 ρ1 W1 ds _ e1 c1 (itok_l h1 h2) q1⟩
  · exact q1.elim
theorem gi_tup (he : GE X Wx e fe) : GI X Wx tg e (iTupD fe) := by
  obtain ⟨te, pe, se⟩ := he
  refine ⟨_, pi_tup pe, fun F S H σ ρ W Q Qx R cf hf hx hE => ?_⟩
  refine se F S H σ ρ W _ Qx _ cf hf hx fun S1 H1 ρ1 W1 d v e1 c1 r1 q1 => ?_
  split at q1
  · rename_i ds
    obtain ⟨a, xs, rfl, h1, h2⟩ := Rep.tup_iff.mp r1
    exact ⟨a, rfl, ⟨xs, h1.sq⟩, hE S1 H1 ρ1 W1 ds _ e1 c1 (itok_t h1 h2) q1⟩
  · exact q1.elim
/-- the script -/
def iScr (fe : TD) : TID := fun ρ W Q Qx => fe ρ W (fun d ρ' W' => match d with | .scr ns => Q (ns.map D.int) ρ' W' | _ => False) Qx
theorem gi_scr (he : GE X Wx e fe) : GI X Wx tg e (iScr fe) := by
  obtain ⟨te, pe, se⟩ := he
  refine ⟨_, pi_list pe, fun F S H σ ρ W Q Qx R cf hf hx hE => ?_⟩
  refine se F S H σ ρ W _ Qx _ cf hf hx fun S1 H1 ρ1 W1 d v e1 c1 r1 q1 => ?_
  split at q1
  · rename_i ns
    obtain ⟨a, rfl, h1⟩ := Rep.scr_iff.mp r1
    refine ⟨a, rfl, ⟨_, h1.sq⟩, hE S1 H1 ρ1 W1 _ _ e1 c1 (fun S' H' e' => ?_) q1⟩
    have h' := (e'.imS h1).sq
    refine ⟨fun i d hd => ?_, ⟨_, h', by simp⟩⟩
    rw [List.getElem?_map] at hd
    cases hn : ns[i]? with
    | none => rw [hn] at hd; cases hd
    | some n =>
      rw [hn] at hd; cases hd
      have hv : (ns.map V.int)[i]? = some (V.int n) := by rw [List.getElem?_map, hn]; rfl
      exact ⟨⟨_, _, h', hv⟩, fun x H3 ⟨e3, y⟩ => by
        subst e3
        have := y _ h'
        rw [hv] at this; cases this
        exact ⟨Same.refl _, fun _ => Rep.v_iff.mpr rfl⟩⟩
  · exact q1.elim
/-- the signs of a text -/
def signs (s : Str) : List D := s.cps.toList.map fun c => D.str ⟨#[c]⟩
def iStrD (fe : TD) : TID := fun ρ W Q Qx => fe ρ W (fun d ρ' W' => match d with | .v (.str s) => Q (signs s) ρ' W' | _ => False) Qx
theorem gi_str (he : GE X Wx e fe) : GI X Wx tg e (iStrD fe) := by
  obtain ⟨te, pe, se⟩ := he
  refine ⟨_, pi_str pe, fun F S H σ ρ W Q Qx R cf hf hx hE => ?_⟩
  refine se F S H σ ρ W _ Qx _ cf hf hx fun S1 H1 ρ1 W1 d v e1 c1 r1 q1 => ?_
  split at q1
  · rename_i s
    cases Rep.v_iff.mp r1
    refine ⟨s, rfl, hE S1 H1 ρ1 W1 _ _ e1 c1 (fun S' H' e' => ⟨fun i d hd => ?_, ?_⟩) q1⟩
    · unfold signs at hd
      rw [List.getElem?_map] at hd
      cases hc : s.cps.toList[i]? with
      | none => rw [hc] at hd; cases hd
      | some c =>
        rw [hc] at hd; cases hd
        have hi : i < s.cps.size := by
          have := (List.getElem?_eq_some_iff.mp hc).1
          simpa using this
        refine ⟨hi, fun x H3 ⟨e3, c', h1, h2⟩ => ?_⟩
        subst e3 h2
        have : c' = c := by
          rw [← Array.getElem?_toList] at h1
          rw [hc] at h1; cases h1; rfl
        subst this
        exact ⟨Same.refl _, fun _ => Rep.v_iff.mpr rfl⟩
    · show s.cps.size ≤ (signs s).length
      unfold signs
      simp
  · exact q1.elim
/-- lo, lo + 1, .. -/
def rng (lo : Int) (n : Nat) : List D := (List.range n).map fun (i : Nat) => D.int (lo + (i : Int))
theorem rng_length {lo : Int} {n : Nat} : (rng lo n).length = n := by unfold rng; simp
theorem itok_r {K : PySem.W.Frag} {F S : Reg} {H : Hp} {lo : Int} {n : Nat} : ItOk K F S H (Itr lo n) (rng lo n) := fun S' H' e => by
  refine ⟨fun i d hd => ?_, ?_⟩
  · unfold rng at hd
    rw [List.getElem?_map] at hd
    cases hc : (List.range n)[i]? with
    | none => rw [hc] at hd; cases hd
    | some c =>
      rw [hc] at hd; cases hd
      rw [List.getElem?_eq_some_iff] at hc
      obtain ⟨hi, e1⟩ := hc
      rw [List.getElem_range] at e1
      subst e1
      refine ⟨(show i < n by simpa using hi), fun x H3 ⟨e3, h2⟩ => ?_⟩
      subst e3 h2
      exact ⟨Same.refl _, fun _ => Rep.v_iff.mpr rfl⟩
  · show n ≤ _
    rw [rng_length]; exact Nat.le_refl _
def iRngD1 (fl : TL) : TID := fun ρ W Q Qx => fl ρ W (fun ds ρ' W' => match ds with | [.v (.int j)] => -(2 ^ 62) ≤ j ∧ j < 2 ^ 62 ∧ Q (rng 0 j.toNat) ρ' W' | _ => False) Qx
def iRngD2 (fl : TL) : TID := fun ρ W Q Qx => fl ρ W (fun ds ρ' W' => match ds with | [.v (.int i), .v (.int j)] => (-(2 ^ 62) ≤ i ∧ i < 2 ^ 62 ∧ -(2 ^ 62) ≤ j ∧ j < 2 ^ 62) ∧ Q (rng i (j - i).toNat) ρ' W' | _ => False) Qx
theorem gi_range1 (hg : Gl X "range") (hm : X.mg "range" = none) (ha : GA X Wx [a] fl) (hs : starEach [a] X.env = [(false, eval a X.env)] := by rfl) : GI X Wx tg (.Call (.Name "range" p) [a] [] pos) (iRngD1 fl) := by
  obtain ⟨ta, pa, sa⟩ := ha
  refine ⟨_, pi_range1 hg hm pa hs, fun F S H σ ρ W Q Qx R cf hf hx hE => ?_⟩
  refine sa F S H σ ρ W _ Qx _ cf hf hx fun S1 H1 ρ1 W1 ds vs e1 c1 r1 q1 => ?_
  split at q1
  · rename_i j
    obtain ⟨v, r, rfl, h1, h2⟩ := Reps.cons_iff.mp r1
    cases Rep.v_iff.mp h1
    rw [Reps.nil_iff.mp h2]
    exact ⟨j, rfl, q1.1, q1.2.1, hE S1 H1 ρ1 W1 _ _ e1 c1 itok_r q1.2.2⟩
  · exact q1.elim
theorem gi_range2 (hg : Gl X "range") (hm : X.mg "range" = none) (ha : GA X Wx [a, b] fl) (hs : starEach [a, b] X.env = [(false, eval a X.env), (false, eval b X.env)] := by rfl) (hs2 : starEach [b] X.env = [(false, eval b X.env)] := by rfl) : GI X Wx tg (.Call (.Name "range" p) [a, b] [] pos) (iRngD2 fl) := by
  obtain ⟨ta, pa, sa⟩ := ha
  refine ⟨_, pi_range2 hg hm pa hs hs2, fun F S H σ ρ W Q Qx R cf hf hx hE => ?_⟩
  refine sa F S H σ ρ W _ Qx _ cf hf hx fun S1 H1 ρ1 W1 ds vs e1 c1 r1 q1 => ?_
  split at q1
  · rename_i i j
    obtain ⟨v, r, rfl, h1, h2⟩ := Reps.cons_iff.mp r1
    obtain ⟨v', r', rfl, h3, h4⟩ := Reps.cons_iff.mp h2
    cases Rep.v_iff.mp h1
    cases Rep.v_iff.mp h3
    rw [Reps.nil_iff.mp h4]
    exact ⟨i, j, rfl, q1.1, hE S1 H1 ρ1 W1 _ _ e1 c1 itok_r q1.2⟩
  · exact q1.elim
/-- lo, lo + c, .. -/
def steps (lo c : Int) (n : Nat) : List D := (List.range n).map fun (i : Nat) => D.int (lo + (i : Int) * c)
def iRngD3 (fl : TL) : TID := fun ρ W Q Qx => fl ρ W (fun ds ρ' W' => match ds with | [.v (.int i), .v (.int j), .v (.int c)] => ∃ n, RgC i j c n ∧ Q (steps i c n) ρ' W' | _ => False) Qx
theorem itok_c {K : PySem.W.Frag} {F S : Reg} {H : Hp} {lo c : Int} {n : Nat} : ItOk K F S H (Itc lo c n) (steps lo c n) := fun S' H' e => by
  refine ⟨fun i d hd => ?_, ?_⟩
  · unfold steps at hd
    rw [List.getElem?_map] at hd
    cases hc : (List.range n)[i]? with
    | none => rw [hc] at hd; cases hd
    | some k =>
      rw [hc] at hd; cases hd
      rw [List.getElem?_eq_some_iff] at hc
      obtain ⟨hi, e1⟩ := hc
      rw [List.getElem_range] at e1
      subst e1
      refine ⟨(show i < n by simpa using hi), fun x H3 ⟨e3, h2⟩ => ?_⟩
      subst e3 h2
      exact ⟨Same.refl _, fun _ => Rep.v_iff.mpr rfl⟩
  · show n ≤ _
    unfold steps; simp
theorem gi_range3 (hg : Gl X "range") (hm : X.mg "range" = none) (ha : GA X Wx [a, b, c] fl) (hs : starEach [a, b, c] X.env = (false, eval a X.env) :: starEach [b, c] X.env := by rfl) (hpl : (backTo pos (starEach [b, c] X.env)).any (·.1) = false := by rfl) : GI X Wx tg (.Call (.Name "range" p) [a, b, c] [] pos) (iRngD3 fl) := by
  obtain ⟨ta, pa, sa⟩ := ha
  refine ⟨_, pi_range3 hg hm pa hs hpl, fun F S H σ ρ W Q Qx R cf hf hx hE => ?_⟩
  refine sa F S H σ ρ W _ Qx _ cf hf hx fun S1 H1 ρ1 W1 ds vs e1 c1 r1 q1 => ?_
  split at q1
  · rename_i i j c
    obtain ⟨v, r, rfl, h1, h2⟩ := Reps.cons_iff.mp r1
    obtain ⟨v', r', rfl, h3, h4⟩ := Reps.cons_iff.mp h2
    obtain ⟨v'', r'', rfl, h5, h6⟩ := Reps.cons_iff.mp h4
    cases Rep.v_iff.mp h1
    cases Rep.v_iff.mp h3
    cases Rep.v_iff.mp h5
    rw [Reps.nil_iff.mp h6]
    obtain ⟨n, hr, q⟩ := q1
    exact ⟨i, j, c, n, rfl, hr, hE S1 H1 ρ1 W1 _ _ e1 c1 itok_c q⟩
  · exact q1.elim
end

/-! ### for -/
section
variable {X : Cx} {Wx : WX} {st : Stmt} {f g : TSD} {e tg iter : Expr} {fi : TID} {gd : TGD} {pos : Pos}
/-- I: what holds ahead of the i-th turn -/
@[irreducible] def dFor (fi : TID) (gd : TGD) (fb : TSD) : TSD := fun De ρ W => fi ρ W (fun ds ρ0 W0 => ∃ I : Nat → Env → Wd → Prop, I 0 ρ0 W0 ∧
  (∀ (i : Nat) d ρ W, ds[i]? = some d → I i ρ W → gd d ρ W fun ρ' W' => fb { De with nx := I (i + 1), ct := I (i + 1), bk := De.nx } ρ' W') ∧ ∀ ρ W, I ds.length ρ W → De.nx ρ W) De.ex
theorem gs_for {body : List Stmt} (hp : PassesOwn (model X.prog X.w) X.A X.env X.xe) (hc : X.calm = true) {ts : List Nat} (hi : GI X Wx tg iter fi) (hg : GG X tg gd ts) (hb : GSs X Wx body f)
    (hs : ∀ x, foldedSetIterable iter X.env x = pure x := by intro _; rfl) : GS X Wx (.For tg iter body [] pos) (dFor fi gd f) := by
  obtain ⟨wi, pi, si⟩ := hi
  obtain ⟨tgt, pg, sg⟩ := hg
  obtain ⟨tb, pb, sb⟩ := hb
  refine ⟨_, ps_for hp hc pi pg pb hs, fun F S H σ ρ W De Dh cf hf l => ?_⟩
  unfold dFor at hf
  refine si F S H σ ρ W _ De.ex _ cf hf l.ex fun S1 H1 ρ1 W1 ds J e1 c1 ok q1 => ?_
  obtain ⟨I, h0, hturn, hend⟩ := q1
  let Inv' : Nat → L2.St → Hp → Prop := fun i σ' H' => ∃ S' ρ' W', Stp F S1 H1 S' H' ∧ Cf X.K F S' H' σ' ρ' W' ∧ I i ρ' W'
  refine ⟨fun i m σ' H' => m = ds.length - i ∧ i ≤ ds.length ∧ Inv' i σ' H', ⟨ds.length, by simp, Nat.zero_le _, S1, ρ1, W1, .refl, c1, h0⟩, ?_⟩
  rintro i m σ2 H2 ⟨rfl, hi, S2, ρ2, W2, e2, c2, q2⟩
  obtain ⟨okg, oks⟩ := ok S2 H2 e2
  by_cases hlt : i < ds.length
  · have hd : ds[i]? = some ds[i] := List.getElem?_eq_getElem hlt
    obtain ⟨hgo, hy⟩ := okg i _ hd
    refine .inr ⟨hgo, Inv' (i + 1), fun σ' H' p' => ⟨_, by omega, rfl, hlt, p'⟩, fun x H3 y => ?_⟩
    obtain ⟨s3, r3⟩ := hy x H3 y
    refine sg F S2 H3 σ2 ρ2 W2 _ x _ _ (c2.same s3) (r3 c2.cb.sd) (hturn i _ ρ2 W2 hd q2) fun S4 H4 σ4 ρ4 W4 e4 c4 _ _ q4 => ?_
    have e34 := (e2.trans (stp_same c2.cb s3)).trans e4
    refine sb F S4 H4 σ4 ρ4 W4 _ _ c4 q4 ⟨fun S' H' σ' ρ' W' e' c q => ⟨S', ρ', W', e34.trans e', c, q⟩, fun S' H' σ' ρ' W' d v e' c r q => l.rt S' H' σ' ρ' W' d v ((e1.trans e34).trans e') c r q,
      fun S' H' σ' ρ' W' e' c q => l.nx S' H' σ' ρ' W' ((e1.trans e34).trans e') c q, fun S' H' σ' ρ' W' e' c q => ⟨S', ρ', W', e34.trans e', c, q⟩, (l.ex.up e1).up e34⟩
  · have e : i = ds.length := by omega
    subst e
    exact .inl ⟨oks, l.nx S2 H2 σ2 ρ2 W2 (e1.trans e2) c2 (hend ρ2 W2 q2)⟩
/-- while: I with its measure -/
@[irreducible] def dWhile (fc : TB) (fb : TSD) : TSD := fun De ρ W => ∃ I : Nat → Env → Wd → Prop, (∃ m, I m ρ W) ∧ ∀ m ρ W, I m ρ W → fc ρ W (fun b ρ' W' => if b = true then
  fb { De with nx := fun ρ2 W2 => ∃ m', m' < m ∧ I m' ρ2 W2, ct := fun ρ2 W2 => ∃ m', m' < m ∧ I m' ρ2 W2, bk := De.nx } ρ' W' else De.nx ρ' W') De.ex
theorem gs_while {c : Expr} {body : List Stmt} {fc : TB} (hp : PassesOwn (model X.prog X.w) X.A X.env X.xe) (hc : GT X Wx c fc) (hb : GSs X Wx body f) : GS X Wx (.While c body [] pos) (dWhile fc f) := by
  obtain ⟨tc, pc, sc⟩ := hc
  obtain ⟨tb, pb, sb⟩ := hb
  refine ⟨_, ps_while hp pc pb, fun F S H σ ρ W De Dh cf hf l => ?_⟩
  unfold dWhile at hf
  obtain ⟨I, ⟨m0, h0⟩, hturn⟩ := hf
  let Inv' : Nat → L2.St → Hp → Prop := fun m σ' H' => ∃ S' ρ' W', Stp F S H S' H' ∧ Cf X.K F S' H' σ' ρ' W' ∧ I m ρ' W'
  refine ⟨Inv', ⟨m0, S, ρ, W, .refl, cf, h0⟩, ?_⟩
  rintro m σ1 H1 ⟨S1, ρ1, W1, e1, c1, q1⟩
  refine sc F S1 H1 σ1 ρ1 W1 _ De.ex _ c1 (hturn m ρ1 W1 q1) (l.ex.up e1) fun S2 H2 ρ2 W2 b e2 c2 q2 => ?_
  cases b with
  | true =>
    refine ⟨fun σ' H' => ∃ m', m' < m ∧ Inv' m' σ' H', fun _ _ h => h, ?_⟩
    have e12 := e1.trans e2
    exact sb F S2 H2 σ1 ρ2 W2 _ _ c2 q2 ⟨fun S' H' σ' ρ' W' e' c ⟨m', hm, q⟩ => ⟨m', hm, S', ρ', W', e12.trans e', c, q⟩, fun S' H' σ' ρ' W' d v e' c r q => l.rt S' H' σ' ρ' W' d v (e12.trans e') c r q,
      fun S' H' σ' ρ' W' e' c q => l.nx S' H' σ' ρ' W' (e12.trans e') c q, fun S' H' σ' ρ' W' e' c ⟨m', hm, q⟩ => ⟨m', hm, S', ρ', W', e12.trans e', c, q⟩, l.ex.up e12⟩
  | false => exact l.nx S2 H2 σ1 ρ2 W2 (e1.trans e2) c2 q2
end

/-! ### comprehensions -/
def wipeD (ρ : Env) : List Nat → Env
  | [] => ρ
  | v :: vs => (wipeD ρ vs).set v none
theorem wipeD_length (ρ : Env) : ∀ vs : List Nat, (wipeD ρ vs).length = ρ.length
  | [] => rfl
  | v :: vs => by unfold wipeD; rw [List.length_set, wipeD_length ρ vs]
def noOwn (ρ : Env) (vs : List Nat) : Prop := ∀ i ∈ vs, ∀ o, ρ[i]? ≠ some (some (.om o))
theorem Cf.setNone {K : PySem.W.Frag} {F S : Reg} {H : Hp} {σ : St} {ρ : Env} {W : Wd} (c : Cf K F S H σ ρ W) (i : Nat) : Cf K F S H (σ.set i none) (ρ.set i none) W where
  cb := c.cb
  len := by simp [c.len]
  sh := fun j d' h => by
    by_cases hj : i = j
    · subst hj
      have hl : i < ρ.length := by
        have := (List.getElem?_eq_some_iff.mp h).1
        simpa using this
      rw [List.getElem?_set_self hl] at h
      cases h
    · rw [List.getElem?_set_ne hj] at h
      obtain ⟨w, h1, h2⟩ := c.sh j d' h
      exact ⟨w, by rw [List.getElem?_set_ne hj]; exact h1, h2⟩
  om := fun j ds h => by
    by_cases hj : i = j
    · subst hj
      have hl : i < ρ.length := by
        have := (List.getElem?_eq_some_iff.mp h).1
        simpa using this
      rw [List.getElem?_set_self hl] at h
      cases h
    · rw [List.getElem?_set_ne hj] at h
      obtain ⟨p, h1, h2⟩ := c.om j ds h
      exact ⟨p, by rw [List.getElem?_set_ne hj]; exact h1, h2⟩
  dis := fun j k p h1 h2 => by
    have go : ∀ j, Own (σ.set i none) (ρ.set i none) j p → Own σ ρ j p := fun j ⟨ds, q1, q2⟩ => by
      by_cases hj : i = j
      · subst hj
        have hl : i < ρ.length := by
          have := (List.getElem?_eq_some_iff.mp q1).1
          simpa using this
        rw [List.getElem?_set_self hl] at q1
        cases q1
      · rw [List.getElem?_set_ne hj] at q1 q2
        exact ⟨ds, q1, q2⟩
    exact c.dis j k p (go j h1) (go k h2)
theorem Cf.wiped {K : PySem.W.Frag} {F S : Reg} {H : Hp} {σ : St} {ρ : Env} {W : Wd} (c : Cf K F S H σ ρ W) : ∀ vs : List Nat, Cf K F S H (wipe σ vs) (wipeD ρ vs) W
  | [] => c
  | v :: vs => by unfold wipe wipeD; exact (c.wiped vs).setNone v
/-- tests of a comprehension -/
def GTs (X : Cx) (Wx : WX) (ifs : List Expr) (f : TB) : Prop := ∃ te, PTs X ifs te ∧ SndB X.K Wx te f
def dYes : TB := fun ρ W Q _ => Q true ρ W
section
variable {X : Cx} {Wx : WX} {c e : Expr} {fb : TB}
theorem gts_nil : GTs X Wx [] dYes := ⟨_, pts_nil, fun F S H σ ρ W Q Qx R cf hf hx hE => hE S H ρ W true .refl cf hf⟩
theorem gts_one (h : GT X Wx c fb) : GTs X Wx [c] fb := by
  obtain ⟨t, p, s⟩ := h
  exact ⟨_, pts_one p, s⟩
end
/-- W0: within a block nothing may be raised -/
abbrev WX0 : WX := fun _ _ _ _ => False

def canE (K : PySem.W.Frag) (Wx : WX) (f : TD) : TE := fun σ H R => ∃ F S ρ W Q Qx, Cf K F S H σ ρ W ∧ f ρ W Q Qx ∧ LkX K F S H Wx Qx ∧ EndE K F S H σ Q R
def canB (K : PySem.W.Frag) (Wx : WX) (f : TB) : TT := fun σ H R => ∃ F S ρ W Q Qx, Cf K F S H σ ρ W ∧ f ρ W Q Qx ∧ LkX K F S H Wx Qx ∧ EndB K F S H σ Q R
def canG (K : PySem.W.Frag) (ts : List Nat) (g : TGD) : TG := fun v σ H R => ∃ F S ρ W d P, Cf K F S H σ ρ W ∧ Rep K S H d v ∧ g d ρ W P ∧
  ∀ S' H' σ' ρ' W', Stp F S H S' H' → Cf K F S' H' σ' ρ' W' → Off ts σ σ' → Off ts ρ ρ' → P ρ' W' → R σ' H'
section
variable {X : Cx} {Wx : WX} {c e tg : Expr} {ifs : List Expr} {f : TD} {fb : TB} {g : TGD} {ts : List Nat}
theorem GE.can (h : GE X Wx e f) : PE X e (canE X.K Wx f) := by
  obtain ⟨te, pe, se⟩ := h
  exact ⟨fun pins s σ H Q I ⟨F, S, ρ, W, Qd, Qx, cf, hf, hx, hE⟩ => pe.run pins s σ H Q I (se F S H σ ρ W Qd Qx Q cf hf hx hE)⟩
theorem GTs.can (h : GTs X Wx ifs fb) : PTs X ifs (canB X.K Wx fb) := by
  obtain ⟨te, pe, se⟩ := h
  exact ⟨fun pins s σ H Q I ⟨F, S, ρ, W, Qd, Qx, cf, hf, hx, hE⟩ => pe.run pins s σ H Q I (se F S H σ ρ W Qd Qx Q cf hf hx hE)⟩
theorem GG.can (h : GG X tg g ts) : PG X tg (canG X.K ts g) := by
  obtain ⟨te, pe, se⟩ := h
  exact ⟨fun pins s σ H v u Q I r ⟨F, S, ρ, W, d, P, cf, rd, hg, hE⟩ => pe.run pins s σ H v u Q I r (se F S H σ ρ W d v P Q cf rd hg hE)⟩
end
/-- the heap without p -/
def del (H : Hp) (p : Addr) : Hp := fun a => if a = p then none else H a
theorem del_ne {H : Hp} {a p : Addr} (h : a ≠ p) : del H p a = H a := if_neg h
theorem del_same {H : Hp} {p : Addr} : del H p p = none := if_pos rfl
theorem upd_del {H : Hp} {p : Addr} {o : HO} (h : H p = some o) : upd (del H p) p o = H := by
  funext a
  by_cases ha : a = p
  · rw [ha, upd_same, h]
  · rw [upd_ne ha, del_ne ha]
abbrev Add (S : Reg) (p : Addr) : Reg := fun a => S a ∨ a = p
abbrev Rem (S : Reg) (p : Addr) : Reg := fun a => S a ∧ a ≠ p
mutual
theorem Rep.del {K : PySem.W.Frag} {S : Reg} {H : Hp} {p : Addr} (hp : S p) : ∀ {d : D} {v : V}, Rep K S H d v → Rep K (Rem S p) (del H p) d v
  | .v _, _, h => by simp only [Rep] at h ⊢; exact h
  | .tup ds, v, h => by
    simp only [Rep] at h ⊢
    obtain ⟨a, xs, e1, h1, h2⟩ := h
    refine ⟨a, xs, e1, ?_, Reps.del hp h2⟩
    rcases h1 with ⟨h1, hs⟩ | h1 | ⟨o, h1, hs⟩
    · have na : a ≠ p := fun q => hs (q ▸ hp)
      exact .inl ⟨by rw [del_ne na]; exact h1, fun z => hs z.1⟩
    · exact .inr (.inl h1)
    · have na : a ≠ p := fun q => hs (q ▸ hp)
      exact .inr (.inr ⟨o, by rw [del_ne na]; exact h1, fun z => hs z.1⟩)
  | .lst ds, v, h => by
    simp only [Rep] at h ⊢
    obtain ⟨a, xs, e1, ⟨h1, hs⟩, h2⟩ := h
    have na : a ≠ p := fun q => hs (q ▸ hp)
    exact ⟨a, xs, e1, ⟨by rw [del_ne na]; exact h1, fun z => hs z.1⟩, Reps.del hp h2⟩
  | .scr ns, v, h => by
    simp only [Rep] at h ⊢
    obtain ⟨a, e1, h1⟩ := h
    refine ⟨a, e1, ?_⟩
    rcases h1 with ⟨h1, hs⟩ | h1
    · have na : a ≠ p := fun q => hs (q ▸ hp)
      refine .inl ⟨?_, fun z => hs z.1⟩
      rcases h1 with h1 | ⟨o, h1⟩
      · exact .inl (by rw [del_ne na]; exact h1)
      · exact .inr ⟨o, by rw [del_ne na]; exact h1⟩
    · exact .inr h1
  | .dct ks ds, v, h => by
    simp only [Rep] at h ⊢
    obtain ⟨a, xs, e1, ⟨h1, hs⟩, hl, h2⟩ := h
    have na : a ≠ p := fun q => hs (q ▸ hp)
    exact ⟨a, xs, e1, ⟨by rw [del_ne na]; exact h1, fun z => hs z.1⟩, hl, Reps.del hp h2⟩
  | .tpf ds, v, h => by
    simp only [Rep] at h ⊢
    obtain ⟨a, xs, o, e1, ⟨h0, hs⟩, h1, h2⟩ := h
    have na : a ≠ p := fun q => hs (q ▸ hp)
    exact ⟨a, xs, o, e1, ⟨by rw [del_ne na]; exact h0, fun z => hs z.1⟩, h1, Reps.del hp h2⟩
  | .exc c ks ds, v, h => by
    simp only [Rep] at h ⊢
    obtain ⟨a, od, xs, e1, ⟨h0, hs⟩, h1, h2⟩ := h
    have na : a ≠ p := fun q => hs (q ▸ hp)
    refine ⟨a, od, xs, e1, ⟨by rw [del_ne na]; exact h0, fun z => hs z.1⟩, ?_, Reps.del hp h2⟩
    cases ks with
    | none => exact h1
    | some ks =>
      obtain ⟨d, q1, ⟨q2, q3⟩, q4⟩ := h1
      have nd : d ≠ p := fun q => q3 (q ▸ hp)
      exact ⟨d, q1, ⟨by rw [del_ne nd]; exact q2, fun z => q3 z.1⟩, q4⟩
theorem Reps.del {K : PySem.W.Frag} {S : Reg} {H : Hp} {p : Addr} (hp : S p) : ∀ {ds : List D} {vs : List V}, Reps K S H ds vs → Reps K (Rem S p) (del H p) ds vs
  | [], _, h => by simp only [Reps] at h ⊢; exact h
  | d :: ds, vs, h => by
    simp only [Reps] at h ⊢
    obtain ⟨x, r, e1, h1, h2⟩ := h
    exact ⟨x, r, e1, Rep.del hp h1, Reps.del hp h2⟩
end
section
variable {K : PySem.W.Frag} {F S S' : Reg} {H H' : Hp} {σ σ2 : St} {ρ ρ2 : Env} {W W' : Wd}
/-- a foreign object comes -/
theorem Cf.alien (c : Cf K F S H σ ρ W) {p : Addr} {o : HO} (hp : H p = none) : Stp F S H (Add S p) (upd H p o) ∧ Cf K (Add F p) (Add S p) (upd H p o) σ ρ W := by
  have np : ∀ a, S a → a ≠ p := fun a hs q => c.cb.sd a hs (by rw [q]; exact hp)
  have st : Stp F S H (Add S p) (upd H p o) :=
    ⟨fun a u _ h => same_new hp a u h, fun a h1 h2 => by
      rcases h1 with h1 | h1
      · exact absurd h1 h2
      · rw [h1]; exact hp, fun a h => by
      by_cases ha : a = p
      · rw [ha]; exact hp
      · rw [upd_ne ha] at h; exact h, fun a hf => upd_ne (np a (c.cb.fs a hf))⟩
  refine ⟨st, ⟨fun a h => ?_, fun a h => ?_, fun q u hw => ?_⟩, c.len, fun j d' h => ?_, fun j ds' h => ?_, c.dis⟩
  · rcases h with h | h
    · rw [upd_ne (np a h)]; exact c.cb.sd a h
    · rw [h, upd_same]; simp
  · rcases h with h | h
    · exact .inl (c.cb.fs a h)
    · exact .inr h
  · obtain ⟨h1, h2, h3⟩ := c.cb.w q u hw
    exact ⟨.inl h1, fun z => z.elim h2 (np q h1), h3.up st (upd_ne (np q h1))⟩
  · obtain ⟨w, h1, h2⟩ := c.sh j d' h
    exact ⟨w, h1, h2.up st⟩
  · obtain ⟨q, h1, h3, h4, h5, h6⟩ := c.om j ds' h
    exact ⟨q, h1, h3.up st (upd_ne (np q h4)), .inl h4, fun z => z.elim h5 (np q h4), h6⟩
/-- it changes -/
theorem Cf.alienCh (c : Cf K (Add F p) S H σ ρ W) {o : HO} : Stp F (Rem S p) (del H p) (Rem S p) (del H p) ∧ Cf K (Add F p) S (upd H p o) σ ρ W := by
  have sp : S p := c.cb.fs p (.inr rfl)
  have hn := c.cb.sd p sp
  refine ⟨.refl, ⟨fun a h => ?_, c.cb.fs, fun q u hw => ?_⟩, c.len, fun j d' h => ?_, fun j ds' h => ?_, c.dis⟩
  · by_cases ha : a = p
    · rw [ha, upd_same]; simp
    · rw [upd_ne ha]; exact c.cb.sd a h
  all_goals
    have st : Stp (fun _ => False) S H S (upd H p o) := ⟨fun a u h e => by
      have : a ≠ p := fun q => h (q ▸ sp)
      rw [upd_ne this]; exact e, fun a h1 h2 => absurd h1 h2, fun a h => by
      by_cases ha : a = p
      · rw [ha, upd_same] at h; cases h
      · rw [upd_ne ha] at h; exact h, fun a h => h.elim⟩
  · obtain ⟨h1, h2, h3⟩ := c.cb.w q u hw
    exact ⟨h1, h2, h3.up st (upd_ne fun z => h2 (.inr z))⟩
  · obtain ⟨w, h1, h2⟩ := c.sh j d' h
    exact ⟨w, h1, h2.up st⟩
  · obtain ⟨q, h1, h3, h4, h5, h6⟩ := c.om j ds' h
    exact ⟨q, h1, h3.up st (upd_ne fun z => h5 (.inr z)), h4, h5, h6⟩
theorem MRep.del {p q : Addr} {o : MO} (h : MRep K S H q o) (nq : q ≠ p) (sp : S p) : MRep K (Rem S p) (del H p) q o := by
  cases o with
  | lst ds => obtain ⟨xs, h4, h5⟩ := h; exact ⟨xs, (del_ne nq).trans h4, h5.del sp⟩
  | ins C dx fs => obtain ⟨xs, h4, h5, h6⟩ := h; exact ⟨xs, (del_ne nq).trans h4, h5, h6.del sp⟩
  | dK kvs => obtain ⟨xs, h4, h5, h6⟩ := h; exact ⟨xs, (del_ne nq).trans h4, h5, h6.del sp⟩
/-- it goes -/
theorem Cf.unalien {p : Addr} (c : Cf K (Add F p) S H σ ρ W) (hF : ¬ F p) : Cf K F (Rem S p) (del H p) σ ρ W := by
  have sp : S p := c.cb.fs p (.inr rfl)
  refine ⟨⟨fun a h => by rw [del_ne h.2]; exact c.cb.sd a h.1, fun a h => ⟨c.cb.fs a (.inl h), fun z => hF (z ▸ h)⟩, fun q u hw => ?_⟩, c.len, fun j d' h => ?_, fun j ds' h => ?_, c.dis⟩
  · obtain ⟨h1, h2, h3⟩ := c.cb.w q u hw
    have nq : q ≠ p := fun z => h2 (.inr z)
    refine ⟨⟨h1, nq⟩, fun z => h2 (.inl z), ?_⟩
    exact h3.del nq sp
  · obtain ⟨w, h1, h2⟩ := c.sh j d' h
    exact ⟨w, h1, h2.del sp⟩
  · obtain ⟨q, h1, h3, h4, h5, h6⟩ := c.om j ds' h
    have nq : q ≠ p := fun z => h5 (.inr z)
    exact ⟨q, h1, h3.del nq sp, ⟨h4, nq⟩, fun z => h5 (.inl z), h6⟩
theorem Off.get {α : Type} {ts : List Nat} {l l' : List α} (h : Off ts l l') {j : Nat} (hj : j ∉ ts) : l'[j]? = l[j]? := h.2 j hj
/-- the slots are as before -/
theorem Cf.restore (c0 : Cf K F S H σ ρ W) (e : Stp F S H S' H') (c : Cf K F S' H' σ2 ρ2 W') {vs : List Nat} (o1 : ∀ j, j ∉ vs → σ2[j]? = σ[j]?) (o2 : ∀ j, j ∉ vs → ρ2[j]? = ρ[j]?) (hn : noOwn ρ vs) : Cf K F S' H' σ ρ W' where
  cb := c.cb
  len := c0.len
  sh := fun i d h => by
    obtain ⟨v, h1, h2⟩ := c0.sh i d h
    exact ⟨v, h1, h2.up e⟩
  om := fun i ds h => by
    have hi : i ∉ vs := fun z => hn i z ds h
    obtain ⟨q, h1, h2⟩ := c.om i ds ((o2 i hi).trans h)
    exact ⟨q, (o1 i hi).symm.trans h1, h2⟩
  dis := c0.dis
end
theorem wipe_off (σ : St) : ∀ (vs : List Nat) (j : Nat), j ∉ vs → (wipe σ vs)[j]? = σ[j]?
  | [], _, _ => rfl
  | v :: vs, j, h => by
    unfold wipe
    rw [List.getElem?_set_ne (fun e => h (by simp [e]))]
    exact wipe_off σ vs j fun z => h (by simp [z])
theorem wipeD_off (σ : Env) : ∀ (vs : List Nat) (j : Nat), j ∉ vs → (wipeD σ vs)[j]? = σ[j]?
  | [], _, _ => rfl
  | v :: vs, j, h => by
    unfold wipeD
    rw [List.getElem?_set_ne (fun e => h (by simp [e]))]
    exact wipeD_off σ vs j fun z => h (by simp [z])
theorem wipe_on (σ : St) : ∀ (vs : List Nat) (j : Nat), j ∈ vs → j < σ.length → (wipe σ vs)[j]? = some none
  | v :: vs, j, h, hl => by
    unfold wipe
    by_cases e : v = j
    · subst e
      rw [List.getElem?_set_self (by rw [wipe_length]; exact hl)]
    · rw [List.getElem?_set_ne e]
      exact wipe_on σ vs j (by simpa [Ne.symm e] using h) hl
theorem wipe_eq {σ σ2 : St} {vs : List Nat} (hl : σ2.length = σ.length) (h : ∀ j, j ∉ vs → σ2[j]? = σ[j]?) : wipe σ2 vs = wipe σ vs := by
  refine List.ext_getElem? fun j => ?_
  by_cases hj : j ∈ vs
  · by_cases hb : j < σ.length
    · rw [wipe_on σ vs j hj hb, wipe_on σ2 vs j hj (by rw [hl]; exact hb)]
    · rw [List.getElem?_eq_none (by rw [wipe_length, hl]; omega), List.getElem?_eq_none (by rw [wipe_length]; omega)]
  · rw [wipe_off σ2 vs j hj, wipe_off σ vs j hj, h j hj]
/-- I: what holds of the list so far and the state ahead of the i-th turn; the slots are as they were -/
@[irreducible] def dLc (fi : TID) (gd : TGD) (ft : TB) (fe : TD) (vs : List Nat) : TL := fun ρ W Q Qx => noOwn ρ vs ∧ fi ρ W (fun ds ρ0 W0 => ρ0 = ρ ∧ ds.length ≤ sizeLine ∧ ∃ I : Nat → List D → Wd → Prop, I 0 [] W0 ∧
  (∀ (i : Nat) d acc W, ds[i]? = some d → acc.length ≤ i → I i acc W → gd d (wipeD ρ vs) W fun ρ1 W1 => ft ρ1 W1 (fun b ρ2 W2 => ρ2 = ρ1 ∧ if b = true then
    fe ρ1 W2 (fun y ρ3 W3 => ρ3 = ρ1 ∧ I (i + 1) (acc ++ [y]) W3) (fun _ _ _ _ => False) else I (i + 1) acc W2) (fun _ _ _ _ => False)) ∧ ∀ acc W, acc.length ≤ ds.length → I ds.length acc W → Q acc ρ W) Qx
theorem lkx_none {K : PySem.W.Frag} {F S : Reg} {H : Hp} {Wx : WX} : LkX K F S H Wx (fun _ _ _ _ => False) := fun _ _ _ _ _ _ _ _ _ _ _ q => q.elim
theorem snd_lc {K : PySem.W.Frag} {Wx : WX} {wi : TI} {fi : TID} {gd : TGD} {ft : TB} {fe : TD} {vs ts : List Nat} (hts : ∀ j ∈ ts, j ∈ vs) (si : SndI K Wx wi fi) : SndN K Wx (tLc wi (canG K ts gd) (canB K WX0 ft) (canE K WX0 fe) vs) (dLc fi gd ft fe vs) := by
  intro F S H σ ρ W Q Qx R cf hf hx hE
  unfold dLc at hf
  obtain ⟨hno, hf⟩ := hf
  refine si F S H σ ρ W _ Qx _ cf hf hx fun S1 H1 ρ1 W1 ds J e1 c1 ok q1 => ?_
  obtain ⟨rfl, hlen, I, h0, hturn, hend⟩ := q1
  intro p hp
  have nF : ¬ F p := fun z => c1.cb.sd p (c1.cb.fs p z) hp
  have nS : ¬ S1 p := fun z => c1.cb.sd p z hp
  obtain ⟨ea, ca⟩ := c1.alien (o := .lst []) hp
  let Iv : Nat → Hp → Prop := fun i H' => ∃ S' W' acc xs, Stp F S1 H1 S' H' ∧ Cf K (Add F p) S' H' σ ρ1 W' ∧ Reps K S' H' acc xs ∧ H' p = some (.lst xs) ∧ acc.length ≤ i ∧ I i acc W'
  refine ⟨fun i m H' => m = ds.length - i ∧ i ≤ ds.length ∧ Iv i H', ⟨ds.length, by simp, Nat.zero_le _, Add S1 p, W1, [], [], ea, ca, Reps.nil, upd_same, Nat.le_refl _, h0⟩, ?_⟩
  rintro i m H2 ⟨rfl, hi, S2, W2, acc, xs, e2, c2, r2, hp2, hacc, q2⟩
  have nFp : Stp F S1 H1 S2 H2 := e2
  obtain ⟨okg, oks⟩ := ok S2 H2 e2
  by_cases hlt : i < ds.length
  · have hd : ds[i]? = some ds[i] := List.getElem?_eq_getElem hlt
    obtain ⟨hgo, hy⟩ := okg i _ hd
    refine .inr ⟨hgo, Iv (i + 1), fun H' p' => ⟨_, by omega, rfl, hlt, p'⟩, fun x H3 y => ?_⟩
    obtain ⟨s3, r3⟩ := hy x H3 y
    have e3 : Stp F S2 H2 S2 H3 := (stp_same c2.cb s3).mono fun _ h => .inl h
    refine ⟨Add F p, S2, wipeD ρ1 vs, W2, ds[i], _, (c2.same s3).wiped vs, r3 c2.cb.sd, hturn i _ acc W2 hd hacc q2, fun S4 H4 σ4 ρ4 W4 e4 c4 o1 o2 q4 => ?_⟩
    have off1 : ∀ j, j ∉ vs → σ4[j]? = σ[j]? := fun j hj => (o1.2 j fun z => hj (hts j z)).trans (wipe_off σ vs j hj)
    have off2 : ∀ j, j ∉ vs → ρ4[j]? = ρ1[j]? := fun j hj => (o2.2 j fun z => hj (hts j z)).trans (wipeD_off ρ1 vs j hj)
    refine ⟨wipe_eq (by rw [o1.1, wipe_length]) off1, ?_⟩
    refine ⟨Add F p, S4, ρ4, W4, _, _, c4, q4, lkx_none, fun S5 H5 ρ5 W5 b e5 c5 q5 => ?_⟩
    obtain ⟨rfl, q5⟩ := q5
    have e45 := (e4.mono (F' := F) fun _ h => .inl h).trans (e5.mono (F' := F) fun _ h => .inl h)
    have e35 := e3.trans e45
    have r5 := r2.up e35
    have hp5 : H5 p = some (.lst xs) := (e5.frn p (.inr rfl)).trans ((e4.frn p (.inr rfl)).trans (s3 p _ hp2))
    have full : Stp (Add F p) S2 H2 S5 H5 := (stp_same c2.cb s3).trans (e4.trans e5)
    cases b with
    | true =>
      refine ⟨Add F p, S5, ρ5, W5, _, _, c5, q5, lkx_none, fun S6 H6 ρ6 W6 y' v6 e6 c6 r6 q6 => ?_⟩
      obtain ⟨rfl, q6⟩ := q6
      have hp6 : H6 p = some (.lst xs) := (e6.frn p (.inr rfl)).trans hp5
      refine ⟨xs, hp6, by rw [r2.length]; omega, ?_⟩
      have c7 := c2.restore (full.trans e6) c6 off1 off2 hno
      have sp : S6 p := c7.cb.fs p (.inr rfl)
      have e67 : Stp F S6 H6 S6 (upd H6 p (.lst (xs ++ [v6]))) := ⟨fun a u h e => by
        have : a ≠ p := fun q => h (q ▸ sp)
        rw [upd_ne this]; exact e, fun a h1 h2 => absurd h1 h2, fun a h => by
        by_cases ha : a = p
        · rw [ha, upd_same] at h; cases h
        · rw [upd_ne ha] at h; exact h, fun a h => upd_ne fun z => nF (z ▸ h)⟩
      have e6' := e6.mono (F' := F) fun _ h => .inl h
      refine ⟨S6, W6, acc ++ [y'], xs ++ [v6], ((e2.trans e35).trans e6').trans e67, c7.alienCh.2, ((r5.up e6').append (Reps.cons r6 Reps.nil)).up e67, upd_same, by simp; omega, q6⟩
    | false =>
      have c7 := c2.restore full c5 off1 off2 hno
      exact ⟨S5, W5, acc, xs, e2.trans e35, c7, r5, hp5, by omega, q5⟩
  · have e : i = ds.length := by omega
    subst e
    refine .inl ⟨oks, ?_⟩
    have sp : S2 p := c2.cb.fs p (.inr rfl)
    have := hE (Rem S2 p) (del H2 p) ρ1 W2 acc xs p (e1.trans ⟨fun a o h1 h2 => ?_, fun a h1 h2 => e2.new a h1.1 h2, fun a h => ?_, fun a h => ?_⟩) (c2.unalien nF) (r2.del sp) del_same (hend acc W2 hacc q2)
    · rw [upd_del hp2] at this; exact this
    · have : a ≠ p := fun z => by rw [z, hp] at h2; cases h2
      rw [del_ne this]; exact e2.keep a o h1 h2
    · by_cases ha : a = p
      · rw [ha]; exact hp
      · rw [del_ne ha] at h; exact e2.dom a h
    · rw [del_ne (fun (z : a = p) => nF (z ▸ h))]; exact e2.frn a h
section
variable {X : Cx} {Wx : WX} {elt tg iter : Expr} {ifs : List Expr} {scope : Scope} {own : List (Str × Nat)} {pos : Pos} {fi : TID} {gd : TGD} {ft : TB} {fe : TD} {ts : List Nat}
theorem gn_lc (own : List (Str × Nat)) (hc : X.calm = true) (hN : X.N.Nodup) (hi : GI X Wx tg iter fi) (ok : BlkOk X.N X.env.scope scope own) (hts : ∀ j ∈ ts, j ∈ own.map (·.2))
    (hg : ∀ (s : Shared) (H : Hp) (C : Addr) (cl : List (Str × Addr)) (fp : List Addr), GG (X.blk s H scope (PySem.compEnvC scope cl C X.env) fp) tg gd ts) (ht : ∀ (s : Shared) (H : Hp) (C : Addr) (cl : List (Str × Addr)) (fp : List Addr), GTs (X.blk s H scope (PySem.compEnvC scope cl C X.env) fp) WX0 ifs ft)
    (he : ∀ (s : Shared) (H : Hp) (C : Addr) (cl : List (Str × Addr)) (fp : List Addr), GE (X.blk s H scope (PySem.compEnvC scope cl C X.env) fp) WX0 elt fe) (hs : ∀ x, foldedSetIterable iter X.env x = pure x := by intro _; rfl) :
    GN X Wx (.ListComp elt [⟨tg, iter, ifs, 0⟩] scope pos) (dLc fi gd ft fe (own.map (·.2))) := by
  obtain ⟨wi, pi, si⟩ := hi
  exact ⟨_, pe_lc hc hN pi ok (fun s H C cl fp => (hg s H C cl fp).can) (fun s H C cl fp => (ht s H C cl fp).can) (fun s H C cl fp => (he s H C cl fp).can) hs, snd_lc hts si⟩
end
end G

namespace G
open PySem PySem.Spec L2

/-! ### data for == -/
mutual
def D.py : D → PyData
  | .v .non => .none
  | .v (.bl b) => .bool b
  | .v (.int i) => .int i
  | .v (.str s) => .str s
  | .v _ => .dict []
  | .tup ds => .tuple (pys ds)
  | .lst ds => .list (pys ds)
  | .scr ns => .list (ns.map PyData.int)
  | .dct _ _ => .dict []
  | .exc _ _ _ => .dict []
  | .tpf _ => .dict []
def pys : List D → List PyData
  | [] => []
  | d :: ds => D.py d :: pys ds
end
mutual
/-- None, truths, ints, texts and what is made of them, n deep at most -/
def D.good : Nat → D → Bool
  | _, .v .non => true
  | _, .v (.bl _) => true
  | _, .v (.int _) => true
  | _, .v (.str s) => PyData.strOk s
  | _, .v _ => false
  | 0, _ => false
  | n + 1, .tup ds => goods n ds
  | n + 1, .lst ds => goods n ds
  | _ + 1, .scr _ => true
  | _ + 1, .dct _ _ => false
  | _ + 1, .exc _ _ _ => false
  | _ + 1, .tpf _ => false
def goods : Nat → List D → Bool
  | _, [] => true
  | n, d :: ds => D.good n d && goods n ds
end
section
variable {K : PySem.W.Frag} {S : Reg} {H : Hp}
mutual
theorem dp_of : ∀ {n : Nat} {d : D} {v : V}, D.good n d = true → Rep K S H d v → Dp K H v d.py
  | _, .v .non, v, _, h => by rw [Rep.v_iff.mp h]; simp only [D.py]; exact .non
  | _, .v (.bl b), v, _, h => by rw [Rep.v_iff.mp h]; simp only [D.py]; exact .bl b
  | _, .v (.int b), v, _, h => by rw [Rep.v_iff.mp h]; simp only [D.py]; exact .int b
  | _, .v (.str b), v, _, h => by rw [Rep.v_iff.mp h]; simp only [D.py]; exact .str b
  | _, .v (.byt _), _, h, _ => by simp [D.good] at h
  | _, .v (.flt _), _, h, _ => by simp [D.good] at h
  | _, .v (.ref _), _, h, _ => by simp [D.good] at h
  | _, .v (.ty _), _, h, _ => by simp [D.good] at h
  | 0, .tup _, _, h, _ => by simp [D.good] at h
  | 0, .lst _, _, h, _ => by simp [D.good] at h
  | 0, .scr _, _, h, _ => by simp [D.good] at h
  | 0, .dct _ _, _, h, _ => by simp [D.good] at h
  | _ + 1, .dct _ _, _, h, _ => by simp [D.good] at h
  | 0, .exc _ _ _, _, h, _ => by simp [D.good] at h
  | _ + 1, .exc _ _ _, _, h, _ => by simp [D.good] at h
  | 0, .tpf _, _, h, _ => by simp [D.good] at h
  | _ + 1, .tpf _, _, h, _ => by simp [D.good] at h
  | n + 1, .tup ds, v, g, h => by
    obtain ⟨a, xs, rfl, h1, h2⟩ := Rep.tup_iff.mp h
    simp only [D.py]
    exact .tup h1.sq (dps_of (by simpa [D.good] using g) h2)
  | n + 1, .lst ds, v, g, h => by
    obtain ⟨a, xs, rfl, h1, h2⟩ := Rep.lst_iff.mp h
    simp only [D.py]
    exact .lst h1.sq (dps_of (by simpa [D.good] using g) h2)
  | n + 1, .scr ns, v, g, h => by
    obtain ⟨a, rfl, h1⟩ := Rep.scr_iff.mp h
    simp only [D.py]
    refine .lst h1.sq ?_
    clear h h1
    induction ns with
    | nil => exact .nil
    | cons n ns ih => exact .cons (.int n) (ih (by simpa [D.good] using g))
theorem dps_of : ∀ {n : Nat} {ds : List D} {vs : List V}, goods n ds = true → Reps K S H ds vs → DpAll K H vs (pys ds)
  | _, [], _, _, h => by rw [Reps.nil_iff.mp h]; simp only [pys]; exact .nil
  | n, d :: ds, vs, g, h => by
    obtain ⟨x, r, rfl, h1, h2⟩ := Reps.cons_iff.mp h
    simp only [goods, Bool.and_eq_true] at g
    simp only [pys]
    exact .cons (dp_of g.1 h1) (dps_of g.2 h2)
end
end
mutual
theorem lay_of : ∀ {n : Nat} {d : D}, D.good n d = true → d.py.canLay0 = true ∧ d.py.depth ≤ n
  | _, .v .non, _ => by simp [D.py, PyData.canLay0, PyData.depth]
  | _, .v (.bl b), _ => by simp [D.py, PyData.canLay0, PyData.depth]
  | _, .v (.int b), _ => by simp [D.py, PyData.canLay0, PyData.depth]
  | _, .v (.str b), h => by
    simp only [D.good] at h
    simp [D.py, PyData.canLay0, PyData.depth, h]
  | _, .v (.byt _), h => by simp [D.good] at h
  | _, .v (.flt _), h => by simp [D.good] at h
  | _, .v (.ref _), h => by simp [D.good] at h
  | _, .v (.ty _), h => by simp [D.good] at h
  | 0, .tup _, h => by simp [D.good] at h
  | 0, .lst _, h => by simp [D.good] at h
  | 0, .scr _, h => by simp [D.good] at h
  | 0, .dct _ _, h => by simp [D.good] at h
  | _ + 1, .dct _ _, h => by simp [D.good] at h
  | 0, .exc _ _ _, h => by simp [D.good] at h
  | _ + 1, .exc _ _ _, h => by simp [D.good] at h
  | 0, .tpf _, h => by simp [D.good] at h
  | _ + 1, .tpf _, h => by simp [D.good] at h
  | n + 1, .tup ds, g => by
    have := lays_of (n := n) (ds := ds) (by simpa [D.good] using g)
    simp only [D.py, PyData.canLay0, PyData.depth]
    exact ⟨this.1, by omega⟩
  | n + 1, .lst ds, g => by
    have := lays_of (n := n) (ds := ds) (by simpa [D.good] using g)
    simp only [D.py, PyData.canLay0, PyData.depth]
    exact ⟨this.1, by omega⟩
  | n + 1, .scr ns, g => by
    simp only [D.py, PyData.canLay0, PyData.depth]
    have : PyData.canLayAll0 (ns.map PyData.int) = true ∧ PyData.depthAll (ns.map PyData.int) = 0 := by
      clear g
      induction ns with
      | nil => simp [PyData.canLayAll0, PyData.depthAll]
      | cons a r ih => simp [PyData.canLayAll0, PyData.depthAll, PyData.canLay0, PyData.depth, ih]
    exact ⟨this.1, by omega⟩
theorem lays_of : ∀ {n : Nat} {ds : List D}, goods n ds = true → PyData.canLayAll0 (pys ds) = true ∧ PyData.depthAll (pys ds) ≤ n
  | _, [], _ => by simp [pys, PyData.canLayAll0, PyData.depthAll]
  | n, d :: ds, g => by
    simp only [goods, Bool.and_eq_true] at g
    have h1 := lay_of g.1
    have h2 := lays_of g.2
    simp only [pys, PyData.canLayAll0, PyData.depthAll, Bool.and_eq_true]
    exact ⟨⟨h1.1, h2.1⟩, by omega⟩
end
theorem shaped_of {d : D} (g : D.good 64 d = true) : SeqAt.shaped d.py = true := by
  have := lay_of g
  unfold SeqAt.shaped
  simp [this.1, this.2]
def eqD (d e : D) : Bool := PyData.eqv d.py e.py
def dEqN : D → D → (D → Prop) → Prop := fun d e Q => D.good 64 d = true ∧ D.good 64 e = true ∧ Q (.bl (eqD d e))
def dNeN : D → D → (D → Prop) → Prop := fun d e Q => D.good 64 d = true ∧ D.good 64 e = true ∧ Q (.bl (!eqD d e))
def dEqS : D → D → (D → Prop) → Prop := fun d e Q => match d, e with | .v x, .v y => scal x y = true ∧ Q (.bl (decide (x = y))) | _, _ => False
def dNeS : D → D → (D → Prop) → Prop := fun d e Q => match d, e with | .v x, .v y => scal x y = true ∧ Q (.bl (!decide (x = y))) | _, _ => False
/-- == of flat values by worth, of others by their data -/
@[irreducible] def dEq : D → D → (D → Prop) → Prop := fun d e Q => match d, e with | .v x, .v y => (if scal x y = true then Q (.bl (decide (x = y))) else dEqN (.v x) (.v y) Q) | d, e => dEqN d e Q
@[irreducible] def dNe : D → D → (D → Prop) → Prop := fun d e Q => match d, e with | .v x, .v y => (if scal x y = true then Q (.bl (!decide (x = y))) else dNeN (.v x) (.v y) Q) | d, e => dNeN d e Q
section
variable {K : PySem.W.Frag}
theorem rs_eqN : RSnd K (rEqD K) dEqN := fun F S H W d e x y P R cb rd re hp k =>
  ⟨_, _, dp_of hp.1 rd, dp_of hp.2.1 re, shaped_of hp.1, shaped_of hp.2.1, k _ _ H (Same.refl H) (Rep.v_iff.mpr rfl) hp.2.2⟩
theorem rs_neN : RSnd K (rNeD K) dNeN := fun F S H W d e x y P R cb rd re hp k =>
  ⟨_, _, dp_of hp.1 rd, dp_of hp.2.1 re, shaped_of hp.1, shaped_of hp.2.1, k _ _ H (Same.refl H) (Rep.v_iff.mpr rfl) hp.2.2⟩
theorem rs_eqS : RSnd K rEq dEqS := fun F S H W d e x y P R cb rd re hp k => by
  unfold dEqS at hp
  split at hp
  · rw [Rep.v_iff] at rd re
    subst rd re
    exact ⟨hp.1, k _ _ H (Same.refl H) (Rep.v_iff.mpr rfl) hp.2⟩
  · exact hp.elim
theorem rs_neS : RSnd K rNe dNeS := fun F S H W d e x y P R cb rd re hp k => by
  unfold dNeS at hp
  split at hp
  · rw [Rep.v_iff] at rd re
    subst rd re
    exact ⟨hp.1, k _ _ H (Same.refl H) (Rep.v_iff.mpr rfl) hp.2⟩
  · exact hp.elim
theorem rs_or {r r' : R2} {g g' : D → D → (D → Prop) → Prop} (h : RSnd K r g) (h' : RSnd K r' g') : RSnd K (fun x y H Q => r x y H Q ∨ r' x y H Q) (fun d e Q => g d e Q ∨ g' d e Q) := fun F S H W d e x y P R cb rd re hp k => by
  rcases hp with hp | hp
  · exact .inl (h F S H W d e x y P R cb rd re hp k)
  · exact .inr (h' F S H W d e x y P R cb rd re hp k)
theorem rs_imp {r : R2} {g g' : D → D → (D → Prop) → Prop} (h : RSnd K r g) (hg : ∀ d e Q, g' d e Q → g d e Q) : RSnd K r g' := fun F S H W d e x y P R cb rd re hp k => h F S H W d e x y P R cb rd re (hg d e P hp) k
theorem rs_eq : RSnd K (fun x y H Q => rEq x y H Q ∨ rEqD K x y H Q) dEq := rs_imp (rs_or rs_eqS rs_eqN) fun d e Q h => by
  unfold dEq at h
  split at h
  · split at h
    · rename_i c
      exact .inl ⟨c, h⟩
    · exact .inr h
  · exact .inr h
theorem rs_ne : RSnd K (fun x y H Q => rNe x y H Q ∨ rNeD K x y H Q) dNe := rs_imp (rs_or rs_neS rs_neN) fun d e Q h => by
  unfold dNe at h
  split at h
  · split at h
    · rename_i c
      exact .inl ⟨c, h⟩
    · exact .inr h
  · exact .inr h
theorem op_eqA {X : Cx} (hu : X.A.units + 64 < cLine) : OpR X (compareOp .Eq) (fun x y H Q => rEq x y H Q ∨ rEqD X.K x y H Q) := op_eq.or (op_eqD hu)
theorem op_neA {X : Cx} (hu : X.A.units + 64 < cLine) : OpR X (compareOp .NotEq) (fun x y H Q => rNe x y H Q ∨ rNeD X.K x y H Q) := op_ne.or (op_neD hu)
/-! ### ints -/
/-- two ints in, a value out -/
def d2I (C : Int → Int → Prop) (g : Int → Int → V) : D → D → (D → Prop) → Prop := fun d e Q => match d, e with | .v (.int i), .v (.int j) => C i j ∧ Q (.v (g i j)) | _, _ => False
theorem rs_I {C : Int → Int → Prop} {g : Int → Int → V} : RSnd K (rI C g) (d2I C g) := fun F S H W d e x y P R cb rd re hp k => by
  unfold d2I at hp
  split at hp
  · rename_i i j
    rw [Rep.v_iff] at rd re
    exact ⟨i, j, rd, re, hp.1, k _ _ H (Same.refl H) (Rep.v_iff.mpr rfl) hp.2⟩
  · exact hp.elim
def d2J (g : Int → Int → V) : D → D → (D → Prop) → Prop := fun d e Q => match d, e with | .v (.int i), .v (.int j) => Q (.v (g i j)) | _, _ => False
theorem rs_J {g : Int → Int → V} : RSnd K (rI0 g) (d2J g) := fun F S H W d e x y P R cb rd re hp k => by
  unfold d2J at hp
  split at hp
  · rename_i i j
    rw [Rep.v_iff] at rd re
    exact ⟨i, j, rd, re, k _ _ H (Same.refl H) (Rep.v_iff.mpr rfl) hp⟩
  · exact hp.elim
/-- two texts in -/
def d2S (g : Str → Str → V) : D → D → (D → Prop) → Prop := fun d e Q => match d, e with | .v (.str i), .v (.str j) => Q (.v (g i j)) | _, _ => False
theorem rs_S {g : Str → Str → V} : RSnd K (fun x y H Q => ∃ i j, x = .str i ∧ y = .str j ∧ Q (g i j) H) (d2S g) := fun F S H W d e x y P R cb rd re hp k => by
  unfold d2S at hp
  split at hp
  · rename_i i j
    rw [Rep.v_iff] at rd re
    exact ⟨i, j, rd, re, k _ _ H (Same.refl H) (Rep.v_iff.mpr rfl) hp⟩
  · exact hp.elim
/-! ### + -/
def rAddS : R2 := fun x y H Q => ∃ i j, x = .str i ∧ y = .str j ∧ i.length + j.length ≤ sizeLine ∧ Q (.str (i ++ j)) H
def dAddS : D → D → (D → Prop) → Prop := fun d e Q => match d, e with | .v (.str i), .v (.str j) => i.length + j.length ≤ sizeLine ∧ Q (.str (i ++ j)) | _, _ => False
theorem rs_addS : RSnd K rAddS dAddS := fun F S H W d e x y P R cb rd re hp k => by
  unfold dAddS at hp
  split at hp
  · rename_i i j
    rw [Rep.v_iff] at rd re
    exact ⟨i, j, rd, re, hp.1, k _ _ H (Same.refl H) (Rep.v_iff.mpr rfl) hp.2⟩
  · exact hp.elim
def dAddL : D → D → (D → Prop) → Prop := fun d e Q => match d, e with | .lst i, .lst j => i.length + j.length ≤ sizeLine ∧ Q (.lst (i ++ j)) | _, _ => False
theorem rs_addL : RSnd K rCat dAddL := fun F S H W d e x y P R cb rd re hp k => by
  unfold dAddL at hp
  split at hp
  · rename_i i j
    obtain ⟨a, xs, rfl, h1, h2⟩ := Rep.lst_iff.mp rd
    obtain ⟨b, ys, rfl, h3, h4⟩ := Rep.lst_iff.mp re
    exact ⟨a, b, xs, ys, rfl, rfl, h1.1, h3.1, by rw [h2.length, h4.length]; exact hp.1, fun p hn => k _ _ _ (same_new hn) (rep_newL cb hn (h2.append h4)) hp.2⟩
  · exact hp.elim
def dAddT : D → D → (D → Prop) → Prop := fun d e Q => match d, e with | .tup i, .tup j => i.length + j.length ≤ sizeLine ∧ Q (.tup (i ++ j)) | _, _ => False
theorem rs_addT : RSnd K (rCatA K) dAddT := fun F S H W d e x y P R cb rd re hp k => by
  unfold dAddT at hp
  split at hp
  · rename_i i j
    obtain ⟨a, xs, rfl, h1, h2⟩ := Rep.tup_iff.mp rd
    obtain ⟨b, ys, rfl, h3, h4⟩ := Rep.tup_iff.mp re
    refine ⟨a, b, xs, ys, rfl, rfl, h1.sq, h3.sq, by rw [h2.length, h4.length]; exact hp.1, fun e1 => ?_, fun _ e1 => ?_, fun _ _ p hn => k _ _ _ (same_new hn) (rep_newT cb hn (h2.append h4)) hp.2⟩
    · refine k _ _ H (Same.refl H) ?_ hp.2
      have := h2.length
      rw [e1] at this
      have e0 : i = [] := List.eq_nil_of_length_eq_zero this.symm
      rw [e0]
      exact re
    · refine k _ _ H (Same.refl H) ?_ hp.2
      have := h4.length
      rw [e1] at this
      have e0 : j = [] := List.eq_nil_of_length_eq_zero this.symm
      rw [e0, List.append_nil]
      exact rd
  · exact hp.elim
def dAdd : D → D → (D → Prop) → Prop := fun d e Q => match d, e with
  | .v (.int i), .v (.int j) => Q (.int (i + j))
  | .v (.str i), .v (.str j) => i.length + j.length ≤ sizeLine ∧ Q (.str (i ++ j))
  | .lst i, .lst j => i.length + j.length ≤ sizeLine ∧ Q (.lst (i ++ j))
  | .tup i, .tup j => i.length + j.length ≤ sizeLine ∧ Q (.tup (i ++ j))
  | _, _ => False
def rAddA (K : PySem.W.Frag) : R2 := fun x y H Q => rI0 (fun i j => .int (i + j)) x y H Q ∨ (rAddS x y H Q ∨ (rCat x y H Q ∨ rCatA K x y H Q))
theorem rs_add : RSnd K (rAddA K) dAdd := rs_imp (rs_or (rs_J (g := fun i j => .int (i + j))) (rs_or rs_addS (rs_or rs_addL rs_addT))) fun d e Q h => by
  unfold dAdd at h
  split at h
  · exact .inl h
  · exact .inr (.inl h)
  · exact .inr (.inr (.inl h))
  · exact .inr (.inr (.inr h))
  · exact h.elim
theorem op_addA {X : Cx} : OpR X (binaryOp .Add) (rAddA X.K) := op_add.or (OpR.or (r := rAddS) op_add_str (op_cat.or op_catA))
/-! ### * -/
/-- two factors of together less than 2 ^ 26 bits -/
def CMulX (i j : Int) : Prop := i.natAbs.log2 + j.natAbs.log2 < 60000000
theorem CMulX.ok {i j : Int} (h : CMulX i j) : PySem.IntMulOk i j := by
  have b : ∀ x : Int, Builtin.Int.intBits x ≤ x.natAbs.log2 + 1 := fun x => by
    unfold Builtin.Int.intBits
    split <;> omega
  have h1 := b i
  have h2 := b j
  have h3 : i.natAbs.log2 + j.natAbs.log2 < 60000000 := h
  have e : bitsLine = 134217728 := by decide
  unfold PySem.IntMulOk
  intro z
  rw [Bool.and_eq_true] at z
  have z2 := z.2
  unfold Builtin.Int.intTooBig at z2
  have z3 := of_decide_eq_true z2
  rw [e] at z3
  omega
theorem op_mulX {X : Cx} : OpR X (binaryOp .Mult) (rI CMulX fun i j => .int (i * j)) := opI fun _ _ _ _ _ _ _ hc q => PyProof.Rows.mul_int q (CMulX.ok hc)
/-- a text again and again -/
def dMul : D → D → (D → Prop) → Prop := fun d e Q => match d, e with
  | .v (.int i), .v (.int j) => CMulX i j ∧ Q (.int (i * j))
  | .lst i, .v (.int j) => -(2 ^ 63) ≤ j ∧ j < 2 ^ 63 ∧ i.length * j.toNat ≤ sizeLine ∧ Q (.lst (List.replicate j.toNat i).flatten)
  | _, _ => False
def dRepL : D → D → (D → Prop) → Prop := fun d e Q => match d, e with
  | .lst i, .v (.int j) => -(2 ^ 63) ≤ j ∧ j < 2 ^ 63 ∧ i.length * j.toNat ≤ sizeLine ∧ Q (.lst (List.replicate j.toNat i).flatten)
  | _, _ => False
theorem Reps.rep {S : Reg} {H : Hp} {ds : List D} {vs : List V} (h : Reps K S H ds vs) : ∀ n : Nat, Reps K S H (List.replicate n ds).flatten (List.replicate n vs).flatten
  | 0 => Reps.nil
  | n + 1 => by
    rw [List.replicate_succ, List.replicate_succ, List.flatten_cons, List.flatten_cons]
    exact h.append (Reps.rep h n)
theorem rs_repL : RSnd K rRep dRepL := fun F S H W d e x y P R cb rd re hp k => by
  unfold dRepL at hp
  split at hp
  · rename_i i j
    obtain ⟨a, xs, rfl, h1, h2⟩ := Rep.lst_iff.mp rd
    rw [Rep.v_iff] at re
    exact ⟨a, j, xs, rfl, re, h1.1, hp.1, hp.2.1, by rw [h2.length]; exact hp.2.2.1, fun p hn => k _ _ _ (same_new hn) (rep_newL cb hn (h2.rep _)) hp.2.2.2⟩
  · exact hp.elim
theorem rs_mul : RSnd K (fun x y H Q => rI CMulX (fun i j => .int (i * j)) x y H Q ∨ rRep x y H Q) dMul := rs_imp (rs_or rs_I rs_repL) fun d e Q h => by
  unfold dMul at h
  split at h
  · exact .inl h
  · exact .inr h
  · exact h.elim
theorem op_mulA {X : Cx} : OpR X (binaryOp .Mult) (fun x y H Q => rI CMulX (fun i j => .int (i * j)) x y H Q ∨ rRep x y H Q) := op_mulX.or op_rep
/-! ### subscripts -/
def dIx : D → D → (D → Prop) → Prop := fun d e Q => match d, e with
  | .lst ds, .v (.int i) => ∃ z, atI ds i = some z ∧ Q z
  | .tup ds, .v (.int i) => ∃ z, atI ds i = some z ∧ Q z
  | .v (.str s), .v (.int i) => s.length ≤ sizeLine ∧ ∃ c, atI s.cps.toList i = some c ∧ Q (.str ⟨#[c]⟩)
  | .scr ns, .v (.int i) => ∃ z, atI ns i = some z ∧ Q (.int z)
  | _, _ => False
theorem reps_at {S : Reg} {H : Hp} {ds : List D} {vs : List V} {i : Int} {z : D} (r : Reps K S H ds vs) (h : atI ds i = some z) : ∃ v, atI vs i = some v ∧ Rep K S H z v := by
  unfold atI at h ⊢
  rw [r.length]
  cases e : ixN ds.length i with
  | none => rw [e] at h; cases h
  | some j =>
    rw [e] at h
    obtain ⟨v, h1, h2⟩ := r.get (i := j) h
    exact ⟨v, h1, h2⟩
theorem rs_ix : RSnd K (rIx K) dIx := fun F S H W d e x y P R cb rd re hp k => by
  unfold dIx at hp
  split at hp
  · rename_i ds i
    obtain ⟨z, hz, hp⟩ := hp
    obtain ⟨a, xs, rfl, h1, h2⟩ := Rep.lst_iff.mp rd
    rw [Rep.v_iff] at re
    obtain ⟨v, h3, h4⟩ := reps_at h2 hz
    exact .inl ⟨a, xs, i, v, rfl, re, h1.sq, h3, k _ _ H (Same.refl H) h4 hp⟩
  · rename_i ds i
    obtain ⟨z, hz, hp⟩ := hp
    obtain ⟨a, xs, rfl, h1, h2⟩ := Rep.tup_iff.mp rd
    rw [Rep.v_iff] at re
    obtain ⟨v, h3, h4⟩ := reps_at h2 hz
    exact .inr (.inl ⟨a, xs, i, v, rfl, re, h1.sq, h3, k _ _ H (Same.refl H) h4 hp⟩)
  · rename_i s i
    obtain ⟨hl, c, hc, hp⟩ := hp
    rw [Rep.v_iff] at rd re
    exact .inr (.inr ⟨s, i, c, rd, re, hl, hc, k _ _ H (Same.refl H) (Rep.v_iff.mpr rfl) hp⟩)
  · rename_i ns i
    obtain ⟨z, hz, hp⟩ := hp
    obtain ⟨a, rfl, h1⟩ := Rep.scr_iff.mp rd
    rw [Rep.v_iff] at re
    refine .inl ⟨a, _, i, .int z, rfl, re, h1.sq, ?_, k _ _ H (Same.refl H) (Rep.v_iff.mpr rfl) hp⟩
    unfold atI at hz ⊢
    rw [List.length_map]
    cases e : ixN ns.length i with
    | none => rw [e] at hz; cases hz
    | some j =>
      rw [e] at hz
      show (ns.map V.int)[j]? = _
      have hz' : ns[j]? = some z := hz
      rw [List.getElem?_map, hz']; rfl
  · exact hp.elim
/-! ### slices -/
def cutD (ds : List D) (lo hi : Option Int) : List D := (ds.drop (HT.sIx ds.length 0 lo)).take (HT.sIx ds.length ds.length hi - HT.sIx ds.length 0 lo)
def dCut : D → Option Int → Option Int → (D → Prop) → Prop := fun d lo hi Q => match d with
  | .lst ds => Q (.lst (cutD ds lo hi))
  | .tup ds => Q (.tup (cutD ds lo hi))
  | .v (.str s) => s.length ≤ sizeLine ∧ Q (.str (cutS s lo hi))
  | .scr ns => Q (.lst ((ns.drop (HT.sIx ns.length 0 lo)).take (HT.sIx ns.length ns.length hi - HT.sIx ns.length 0 lo) |>.map D.int))
  | _ => False
def rSlAny (K : PySem.W.Frag) : V → Option Int → Option Int → Hp → VK → Prop := fun x lo hi H Q => rSlL K x lo hi H Q ∨ (rSlA K x lo hi H Q ∨ rSlS x lo hi H Q)
theorem sl_any {X : Cx} : SlR X (rSlAny X.K) := sl_list.or (sl_tupA.or sl_str)
theorem reps_cut {S : Reg} {H : Hp} {ds : List D} {vs : List V} (r : Reps K S H ds vs) (lo hi : Option Int) : Reps K S H (cutD ds lo hi) (cutV vs lo hi) := by
  unfold cutD cutV
  rw [r.length]
  exact (r.drop _).take _
theorem ss_cut : SlSnd K (rSlAny K) dCut := fun F S H W d x lo hi P R cb rd hp k => by
  unfold dCut at hp
  split at hp
  · rename_i ds
    obtain ⟨a, xs, rfl, h1, h2⟩ := Rep.lst_iff.mp rd
    exact .inl ⟨a, xs, rfl, h1.sq, fun p hn => k _ _ _ (same_new hn) (rep_newL cb hn (reps_cut h2 lo hi)) hp⟩
  · rename_i ds
    obtain ⟨a, xs, rfl, h1, h2⟩ := Rep.tup_iff.mp rd
    refine .inr (.inl ⟨a, xs, rfl, h1.sq, fun hw => k _ _ H (Same.refl H) ?_ hp, fun _ p hn => k _ _ _ (same_new hn) (rep_newT cb hn (reps_cut h2 lo hi)) hp⟩)
    have : cutD ds lo hi = ds := by
      unfold cutD
      rw [h2.length] at hw
      rw [hw.1, hw.2, List.drop_zero, Nat.sub_zero, List.take_length]
    rw [this]; exact rd
  · rename_i s
    rw [Rep.v_iff] at rd
    exact .inr (.inr ⟨s, rd, hp.1, k _ _ H (Same.refl H) (Rep.v_iff.mpr rfl) hp.2⟩)
  · rename_i ns
    obtain ⟨a, rfl, h1⟩ := Rep.scr_iff.mp rd
    refine .inl ⟨a, _, rfl, h1.sq, fun p hn => k _ _ _ (same_new hn) ?_ hp⟩
    have e : cutV (ns.map V.int) lo hi = ((ns.drop (HT.sIx ns.length 0 lo)).take (HT.sIx ns.length ns.length hi - HT.sIx ns.length 0 lo)).map V.int := by
      unfold cutV
      rw [List.length_map, ← List.map_drop, ← List.map_take]
    rw [e]
    refine rep_newL cb hn ?_
    have := Reps.map_v (K := K) (S := S) (H := H) (((ns.drop (HT.sIx ns.length 0 lo)).take (HT.sIx ns.length ns.length hi - HT.sIx ns.length 0 lo)).map V.int)
    rw [List.map_map] at this
    exact this
  · exact hp.elim
end
end G

namespace G
open PySem PySem.Spec L2
/-! ### a text again and again -/
def repS (s : Str) (n : Int) : Str := ⟨(List.replicate n.toNat s.cps.toList).flatten.toArray⟩
theorem foldl_app (a : Array Nat) : ∀ (k : Nat) (acc : Array Nat), (List.replicate k a).foldl (· ++ ·) acc = acc ++ (List.replicate k a.toList).flatten.toArray
  | 0, acc => by simp
  | k + 1, acc => by
    rw [List.replicate_succ, List.foldl_cons, foldl_app a k, List.replicate_succ, List.flatten_cons]
    apply Array.ext'
    simp
def rRepS : R2 := fun x y H Q => ∃ s n, x = .str s ∧ y = .int n ∧ -(2 ^ 63) ≤ n ∧ n < 2 ^ 63 ∧ s.length * n.toNat ≤ sizeLine ∧ Q (.str (repS s n)) H
theorem op_repS {X : Cx} : OpR X (binaryOp .Mult) rRepS := by
  intro pins s σ H x y v u Q I rx ry h
  obtain ⟨a, n, rfl, rfl, h1, h2, h3, q⟩ := h
  obtain ⟨t, rfl⟩ := rx
  obtain ⟨t', rfl⟩ := ry
  have hr : (decide (n < -(2 ^ 63 : Int)) || decide (n ≥ 2 ^ 63)) = false := by
    rw [decide_eq_false (by omega), decide_eq_false (by omega)]; rfl
  have done : ∀ (z : Str) (tk : Tok) (k : Nat), z = repS a n → EP X pins σ Q (.str z tk) { s with toks := k } := fun z tk k e => by
    subst e
    exact ⟨.str _, H, I.tok _, ⟨_, rfl⟩, q⟩
  have hl : ¬ n < 1 → (n == 1 || a.length == 0) = false → Builtin.Str.tooLong (a.length * n.toNat) = false := fun _ _ => by
    unfold Builtin.Str.tooLong
    exact decide_eq_false (by omega)
  refine PySem.P.mul_str hr (fun h4 h5 => ?_) hl ?_
  · have hs : (sizeLine : Nat) = 16777216 := sizeLine_eq
    have hb : (a.length : Int) * n ≤ 16777216 := by
      have : ((a.length * n.toNat : Nat) : Int) ≤ 16777216 := by omega
      rw [Int.natCast_mul, Int.toNat_of_nonneg (by omega)] at this
      exact this
    intro h6
    have h7 : (2 ^ 63 - 1) / n < (a.length : Int) := h6
    have h8 : (2 ^ 63 - 1 : Int) < a.length * n := (Int.ediv_lt_iff_lt_mul (by omega)).mp h7
    omega
  · split
    · rename_i h4
      refine ⟨by decide, done _ _ _ ?_⟩
      unfold repS
      have : n.toNat = 0 := by omega
      rw [this]; rfl
    · rename_i h4
      split
      · rename_i h5
        show EP X pins σ Q (.str a t) s
        refine ⟨.str a, H, I, ⟨t, rfl⟩, ?_⟩
        have : repS a n = a := by
          unfold repS
          rw [Bool.or_eq_true] at h5
          rcases h5 with h5 | h5
          · have e : n = 1 := by simpa using h5
            subst e
            simp
          · have e : a.cps.toList = [] := by
              have : a.length = 0 := by simpa using h5
              unfold Str.length at this
              exact List.eq_nil_of_length_eq_zero (by simpa using this)
            rw [e]
            have : (List.replicate n.toNat ([] : List Nat)).flatten = [] := by simp
            rw [this]
            cases a with
            | mk c => simp at e; simp [e]
        rw [this] at q
        exact q
      · refine ⟨?_, done _ _ _ ?_⟩
        · show (List.foldl (· ++ ·) #[] (List.replicate n.toNat a.cps)).size ≤ sizeLine
          rw [foldl_app]
          have e : (#[] ++ (List.replicate n.toNat a.cps.toList).flatten.toArray).size = n.toNat * a.length := by
            simp [List.length_flatten, Str.length]
          rw [e, Nat.mul_comm]
          exact h3
        · unfold repS
          rw [foldl_app]; simp
section
variable {K : PySem.W.Frag}
def dRepS : D → D → (D → Prop) → Prop := fun d e Q => match d, e with
  | .v (.str s), .v (.int n) => -(2 ^ 63) ≤ n ∧ n < 2 ^ 63 ∧ s.length * n.toNat ≤ sizeLine ∧ Q (.str (repS s n))
  | _, _ => False
theorem rs_repS : RSnd K rRepS dRepS := fun F S H W d e x y P R cb rd re hp k => by
  unfold dRepS at hp
  split at hp
  · rename_i i j
    rw [Rep.v_iff] at rd re
    exact ⟨i, j, rd, re, hp.1, hp.2.1, hp.2.2.1, k _ _ H (Same.refl H) (Rep.v_iff.mpr rfl) hp.2.2.2⟩
  · exact hp.elim
/-! ### calls -/
theorem cs_imp {r : List V → Hp → VK → Prop} {g g' : List D → (D → Prop) → Prop} (h : CSnd K r g) (hg : ∀ ds Q, g' ds Q → g ds Q) : CSnd K r g' := fun F S H W ds xs P R cb rd hp k => h F S H W ds xs P R cb rd (hg ds P hp) k
/-- one value in -/
theorem reps1 {S : Reg} {H : Hp} {d : D} {xs : List V} (r : Reps K S H [d] xs) : ∃ x, xs = [x] ∧ Rep K S H d x := by
  obtain ⟨x, r', rfl, h1, h2⟩ := Reps.cons_iff.mp r
  rw [Reps.nil_iff.mp h2]
  exact ⟨x, rfl, h1⟩
theorem reps2 {S : Reg} {H : Hp} {d e : D} {xs : List V} (r : Reps K S H [d, e] xs) : ∃ x y, xs = [x, y] ∧ Rep K S H d x ∧ Rep K S H e y := by
  obtain ⟨x, r', rfl, h1, h2⟩ := Reps.cons_iff.mp r
  obtain ⟨y, rfl, h3⟩ := reps1 h2
  exact ⟨x, y, rfl, h1, h3⟩
def dLen : List D → (D → Prop) → Prop := fun ds Q => match ds with
  | [.v (.str s)] => s.length ≤ sizeLine ∧ Q (.int s.length)
  | [.lst xs] => Q (.int xs.length)
  | [.tup xs] => Q (.int xs.length)
  | [.scr xs] => Q (.int xs.length)
  | _ => False
theorem cs_len : CSnd K (fun xs H Q => ∃ x n, xs = [x] ∧ LenV K x H n ∧ Q (.int (n : Nat)) H) dLen := fun F S H W ds xs P R cb rd hp k => by
  unfold dLen at hp
  split at hp
  · obtain ⟨x, rfl, h⟩ := reps1 rd
    cases Rep.v_iff.mp h
    exact ⟨_, _, rfl, ⟨hp.1, rfl⟩, k _ _ H (Same.refl H) (Rep.v_iff.mpr rfl) hp.2⟩
  · obtain ⟨x, rfl, h⟩ := reps1 rd
    obtain ⟨a, ys, rfl, h1, h2⟩ := Rep.lst_iff.mp h
    exact ⟨_, _, rfl, .inl ⟨ys, h1.sq, rfl⟩, k _ _ H (Same.refl H) (Rep.v_iff.mpr (by rw [h2.length])) hp⟩
  · obtain ⟨x, rfl, h⟩ := reps1 rd
    obtain ⟨a, ys, rfl, h1, h2⟩ := Rep.tup_iff.mp h
    exact ⟨_, _, rfl, .inr ⟨ys, h1.sq, rfl⟩, k _ _ H (Same.refl H) (Rep.v_iff.mpr (by rw [h2.length])) hp⟩
  · obtain ⟨x, rfl, h⟩ := reps1 rd
    obtain ⟨a, rfl, h1⟩ := Rep.scr_iff.mp h
    exact ⟨_, _, rfl, .inl ⟨_, h1.sq, rfl⟩, k _ _ H (Same.refl H) (Rep.v_iff.mpr (by simp)) hp⟩
  · exact hp.elim
/-- two ints in -/
def dC2 (g : Int → Int → Int) : List D → (D → Prop) → Prop := fun ds Q => match ds with
  | [.v (.int i), .v (.int j)] => Q (.int (g i j))
  | _ => False
theorem cs_2 {g : Int → Int → Int} : CSnd K (fun xs H Q => ∃ i j, xs = [.int i, .int j] ∧ Q (.int (g i j)) H) (dC2 g) := fun F S H W ds xs P R cb rd hp k => by
  unfold dC2 at hp
  split at hp
  · obtain ⟨x, y, rfl, h1, h2⟩ := reps2 rd
    cases Rep.v_iff.mp h1
    cases Rep.v_iff.mp h2
    exact ⟨_, _, rfl, k _ _ H (Same.refl H) (Rep.v_iff.mpr rfl) hp⟩
  · exact hp.elim
def dAbs : List D → (D → Prop) → Prop := fun ds Q => match ds with
  | [.v (.int i)] => Q (.int (if i < 0 then -i else i))
  | _ => False
theorem cs_abs : CSnd K (fun xs H Q => ∃ i, xs = [.int i] ∧ Q (.int (if i < 0 then -i else i)) H) dAbs := fun F S H W ds xs P R cb rd hp k => by
  unfold dAbs at hp
  split at hp
  · obtain ⟨x, rfl, h⟩ := reps1 rd
    cases Rep.v_iff.mp h
    exact ⟨_, rfl, k _ _ H (Same.refl H) (Rep.v_iff.mpr rfl) hp⟩
  · exact hp.elim
def dIntC : List D → (D → Prop) → Prop := fun ds Q => match ds with
  | [.v (.int i)] => Q (.int i)
  | [.v (.bl b)] => Q (.int (if b then 1 else 0))
  | [.v (.str s)] => s.length ≤ 640 ∧ ∃ n, PySem.intText? s = some n ∧ Q (.int n)
  | _ => False
theorem cs_int : CSnd K (fun xs H Q => ((∃ i, xs = [.int i] ∧ Q (.int i) H) ∨ ∃ k, xs = [.bl k] ∧ Q (.int (if k then 1 else 0)) H) ∨ ∃ a n, xs = [.str a] ∧ PySem.intText? a = some n ∧ a.length ≤ 640 ∧ Q (.int n) H) dIntC := fun F S H W ds xs P R cb rd hp k => by
  unfold dIntC at hp
  split at hp
  · obtain ⟨x, rfl, h⟩ := reps1 rd
    cases Rep.v_iff.mp h
    exact .inl (.inl ⟨_, rfl, k _ _ H (Same.refl H) (Rep.v_iff.mpr rfl) hp⟩)
  · obtain ⟨x, rfl, h⟩ := reps1 rd
    cases Rep.v_iff.mp h
    exact .inl (.inr ⟨_, rfl, k _ _ H (Same.refl H) (Rep.v_iff.mpr rfl) hp⟩)
  · obtain ⟨x, rfl, h⟩ := reps1 rd
    cases Rep.v_iff.mp h
    obtain ⟨hl, n, hn, hp⟩ := hp
    exact .inr ⟨_, n, rfl, hn, hl, k _ _ H (Same.refl H) (Rep.v_iff.mpr rfl) hp⟩
  · exact hp.elim
theorem call_intA {X : Cx} : CallR X (.type "int") (fun xs H Q => ((∃ i, xs = [.int i] ∧ Q (.int i) H) ∨ ∃ k, xs = [.bl k] ∧ Q (.int (if k then 1 else 0)) H) ∨ ∃ a n, xs = [.str a] ∧ PySem.intText? a = some n ∧ a.length ≤ 640 ∧ Q (.int n) H) := CallR.or call_int1 call_int_str
def dStrC : List D → (D → Prop) → Prop := fun ds Q => match ds with
  | [.v (.int i)] => i.natAbs.log2 < 1920 ∧ Q (.str (toString i))
  | _ => False
theorem cs_str : CSnd K (fun xs H Q => ∃ i, xs = [.int i] ∧ i.natAbs.log2 < 1920 ∧ Q (.str (toString i)) H) dStrC := fun F S H W ds xs P R cb rd hp k => by
  unfold dStrC at hp
  split at hp
  · obtain ⟨x, rfl, h⟩ := reps1 rd
    cases Rep.v_iff.mp h
    exact ⟨_, rfl, hp.1, k _ _ H (Same.refl H) (Rep.v_iff.mpr rfl) hp.2⟩
  · exact hp.elim
/-- all, any of a list of truths -/
def blsOf : List D → Option (List Bool)
  | [] => some []
  | .v (.bl b) :: r => (blsOf r).map (b :: ·)
  | _ => none
theorem reps_bls {S : Reg} {H : Hp} : ∀ {ds : List D} {bs : List Bool} {vs : List V}, blsOf ds = some bs → Reps K S H ds vs → vs = bs.map V.bl
  | [], bs, vs, h, r => by
    cases h
    exact Reps.nil_iff.mp r
  | .v (.bl b) :: ds, bs, vs, h, r => by
    unfold blsOf at h
    obtain ⟨x, r', rfl, h1, h2⟩ := Reps.cons_iff.mp r
    cases hb : blsOf ds with
    | none => rw [hb] at h; cases h
    | some bs' =>
      rw [hb] at h; cases h
      cases Rep.v_iff.mp h1
      rw [reps_bls hb h2]; rfl
  | .v .non :: _, _, _, h, _ => by simp [blsOf] at h
  | .v (.int _) :: _, _, _, h, _ => by simp [blsOf] at h
  | .v (.str _) :: _, _, _, h, _ => by simp [blsOf] at h
  | .v (.byt _) :: _, _, _, h, _ => by simp [blsOf] at h
  | .v (.flt _) :: _, _, _, h, _ => by simp [blsOf] at h
  | .v (.ref _) :: _, _, _, h, _ => by simp [blsOf] at h
  | .v (.ty _) :: _, _, _, h, _ => by simp [blsOf] at h
  | .tup _ :: _, _, _, h, _ => by simp [blsOf] at h
  | .lst _ :: _, _, _, h, _ => by simp [blsOf] at h
  | .scr _ :: _, _, _, h, _ => by simp [blsOf] at h
theorem blsOf_map (bs : List Bool) : blsOf (bs.map D.bl) = some bs := by
  induction bs with
  | nil => rfl
  | cons b r ih => simp [blsOf, ih]
def dAll : List D → (D → Prop) → Prop := fun ds Q => match ds with
  | [.lst xs] => ∃ bs, blsOf xs = some bs ∧ Q (.bl (bs.all id))
  | _ => False
def dAny : List D → (D → Prop) → Prop := fun ds Q => match ds with
  | [.lst xs] => ∃ bs, blsOf xs = some bs ∧ Q (.bl (bs.any id))
  | _ => False
theorem cs_all : CSnd K (rAll K) dAll := fun F S H W ds xs P R cb rd hp k => by
  unfold dAll at hp
  split at hp
  · obtain ⟨x, rfl, h⟩ := reps1 rd
    obtain ⟨a, ys, rfl, h1, h2⟩ := Rep.lst_iff.mp h
    obtain ⟨bs, hb, hp⟩ := hp
    rw [reps_bls hb h2] at h1
    exact ⟨a, bs, rfl, h1.sq, k _ _ H (Same.refl H) (Rep.v_iff.mpr rfl) hp⟩
  · exact hp.elim
theorem cs_any : CSnd K (rAny K) dAny := fun F S H W ds xs P R cb rd hp k => by
  unfold dAny at hp
  split at hp
  · obtain ⟨x, rfl, h⟩ := reps1 rd
    obtain ⟨a, ys, rfl, h1, h2⟩ := Rep.lst_iff.mp h
    obtain ⟨bs, hb, hp⟩ := hp
    rw [reps_bls hb h2] at h1
    exact ⟨a, bs, rfl, h1.sq, k _ _ H (Same.refl H) (Rep.v_iff.mpr rfl) hp⟩
  · exact hp.elim
/-- ints of a list -/
def intsOf : List D → Option (List Int)
  | [] => some []
  | .v (.int b) :: r => (intsOf r).map (b :: ·)
  | _ => none
theorem reps_ints {S : Reg} {H : Hp} : ∀ {ds : List D} {bs : List Int} {vs : List V}, intsOf ds = some bs → Reps K S H ds vs → vs = bs.map V.int
  | [], bs, vs, h, r => by
    cases h
    exact Reps.nil_iff.mp r
  | .v (.int b) :: ds, bs, vs, h, r => by
    unfold intsOf at h
    obtain ⟨x, r', rfl, h1, h2⟩ := Reps.cons_iff.mp r
    cases hb : intsOf ds with
    | none => rw [hb] at h; cases h
    | some bs' =>
      rw [hb] at h; cases h
      cases Rep.v_iff.mp h1
      rw [reps_ints hb h2]; rfl
  | .v .non :: _, _, _, h, _ => by simp [intsOf] at h
  | .v (.bl _) :: _, _, _, h, _ => by simp [intsOf] at h
  | .v (.str _) :: _, _, _, h, _ => by simp [intsOf] at h
  | .v (.byt _) :: _, _, _, h, _ => by simp [intsOf] at h
  | .v (.flt _) :: _, _, _, h, _ => by simp [intsOf] at h
  | .v (.ref _) :: _, _, _, h, _ => by simp [intsOf] at h
  | .v (.ty _) :: _, _, _, h, _ => by simp [intsOf] at h
  | .tup _ :: _, _, _, h, _ => by simp [intsOf] at h
  | .lst _ :: _, _, _, h, _ => by simp [intsOf] at h
  | .scr _ :: _, _, _, h, _ => by simp [intsOf] at h
theorem intsOf_map (bs : List Int) : intsOf (bs.map D.int) = some bs := by
  induction bs with
  | nil => rfl
  | cons b r ih => simp [intsOf, ih]
def dMin1 : List D → (D → Prop) → Prop := fun ds Q => match ds with
  | [.lst xs] => ∃ ns, intsOf xs = some ns ∧ 0 < ns.length ∧ ∀ m, m ∈ ns → (∀ y, y ∈ ns → m ≤ y) → Q (.int m)
  | _ => False
def dMax1 : List D → (D → Prop) → Prop := fun ds Q => match ds with
  | [.lst xs] => ∃ ns, intsOf xs = some ns ∧ 0 < ns.length ∧ ∀ m, m ∈ ns → (∀ y, y ∈ ns → y ≤ m) → Q (.int m)
  | _ => False
theorem cs_min1 : CSnd K (rMin K) dMin1 := fun F S H W ds xs P R cb rd hp k => by
  unfold dMin1 at hp
  split at hp
  · obtain ⟨x, rfl, h⟩ := reps1 rd
    obtain ⟨a, ys, rfl, h1, h2⟩ := Rep.lst_iff.mp h
    obtain ⟨bs, hb, hl, hp⟩ := hp
    rw [reps_ints hb h2] at h1
    exact ⟨a, bs, rfl, h1.sq, hl, fun m m1 m2 => k _ _ H (Same.refl H) (Rep.v_iff.mpr rfl) (hp m m1 m2)⟩
  · exact hp.elim
theorem cs_max1 : CSnd K (rMax K) dMax1 := fun F S H W ds xs P R cb rd hp k => by
  unfold dMax1 at hp
  split at hp
  · obtain ⟨x, rfl, h⟩ := reps1 rd
    obtain ⟨a, ys, rfl, h1, h2⟩ := Rep.lst_iff.mp h
    obtain ⟨bs, hb, hl, hp⟩ := hp
    rw [reps_ints hb h2] at h1
    exact ⟨a, bs, rfl, h1.sq, hl, fun m m1 m2 => k _ _ H (Same.refl H) (Rep.v_iff.mpr rfl) (hp m m1 m2)⟩
  · exact hp.elim
/-- tuple(xs), list(xs) -/
def dTupC : List D → (D → Prop) → Prop := fun ds Q => match ds with
  | [.lst xs] => Q (.tup xs)
  | [.tup xs] => Q (.tup xs)
  | _ => False
theorem cs_tup : CSnd K (fun xs H Q => ∃ p ys, xs = [.ref p] ∧ ((SqL K H p ys ∧ ∀ l, H l = none → Q (.ref l) (upd H l (.tup ys))) ∨ (SqT K H p ys ∧ Q (.ref p) H))) dTupC := fun F S H W ds xs P R cb rd hp k => by
  unfold dTupC at hp
  split at hp
  · obtain ⟨x, rfl, h⟩ := reps1 rd
    obtain ⟨a, ys, rfl, h1, h2⟩ := Rep.lst_iff.mp h
    exact ⟨a, ys, rfl, .inl ⟨h1.sq, fun p hn => k _ _ _ (same_new hn) (rep_newT cb hn h2) hp⟩⟩
  · obtain ⟨x, rfl, h⟩ := reps1 rd
    obtain ⟨a, ys, rfl, h1, h2⟩ := Rep.tup_iff.mp h
    exact ⟨a, ys, rfl, .inr ⟨h1.sq, k _ _ H (Same.refl H) h hp⟩⟩
  · exact hp.elim
def dListC : List D → (D → Prop) → Prop := fun ds Q => match ds with
  | [.lst xs] => Q (.lst xs)
  | [.tup xs] => Q (.lst xs)
  | [.scr ns] => Q (.lst (ns.map D.int))
  | _ => False
theorem cs_list : CSnd K (fun xs H Q => ∃ p ys, xs = [.ref p] ∧ (SqL K H p ys ∨ SqT K H p ys) ∧ ∀ l, H l = none → Q (.ref l) (upd H l (.lst ys))) dListC := fun F S H W ds xs P R cb rd hp k => by
  unfold dListC at hp
  split at hp
  · obtain ⟨x, rfl, h⟩ := reps1 rd
    obtain ⟨a, ys, rfl, h1, h2⟩ := Rep.lst_iff.mp h
    exact ⟨a, ys, rfl, .inl h1.sq, fun p hn => k _ _ _ (same_new hn) (rep_newL cb hn h2) hp⟩
  · obtain ⟨x, rfl, h⟩ := reps1 rd
    obtain ⟨a, ys, rfl, h1, h2⟩ := Rep.tup_iff.mp h
    exact ⟨a, ys, rfl, .inr h1.sq, fun p hn => k _ _ _ (same_new hn) (rep_newL cb hn h2) hp⟩
  · rename_i ns
    obtain ⟨x, rfl, h⟩ := reps1 rd
    obtain ⟨a, rfl, h1⟩ := Rep.scr_iff.mp h
    refine ⟨a, _, rfl, .inl h1.sq, fun p hn => k _ _ _ (same_new hn) (rep_newL cb hn ?_) hp⟩
    have := Reps.map_v (K := K) (S := S) (H := H) (ns.map V.int)
    rw [List.map_map] at this
    exact this
  · exact hp.elim
/-! ### isinstance -/
def tyD : D → Option String
  | .v .non => some "NoneType"
  | .v (.bl _) => some "bool"
  | .v (.int _) => some "int"
  | .v (.str _) => some "str"
  | .v _ => none
  | .tup _ => some "tuple"
  | .lst _ => some "list"
  | .scr _ => none
  | .dct _ _ => some "dict"
  | .exc _ _ _ => none
  | .tpf _ => none
theorem tyx_of {S : Reg} {H : Hp} {d : D} {x : V} {t : String} (h : Rep K S H d x) (e : tyD d = some t) : TyX K H x (.type t) := by
  cases d with
  | v y =>
    have hx := Rep.v_iff.mp h
    subst hx
    cases x <;> simp only [tyD, Option.some.injEq] at e <;> first | (subst e; exact .base (by constructor)) | cases e
  | tup ds =>
    obtain ⟨a, xs, rfl, h1, _⟩ := Rep.tup_iff.mp h
    simp only [tyD, Option.some.injEq] at e
    subst e
    rcases h1 with ⟨h1, _⟩ | h1 | ⟨o, h1, _⟩
    · exact .base (.tup h1)
    · rcases h1 with (h1 | ⟨_, h1⟩) | ⟨o, its, n, h1, h2, _⟩
      · cases h1
      · cases h1
      · exact .kTuple h1 h2
    · exact .fTuple h1
  | lst ds =>
    obtain ⟨a, xs, rfl, h1, _⟩ := Rep.lst_iff.mp h
    simp only [tyD, Option.some.injEq] at e
    subst e
    exact .base (.lst h1.1)
  | scr ns => simp [tyD] at e
  | dct ks ds =>
    obtain ⟨a, xs, rfl, ⟨h1, _⟩, _⟩ := Rep.dct_iff.mp h
    simp only [tyD, Option.some.injEq] at e
    subst e
    exact .base (.dK h1)
  | exc c ks ds => simp [tyD] at e
  | tpf ds => simp [tyD] at e
def dIsi : List D → (D → Prop) → Prop := fun ds Q => match ds with
  | [d, .v (.ty c)] => ∃ t b, tyD d = some t ∧ kitB t c = some b ∧ Q (.bl b)
  | _ => False
theorem cs_isi : CSnd K (rIsi K) dIsi := fun F S H W ds xs P R cb rd hp k => by
  unfold dIsi at hp
  split at hp
  · rename_i d c
    obtain ⟨x, y, rfl, h1, h2⟩ := reps2 rd
    cases Rep.v_iff.mp h2
    obtain ⟨t, b, e1, e2, hp⟩ := hp
    exact ⟨x, _, _, _, b, rfl, .ty c, tyx_of h1 e1, kit_ty e2, k _ _ H (Same.refl H) (Rep.v_iff.mpr rfl) hp⟩
  · exact hp.elim
theorem kitAny_tys (t : String) : ∀ (cs : List String) (bs : List Bool), cs.map (kitB t) = bs.map some → PySem.W.kitAny K (.type t) (cs.map Value.type) = some (bs.any id)
  | [], [], _ => kitAny_nil
  | c :: cs, b :: bs, h => by
    rw [List.map_cons, List.map_cons, List.cons.injEq] at h
    have ih := kitAny_tys t cs bs h.2
    rw [List.map_cons]
    refine kitAny_cons (b := b) (kit_ty h.1) (fun e => ?_) (fun e => ?_)
    · rw [ih, e]; simp
    · rw [e]; simp
/-- isinstance(x, (T1, T2)) -/
def tysOf : List D → Option (List String)
  | [] => some []
  | .v (.ty b) :: r => (tysOf r).map (b :: ·)
  | _ => none
def dIsiT : List D → (D → Prop) → Prop := fun ds Q => match ds with
  | [d, .tup cs] => ∃ (t : String) (ts : List String) (bs : List Bool), tyD d = some t ∧ tysOf cs = some ts ∧ ts.map (kitB t) = bs.map some ∧ Q (.bl (bs.any id))
  | _ => False
theorem reps_tys {S : Reg} {H : Hp} : ∀ {ds : List D} {bs : List String} {vs : List V}, tysOf ds = some bs → Reps K S H ds vs → vs = bs.map V.ty
  | [], bs, vs, h, r => by
    cases h
    exact Reps.nil_iff.mp r
  | .v (.ty b) :: ds, bs, vs, h, r => by
    unfold tysOf at h
    obtain ⟨x, r', rfl, h1, h2⟩ := Reps.cons_iff.mp r
    cases hb : tysOf ds with
    | none => rw [hb] at h; cases h
    | some bs' =>
      rw [hb] at h; cases h
      cases Rep.v_iff.mp h1
      rw [reps_tys hb h2]; rfl
  | .v .non :: _, _, _, h, _ => by simp [tysOf] at h
  | .v (.bl _) :: _, _, _, h, _ => by simp [tysOf] at h
  | .v (.str _) :: _, _, _, h, _ => by simp [tysOf] at h
  | .v (.byt _) :: _, _, _, h, _ => by simp [tysOf] at h
  | .v (.flt _) :: _, _, _, h, _ => by simp [tysOf] at h
  | .v (.ref _) :: _, _, _, h, _ => by simp [tysOf] at h
  | .v (.int _) :: _, _, _, h, _ => by simp [tysOf] at h
  | .tup _ :: _, _, _, h, _ => by simp [tysOf] at h
  | .lst _ :: _, _, _, h, _ => by simp [tysOf] at h
  | .scr _ :: _, _, _, h, _ => by simp [tysOf] at h
theorem clsv_map : ∀ ts : List String, Paired ClsV (ts.map V.ty) (ts.map Value.type)
  | [] => .nil
  | t :: ts => .cons (.ty t) (clsv_map ts)
/-- the classes in a tuple known by its object -/
def rIsiF (K : PySem.W.Frag) : List V → Hp → VK → Prop := fun xs H Q => ∃ (x : V) (tp : Addr) (o : Obj) (cs : List V) (t : Value) (ws : List Value) (b : Bool), xs = [x, .ref tp] ∧ H tp = some (.frz o (.tup cs)) ∧ Paired ClsV cs ws ∧ TyX K H x t ∧ PySem.W.kitAny K t ws = some b ∧ Q (.bl b) H
theorem call_isiF {X : Cx} : CallR X (.builtin "isinstance") (rIsiF X.K) := by
  intro pins s σ H xs us Q I r h
  obtain ⟨x, tp, ob, cs, t, ws, b, rfl, hT, k, ty, e, q⟩ := h
  obtain ⟨u1, u2, rfl, r1, r2⟩ := vals2 r
  cases (show u2 = Value.ref tp from r2)
  obtain ⟨P, Z, p, hx⟩ := kit_of I r1 ty
  obtain ⟨_, _, its, rv, ⟨oc, od, dt, sl⟩, h1, h2, n, h3⟩ : ObjOk X.prog X.w H s.heap tp (.frz ob (.tup cs)) := I.hok tp _ hT
  have e3 := ClsV.all k rv
  subst e3
  simp only at h2 h3
  subst h2 h3
  exact PySem.W.kia_tup Z I.kIn p h1 e hx fun tk => ⟨.bl b, H, I.tok tk, rfl, q⟩
theorem cs_isiT : CSnd K (fun xs H Q => (rIsiT K xs H Q ∨ rIsiK K xs H Q) ∨ rIsiF K xs H Q) dIsiT := fun F S H W ds xs P R cb rd hp k => by
  unfold dIsiT at hp
  split at hp
  · rename_i d cs
    obtain ⟨x, y, rfl, h1, h2⟩ := reps2 rd
    obtain ⟨t, ts, bs, e1, e2, e3, hp⟩ := hp
    obtain ⟨a, ys, rfl, h3, h4⟩ := Rep.tup_iff.mp h2
    rw [reps_tys e2 h4] at h3
    have fin := k _ _ H (Same.refl H) (Rep.v_iff.mpr rfl) hp
    rcases h3 with ⟨h3, _⟩ | h3 | ⟨ob, h3, _⟩
    · exact .inl (.inl ⟨x, a, _, _, ts.map Value.type, _, rfl, h3, clsv_map ts, tyx_of h1 e1, kitAny_tys t ts bs e3, fin⟩)
    · rcases h3 with (h3 | ⟨_, h3⟩) | ⟨o, its, n, q1, q2, q3, q4, q5⟩
      · cases h3
      · cases h3
      · obtain ⟨oc, od, odt, osl⟩ := o
        cases q2
        cases q3
        have e : its.toList = ts.map Value.type := ClsV.all (clsv_map ts) q5
        have e' : its = (ts.map Value.type).toArray := by rw [← e]
        subst e'
        exact .inl (.inr ⟨x, a, _, ts.map Value.type, n, _, _, _, rfl, q1, tyx_of h1 e1, kitAny_tys t ts bs e3, fin⟩)
    · exact .inr ⟨x, a, ob, _, _, ts.map Value.type, _, rfl, h3, clsv_map ts, tyx_of h1 e1, kitAny_tys t ts bs e3, fin⟩
  · exact hp.elim
theorem call_isiA {X : Cx} : CallR X (.builtin "isinstance") (fun xs H Q => (rIsiT X.K xs H Q ∨ rIsiK X.K xs H Q) ∨ rIsiF X.K xs H Q) := CallR.or (CallR.or call_isiT call_isiK) call_isiF
/-! ### methods of texts -/
/-- one text in -/
def dM1 (g : Str → Str → V) : D → List D → (D → Prop) → Prop := fun d ds Q => match d, ds with
  | .v (.str a), [.v (.str b)] => Q (.v (g a b))
  | _, _ => False
theorem ms_1 {g : Str → Str → V} : MSnd K (fun x xs H Q => ∃ a b, x = .str a ∧ xs = [.str b] ∧ Q (g a b) H) (dM1 g) := fun F S H W d ds x xs P R cb rd re hp k => by
  unfold dM1 at hp
  split at hp
  · obtain ⟨y, rfl, h⟩ := reps1 re
    cases Rep.v_iff.mp h
    cases Rep.v_iff.mp rd
    exact ⟨_, _, rfl, rfl, k _ _ H (Same.refl H) (Rep.v_iff.mpr rfl) hp⟩
  · exact hp.elim
/-- an int in -/
def dMI (C : Str → Int → Prop) (g : Str → Int → V) : D → List D → (D → Prop) → Prop := fun d ds Q => match d, ds with
  | .v (.str a), [.v (.int b)] => C a b ∧ Q (.v (g a b))
  | _, _ => False
theorem ms_I {C : Str → Int → Prop} {g : Str → Int → V} : MSnd K (fun x xs H Q => ∃ (a : Str) (i : Int), x = .str a ∧ xs = [.int i] ∧ C a i ∧ Q (g a i) H) (dMI C g) := fun F S H W d ds x xs P R cb rd re hp k => by
  unfold dMI at hp
  split at hp
  · obtain ⟨y, rfl, h⟩ := reps1 re
    cases Rep.v_iff.mp h
    cases Rep.v_iff.mp rd
    exact ⟨_, _, rfl, rfl, hp.1, k _ _ H (Same.refl H) (Rep.v_iff.mpr rfl) hp.2⟩
  · exact hp.elim
/-- nothing in -/
def dM0 (C : Str → Prop) (g : Str → V) : D → List D → (D → Prop) → Prop := fun d ds Q => match d, ds with
  | .v (.str a), [] => C a ∧ Q (.v (g a))
  | _, _ => False
theorem ms_0 {C : Str → Prop} {g : Str → V} : MSnd K (fun x xs H Q => ∃ (a : Str), x = .str a ∧ xs = [] ∧ C a ∧ Q (g a) H) (dM0 C g) := fun F S H W d ds x xs P R cb rd re hp k => by
  unfold dM0 at hp
  split at hp
  · cases Rep.v_iff.mp rd
    exact ⟨_, rfl, Reps.nil_iff.mp re, hp.1, k _ _ H (Same.refl H) (Rep.v_iff.mpr rfl) hp.2⟩
  · exact hp.elim
/-- s.rjust(n, c) -/
def rRjust : V → List V → Hp → VK → Prop := fun x xs H Q => ∃ (a f : Str) (i : Int), x = .str a ∧ xs = [.int i, .str f] ∧ PySem.PadOk i = true ∧ f.length = 1 ∧ Q (.str (Txt.rjustF a i (f.cps.getD 0 0))) H
theorem mt_rjust2 {X : Cx} : MtR X "str.rjust" rRjust := by
  intro pins s σ H x xs v us Q I rx rs h
  obtain ⟨a, f, i, rfl, rfl, h1, h2, q⟩ := h
  obtain ⟨t, rfl⟩ := rx
  obtain ⟨u1, u2, rfl, r1, r2⟩ := vals2 rs
  obtain ⟨t1, rfl⟩ := r1
  obtain ⟨t2, rfl⟩ := r2
  exact PyProof.Rows.rjust_fill h1 h2 fun t' k => ⟨.str _, H, I.tok _, ⟨_, rfl⟩, q⟩
def dRjust : D → List D → (D → Prop) → Prop := fun d ds Q => match d, ds with
  | .v (.str a), [.v (.int i), .v (.str f)] => PySem.PadOk i = true ∧ f.length = 1 ∧ Q (.str (Txt.rjustF a i (f.cps.getD 0 0)))
  | _, _ => False
theorem ms_rjust : MSnd K rRjust dRjust := fun F S H W d ds x xs P R cb rd re hp k => by
  unfold dRjust at hp
  split at hp
  · obtain ⟨y, z, rfl, h, h'⟩ := reps2 re
    cases Rep.v_iff.mp h
    cases Rep.v_iff.mp h'
    cases Rep.v_iff.mp rd
    exact ⟨_, _, _, rfl, rfl, hp.1, hp.2.1, k _ _ H (Same.refl H) (Rep.v_iff.mpr rfl) hp.2.2⟩
  · exact hp.elim
/-- texts of a list -/
def strsOf : List D → Option (List Str)
  | [] => some []
  | .v (.str b) :: r => (strsOf r).map (b :: ·)
  | _ => none
theorem reps_strs {S : Reg} {H : Hp} : ∀ {ds : List D} {bs : List Str} {vs : List V}, strsOf ds = some bs → Reps K S H ds vs → vs = bs.map V.str
  | [], bs, vs, h, r => by
    cases h
    exact Reps.nil_iff.mp r
  | .v (.str b) :: ds, bs, vs, h, r => by
    unfold strsOf at h
    obtain ⟨x, r', rfl, h1, h2⟩ := Reps.cons_iff.mp r
    cases hb : strsOf ds with
    | none => rw [hb] at h; cases h
    | some bs' =>
      rw [hb] at h; cases h
      cases Rep.v_iff.mp h1
      rw [reps_strs hb h2]; rfl
  | .v .non :: _, _, _, h, _ => by simp [strsOf] at h
  | .v (.bl _) :: _, _, _, h, _ => by simp [strsOf] at h
  | .v (.int _) :: _, _, _, h, _ => by simp [strsOf] at h
  | .v (.byt _) :: _, _, _, h, _ => by simp [strsOf] at h
  | .v (.flt _) :: _, _, _, h, _ => by simp [strsOf] at h
  | .v (.ref _) :: _, _, _, h, _ => by simp [strsOf] at h
  | .v (.ty _) :: _, _, _, h, _ => by simp [strsOf] at h
  | .tup _ :: _, _, _, h, _ => by simp [strsOf] at h
  | .lst _ :: _, _, _, h, _ => by simp [strsOf] at h
  | .scr _ :: _, _, _, h, _ => by simp [strsOf] at h
theorem strsOf_map (bs : List Str) : strsOf (bs.map D.str) = some bs := by
  induction bs with
  | nil => rfl
  | cons b r ih => simp [strsOf, ih]
def rJoin (K : PySem.W.Frag) : V → List V → Hp → VK → Prop := fun x xs H Q => ∃ a p, ∃ ys : List Str, x = .str a ∧ xs = [.ref p] ∧ (SqL K H p (ys.map V.str) ∨ SqT K H p (ys.map V.str)) ∧
  (ys.map (·.length)).sum + ys.length * a.length ≤ 16777216 ∧ Q (.str (Txt.join a ys)) H
theorem mt_joinA {X : Cx} : MtR X "str.join" (rJoin X.K) := mt_join
def dJoin : D → List D → (D → Prop) → Prop := fun d ds Q => match d, ds with
  | .v (.str a), [.lst xs] => ∃ ys, strsOf xs = some ys ∧ (ys.map (·.length)).sum + ys.length * a.length ≤ 16777216 ∧ Q (.str (Txt.join a ys))
  | .v (.str a), [.tup xs] => ∃ ys, strsOf xs = some ys ∧ (ys.map (·.length)).sum + ys.length * a.length ≤ 16777216 ∧ Q (.str (Txt.join a ys))
  | _, _ => False
theorem ms_join : MSnd K (rJoin K) dJoin := fun F S H W d ds x xs P R cb rd re hp k => by
  unfold dJoin at hp
  split at hp
  · obtain ⟨y, rfl, h⟩ := reps1 re
    cases Rep.v_iff.mp rd
    obtain ⟨ys, h1, h2, hp⟩ := hp
    obtain ⟨p, zs, rfl, h3, h4⟩ := Rep.lst_iff.mp h
    rw [reps_strs h1 h4] at h3
    exact ⟨_, p, ys, rfl, rfl, .inl h3.sq, h2, k _ _ H (Same.refl H) (Rep.v_iff.mpr rfl) hp⟩
  · obtain ⟨y, rfl, h⟩ := reps1 re
    cases Rep.v_iff.mp rd
    obtain ⟨ys, h1, h2, hp⟩ := hp
    obtain ⟨p, zs, rfl, h3, h4⟩ := Rep.tup_iff.mp h
    rw [reps_strs h1 h4] at h3
    exact ⟨_, p, ys, rfl, rfl, .inr h3.sq, h2, k _ _ H (Same.refl H) (Rep.v_iff.mpr rfl) hp⟩
  · exact hp.elim
/-! ### in, is -/
def flatOf : List D → Option (List V)
  | [] => some []
  | .v x :: r => (flatOf r).map (x :: ·)
  | _ => none
theorem reps_flat {S : Reg} {H : Hp} : ∀ {ds : List D} {bs : List V} {vs : List V}, flatOf ds = some bs → Reps K S H ds vs → vs = bs
  | [], bs, vs, h, r => by
    cases h
    exact Reps.nil_iff.mp r
  | .v b :: ds, bs, vs, h, r => by
    unfold flatOf at h
    obtain ⟨x, r', rfl, h1, h2⟩ := Reps.cons_iff.mp r
    cases hb : flatOf ds with
    | none => rw [hb] at h; cases h
    | some bs' =>
      rw [hb] at h; cases h
      cases Rep.v_iff.mp h1
      rw [reps_flat hb h2]
  | .tup _ :: _, _, _, h, _ => by simp [flatOf] at h
  | .lst _ :: _, _, _, h, _ => by simp [flatOf] at h
  | .scr _ :: _, _, _, h, _ => by simp [flatOf] at h
def inS (a b : Str) : Bool := !(Builtin.Str.occurrences b a 0 b.length 1).isEmpty
def dIn (neg : Bool) : D → D → (D → Prop) → Prop := fun d e Q => match d, e with
  | .v (.str a), .v (.str b) => Q (.bl (if neg then !inS a b else inS a b))
  | .v x, .lst ys => ∃ vs, flatOf ys = some vs ∧ flatV x = true ∧ vs.all flatV = true ∧ Q (.bl (if neg then !inV x vs else inV x vs))
  | .v x, .tup ys => ∃ vs, flatOf ys = some vs ∧ flatV x = true ∧ vs.all flatV = true ∧ Q (.bl (if neg then !inV x vs else inV x vs))
  | _, _ => False
def rInA (K : PySem.W.Frag) (neg : Bool) : R2 := fun x y H Q => (∃ i j, x = .str i ∧ y = .str j ∧ Q (.bl (if neg then !inS i j else inS i j)) H) ∨ rIn K neg x y H Q
theorem rs_in {neg : Bool} : RSnd K (rInA K neg) (dIn neg) := fun F S H W d e x y P R cb rd re hp k => by
  unfold dIn at hp
  split at hp
  · rw [Rep.v_iff] at rd re
    exact .inl ⟨_, _, rd, re, k _ _ H (Same.refl H) (Rep.v_iff.mpr rfl) hp⟩
  · obtain ⟨vs, h1, h2, h3, hp⟩ := hp
    obtain ⟨p, zs, rfl, h4, h5⟩ := Rep.lst_iff.mp re
    cases Rep.v_iff.mp rd
    rw [reps_flat h1 h5] at h4
    exact .inr ⟨p, vs, rfl, .inl h4.sq, h2, h3, k _ _ H (Same.refl H) (Rep.v_iff.mpr rfl) hp⟩
  · obtain ⟨vs, h1, h2, h3, hp⟩ := hp
    obtain ⟨p, zs, rfl, h4, h5⟩ := Rep.tup_iff.mp re
    cases Rep.v_iff.mp rd
    rw [reps_flat h1 h5] at h4
    exact .inr ⟨p, vs, rfl, .inr h4.sq, h2, h3, k _ _ H (Same.refl H) (Rep.v_iff.mpr rfl) hp⟩
  · exact hp.elim
theorem op_inA {X : Cx} : OpR X (compareOp .In) (rInA X.K false) := OpR.or (r := fun x y H Q => ∃ i j, x = .str i ∧ y = .str j ∧ Q (.bl (inS i j)) H) op_in_str op_in_seq
theorem op_niA {X : Cx} : OpR X (compareOp .NotIn) (rInA X.K true) := OpR.or (r := fun x y H Q => ∃ i j, x = .str i ∧ y = .str j ∧ Q (.bl (!inS i j)) H) op_notin_str op_notIn_seq
def D.isNon : D → Bool
  | .v .non => true
  | _ => false
def dIsN : D → D → (D → Prop) → Prop := fun d e Q => match e with
  | .v .non => Q (.bl d.isNon)
  | _ => False
def dNotN : D → D → (D → Prop) → Prop := fun d e Q => match e with
  | .v .non => Q (.bl (!d.isNon))
  | _ => False
theorem rep_non {S : Reg} {H : Hp} {d : D} {x : V} (r : Rep K S H d x) : decide (x = .non) = d.isNon := by
  cases d with
  | v y =>
    rw [Rep.v_iff.mp r]
    cases y <;> rfl
  | tup ds => obtain ⟨a, xs, rfl, _⟩ := Rep.tup_iff.mp r; rfl
  | lst ds => obtain ⟨a, xs, rfl, _⟩ := Rep.lst_iff.mp r; rfl
  | scr ds => obtain ⟨a, rfl, _⟩ := Rep.scr_iff.mp r; rfl
  | dct ks ds => obtain ⟨a, xs, rfl, _⟩ := Rep.dct_iff.mp r; rfl
  | exc c ks ds => obtain ⟨a, _, _, rfl, _⟩ := Rep.exc_iff.mp r; rfl
  | tpf ds => obtain ⟨a, _, _, rfl, _⟩ := Rep.tpf_iff.mp r; rfl
theorem rs_isN : RSnd K (fun x y H Q => y = .non ∧ Q (.bl (decide (x = .non))) H) dIsN := fun F S H W d e x y P R cb rd re hp k => by
  unfold dIsN at hp
  split at hp
  · refine ⟨Rep.v_iff.mp re, ?_⟩
    rw [rep_non rd]
    exact k _ _ H (Same.refl H) (Rep.v_iff.mpr rfl) hp
  · exact hp.elim
theorem rs_notN : RSnd K (fun x y H Q => y = .non ∧ Q (.bl (!decide (x = .non))) H) dNotN := fun F S H W d e x y P R cb rd re hp k => by
  unfold dNotN at hp
  split at hp
  · refine ⟨Rep.v_iff.mp re, ?_⟩
    rw [rep_non rd]
    exact k _ _ H (Same.refl H) (Rep.v_iff.mpr rfl) hp
  · exact hp.elim
end
end G

namespace G
open PySem PySem.Spec L2

def updW (W : Wd) (p : Addr) (o : MO) : Wd := fun q => if q = p then some o else W q
theorem updW_same {W : Wd} {p : Addr} {o : MO} : updW W p o p = some o := if_pos rfl
theorem updW_ne {W : Wd} {p q : Addr} {o : MO} (h : q ≠ p) : updW W p o q = W q := if_neg h
section
variable {K : PySem.W.Frag} {F S : Reg} {H : Hp} {σ : St} {ρ : Env} {W : Wd}
/-- a changeable object changes -/
theorem Cf.chW (c : Cf K F S H σ ρ W) {p : Addr} {o0 o : MO} {u : HO} (hw : W p = some o0) (ho : ∀ S' H', Stp (fun _ => False) S H S' H' → H' p = some u → MRep K S' H' p o) : Stp F S H S (upd H p u) ∧ Cf K F S (upd H p u) σ ρ (updW W p o) := by
  obtain ⟨sp, nf, _⟩ := c.cb.w p o0 hw
  have st : ∀ F', (∀ a, F' a → a ≠ p) → Stp F' S H S (upd H p u) := fun F' hF => ⟨fun a v h e => by
      have : a ≠ p := fun q => h (q ▸ sp)
      rw [upd_ne this]; exact e, fun a h1 h2 => absurd h1 h2, fun a h => by
      by_cases ha : a = p
      · rw [ha, upd_same] at h; cases h
      · rw [upd_ne ha] at h; exact h, fun a h => upd_ne (hF a h)⟩
  have st1 := st F fun a h z => nf (z ▸ h)
  refine ⟨st1, ⟨fun a h => ?_, c.cb.fs, fun q o' hq => ?_⟩, c.len, fun j d' h => ?_, fun j ds' h => ?_, c.dis⟩
  · intro q; exact c.cb.sd a h (st1.dom a q)
  · by_cases hp : q = p
    · subst hp
      rw [updW_same] at hq
      cases hq
      exact ⟨sp, nf, ho _ _ (st _ fun _ h => h.elim) upd_same⟩
    · rw [updW_ne hp] at hq
      obtain ⟨h1, h2, h3⟩ := c.cb.w q o' hq
      exact ⟨h1, h2, h3.up st1 (upd_ne hp)⟩
  · obtain ⟨w, h1, h2⟩ := c.sh j d' h
    exact ⟨w, h1, h2.up st1⟩
  · obtain ⟨q, h1, h3, h4, h5, h6⟩ := c.om j ds' h
    have hp : q ≠ p := fun z => by rw [z, hw] at h6; cases h6
    exact ⟨q, h1, h3.up st1 (upd_ne hp), h4, h5, by rw [updW_ne hp]; exact h6⟩
/-- a new changeable list -/
theorem Cf.newW (c : Cf K F S H σ ρ W) {p : Addr} {xs : List V} {ds : List D} (hp : H p = none) (r : Reps K S H ds xs) :
    W p = none ∧ Stp F S H (Add S p) (upd H p (.lst xs)) ∧ Cf K F (Add S p) (upd H p (.lst xs)) σ ρ (updW W p (.lst ds)) := by
  have hw : W p = none := by
    cases q : W p with
    | none => rfl
    | some o => exact absurd hp (c.cb.sd p (c.cb.w p o q).1)
  have np : ∀ a, S a → a ≠ p := fun a hs q => c.cb.sd a hs (by rw [q]; exact hp)
  have st : Stp F S H (Add S p) (upd H p (.lst xs)) := (c.alien (o := .lst xs) hp).1
  refine ⟨hw, st, ⟨fun a h => ?_, fun a h => .inl (c.cb.fs a h), fun q o' hq => ?_⟩, c.len, fun j d' h => ?_, fun j ds' h => ?_, c.dis⟩
  · rcases h with h | h
    · rw [upd_ne (np a h)]; exact c.cb.sd a h
    · rw [h, upd_same]; simp
  · by_cases hq' : q = p
    · subst hq'
      rw [updW_same] at hq
      cases hq
      exact ⟨.inr rfl, fun hf => c.cb.sd _ (c.cb.fs _ hf) hp, xs, upd_same, r.up st⟩
    · rw [updW_ne hq'] at hq
      obtain ⟨h1, h2, h3⟩ := c.cb.w q o' hq
      exact ⟨.inl h1, h2, h3.up st (upd_ne hq')⟩
  · obtain ⟨w, h1, h2⟩ := c.sh j d' h
    exact ⟨w, h1, h2.up st⟩
  · obtain ⟨q, h1, h3, h4, h5, h6⟩ := c.om j ds' h
    have hq : q ≠ p := np q h4
    exact ⟨q, h1, h3.up st (upd_ne hq), .inl h4, h5, by rw [updW_ne hq]; exact h6⟩
/-- the own list becomes one that others may hold -/
theorem Cf.omW (c : Cf K F S H σ ρ W) {i : Nat} {o : MO} (h0 : ρ[i]? = some (some (.om o))) :
    ∃ p, W p = none ∧ Cf K F S H σ (ρ.set i (some (.sh (.ref p)))) (updW W p o) := by
  obtain ⟨p, hp, r0, hs, hf, hw⟩ := c.om i o h0
  have hl : i < ρ.length := (List.getElem?_eq_some_iff.mp h0).1
  refine ⟨p, hw, ⟨c.cb.sd, c.cb.fs, fun q o' hq => ?_⟩, by simp [c.len], fun j d' h => ?_, fun j ds' h => ?_, fun j k q h1 h2 => ?_⟩
  · by_cases hq' : q = p
    · subst hq'
      rw [updW_same] at hq
      cases hq
      exact ⟨hs, hf, r0⟩
    · rw [updW_ne hq'] at hq
      exact c.cb.w q o' hq
  · by_cases hj : i = j
    · subst hj
      rw [List.getElem?_set_self hl] at h
      cases h
      exact ⟨_, hp, Rep.v_iff.mpr rfl⟩
    · rw [List.getElem?_set_ne hj] at h
      exact c.sh j d' h
  · by_cases hj : i = j
    · subst hj
      rw [List.getElem?_set_self hl] at h
      cases h
    · rw [List.getElem?_set_ne hj] at h
      obtain ⟨q, h1, h3, h4, h5, h6⟩ := c.om j ds' h
      have : q ≠ p := fun z => hj (c.dis i j p ⟨o, h0, hp⟩ ⟨ds', h, z ▸ h1⟩)
      exact ⟨q, h1, h3, h4, h5, by rw [updW_ne this]; exact h6⟩
  · have go : ∀ j, Own σ (ρ.set i (some (.sh (.ref p)))) j q → Own σ ρ j q := fun j ⟨ds', q1, q2⟩ => by
      by_cases hj : i = j
      · subst hj
        rw [List.getElem?_set_self hl] at q1
        cases q1
      · rw [List.getElem?_set_ne hj] at q1
        exact ⟨ds', q1, q2⟩
    exact c.dis j k q (go j h1) (go k h2)
end
section
variable {X : Cx} {Wx : WX} {st : Stmt} {rest : List Stmt} {f g : TSD} {e o a b c i : Expr} {es : List Expr} {fe fo fa fb fc : TD} {fl : TL} {pos : Pos}
/-- slot i's own list is given to the world -/
def dOlW (i : Nat) (f : TSD) : TSD := fun De ρ W => match ρ[i]? with
  | some (some (.ol ds)) => ∀ p, W p = none → f De (ρ.set i (some (.sh (.ref p)))) (updW W p (.lst ds))
  | _ => False
theorem gss_olW (i : Nat) (h : GSs X Wx rest f) : GSs X Wx rest (dOlW i f) := by
  obtain ⟨t, p, s⟩ := h
  refine ⟨t, p, fun F S H σ ρ W De Dh cf hf l => ?_⟩
  unfold dOlW at hf
  split at hf
  · rename_i ds h0
    obtain ⟨q, hq, c2⟩ := cf.omW h0
    exact s F S H σ _ _ De Dh c2 (hf q hq) l
  · exact hf.elim
/-- return [..], a list that its owner may change -/
def dRetW (fl : TL) : TSD := fun De ρ W => fl ρ W (fun ds _ W' => ∀ p, W' p = none → De.rt (.ref p) (updW W' p (.lst ds))) De.ex
theorem gs_retW (he : GN X Wx e fl) : GS X Wx (.Return (some e) pos) (dRetW fl) := by
  obtain ⟨te, pe, se⟩ := he
  refine ⟨_, ps_ret pe, fun F S H σ ρ W De Dh cf hf l => ?_⟩
  refine se F S H σ ρ W _ De.ex _ cf hf l.ex fun S' H' ρ' W' ds xs p e' c r hp q => ?_
  obtain ⟨hw, st, c2⟩ := c.newW hp r
  exact l.rt _ _ σ ρ' _ _ _ (e'.trans st) c2 (Rep.v_iff.mpr rfl) (q p hw)
/-- x = [..], a list that others may hold and change -/
def dAsgW (i : Nat) (fl : TL) : TSD := fun De ρ W => fl ρ W (fun ds ρ' W' => ∀ p, W' p = none → De.nx (ρ'.set i (some (.sh (.ref p)))) (updW W' p (.lst ds))) De.ex
theorem snd_asgW {K : PySem.W.Frag} {te : TE} {i : Nat} (se : SndN K Wx te fl) : SndS K Wx (tAsg te (gName i)) (dAsgW i fl) := fun F S H σ ρ W De Dh cf hf l => by
  refine se F S H σ ρ W _ De.ex _ cf hf l.ex fun S' H' ρ' W' ds xs p e' c r hp q => ?_
  obtain ⟨hw, st, c2⟩ := c.newW hp r
  exact l.nx _ _ _ _ _ (e'.trans st) (c2.setSh i (Rep.v_iff.mpr rfl)) (q p hw)
/-- p[i] of a changeable list -/
def dIxW (fa fb : TD) : TD := fun ρ W Q Qx => fa ρ W (fun d ρ1 W1 => fb ρ1 W1 (fun e ρ2 W2 => match d, e with
  | .v (.ref p), .v (.int i) => ∃ ds z, W2 p = some (.lst ds) ∧ atI ds i = some z ∧ Q z ρ2 W2
  | _, _ => False) Qx) Qx
theorem ge_ixW (ha : GE X Wx a fa) (hb : GE X Wx b fb) (hs : PlainIx b) : GE X Wx (.Subscript a b pos) (dIxW fa fb) := by
  obtain ⟨ta, pa, sa⟩ := ha
  obtain ⟨tb, pb, sb⟩ := hb
  refine ⟨_, pe_ix ix_list pa pb hs, fun F S H σ ρ W Q Qx R cf hf hx hE => ?_⟩
  refine sa F S H σ ρ W _ Qx _ cf hf hx fun S1 H1 ρ1 W1 d v e1 c1 r1 q1 => ?_
  refine sb F S1 H1 σ ρ1 W1 _ Qx _ c1 q1 (hx.up e1) fun S2 H2 ρ2 W2 d2 v2 e2 c2 r2 q2 => ?_
  split at q2
  · rename_i p i
    obtain ⟨ds, z, hw, hz, q⟩ := q2
    obtain ⟨_, _, xs, h1, h2⟩ := c2.cb.w p _ hw
    obtain ⟨w, h3, h4⟩ := reps_at h2 hz
    exact ⟨p, xs, i, w, Rep.v_iff.mp r1, Rep.v_iff.mp r2, SqL.of h1, h3, hE S2 H2 ρ2 W2 z w (e1.trans e2) c2 h4 q⟩
  · exact q2.elim
/-- p[i] = e -/
def dSetW (fe fo fi : TD) : TSD := fun De ρ W => fe ρ W (fun d ρ1 W1 => fo ρ1 W1 (fun x ρ2 W2 => fi ρ2 W2 (fun y ρ3 W3 => match x, y with
  | .v (.ref p), .v (.int k) => ∃ ds j, W3 p = some (.lst ds) ∧ ixN ds.length k = some j ∧ De.nx ρ3 (updW W3 p (.lst (ds.set j d)))
  | _, _ => False) De.ex) De.ex) De.ex
theorem gs_setW {fi : TD} {tpos : Pos} (he : GE X Wx e fe) (ho : GE X Wx o fo) (hi : GE X Wx i fi) (ha : ∀ v, assign (.Subscript o i tpos) X.env v = (do
      let ov ← holding [v] (eval o X.env)
      let iv ← holding [v, ov] (eval i X.env)
      standAt tpos
      holding [v, ov, iv] (setItem ov iv v)
      release [v, ov, iv] []) := by intro _; rfl) (hs : swapsWithSole [.Subscript o i tpos] e pos.line X.env = pure false := by rfl) (hw : swappedStores [.Subscript o i tpos] e X.env = pure none := by rfl) (h1 : (assignEach [.Subscript o i tpos] X.env).map (·.2) = [assign (.Subscript o i tpos) X.env] := by rfl) :
    GS X Wx (.Assign [.Subscript o i tpos] e pos) (dSetW fe fo fi) := by
  obtain ⟨te, pe, se⟩ := he
  obtain ⟨to, po, so⟩ := ho
  obtain ⟨ti, pi, si⟩ := hi
  refine ⟨_, ps_asg pe (pg_sub po pi set_list ha) hs hw h1, fun F S H σ ρ W De Dh cf hf l => ?_⟩
  refine se F S H σ ρ W _ De.ex _ cf hf l.ex fun S1 H1 ρ1 W1 d v e1 c1 r1 q1 => ?_
  refine so F S1 H1 σ ρ1 W1 _ De.ex _ c1 q1 (l.ex.up e1) fun S2 H2 ρ2 W2 d2 v2 e2 c2 r2 q2 => ?_
  refine si F S2 H2 σ ρ2 W2 _ De.ex _ c2 q2 (l.ex.up (e1.trans e2)) fun S3 H3 ρ3 W3 d3 v3 e3 c3 r3 q3 => ?_
  split at q3
  · rename_i p k
    obtain ⟨ds, j, hw, hj, q⟩ := q3
    obtain ⟨_, _, xs, h1, h2⟩ := c3.cb.w p _ hw
    refine ⟨p, xs, k, j, Rep.v_iff.mp r2, Rep.v_iff.mp r3, h1, by rw [h2.length]; exact hj, ?_⟩
    have r1' := (r1.up e2).up e3
    obtain ⟨st, c4⟩ := c3.chW (o := .lst (ds.set j d)) (u := .lst (xs.set j v)) hw fun S' H' e' hp => ⟨_, hp, (Reps.set r1' j h2).up e'⟩
    exact l.nx _ _ _ _ _ (((e1.trans e2).trans e3).trans st) c4 q
  · exact q3.elim
/-- p.pop(i), dropped -/
def dPopW (fo fi : TD) : TSD := fun De ρ W => fo ρ W (fun x ρ1 W1 => (∃ p ds, x = .ref p ∧ W1 p = some (.lst ds)) ∧ fi ρ1 W1 (fun y ρ2 W2 => match x, y with
  | .v (.ref p), .v (.int k) => ∃ ds j, W2 p = some (.lst ds) ∧ -(2 ^ 63) ≤ k ∧ k < 2 ^ 63 ∧ seqIndex? k ds.length = some j ∧ j < ds.length ∧ De.nx ρ2 (updW W2 p (.lst (ds.eraseIdx j)))
  | _, _ => False) De.ex) De.ex
theorem Reps.erase {K : PySem.W.Frag} {S : Reg} {H : Hp} : ∀ (n : Nat) {ds : List D} {vs : List V}, Reps K S H ds vs → Reps K S H (ds.eraseIdx n) (vs.eraseIdx n)
  | n, [], _, h => by rw [Reps.nil_iff.mp h]; exact Reps.nil
  | 0, d' :: ds, _, h => by
    obtain ⟨x, r, rfl, h1, h2⟩ := Reps.cons_iff.mp h
    exact h2
  | n + 1, d' :: ds, _, h => by
    obtain ⟨x, r, rfl, h1, h2⟩ := Reps.cons_iff.mp h
    exact Reps.cons h1 (Reps.erase n h2)
theorem gs_popW {fi : TD} {apos cpos : Pos} (ho : GE X Wx o fo) (hi : GE X Wx i fi) (hbase : attributeBase o "pop" X.env (eval o X.env) = eval o X.env := by rfl)
    (hfew : ((backTo cpos (starEach (i :: []) X.env)).all (fun x => !x.1) && (backToKw cpos (keywordEach [] X.env)).all (fun x => x.1.isSome) && decide ((i :: ([] : List Expr)).length + ([] : List Keyword).length + (if ([] : List Keyword).isEmpty then 0 else 1) < 30)) = true := by rfl)
    (hline : (apos.endLine == cpos.line) = true := by rfl) (hse : starEach (i :: []) X.env = (false, eval i X.env) :: starEach [] X.env := by rfl) (hplain : (backTo cpos (starEach [] X.env)).any (·.1) = false := by rfl)
    (hs : swapsWith (.Call (.Attribute o "pop" apos) [i] [] cpos) none pos.line X.env = pure false := by rfl) : GS X Wx (.Expr (.Call (.Attribute o "pop" apos) [i] [] cpos) pos) (dPopW fo fi) := by
  obtain ⟨to, po, so⟩ := ho
  obtain ⟨ti, pi, si⟩ := hi
  refine ⟨_, ps_expr (pe_bm PySem.F.plainAttrs_list PySem.F.slot_list_pop PySem.F.type_list_pop mt_popAt po (pa_cons pi pa_nil hse) hbase hfew hline hse hplain) hs, fun F S H σ ρ W De Dh cf hf l => ?_⟩
  refine so F S H σ ρ W _ De.ex _ cf hf l.ex fun S1 H1 ρ1 W1 d v e1 c1 r1 q1 => ?_
  obtain ⟨⟨p0, ds0, rfl, hw0⟩, q1⟩ := q1
  obtain ⟨_, _, xs0, h0, _⟩ := c1.cb.w p0 _ hw0
  have ev := Rep.v_iff.mp r1
  subst ev
  refine ⟨.inl ⟨rfl, xs0, SqL.of h0⟩, ?_⟩
  refine si F S1 H1 σ ρ1 W1 _ De.ex _ c1 q1 (l.ex.up e1) fun S2 H2 ρ2 W2 d2 v2 e2 c2 r2 q2 => ?_
  split at q2
  · rename_i p k he
    cases he
    obtain ⟨ds, j, hw, hk1, hk2, hj, hjl, q⟩ := q2
    obtain ⟨_, _, xs, h1, h2⟩ := c2.cb.w p0 _ hw
    have hv : xs[j]? = some (xs[j]'(by rw [h2.length]; exact hjl)) := List.getElem?_eq_getElem _
    refine ⟨p0, xs, k, j, _, rfl, by rw [Rep.v_iff.mp r2], h1, hk1, hk2, by rw [h2.length]; exact hj, hv, ?_⟩
    obtain ⟨st, c4⟩ := c2.chW (o := .lst (ds.eraseIdx j)) (u := .lst (xs.eraseIdx j)) hw fun S' H' e' hp => ⟨_, hp, (Reps.erase j h2).up e'⟩
    exact l.nx _ _ _ _ _ ((e1.trans e2).trans st) c4 q
  · exact q2.elim
/-- p != [], p a changeable list -/
def dNeW (fa fb : TD) : TB := fun ρ W Q Qx => fa ρ W (fun d ρ1 W1 => fb ρ1 W1 (fun e ρ2 W2 => match d, e with
  | .v (.ref p), .lst [] => ∃ ds, W2 p = some (.lst ds) ∧ goods 63 ds = true ∧ Q (!ds.isEmpty) ρ2 W2
  | _, _ => False) Qx) Qx
theorem gt_neW (hu : X.A.units + 64 < cLine) (ha : GE X Wx a fa) (hb : GE X Wx b fb) (hm : behindInMarks .NotEq b = false) : GT X Wx (.Compare a [.NotEq] [b] pos) (dNeW fa fb) := by
  obtain ⟨ta, pa, sa⟩ := ha
  obtain ⟨tb, pb, sb⟩ := hb
  refine ⟨_, pt_cmpR (op_neD hu) pa pb hm, fun F S H σ ρ W Q Qx R cf hf hx hE => ?_⟩
  refine sa F S H σ ρ W _ Qx _ cf hf hx fun S1 H1 ρ1 W1 d v e1 c1 r1 q1 => ?_
  refine sb F S1 H1 σ ρ1 W1 _ Qx _ c1 q1 (hx.up e1) fun S2 H2 ρ2 W2 d2 v2 e2 c2 r2 q2 => ?_
  split at q2
  · rename_i p
    obtain ⟨ds, hw, hg, q⟩ := q2
    obtain ⟨_, _, xs, h1, h2⟩ := c2.cb.w p _ hw
    have ev := Rep.v_iff.mp r1
    subst ev
    obtain ⟨a, ys, rfl, h3, h4⟩ := Rep.lst_iff.mp r2
    have gl : D.good 64 (.lst ds) = true := by simpa [D.good] using hg
    have gn : D.good 64 (.lst []) = true := by simp [D.good, goods]
    have dp1 : Dp X.K H2 (.ref p) (D.lst ds).py := by
      simp only [D.py]
      exact .lst (SqL.of h1) (dps_of hg h2)
    refine ⟨_, _, dp1, dp_of gn r2, shaped_of gl, shaped_of gn, !ds.isEmpty, ?_, hE S2 H2 ρ2 W2 _ (e1.trans e2) c2 q⟩
    cases ds with
    | nil => simp [D.py, pys, PyData.eqv, PyData.eqvAll]
    | cons d ds => simp [D.py, pys, PyData.eqv, PyData.eqvAll]
  · exact q2.elim
/-! ### more statements, more expressions -/
/-- xs[i] = e, the frame's own list -/
def dSetO (k : Nat) (fe fi : TD) : TSD := fun De ρ W => fe ρ W (fun d ρ1 W1 => (∃ ds, ρ1[k]? = some (some (.ol ds))) ∧ fi ρ1 W1 (fun y ρ2 W2 => match ρ2[k]?, y with
  | some (some (.ol ds)), .v (.int z) => ∃ j, ixN ds.length z = some j ∧ De.nx (ρ2.set k (some (.ol (ds.set j d)))) W2
  | _, _ => False) De.ex) De.ex
theorem gs_setO2 {k : Nat} {x : Str} {fi : TD} {px tpos : Pos} (he : GE X Wx e fe) (hi : GE X Wx i fi) (hN : X.N[k]? = some x := by rfl) (hv : Vis X.env.scope x := by first | exact Or.inl rfl | exact Or.inr (Or.inl rfl) | exact Or.inr (Or.inr rfl)) (hd : (x == ("__debug__" : Str)) = false := by decide) (hcd : (x == ("__classdict__" : Str)) = false := by decide)
    (ha : ∀ v, assign (.Subscript (.Name x px) i tpos) X.env v = (do
      let ov ← holding [v] (eval (.Name x px) X.env)
      let iv ← holding [v, ov] (eval i X.env)
      standAt tpos
      holding [v, ov, iv] (setItem ov iv v)
      release [v, ov, iv] []) := by intro _; rfl) (hs : swapsWithSole [.Subscript (.Name x px) i tpos] e pos.line X.env = pure false := by rfl) (hw : swappedStores [.Subscript (.Name x px) i tpos] e X.env = pure none := by rfl) (h1 : (assignEach [.Subscript (.Name x px) i tpos] X.env).map (·.2) = [assign (.Subscript (.Name x px) i tpos) X.env] := by rfl) :
    GS X Wx (.Assign [.Subscript (.Name x px) i tpos] e pos) (dSetO k fe fi) := by
  obtain ⟨te, pe, se⟩ := he
  obtain ⟨ti, pi, si⟩ := hi
  refine ⟨_, ps_asg pe (pg_sub (pe_var hN hv hd hcd) pi set_list ha) hs hw h1, fun F S H σ ρ W De Dh cf hf l => ?_⟩
  refine se F S H σ ρ W _ De.ex _ cf hf l.ex fun S1 H1 ρ1 W1 d v e1 c1 r1 q1 => ?_
  obtain ⟨⟨ds0, h0⟩, q1⟩ := q1
  obtain ⟨p, xs0, hp, _⟩ := c1.ol k ds0 h0
  refine ⟨_, hp, ?_⟩
  refine si F S1 H1 σ ρ1 W1 _ De.ex _ c1 q1 (l.ex.up e1) fun S2 H2 ρ2 W2 d2 v2 e2 c2 r2 q2 => ?_
  split at q2
  · rename_i ds z hk
    obtain ⟨j, hj, q⟩ := q2
    obtain ⟨p', xs, hp', h2, h3, _⟩ := c2.ol k ds hk
    rw [hp] at hp'; cases hp'
    refine ⟨p, xs, z, j, rfl, Rep.v_iff.mp r2, h2, by rw [h3.length]; exact hj, ?_⟩
    obtain ⟨st, c3⟩ := c2.chOl hk hp (Reps.set (r1.up e2) j h3)
    exact l.nx _ _ _ _ W2 ((e1.trans e2).trans st) c3 q
  · exact q2.elim
/-- xs[i], the frame's own list -/
def dIxO (k : Nat) (fi : TD) : TD := fun ρ W Q Qx => (∃ ds, ρ[k]? = some (some (.ol ds))) ∧ fi ρ W (fun y ρ2 W2 => match ρ2[k]?, y with
  | some (some (.ol ds)), .v (.int z) => ∃ d, atI ds z = some d ∧ Q d ρ2 W2
  | _, _ => False) Qx
theorem ge_ixO (k : Nat) {x : Str} {fi : TD} {px : Pos} (hi : GE X Wx i fi) (hpi : PlainIx i) (hN : X.N[k]? = some x := by rfl) (hv : Vis X.env.scope x := by first | exact Or.inl rfl | exact Or.inr (Or.inl rfl) | exact Or.inr (Or.inr rfl)) (hd : (x == ("__debug__" : Str)) = false := by decide) (hcd : (x == ("__classdict__" : Str)) = false := by decide) :
    GE X Wx (.Subscript (.Name x px) i pos) (dIxO k fi) := by
  obtain ⟨ti, pi, si⟩ := hi
  refine ⟨_, pe_ix ix_list (pe_var hN hv hd hcd) pi hpi, fun F S H σ ρ W Q Qx R cf hf hx hE => ?_⟩
  obtain ⟨⟨ds0, h0⟩, hf⟩ := hf
  obtain ⟨p, xs0, hp, _⟩ := cf.ol k ds0 h0
  refine ⟨_, hp, ?_⟩
  refine si F S H σ ρ W _ Qx _ cf hf hx fun S2 H2 ρ2 W2 d2 v2 e2 c2 r2 q2 => ?_
  split at q2
  · rename_i ds z hk
    obtain ⟨d, hd, q⟩ := q2
    obtain ⟨p', xs, hp', h2, h3, _⟩ := c2.ol k ds hk
    rw [hp] at hp'; cases hp'
    obtain ⟨w, h4, h5⟩ := reps_at h3 hd
    exact ⟨p, xs, z, w, rfl, Rep.v_iff.mp r2, SqL.of h2, h4, hE S2 H2 ρ2 W2 d w e2 c2 h5 q⟩
  · exact q2.elim
/-- len of the frame's own list -/
def dLenO (k : Nat) : TD := fun ρ W Q _ => match ρ[k]? with
  | some (some (.ol ds)) => Q (.int ds.length) ρ W
  | _ => False
/-- -e -/
def dNeg (fe : TD) : TD := fun ρ W Q Qx => fe ρ W (fun d ρ' W' => match d with | .v (.int i) => Q (.int (-i)) ρ' W' | _ => False) Qx
theorem ge_neg (he : GE X Wx e fe) : GE X Wx (.UnaryOp .USub e pos) (dNeg fe) := by
  obtain ⟨te, pe, se⟩ := he
  refine ⟨_, pe_un un_neg pe, fun F S H σ ρ W Q Qx R cf hf hx hE => ?_⟩
  refine se F S H σ ρ W _ Qx _ cf hf hx fun S1 H1 ρ1 W1 d v e1 c1 r1 q1 => ?_
  split at q1
  · rename_i i
    exact ⟨i, Rep.v_iff.mp r1, hE S1 H1 ρ1 W1 _ _ e1 c1 (Rep.v_iff.mpr rfl) q1⟩
  · exact q1.elim
theorem ge_gc {x : Str} {v : V} {pos : Pos} (h : ∃ u, X.mg x = some u ∧ RelV v u) (hg : Gl X x := by rfl) (hd : (x == ("__debug__" : Str)) = false := by decide) : GE X Wx (.Name x pos) (dC v) := by
  obtain ⟨u, h1, h2⟩ := h
  exact ge_glob hg h1 h2 hd
/-- a built-in class as a value -/
theorem ge_ty {x : Str} {n : String} {pos : Pos} (hm : X.mg x = none) (hv : bootBuiltins x = some (.type n)) (hg : Gl X x := by rfl) (hn : x ≠ "__name__" := by decide) (hd : (x == ("__debug__" : Str)) = false := by decide) : GE X Wx (.Name x pos) (dC (.ty n)) :=
  ⟨_, pe_bltn (v := .ty n) hg hm hv rfl hn hd, snd_c⟩
theorem gt_chain {op op' : CmpOp} {r r' : R2} {k k' : D → D → (D → Prop) → Prop} (ho : OpR X (compareOp op) r) (ho' : OpR X (compareOp op') r') (hr : RSnd X.K r k) (hr' : RSnd X.K r' k') (ha : GE X Wx a fa) (hb : GE X Wx b fb) (hc : GE X Wx c fc)
    (hm : lastMarks [op, op'] [b, c] = false := by with_unfolding_all rfl) : GT X Wx (.Compare a [op, op'] [b, c] pos) (dBool (dChain k k' fa fb fc)) := by
  obtain ⟨ta, pa, sa⟩ := ha
  obtain ⟨tb, pb, sb⟩ := hb
  obtain ⟨tc, pc, sc⟩ := hc
  refine ⟨_, pt_chain ho ho' pa pb pc hm, fun F S H σ ρ W Q Qx R cf hf hx hE => ?_⟩
  have := snd_tB (snd_chain hr hr' sa sb sc) F S H σ ρ W Q Qx R cf hf hx hE
  exact this
/-- x = [.. for ..] -/
theorem gs_setLc {y : Str} {py : Pos} {k : Nat} {elt tg iter : Expr} {ifs : List Expr} {scope : Scope} {spos : Pos} {fi : TID} {gd : TGD} {ft : TB} {fe : TD} {ts : List Nat} (own : List (Str × Nat)) (hc : X.calm = true) (hN : X.N.Nodup) (hy : X.N[k]? = some y) (hyl : X.env.scope.names.lookup y = some .local)
    (hsw : swapsWith (.ListComp elt [⟨tg, iter, ifs, 0⟩] scope pos) (some (.Name y py)) spos.line X.env = pure true) (hi : GI X Wx tg iter fi) (ok : BlkOk X.N X.env.scope scope own) (hts : ∀ j ∈ ts, j ∈ own.map (·.2))
    (hg : ∀ (s : Shared) (H : Hp) (C : Addr) (cl : List (Str × Addr)) (fp : List Addr), GG (X.blk s H scope (PySem.compEnvC scope cl C X.env) fp) tg gd ts) (ht : ∀ (s : Shared) (H : Hp) (C : Addr) (cl : List (Str × Addr)) (fp : List Addr), GTs (X.blk s H scope (PySem.compEnvC scope cl C X.env) fp) WX0 ifs ft)
    (he : ∀ (s : Shared) (H : Hp) (C : Addr) (cl : List (Str × Addr)) (fp : List Addr), GE (X.blk s H scope (PySem.compEnvC scope cl C X.env) fp) WX0 elt fe) (hs : ∀ x, foldedSetIterable iter X.env x = pure x := by intro _; rfl) :
    GS X Wx (.Assign [.Name y py] (.ListComp elt [⟨tg, iter, ifs, 0⟩] scope pos) spos) (dAsg (dFresh (dLc fi gd ft fe (own.map (·.2)))) (gdName k)) := by
  obtain ⟨wi, pi, si⟩ := hi
  exact ⟨_, ps_setLc hc hN hy hyl hsw pi ok (fun s H C cl fp => (hg s H C cl fp).can) (fun s H C cl fp => (ht s H C cl fp).can) (fun s H C cl fp => (he s H C cl fp).can) hs, snd_asg (snd_fresh (snd_lc hts si)) snd_gName⟩
theorem gs_setLcO {y : Str} {py : Pos} {k : Nat} {elt tg iter : Expr} {ifs : List Expr} {scope : Scope} {spos : Pos} {fi : TID} {gd : TGD} {ft : TB} {fe : TD} {ts : List Nat} (own : List (Str × Nat)) (hc : X.calm = true) (hN : X.N.Nodup) (hy : X.N[k]? = some y) (hyl : X.env.scope.names.lookup y = some .local)
    (hsw : swapsWith (.ListComp elt [⟨tg, iter, ifs, 0⟩] scope pos) (some (.Name y py)) spos.line X.env = pure true) (hi : GI X Wx tg iter fi) (ok : BlkOk X.N X.env.scope scope own) (hts : ∀ j ∈ ts, j ∈ own.map (·.2))
    (hg : ∀ (s : Shared) (H : Hp) (C : Addr) (cl : List (Str × Addr)) (fp : List Addr), GG (X.blk s H scope (PySem.compEnvC scope cl C X.env) fp) tg gd ts) (ht : ∀ (s : Shared) (H : Hp) (C : Addr) (cl : List (Str × Addr)) (fp : List Addr), GTs (X.blk s H scope (PySem.compEnvC scope cl C X.env) fp) WX0 ifs ft)
    (he : ∀ (s : Shared) (H : Hp) (C : Addr) (cl : List (Str × Addr)) (fp : List Addr), GE (X.blk s H scope (PySem.compEnvC scope cl C X.env) fp) WX0 elt fe) (hs : ∀ x, foldedSetIterable iter X.env x = pure x := by intro _; rfl) :
    GS X Wx (.Assign [.Name y py] (.ListComp elt [⟨tg, iter, ifs, 0⟩] scope pos) spos) (dAsgO k (dLc fi gd ft fe (own.map (·.2)))) := by
  obtain ⟨wi, pi, si⟩ := hi
  exact ⟨_, ps_setLc hc hN hy hyl hsw pi ok (fun s H C cl fp => (hg s H C cl fp).can) (fun s H C cl fp => (ht s H C cl fp).can) (fun s H C cl fp => (he s H C cl fp).can) hs, snd_asgO (snd_lc hts si)⟩
end
/-! ### defs of the module -/
/-- the def x of the text -/
structure DefAt (K : PySem.W.Frag) (mg : Str → Option Value) (x : Str) (st : Stmt) (ps : List Str) : Prop where
  ex : ∃ f fd, mg x = some (.ref f) ∧ Fun K x x st f fd ∧ Binds K fd ps []
theorem def_mk {K : PySem.W.Frag} {mg : Str → Option Value} {h : Heap} {x : Str} {st : Stmt} {ps : List Str} {f : Addr} {oc : Value} {od an : Option Addr} {osl : Array (Option Value)} {kV doc pm cdv ct : Value} (X : K.In h) (GG : h.Ns mainGlobals mg) (a : PySem.W.nsIn K mainGlobals x = some (some (.ref f)))
    (l : K.lookup f = some ⟨oc, od, .func (PySem.W.fnOf x x (defArgs st) (defBody st) (defScope st) .none kV doc pm an cdv ct), osl⟩) (c : PySem.W.codeIn K cdv x = true) (k : PySem.W.keepIn K (.ref f) = true)
    (b : ∀ (kV doc pm : Value) (an : Option Addr) (cdv ct : Value) (us : List Value), us.length = ps.length → bindArgs (PySem.W.fnOf x x (defArgs st) (defBody st) (defScope st) .none kV doc pm an cdv ct) ⟨us, []⟩ = pure (ps.zip us)) : DefAt K mg x st ps :=
  ⟨f, _, PySem.W.mg_of X GG a, fun_mk l c k, (fun_mk l c k).binds b⟩
/-- a def that keeps its promise -/
structure Cal (P : Program) (w : World) (K : PySem.W.Frag) (mg : Str → Option Value) (base : Heap) (k : Nat) (x : Str) (st : Stmt) (ps : List Str) (sp : SpD) : Prop where
  ex : ∃ f fd, mg x = some (.ref f) ∧ Fun K x x st f fd ∧ Binds K fd ps [] ∧ FnG P w K mg base k f fd ps (toSp K ps.length sp)
section
variable {P : Program} {w : World} {K : PySem.W.Frag} {mg : Str → Option Value} {base : Heap} {k j : Nat} {x : Str} {st : Stmt} {ps : List Str} {sp sp' : SpD}
theorem Cal.imp (c : Cal P w K mg base k x st ps sp) (h : ∀ ds W Q Qx, sp' ds W Q Qx → sp ds W Q Qx) : Cal P w K mg base k x st ps sp' := by
  obtain ⟨f, fd, a, b, c, d⟩ := c
  exact ⟨f, fd, a, b, c, d.imp (toSp_imp h _ _ _ _)⟩
theorem Cal.mono (c : Cal P w K mg base k x st ps sp) (h : k ≤ j) : Cal P w K mg base j x st ps sp := by
  obtain ⟨f, fd, a, b, c, d⟩ := c
  exact ⟨f, fd, a, b, c, d.mono h⟩
/-- THE RULE for a def of the module -/
theorem calD {N : List Str} (T : DefAt K mg x st ps) (Sc : FnScope N ps (defScope st))
    (hbody : ∀ (f : Addr) (cdv : Value) (A : Around) (outer : List PySem.Env) (s : Shared) (H : Hp) (E : XK), Rm k (A.deeper (PyProof.Rows.envOfC x (defScope st) s.heap.objs.size f cdv)) →
      ∃ g, GSs (cxOf (L2.CX P w) P w K mg base N x (defScope st) f cdv A outer s H E) (fun cls d _ H => E cls d H) (defBody st) g ∧
        ∀ ds W Qd Qx, ds.length = ps.length → sp ds W Qd Qx → g { nx := fun _ W' => Qd .non W', rt := Qd, ex := fun cls x _ W' => Qx cls x W' } (ds.map (fun d => some (Sl.sh d)) ++ List.replicate (N.length - ds.length) none) W) :
    Cal P w K mg base (k + 1) x st ps sp := by
  obtain ⟨f, fd, a, b, c⟩ := T
  exact ⟨f, fd, a, b, c, okD b Sc (hbody f)⟩
end
section
variable {X : Cx} {Wx : WX} {e : Expr} {es : List Expr} {fl : TL} {p pos : Pos} {k j n : Nat} {x : Str} {st : Stmt} {ps : List Str} {sp : SpD}
theorem ge_c (tk : Takes X Wx) (c : Cal X.prog X.w X.K X.mg X.base k x st ps sp) (hr : Rm j X.A) (hk : k ≤ j) (ha : GA X Wx (e :: es) fl) (hn : ps.length = n := by rfl) (hg : Gl X x := by rfl) (hdb : (x == ("__debug__" : Str)) = false := by decide) (he : starEach (e :: es) X.env = (false, eval e X.env) :: starEach es X.env := by rfl) (hpl : (backTo pos (starEach es X.env)).any (·.1) = false := by rfl) :
    GE X Wx (.Call (.Name x p) (e :: es) [] pos) (dCall sp n fl) := by
  obtain ⟨f, fd, a, b, c, d⟩ := c
  subst hn
  exact ge_call tk d (hr.less hk) hg a b.kp c ha hdb he hpl
/-- keywords -/
def GK (X : Cx) (Wx : WX) (kws : List Keyword) (f : TL) : Prop := ∃ te, PK X kws te ∧ SndL X.K Wx te f
variable {nm : Option Str} {kpos : Pos} {fe : TD} {kws : List Keyword}
theorem gk_nil : GK X Wx [] dNil := ⟨_, pk_nil, fun F S H σ ρ W Q Qx R cf hf hx hE => hE S H ρ W [] [] .refl cf Reps.nil hf⟩
theorem gk_cons (he : GE X Wx e fe) (ha : GK X Wx kws fl) : GK X Wx (⟨nm, e, kpos⟩ :: kws) (dCons fe fl) := by
  obtain ⟨te, pe, se⟩ := he
  obtain ⟨ta, pa, sa⟩ := ha
  exact ⟨_, pk_cons pe pa, snd_cons se sa⟩
/-- the values ix of l -/
def pick {α : Type} (ix : List Nat) (l : List α) : List α := ix.filterMap (l[·]?)
theorem vals_pick {zs : List V} {ws : List Value} (r : Vals zs ws) : ∀ ix : List Nat, Vals (pick ix zs) (pick ix ws)
  | [] => .nil
  | i :: ix => by
    unfold pick
    rw [List.filterMap_cons, List.filterMap_cons]
    cases e : zs[i]? with
    | none => rw [r.none_of e]; exact vals_pick r ix
    | some v =>
      obtain ⟨u, h1, h2⟩ := r.get e
      rw [h1]
      exact .cons h2 (vals_pick r ix)
theorem reps_pick {K : PySem.W.Frag} {S : Reg} {H : Hp} {ds : List D} {vs : List V} (r : Reps K S H ds vs) : ∀ ix : List Nat, Reps K S H (pick ix ds) (pick ix vs)
  | [] => Reps.nil
  | i :: ix => by
    unfold pick
    rw [List.filterMap_cons, List.filterMap_cons]
    cases e : ds[i]? with
    | none =>
      have : vs[i]? = none := by
        rw [List.getElem?_eq_none_iff] at e ⊢
        rw [r.length]; exact e
      rw [this]; exact reps_pick r ix
    | some v =>
      obtain ⟨u, h1, h2⟩ := r.get e
      rw [h1]
      exact Reps.cons h2 (reps_pick r ix)
def dCallK (sp : SpD) (n m : Nat) (ix : List Nat) (fl : TL) : TD := fun ρ W Q Qx => fl ρ W (fun ds ρ' W' => ds.length = m ∧ (pick ix ds).length = n ∧ sp (pick ix ds) W' (fun d W2 => Q d ρ' W2) (fun cls x W2 => False)) Qx
/-- f(k = e, ..), every argument by its name; nothing is raised -/
theorem ge_ck {ks : List Str} {m : Nat} (ix : List Nat) (c : Cal X.prog X.w X.K X.mg X.base k x st ps sp) (hr : Rm j X.A) (hk : k ≤ j)
    (hb : ∀ (kV doc pm : Value) (an : Option Addr) (cdv ct : Value) (ws : List Value), ws.length = ks.length → bindArgs (PySem.W.fnOf x x (defArgs st) (defBody st) (defScope st) .none kV doc pm an cdv ct) ⟨[], ks.zip ws⟩ = pure (ps.zip (pick ix ws)))
    (ha : GK X Wx kws fl) (hm : ks.length = m := by rfl) (hn : ps.length = n := by rfl) (hall : (backToKw pos (keywordEach kws X.env)).all (·.1.isSome) = true := by rfl) (hks : (backToKw pos (keywordEach kws X.env)).filterMap (·.1) = ks := by rfl) (hg : Gl X x := by rfl) (hdb : (x == ("__debug__" : Str)) = false := by decide)
    (hpl : ((backTo pos (starEach [] X.env)).any (·.1) || (backToKw pos (keywordEach kws X.env)).any (·.1.isNone)) = false := by rfl) :
    GE X Wx (.Call (.Name x p) [] kws pos) (dCallK sp n m ix fl) := by
  obtain ⟨f, fd, hmg, hF, hB, hf⟩ := c
  obtain ⟨ta, pa, sa⟩ := ha
  subst hn
  let te : TE := fun σ H Q => ta σ H fun zs H2 => zs.length = ks.length ∧ toSp X.K ps.length sp (pick ix zs) H2 Q E0
  refine ⟨te, ⟨fun pins s σ H Q I h => ?_⟩, ?_⟩
  · refine wpAny_Call_Name_kw (ld_glob I hg hmg ?_ hdb)
    refine PySem.W.callWith_KW0 (h₀ := X.base) I.ok.mod.kin hF.kp hall ?_ hpl
    refine thn (pa.run pos pins s σ H _ I h) fun ws s2 ⟨zs, H2, I2, rz, l2, q2⟩ => ⟨I2.kIn, ?_⟩
    rw [hks]
    obtain ⟨oc, od, kV, doc, pm, an, cdv, ct, osl, rfl, lk, hcd⟩ := hF.ex
    have hr2 := vals_pick rz ix
    have hbt := BindsTo.of_eq (s := s2) (hb kV doc pm an cdv ct ws (by rw [← rz.length, l2]))
    refine wpAny_call (codeAny_mono (hf.go (hr.less hk) I2.env0 hbt hr2 q2) fun r s' hq => ?_)
    cases r with
    | error e => exact (passL (X := X) pins σ H2 s2 e s' I2 hq)
    | ok fl =>
      cases fl with
      | ret u => exact I2.after hq
      | next => exact False.elim hq
      | brk => exact False.elim hq
      | cont => exact False.elim hq
  · intro F S H σ ρ W Q Qx R cf hf' hx hE
    refine sa F S H σ ρ W _ Qx _ cf hf' hx fun S1 H1 ρ1 W1 ds vs e1 c1 r1 q1 => ?_
    obtain ⟨q0, q1, q2⟩ := q1
    refine ⟨by rw [r1.length, q0, hm], _, S1, W1, pick ix ds, _, _, c1.below, reps_pick r1 ix, q1, q2, fun S' H' W' d v e' b r q => ?_, fun S' H' W' cls x od e' b xr q => q.elim⟩
    exact hE S' H' ρ1 W' d v (e1.trans (e'.mono fun _ h => .inl h)) (c1.back e' b) r q
end

/-! ### the end -/
/-- the surroundings at the head: what is not tracked is the base -/
theorem env_top {P : Program} {w : World} {K : PySem.W.Frag} {mg mb : Str → Option Value} {a : Addr} {s₁ : Shared} {items : Array Value} {H : Hp} (inK : K.In s₁.heap) (ng : s₁.heap.Ns mainGlobals mg) (nb : s₁.heap.Ns builtinsNs mb) (hbb : ∀ x : Str, x ≠ "__name__" → mb x = bootBuiltins x)
    (hlim : s₁.heap.NoLimit) (hg : s₁.gens = #[]) (at_a : s₁.heap.get? a = some { cls := .type "list", data := .seq items }) (ok : HOk P w H s₁.heap) (one : ∀ b, b ≠ a → H b = none) (own : H a ≠ none → K.lookup a = none) :
    Env0 P w K mg (hidT s₁.heap H) callerA [] s₁ H ∧ K.In (hidT s₁.heap H) ∧ (hidT s₁.heap H).Ns mainGlobals mg := by
  have names : ∀ {b : Addr} {m : Str → Option Value}, s₁.heap.Ns b m → (hidT s₁.heap H).Ns b m := by
    rintro b m ⟨o, es, ep, hb, hd, hr⟩
    have ne : b ≠ a := by
      rintro rfl
      have z := at_a.symm.trans hb
      injection z with z
      rw [← z] at hd
      cases hd
    exact ⟨o, es, ep, hidT_get hb (one b ne), hd, hr⟩
  have k2 : K.In (hidT s₁.heap H) := by
    intro b o hb
    refine hidT_get (inK b o hb) ?_
    by_cases e : b = a
    · by_cases q : H a = none
      · rw [e]; exact q
      · have z := own q
        rw [e, z] at hb
        cases hb
    · exact one b e
  obtain ⟨mc, l1, l2⟩ := hlim
  exact ⟨⟨rfl, ⟨k2, names ng, ⟨mb, names nb, hbb⟩, ⟨mc, names l1, l2⟩⟩, fun _ _ e => of_hidT e, Nat.le_of_eq (hidT_size _ _), trivial, (fun b z => nomatch (show b ∈ ([] : List Addr) from z)), ok, .of_eq hg⟩, k2, names ng⟩
theorem law_callG {P : Program} {w : World} {K : PySem.W.Frag} {mg mb : Str → Option Value} {k : Nat} {fa a : Addr} {fd : FuncData} {x : Str} {sp : Sp} {s₁ : Shared} {vs : List Value} {ns : List Int} (inK : K.In s₁.heap) (ng : s₁.heap.Ns mainGlobals mg) (nb : s₁.heap.Ns builtinsNs mb)
    (hbb : ∀ x : Str, x ≠ "__name__" → mb x = bootBuiltins x) (hlim : s₁.heap.NoLimit) (hg : s₁.gens = #[]) (at_a : s₁.heap.get? a = some { cls := .type "list", data := .seq vs.toArray }) (hints : PyProof.Rows.IntsAre vs ns) (small : ns.length ≤ sizeLine) (rm : Rm k callerA)
    (F : ∀ base : Heap, K.In base → base.Ns mainGlobals mg → FnG P w K mg base k fa fd [x] sp) (bnd : ∀ (s : Shared) (u : Value), BindsTo s fd ⟨[u], []⟩ [(x, u)])
    (hsp : ∀ H : Hp, Only H → SqL K H a (ns.map V.int) → sp [.ref a] H (fun v _ => v = .bl true) fun _ _ _ => False) :
    codeAny (model P w) callerA (.call (.ref fa) ⟨[.ref a], []⟩) (fun r s' => r = .ok (.ret (.bool true)) ∧ OldK s₁.heap s'.heap ∧ s'.os = s₁.os ∧ PyProof.Rows.AllBare s'.gens) s₁ := by
  have hv : Vals (ns.map V.int) vs := vals_ints hints
  have go : ∀ H : Hp, Only H → SqL K H a (ns.map V.int) → HOk P w H s₁.heap → (∀ b, b ≠ a → H b = none) → (H a ≠ none → K.lookup a = none) →
      codeAny (model P w) callerA (.call (.ref fa) ⟨[.ref a], []⟩) (fun r s' => r = .ok (.ret (.bool true)) ∧ OldK s₁.heap s'.heap ∧ s'.os = s₁.os ∧ PyProof.Rows.AllBare s'.gens) s₁ := by
    intro H only sq ok one own
    obtain ⟨e0, k2, n2⟩ := env_top inK ng nb hbb hlim hg at_a ok one own
    refine codeAny_mono ((F _ k2 n2).go rm e0 (args := ⟨[.ref a], []⟩) (us := [.ref a]) (vs := [.ref a]) (bnd s₁ (.ref a)) (.cons rfl .nil) (hsp H only sq)) fun r s' z => ?_
    match r, z with
    | .ok (.ret u), ⟨v, H2, os, bare, un, ok2, rel, ev⟩ =>
      have ev : v = .bl true := ev
      rw [ev] at rel
      have eu : u = Value.bool true := rel
      rw [eu]
      refine ⟨rfl, OldK.of_keep fun b o hb => ?_, os, bare⟩
      rcases only b with q | ⟨ob, xs, q⟩
      · exact un.keep b o hb q (fun z => nomatch (show b ∈ ([] : List Addr) from z)) (by simp)
      · have e1 := (ok b _ q).1
        have e2 := (ok2 b _ (un.frzs b ob _ q)).1
        rw [← e1.symm.trans hb]
        exact e2
    | .error e, z =>
      obtain ⟨_, _, _, _, _, _, _, _, _, _, _, _, no⟩ := z
      exact no.elim
    | .ok .next, z => exact z.elim
    | .ok .brk, z => exact z.elim
    | .ok .cont, z => exact z.elim
  have len : (ns.map V.int).length ≤ sizeLine := by rw [List.length_map]; exact small
  by_cases q : ∃ o, K.lookup a = some o
  · obtain ⟨o, q⟩ := q
    have e := at_a.symm.trans (inK a o q)
    injection e with e
    subst e
    exact go (fun _ => none) (fun _ => .inl rfl) (.inr ⟨_, vs.toArray, _, q, rfl, rfl, rfl, by rw [List.size_toArray, hints.length]; exact small, by simpa using hv⟩) (fun b u z => by cases (show (none : Option HO) = some u from z)) (fun _ _ => rfl) fun z => (z rfl).elim
  · have q : K.lookup a = none := by
      cases z : K.lookup a with
      | none => rfl
      | some o => exact (q ⟨o, z⟩).elim
    let o : Obj := { cls := .type "list", data := .seq vs.toArray }
    let H : Hp := fun b => if b = a then some (.frz o (.lst (ns.map V.int))) else none
    have ha : H a = some (.frz o (.lst (ns.map V.int))) := if_pos rfl
    have hn : ∀ b, b ≠ a → H b = none := fun b e => if_neg e
    refine go H (fun b => ?_) (.inl (.inr ⟨o, ha⟩)) (fun b u z => ?_) hn fun _ => q
    · by_cases e : b = a
      · rw [e]; exact .inr ⟨o, _, ha⟩
      · exact .inl (hn b e)
    · by_cases e : b = a
      · rw [e] at z ⊢
        have z := ha.symm.trans z
        injection z with z
        rw [← z]
        exact ⟨at_a, len, vs, _, hv, at_a⟩
      · rw [hn b e] at z
        cases z
theorem walkX {l : PySem.W.OpenLaw} {n k : Nat} {q : Program} {loose : List Str} {XP : (Str → Option Value) → Heap → Prop} {YP : World → Heap → Prop} {d : DefRec} {K : PySem.Params → PySem.W.Frag} {sp : World → Sp} {x : Str}
    (hn : l.most = some n) (hn2 : n ≤ sizeLine) (hdf : d.params.defaults = []) (hr : Rm k callerA)
    (hY : ∀ (w : World) (h : Heap), YP w h → (K w.params).In h)
    (F : ∀ (w : World) (mg : Str → Option Value) (fa : Addr) (h : Heap), XP mg h → (K w.params).In h → h.Ns mainGlobals mg → mg d.name = some (.ref fa) →
      ∃ fd : FuncData, (∀ (s : Shared) (u : Value), BindsTo s fd ⟨[u], []⟩ [(x, u)]) ∧ ∀ base : Heap, (K w.params).In base → base.Ns mainGlobals mg → FnG l.prog w (K w.params) mg base k fa fd [x] (sp w))
    (hsp : ∀ (w : World) (H : Hp) (a : Addr) (ns : List Int), ns.length ≤ n → (∀ z ∈ ns, Builtin.Int.intBits z ≤ 1048576) → Only H → SqL (K w.params) H a (ns.map V.int) → sp w [.ref a] H (fun v _ => v = .bl true) fun _ _ _ => False) :
    PySem.W.WalkO q loose XP YP l.row.toRowW d [] (fun f vs => PySem.call f vs) := by
  refine Att.attach_callB hn hdf fun w s₀ s₁ mg mb fa o pm cd doc a vs ns GG Y ho hd hcd hmg hobj hints hlen hbits hg => ?_
  obtain ⟨fd, hb, hF⟩ := F w mg fa _ GG.X (hY w _ Y) GG.T.g hmg
  exact law_callG (hY w _ Y) GG.T.g GG.T.b GG.T.builtins GG.T.nolimit hg hobj hints (Nat.le_trans hlen hn2) hr hF hb (fun H hO hS => hsp w H a ns hlen hbits hO hS)
/-- a law: of a script of at most 63 numbers of at most 2 ^ 20 bits it gives True -/
def spTrue : SpD := fun ds _ Q _ => ∃ ns : List Int, ds = [.scr ns] ∧ ns.length ≤ 63 ∧ (∀ z ∈ ns, Builtin.Int.intBits z ≤ 1048576) ∧ ∀ W, Q (.bl true) W
theorem toSp_true {K : PySem.W.Frag} {H : Hp} {a : Addr} {ns : List Int} (h1 : ns.length ≤ 63) (h2 : ∀ z ∈ ns, Builtin.Int.intBits z ≤ 1048576) (hS : SqL K H a (ns.map V.int)) : toSp K 1 spTrue [.ref a] H (fun v _ => v = .bl true) fun _ _ _ => False := by
  have cb : Cb K (fun _ => False) (fun _ => False) H (fun _ => none) := ⟨fun _ h => h.elim, fun _ h => h, fun _ _ h => by cases h⟩
  refine ⟨_, _, _, [.scr ns], fun d _ => d = .bl true, fun _ _ _ => False, cb, Reps.cons (Rep.scr_iff.mpr ⟨a, rfl, ?_⟩) Reps.nil, rfl, ⟨ns, rfl, h1, h2, fun _ => rfl⟩, fun S' H' W' d v _ _ r e => ?_, fun _ _ _ _ _ _ _ _ _ h => h⟩
  · rcases hS with h | h
    · exact .inl ⟨h, fun z => z⟩
    · exact .inr (.inr h)
  · subst e
    exact Rep.v_iff.mp r
theorem cx_none {P : Program} {w : World} {H : Hp} {s s' : Shared} {e : Value} (h : L2.CX P w [] H s (fun _ _ _ => False) e s') : False := by
  obtain ⟨_, _, _, _, _, _, _, _, _, _, _, _, h⟩ := h
  exact h
/-- what a top reckoned -/
theorem loose_int {lv : List (Str × PySem.W.WData)} {p : Program} {mg : Str → Option Value} {h : Heap} {x : Str} {n : Int} (X : PySem.W.XL p lv mg h) (m : (x, PySem.W.WData.int n) ∈ lv) : ∃ u, mg x = some u ∧ RelV (.int n) u := by
  obtain ⟨v, h1, h2⟩ := X.2.val _ m
  refine ⟨v, h1, ?_⟩
  cases h2
  exact ⟨_, rfl⟩
end G

namespace G
open PySem PySem.Spec L2
section
variable {K : PySem.W.Frag}
/-! ### operators of several kinds at once -/
def dSub : D → D → (D → Prop) → Prop := d2J fun i j => .int (i - j)
def dFdv : D → D → (D → Prop) → Prop := d2I CDivW fun i j => .int (i / j)
def dMod : D → D → (D → Prop) → Prop := d2I (fun _ j => 0 < j) fun i j => .int (i % j)
def dPow : D → D → (D → Prop) → Prop := d2I CPow fun i j => .int (i ^ j.toNat)
def dMulA : D → D → (D → Prop) → Prop := fun d e Q => match d, e with
  | .v (.int i), .v (.int j) => CMulX i j ∧ Q (.int (i * j))
  | .lst i, .v (.int j) => -(2 ^ 63) ≤ j ∧ j < 2 ^ 63 ∧ i.length * j.toNat ≤ sizeLine ∧ Q (.lst (List.replicate j.toNat i).flatten)
  | .v (.str s), .v (.int n) => -(2 ^ 63) ≤ n ∧ n < 2 ^ 63 ∧ s.length * n.toNat ≤ sizeLine ∧ Q (.str (repS s n))
  | _, _ => False
def rMulA : R2 := fun x y H Q => (rI CMulX (fun i j => .int (i * j)) x y H Q ∨ rRep x y H Q) ∨ rRepS x y H Q
theorem rs_mulA : RSnd K rMulA dMulA := rs_imp (rs_or rs_mul rs_repS) fun d e Q h => by
  unfold dMulA at h
  split at h
  · exact .inl h
  · exact .inl h
  · exact .inr h
  · exact h.elim
theorem op_mulAll {X : Cx} : OpR X (binaryOp .Mult) rMulA := op_mulA.or op_repS
/-- the order of texts -/
def ltS (a b : Str) : Bool := decide (a.cps.toList < b.cps.toList)
def leS (a b : Str) : Bool := decide (a.cps.toList ≤ b.cps.toList)
def dCmp (g : Int → Int → Bool) (h : Str → Str → Bool) : D → D → (D → Prop) → Prop := fun d e Q => match d, e with
  | .v (.int i), .v (.int j) => Q (.bl (g i j))
  | .v (.str i), .v (.str j) => Q (.bl (h i j))
  | _, _ => False
def rCmp (g : Int → Int → Bool) (h : Str → Str → Bool) : R2 := fun x y H Q => rI0 (fun i j => .bl (g i j)) x y H Q ∨ (fun x y H Q => ∃ i j, x = .str i ∧ y = .str j ∧ Q (.bl (h i j)) H) x y H Q
theorem rs_cmp {g : Int → Int → Bool} {h : Str → Str → Bool} : RSnd K (rCmp g h) (dCmp g h) :=
  rs_imp (rs_or (rs_J (g := fun i j => .bl (g i j))) (rs_S (g := fun i j => .bl (h i j)))) fun d e Q q => by
    unfold dCmp at q
    split at q
    · exact .inl q
    · exact .inr q
    · exact q.elim
abbrev dLt := dCmp (fun i j => decide (i < j)) ltS
abbrev dLe := dCmp (fun i j => decide (i ≤ j)) (fun a b => !ltS b a)
abbrev dGt := dCmp (fun i j => decide (j < i)) (fun a b => ltS b a)
abbrev dGe := dCmp (fun i j => decide (j ≤ i)) (fun a b => !ltS a b)
end
section
variable {X : Cx}
theorem op_ltA : OpR X (compareOp .Lt) (rCmp (fun i j => decide (i < j)) ltS) := OpR.or op_lt op_lt_str
theorem op_leA : OpR X (compareOp .LtE) (rCmp (fun i j => decide (i ≤ j)) (fun a b => !ltS b a)) := OpR.or op_le op_le_str
theorem op_gtA : OpR X (compareOp .Gt) (rCmp (fun i j => decide (j < i)) (fun a b => ltS b a)) := OpR.or op_gt op_gt_str
theorem op_geA : OpR X (compareOp .GtE) (rCmp (fun i j => decide (j ≤ i)) (fun a b => !ltS a b)) := OpR.or op_ge op_ge_str
end
end G

namespace G
open PySem PySem.Spec L2
/-! ### readings in short -/
abbrev noX : KX := fun _ _ _ _ => False
/-- a def's reading keeps the promise -/
abbrev Rd (N : List Str) (m : Nat) (sp : SpD) (d : TSD) : Prop := ∀ ds W Qd Qx, ds.length = m → sp ds W Qd Qx → d { nx := fun _ W' => Qd .non W', rt := Qd, ex := fun cls x _ W' => Qx cls x W' } (ds.map (fun d => some (Sl.sh d)) ++ List.replicate (N.length - ds.length) none) W
/-- a comprehension by what holds of the list so far -/
theorem dLc_inv {fi : TID} {gd : TGD} {ft : TB} {fe : TD} {vs : List Nat} {ρ : Env} {W : Wd} {Q : KL} {Qx : KX} (ds : List D) (W0 : Wd) (I : Nat → List D → Wd → Prop) (hno : noOwn ρ vs) (hl : ds.length ≤ sizeLine) (hi : ∀ P : KL, P ds ρ W0 → fi ρ W P Qx) (h0 : I 0 [] W0)
    (hs : ∀ (i : Nat) d acc W, ds[i]? = some d → acc.length ≤ i → I i acc W → gd d (wipeD ρ vs) W fun ρ1 W1 => ft ρ1 W1 (fun b ρ2 W2 => ρ2 = ρ1 ∧ if b = true then fe ρ1 W2 (fun y ρ3 W3 => ρ3 = ρ1 ∧ I (i + 1) (acc ++ [y]) W3) noX else I (i + 1) acc W2) noX)
    (hd : ∀ acc W, acc.length ≤ ds.length → I ds.length acc W → Q acc ρ W) : dLc fi gd ft fe vs ρ W Q Qx := by
  unfold dLc
  exact ⟨hno, hi _ ⟨rfl, hl, I, h0, hs, hd⟩⟩
/-- every item gives one, the state is as it was -/
theorem dLc_map {fi : TID} {fe : TD} {i : Nat} {ρ : Env} {W : Wd} {Q : KL} {Qx : KX} (ds : List D) (g : D → D) (hno : noOwn ρ [i]) (hl : ds.length ≤ sizeLine) (hi : ∀ P : KL, P ds ρ W → fi ρ W P Qx)
    (he : ∀ d ∈ ds, ∀ P : KD, P (g d) ((ρ.set i none).set i (some (.sh d))) W → fe ((ρ.set i none).set i (some (.sh d))) W P noX) (hq : Q (ds.map g) ρ W) : dLc fi (gdName i) dYes fe [i] ρ W Q Qx := by
  refine dLc_inv ds W (fun j acc W' => W' = W ∧ acc = (ds.take j).map g) hno hl hi ⟨rfl, by simp⟩ (fun j d acc W' hj _ hI => ?_) (fun acc W' _ hI => ?_)
  · obtain ⟨rfl, rfl⟩ := hI
    refine ⟨rfl, ?_⟩
    show fe _ W' _ noX
    refine he d (List.mem_of_getElem? hj) _ ⟨rfl, rfl, ?_⟩
    have hlt := (List.getElem?_eq_some_iff.mp hj).1
    rw [List.take_add_one, hj]
    simp
  · obtain ⟨rfl, rfl⟩ := hI
    rw [List.take_length]
    exact hq
/-- .. with a test -/
theorem dLc_filter {fi : TID} {ft : TB} {fe : TD} {i : Nat} {ρ : Env} {W : Wd} {Q : KL} {Qx : KX} (ds : List D) (p : D → Bool) (g : D → D) (hno : noOwn ρ [i]) (hl : ds.length ≤ sizeLine) (hi : ∀ P : KL, P ds ρ W → fi ρ W P Qx)
    (ht : ∀ d ∈ ds, ∀ P : KB, P (p d) ((ρ.set i none).set i (some (.sh d))) W → ft ((ρ.set i none).set i (some (.sh d))) W P noX)
    (he : ∀ d ∈ ds, p d = true → ∀ P : KD, P (g d) ((ρ.set i none).set i (some (.sh d))) W → fe ((ρ.set i none).set i (some (.sh d))) W P noX) (hq : Q ((ds.filter p).map g) ρ W) : dLc fi (gdName i) ft fe [i] ρ W Q Qx := by
  refine dLc_inv ds W (fun j acc W' => W' = W ∧ acc = ((ds.take j).filter p).map g) hno hl hi ⟨rfl, by simp⟩ (fun j d acc W' hj _ hI => ?_) (fun acc W' _ hI => ?_)
  · obtain ⟨rfl, rfl⟩ := hI
    have hm := List.mem_of_getElem? hj
    refine ht d hm _ ⟨rfl, ?_⟩
    cases hp : p d with
    | true =>
      rw [if_pos rfl]
      refine he d hm hp _ ⟨rfl, rfl, ?_⟩
      rw [List.take_add_one, hj]
      simp [hp]
    | false =>
      rw [if_neg Bool.false_ne_true]
      refine ⟨rfl, ?_⟩
      rw [List.take_add_one, hj]
      simp [hp]
  · obtain ⟨rfl, rfl⟩ := hI
    rw [List.take_length]
    exact hq
/-- each turn keeps the state's word S and gives an item of which A holds -/
theorem dLc_each {fi : TID} {fe : TD} {i : Nat} {ρ : Env} {W : Wd} {Q : KL} {Qx : KX} (ds : List D) (S : Nat → Wd → Prop) (A : D → Prop) (hno : noOwn ρ [i]) (hl : ds.length ≤ sizeLine) (W0 : Wd) (hi : ∀ P : KL, P ds ρ W0 → fi ρ W P Qx) (h0 : S 0 W0)
    (he : ∀ (j : Nat) d W, ds[j]? = some d → S j W → ∀ P : KD, (∀ y W', A y → S (j + 1) W' → P y ((ρ.set i none).set i (some (.sh d))) W') → fe ((ρ.set i none).set i (some (.sh d))) W P noX)
    (hq : ∀ ys W', ys.length = ds.length → (∀ y ∈ ys, A y) → S ds.length W' → Q ys ρ W') : dLc fi (gdName i) dYes fe [i] ρ W Q Qx := by
  refine dLc_inv ds W0 (fun j acc W' => S j W' ∧ acc.length = j ∧ ∀ y ∈ acc, A y) hno hl hi ⟨h0, rfl, by simp⟩ (fun j d acc W' hj _ hI => ?_) (fun acc W' _ hI => hq acc W' hI.2.1 hI.2.2 hI.1)
  refine ⟨rfl, ?_⟩
  show fe _ W' _ noX
  refine he j d W' hj hI.1 _ fun y W2 ha hs => ⟨rfl, hs, by simp [hI.2.1], fun z hz => ?_⟩
  rcases List.mem_append.mp hz with hz | hz
  · exact hI.2.2 z hz
  · rw [List.mem_singleton.mp hz]; exact ha
theorem iScr_of {fe : TD} {ρ : Env} {W : Wd} {P : KL} {Qx : KX} {ns : List Int} (h : fe ρ W (fun d ρ' W' => match d with | .scr ns => P (ns.map D.int) ρ' W' | _ => False) Qx) : iScr fe ρ W P Qx := h
/-- == of the same data -/
theorem eqD_self {d : D} {n : Nat} (g : D.good n d = true) : eqD d d = true := by
  unfold eqD
  exact SeqAt.eqv_refl _ (lay_of g).1
/-! ### texts as lists of signs -/
def mkS (l : List Nat) : Str := ⟨l.toArray⟩
theorem tl_mkS (l : List Nat) : TL.tl (mkS l) = l := rfl
theorem mkS_tl (s : Str) : mkS (TL.tl s) = s := TL.mk_tl s
theorem len_mkS (l : List Nat) : (mkS l).length = l.length := by simp [mkS, Str.length]
theorem str_eq {s : Str} {l : List Nat} (h : TL.tl s = l) : s = mkS l := by rw [← h, mkS_tl]
theorem mkS_inj {l m : List Nat} : mkS l = mkS m ↔ l = m := ⟨fun h => by have := congrArg TL.tl h; exact this, fun h => by rw [h]⟩
theorem one_mkS (c : Nat) : (⟨#[c]⟩ : Str) = mkS [c] := rfl
theorem app_mkS (a b : List Nat) : mkS a ++ mkS b = mkS (a ++ b) := str_eq (by rw [TL.tl_append]; rfl)
theorem take_drop_min (l : List Nat) (a b : Nat) : (l.drop (min a l.length)).take (min b l.length - min a l.length) = (l.drop a).take (b - a) := by
  by_cases ha : a ≤ l.length
  · rw [Nat.min_eq_left ha]
    by_cases hb : b ≤ l.length
    · rw [Nat.min_eq_left hb]
    · rw [Nat.min_eq_right (by omega)]
      rw [List.take_of_length_le (by rw [List.length_drop]; omega), List.take_of_length_le (by rw [List.length_drop]; omega)]
  · rw [Nat.min_eq_right (by omega : l.length ≤ a), List.drop_length, List.drop_of_length_le (by omega : l.length ≤ a)]
    simp
theorem len_tl' (s : Str) : s.length = (TL.tl s).length := TL.len_tl s
theorem cut_ab (s : Str) (a b : Nat) : cutS s (some (a : Int)) (some (b : Int)) = mkS (((TL.tl s).drop a).take (b - a)) := by
  unfold cutS
  rw [HT.sIx_nat, HT.sIx_nat, len_tl', take_drop_min]
  rfl
theorem cut_a (s : Str) (a : Nat) : cutS s (some (a : Int)) none = mkS ((TL.tl s).drop a) := by
  unfold cutS
  rw [HT.sIx_nat, HT.sIx_none, len_tl']
  have := take_drop_min (TL.tl s) a (TL.tl s).length
  rw [Nat.min_self] at this
  rw [show s.cps.toList = TL.tl s from rfl, this]
  by_cases ha : a ≤ (TL.tl s).length
  · rw [List.take_of_length_le (by rw [List.length_drop]; omega)]; rfl
  · rw [List.drop_of_length_le (by omega)]; simp [mkS]
theorem cut_b (s : Str) (b : Nat) : cutS s none (some (b : Int)) = mkS ((TL.tl s).take b) := by
  unfold cutS
  rw [HT.sIx_nat, HT.sIx_none, len_tl']
  have := take_drop_min (TL.tl s) 0 b
  rw [Nat.zero_min] at this
  rw [show s.cps.toList = TL.tl s from rfl, this]
  simp [mkS]
theorem rep_mkS (s : Str) (n : Nat) : repS s (n : Int) = mkS (List.replicate n (TL.tl s)).flatten := by
  unfold repS
  rw [Int.toNat_natCast]; rfl
theorem ltS_mk (a b : List Nat) : ltS (mkS a) (mkS b) = decide (a < b) := rfl
theorem ltS_one (c d : Nat) : ltS (mkS [c]) (mkS [d]) = decide (c < d) := by
  rw [ltS_mk]
  by_cases h : c < d
  · rw [decide_eq_true h, decide_eq_true]
    exact List.Lex.rel h
  · rw [decide_eq_false h, decide_eq_false]
    intro q
    rw [List.cons_lt_cons_iff] at q
    rcases q with q | ⟨_, q⟩
    · exact h q
    · exact absurd q (List.not_lt_nil _)
theorem signs_mk (s : Str) : signs s = (TL.tl s).map fun c => D.str (mkS [c]) := rfl
theorem atI_of {α : Type} {l : List α} {i : Nat} {x : α} (h : l[i]? = some x) : atI l (i : Int) = some x := atI_nat h
theorem sz (n : Nat) (h : n ≤ 16777216) : n ≤ sizeLine := Nat.le_trans h (by decide)
theorem noOwn1 {ρ : Env} {i : Nat} (h : ∀ o, ρ[i]? ≠ some (some (.om o))) : noOwn ρ [i] := fun j hj ds => by
  rw [List.mem_singleton.mp hj]; exact h ds
theorem all_map_true {α : Type} (l : List α) : ∃ bs, blsOf (l.map fun _ => D.bl true) = some bs ∧ bs.all id = true := by
  induction l with
  | nil => exact ⟨[], rfl, rfl⟩
  | cons a r ih =>
    obtain ⟨bs, h1, h2⟩ := ih
    exact ⟨true :: bs, by simp [blsOf, h1], by simpa using h2⟩
theorem bls_map {α : Type} (l : List α) (p : α → Bool) : blsOf (l.map fun x => D.bl (p x)) = some (l.map p) := by
  induction l with
  | nil => rfl
  | cons a r ih => simp [blsOf, ih]
end G
namespace G
open PySem PySem.Spec L2
theorem dFor_mk {fi : TID} {gd : TGD} {fb : TSD} {De : EndsD} {ρ : Env} {W : Wd} (h : fi ρ W (fun ds ρ0 W0 => ∃ I : Nat → Env → Wd → Prop, I 0 ρ0 W0 ∧
  (∀ (i : Nat) d ρ W, ds[i]? = some d → I i ρ W → gd d ρ W fun ρ' W' => fb { De with nx := I (i + 1), ct := I (i + 1), bk := De.nx } ρ' W') ∧ ∀ ρ W, I ds.length ρ W → De.nx ρ W) De.ex) : dFor fi gd fb De ρ W := by unfold dFor; exact h
theorem dFor_of {fi : TID} {gd : TGD} {fb : TSD} {De : EndsD} {ρ : Env} {W : Wd} (ds : List D) (I : Nat → Env → Wd → Prop) (hi : ∀ P : KL, P ds ρ W → fi ρ W P De.ex) (h0 : I 0 ρ W)
    (hs : ∀ (i : Nat) d ρ W, ds[i]? = some d → I i ρ W → gd d ρ W fun ρ' W' => fb { De with nx := I (i + 1), ct := I (i + 1), bk := De.nx } ρ' W') (hd : ∀ ρ W, I ds.length ρ W → De.nx ρ W) : dFor fi gd fb De ρ W :=
  dFor_mk (hi _ ⟨I, h0, hs, hd⟩)
theorem dWhile_of {fc : TB} {fb : TSD} {De : EndsD} {ρ : Env} {W : Wd} (I : Nat → Env → Wd → Prop) (m : Nat) (h0 : I m ρ W) (hs : ∀ m ρ W, I m ρ W → fc ρ W (fun b ρ' W' => if b = true then
  fb { De with nx := fun ρ2 W2 => ∃ m', m' < m ∧ I m' ρ2 W2, ct := fun ρ2 W2 => ∃ m', m' < m ∧ I m' ρ2 W2, bk := De.nx } ρ' W' else De.nx ρ' W') De.ex) : dWhile fc fb De ρ W := by unfold dWhile; exact ⟨I, ⟨m, h0⟩, hs⟩

theorem dEq_str {a b : Str} {Q : D → Prop} (h : Q (.bl (decide (a = b)))) : dEq (.str a) (.str b) Q := by
  have : decide (V.str a = V.str b) = decide (a = b) := by
    rw [Bool.eq_iff_iff, decide_eq_true_eq, decide_eq_true_eq]
    exact ⟨fun h => by injection h, fun h => by rw [h]⟩
  unfold dEq
  show (if scal _ _ = true then _ else _)
  rw [if_pos (rfl : scal _ _ = true), this]
  exact h
theorem dEq_int {a b : Int} {Q : D → Prop} (h : Q (.bl (decide (a = b)))) : dEq (.int a) (.int b) Q := by
  have : decide (V.int a = V.int b) = decide (a = b) := by
    rw [Bool.eq_iff_iff, decide_eq_true_eq, decide_eq_true_eq]
    exact ⟨fun h => by injection h, fun h => by rw [h]⟩
  unfold dEq
  show (if scal _ _ = true then _ else _)
  rw [if_pos (rfl : scal _ _ = true), this]
  exact h
/-- the same good data -/
theorem dEq_self {d : D} {Q : D → Prop} (g : D.good 64 d = true) (h : Q (.bl true)) : dEq d d Q := by
  have key : dEqN d d Q := ⟨g, g, by rw [eqD_self g]; exact h⟩
  cases d with
  | v x =>
    unfold dEq
    show (if scal x x = true then Q (.bl (decide (x = x))) else dEqN (.v x) (.v x) Q)
    split
    · rw [decide_eq_true rfl]; exact h
    · exact key
  | tup ds => unfold dEq; exact key
  | lst ds => unfold dEq; exact key
  | scr ds => unfold dEq; exact key
  | dct ks ds => unfold dEq; exact key
  | exc c ks ds => unfold dEq; exact key
  | tpf ds => unfold dEq; exact key
theorem dNe_self {d : D} {Q : D → Prop} (g : D.good 64 d = true) (h : Q (.bl false)) : dNe d d Q := by
  have key : dNeN d d Q := ⟨g, g, by rw [eqD_self g]; exact h⟩
  cases d with
  | v x =>
    unfold dNe
    show (if scal x x = true then Q (.bl (!decide (x = x))) else dNeN (.v x) (.v x) Q)
    split
    · rw [decide_eq_true rfl]; exact h
    · exact key
  | tup ds => unfold dNe; exact key
  | lst ds => unfold dNe; exact key
  | scr ds => unfold dNe; exact key
  | dct ks ds => unfold dNe; exact key
  | exc c ks ds => unfold dNe; exact key
  | tpf ds => unfold dNe; exact key
/-- .. the items known by B alone -/
theorem dLc_eachB {fi : TID} {fe : TD} {i : Nat} {ρ : Env} {W : Wd} {Q : KL} {Qx : KX} (B : List D → Wd → Prop) (S : Nat → Wd → Prop) (A : D → Prop) (hno : noOwn ρ [i]) (hi : ∀ P : KL, (∀ ds W0, B ds W0 → P ds ρ W0) → fi ρ W P Qx)
    (h0 : ∀ ds W0, B ds W0 → ds.length ≤ sizeLine ∧ S 0 W0)
    (he : ∀ ds W0, B ds W0 → ∀ (j : Nat) d W, ds[j]? = some d → S j W → ∀ P : KD, (∀ y W', A y → S (j + 1) W' → P y ((ρ.set i none).set i (some (.sh d))) W') → fe ((ρ.set i none).set i (some (.sh d))) W P noX)
    (hq : ∀ ds W0, B ds W0 → ∀ ys W', ys.length = ds.length → (∀ y ∈ ys, A y) → S ds.length W' → Q ys ρ W') : dLc fi (gdName i) dYes fe [i] ρ W Q Qx := by
  unfold dLc
  refine ⟨hno, hi _ fun ds W0 b => ⟨rfl, (h0 ds W0 b).1, fun j acc W' => S j W' ∧ acc.length = j ∧ ∀ y ∈ acc, A y, ⟨(h0 ds W0 b).2, rfl, by simp⟩, fun j d acc W' hj _ hI => ?_, fun acc W' _ hI => hq ds W0 b acc W' hI.2.1 hI.2.2 hI.1⟩⟩
  refine ⟨rfl, ?_⟩
  show fe _ W' _ noX
  refine he ds W0 b j d W' hj hI.1 _ fun y W2 ha hs => ⟨rfl, hs, by simp [hI.2.1], fun z hz => ?_⟩
  rcases List.mem_append.mp hz with hz | hz
  · exact hI.2.2 z hz
  · rw [List.mem_singleton.mp hz]; exact ha
theorem rng_len (lo : Int) (n : Nat) : (rng lo n).length = n := by unfold rng; rw [List.length_map, List.length_range]
/-- no promise at all -/
def spNo : SpD := fun _ _ _ _ => False
theorem cal_no {P : Program} {w : World} {K : PySem.W.Frag} {mg : Str → Option Value} {base : Heap} {k : Nat} {x : Str} {st : Stmt} {ps : List Str} (T : DefAt K mg x st ps) : Cal P w K mg base k x st ps spNo := by
  obtain ⟨f, fd, a, b, c⟩ := T
  have no : ∀ vs H Q E, toSp K ps.length spNo vs H Q E → False := fun vs H Q E h => by
    obtain ⟨_, _, _, _, _, _, _, _, _, h, _⟩ := h
    exact h
  exact ⟨f, fd, a, b, c, ⟨fun h => (no _ _ _ _ h).elim, fun _ _ _ _ h => (no _ _ _ _ h).elim⟩⟩
/-- the law's own def for the end -/
theorem law_fn {P : Program} {w : World} {K : PySem.W.Frag} {mg : Str → Option Value} {k : Nat} {x y : Str} {st : Stmt} {sp : SpD} {fa : Addr} (T : DefAt K mg x st [y])
    (hb : ∀ (kV doc pm : Value) (an : Option Addr) (cdv ct u : Value), bindArgs (PySem.W.fnOf x x (defArgs st) (defBody st) (defScope st) .none kV doc pm an cdv ct) ⟨[u], []⟩ = pure [(y, u)])
    (C : ∀ base : Heap, Cal P w K mg base k x st [y] sp) (hm : mg x = some (.ref fa)) :
    ∃ fd : FuncData, (∀ (s : Shared) (u : Value), BindsTo s fd ⟨[u], []⟩ [(y, u)]) ∧ ∀ base : Heap, FnG P w K mg base k fa fd [y] (toSp K 1 sp) := by
  obtain ⟨f, fd, a, F, c⟩ := T.ex
  have e := hm.symm.trans a
  cases e
  obtain ⟨oc, od, kV, doc, pm, an, cdv, ct, osl, e1, lk, hcd⟩ := F.ex
  refine ⟨fd, fun s u => .of_eq (by rw [e1]; exact hb kV doc pm an cdv ct u), fun base => ?_⟩
  obtain ⟨f2, fd2, a2, F2, c2, d2⟩ := (C base).ex
  have e2 := a.symm.trans a2
  cases e2
  obtain ⟨oc2, od2, kV2, doc2, pm2, an2, cdv2, ct2, osl2, e3, lk2, hcd2⟩ := F2.ex
  have e4 := lk.symm.trans lk2
  injection e4 with e4
  injection e4 with _ _ e4 _
  injection e4 with e4
  rw [e4]
  exact d2
end G

namespace G
open PySem PySem.Spec L2
section
variable {K : PySem.W.Frag} {F S : Reg} {H : Hp} {σ : St} {ρ : Env} {W : Wd}
/-- x += e -/
def dIadd : D → D → (D → Prop) → Prop := d2J fun i j => .int (i + j)
def dIsub : D → D → (D → Prop) → Prop := d2J fun i j => .int (i - j)
theorem rs_ip {g : Int → Int → Int} : RSnd K (ipI g) (d2J fun i j => .int (g i j)) := fun F S H W d e x y P R cb rd re hp k => by
  unfold d2J at hp
  split at hp
  · rw [Rep.v_iff] at rd re
    subst rd
    subst re
    exact ⟨_, _, rfl, rfl, k _ _ H (Same.refl H) (Rep.v_iff.mpr rfl) hp⟩
  · exact hp.elim
/-- the strange list comes back: it was nobody's, now it is a new one -/
theorem Cf.alienBack {S1 S2 : Reg} {H1 H2 : Hp} {p : Addr} {xs : List V} {acc : List D} (c1 : Cf K F S1 H1 σ ρ W) (hp : H1 p = none) {σ2 : St} {ρ2 : Env} {W2 : Wd} (e2 : Stp F S1 H1 S2 H2) (c2 : Cf K (Add F p) S2 H2 σ2 ρ2 W2) (r2 : Reps K S2 H2 acc xs) (hp2 : H2 p = some (.lst xs)) :
    Stp F S1 H1 (Rem S2 p) (del H2 p) ∧ Cf K F (Rem S2 p) (del H2 p) σ2 ρ2 W2 ∧ Reps K (Rem S2 p) (del H2 p) acc xs ∧ (del H2 p) p = none ∧ upd (del H2 p) p (.lst xs) = H2 := by
  have nF : ¬ F p := fun z => c1.cb.sd p (c1.cb.fs p z) hp
  have sp : S2 p := c2.cb.fs p (.inr rfl)
  refine ⟨⟨fun a o h1 h2 => ?_, fun a h1 h2 => e2.new a h1.1 h2, fun a h => ?_, fun a h => ?_⟩, c2.unalien nF, r2.del sp, del_same, upd_del hp2⟩
  · have : a ≠ p := fun z => by rw [z, hp] at h2; cases h2
    rw [del_ne this]; exact e2.keep a o h1 h2
  · by_cases ha : a = p
    · rw [ha]; exact hp
    · rw [del_ne ha] at h; exact e2.dom a h
  · rw [del_ne (fun (z : a = p) => nF (z ▸ h))]; exact e2.frn a h
end
section
variable {X : Cx} {Wx : WX} {st : Stmt} {rest : List Stmt} {f g : TSD} {e o a b c i : Expr} {es : List Expr} {fe fo fa fb fc fi : TD} {fl : TL} {pos : Pos}
theorem op_iadd : PIp X .Add (ipI fun i j => i + j) := ip_add
/-- x, y = [..], e: the list the frame's own -/
def dParO1 (i j : Nat) (fl : TL) (fe : TD) : TSD := fun De ρ W => fl ρ W (fun ds ρ1 W1 => fe ρ1 W1 (fun d ρ2 W2 => De.nx ((ρ2.set i (some (.ol ds))).set j (some (.sh d))) W2) noX) De.ex
theorem gs_parO1 {i j : Nat} {x y : Str} {px py pt : Pos} {kt k2 pt2} (hc : X.calm = true) (hN : X.N.Nodup) (hi : X.N[i]? = some x) (hj : X.N[j]? = some y) (hij : i ≠ j)
    (hx : X.env.scope.names.lookup x = some .local) (hy : X.env.scope.names.lookup y = some .local) (ha : GN X Wx a fl) (hb : GE X Wx b fe)
    (hw : swappedStores [.Tuple [.Name x px, .Name y py] kt pt] (.Tuple [a, b] k2 pt2) X.env = pure (some [x, y])) (he : starEach [a, b] X.env = (false, eval a X.env) :: starEach [b] X.env := by rfl) (he2 : starEach [b] X.env = (false, eval b X.env) :: starEach [] X.env := by rfl)
    (hs : swapsWithSole [.Tuple [.Name x px, .Name y py] kt pt] (.Tuple [a, b] k2 pt2) pos.line X.env = pure false := by rfl) :
    GS X Wx (.Assign [.Tuple [.Name x px, .Name y py] kt pt] (.Tuple [a, b] k2 pt2) pos) (dParO1 i j fl fe) := by
  obtain ⟨ta, pa, sa⟩ := ha
  obtain ⟨tb, pb, sb⟩ := hb
  refine ⟨_, ps_par hc hN hi hj hij hx hy (pa_cons pa (pa_cons pb pa_nil he2) he) hw hs, fun F S H σ ρ W De Dh cf hf l => ?_⟩
  refine sa F S H σ ρ W _ De.ex _ cf hf l.ex fun S1 H1 ρ1 W1 ds xs p e1 c1 r1 hp q1 => ?_
  obtain ⟨ea, ca⟩ := c1.alien (o := .lst xs) hp
  refine sb (Add F p) (Add S1 p) (upd H1 p (.lst xs)) σ ρ1 W1 _ noX _ ca q1 lkx_none fun S2 H2 ρ2 W2 d v e2 c2 r2 q2 => ?_
  refine ⟨_, _, rfl, ?_⟩
  have hp2 : H2 p = some (.lst xs) := (e2.frn p (.inr rfl)).trans upd_same
  have e2' := e2.mono (F' := F) fun _ h => .inl h
  have rr := (r1.up ea).up e2'
  obtain ⟨b1, b2, b3, b4, b5⟩ := c1.alienBack hp (ea.trans e2') c2 rr hp2
  have sp : S2 p := c2.cb.fs p (.inr rfl)
  have r2' := r2.del sp
  obtain ⟨st, c4⟩ := b2.newOl i b4 b3
  rw [b5] at st c4
  exact l.nx _ _ _ _ W2 ((e1.trans b1).trans st) (c4.setSh j (r2'.up st)) q2
/-- x, y = e, [..]: the list the frame's own -/
def dParO2 (i j : Nat) (fe : TD) (fl : TL) : TSD := fun De ρ W => fe ρ W (fun d ρ1 W1 => fl ρ1 W1 (fun ds ρ2 W2 => De.nx ((ρ2.set i (some (.sh d))).set j (some (.ol ds))) W2) De.ex) De.ex
theorem gs_parO2 {i j : Nat} {x y : Str} {px py pt : Pos} {kt k2 pt2} (hc : X.calm = true) (hN : X.N.Nodup) (hi : X.N[i]? = some x) (hj : X.N[j]? = some y) (hij : i ≠ j)
    (hx : X.env.scope.names.lookup x = some .local) (hy : X.env.scope.names.lookup y = some .local) (ha : GE X Wx a fe) (hb : GN X Wx b fl)
    (hw : swappedStores [.Tuple [.Name x px, .Name y py] kt pt] (.Tuple [a, b] k2 pt2) X.env = pure (some [x, y])) (he : starEach [a, b] X.env = (false, eval a X.env) :: starEach [b] X.env := by rfl) (he2 : starEach [b] X.env = (false, eval b X.env) :: starEach [] X.env := by rfl)
    (hs : swapsWithSole [.Tuple [.Name x px, .Name y py] kt pt] (.Tuple [a, b] k2 pt2) pos.line X.env = pure false := by rfl) :
    GS X Wx (.Assign [.Tuple [.Name x px, .Name y py] kt pt] (.Tuple [a, b] k2 pt2) pos) (dParO2 i j fe fl) := by
  obtain ⟨ta, pa, sa⟩ := ha
  obtain ⟨tb, pb, sb⟩ := hb
  refine ⟨_, ps_par hc hN hi hj hij hx hy (pa_cons pa (pa_cons pb pa_nil he2) he) hw hs, fun F S H σ ρ W De Dh cf hf l => ?_⟩
  refine sa F S H σ ρ W _ De.ex _ cf hf l.ex fun S1 H1 ρ1 W1 d v e1 c1 r1 q1 => ?_
  refine sb F S1 H1 σ ρ1 W1 _ De.ex _ c1 q1 (l.ex.up e1) fun S2 H2 ρ2 W2 ds xs p e2 c2 r2 hp q2 => ?_
  refine ⟨_, _, rfl, ?_⟩
  obtain ⟨st, c4⟩ := (c2.setSh i (r1.up e2)).newOl j hp r2
  exact l.nx _ _ _ _ W2 ((e1.trans e2).trans st) c4 q2
/-- a new list that others may hold and change -/
def dNewW (fl : TL) : TD := fun ρ W Q Qx => fl ρ W (fun ds ρ' W' => ∀ p, W' p = none → Q (.ref p) ρ' (updW W' p (.lst ds))) Qx
theorem ge_newW (he : GN X Wx e fl) : GE X Wx e (dNewW fl) := by
  obtain ⟨te, pe, se⟩ := he
  refine ⟨_, pe, fun F S H σ ρ W Q Qx R cf hf hx hE => ?_⟩
  refine se F S H σ ρ W _ Qx _ cf hf hx fun S' H' ρ' W' ds xs p e' c r hp q => ?_
  obtain ⟨hw, st, c2⟩ := c.newW hp r
  exact hE _ _ ρ' _ _ _ (e'.trans st) c2 (Rep.v_iff.mpr rfl) (q p hw)
/-- list(x), a new one -/
def itemsOf : D → Option (List D)
  | .lst ds => some ds
  | .tup ds => some ds
  | .scr ns => some (ns.map D.int)
  | _ => none
def dListN (fe : TD) : TL := fun ρ W Q Qx => fe ρ W (fun d ρ' W' => ∃ ds, itemsOf d = some ds ∧ Q ds ρ' W') Qx
theorem gn_list {x : Str} {p : Pos} (hg : Gl X x) (hm : X.mg x = none) (hv : bootBuiltins x = some (.type "list")) (ha : GE X Wx e fe) (hn : x ≠ "__name__" := by decide) (hdb : (x == ("__debug__" : Str)) = false := by decide)
    (he : starEach [e] X.env = (false, eval e X.env) :: starEach [] X.env := by rfl) (hpl : (backTo pos (starEach [] X.env)).any (·.1) = false := by rfl) : GN X Wx (.Call (.Name x p) [e] [] pos) (dListN fe) := by
  obtain ⟨te, pe, se⟩ := ha
  refine ⟨_, pe_callTy call_list_of hg hm hv (pa_cons pe pa_nil he) hn hdb he hpl, fun F S H σ ρ W Q Qx R cf hf hx hE => ?_⟩
  refine se F S H σ ρ W _ Qx _ cf hf hx fun S' H' ρ' W' d v e' c r q => ?_
  obtain ⟨ds, e1, q⟩ := q
  have key : ∃ p ys, v = .ref p ∧ (SqL X.K H' p ys ∨ SqT X.K H' p ys) ∧ Reps X.K S' H' ds ys := by
    cases d with
    | v x => cases e1
    | tup xs =>
      cases e1
      obtain ⟨a, ys, rfl, h1, h2⟩ := Rep.tup_iff.mp r
      exact ⟨a, ys, rfl, .inr h1.sq, h2⟩
    | lst xs =>
      cases e1
      obtain ⟨a, ys, rfl, h1, h2⟩ := Rep.lst_iff.mp r
      exact ⟨a, ys, rfl, .inl h1.sq, h2⟩
    | dct ks ds => cases e1
    | exc c ks ds => cases e1
    | tpf ds => cases e1
    | scr ns =>
      cases e1
      obtain ⟨a, rfl, h1⟩ := Rep.scr_iff.mp r
      refine ⟨a, _, rfl, .inl h1.sq, ?_⟩
      have := Reps.map_v (K := X.K) (S := S') (H := H') (ns.map V.int)
      rw [List.map_map] at this
      exact this
  obtain ⟨p, ys, rfl, h1, h2⟩ := key
  exact ⟨p, ys, rfl, h1, fun l hl => hE S' H' ρ' W' ds ys l e' c h2 hl q⟩
/-- p.pop(i) for its value -/
def dPopE (fo fi : TD) : TD := fun ρ W Q Qx => fo ρ W (fun x ρ1 W1 => (∃ p ds, x = .ref p ∧ W1 p = some (.lst ds)) ∧ fi ρ1 W1 (fun y ρ2 W2 => match x, y with
  | .v (.ref p), .v (.int k) => ∃ ds j z, W2 p = some (.lst ds) ∧ -(2 ^ 63) ≤ k ∧ k < 2 ^ 63 ∧ seqIndex? k ds.length = some j ∧ ds[j]? = some z ∧ Q z ρ2 (updW W2 p (.lst (ds.eraseIdx j)))
  | _, _ => False) Qx) Qx
theorem ge_popE {apos cpos : Pos} (ho : GE X Wx o fo) (hi : GE X Wx i fi) (hbase : attributeBase o "pop" X.env (eval o X.env) = eval o X.env := by rfl)
    (hfew : ((backTo cpos (starEach (i :: []) X.env)).all (fun x => !x.1) && (backToKw cpos (keywordEach [] X.env)).all (fun x => x.1.isSome) && decide ((i :: ([] : List Expr)).length + ([] : List Keyword).length + (if ([] : List Keyword).isEmpty then 0 else 1) < 30)) = true := by rfl)
    (hline : (apos.endLine == cpos.line) = true := by rfl) (hse : starEach (i :: []) X.env = (false, eval i X.env) :: starEach [] X.env := by rfl) (hplain : (backTo cpos (starEach [] X.env)).any (·.1) = false := by rfl) :
    GE X Wx (.Call (.Attribute o "pop" apos) [i] [] cpos) (dPopE fo fi) := by
  obtain ⟨to, po, so⟩ := ho
  obtain ⟨ti, pi, si⟩ := hi
  refine ⟨_, pe_bm PySem.F.plainAttrs_list PySem.F.slot_list_pop PySem.F.type_list_pop mt_popAt po (pa_cons pi pa_nil hse) hbase hfew hline hse hplain, fun F S H σ ρ W Q Qx R cf hf hx hE => ?_⟩
  refine so F S H σ ρ W _ Qx _ cf hf hx fun S1 H1 ρ1 W1 d v e1 c1 r1 q1 => ?_
  obtain ⟨⟨p0, ds0, rfl, hw0⟩, q1⟩ := q1
  obtain ⟨_, _, xs0, h0, _⟩ := c1.cb.w p0 _ hw0
  have ev := Rep.v_iff.mp r1
  subst ev
  refine ⟨.inl ⟨rfl, xs0, SqL.of h0⟩, ?_⟩
  refine si F S1 H1 σ ρ1 W1 _ Qx _ c1 q1 (hx.up e1) fun S2 H2 ρ2 W2 d2 v2 e2 c2 r2 q2 => ?_
  split at q2
  · rename_i p k he
    cases he
    obtain ⟨ds, j, z, hw, hk1, hk2, hj, hz, q⟩ := q2
    obtain ⟨_, _, xs, h1, h2⟩ := c2.cb.w p0 _ hw
    obtain ⟨v, hv, rv⟩ := h2.get hz
    refine ⟨p0, xs, k, j, v, rfl, by rw [Rep.v_iff.mp r2], h1, hk1, hk2, by rw [h2.length]; exact hj, hv, ?_⟩
    obtain ⟨st, c4⟩ := c2.chW (o := .lst (ds.eraseIdx j)) (u := .lst (xs.eraseIdx j)) hw fun S' H' e' hp => ⟨_, hp, (Reps.erase j h2).up e'⟩
    exact hE _ _ _ _ _ _ ((e1.trans e2).trans st) c4 (rv.up st) q
  · exact q2.elim
end
/-- one statement, then the rest from what I says -/
theorem seq_gen {f g : TSD} {De : EndsD} {ρ : Env} {W : Wd} (I : Env → Wd → Prop) (hg : ∀ ρ W, I ρ W → g De ρ W) (hf : ∀ N : KS, (∀ ρ W, I ρ W → N ρ W) → f { De with nx := N } ρ W) : dSeq f g De ρ W := hf (g De) hg
theorem ite_t {A B : Prop} (h : A) : if true = true then A else B := by rw [if_pos rfl]; exact h
theorem ite_f {A B : Prop} (h : B) : if false = true then A else B := by rw [if_neg Bool.false_ne_true]; exact h
theorem ite_b {b : Bool} {A B : Prop} (h1 : b = true → A) (h2 : b = false → B) : if b = true then A else B := by
  cases b with
  | true => exact ite_t (h1 rfl)
  | false => exact ite_f (h2 rfl)
theorem ite_d {p : Prop} [Decidable p] {A B : Prop} (h1 : p → A) (h2 : ¬ p → B) : if decide p = true then A else B := by
  by_cases h : p
  · rw [decide_eq_true h]; exact ite_t (h1 h)
  · rw [decide_eq_false h]; exact ite_f (h2 h)
theorem ite_n {p : Prop} [Decidable p] {A B : Prop} (h1 : ¬ p → A) (h2 : p → B) : if (!decide p) = true then A else B := by
  by_cases h : p
  · rw [decide_eq_true h]; exact ite_f (h2 h)
  · rw [decide_eq_false h]; exact ite_t (h1 h)
end G

namespace G
open PySem PySem.Spec L2 PyProof.Rows
section
variable {prog : Program} {w : World} {A : Around} {E : Value → Shared → Prop} {s : Shared} {l : Addr} {xs : Array (Int × Tok)}
/-- a tuple of ints walked by min, max -/
theorem iter_intTup {Q : Value → Shared → Prop} (hl : s.heap.IsTuple l (intItems xs))
    (h : ∀ s₂ : Shared, s₂ = { s with heap := s.heap.push { cls := .type "tuple_iterator", data := .fields #[.ref l, .int 0 0] } } →
      (s₂.heap.IsTupleIter s.heap.objs.size l 0 ∧ s₂.heap.IsTuple l (intItems xs)) → (∀ b ∈ [s.heap.objs.size, l], b < s₂.heap.objs.size) → l ≠ s.heap.objs.size → Q (.ref s.heap.objs.size) s₂) :
    wpAny (model prog w) A (pyIter (.ref l)) Q E s := by
  have hlt : l < s.heap.objs.size := by obtain ⟨_, e, _⟩ := hl; exact Heap.lt_size e
  refine wpAny_pyIter_tuple hl (h _ rfl ⟨⟨_, Heap.get?_push_size _ rfl, rfl, rfl⟩, hl.push _⟩ (fun b hb => ?_) (Nat.ne_of_lt hlt))
  show b < (s.heap.push _).objs.size
  rw [Heap.size_push]
  simp only [List.mem_cons, List.not_mem_nil, or_false] at hb
  rcases hb with rfl | rfl
  · exact Nat.lt_succ_self _
  · exact Nat.lt_succ_of_lt hlt
theorem old_keptT {h' : Heap} (hk : ∀ b o, b ∉ [s.heap.objs.size] → (s.heap.push { cls := .type "tuple_iterator", data := .fields #[.ref l, .int 0 0] }).get? b = some o → h'.get? b = some o) :
    ∀ b o, s.heap.get? b = some o → h'.get? b = some o := fun b o e => by
  refine hk b o (fun hm => ?_) (Heap.get?_push_of_some _ e)
  rw [List.mem_singleton.mp hm] at e
  exact absurd (Heap.lt_size e) (Nat.lt_irrefl _)
theorem max_intTup {Q : Value → Shared → Prop} (hh : A.handled = none) (hl : s.heap.IsTuple l (intItems xs)) (hne : 0 < xs.size)
    (h : ∀ v h' tk, (intItems xs)[argBest (fun i j => decide (numAt xs i > numAt xs j)) (xs.size - 1)]? = some v → (∀ b o, s.heap.get? b = some o → h'.get? b = some o) → Q v { s with heap := h', toks := tk }) :
    wpAny (model prog w) A (call (.builtin "max") [.ref l]) Q E s := by
  refine call_max_walk (iter_intTup hl fun s₂ e st hfp hlI => ?_)
  subst e
  refine ⟨_, _, _, _, _, _, _, rfl, Walks.tuple (A := A.in1) hh _ l hlI (intItems xs), st, hfp, by simpa [intItems] using hne, CmpOf.ints_gt (numAt xs) (fun _ _ => intItems_at), fun v h' tk hP hk => ?_⟩
  exact h v h' tk (by simpa [intItems] using hP) (old_keptT hk)
theorem min_intTup {Q : Value → Shared → Prop} (hh : A.handled = none) (hl : s.heap.IsTuple l (intItems xs)) (hne : 0 < xs.size)
    (h : ∀ v h' tk, (intItems xs)[argBest (fun i j => decide (numAt xs i < numAt xs j)) (xs.size - 1)]? = some v → (∀ b o, s.heap.get? b = some o → h'.get? b = some o) → Q v { s with heap := h', toks := tk }) :
    wpAny (model prog w) A (call (.builtin "min") [.ref l]) Q E s := by
  refine call_min_walk (iter_intTup hl fun s₂ e st hfp hlI => ?_)
  subst e
  refine ⟨_, _, _, _, _, _, _, rfl, Walks.tuple (A := A.in1) hh _ l hlI (intItems xs), st, hfp, by simpa [intItems] using hne, CmpOf.ints_lt (numAt xs) (fun _ _ => intItems_at), fun v h' tk hP hk => ?_⟩
  exact h v h' tk (by simpa [intItems] using hP) (old_keptT hk)
variable {its : List Value} {ns : List Int}
theorem max_rawT {Q : Value → Shared → Prop} (hh : A.handled = none) (hl : s.heap.IsTuple l its.toArray) (hi : IntsAre its ns) (hne : 0 < ns.length)
    (h : ∀ h' tk M t', (∀ b o, s.heap.get? b = some o → h'.get? b = some o) → M ∈ ns → (∀ a, a ∈ ns → a ≤ M) → Q (.int M t') { s with heap := h', toks := tk }) : wpAny (model prog w) A (call (.builtin "max") [.ref l]) Q E s := by
  obtain ⟨xs, e⟩ := hi.allInts.items
  have hn : numsOf (intItems xs).toList = ns := by rw [← e]; exact hi.numsOf
  rw [nums_intItems] at hn
  subst hn
  rw [e] at hl
  have hsz : 0 < xs.size := by simpa using hne
  refine max_intTup hh hl hsz fun v h' tk hv hk => ?_
  obtain ⟨t, rfl⟩ := intItems_at hv
  obtain ⟨h1, h2⟩ := argBest_gt (numAt xs) (xs.size - 1)
  refine h h' tk _ t hk ?_ fun a ha => ?_
  · rw [numAt_eq]; exact PySem.getD_mem (by rw [List.length_map, Array.length_toList]; omega)
  · obtain ⟨j, hj, rfl⟩ := mem_getD ha
    rw [List.length_map, Array.length_toList] at hj
    rw [← numAt_eq]; exact h2 j (by omega)
theorem min_rawT {Q : Value → Shared → Prop} (hh : A.handled = none) (hl : s.heap.IsTuple l its.toArray) (hi : IntsAre its ns) (hne : 0 < ns.length)
    (h : ∀ h' tk M t', (∀ b o, s.heap.get? b = some o → h'.get? b = some o) → M ∈ ns → (∀ a, a ∈ ns → M ≤ a) → Q (.int M t') { s with heap := h', toks := tk }) : wpAny (model prog w) A (call (.builtin "min") [.ref l]) Q E s := by
  obtain ⟨xs, e⟩ := hi.allInts.items
  have hn : numsOf (intItems xs).toList = ns := by rw [← e]; exact hi.numsOf
  rw [nums_intItems] at hn
  subst hn
  rw [e] at hl
  have hsz : 0 < xs.size := by simpa using hne
  refine min_intTup hh hl hsz fun v h' tk hv hk => ?_
  obtain ⟨t, rfl⟩ := intItems_at hv
  obtain ⟨h1, h2⟩ := argBest_lt (numAt xs) (xs.size - 1)
  refine h h' tk _ t hk ?_ fun a ha => ?_
  · rw [numAt_eq]; exact PySem.getD_mem (by rw [List.length_map, Array.length_toList]; omega)
  · obtain ⟨j, hj, rfl⟩ := mem_getD ha
    rw [List.length_map, Array.length_toList] at hj
    rw [← numAt_eq]; exact h2 j (by omega)
end
section
variable {X : Cx}
def rMaxT (K : PySem.W.Frag) : List V → Hp → VK → Prop := fun vs H Q => ∃ (a : Addr) (ns : List Int), vs = [V.ref a] ∧ SqT K H a (ns.map V.int) ∧ 0 < ns.length ∧ ∀ m, m ∈ ns → (∀ y, y ∈ ns → y ≤ m) → Q (.int m) H
def rMinT (K : PySem.W.Frag) : List V → Hp → VK → Prop := fun vs H Q => ∃ (a : Addr) (ns : List Int), vs = [V.ref a] ∧ SqT K H a (ns.map V.int) ∧ 0 < ns.length ∧ ∀ m, m ∈ ns → (∀ y, y ∈ ns → m ≤ y) → Q (.int m) H
theorem cr_maxT (hc : X.calm = true) : CallR X (.builtin "max") (rMaxT X.K) := by
  intro pins s σ H vs us Q I r h
  obtain ⟨a, ns, rfl, hs, hne, q⟩ := h
  obtain ⟨its, rv, hl, _⟩ := I.tuple hs
  rw [Vals.ref1 r]
  exact max_rawT (I.ok.hd hc) hl rv.ints hne fun h' tk m t' hk h1 h2 => ⟨.int _, H, I.kept hk, ⟨_, rfl⟩, q m h1 h2⟩
theorem cr_minT (hc : X.calm = true) : CallR X (.builtin "min") (rMinT X.K) := by
  intro pins s σ H vs us Q I r h
  obtain ⟨a, ns, rfl, hs, hne, q⟩ := h
  obtain ⟨its, rv, hl, _⟩ := I.tuple hs
  rw [Vals.ref1 r]
  exact min_rawT (I.ok.hd hc) hl rv.ints hne fun h' tk m t' hk h1 h2 => ⟨.int _, H, I.kept hk, ⟨_, rfl⟩, q m h1 h2⟩
theorem cr_maxA (hc : X.calm = true) : CallR X (.builtin "max") (fun xs H Q => rMax X.K xs H Q ∨ rMaxT X.K xs H Q) := CallR.or (cr_max hc) (cr_maxT hc)
theorem cr_minA (hc : X.calm = true) : CallR X (.builtin "min") (fun xs H Q => rMin X.K xs H Q ∨ rMinT X.K xs H Q) := CallR.or (cr_min hc) (cr_minT hc)
def dMin1A : List D → (D → Prop) → Prop := fun ds Q => match ds with
  | [.lst xs] => ∃ ns, intsOf xs = some ns ∧ 0 < ns.length ∧ ∀ m, m ∈ ns → (∀ y, y ∈ ns → m ≤ y) → Q (.int m)
  | [.tup xs] => ∃ ns, intsOf xs = some ns ∧ 0 < ns.length ∧ ∀ m, m ∈ ns → (∀ y, y ∈ ns → m ≤ y) → Q (.int m)
  | _ => False
def dMax1A : List D → (D → Prop) → Prop := fun ds Q => match ds with
  | [.lst xs] => ∃ ns, intsOf xs = some ns ∧ 0 < ns.length ∧ ∀ m, m ∈ ns → (∀ y, y ∈ ns → y ≤ m) → Q (.int m)
  | [.tup xs] => ∃ ns, intsOf xs = some ns ∧ 0 < ns.length ∧ ∀ m, m ∈ ns → (∀ y, y ∈ ns → y ≤ m) → Q (.int m)
  | _ => False
variable {K : PySem.W.Frag}
theorem cs_min1A : CSnd K (fun xs H Q => rMin K xs H Q ∨ rMinT K xs H Q) dMin1A := fun F S H W ds xs P R cb rd hp k => by
  unfold dMin1A at hp
  split at hp
  · obtain ⟨x, rfl, h⟩ := reps1 rd
    obtain ⟨a, ys, rfl, h1, h2⟩ := Rep.lst_iff.mp h
    obtain ⟨bs, hb, hl, hp⟩ := hp
    rw [reps_ints hb h2] at h1
    exact .inl ⟨a, bs, rfl, h1.sq, hl, fun m m1 m2 => k _ _ H (Same.refl H) (Rep.v_iff.mpr rfl) (hp m m1 m2)⟩
  · obtain ⟨x, rfl, h⟩ := reps1 rd
    obtain ⟨a, ys, rfl, h1, h2⟩ := Rep.tup_iff.mp h
    obtain ⟨bs, hb, hl, hp⟩ := hp
    rw [reps_ints hb h2] at h1
    exact .inr ⟨a, bs, rfl, h1.sq, hl, fun m m1 m2 => k _ _ H (Same.refl H) (Rep.v_iff.mpr rfl) (hp m m1 m2)⟩
  · exact hp.elim
theorem cs_max1A : CSnd K (fun xs H Q => rMax K xs H Q ∨ rMaxT K xs H Q) dMax1A := fun F S H W ds xs P R cb rd hp k => by
  unfold dMax1A at hp
  split at hp
  · obtain ⟨x, rfl, h⟩ := reps1 rd
    obtain ⟨a, ys, rfl, h1, h2⟩ := Rep.lst_iff.mp h
    obtain ⟨bs, hb, hl, hp⟩ := hp
    rw [reps_ints hb h2] at h1
    exact .inl ⟨a, bs, rfl, h1.sq, hl, fun m m1 m2 => k _ _ H (Same.refl H) (Rep.v_iff.mpr rfl) (hp m m1 m2)⟩
  · obtain ⟨x, rfl, h⟩ := reps1 rd
    obtain ⟨a, ys, rfl, h1, h2⟩ := Rep.tup_iff.mp h
    obtain ⟨bs, hb, hl, hp⟩ := hp
    rw [reps_ints hb h2] at h1
    exact .inr ⟨a, bs, rfl, h1.sq, hl, fun m m1 m2 => k _ _ H (Same.refl H) (Rep.v_iff.mpr rfl) (hp m m1 m2)⟩
  · exact hp.elim
end
end G

namespace G
open PySem PySem.Spec L2
/-! ### dicts: keys are numbers or texts -/
def keyOf : D → Option Key
  | .v (.int i) => some (.inl i)
  | .v (.str s) => some (.inr s)
  | _ => none
def keyD : Key → D
  | .inl i => .int i
  | .inr s => .str s
def valD (kvs : List (Key × D)) (k : Key) : Option D := (kvs.find? fun kv => decide (kv.1 = k)).map (·.2)
def putD (kvs : List (Key × D)) (k : Key) (v : D) : List (Key × D) :=
  if (kvs.any fun kv => decide (kv.1 = k)) = true then kvs.map (fun kv => if kv.1 = k then (kv.1, v) else kv) else kvs ++ [(k, v)]
def dropD (kvs : List (Key × D)) (k : Key) : List (Key × D) := kvs.filter fun kv => decide (kv.1 ≠ k)
section
variable {K : PySem.W.Frag} {F S S' : Reg} {H H' : Hp}
def KR (K : PySem.W.Frag) (S : Reg) (H : Hp) (kvs : List (Key × D)) (vs : List (Key × V)) : Prop := vs.map (·.1) = kvs.map (·.1) ∧ Reps K S H (kvs.map (·.2)) (vs.map (·.2))
theorem KR.nil : KR K S H [] [] := ⟨rfl, Reps.nil⟩
theorem KR.cons_iff {k : Key} {d : D} {kvs : List (Key × D)} {vs : List (Key × V)} : KR K S H ((k, d) :: kvs) vs ↔ ∃ v r, vs = (k, v) :: r ∧ Rep K S H d v ∧ KR K S H kvs r := by
  constructor
  · rintro ⟨h1, h2⟩
    cases vs with
    | nil => cases h1
    | cons p r =>
      simp only [List.map_cons, List.cons.injEq] at h1
      obtain ⟨x, y, e, h3, h4⟩ := Reps.cons_iff.mp h2
      simp only [List.map_cons, List.cons.injEq] at e
      obtain ⟨k', v⟩ := p
      obtain ⟨rfl, rfl⟩ := e
      obtain ⟨rfl, h1⟩ := h1
      exact ⟨_, _, rfl, h3, h1, h4⟩
  · rintro ⟨v, r, rfl, h1, h2, h3⟩
    exact ⟨by rw [List.map_cons, List.map_cons, h2], Reps.cons h1 h3⟩
theorem KR.up (e : Stp F S H S' H') {kvs : List (Key × D)} {vs : List (Key × V)} (h : KR K S H kvs vs) : KR K S' H' kvs vs := ⟨h.1, h.2.up e⟩
theorem KR.len {kvs : List (Key × D)} {vs : List (Key × V)} (h : KR K S H kvs vs) : vs.length = kvs.length := by
  have := congrArg List.length h.1
  rwa [List.length_map, List.length_map] at this
theorem valD_cons {k k' : Key} {d : D} {r : List (Key × D)} : valD ((k', d) :: r) k = if k' = k then some d else valD r k := by
  unfold valD
  rw [List.find?_cons]
  by_cases h : k' = k
  · rw [if_pos h]; simp [h]
  · rw [if_neg h]; simp [h]
theorem valV_cons {k k' : Key} {d : V} {r : List (Key × V)} : valV ((k', d) :: r) k = if k' = k then some d else valV r k := by
  by_cases h : k' = k
  · rw [if_pos h]; exact valV_pos h
  · rw [if_neg h]; exact valV_neg h
theorem KR.val (k : Key) : ∀ {kvs : List (Key × D)} {vs : List (Key × V)}, KR K S H kvs vs → (∀ z, valD kvs k = some z → ∃ v, valV vs k = some v ∧ Rep K S H z v) ∧ (valD kvs k = none → valV vs k = none)
  | [], vs, h => by
    have : vs = [] := by
      have := h.len
      simpa using this
    subst this
    refine ⟨fun z e => ?_, fun _ => rfl⟩
    have e : none = some z := e
    cases e
  | (k', d) :: kvs, vs, h => by
    obtain ⟨v, r, rfl, h1, h2⟩ := KR.cons_iff.mp h
    obtain ⟨i1, i2⟩ := KR.val k h2
    rw [valD_cons, valV_cons]
    by_cases e : k' = k
    · rw [if_pos e, if_pos e]
      exact ⟨fun z q => by cases q; exact ⟨v, rfl, h1⟩, fun q => by cases q⟩
    · rw [if_neg e, if_neg e]
      exact ⟨i1, i2⟩
theorem KR.any (k : Key) : ∀ {kvs : List (Key × D)} {vs : List (Key × V)}, KR K S H kvs vs → (vs.any fun kv => decide (kv.1 = k)) = (kvs.any fun kv => decide (kv.1 = k))
  | [], vs, h => by
    have : vs = [] := by
      have := h.len
      simpa using this
    subst this
    rfl
  | (k', d) :: kvs, vs, h => by
    obtain ⟨v, r, rfl, h1, h2⟩ := KR.cons_iff.mp h
    rw [List.any_cons, List.any_cons, KR.any k h2]
theorem KR.append : ∀ {kvs kvs' : List (Key × D)} {vs vs' : List (Key × V)}, KR K S H kvs vs → KR K S H kvs' vs' → KR K S H (kvs ++ kvs') (vs ++ vs') := fun h h' =>
  ⟨by rw [List.map_append, List.map_append, h.1, h'.1], by rw [List.map_append, List.map_append]; exact h.2.append h'.2⟩
theorem KR.mapPut (k : Key) {d : D} {v : V} (hv : Rep K S H d v) : ∀ {kvs : List (Key × D)} {vs : List (Key × V)}, KR K S H kvs vs → KR K S H (kvs.map fun kv => if kv.1 = k then (kv.1, d) else kv) (vs.map fun kv => if kv.1 = k then (kv.1, v) else kv)
  | [], vs, h => by
    have : vs = [] := by
      have := h.len
      simpa using this
    subst this
    exact KR.nil
  | (k', d') :: kvs, vs, h => by
    obtain ⟨v', r, rfl, h1, h2⟩ := KR.cons_iff.mp h
    rw [List.map_cons, List.map_cons]
    by_cases e : k' = k
    · rw [if_pos e, if_pos e]
      exact KR.cons_iff.mpr ⟨v, _, rfl, hv, KR.mapPut k hv h2⟩
    · rw [if_neg e, if_neg e]
      exact KR.cons_iff.mpr ⟨v', _, rfl, h1, KR.mapPut k hv h2⟩
theorem KR.put (k : Key) {d : D} {v : V} (hv : Rep K S H d v) {kvs : List (Key × D)} {vs : List (Key × V)} (h : KR K S H kvs vs) : KR K S H (putD kvs k d) (putK vs k v) := by
  unfold putD putK
  rw [h.any k]
  split
  · exact h.mapPut k hv
  · exact h.append (KR.cons_iff.mpr ⟨v, [], rfl, hv, KR.nil⟩)
theorem KR.drop (k : Key) : ∀ {kvs : List (Key × D)} {vs : List (Key × V)}, KR K S H kvs vs → KR K S H (dropD kvs k) (dropK vs k)
  | [], vs, h => by
    have : vs = [] := by
      have := h.len
      simpa using this
    subst this
    exact KR.nil
  | (k', d') :: kvs, vs, h => by
    obtain ⟨v', r, rfl, h1, h2⟩ := KR.cons_iff.mp h
    unfold dropD dropK
    rw [List.filter_cons, List.filter_cons]
    by_cases e : k' = k
    · rw [if_neg (by simp [e]), if_neg (by simp [e])]
      exact KR.drop k h2
    · rw [if_pos (by simp [e]), if_pos (by simp [e])]
      exact KR.cons_iff.mpr ⟨v', _, rfl, h1, KR.drop k h2⟩
theorem key_rep {d : D} {k : Key} {v : V} (e : keyOf d = some k) (h : Rep K S H d v) : v = kV k := by
  cases d with
  | v x =>
    rw [Rep.v_iff.mp h]
    cases x <;> simp only [keyOf, Option.some.injEq] at e <;> first | (subst e; rfl) | cases e
  | _ => cases e
theorem MRep.dK_iff {p : Addr} {kvs : List (Key × D)} : MRep K S H p (.dK kvs) ↔ ∃ vs, H p = some (.dK vs) ∧ KR K S H kvs vs := Iff.rfl
theorem zip_fst_snd {α β : Type} : ∀ l : List (α × β), (l.map (·.1)).zip (l.map (·.2)) = l
  | [] => rfl
  | (a, b) :: r => by rw [List.map_cons, List.map_cons, List.zip_cons_cons, zip_fst_snd r]
/-- a dict that nobody changes any more -/
abbrev D.dk (kvs : List (Key × D)) : D := .dct (kvs.map (·.1)) (kvs.map (·.2))
theorem Rep.dk_of {p : Addr} {kvs : List (Key × D)} {vs : List (Key × V)} (h : H p = some (.dK vs)) (hs : ¬ S p) (r : KR K S H kvs vs) : Rep K S H (.dk kvs) (.ref p) :=
  Rep.dct_iff.mpr ⟨p, vs.map (·.2), rfl, ⟨by rw [← r.1, zip_fst_snd]; exact h, hs⟩, by rw [List.length_map, List.length_map], r.2⟩
theorem zip_kr {a : Addr} : ∀ {ks : List Key} {ds : List D} {xs : List V}, ks.length = ds.length → Reps K S H ds xs → KR K S H (ks.zip ds) (ks.zip xs)
  | [], [], xs, _, h => by rw [Reps.nil_iff.mp h]; exact KR.nil
  | k :: ks, d :: ds, xs, hl, h => by
    obtain ⟨x, r, rfl, h1, h2⟩ := Reps.cons_iff.mp h
    exact KR.cons_iff.mpr ⟨x, _, rfl, h1, zip_kr (a := a) (by simpa using hl) h2⟩
/-- what is read as a dict -/
theorem Rep.dct_rd {ks : List Key} {ds : List D} {v : V} (h : Rep K S H (.dct ks ds) v) : ∃ a vs, v = .ref a ∧ H a = some (.dK vs) ∧ ¬ S a ∧ KR K S H (ks.zip ds) vs := by
  obtain ⟨a, xs, rfl, ⟨h1, hs⟩, hl, r⟩ := Rep.dct_iff.mp h
  exact ⟨a, _, rfl, h1, hs, zip_kr (a := a) hl r⟩
end
section
variable {X : Cx} {Wx : WX} {st : Stmt} {rest : List Stmt} {f g : TSD} {e o a b c i : Expr} {es : List Expr} {fe fo fa fb fc fi : TD} {fl : TL} {pos : Pos}
/-- d[k] of a dict that stands -/
def dDGet (fo fi : TD) : TD := fun ρ W Q Qx => fo ρ W (fun x ρ1 W1 => fi ρ1 W1 (fun y ρ2 W2 => match x with
  | .dct ks ds => ∃ k z, keyOf y = some k ∧ valD (ks.zip ds) k = some z ∧ Q z ρ2 W2
  | _ => False) Qx) Qx
theorem ge_dget (hu : X.A.units + 1 < cLine) (ho : GE X Wx o fo) (hi : GE X Wx i fi) (hs : NoSl i) : GE X Wx (.Subscript o i pos) (dDGet fo fi) := by
  obtain ⟨to, po, so⟩ := ho
  obtain ⟨ti, pi, si⟩ := hi
  refine ⟨_, pe_dget hu po pi hs, fun F S H σ ρ W Q Qx R cf hf hx hE => ?_⟩
  refine so F S H σ ρ W _ Qx _ cf hf hx fun S1 H1 ρ1 W1 d v e1 c1 r1 q1 => ?_
  refine si F S1 H1 σ ρ1 W1 _ Qx _ c1 q1 (hx.up e1) fun S2 H2 ρ2 W2 d2 v2 e2 c2 r2 q2 => ?_
  split at q2
  · rename_i ks ds
    obtain ⟨k, z, hk, hz, q⟩ := q2
    obtain ⟨a, vs, rfl, ha, hs, kr⟩ := (r1.up e2).dct_rd
    obtain ⟨w, hw, rw'⟩ := (kr.val k).1 z hz
    exact ⟨a, w, rfl, .inl ⟨vs, k, .inl ha, key_rep hk r2, hw.symm⟩, hE S2 H2 ρ2 W2 z w (e1.trans e2) c2 rw' q⟩
  · exact q2.elim
/-- x[k], x the frame's own dict -/
def dDGetO (j : Nat) (fi : TD) : TD := fun ρ W Q Qx => (∃ kvs, ρ[j]? = some (some (.od kvs))) ∧ fi ρ W (fun y ρ2 W2 => match ρ2[j]? with
  | some (some (.om (.dK kvs))) => ∃ k z, keyOf y = some k ∧ valD kvs k = some z ∧ Q z ρ2 W2
  | _ => False) Qx
theorem ge_dgetO {j : Nat} {x : Str} {px : Pos} (hu : X.A.units + 1 < cLine) (hi : GE X Wx i fi) (hs : NoSl i) (hN : X.N[j]? = some x := by rfl) (hv : Vis X.env.scope x := by first | exact Or.inl rfl | exact Or.inr (Or.inl rfl) | exact Or.inr (Or.inr rfl)) (hd : (x == ("__debug__" : Str)) = false := by decide) (hcd : (x == ("__classdict__" : Str)) = false := by decide) :
    GE X Wx (.Subscript (.Name x px) i pos) (dDGetO j fi) := by
  obtain ⟨ti, pi, si⟩ := hi
  refine ⟨_, pe_dget hu (pe_var hN hv hd hcd) pi hs, fun F S H σ ρ W Q Qx R cf hf hx hE => ?_⟩
  obtain ⟨⟨kvs0, h0⟩, hf⟩ := hf
  obtain ⟨p, hp, _⟩ := cf.om j _ h0
  refine ⟨_, hp, ?_⟩
  refine si F S H σ ρ W _ Qx _ cf hf hx fun S2 H2 ρ2 W2 d2 v2 e2 c2 r2 q2 => ?_
  split at q2
  · rename_i kvs hk0
    obtain ⟨k, z, hk, hz, q⟩ := q2
    obtain ⟨p', hp', ⟨vs, h1, kr⟩, _⟩ := c2.om j _ hk0
    rw [hp] at hp'; cases hp'
    obtain ⟨w, hw, rw'⟩ := (KR.val k kr).1 z hz
    exact ⟨p, w, rfl, .inl ⟨vs, k, .inl h1, key_rep hk r2, hw.symm⟩, hE S2 H2 ρ2 W2 z w e2 c2 rw' q⟩
  · exact q2.elim
/-- x[k] = e, x the frame's own dict -/
def dDPutO (j : Nat) (fe fi : TD) : TSD := fun De ρ W => fe ρ W (fun d ρ1 W1 => (∃ kvs, ρ1[j]? = some (some (.od kvs))) ∧ fi ρ1 W1 (fun y ρ2 W2 => match ρ2[j]? with
  | some (some (.om (.dK kvs))) => ∃ k, keyOf y = some k ∧ kvs.length < sizeLine ∧ De.nx (ρ2.set j (some (.od (putD kvs k d)))) W2
  | _ => False) De.ex) De.ex
theorem gs_dputO {j : Nat} {x : Str} {px tpos : Pos} (hu : X.A.units + 1 < cLine) (he : GE X Wx e fe) (hi : GE X Wx i fi) (hN : X.N[j]? = some x := by rfl) (hv : Vis X.env.scope x := by first | exact Or.inl rfl | exact Or.inr (Or.inl rfl) | exact Or.inr (Or.inr rfl)) (hd : (x == ("__debug__" : Str)) = false := by decide) (hcd : (x == ("__classdict__" : Str)) = false := by decide)
    (hs : swapsWith e (some (.Subscript (.Name x px) i tpos)) pos.line X.env = pure false := by rfl) : GS X Wx (.Assign [.Subscript (.Name x px) i tpos] e pos) (dDPutO j fe fi) := by
  obtain ⟨te, pe, se⟩ := he
  obtain ⟨ti, pi, si⟩ := hi
  refine ⟨_, ps_dput hu (pe_var hN hv hd hcd) pi pe hs, fun F S H σ ρ W De Dh cf hf l => ?_⟩
  refine se F S H σ ρ W _ De.ex _ cf hf l.ex fun S1 H1 ρ1 W1 d v e1 c1 r1 q1 => ?_
  obtain ⟨⟨kvs0, h0⟩, q1⟩ := q1
  obtain ⟨p, hp, _⟩ := c1.om j _ h0
  refine ⟨_, hp, ?_⟩
  refine si F S1 H1 σ ρ1 W1 _ De.ex _ c1 q1 (l.ex.up e1) fun S2 H2 ρ2 W2 d2 v2 e2 c2 r2 q2 => ?_
  split at q2
  · rename_i kvs hk0
    obtain ⟨k, hk, hl, q⟩ := q2
    obtain ⟨p', hp', ⟨vs, h1, kr⟩, _⟩ := c2.om j _ hk0
    rw [hp] at hp'; cases hp'
    have kr : KR X.K S2 H2 kvs vs := kr
    have r1' := r1.up e2
    obtain ⟨st, c4⟩ := c2.chOm (u := .dK (putK vs k v)) (o1 := .dK (putD kvs k d)) hk0 hp fun S' H' e' hh => ⟨_, hh, (kr.put k r1').up e'⟩
    exact ⟨p, _, rfl, .inl ⟨vs, k, h1, key_rep hk r2, by rw [kr.len]; exact hl, rfl⟩, l.nx _ _ _ _ _ ((e1.trans e2).trans st) c4 q⟩
  · exact q2.elim
/-- nobody changes the dict of slot j from here on -/
def dFrzD (j : Nat) (f : TSD) : TSD := fun De ρ W => match ρ[j]? with
  | some (some (.om (.dK kvs))) => f De (ρ.set j (some (.sh (.dk kvs)))) W
  | _ => False
theorem gss_frzD (j : Nat) (h : GSs X Wx rest f) : GSs X Wx rest (dFrzD j f) := by
  obtain ⟨t, p, s⟩ := h
  refine ⟨t, p, fun F S H σ ρ W De Dh cf hf l => ?_⟩
  unfold dFrzD at hf
  split at hf
  · rename_i kvs h0
    obtain ⟨S', e, c2⟩ := cf.freezeM (d := .dk kvs) h0 fun p S' _ hn ⟨vs, h1, kr⟩ => Rep.dk_of h1 hn kr
    exact s F S' H σ _ W De Dh c2 hf (l.up e)
  · exact hf.elim
/-- an expression that makes a new dict, last of all -/
def EndND (K : PySem.W.Frag) (F S : Reg) (H : Hp) (σ : St) (Q : List (Key × D) → G.Env → Wd → Prop) (R : VK) : Prop :=
  ∀ S' H' ρ' W' kvs vs p, Stp F S H S' H' → Cf K F S' H' σ ρ' W' → KR K S' H' kvs vs → H' p = none → Q kvs ρ' W' → R (.ref p) (upd H' p (.dK vs))
abbrev TDD := G.Env → Wd → (List (Key × D) → G.Env → Wd → Prop) → KX → Prop
def SndND (K : PySem.W.Frag) (Wx : WX) (te : TE) (f : TDD) : Prop :=
  ∀ F S H σ ρ W Q Qx R, Cf K F S H σ ρ W → f ρ W Q Qx → LkX K F S H Wx Qx → EndND K F S H σ Q R → te σ H R
def GD (X : Cx) (Wx : WX) (e : Expr) (f : TDD) : Prop := ∃ te, PE X e te ∧ SndND X.K Wx te f
def dEmp : TDD := fun ρ W Q _ => Q [] ρ W
theorem gd_emp : GD X Wx (.Dict [] [] pos) dEmp := ⟨_, pe_dnewK, fun F S H σ ρ W Q Qx R cf hf hx hE p hp => hE S H ρ W [] [] p .refl cf KR.nil hp hf⟩
/-- dict(d) -/
def dCopy (fe : TD) : TDD := fun ρ W Q Qx => fe ρ W (fun d ρ' W' => match d with | .dct ks ds => Q (ks.zip ds) ρ' W' | _ => False) Qx
theorem gd_copy {x : Str} {p : Pos} (hg : Gl X x) (hm : X.mg x = none) (hv : bootBuiltins x = some (.type "dict")) (ha : GE X Wx e fe) (hn : x ≠ "__name__" := by decide) (hdb : (x == ("__debug__" : Str)) = false := by decide)
    (he : starEach [e] X.env = (false, eval e X.env) :: starEach [] X.env := by rfl) (hpl : (backTo pos (starEach [] X.env)).any (·.1) = false := by rfl) : GD X Wx (.Call (.Name x p) [e] [] pos) (dCopy fe) := by
  obtain ⟨te, pe, se⟩ := ha
  refine ⟨_, pe_callTy call_dictD hg hm hv (pa_cons pe pa_nil he) hn hdb he hpl, fun F S H σ ρ W Q Qx R cf hf hx hE => ?_⟩
  refine se F S H σ ρ W _ Qx _ cf hf hx fun S' H' ρ' W' d v e' c r q => ?_
  split at q
  · rename_i ks ds
    obtain ⟨a, vs, rfl, ha, hs, kr⟩ := r.dct_rd
    exact ⟨a, vs, rfl, .inl ha, fun l hl => hE S' H' ρ' W' _ vs l e' c kr hl q⟩
  · exact q.elim
/-- x = {..}, the dict the frame's own -/
def dAsgD (j : Nat) (fd : TDD) : TSD := fun De ρ W => fd ρ W (fun kvs ρ' W' => De.nx (ρ'.set j (some (.od kvs))) W') De.ex
theorem gs_setD {j : Nat} {x : Str} {pos' : Pos} {fd : TDD} (hN : X.N.Nodup) (hi : X.N[j]? = some x) (hx : Loc X.env.scope x) (he : GD X Wx e fd) (hs : swapsWith e (some (.Name x pos')) pos.line X.env = pure false := by rfl) (hf : X.fn x = true ∨ X.env.scope.names.lookup x = some .local := by first | exact .inl rfl | exact .inr rfl | assumption) :
    GS X Wx (.Assign [.Name x pos'] e pos) (dAsgD j fd) := by
  obtain ⟨te, pe, se⟩ := he
  refine ⟨_, ps_set hN hi hx pe hs hf, fun F S H σ ρ W De Dh cf hf l => ?_⟩
  refine se F S H σ ρ W _ De.ex _ cf hf l.ex fun S' H' ρ' W' kvs vs p e' c r hp q => ?_
  obtain ⟨st, c2⟩ := c.newOm (u := .dK vs) (o := .dK kvs) j hp fun S2 H2 e2 hh => ⟨vs, hh, r.up e2⟩
  exact l.nx _ _ _ _ W' (e'.trans st) c2 q
/-- a dict, for reading alone -/
def dFreshD (fd : TDD) : TD := fun ρ W Q Qx => fd ρ W (fun kvs ρ' W' => Q (.dk kvs) ρ' W') Qx
theorem GD.ge {fd : TDD} (h : GD X Wx e fd) : GE X Wx e (dFreshD fd) := by
  obtain ⟨te, pe, se⟩ := h
  refine ⟨_, pe, fun F S H σ ρ W Q Qx R cf hf hx hE => ?_⟩
  refine se F S H σ ρ W _ Qx _ cf hf hx fun S1 H1 ρ1 W1 kvs vs p e1 c1 r1 hp q1 => ?_
  have nS : ¬ S1 p := fun z => c1.cb.sd p z hp
  have sm : Same H1 (upd H1 p (.dK vs)) := same_new hp
  exact hE S1 _ ρ1 W1 _ _ (e1.trans (stp_same c1.cb sm)) (c1.same sm) (Rep.dk_of upd_same nS (r1.up (stp_same c1.cb sm))) q1
/-- sorted(d), the keys texts, fewer than 64 -/
def dSortD (fe : TD) : TL := fun ρ W Q Qx => fe ρ W (fun d ρ' W' => match d with
  | .dct ks ds => ∃ zs : List Str, ks = zs.map Sum.inr ∧ zs.length < 64 ∧ ∀ ys : List Str, ys.Perm zs → PyProof.Rows.sortedS ys = true → Q (ys.map D.str) ρ' W'
  | _ => False) Qx
theorem gn_sortD {x : Str} {p : Pos} (hc : X.calm = true) (hg : Gl X x) (hm : X.mg x = none) (hv : bootBuiltins x = some (.builtin "sorted")) (ha : GE X Wx e fe) (hn : x ≠ "__name__" := by decide) (hdb : (x == ("__debug__" : Str)) = false := by decide)
    (he : starEach [e] X.env = (false, eval e X.env) :: starEach [] X.env := by rfl) (hpl : (backTo pos (starEach [] X.env)).any (·.1) = false := by rfl) : GN X Wx (.Call (.Name x p) [e] [] pos) (dSortD fe) := by
  obtain ⟨te, pe, se⟩ := ha
  refine ⟨_, pe_callB (call_sortedD hc) hg hm hv (pa_cons pe pa_nil he) hn hdb he hpl, fun F S H σ ρ W Q Qx R cf hf hx hE => ?_⟩
  refine se F S H σ ρ W _ Qx _ cf hf hx fun S' H' ρ' W' d v e' c r q => ?_
  split at q
  · rename_i ks ds
    obtain ⟨a, vs, rfl, ha, hs, kr⟩ := r.dct_rd
    obtain ⟨zs, hk, h64, q⟩ := q
    have hlen : ks.length = ds.length := by
      obtain ⟨_, _, _, _, hl, _⟩ := Rep.dct_iff.mp r
      exact hl
    have hkeys : vs.map (·.1) = zs.map Sum.inr := by
      rw [kr.1, ← hk]
      exact List.map_fst_zip (by omega)
    refine ⟨a, vs, zs, rfl, .inl ha, hkeys, h64, fun ys l hp hs2 hl => hE S' H' ρ' W' _ _ l e' c ?_ hl (q ys hp hs2)⟩
    have := Reps.map_v (K := X.K) (S := S') (H := H') (ys.map V.str)
    rw [List.map_map] at this
    exact this
  · exact q.elim
/-- d.get(k) -/
def dDGet1 (fo fi : TD) : TD := fun ρ W Q Qx => fo ρ W (fun x ρ1 W1 => (∃ ks ds, x = .dct ks ds) ∧ fi ρ1 W1 (fun y ρ2 W2 => match x with
  | .dct ks ds => ∃ k, keyOf y = some k ∧ Q ((valD (ks.zip ds) k).getD .non) ρ2 W2
  | _ => False) Qx) Qx
theorem ge_dget1 {apos cpos : Pos} (hu : X.A.units + 1 < cLine) (ho : GE X Wx o fo) (hi : GE X Wx i fi) (m : M1 X o "get" apos i cpos) : GE X Wx (.Call (.Attribute o "get" apos) [i] [] cpos) (dDGet1 fo fi) := by
  obtain ⟨to, po, so⟩ := ho
  obtain ⟨ti, pi, si⟩ := hi
  refine ⟨_, pe_dget1 hu po pi m, fun F S H σ ρ W Q Qx R cf hf hx hE => ?_⟩
  refine so F S H σ ρ W _ Qx _ cf hf hx fun S1 H1 ρ1 W1 d v e1 c1 r1 q1 => ?_
  obtain ⟨⟨ks, ds, rfl⟩, q1⟩ := q1
  obtain ⟨a, vs, rfl, ha, hs, kr⟩ := r1.dct_rd
  refine ⟨a, rfl, .inl ⟨vs, .inl ha⟩, ?_⟩
  refine si F S1 H1 σ ρ1 W1 _ Qx _ c1 q1 (hx.up e1) fun S2 H2 ρ2 W2 d2 v2 e2 c2 r2 q2 => ?_
  obtain ⟨k, hk, q⟩ := q2
  have ha2 := e2.keep a _ hs ha
  have kr2 := kr.up e2
  obtain ⟨k1, k2⟩ := kr2.val k
  cases hz : valD (ks.zip ds) k with
  | some z =>
    rw [hz] at q
    obtain ⟨w, hw, rw'⟩ := k1 z hz
    exact ⟨some w, .inl ⟨vs, k, .inl ha2, key_rep hk r2, hw.symm⟩, hE S2 H2 ρ2 W2 z w (e1.trans e2) c2 rw' q⟩
  | none =>
    rw [hz] at q
    exact ⟨none, .inl ⟨vs, k, .inl ha2, key_rep hk r2, (k2 hz).symm⟩, hE S2 H2 ρ2 W2 .non .non (e1.trans e2) c2 (Rep.v_iff.mpr rfl) q⟩
end
end G

namespace G
open PySem PySem.Spec L2 PyProof.Rows HT
section
variable {prog : Program} {w : World} {A : Around} {E : Value → Shared → Prop} {s : Shared}
/-! ### t[::-1] -/
theorem sliceApplied_rev {sl : Addr} {vs : Value} {n : Nat} {Q : Int × Int × Nat → Shared → Prop} (hs : s.heap.IsSliceOf sl .none .none vs) (ps : IsPart vs (some (-1)))
    (h : Q ((n : Int) - 1, -1, n) s) : wpAny (model prog w) A (Builtin.Slice.sliceApplied (.ref sl) (pure (n : Int))) Q E s := by
  obtain ⟨os, hos, hcs, hds⟩ := id hs
  unfold Builtin.Slice.sliceApplied Builtin.Slice.sliceFields
  refine wpAny_bind (wpAny_bind (wpAny_field hos hds (x := .none) rfl (wpAny_bind (wpAny_field hos hds (x := .none) rfl (wpAny_bind (wpAny_field hos hds (x := vs) rfl (wpAny_pure ?_)))))))
  refine wpAny_bind (slicePart_ ps ?_)
  show wpAny _ _ (if ((-1 : Int) == 0) = true then _ else _) _ _ s
  rw [if_neg (by decide)]
  refine wpAny_bind (slicePart_none (wpAny_bind (slicePart_none (wpAny_bind (wpAny_pure ?_)))))
  show wpAny _ _ (pure ((n : Int) - 1, (-1 : Int), Builtin.Slice.slicePlaces ((n : Int) - 1) (-1) (-1))) _ _ s
  have e : Builtin.Slice.slicePlaces ((n : Int) - 1) (-1) (-1) = n := by
    unfold Builtin.Slice.slicePlaces
    rw [if_neg (by decide)]
    by_cases h0 : n = 0
    · subst h0; rfl
    · rw [if_pos (by omega)]
      have : (((n : Int) - 1 - -1 - 1) / - -1 + 1) = (n : Int) := by
        rw [show (- -1 : Int) = 1 by decide, Int.ediv_one]; omega
      rw [this, Int.toNat_natCast]
  rw [e]
  exact wpAny_pure h
theorem pick_rev (xs : Array Value) : ((List.range xs.size).filterMap fun (m : Nat) => xs[((xs.size : Int) - 1 + (m : Int) * -1).toNat]?).toArray = xs.toList.reverse.toArray := by
  have k := PySem.W.krv_pick xs
  unfold slicePick at k
  rw [PySem.W.krv_bounds] at k
  have k' : ((sliceRange ((xs.size : Int) - 1) (-1) (-1)).filterMap (xs[·]?)).toArray = xs.toList.reverse.toArray := k
  rw [PySem.W.krv_sliceRange, List.filterMap_map] at k'
  rw [← k']
  congr 2
  funext m
  show xs[((xs.size : Int) - 1 + (m : Int) * -1).toNat]? = xs[xs.size - 1 - m]?
  congr 1
  omega
theorem is_bool_gen {v : Value} {b : Bool} {Q : Value → Shared → Prop} (hv : ∀ p, v ≠ .builtin p) (h : Q (.bool (v == .bool b)) s) : wpAny (model prog w) A (compareOp .Is v (.bool b)) Q E s := by
  cases v <;> first | exact wpAny_pure h | exact absurd rfl (hv _)
theorem isnot_bool_gen {v : Value} {b : Bool} {Q : Value → Shared → Prop} (hv : ∀ p, v ≠ .builtin p) (h : Q (.bool (!(v == .bool b))) s) : wpAny (model prog w) A (compareOp .IsNot v (.bool b)) Q E s := by
  cases v <;> first | exact wpAny_pure h | exact absurd rfl (hv _)
theorem getItem_tuple_rev {t sl : Addr} {items : Array Value} {vs : Value} {Q : Value → Shared → Prop} (ht : IsTup s.heap t items) (hs : s.heap.IsSliceOf sl .none .none vs) (ps : IsPart vs (some (-1)))
    (h : Q (.ref s.heap.objs.size) { s with heap := s.heap.push { cls := .type "tuple", data := .seq items.toList.reverse.toArray } }) (hsz : items.size ≤ sizeLine) : wpAny (model prog w) A (getItem (.ref t) (.ref sl)) Q E s := by
  have htake : sizeOk (.seq items.toList.reverse.toArray) := by
    show items.toList.reverse.toArray.size ≤ sizeLine
    rw [List.size_toArray, List.length_reverse, Array.length_toList]
    exact hsz
  obtain ⟨os, hos, hcs, hds⟩ := id hs
  have hTs : s.TypeIs (.ref sl) "slice" := ⟨os, hos, hcs⟩
  unfold getItem
  try with_reducible refine wpAny_holding ?_
  first | refine wpAny_bind (wpAny_pure ?_) | skip
  refine wpAny_bind (wpAny_sequenceKey ht.typeIs (by decide) ?_)
  refine wpAny_bind (wpAny_callSpecial?_slot (name := Str.ofString "__getitem__") ht.typeIs PyProof.Rows.slot_tuple_getitem
    (wpAny_call_entry PyProof.Rows.slot_tuple_getitem ht.typeIs PyProof.Rows.entry_tuple_getitem ?_ (PyProof.Rows.args_tuple_getitem _ _)))
  show wpAny _ _ (Builtin.Tuple.tupleItemsOf (.ref t) >>= _) _ _ s
  refine wpAny_bind (tupleItemsOf_ ht ?_)
  refine wpAny_bind (wpAny_typeOf hTs ?_)
  rw [if_pos (by decide)]
  refine wpAny_bind (sliceApplied_rev hs ps ?_)
  have hno : ¬ ((((items.size : Int) - 1) == 0 && (-1 : Int) == 1 && items.size == items.size) = true) := by
    intro q
    rw [Bool.and_eq_true, Bool.and_eq_true] at q
    exact absurd q.1.2 (by decide)
  show wpAny _ _ (if (((items.size : Int) - 1) == 0 && (-1 : Int) == 1 && items.size == items.size) = true then _ else _) _ _ s
  rw [if_neg hno, pick_rev]
  first
    | exact wpAny_bind (m := Builtin.Tuple.tupleExact _) (wpAny_newObj_type (wpAny_pure ⟨_, rfl, wpAny_pure h⟩) htake)
    | exact wpAny_bind (m := Builtin.Tuple.tupleExact _) (wpAny_newObj_type (wpAny_bind (wpAny_pure (wpAny_pure ⟨_, rfl, wpAny_pure h⟩))) htake)
    | exact wpAny_bind (wpAny_bind (m := Builtin.Tuple.tupleExact _) (wpAny_newObj_type (wpAny_pure (wpAny_pure ⟨_, rfl, wpAny_pure h⟩)) htake))
    | exact wpAny_bind (wpAny_bind (m := Builtin.Tuple.tupleExact _) (wpAny_newObj_type (wpAny_pure ⟨_, rfl, wpAny_pure h⟩) htake))
end
section
variable {X : Cx}
def tRevT (K : PySem.W.Frag) (te : TE) : TE := fun σ H Q => te σ H fun x H1 => ∃ a xs, x = .ref a ∧ SqT K H1 a xs ∧ ∀ p, H1 p = none → Q (.ref p) (upd H1 p (.tup xs.reverse))
theorem pe_revT {e : Expr} {te : TE} {k : Nat} {p1 p2 p3 pos : Pos} (he : PE X e te) : PE X (.Subscript e (.Slice none none (some (.UnaryOp .USub (.Constant (.int 1) k p1) p2)) p3) pos) (tRevT X.K te) := by
  refine ⟨fun pins s σ H Q I h => ?_⟩
  refine Subscript_ (thn (he.run pins s σ H _ I h) fun v s1 ⟨x, H1, I1, r1, q1⟩ => ?_)
  obtain ⟨a, xs, ex, hx, q⟩ := q1
  subst ex
  cases r1
  have hst : PO X (some (.UnaryOp .USub (.Constant (.int 1) k p1) p2)) (tPart (tUn (rU fun i => .int (-i)) (tC (.int 1)))) := po_some (pe_un un_neg pe_int)
  refine wpAny_Slice (thn (po_none.run pins s1 σ H1 (fun o H2 => o = none ∧ H2 = H1) I1 ⟨rfl, rfl⟩) fun vl s2 ⟨l, H2, I2, pl, el, e2⟩ => ?_)
  subst el e2
  refine thn (po_none.run pins s2 σ H2 (fun o H3 => o = none ∧ H3 = H2) I2 ⟨rfl, rfl⟩) fun vu s3 ⟨u, H3, I3, pu, eu, e3⟩ => ?_
  subst eu e3
  refine thn (hst.run pins s3 σ H3 (fun o H4 => o = some (-1) ∧ H4 = H3) I3 ⟨1, rfl, -1, rfl, rfl, rfl⟩) fun vs s4 ⟨o, H4, I4, ps, eo, e4⟩ => ?_
  subst eo e4
  have I5 : Inv X pins σ H4 { s4 with heap := s4.heap.push { cls := .type "slice", data := .fields #[vl, vu, vs] } } := I4.kept (t' := s4.toks) fun b ob q => Heap.get?_push_of_some _ q
  obtain ⟨its, r, ht, hz⟩ := I5.tuple hx
  have hlen := r.length
  cases pl
  cases pu
  show wpAny (model X.prog X.w) X.A (subscriptTail e (.Slice none none (some (.UnaryOp .USub (.Constant (.int 1) k p1) p2)) p3) (.ref a) (.ref s4.heap.objs.size)) (EP X pins σ Q) X.xe { s4 with heap := s4.heap.push { cls := .type "slice", data := .fields #[.none, .none, vs] } }
  refine tail_any (ops := [.ref a, .ref s4.heap.objs.size]) ht.typeIs (PyProof.Rows.slot_tuple_getitem.lookup) ?_ (by with_unfolding_all rfl)
  refine getItem_tuple_rev ht (Heap.IsSliceOf.new _ .none .none vs) ps ?_ (by rw [List.size_toArray]; omega)
  refine ⟨.ref _, _, I5.laid (t' := s4.toks) (o := .tup xs.reverse) (fun b ob q => Heap.get?_push_of_some _ q) (Nat.le_refl _) ?_, rfl, q _ (I5.hok.fresh (Nat.le_refl _))⟩
  exact ⟨by rw [List.length_reverse]; exact hz, _, r.reverse, IsTup.new _ _⟩
/-- x is True -/
def rIsBA : R2 := fun x y H Q => ∃ b : Bool, y = .bl b ∧ Q (.bl (decide (x = .bl b))) H
def rNotBA : R2 := fun x y H Q => ∃ b : Bool, y = .bl b ∧ Q (.bl (!decide (x = .bl b))) H
theorem bool_at {x : V} {v : Value} (b : Bool) (r : RelV x v) : (∀ p, v ≠ .builtin p) ∧ (v == Value.bool b) = decide (x = .bl b) := by
  cases x with
  | bl a =>
    cases r
    refine ⟨fun p q => (by cases q), ?_⟩
    rw [Bool.eq_iff_iff, beq_iff_eq, decide_eq_true_eq]
    exact ⟨fun h => by injection h with h; rw [h], fun h => by injection h with h; rw [h]⟩
  | _ => first
    | (obtain ⟨t, rfl⟩ := r; exact ⟨fun p q => by (first | cases q | (simp at q)), by simp⟩)
    | (cases r; exact ⟨fun p q => by (first | cases q | (simp at q)), by simp⟩)
theorem op_isBA : OpR X (compareOp .Is) rIsBA := by
  intro pins s σ H x y v u Q I rx ry h
  obtain ⟨b, rfl, q⟩ := h
  cases (show u = Value.bool b from ry)
  obtain ⟨h1, h2⟩ := bool_at b rx
  exact is_bool_gen h1 ⟨.bl _, H, I, by rw [h2]; rfl, q⟩
theorem op_notBA : OpR X (compareOp .IsNot) rNotBA := by
  intro pins s σ H x y v u Q I rx ry h
  obtain ⟨b, rfl, q⟩ := h
  cases (show u = Value.bool b from ry)
  obtain ⟨h1, h2⟩ := bool_at b rx
  exact isnot_bool_gen h1 ⟨.bl _, H, I, by rw [h2]; rfl, q⟩
theorem op_isA : OpR X (compareOp .Is) (fun x y H Q => (y = .non ∧ Q (.bl (decide (x = .non))) H) ∨ rIsBA x y H Q) := OpR.or op_isN op_isBA
theorem op_notA : OpR X (compareOp .IsNot) (fun x y H Q => (y = .non ∧ Q (.bl (!decide (x = .non))) H) ∨ rNotBA x y H Q) := OpR.or op_notN op_notBA
def D.isV : D → V → Bool
  | .v x, y => decide (x = y)
  | _, _ => false
def dIsA : D → D → (D → Prop) → Prop := fun d e Q => match e with
  | .v .non => Q (.bl (d.isV .non))
  | .v (.bl b) => Q (.bl (d.isV (.bl b)))
  | _ => False
def dNotA : D → D → (D → Prop) → Prop := fun d e Q => match e with
  | .v .non => Q (.bl (!d.isV .non))
  | .v (.bl b) => Q (.bl (!d.isV (.bl b)))
  | _ => False
variable {K : PySem.W.Frag}
theorem isV_rep {S : Reg} {H : Hp} {d : D} {x y : V} (r : Rep K S H d x) (hy : ∀ a, y ≠ .ref a) : decide (x = y) = d.isV y := by
  cases d with
  | v z => rw [Rep.v_iff.mp r]; rfl
  | tup ds => obtain ⟨a, _, rfl, _⟩ := Rep.tup_iff.mp r; exact decide_eq_false fun q => hy a q.symm
  | lst ds => obtain ⟨a, _, rfl, _⟩ := Rep.lst_iff.mp r; exact decide_eq_false fun q => hy a q.symm
  | scr ds => obtain ⟨a, rfl, _⟩ := Rep.scr_iff.mp r; exact decide_eq_false fun q => hy a q.symm
  | dct ks ds => obtain ⟨a, _, rfl, _⟩ := Rep.dct_iff.mp r; exact decide_eq_false fun q => hy a q.symm
  | exc c ks ds => obtain ⟨a, _, _, rfl, _⟩ := Rep.exc_iff.mp r; exact decide_eq_false fun q => hy a q.symm
  | tpf ds => obtain ⟨a, _, _, rfl, _⟩ := Rep.tpf_iff.mp r; exact decide_eq_false fun q => hy a q.symm
theorem rs_isA : RSnd K (fun x y H Q => (y = .non ∧ Q (.bl (decide (x = .non))) H) ∨ rIsBA x y H Q) dIsA := fun F S H W d e x y P R cb rd re hp k => by
  unfold dIsA at hp
  split at hp
  · rw [Rep.v_iff] at re
    exact .inl ⟨re, k _ _ H (Same.refl H) (Rep.v_iff.mpr (by rw [isV_rep rd fun a q => by cases q])) hp⟩
  · rw [Rep.v_iff] at re
    exact .inr ⟨_, re, k _ _ H (Same.refl H) (Rep.v_iff.mpr (by rw [isV_rep rd fun a q => by cases q])) hp⟩
  · exact hp.elim
theorem rs_notA : RSnd K (fun x y H Q => (y = .non ∧ Q (.bl (!decide (x = .non))) H) ∨ rNotBA x y H Q) dNotA := fun F S H W d e x y P R cb rd re hp k => by
  unfold dNotA at hp
  split at hp
  · rw [Rep.v_iff] at re
    exact .inl ⟨re, k _ _ H (Same.refl H) (Rep.v_iff.mpr (by rw [isV_rep rd fun a q => by cases q])) hp⟩
  · rw [Rep.v_iff] at re
    exact .inr ⟨_, re, k _ _ H (Same.refl H) (Rep.v_iff.mpr (by rw [isV_rep rd fun a q => by cases q])) hp⟩
  · exact hp.elim
end
section
variable {X : Cx} {Wx : WX} {e : Expr} {fe : TD} {pos : Pos} {k : Nat} {p1 p2 p3 : Pos}
def dRevT (fe : TD) : TD := fun ρ W Q Qx => fe ρ W (fun d ρ' W' => match d with | .tup ds => Q (.tup ds.reverse) ρ' W' | _ => False) Qx
theorem Reps.rev {K : PySem.W.Frag} {S : Reg} {H : Hp} : ∀ {ds : List D} {vs : List V}, Reps K S H ds vs → Reps K S H ds.reverse vs.reverse
  | [], vs, h => by rw [Reps.nil_iff.mp h]; exact Reps.nil
  | d :: ds, vs, h => by
    obtain ⟨x, r, rfl, h1, h2⟩ := Reps.cons_iff.mp h
    rw [List.reverse_cons, List.reverse_cons]
    exact (Reps.rev h2).append (Reps.cons h1 Reps.nil)
theorem ge_revT (he : GE X Wx e fe) : GE X Wx (.Subscript e (.Slice none none (some (.UnaryOp .USub (.Constant (.int 1) k p1) p2)) p3) pos) (dRevT fe) := by
  obtain ⟨te, pe, se⟩ := he
  refine ⟨_, pe_revT pe, fun F S H σ ρ W Q Qx R cf hf hx hE => ?_⟩
  refine se F S H σ ρ W _ Qx _ cf hf hx fun S' H' ρ' W' d v e' c r q => ?_
  split at q
  · obtain ⟨a, xs, rfl, h1, h2⟩ := Rep.tup_iff.mp r
    refine ⟨a, xs, rfl, h1.sq, fun p hp => ?_⟩
    have sm : Same H' (upd H' p (.tup xs.reverse)) := same_new hp
    exact hE S' _ ρ' W' _ _ (e'.trans (stp_same c.cb sm)) (c.same sm) (rep_newT c.cb hp h2.rev) q
  · exact q.elim
def dRevL (fe : TD) : TL := fun ρ W Q Qx => fe ρ W (fun d ρ' W' => match d with | .lst ds => Q ds.reverse ρ' W' | _ => False) Qx
theorem gn_revL (he : GE X Wx e fe) : GN X Wx (.Subscript e (.Slice none none (some (.UnaryOp .USub (.Constant (.int 1) k p1) p2)) p3) pos) (dRevL fe) := by
  obtain ⟨te, pe, se⟩ := he
  refine ⟨_, pe_revL pe, fun F S H σ ρ W Q Qx R cf hf hx hE => ?_⟩
  refine se F S H σ ρ W _ Qx _ cf hf hx fun S' H' ρ' W' d v e' c r q => ?_
  split at q
  · obtain ⟨a, xs, rfl, h1, h2⟩ := Rep.lst_iff.mp r
    exact ⟨a, xs, rfl, h1.sq, fun p hp => hE S' H' ρ' W' _ _ p e' c h2.rev hp q⟩
  · exact q.elim
/-- a, b, c = e1, e2, e3 with three local names -/
def dPar3 (i j l : Nat) (fl : TL) : TSD := fun De ρ W => fl ρ W (fun ds ρ' W' => match ds with | [d, d', d''] => De.nx (((ρ'.set i (some (.sh d))).set j (some (.sh d'))).set l (some (.sh d''))) W' | _ => False) De.ex
theorem gs_par3 {i j l : Nat} {x y z : Str} {a b c : Expr} {fl : TL} {px py pz pt : Pos} {kt k2 pt2} (hc : X.calm = true) (hN : X.N.Nodup) (hi : X.N[i]? = some x) (hj : X.N[j]? = some y) (hl : X.N[l]? = some z) (hij : i ≠ j) (hil : i ≠ l) (hjl : j ≠ l)
    (hx : X.env.scope.names.lookup x = some .local) (hy : X.env.scope.names.lookup y = some .local) (hz : X.env.scope.names.lookup z = some .local) (ha : GA X Wx [a, b, c] fl)
    (hw : swappedStores [.Tuple [.Name x px, .Name y py, .Name z pz] kt pt] (.Tuple [a, b, c] k2 pt2) X.env = pure (some [x, y, z]))
    (hs : swapsWithSole [.Tuple [.Name x px, .Name y py, .Name z pz] kt pt] (.Tuple [a, b, c] k2 pt2) pos.line X.env = pure false := by rfl) :
    GS X Wx (.Assign [.Tuple [.Name x px, .Name y py, .Name z pz] kt pt] (.Tuple [a, b, c] k2 pt2) pos) (dPar3 i j l fl) := by
  obtain ⟨ta, pa, sa⟩ := ha
  refine ⟨_, ps_par3 hc hN hi hj hl hij hil hjl hx hy hz pa hw hs, fun F S H σ ρ W De Dh cf hf lk => ?_⟩
  refine sa F S H σ ρ W _ De.ex _ cf hf lk.ex fun S' H' ρ' W' ds vs e' c r q => ?_
  split at q
  · rename_i d d' d''
    obtain ⟨v, rv, rfl, r1, r2⟩ := Reps.cons_iff.mp r
    obtain ⟨w, rw', rfl, r3, r4⟩ := Reps.cons_iff.mp r2
    obtain ⟨u, ru, rfl, r5, r6⟩ := Reps.cons_iff.mp r4
    rw [Reps.nil_iff.mp r6]
    exact ⟨v, w, u, rfl, lk.nx S' H' _ _ W' e' (((c.setSh i r1).setSh j r3).setSh l r5) q⟩
  · exact q.elim
end
end G

namespace G
open PySem PySem.Spec L2
/-! ### repr -/
def rRepr (K : PySem.W.Frag) : List V → Hp → VK → Prop := fun xs H Q => ∃ (v : V) (d : PyData), xs = [v] ∧ Dp K H v d ∧ d.showable = true ∧ d.hasDict = false ∧ d.depth ≤ 60 ∧ d.shown.length ≤ sizeLine ∧ Q (.str d.shown) H
theorem cr_repr {X : Cx} (hu : X.A.units + 64 < cLine) (hg : X.A.guards = some []) : CallR X (.builtin "repr") (rRepr X.K) := by
  intro pins s σ H vs us Q I r h
  obtain ⟨v, d, rfl, dp, hs, hd, h60, hz, q⟩ := h
  cases r with
  | cons rel r' =>
  cases r'
  cases dp with
  | non =>
    cases rel
    exact P.repr_of_none ⟨.str _, H, I.tok _, ⟨_, rfl⟩, by rw [PyData.shown] at q; exact q⟩
  | bl b =>
    cases rel
    exact P.repr_of_bool ⟨.str _, H, I.tok _, ⟨_, rfl⟩, by rw [PyData.shown] at q; exact q⟩
  | int i =>
    obtain ⟨t, rfl⟩ := rel
    have : i.natAbs.log2 < 1920 := by simpa [PyData.showable] using hs
    exact P.repr_of_int this ⟨.str _, H, I.tok _, ⟨_, rfl⟩, by rw [PyData.shown] at q; exact q⟩
  | str x =>
    obtain ⟨t, rfl⟩ := rel
    exact P.repr_of_str ⟨.str _, H, I.tok _, ⟨_, rfl⟩, by rw [PyData.shown] at q; exact q⟩ (by rw [PyData.shown] at hz; exact hz)
  | lst h1 h2 =>
    cases rel
    obtain ⟨as, rd⟩ := Dp.reads I _ _ (Value.ref _) (.lst h1 h2) rfl
    exact repr_of_reads' rd hs (PyData.noDict_hsm hd) hg (by omega) (fun _ _ e => e) (fun h' u tk hk => ⟨.str _, H, I.kept hk, ⟨u, rfl⟩, q⟩) hz
  | tup h1 h2 =>
    cases rel
    obtain ⟨as, rd⟩ := Dp.reads I _ _ (Value.ref _) (.tup h1 h2) rfl
    exact repr_of_reads' rd hs (PyData.noDict_hsm hd) hg (by omega) (fun _ _ e => e) (fun h' u tk hk => ⟨.str _, H, I.kept hk, ⟨u, rfl⟩, q⟩) hz
@[irreducible] def shownD (d : D) : Str := d.py.shown
def dRepr : List D → (D → Prop) → Prop := fun ds Q => match ds with
  | [d] => D.good 60 d = true ∧ d.py.showable = true ∧ (shownD d).length ≤ sizeLine ∧ Q (.str (shownD d))
  | _ => False
theorem cs_repr {K : PySem.W.Frag} : CSnd K (rRepr K) dRepr := fun F S H W ds xs P R cb rd hp k => by
  unfold dRepr at hp
  split at hp
  · obtain ⟨x, rfl, h⟩ := reps1 rd
    obtain ⟨h1, h2, h3, h4⟩ := hp
    unfold shownD at h3 h4
    obtain ⟨l1, l2⟩ := lay_of h1
    exact ⟨x, _, rfl, dp_of h1 h, h2, PyData.hasDict_of_canLay _ l1, l2, h3, k _ _ H (Same.refl H) (Rep.v_iff.mpr rfl) h4⟩
  · exact hp.elim
/-! ### how long it is -/
mutual
def wt : D → Nat
  | .v .non => 5
  | .v (.bl _) => 6
  | .v (.int i) => i.natAbs.log2 + 3
  | .v (.str s) => 10 * s.length + 2
  | .tup ds => wts ds + 5
  | .lst ds => wts ds + 5
  | _ => 0
def wts : List D → Nat
  | [] => 0
  | d :: ds => wt d + 2 + wts ds
end
theorem wts_app : ∀ a b : List D, wts (a ++ b) = wts a + wts b
  | [], b => by simp [wts]
  | d :: a, b => by
    rw [List.cons_append, wts, wts, wts_app a b]; omega
theorem wts_mem : ∀ {ds : List D} {d : D}, d ∈ ds → wt d + 2 ≤ wts ds
  | e :: ds, d, h => by
    rw [wts]
    rcases List.mem_cons.mp h with rfl | h
    · omega
    · have := wts_mem h; omega
theorem wts_len : ∀ ds : List D, 2 * ds.length ≤ wts ds
  | [] => Nat.zero_le _
  | d :: ds => by rw [wts, List.length_cons]; have := wts_len ds; omega
theorem wts_sub : ∀ {a b : List D}, a.Sublist b → wts a ≤ wts b
  | _, _, .slnil => Nat.le_refl _
  | _, _, .cons x h => by rw [wts]; have := wts_sub h; omega
  | _, _, .cons₂ x h => by rw [wts, wts]; have := wts_sub h; omega
mutual
def iOk : D → Bool
  | .v (.int i) => decide (i.natAbs.log2 < 1920)
  | .tup ds => iOks ds
  | .lst ds => iOks ds
  | .scr _ => false
  | _ => true
def iOks : List D → Bool
  | [] => true
  | d :: ds => iOk d && iOks ds
end
theorem iOks_all : ∀ ds : List D, iOks ds = ds.all iOk
  | [] => rfl
  | d :: ds => by rw [iOks, List.all_cons, iOks_all ds]
theorem goods_all (n : Nat) : ∀ ds : List D, goods n ds = ds.all (D.good n)
  | [] => rfl
  | d :: ds => by rw [goods, List.all_cons, goods_all n ds]
mutual
theorem show_of : ∀ {n : Nat} {d : D}, D.good n d = true → iOk d = true → d.py.showable = true ∧ d.py.shown.length ≤ wt d
  | _, .v .non, _, _ => by rw [D.py, PyData.shown, wt]; exact ⟨rfl, by decide +kernel⟩
  | _, .v (.bl b), _, _ => by rw [D.py, PyData.shown, wt]; exact ⟨rfl, by cases b <;> decide +kernel⟩
  | _, .v (.int i), _, h => by
    rw [iOk, decide_eq_true_eq] at h
    rw [D.py, PyData.shown, wt, PyData.showable]
    have := int_text_length_le (a := i) (k := i.natAbs.log2 + 1) (by omega) (by omega)
    refine ⟨decide_eq_true h, ?_⟩
    rw [ofString_length]; omega
  | _, .v (.str b), g, _ => by
    rw [D.good] at g
    rw [D.py, PyData.shown, wt, PyData.showable]
    refine ⟨rfl, StrLaws.reprText_len b fun c hc => ?_⟩
    unfold PyData.strOk at g
    rw [Array.all_eq_true_iff_forall_mem] at g
    have := g c (by simpa using hc)
    have : c < 0x110000 := by simpa using this
    omega
  | _, .v (.byt _), h, _ => by simp [D.good] at h
  | _, .v (.flt _), h, _ => by simp [D.good] at h
  | _, .v (.ref _), h, _ => by simp [D.good] at h
  | _, .v (.ty _), h, _ => by simp [D.good] at h
  | 0, .tup _, h, _ => by simp [D.good] at h
  | 0, .lst _, h, _ => by simp [D.good] at h
  | 0, .scr _, h, _ => by simp [D.good] at h
  | 0, .dct _ _, h, _ => by simp [D.good] at h
  | _ + 1, .dct _ _, h, _ => by simp [D.good] at h
  | 0, .exc _ _ _, h, _ => by simp [D.good] at h
  | _ + 1, .exc _ _ _, h, _ => by simp [D.good] at h
  | 0, .tpf _, h, _ => by simp [D.good] at h
  | _ + 1, .tpf _, h, _ => by simp [D.good] at h
  | n + 1, .tup ds, g, h => by
    obtain ⟨a1, a2⟩ := shows_of (n := n) (ds := ds) (by simpa [D.good] using g) (by simpa [iOk] using h)
    rw [D.py, PyData.shown, wt, PyData.showable]
    have := tupleText_len_le (PyData.shownAll (pys ds))
    exact ⟨a1, by omega⟩
  | n + 1, .lst ds, g, h => by
    obtain ⟨a1, a2⟩ := shows_of (n := n) (ds := ds) (by simpa [D.good] using g) (by simpa [iOk] using h)
    rw [D.py, PyData.shown, wt, PyData.showable]
    have := listText_len_le (PyData.shownAll (pys ds))
    exact ⟨a1, by omega⟩
  | n + 1, .scr ns, g, h => by simp [iOk] at h
theorem shows_of : ∀ {n : Nat} {ds : List D}, goods n ds = true → iOks ds = true → PyData.showableAll (pys ds) = true ∧ ((PyData.shownAll (pys ds)).map (·.length)).sum + 2 * (PyData.shownAll (pys ds)).length ≤ wts ds
  | _, [], _, _ => by rw [pys, PyData.shownAll, wts]; exact ⟨rfl, by simp⟩
  | n, d :: ds, g, h => by
    rw [goods, Bool.and_eq_true] at g
    rw [iOks, Bool.and_eq_true] at h
    obtain ⟨a1, a2⟩ := show_of g.1 h.1
    obtain ⟨b1, b2⟩ := shows_of g.2 h.2
    rw [pys, PyData.shownAll, wts, PyData.showableAll, a1, b1]
    rw [List.map_cons, List.sum_cons, List.length_cons]
    exact ⟨rfl, by omega⟩
end
mutual
theorem good_up : ∀ {n m : Nat} {d : D}, n ≤ m → D.good n d = true → D.good m d = true
  | _, _, .v .non, _, _ => by simp [D.good]
  | _, _, .v (.bl _), _, _ => by simp [D.good]
  | _, _, .v (.int _), _, _ => by simp [D.good]
  | _, _, .v (.str b), _, g => by rw [D.good] at g ⊢; exact g
  | _, _, .v (.byt _), _, h => by simp [D.good] at h
  | _, _, .v (.flt _), _, h => by simp [D.good] at h
  | _, _, .v (.ref _), _, h => by simp [D.good] at h
  | _, _, .v (.ty _), _, h => by simp [D.good] at h
  | 0, _, .tup _, _, h => by simp [D.good] at h
  | 0, _, .lst _, _, h => by simp [D.good] at h
  | 0, _, .scr _, _, h => by simp [D.good] at h
  | 0, _, .dct _ _, _, h => by simp [D.good] at h
  | _ + 1, _, .dct _ _, _, h => by simp [D.good] at h
  | 0, _, .exc _ _ _, _, h => by simp [D.good] at h
  | _ + 1, _, .exc _ _ _, _, h => by simp [D.good] at h
  | 0, _, .tpf _, _, h => by simp [D.good] at h
  | _ + 1, _, .tpf _, _, h => by simp [D.good] at h
  | n + 1, 0, _, l, _ => absurd l (by omega)
  | n + 1, m + 1, .tup ds, l, g => by
    rw [D.good] at g ⊢
    exact goods_up (by omega) g
  | n + 1, m + 1, .lst ds, l, g => by
    rw [D.good] at g ⊢
    exact goods_up (by omega) g
  | n + 1, m + 1, .scr _, _, _ => by simp [D.good]
theorem goods_up : ∀ {n m : Nat} {ds : List D}, n ≤ m → goods n ds = true → goods m ds = true
  | _, _, [], _, _ => by simp [goods]
  | n, m, d :: ds, l, g => by
    rw [goods, Bool.and_eq_true] at g ⊢
    exact ⟨good_up l g.1, goods_up l g.2⟩
end
/-- data of this depth and weight at most -/
structure Nice (n B : Nat) (d : D) : Prop where
  good : D.good n d = true
  ok : iOk d = true
  le : wt d ≤ B
structure NiceL (n B : Nat) (ds : List D) : Prop where
  good : goods n ds = true
  ok : iOks ds = true
  le : wts ds ≤ B
theorem Nice.up {n B m C : Nat} {d : D} (h : Nice n B d) (h1 : n ≤ m) (h2 : B ≤ C) : Nice m C d := ⟨good_up h1 h.good, h.ok, Nat.le_trans h.le h2⟩
theorem NiceL.up {n B m C : Nat} {d : List D} (h : NiceL n B d) (h1 : n ≤ m) (h2 : B ≤ C) : NiceL m C d := ⟨goods_up h1 h.good, h.ok, Nat.le_trans h.le h2⟩
theorem NiceL.nil {n B : Nat} : NiceL n B [] := ⟨rfl, rfl, Nat.zero_le _⟩
theorem NiceL.cons {n B C : Nat} {d : D} {ds : List D} (h : Nice n B d) (t : NiceL n C ds) : NiceL n (B + 2 + C) (d :: ds) := by
  refine ⟨?_, ?_, ?_⟩
  · rw [goods, h.good, t.good]; rfl
  · rw [iOks, h.ok, t.ok]; rfl
  · rw [wts]; have := h.le; have := t.le; omega
theorem NiceL.app {n B C : Nat} {a b : List D} (h : NiceL n B a) (t : NiceL n C b) : NiceL n (B + C) (a ++ b) := by
  refine ⟨?_, ?_, ?_⟩
  · rw [goods_all, List.all_append, ← goods_all, ← goods_all, h.good, t.good]; rfl
  · rw [iOks_all, List.all_append, ← iOks_all, ← iOks_all, h.ok, t.ok]; rfl
  · rw [wts_app]; have := h.le; have := t.le; omega
theorem NiceL.mem {n B : Nat} {ds : List D} {d : D} (h : NiceL n B ds) (hd : d ∈ ds) : Nice n B d := by
  refine ⟨?_, ?_, ?_⟩
  · have := h.good; rw [goods_all, List.all_eq_true] at this; exact this d hd
  · have := h.ok; rw [iOks_all, List.all_eq_true] at this; exact this d hd
  · have := wts_mem hd; have := h.le; omega
theorem NiceL.of {n B : Nat} {ds : List D} {C : Nat} (h : ∀ d ∈ ds, Nice n B d) (hc : ds.length * (B + 2) ≤ C) : NiceL n C ds := by
  induction ds generalizing C with
  | nil => exact .nil
  | cons d ds ih =>
    rw [List.length_cons, Nat.add_mul, Nat.one_mul] at hc
    have a := h d List.mem_cons_self
    have b := ih (C := ds.length * (B + 2)) (fun x hx => h x (List.mem_cons_of_mem _ hx)) (Nat.le_refl _)
    exact (NiceL.cons a b).up (Nat.le_refl _) (by omega)
theorem NiceL.sub {n B : Nat} {a b : List D} (h : NiceL n B b) (s : a.Sublist b) : NiceL n B a := by
  refine ⟨?_, ?_, Nat.le_trans (wts_sub s) h.le⟩
  · have := h.good; rw [goods_all, List.all_eq_true] at this ⊢; exact fun d hd => this d (s.subset hd)
  · have := h.ok; rw [iOks_all, List.all_eq_true] at this ⊢; exact fun d hd => this d (s.subset hd)
theorem NiceL.rev {n B : Nat} {a : List D} (h : NiceL n B a) : NiceL n B a.reverse := by
  have e : ∀ l : List D, wts l.reverse = wts l := fun l => by
    induction l with
    | nil => rfl
    | cons d l ih => rw [List.reverse_cons, wts_app, ih, wts, wts, wts]; omega
  refine ⟨?_, ?_, by rw [e]; exact h.le⟩
  · have := h.good; rw [goods_all] at this ⊢; rw [List.all_reverse]; exact this
  · have := h.ok; rw [iOks_all] at this ⊢; rw [List.all_reverse]; exact this
theorem NiceL.len {n B : Nat} {ds : List D} (h : NiceL n B ds) : 2 * ds.length ≤ B := Nat.le_trans (wts_len ds) h.le
theorem Nice.tup {n B : Nat} {ds : List D} (h : NiceL n B ds) : Nice (n + 1) (B + 5) (.tup ds) := ⟨by rw [D.good]; exact h.good, by rw [iOk]; exact h.ok, by rw [G.wt]; have := h.le; omega⟩
theorem Nice.lst {n B : Nat} {ds : List D} (h : NiceL n B ds) : Nice (n + 1) (B + 5) (.lst ds) := ⟨by rw [D.good]; exact h.good, by rw [iOk]; exact h.ok, by rw [G.wt]; have := h.le; omega⟩
theorem Nice.untup {n B : Nat} {ds : List D} (h : Nice (n + 1) B (.tup ds)) : NiceL n B ds := ⟨by have := h.good; rwa [D.good] at this, by have := h.ok; rwa [iOk] at this, by have := h.le; rw [G.wt] at this; omega⟩
theorem Nice.unlst {n B : Nat} {ds : List D} (h : Nice (n + 1) B (.lst ds)) : NiceL n B ds := ⟨by have := h.good; rwa [D.good] at this, by have := h.ok; rwa [iOk] at this, by have := h.le; rw [G.wt] at this; omega⟩
theorem Nice.slen {n B : Nat} {s : Str} (h : Nice n B (.str s)) : s.length ≤ B := by have := h.le; rw [G.wt] at this; omega
theorem Nice.str {n B : Nat} {s : Str} (h : PyData.strOk s = true) (hB : 10 * s.length + 2 ≤ B) : Nice n B (.str s) := ⟨by rw [D.good]; exact h, rfl, by rw [G.wt]; exact hB⟩
theorem Nice.int {n B : Nat} {i : Int} (h : i.natAbs.log2 + 3 ≤ B) (hi : i.natAbs.log2 < 1920) : Nice n B (.int i) := ⟨by simp [D.good], by rw [iOk, decide_eq_true_eq]; exact hi, by rw [G.wt]; exact h⟩
theorem Nice.bl {n B : Nat} {b : Bool} (h : 6 ≤ B) : Nice n B (.bl b) := ⟨by simp [D.good], rfl, by rw [G.wt]; exact h⟩
theorem Nice.non {n B : Nat} (h : 5 ≤ B) : Nice n B .non := ⟨by simp [D.good], rfl, by rw [G.wt]; exact h⟩
theorem repr_nice {n B : Nat} {d : D} (h : Nice n B d) (hn : n ≤ 60) (hB : B ≤ 16777216) {Q : D → Prop} (q : Q (.str (shownD d))) : dRepr [d] Q := by
  obtain ⟨a, b⟩ := show_of h.good h.ok
  refine ⟨good_up hn h.good, a, ?_, q⟩
  unfold shownD
  have := h.le
  rw [show sizeLine = 16777216 from rfl]; omega
end G

namespace G
open PySem PySem.Spec L2
/-! ### x.pop(k, e), x the frame's own dict -/
section
variable {X : Cx} {Wx : WX} {i e : Expr} {fi fx : TD}
def dDPopO (j : Nat) (fi fx : TD) : TD := fun ρ W Q Qx => (∃ kvs, ρ[j]? = some (some (.od kvs))) ∧ fi ρ W (fun y ρ2 W2 => fx ρ2 W2 (fun z ρ3 W3 => match ρ3[j]? with
  | some (some (.om (.dK kvs))) => ∃ k, keyOf y = some k ∧ (match valD kvs k with
    | some v => Q v (ρ3.set j (some (.od (dropD kvs k)))) W3
    | none => Q z ρ3 W3)
  | _ => False) Qx) Qx
theorem ge_dpopO {j : Nat} {x : Str} {px apos cpos : Pos} (hi : GE X Wx i fi) (he : GE X Wx e fx) (m : M2 X (.Name x px) "pop" apos i e cpos) (hN : X.N[j]? = some x := by rfl) (hv : Vis X.env.scope x := by first | exact Or.inl rfl | exact Or.inr (Or.inl rfl) | exact Or.inr (Or.inr rfl)) (hd : (x == ("__debug__" : Str)) = false := by decide) (hcd : (x == ("__classdict__" : Str)) = false := by decide) :
    GE X Wx (.Call (.Attribute (.Name x px) "pop" apos) [i, e] [] cpos) (dDPopO j fi fx) := by
  obtain ⟨ti, pi, si⟩ := hi
  obtain ⟨te, pe, se⟩ := he
  refine ⟨_, pe_dpop2 (pe_var hN hv hd hcd) pi pe m, fun F S H σ ρ W Q Qx R cf hf hx hE => ?_⟩
  obtain ⟨⟨kvs0, h0⟩, hf⟩ := hf
  obtain ⟨p, hp, ⟨vs0, m0, _⟩, _⟩ := cf.om j _ h0
  refine ⟨_, hp, p, rfl, .inl ⟨_, .inl m0⟩, ?_⟩
  refine si F S H σ ρ W _ Qx _ cf hf hx fun S2 H2 ρ2 W2 d2 v2 e2 c2 r2 q2 => ?_
  refine se F S2 H2 σ ρ2 W2 _ Qx _ c2 q2 (hx.up e2) fun S3 H3 ρ3 W3 d3 v3 e3 c3 r3 q3 => ?_
  split at q3
  · rename_i kvs hk0
    obtain ⟨k, hk, q⟩ := q3
    obtain ⟨p', hp', ⟨vs, h1, kr⟩, _⟩ := c3.om j _ hk0
    rw [hp] at hp'; cases hp'
    have kr : KR X.K S3 H3 kvs vs := kr
    refine ⟨vs, k, h1, key_rep hk r2, fun v hv => ?_, fun hv => ?_⟩
    · cases z : valD kvs k with
      | none => rw [(KR.val k kr).2 z] at hv; cases hv
      | some d =>
        rw [z] at q
        obtain ⟨v', hv', rv⟩ := (KR.val k kr).1 d z
        rw [hv] at hv'; cases hv'
        obtain ⟨st, c4⟩ := c3.chOm (u := .dK (dropK vs k)) (o1 := .dK (dropD kvs k)) hk0 hp fun S' H' e' hh => ⟨_, hh, (kr.drop k).up e'⟩
        exact hE S3 _ _ W3 d v ((e2.trans e3).trans (st.mono fun _ h => h)) c4 (rv.up st) q
    · cases z : valD kvs k with
      | some d =>
        obtain ⟨v', hv', rv⟩ := (KR.val k kr).1 d z
        rw [hv] at hv'; cases hv'
      | none =>
        rw [z] at q
        exact hE S3 H3 ρ3 W3 d3 v3 (e2.trans e3) c3 r3 q
  · exact q3.elim
end
/-! ### {k: v, ..}, for reading alone -/
section
variable {K : PySem.W.Frag} {F S : Reg} {H : Hp} {σ : St} {ρ : Env} {W : Wd} {p : Addr} {u : HO}
/-- a new object that nobody else may touch -/
theorem Cf.reg (c : Cf K F S H σ ρ W) (hp : H p = none) : Stp F S H (fun a => S a ∨ a = p) (upd H p u) ∧ Cf K (fun a => F a ∨ a = p) (fun a => S a ∨ a = p) (upd H p u) σ ρ W := by
  have st : Stp F S H (fun a => S a ∨ a = p) (upd H p u) :=
    ⟨fun a o _ h => same_new hp a o h, fun a h1 h2 => by
      rcases h1 with h1 | h1
      · exact absurd h1 h2
      · rw [h1]; exact hp, fun a h => by
      by_cases ha : a = p
      · rw [ha]; exact hp
      · rw [upd_ne ha] at h; exact h, fun a hf => by
      have : a ≠ p := fun q => by
        rw [q] at hf
        exact c.cb.sd p (c.cb.fs p hf) hp
      rw [upd_ne this]⟩
  have np : ∀ a, S a → a ≠ p := fun a hs q => c.cb.sd a hs (by rw [q]; exact hp)
  refine ⟨st, ⟨⟨fun a h => ?_, fun a h => ?_, fun q o hw => ?_⟩, c.len, fun j d h => ?_, fun j o h => ?_, c.dis⟩⟩
  · rcases h with h | h
    · rw [upd_ne (np a h)]; exact c.cb.sd a h
    · rw [h, upd_same]; simp
  · exact h.imp (c.cb.fs a) id
  · obtain ⟨h1, h2, h3⟩ := c.cb.w q o hw
    exact ⟨.inl h1, fun z => z.elim h2 (np q h1), h3.up st (upd_ne (np q h1))⟩
  · obtain ⟨w, h1, h2⟩ := c.sh j d h
    exact ⟨w, h1, h2.up st⟩
  · obtain ⟨q, h1, h2, h3, h4, h5⟩ := c.om j o h
    exact ⟨q, h1, h2.up st (upd_ne (np q h3)), .inl h3, fun z => z.elim h4 (np q h3), h5⟩
/-- it is let go -/
theorem Cf.unreg (c : Cf K (fun a => F a ∨ a = p) S H σ ρ W) (nf : ¬ F p) : Stp F S H (fun a => S a ∧ a ≠ p) (upd H p u) ∧ Cf K F (fun a => S a ∧ a ≠ p) (upd H p u) σ ρ W ∧ Stp (fun _ => False) S H (fun a => S a ∧ a ≠ p) (upd H p u) := by
  have sp : S p := c.cb.fs p (.inr rfl)
  have st : Stp F S H (fun a => S a ∧ a ≠ p) (upd H p u) :=
    ⟨fun a o h e => by
      have : a ≠ p := fun q => h (q ▸ sp)
      rw [upd_ne this]; exact e, fun a h1 h2 => absurd h1.1 h2, fun a h => by
      by_cases ha : a = p
      · rw [ha, upd_same] at h; cases h
      · rw [upd_ne ha] at h; exact h, fun a hf => by
      have : a ≠ p := fun q => nf (q ▸ hf)
      rw [upd_ne this]⟩
  refine ⟨st, ⟨⟨fun a h => ?_, fun a h => ⟨c.cb.fs a (.inl h), fun q => nf (q ▸ h)⟩, fun q o hw => ?_⟩, c.len, fun j d h => ?_, fun j o h => ?_, c.dis⟩, st.mono fun _ h => h.elim⟩
  · rw [upd_ne h.2]; exact c.cb.sd a h.1
  · obtain ⟨h1, h2, h3⟩ := c.cb.w q o hw
    have ne : q ≠ p := fun z => h2 (.inr z)
    exact ⟨⟨h1, ne⟩, fun z => h2 (.inl z), h3.up st (upd_ne ne)⟩
  · obtain ⟨w, h1, h2⟩ := c.sh j d h
    exact ⟨w, h1, h2.up st⟩
  · obtain ⟨q, h1, h2, h3, h4, h5⟩ := c.om j o h
    have ne : q ≠ p := fun z => h4 (.inr z)
    exact ⟨q, h1, h2.up st (upd_ne ne), ⟨h3, ne⟩, fun z => h4 (.inl z), h5⟩
end
def dPrs : List (TD × TD) → Env → Wd → (List (D × D) → Env → Wd → Prop) → KX → Prop
  | [], ρ, W, Q, _ => Q [] ρ W
  | (fk, fv) :: r, ρ, W, Q, Qx => fk ρ W (fun x ρ1 W1 => fv ρ1 W1 (fun y ρ2 W2 => dPrs r ρ2 W2 (fun ps => Q ((x, y) :: ps)) Qx) Qx) Qx
/-- the pairs, a later one in the place of an earlier one -/
def putsD (kvs : List (Key × D)) : List (Key × D) := kvs.foldl (fun acc kv => putD acc kv.1 kv.2) []
def dDisp (fs : List (TD × TD)) : TD := fun ρ W Q Qx => dPrs fs ρ W (fun ps ρ' W' => ∃ kvs : List (Key × D), ps = kvs.map (fun kv => (keyD kv.1, kv.2)) ∧ kvs.length ≤ 15 ∧ Q (.dk (putsD kvs)) ρ' W') Qx
section
variable {K : PySem.W.Frag} {Wx : WX}
def SPs (K : PySem.W.Frag) (Wx : WX) : List (TE × TE) → List (TD × TD) → Prop
  | [], [] => True
  | a :: r, b :: s => Snd K Wx a.1 b.1 ∧ Snd K Wx a.2 b.2 ∧ SPs K Wx r s
  | _, _ => False
def RPs (K : PySem.W.Frag) (S : Reg) (H : Hp) : List (D × D) → List (V × V) → Prop
  | [], [] => True
  | a :: r, b :: s => Rep K S H a.1 b.1 ∧ Rep K S H a.2 b.2 ∧ RPs K S H r s
  | _, _ => False
theorem snd_prs : ∀ {trs : List (TE × TE)} {fs : List (TD × TD)}, SPs K Wx trs fs → ∀ (F S : Reg) (H : Hp) (σ : St) (ρ : Env) (W : Wd) (Q : List (D × D) → Env → Wd → Prop) (Qx : KX) (R : List (V × V) → Hp → Prop), Cf K F S H σ ρ W → dPrs fs ρ W Q Qx → LkX K F S H Wx Qx →
    (∀ S' H' ρ' W' ps vs, Stp F S H S' H' → Cf K F S' H' σ ρ' W' → RPs K S' H' ps vs → Q ps ρ' W' → R vs H') → tPairs trs σ H R
  | [], [], _, F, S, H, σ, ρ, W, Q, Qx, R, c, h, _, hE => hE S H ρ W [] [] .refl c trivial h
  | (_, _) :: _, (_, _) :: _, hs, F, S, H, σ, ρ, W, Q, Qx, R, c, h, hx, hE => by
    obtain ⟨s1, s2, s3⟩ := hs
    refine s1 F S H σ ρ W _ Qx _ c h hx fun S1 H1 ρ1 W1 d v e1 c1 r1 q1 => ?_
    refine s2 F S1 H1 σ ρ1 W1 _ Qx _ c1 q1 (hx.up e1) fun S2 H2 ρ2 W2 d2 v2 e2 c2 r2 q2 => ?_
    refine snd_prs s3 F S2 H2 σ ρ2 W2 _ Qx _ c2 q2 (hx.up (e1.trans e2)) fun S3 H3 ρ3 W3 ps vs e3 c3 r3 q3 => ?_
    exact hE S3 H3 ρ3 W3 ((d, d2) :: ps) ((v, v2) :: vs) ((e1.trans e2).trans e3) c3 ⟨r1.up (e2.trans e3), r2.up e3, r3⟩ q3
  | [], _ :: _, h, _, _, _, _, _, _, _, _, _, _, _, _, _ => h.elim
  | _ :: _, [], h, _, _, _, _, _, _, _, _, _, _, _, _, _ => h.elim
theorem keyOf_keyD (k : Key) : keyOf (keyD k) = some k := by cases k <;> rfl
theorem kr_of_rps {S : Reg} {H : Hp} : ∀ {kvs : List (Key × D)} {vs : List (V × V)}, RPs K S H (kvs.map fun kv => (keyD kv.1, kv.2)) vs → ∃ ws : List (Key × V), vs = ws.map (fun kv => (kV kv.1, kv.2)) ∧ ws.length = kvs.length ∧ KR K S H kvs ws
  | [], [], _ => ⟨[], rfl, rfl, KR.nil⟩
  | [], _ :: _, h => h.elim
  | _ :: _, [], h => h.elim
  | (k, d) :: kvs, (x, y) :: vs, h => by
    obtain ⟨h1, h2, h3⟩ := h
    obtain ⟨ws, e, l, kr⟩ := kr_of_rps h3
    refine ⟨(k, y) :: ws, ?_, by rw [List.length_cons, List.length_cons, l], KR.cons_iff.mpr ⟨y, ws, rfl, h2, kr⟩⟩
    have : x = kV k := key_rep (keyOf_keyD k) h1
    rw [e, this]; rfl
theorem kr_merge {S : Reg} {H : Hp} : ∀ {more : List (Key × D)} {ws : List (Key × V)} {kvs : List (Key × D)} {vs : List (Key × V)}, KR K S H more ws → KR K S H kvs vs → KR K S H (more.foldl (fun acc kv => putD acc kv.1 kv.2) kvs) (mergeK vs ws)
  | [], ws, kvs, vs, h, h2 => by
    have : ws = [] := by
      have := h.1
      simpa using this
    subst this
    exact h2
  | (k, d) :: more, ws, kvs, vs, h, h2 => by
    obtain ⟨v, r, rfl, rv, kr⟩ := KR.cons_iff.mp h
    show KR K S H (more.foldl _ (putD kvs k d)) (mergeK (putK vs k v) r)
    exact kr_merge (more := more) kr (h2.put k rv)
theorem upd_id {H : Hp} {p : Addr} {u : HO} (h : H p = some u) : upd H p u = H := by
  funext a
  by_cases e : a = p
  · rw [e, upd_same, h]
  · rw [upd_ne e]
variable {X : Cx} {pos : Pos} {keys : List (Option Expr)} {values : List Expr} {k v : Expr} {fk fv : TD} {fs : List (TD × TD)}
def GPs (X : Cx) (Wx : WX) (pos : Pos) (keys : List (Option Expr)) (values : List Expr) (fs : List (TD × TD)) : Prop := ∃ trs, PPs X pos keys values trs ∧ SPs X.K Wx trs fs
theorem gps_nil : GPs X Wx pos [] [] [] := ⟨[], pps_nil, trivial⟩
theorem gps_cons (hk : GE X Wx k fk) (hv : GE X Wx v fv) (h : GPs X Wx pos keys values fs) : GPs X Wx pos (some k :: keys) (v :: values) ((fk, fv) :: fs) := by
  obtain ⟨tk, pk, sk⟩ := hk
  obtain ⟨tv, pv, sv⟩ := hv
  obtain ⟨trs, pr, sr⟩ := h
  exact ⟨_, pps_cons pk pv pr, sk, sv, sr⟩
theorem ge_disp (h : GPs X Wx pos keys values fs) (hall : keys.all (·.isSome) = true := by rfl) (hl : keys.length = values.length := by rfl) (h0 : keys ≠ [] := by decide) (h15 : keys.length ≤ 15 := by decide) : GE X Wx (.Dict keys values pos) (dDisp fs) := by
  obtain ⟨trs, pr, sr⟩ := h
  refine ⟨_, pe_disp pr hall hl h0 h15, fun F S H σ ρ W Q Qx R cf hf hx hE => ?_⟩
  intro p hp
  have nS : ¬ S p := fun z => cf.cb.sd p z hp
  have nF : ¬ F p := fun z => nS (cf.cb.fs p z)
  obtain ⟨st, c1⟩ := cf.reg (u := .dK []) hp
  refine snd_prs sr _ _ _ σ ρ W _ Qx _ c1 hf (fun S' H' σ' ρ' W' cls x od e c xr q => ?_) fun S' H' ρ' W' ps vs e c r q => ?_
  · have hp2 : H' p = some (.dK []) := (e.frn p (.inr rfl)).trans upd_same
    obtain ⟨s1, c2, s2⟩ := c.unreg (u := .dK []) nF
    rw [upd_id hp2] at s1 c2 s2
    refine hx _ H' σ' ρ' W' cls x od ((st.trans (e.mono fun _ z => .inl z)).trans s1) c2 ?_ q
    cases x with
    | none => exact xr
    | some fs =>
      obtain ⟨a, vs, h1, h2, h3, h4, h5⟩ := xr
      exact ⟨a, vs, h1, h2, fun z => h3 z.1, h4, h5.up s2⟩
  · have hp2 : H' p = some (.dK []) := (e.frn p (.inr rfl)).trans upd_same
    obtain ⟨kvs, rfl, hl15, q⟩ := q
    obtain ⟨ws, rfl, lw, kr⟩ := kr_of_rps r
    refine ⟨hp2, ws, rfl, by rw [lw]; exact hl15, ?_⟩
    obtain ⟨s1, c2, s2⟩ := c.unreg (u := .dK (mergeK [] ws)) nF
    refine hE _ _ ρ' W' _ _ ((st.trans (e.mono fun _ z => .inl z)).trans s1) c2 (Rep.dk_of upd_same (fun z => z.2 rfl) ?_) q
    exact kr_merge (kr.up s2) KR.nil
end
/-! ### x + e, x the frame's own list -/
section
variable {X : Cx} {Wx : WX} {e : Expr} {fe : TD} {pos : Pos}
def dCatO (k : Nat) (fe : TD) : TL := fun ρ W Q Qx => (∃ ds, ρ[k]? = some (some (.ol ds))) ∧ fe ρ W (fun d ρ' W' => match ρ'[k]?, d with
  | some (some (.om (.lst ds))), .lst xs => ds.length + xs.length ≤ sizeLine ∧ Q (ds ++ xs) ρ' W'
  | _, _ => False) Qx
theorem gn_catO (k : Nat) {x : Str} {px : Pos} (he : GE X Wx e fe) (hN : X.N[k]? = some x := by rfl) (hv : Vis X.env.scope x := by first | exact Or.inl rfl | exact Or.inr (Or.inl rfl) | exact Or.inr (Or.inr rfl)) (hd : (x == ("__debug__" : Str)) = false := by decide) (hcd : (x == ("__classdict__" : Str)) = false := by decide) :
    GN X Wx (.BinOp (.Name x px) .Add e pos) (dCatO k fe) := by
  obtain ⟨te, pe, se⟩ := he
  refine ⟨_, pe_op op_cat (pe_var hN hv hd hcd) pe, fun F S H σ ρ W Q Qx R cf hf hx hE => ?_⟩
  obtain ⟨⟨ds0, h0⟩, hf⟩ := hf
  obtain ⟨p, xs0, hp, _⟩ := cf.ol k ds0 h0
  refine ⟨_, hp, ?_⟩
  refine se F S H σ ρ W _ Qx _ cf hf hx fun S2 H2 ρ2 W2 d2 v2 e2 c2 r2 q2 => ?_
  split at q2
  · rename_i ds xs hk
    obtain ⟨p', ys, hp', h2, h3, _⟩ := c2.ol k ds hk
    rw [hp] at hp'; cases hp'
    obtain ⟨b, zs, rfl, h4, h5⟩ := Rep.lst_iff.mp r2
    exact ⟨p, b, ys, zs, rfl, rfl, h2, h4.1, by rw [h3.length, h5.length]; exact q2.1, fun p' hn => hE S2 H2 ρ2 W2 (ds ++ xs) (ys ++ zs) p' e2 c2 (h3.append h5) hn q2.2⟩
  · exact q2.elim
end
/-! ### x, y = [..], e through a tuple: x the frame's own list -/
section
variable {X : Cx} {Wx : WX} {a b : Expr} {fl : TL} {fe : TD} {pos : Pos}
theorem gs_parU1 {i j : Nat} {x y : Str} {px py pt : Pos} {kt k2 pt2} (hc : X.calm = true) (hN : X.N.Nodup) (hi : X.N[i]? = some x) (hj : X.N[j]? = some y) (hx : Loc X.env.scope x) (hy : Loc X.env.scope y) (ha : GN X Wx a fl) (hb : GE X Wx b fe)
    (he : starEach [a, b] X.env = (false, eval a X.env) :: starEach [b] X.env := by rfl) (he2 : starEach [b] X.env = (false, eval b X.env) :: starEach [] X.env := by rfl)
    (hs : swapsWithSole [.Tuple [.Name x px, .Name y py] kt pt] (.Tuple [a, b] k2 pt2) pos.line X.env = pure false := by rfl) (hw : swappedStores [.Tuple [.Name x px, .Name y py] kt pt] (.Tuple [a, b] k2 pt2) X.env = pure none := by rfl)
    (h1 : (assignEach [.Tuple [.Name x px, .Name y py] kt pt] X.env).map (·.2) = [assign (.Tuple [.Name x px, .Name y py] kt pt) X.env] := by rfl)
    (hn : (assignEach [.Name x px, .Name y py] X.env).length = 2 := by rfl) (hst : (assignEach [.Name x px, .Name y py] X.env).findIdx? (·.1) = none := by rfl)
    (g1 : (assignEach [.Name x px, .Name y py] X.env).map (·.2) = assign (.Name x px) X.env :: (assignEach [.Name y py] X.env).map (·.2) := by rfl) (g2 : (assignEach [.Name y py] X.env).map (·.2) = assign (.Name y py) X.env :: (assignEach [] X.env).map (·.2) := by rfl)
    (fx : X.fn x = true ∨ X.env.scope.names.lookup x = some .local := by first | exact .inl rfl | exact .inr rfl) (fy : X.fn y = true ∨ X.env.scope.names.lookup y = some .local := by first | exact .inl rfl | exact .inr rfl) :
    GS X Wx (.Assign [.Tuple [.Name x px, .Name y py] kt pt] (.Tuple [a, b] k2 pt2) pos) (dParO1 i j fl fe) := by
  obtain ⟨ta, pa, sa⟩ := ha
  obtain ⟨tb, pb, sb⟩ := hb
  refine ⟨_, ps_asg (pe_tup (pa_cons pa (pa_cons pb pa_nil he2) he)) (pg_tup hc (pgs_cons (pg_name hN hi hx fx) (pgs_cons (pg_name hN hj hy fy) pgs_nil g2) g1) hn hst) hs hw h1, fun F S H σ ρ W De Dh cf hf l => ?_⟩
  refine sa F S H σ ρ W _ De.ex _ cf hf l.ex fun S1 H1 ρ1 W1 ds xs p e1 c1 r1 hp q1 => ?_
  obtain ⟨ea, ca⟩ := c1.alien (o := .lst xs) hp
  refine sb (Add F p) (Add S1 p) (upd H1 p (.lst xs)) σ ρ1 W1 _ noX _ ca q1 lkx_none fun S2 H2 ρ2 W2 d v e2 c2 r2 q2 => ?_
  refine ⟨by show 2 ≤ sizeLine; decide, fun p' hp' => ?_⟩
  refine ⟨p', _, rfl, .inl (.inl upd_same), rfl, _, _, rfl, _, _, rfl, rfl, ?_⟩
  have hp2 : H2 p = some (.lst xs) := (e2.frn p (.inr rfl)).trans upd_same
  have e2' := e2.mono (F' := F) fun _ h => .inl h
  have rr := (r1.up ea).up e2'
  obtain ⟨b1, b2, b3, b4, b5⟩ := c1.alienBack hp (ea.trans e2') c2 rr hp2
  have sp : S2 p := c2.cb.fs p (.inr rfl)
  have r2' := r2.del sp
  obtain ⟨st, c4⟩ := b2.newOl i b4 b3
  rw [b5] at st c4
  have sm : Same H2 (upd H2 p' (.tup [.ref p, v])) := same_new hp'
  have c5 := c4.setSh j (r2'.up st)
  exact l.nx _ _ _ _ W2 (((e1.trans b1).trans st).trans (stp_same c5.cb sm)) (c5.same sm) q2
end
/-! ### e in x, x the frame's own list -/
section
variable {X : Cx} {Wx : WX} {e : Expr} {fe : TD} {pos : Pos} {neg : Bool}
def dInO (neg : Bool) (fe : TD) (k : Nat) : TD := fun ρ W Q Qx => fe ρ W (fun d ρ' W' => match ρ'[k]?, d with
  | some (some (.om (.lst ds))), .v x => ∃ vs, flatOf ds = some vs ∧ flatV x = true ∧ vs.all flatV = true ∧ Q (.bl (if neg then !inV x vs else inV x vs)) ρ' W'
  | _, _ => False) Qx
theorem snd_inO (k : Nat) {K : PySem.W.Frag} {te : TE} (se : Snd K Wx te fe) : Snd K Wx (tOp (rIn K neg) te (tVar k)) (dInO neg fe k) := by
  intro F S H σ ρ W Q Qx R cf hf hx hE
  refine se F S H σ ρ W _ Qx _ cf hf hx fun S2 H2 ρ2 W2 d2 v2 e2 c2 r2 q2 => ?_
  split at q2
  · rename_i ds x hk
    obtain ⟨p, ys, hp, h2, h3, _⟩ := c2.ol k ds hk
    obtain ⟨vs, f1, f2, f3, q⟩ := q2
    cases Rep.v_iff.mp r2
    rw [reps_flat f1 h3] at h2
    exact ⟨_, hp, p, vs, rfl, .inl (SqL.of h2), f2, f3, hE S2 H2 ρ2 W2 _ _ e2 c2 (Rep.v_iff.mpr rfl) q⟩
  · exact q2.elim
theorem ge_inO (k : Nat) {x : Str} {px : Pos} (he : GE X Wx e fe) (hN : X.N[k]? = some x := by rfl) (hv : Vis X.env.scope x := by first | exact Or.inl rfl | exact Or.inr (Or.inl rfl) | exact Or.inr (Or.inr rfl)) (hd : (x == ("__debug__" : Str)) = false := by decide) (hcd : (x == ("__classdict__" : Str)) = false := by decide) :
    GE X Wx (.Compare e [.In] [.Name x px] pos) (dInO false fe k) := by
  obtain ⟨te, pe, se⟩ := he
  exact ⟨_, pe_cmpR op_in_seq pe (pe_var hN hv hd hcd) rfl, snd_inO k se⟩
theorem ge_niO (k : Nat) {x : Str} {px : Pos} (he : GE X Wx e fe) (hN : X.N[k]? = some x := by rfl) (hv : Vis X.env.scope x := by first | exact Or.inl rfl | exact Or.inr (Or.inl rfl) | exact Or.inr (Or.inr rfl)) (hd : (x == ("__debug__" : Str)) = false := by decide) (hcd : (x == ("__classdict__" : Str)) = false := by decide) :
    GE X Wx (.Compare e [.NotIn] [.Name x px] pos) (dInO true fe k) := by
  obtain ⟨te, pe, se⟩ := he
  exact ⟨_, pe_cmpR op_notIn_seq pe (pe_var hN hv hd hcd) rfl, snd_inO k se⟩
theorem gt_inO (k : Nat) {x : Str} {px : Pos} (he : GE X Wx e fe) (hN : X.N[k]? = some x := by rfl) (hv : Vis X.env.scope x := by first | exact Or.inl rfl | exact Or.inr (Or.inl rfl) | exact Or.inr (Or.inr rfl)) (hd : (x == ("__debug__" : Str)) = false := by decide) (hcd : (x == ("__classdict__" : Str)) = false := by decide) :
    GT X Wx (.Compare e [.In] [.Name x px] pos) (dBool (dInO false fe k)) := by
  obtain ⟨te, pe, se⟩ := he
  exact ⟨_, pt_cmpR op_in_seq pe (pe_var hN hv hd hcd) rfl, snd_tB (snd_inO k se)⟩
theorem gt_niO (k : Nat) {x : Str} {px : Pos} (he : GE X Wx e fe) (hN : X.N[k]? = some x := by rfl) (hv : Vis X.env.scope x := by first | exact Or.inl rfl | exact Or.inr (Or.inl rfl) | exact Or.inr (Or.inr rfl)) (hd : (x == ("__debug__" : Str)) = false := by decide) (hcd : (x == ("__classdict__" : Str)) = false := by decide) :
    GT X Wx (.Compare e [.NotIn] [.Name x px] pos) (dBool (dInO true fe k)) := by
  obtain ⟨te, pe, se⟩ := he
  exact ⟨_, pt_cmpR op_notIn_seq pe (pe_var hN hv hd hcd) rfl, snd_tB (snd_inO k se)⟩
end
end G

namespace G
open PySem PySem.Spec L2
/-! ### raise C("..") -/
section
variable {X : Cx} {Wx : WX}
def dRaise (c : Value) : TSD := fun De ρ W => De.ex c none ρ W
/-- what is known of a class whose instances are raised -/
structure ExcAt (K : PySem.W.Frag) (mg : Str → Option Value) (x : Str) (C : Addr) : Prop where
  mg : mg x = some (.ref C)
  ex : PySem.W.excIn K C [.type "ValueError", .type "Exception", .type "BaseException", .type "object"] "ValueError.__new__" = true
  kp : PySem.W.keepIn K (.ref C) = true
  sb : PySem.W.subIn K (.ref C) (.type "BaseException") = some true
  ty : PySem.W.typeIn K (.ref C) = some (.type "type")
theorem gs_raise {x m : Str} {C : Addr} {j : Nat} {p p2 pos pos' : Pos} (hc : X.calm = true) (tk : Takes X Wx) (F : ExcAt X.K X.mg x C) (hg : Gl X x := by rfl) (hdb : (x == ("__debug__" : Str)) = false := by decide) :
    GS X Wx (.Raise (some (.Call (.Name x p) [.Constant (.str m) j p2] [] pos)) none pos') (dRaise (.ref C)) :=
  ⟨_, ps_raise hc tk (pmk_own PySem.F.excBase_ValueError F.ex F.mg F.kp (raises_own F.sb F.ty) hg hdb), fun F S H σ ρ W De Dh cf hf l => l.ex S H σ ρ W _ none none .refl cf rfl hf⟩
end
/-! ### try: .. except .. -/
/-- the weakest reading over the heap that a reading over data allows -/
def tOf (K : PySem.W.Frag) (Wx : WX) (f : TSD) : TS := fun D σ H => ∃ F S ρ W De, Cf K F S H σ ρ W ∧ f De ρ W ∧ Lnk K Wx F S H De D
theorem pss_tOf {X : Cx} {Wx : WX} {st : List Stmt} {f : TSD} (h : GSs X Wx st f) : PSs X st (tOf X.K Wx f) := by
  obtain ⟨t, pt, sg⟩ := h
  refine ⟨fun pins s σ H D I q => ?_⟩
  obtain ⟨F, S, ρ, W, De, cf, hf, l⟩ := q
  exact pt.run pins s σ H D I (sg F S H σ ρ W De D cf hf l)
def WXno : WX := fun _ _ _ _ => False
end G

namespace G
open PySem PySem.Spec L2
/-! ### sorted of a list of tuples, their items ints and texts, one shape -/
abbrev TKey := List (Int ⊕ List Nat)
def keyV (sh : Nat → Bool) : Nat → List V → Option TKey
  | _, [] => some []
  | i, .int n :: r => if sh i = true then none else (keyV sh (i + 1) r).map (Sum.inl n :: ·)
  | i, .str x :: r => if sh i = true then (keyV sh (i + 1) r).map (Sum.inr x.cps.toList :: ·) else none
  | _, _ => none
def keyDs (sh : Nat → Bool) : Nat → List D → Option TKey
  | _, [] => some []
  | i, .v (.int n) :: r => if sh i = true then none else (keyDs sh (i + 1) r).map (Sum.inl n :: ·)
  | i, .v (.str x) :: r => if sh i = true then (keyDs sh (i + 1) r).map (Sum.inr x.cps.toList :: ·) else none
  | _, _ => none
def tlt (a b : TKey) : Bool := PyProof.Rows.lexLt PyProof.Rows.itemOrd a b
theorem keyDs_v {K : PySem.W.Frag} {S : Reg} {H : Hp} {sh : Nat → Bool} : ∀ {i : Nat} {ds : List D} {vs : List V} {k : TKey}, Reps K S H ds vs → keyDs sh i ds = some k → keyV sh i vs = some k
  | i, [], vs, k, r, h => by cases Reps.nil_iff.mp r; exact h
  | i, d :: ds, vs, k, r, h => by
    obtain ⟨x, y, rfl, r1, r2⟩ := Reps.cons_iff.mp r
    unfold keyDs at h
    split at h
    · rename_i e; cases e
    · rename_i n r' e
      cases e
      cases Rep.v_iff.mp r1
      split at h
      · cases h
      · rename_i c
        obtain ⟨k', h1, rfl⟩ := Option.map_eq_some_iff.mp h
        unfold keyV
        rw [if_neg c, keyDs_v r2 h1]; rfl
    · rename_i n r' e
      cases e
      cases Rep.v_iff.mp r1
      split at h
      · rename_i c
        obtain ⟨k', h1, rfl⟩ := Option.map_eq_some_iff.mp h
        unfold keyV
        rw [if_pos c, keyDs_v r2 h1]; rfl
      · cases h
    · cases h
theorem keyV_items {sh : Nat → Bool} : ∀ {i : Nat} {vs : List V} {us : List Value} {k : TKey}, Vals vs us → keyV sh i vs = some k → PyProof.Rows.tupItems sh i us = some k
  | i, [], _, k, .nil, h => h
  | i, x :: vs, _, k, .cons (b := u) r t, h => by
    unfold keyV at h
    split at h
    · rename_i e; cases e
    · rename_i n r' e
      cases e
      obtain ⟨tk, rfl⟩ := (show ∃ t, u = Value.int n t from r)
      split at h
      · cases h
      · rename_i c
        obtain ⟨k', h1, rfl⟩ := Option.map_eq_some_iff.mp h
        unfold PyProof.Rows.tupItems
        rw [if_neg c, keyV_items t h1]; rfl
    · rename_i n r' e
      cases e
      obtain ⟨tk, rfl⟩ := (show ∃ t, u = Value.str n t from r)
      split at h
      · rename_i c
        obtain ⟨k', h1, rfl⟩ := Option.map_eq_some_iff.mp h
        unfold PyProof.Rows.tupItems
        rw [if_pos c, keyV_items t h1]; rfl
      · cases h
    · cases h
/-- x is a tuple of that key -/
def HasKey (K : PySem.W.Frag) (H : Hp) (sh : Nat → Bool) (x : V) (k : TKey) : Prop := ∃ t zs, x = .ref t ∧ SqT K H t zs ∧ keyV sh 0 zs = some k
def rSortT (K : PySem.W.Frag) (sh : Nat → Bool) : List V → Hp → VK → Prop := fun vs H Q => ∃ (a : Addr) (xs : List V), vs = [V.ref a] ∧ SqL K H a xs ∧ (∀ x ∈ xs, ∃ k, HasKey K H sh x k ∧ k ≠ []) ∧
  ∀ ys p, ys.Perm xs → ys.Pairwise (fun x y => ∀ kx ky, HasKey K H sh x kx → HasKey K H sh y ky → tlt ky kx = false) → H p = none → Q (.ref p) (upd H p (.lst ys))
theorem key_c {X : Cx} {pins : List (Addr × Obj)} {σ : St} {H : Hp} {s : Shared} (I : Inv X pins σ H s) {sh : Nat → Bool} {x : V} {u : Value} {k : TKey} (r : RelV x u) (h : HasKey X.K H sh x k) :
    PyProof.Rows.G.tupKeyC s.heap sh u = some k ∧ (k ≠ [] → ∃ f, PyProof.Rows.TupOf s.heap sh u f) := by
  obtain ⟨t, zs, rfl, hs, hk⟩ := h
  cases (show u = Value.ref t from r)
  obtain ⟨its, rv, ⟨o, ho, hc, n, hd⟩, _⟩ := I.tuple hs
  have e := keyV_items rv hk
  have hd' : o.data = .seq its.toArray n := hd
  refine ⟨?_, fun hne => ?_⟩
  · unfold PyProof.Rows.G.tupKeyC
    have h1 : PyProof.Rows.G.isTupObj s.heap (.ref t) = true := by
      simp only [PyProof.Rows.G.isTupObj, ho, hc]
      decide
    rw [if_pos h1]
    simp only [PyProof.Rows.tupKey, ho, hd']
    exact e
  · cases rv with
    | nil => cases hk; exact absurd rfl hne
    | cons r0 rt =>
      unfold keyV at hk
      split at hk
      · rename_i e; cases e
      · rename_i m r' e'
        cases e'
        obtain ⟨tk, rfl⟩ := r0
        by_cases c : sh 0 = true
        · rw [if_pos c] at hk; cases hk
        · exact ⟨.int m tk, t, o, _, n, rfl, ho, hc, hd', by simp, fun _ => ⟨_, _, rfl⟩, fun z => absurd z c⟩
      · rename_i m r' e'
        cases e'
        obtain ⟨tk, rfl⟩ := r0
        by_cases c : sh 0 = true
        · exact ⟨.str m tk, t, o, _, n, rfl, ho, hc, hd', by simp, fun z => absurd c (by rw [z]; decide), fun _ => ⟨_, _, rfl⟩⟩
        · rw [if_neg c] at hk; cases hk
      · cases hk
theorem tups_c {X : Cx} {pins : List (Addr × Obj)} {σ : St} {H : Hp} {s : Shared} (I : Inv X pins σ H s) {sh : Nat → Bool} : ∀ {xs : List V} {us : List Value}, Vals xs us → (∀ x ∈ xs, ∃ k, HasKey X.K H sh x k ∧ k ≠ []) → ∃ fs, PyProof.Rows.TupsOf s.heap sh us fs
  | _, _, .nil, _ => ⟨[], .nil⟩
  | _, _, .cons r t, h => by
    obtain ⟨fs, q⟩ := tups_c I t fun x hx => h x (List.mem_cons_of_mem _ hx)
    obtain ⟨k, h1, h2⟩ := h _ List.mem_cons_self
    obtain ⟨f, p⟩ := (key_c I r h1).2 h2
    exact ⟨f :: fs, .cons p q⟩
theorem back_rel : ∀ {u : Value}, (∃ a, u = Value.ref a) → RelV (backV u) u := fun ⟨a, e⟩ => by subst e; exact (rfl : Value.ref a = Value.ref a)
open PyProof.Rows in
theorem cr_sortT {X : Cx} (sh : Nat → Bool) : CallR X (.builtin "sorted") (rSortT X.K sh) := by
  intro pins s σ H vs us Q I r h
  obtain ⟨a, xs, rfl, hs, hx, q⟩ := h
  obtain ⟨its, rv, hl, hz⟩ := I.list hs
  rw [Vals.ref1 r]
  obtain ⟨e1, e2⟩ := refs_back rv fun x m => by
    obtain ⟨k, ⟨t, _, e, _⟩, _⟩ := hx x m
    exact ⟨t, e⟩
  obtain ⟨fs, ht⟩ := tups_c I rv hx
  have hk : ∀ v ∈ its, ∃ k, PyProof.Rows.G.tupKeyC s.heap sh v = some k ∧ HasKey X.K H sh (backV v) k := fun v hv => by
    have m : backV v ∈ xs := by rw [e1]; exact List.mem_map.mpr ⟨v, hv, rfl⟩
    obtain ⟨k, h1, _⟩ := hx _ m
    exact ⟨k, (key_c I (back_rel (e2 v hv)) h1).1, h1⟩
  refine PyProof.Rows.G.sorted_tups (shape := sh) hl.isList ht (fun v hv => ⟨_, (hk v hv).choose_spec.1⟩) (by rw [← rv.length]; exact hz) fun st' a1 a2 a3 => ?_
  have p1 : (arrOf st').toList.Perm (its.zip its) := by
    have := Array.perm_iff_toList_perm.mp a1
    rwa [pairsOf_toList] at this
  have hm : ∀ p ∈ (arrOf st').toList, p.1 = p.2 ∧ p.1 ∈ its := fun p hp => mem_zip_self (p1.mem_iff.mp hp)
  obtain ⟨ep, he'⟩ := PyProof.Rows.sortedAll_at s.heap its ((arrOf st').map (·.2))
  have ho : ((arrOf st').map (·.2)).toList = (arrOf st').toList.map (·.2) := by simp
  have p2 : ((arrOf st').toList.map (·.2)).Perm its := by
    have z := p1.map Prod.snd
    rw [List.map_snd_zip (Nat.le_refl _)] at z
    exact z
  have hr : ∀ u ∈ (arrOf st').toList.map (·.2), ∃ a, u = Value.ref a := fun u hu => e2 u (p2.mem_iff.mp hu)
  have hp : (((arrOf st').toList.map (·.2)).map backV).Perm xs := by rw [e1]; exact p2.map backV
  have hsz : (arrOf st').toList.length = (pairsOf its).size := by
    rw [pairsOf_size, p1.length_eq, List.length_zip, Nat.min_self]
  refine ⟨.ref _, upd H (s.heap.objs.size + 1) (.lst (((arrOf st').toList.map (·.2)).map backV)), I.laid (t' := s.toks) (fun _ _ => PyProof.Rows.sortedAll_old) (Nat.le_succ _) ⟨by rw [hp.length_eq]; exact hz, _, ep, vals_back hr, by rw [← ho]; exact he'⟩, rfl, q _ _ hp ?_ (I.hok.fresh (Nat.le_succ _))⟩
  rw [List.map_map, List.pairwise_iff_getElem]
  intro i j hi hj hij kx ky gx gy
  rw [List.length_map] at hi hj
  rw [List.getElem_map] at gx gy
  have hji : j < (pairsOf its).size := by rw [← hsz]; exact hj
  have w := a2 i j (Nat.le_of_lt hij) hji
  have key : ∀ (n : Nat) (hn : n < (arrOf st').toList.length) (k : TKey), HasKey X.K H sh ((backV ∘ fun x => x.2) (arrOf st').toList[n]) k → KK (PyProof.Rows.G.tupKindC s.heap sh) (arrOf st') n = k := fun n hn k g => by
    obtain ⟨m1, m2⟩ := hm _ (List.getElem_mem hn)
    have g2 := (key_c I (back_rel (e2 _ (show (arrOf st').toList[n].2 ∈ its by rw [← m1]; exact m2))) g).1
    unfold KK
    have e : (arrOf st')[n]? = some (arrOf st').toList[n] := by rw [← Array.getElem?_toList]; exact List.getElem?_eq_getElem hn
    rw [e]
    show (PyProof.Rows.G.tupKeyC s.heap sh (arrOf st').toList[n].1).getD [] = k
    rw [m1, g2]
    rfl
  rw [key i hi kx gx, key j hj ky gy] at w
  exact w
/-! over data -/
theorem reps_perm {K : PySem.W.Frag} {S : Reg} {H : Hp} {xs ys : List V} (p : ys.Perm xs) : ∀ {ds : List D}, Reps K S H ds xs → ∃ es, es.Perm ds ∧ Reps K S H es ys := by
  induction p with
  | nil => exact fun h => ⟨_, .refl _, h⟩
  | cons x p ih =>
    intro ds h
    cases ds with
    | nil => cases Reps.nil_iff.mp h
    | cons d ds =>
      obtain ⟨x', r, e, h1, h2⟩ := Reps.cons_iff.mp h
      cases e
      obtain ⟨es, e1, e2⟩ := ih h2
      exact ⟨d :: es, e1.cons d, Reps.cons h1 e2⟩
  | swap x y l =>
    intro ds h
    cases ds with
    | nil => cases Reps.nil_iff.mp h
    | cons d ds =>
      obtain ⟨x', r, e, h1, h2⟩ := Reps.cons_iff.mp h
      cases e
      cases ds with
      | nil => cases Reps.nil_iff.mp h2
      | cons d2 ds =>
        obtain ⟨x', r, e, h3, h4⟩ := Reps.cons_iff.mp h2
        cases e
        exact ⟨d2 :: d :: ds, .swap _ _ _, Reps.cons h3 (Reps.cons h1 h4)⟩
  | trans p1 p2 i1 i2 =>
    intro ds h
    obtain ⟨es, a1, a2⟩ := i2 h
    obtain ⟨fs, b1, b2⟩ := i1 a2
    exact ⟨fs, b1.trans a1, b2⟩
def dSortT (sh : Nat → Bool) (fe : TD) : TL := fun ρ W Q Qx => fe ρ W (fun d ρ' W' => match d with
  | .lst ds => ∃ k : D → TKey, (∀ d ∈ ds, ∃ its, d = .tup its ∧ keyDs sh 0 its = some (k d) ∧ k d ≠ []) ∧ ∀ ys : List D, ys.Perm ds → ys.Pairwise (fun x y => tlt (k y) (k x) = false) → Q ys ρ' W'
  | _ => False) Qx
section
variable {X : Cx} {Wx : WX} {e : Expr} {fe : TD} {pos : Pos}
theorem gn_sortT (sh : Nat → Bool) {x : Str} {p : Pos} (hg : Gl X x) (hm : X.mg x = none) (hv : bootBuiltins x = some (.builtin "sorted")) (ha : GE X Wx e fe) (hn : x ≠ "__name__" := by decide) (hdb : (x == ("__debug__" : Str)) = false := by decide)
    (he : starEach [e] X.env = (false, eval e X.env) :: starEach [] X.env := by rfl) (hpl : (backTo pos (starEach [] X.env)).any (·.1) = false := by rfl) : GN X Wx (.Call (.Name x p) [e] [] pos) (dSortT sh fe) := by
  obtain ⟨te, pe, se⟩ := ha
  refine ⟨_, pe_callB (cr_sortT sh) hg hm hv (pa_cons pe pa_nil he) hn hdb he hpl, fun F S H σ ρ W Q Qx R cf hf hx hE => ?_⟩
  refine se F S H σ ρ W _ Qx _ cf hf hx fun S' H' ρ' W' d v e' c r q => ?_
  split at q
  · rename_i ds
    obtain ⟨a, xs, rfl, ha, hr⟩ := Rep.lst_iff.mp r
    obtain ⟨k, hk, q⟩ := q
    have hkey : ∀ (n : Nat) (d : D) (x : V), d ∈ ds → Rep X.K S' H' d x → HasKey X.K H' sh x (k d) ∧ k d ≠ [] := fun n d x hd hr => by
      obtain ⟨its, rfl, h1, h2⟩ := hk d hd
      obtain ⟨t, zs, rfl, h3, h4⟩ := Rep.tup_iff.mp hr
      exact ⟨⟨t, zs, rfl, h3.sq, keyDs_v h4 h1⟩, h2⟩
    refine ⟨a, xs, rfl, ha.sq, fun x hx => ?_, fun ys l hp hs hl => ?_⟩
    · obtain ⟨i, hi, rfl⟩ := List.getElem_of_mem hx
      obtain ⟨d, h1, h2⟩ := hr.get' (List.getElem?_eq_getElem hi)
      exact ⟨k d, hkey 0 d _ (List.mem_of_getElem? h1) h2⟩
    · obtain ⟨es, h1, h2⟩ := reps_perm hp hr
      refine hE S' H' ρ' W' es ys l e' c h2 hl (q es h1 ?_)
      rw [List.pairwise_iff_getElem] at hs ⊢
      intro i j hi hj hij
      obtain ⟨x, a1, a2⟩ := h2.get (List.getElem?_eq_getElem hi)
      obtain ⟨y, b1, b2⟩ := h2.get (List.getElem?_eq_getElem hj)
      obtain ⟨hi', rfl⟩ := List.getElem?_eq_some_iff.mp a1
      obtain ⟨hj', rfl⟩ := List.getElem?_eq_some_iff.mp b1
      exact hs i j hi' hj' hij _ _ (hkey 0 _ _ (h1.mem_iff.mp (List.getElem_mem hi)) a2).1 (hkey 0 _ _ (h1.mem_iff.mp (List.getElem_mem hj)) b2).1
  · exact q.elim
end
end G

namespace G
open PySem PySem.Spec L2
/-! ### try: .. with several clauses, each with a name or without; a named exception is tracked, and may be kept -/
theorem exH_ok {P : Program} {w : World} {H : Hp} {h : Heap} {a : Addr} {c : Value} {od : Option Addr} {oe : Obj} {vs : Array Value} (e : h.get? a = some oe) (z : Zc c od oe) (d : oe.data = .fields vs) : ObjOk P w H h a (ExH c od a) :=
  ⟨⟨oe, vs, e, z, d⟩, ⟨oe, e⟩, fun _ _ ⟨o, v, q, r⟩ k => ⟨o, v, k o q, r⟩⟩
section
variable {X : Cx} {pins : List (Addr × Obj)} {σ : St} {H : Hp} {sI s s' : Shared}
/-- an object that stands is tracked from here on: it was not there at the entry -/
theorem track {a : Addr} {o : HO} (J : Inv X pins σ H sI) (hI : sI.heap.get? a = none) (I : Inv X pins σ H s') (na : H a = none) (nL : a ≠ X.env.locals) (new : ObjOk X.prog X.w (upd H a o) s'.heap a o) : Inv X pins σ (upd H a o) s' where
  ok := I.ok
  os := I.os
  bare := I.bare
  base := ⟨I.base.keep, I.base.slot, fun b u q n hx => by
      rw [upd_ne (fun z => by
        obtain ⟨o', e⟩ := J.base.there b u q hx
        rw [z, hI] at e; cases e)]
      exact I.base.free b u q n hx, I.base.there,
    fun b xs q => by have := I.base.tups b xs q; rw [upd_ne (ne_of_none this na)]; exact this,
    fun b u v q => by have := I.base.frzs b u v q; rw [upd_ne (ne_of_none this na)]; exact this,
    fun b ps q => by obtain ⟨m, this⟩ := I.base.tbls b ps q; exact ⟨m, by rw [upd_ne (ne_of_none this na)]; exact this⟩⟩
  loc := I.loc
  cell := I.cell
  free := by rw [upd_ne (Ne.symm nL)]; exact I.free
  freeC := fun x c e => by
    rw [upd_ne (fun z => by
      obtain ⟨v, q⟩ := J.cell x c e
      obtain ⟨o', q, _⟩ := q
      rw [z, hI] at q
      cases q)]
    exact I.freeC x c e
  pin := fun p hp => by
    obtain ⟨p1, p2, p3, p4, p5⟩ := I.pin p hp
    refine ⟨p1, ?_, p3, p4, p5⟩
    rw [upd_ne (fun z => by
      obtain ⟨q, _⟩ := J.pin p hp
      rw [z, hI] at q; cases q)]
    exact p2
  hok := fun b u e => by
    by_cases hb : b = a
    · subst hb
      rw [upd_same] at e
      cases e
      exact new
    · rw [upd_ne hb] at e
      exact (I.hok b u e).stay (fun _ _ _ q => q) (fun c q => by rw [upd_ne (ne_of_none q na)]; exact q) fun c xs q => by rw [upd_ne (ne_of_none q na)]; exact q
  len := I.len
/-- into a suite whose exception is tracked, and out of it -/
theorem suite0 {a : Addr} (I : Inv X pins σ H s) : Inv (X.suite a (X.pn ++ pins)) [] σ H s :=
  ⟨I.ok.suite _ _, I.os, I.bare, I.base, I.loc, I.cell, I.free, I.freeC, fun p hp => I.pin p (by rw [List.append_nil] at hp; exact hp), I.hok, I.len⟩
theorem unsuite0 {a : Addr} {pn' : List (Addr × Obj)} (I : Inv (X.suite a (X.pn ++ pins)) pn' σ H s) (ok : X.Ok) : Inv X pins σ H s :=
  ⟨ok, I.os, I.bare, I.base, I.loc, I.cell, I.free, I.freeC, fun p hp => I.pin p (List.mem_append_left _ hp), I.hok, I.len⟩
end
abbrev HdT := Value × Option Nat × (Addr → Value → Option Addr → TS)
/-- the ends of a suite whose name goes -/
def gone (D : Ends) (i : Nat) : Ends := { nx := fun σ' H' => D.nx (σ'.set i none) H', rt := D.rt, bk := fun σ' H' => D.bk (σ'.set i none) H', ct := fun σ' H' => D.ct (σ'.set i none) H' }
def wMA (K : PySem.W.Frag) (Wout : WX) (D : Ends) : List HdT → WX
  | [] => Wout
  | (c, none, ts) :: r => fun cls d σ H => ∃ b, PySem.W.exmOne K cls c = some b ∧ (b = true → ∀ a, H a = none → ts a cls d D σ H) ∧ (b = false → wMA K Wout D r cls d σ H)
  | (c, some i, ts) :: r => fun cls d σ H => ∃ b, PySem.W.exmOne K cls c = some b ∧ (b = true → ∀ a, H a = none → ts a cls d (gone D i) (σ.set i (some (.ref a))) (upd H a (ExH cls d a))) ∧ (b = false → wMA K Wout D r cls d σ H)
inductive HdA (X : Cx) : List ExceptHandler → List HdT → Prop
  | nil : HdA X [] []
  | bare {x : Str} {c : Value} {ts : Addr → Value → Option Addr → TS} {b₀ : Stmt} {suite : List Stmt} {np pos' : Pos} {hds : List ExceptHandler} {l : List HdT} (hc : Names X x c)
      (hsu : ∀ (a : Addr) (cls : Value) (d : Option Addr) (pn : List (Addr × Obj)), PSs (X.suite a pn) (b₀ :: suite) (ts a cls d)) (r : HdA X hds l) : HdA X (.ExceptHandler (some (.Name x np)) none (b₀ :: suite) pos' :: hds) ((c, none, ts) :: l)
  | named {x n : Str} {i : Nat} {c : Value} {ts : Addr → Value → Option Addr → TS} {b₀ : Stmt} {suite : List Stmt} {np pos' : Pos} {hds : List ExceptHandler} {l : List HdT} (hc : Names X x c) (hN : X.N.Nodup) (hi : X.N[i]? = some n) (hln : X.env.kindOf n = some .local)
      (hsu : ∀ (a : Addr) (cls : Value) (d : Option Addr) (pn : List (Addr × Obj)), PSs (X.suite a pn) (b₀ :: suite) (ts a cls d)) (r : HdA X hds l) : HdA X (.ExceptHandler (some (.Name x np)) (some n) (b₀ :: suite) pos' :: hds) ((c, some i, ts) :: l)
section
variable {X : Cx} {body : List Stmt} {h₀ : ExceptHandler} {hds : List ExceptHandler} {l : List HdT} {pos : Pos} {tb : WX → TS} {Wout : WX}
theorem ps_tryA (hs : X.stack = X.env :: X.outer) (hf : X.env.frame = some X.env.locals) (tk : Takes X Wout)
    (hb : ∀ (W : WX) (pn : List (Addr × Obj)) (xe : Value → Shared → Prop), Takes (X.tr pn xe) W → PassesOwn (model X.prog X.w) X.A X.env xe → PSs (X.tr pn xe) body (tb W))
    (hh : HdA X (h₀ :: hds) l) : PS X (.Try body (h₀ :: hds) [] [] pos) (fun D σ H => tb (wMA X.K Wout D l) D σ H) := by
  refine ⟨fun pins s σ H D I h => ?_⟩
  have ok := I.ok
  have hfr : X.A.frames = some (X.env :: X.outer) := by rw [ok.frames, hs]
  refine wpAny_Try_except ?_
  refine wpAny_mono ((hb (wMA X.K Wout D l) (X.pn ++ pins) (fun e s₁ => wpAny (model X.prog X.w) X.A (noteFrame e X.env) (fun _ s₂ => wpAny (model X.prog X.w) X.A (setFlight e none) (fun _ s₃ =>
    wpAny (model X.prog X.w) X.A (handleBy e X.env (h₀ :: hds)) (SP X pins D) X.xe s₃) X.xe s₂) X.xe s₁) (fun u s' xx => ?_) PassesOwn.looking).run [] s σ H D (I.toTry _) h) (fun f s1 hsp => ?_) (fun e s1 he => he)
  · obtain ⟨a, B, sI, pins', σ', H', cls, d, rfl, J', nb, up, sky, na, os, ag, w⟩ := xx
    have J : Inv X pins σ' H' sI := J'.ofTry ok
    have sky' : Sky B (X.env :: X.outer) a (Zc cls d) X.env.locals s'.heap := by rw [← hs]; exact sky
    show wpAny (model X.prog X.w) X.A (noteFrame (.ref a) X.env) _ _ _
    refine Sky.land Zc.steady hfr hf sky' fun h3 fl3 up3 => ?_
    have J3 : Inv X pins σ' H' { s' with heap := h3 } := J.landed nb fl3.1 (up.trans up3) os ag
    obtain ⟨oe3, vs3, he3, hz3, hd3⟩ := fl3.there
    have notFr : ∀ {h : Heap} {o : Obj} {vs : Array Value}, h.FunFrames B (X.env :: X.outer) → h.get? a = some o → o.data = .fields vs → a ∉ frs (X.env :: X.outer) := fun {h o vs} ff e dd hm => by
      obtain ⟨_, o', e', hnf⟩ := ff.mem hm
      rw [e] at e'; cases e'
      exact hnf _ dd
    have nfr := notFr fl3.2.2.1 he3 hd3
    have nL : a ≠ X.env.locals := fun z => nfr (List.mem_filterMap.mpr ⟨X.env, List.mem_cons_self, by rw [hf, z]⟩)
    have nF : a ∉ X.fs := fun hm => by
      obtain ⟨e, he, q⟩ := List.mem_filterMap.mp hm
      exact nfr (List.mem_filterMap.mpr ⟨e, List.mem_cons_of_mem _ he, q⟩)
    have hI : sI.heap.get? a = none := by
      cases e : sI.heap.get? a with
      | none => rfl
      | some o =>
        have z := nb a o e (by rw [hs]; exact nfr)
        rw [fl3.2.1] at z; cases z
    have S3 := J3.suite he3 hd3 na nL nF
    have go : ∀ {hds' : List ExceptHandler} {l' : List HdT}, HdA X hds' l' → wMA X.K Wout D l' cls d σ' H' →
        wpAny (model X.prog X.w) X.A (handleBy (.ref a) X.env hds') (SP X pins D) X.xe { s' with heap := h3 } := by
      have LT : PySem.W.Looks (model X.prog X.w) h3 (typeOf (.ref a)) cls := fun A Q E s k q => wpAny_typeOf_ref (k _ _ he3) (by rw [hz3.1]; exact q)
      have test : ∀ {x : Str} {c : Value} {np : Pos}, Names X x c → ∀ {Q : Value → Shared → Prop} {E : Value → Shared → Prop}, Q c { s' with heap := h3 } → wpAny (model X.prog X.w) (X.A.mark (some (.ref a))) (eval (.Name x np) X.env) Q E { s' with heap := h3 } := fun {x c np} hc {Q E} q => by
        obtain ⟨hg, hdbg, hm | ⟨hm, hv, hnn⟩⟩ := hc
        · exact ld_glob (X := X.suite a ((a, oe3) :: (X.pn ++ pins))) S3 hg hm q hdbg
        · exact ld_blt (X := X.suite a ((a, oe3) :: (X.pn ++ pins))) S3 hg hm hv q hnn hdbg
      intro hds' l' hk
      induction hk with
      | nil =>
        intro w
        refine wpAny_handleBy_nil ?_
        obtain ⟨k1, k2, k3, oe, vs, T, oT, ts', he, hz, hd, h1, hr⟩ := id fl3
        unfold PySem.passOn
        refine wpAny_bind (wpAny_field he hd h1 ?_)
        rw [if_neg (show ¬ ((Value.ref T == Value.none) = true) from by simp)]
        have fin : wpAny (model X.prog X.w) X.A (setFlight (.ref a) X.env.frame) (fun _ s4 => wpAny (model X.prog X.w) X.A (throw (.ref a) : Sem Flow) (SP X pins D) X.xe s4) X.xe { s' with heap := h3 } := by
          rw [hf]
          refine HandSPX.setFlight_upZ fl3 fun h4 hh4 up4 => wpAny_throw (tk _ _ ?_)
          exact ⟨a, B, sI, pins, σ', H', cls, d, rfl, J, nb, (up.trans up3).trans up4, .inr (.inr (by rw [hs]; exact hh4)), na, os, ag, w⟩
        first
          | exact wpAny_bind (wpAny_pure (wpAny_bind fin))
          | exact wpAny_bind fin
      | @bare x c ts b₀ suite np pos' hds2 l2 hc hsu r ih =>
        intro w
        obtain ⟨b, hb1, hyes, hno⟩ := w
        refine wpAny_handleBy_cons (codeAny_handlers_test ?_) (by intro q; cases q)
        have LM := PySem.W.exm_one (M := model X.prog X.w) (J3.kIn) LT hb1
        refine test hc (LM.here ?_)
        cases b with
        | true =>
          refine codeAny_handlers_suite ?_
          refine HandSPX.lands_againZ fl3 fun h4 fl4 up4 => ?_
          have J4 : Inv X pins σ' H' { s' with heap := h4 } := J.landed nb fl4.1 ((up.trans up3).trans up4) os ag
          obtain ⟨oe4, vs4, he4, hz4, hd4⟩ := fl4.there
          have S4 := J4.suite he4 hd4 na nL nF
          refine wpAny_mono ((hsu a cls d ((a, oe4) :: (X.pn ++ pins))).run [] _ _ H' _ S4 (hyes rfl a na)) (fun f s6 hsp => ?_) (fun _ _ z => False.elim z)
          cases f with
          | next =>
            obtain ⟨σ6, H6, S6, q6⟩ := hsp
            exact ⟨_, _, S6.unsuite ok, q6⟩
          | brk =>
            obtain ⟨σ6, H6, S6, q6⟩ := hsp
            exact ⟨_, _, S6.unsuite ok, q6⟩
          | cont =>
            obtain ⟨σ6, H6, S6, q6⟩ := hsp
            exact ⟨_, _, S6.unsuite ok, q6⟩
          | ret u =>
            obtain ⟨v6, σ6, H6, S6, r6, q6⟩ := hsp
            exact ⟨_, _, _, S6.unsuite ok, r6, q6⟩
        | false =>
          show wpAny _ X.A (handleBy (.ref a) X.env hds2) _ _ _
          exact ih (hno rfl)
      | @named x n i c ts b₀ suite np pos' hds2 l2 hc hN hi hln hsu r ih =>
        intro w
        obtain ⟨b, hb1, hyes, hno⟩ := w
        refine wpAny_handleBy_cons (codeAny_handlers_test ?_) (by intro q; cases q)
        have LM := PySem.W.exm_one (M := model X.prog X.w) (J3.kIn) LT hb1
        refine test hc (LM.here ?_)
        cases b with
        | true =>
          refine codeAny_handlers_suite_as ?_
          refine HandSPX.lands_againZ fl3 fun h4 fl4 up4 => ?_
          have J4 : Inv X pins σ' H' { s' with heap := h4 } := J.landed nb fl4.1 ((up.trans up3).trans up4) os ag
          obtain ⟨oe4, vs4, he4, hz4, hd4⟩ := fl4.there
          have S4 := suite0 (a := a) (track J hI J4 na nL (exH_ok (c := cls) (od := d) he4 hz4 hd4))
          refine store_ok (X := X.suite a (X.pn ++ pins)) (v := .ref a) S4 hN hi (.inl hln) rfl (fun s5 S5 => ?_) (.inr hln)
          refine wpAny_mono ((hsu a cls d (X.pn ++ pins)).run [] s5 _ _ _ S5 (hyes rfl a na)) (fun f s6 hsp => ?_) (fun _ _ z => False.elim z)
          have end_ : ∀ {σ6 : St} {H6 : Hp} {Q : Shared → Prop}, Inv (X.suite a (X.pn ++ pins)) [] σ6 H6 s6 → (∀ s7, Inv X pins (σ6.set i none) H6 s7 → Q s7) →
              wpAny (model X.prog X.w) X.A (do bindName X.env n .none; unbindBehindTheSuite X.env n pos') (fun _ s7 => Q s7) X.xe s6 := fun {σ6 H6 Q} S6 hq => gone_ok (unsuite0 S6 ok) hN hi hln hq
          cases f with
          | next =>
            obtain ⟨σ6, H6, S6, q6⟩ := hsp
            exact end_ S6 fun s7 J7 => ⟨_, _, J7, q6⟩
          | brk =>
            obtain ⟨σ6, H6, S6, q6⟩ := hsp
            exact end_ S6 fun s7 J7 => ⟨_, _, J7, q6⟩
          | cont =>
            obtain ⟨σ6, H6, S6, q6⟩ := hsp
            exact end_ S6 fun s7 J7 => ⟨_, _, J7, q6⟩
          | ret u =>
            obtain ⟨v6, σ6, H6, S6, r6, q6⟩ := hsp
            exact end_ S6 fun s7 J7 => ⟨_, _, _, J7, r6, q6⟩
        | false =>
          show wpAny _ X.A (handleBy (.ref a) X.env hds2) _ _ _
          exact ih (hno rfl)
    exact go hh w
  · cases f with
    | next =>
      obtain ⟨σ', H', J', q⟩ := hsp
      exact wpAny_execs_nil ⟨σ', H', J'.ofTry ok, q⟩
    | brk =>
      obtain ⟨σ', H', J', q⟩ := hsp
      exact ⟨σ', H', J'.ofTry ok, q⟩
    | cont =>
      obtain ⟨σ', H', J', q⟩ := hsp
      exact ⟨σ', H', J'.ofTry ok, q⟩
    | ret u =>
      obtain ⟨v, σ', H', J', r, q⟩ := hsp
      exact ⟨v, σ', H', J'.ofTry ok, r, q⟩
end
/-! over data -/
def excD (c : Value) (x : Option (List (Str × D))) : D := .exc c (x.map (·.map (·.1))) ((x.getD []).map (·.2))
theorem rep_exc {K : PySem.W.Frag} {S : Reg} {H : Hp} {c : Value} {x : Option (List (Str × D))} {od : Option Addr} {a : Addr} (h : XRep K S H x od) (na : ¬ S a) (ha : H a = some (ExH c od a)) : Rep K S H (excD c x) (.ref a) := by
  refine Rep.exc_iff.mpr ?_
  cases x with
  | none => exact ⟨a, od, [], rfl, ⟨ha, na⟩, h, Reps.nil⟩
  | some fs =>
    obtain ⟨b, vs, e, h1, h2, h3, h4⟩ := h
    have zp : ∀ l : List (Str × V), (l.map (·.1)).zip (l.map (·.2)) = l := fun l => by
      induction l with
      | nil => rfl
      | cons p l ih => simp only [List.map_cons, List.zip_cons_cons, ih]
    have h5 : Reps K S H (((some fs).getD []).map fun p : Str × D => p.2) (vs.map fun p : Str × V => p.2) := h4
    refine ⟨a, od, vs.map fun p : Str × V => p.2, rfl, ⟨ha, na⟩, ⟨b, e, ⟨?_, h2⟩, by simp⟩, h5⟩
    show H b = some (.xd ((fs.map (·.1)).zip (vs.map (·.2))))
    rw [h1, ← h3, zp]
structure HA where
  cls : Value
  yes : List Value
  no : List Value
  as : Option Nat
  body : TSD
def goneD (De : EndsD) : Option Nat → EndsD
  | none => { De with ex := fun _ _ _ _ => False }
  | some i => { nx := fun ρ W => De.nx (ρ.set i none) W, rt := De.rt, bk := fun ρ W => De.bk (ρ.set i none) W, ct := fun ρ W => De.ct (ρ.set i none) W, ex := fun _ _ _ _ => False }
def setAs (ρ : Env) (cls : Value) (x : Option (List (Str × D))) : Option Nat → Env
  | none => ρ
  | some i => ρ.set i (some (.sh (excD cls x)))
/-- what becomes of an exception of the body, clause by clause -/
def hdX (De : EndsD) : List HA → KX
  | [] => De.ex
  | h :: r => fun cls x ρ W => (cls ∈ h.yes ∧ h.body (goneD De h.as) (setAs ρ cls x h.as) W) ∨ (cls ∈ h.no ∧ hdX De r cls x ρ W)
def dTry (f : TSD) (hs : List HA) : TSD := fun De ρ W => f { De with ex := hdX De hs } ρ W
theorem al0 {p : Value → Prop} : ∀ v ∈ ([] : List Value), p v := fun v h => by cases h
theorem al1 {p : Value → Prop} {a : Value} {l : List Value} (h : p a) (r : ∀ v ∈ l, p v) : ∀ v ∈ a :: l, p v := fun v hv => by
  rcases List.mem_cons.mp hv with e | hv
  · rw [e]; exact h
  · exact r v hv
inductive HdG (X : Cx) : List ExceptHandler → List HA → Prop
  | nil : HdG X [] []
  | bare {x : Str} {c : Value} {y n : List Value} {f : TSD} {b₀ : Stmt} {suite : List Stmt} {np pos' : Pos} {hds : List ExceptHandler} {l : List HA} (hc : Names X x c) (hy : ∀ v ∈ y, PySem.W.exmOne X.K v c = some true) (hn : ∀ v ∈ n, PySem.W.exmOne X.K v c = some false)
      (hsu : ∀ (a : Addr) (pn : List (Addr × Obj)), GSs (X.suite a pn) WXno (b₀ :: suite) f) (r : HdG X hds l) : HdG X (.ExceptHandler (some (.Name x np)) none (b₀ :: suite) pos' :: hds) (⟨c, y, n, none, f⟩ :: l)
  | named {x m : Str} {i : Nat} {c : Value} {y n : List Value} {f : TSD} {b₀ : Stmt} {suite : List Stmt} {np pos' : Pos} {hds : List ExceptHandler} {l : List HA} (hc : Names X x c) (hN : X.N.Nodup) (hi : X.N[i]? = some m) (hln : X.env.kindOf m = some .local)
      (hy : ∀ v ∈ y, PySem.W.exmOne X.K v c = some true) (hn : ∀ v ∈ n, PySem.W.exmOne X.K v c = some false)
      (hsu : ∀ (a : Addr) (pn : List (Addr × Obj)), GSs (X.suite a pn) WXno (b₀ :: suite) f) (r : HdG X hds l) : HdG X (.ExceptHandler (some (.Name x np)) (some m) (b₀ :: suite) pos' :: hds) (⟨c, y, n, some i, f⟩ :: l)
section
variable {X : Cx} {Wx : WX} {body : List Stmt} {h₀ : ExceptHandler} {hds : List ExceptHandler} {l : List HA} {pos : Pos} {f : TSD}
def hdT (K : PySem.W.Frag) (h : HA) : HdT := (h.cls, h.as, fun _ _ _ => tOf K WXno h.body)
theorem HdG.ok {hds : List ExceptHandler} {l : List HA} (h : HdG X hds l) : HdA X hds (l.map (hdT X.K)) := by
  induction h with
  | nil => exact .nil
  | bare hc hy hn hsu r ih => exact .bare hc (fun a cls d pn => pss_tOf (hsu a _)) ih
  | named hc hN hi hln hy hn hsu r ih => exact .named hc hN hi hln (fun a cls d pn => pss_tOf (hsu a _)) ih
theorem HdG.wish {K : PySem.W.Frag} (hK : X.K = K) {F S : Reg} {H : Hp} {De : EndsD} {Dh : Ends} (lk : Lnk K Wx F S H De Dh) {hds : List ExceptHandler} {l : List HA} (h : HdG X hds l) : LkX K F S H (wMA K Wx Dh (l.map (hdT K))) (hdX De l) := by
  subst hK
  induction h with
  | nil => exact lk.ex
  | @bare x cc y n f b₀ suite np pos' hds l hc hy hn hsu r ih =>
    intro S' H' σ' ρ' W' cls x od e c xr q
    rcases q with ⟨q1, q2⟩ | ⟨q1, q2⟩
    · refine ⟨true, hy cls q1, fun _ a _ => ?_, fun z => by cases z⟩
      exact ⟨F, S', ρ', W', _, c, q2, ⟨(lk.up e).nx, (lk.up e).rt, (lk.up e).bk, (lk.up e).ct, fun _ _ _ _ _ _ _ _ _ _ _ z => z.elim⟩⟩
    · exact ⟨false, hn cls q1, fun z => (by cases z), fun _ => ih S' H' σ' ρ' W' cls x od e c xr q2⟩
  | @named x m i cc y n f b₀ suite np pos' hds l hc hN hi hln hy hn hsu r ih =>
    intro S' H' σ' ρ' W' cls x od e c xr q
    rcases q with ⟨q1, q2⟩ | ⟨q1, q2⟩
    · refine ⟨true, hy cls q1, fun _ a na => ?_, fun z => by cases z⟩
      have sm : Same H' (upd H' a (ExH cls od a)) := same_new na
      have nS : ¬ S' a := fun z => c.cb.sd a z na
      have st := stp_same c.cb sm
      have xr2 : XRep X.K S' (upd H' a (ExH cls od a)) x od := by
        cases x with
        | none => exact xr
        | some fs =>
          obtain ⟨b, vs, e0, h1, h2, h3, h4⟩ := xr
          exact ⟨b, vs, e0, by rw [upd_ne (ne_of_none h1 na)]; exact h1, h2, h3, h4.up st⟩
      refine ⟨F, S', _, W', _, (c.same sm).setSh i (rep_exc xr2 nS upd_same), q2, ?_⟩
      have lk2 := lk.up (e.trans st)
      exact ⟨fun S2 H2 σ2 ρ2 W2 e2 c2 q => lk2.nx S2 H2 _ _ W2 e2 (c2.setNone i) q, lk2.rt, fun S2 H2 σ2 ρ2 W2 e2 c2 q => lk2.bk S2 H2 _ _ W2 e2 (c2.setNone i) q, fun S2 H2 σ2 ρ2 W2 e2 c2 q => lk2.ct S2 H2 _ _ W2 e2 (c2.setNone i) q, fun _ _ _ _ _ _ _ _ _ _ _ z => z.elim⟩
    · exact ⟨false, hn cls q1, fun z => (by cases z), fun _ => ih S' H' σ' ρ' W' cls x od e c xr q2⟩
theorem gs_try (hs : X.stack = X.env :: X.outer) (hf : X.env.frame = some X.env.locals) (tk : Takes X Wx)
    (hb : ∀ (W : WX) (pn : List (Addr × Obj)) (xe : Value → Shared → Prop), Takes (X.tr pn xe) W → PassesOwn (model X.prog X.w) X.A X.env xe → GSs (X.tr pn xe) W body f) (hh : HdG X (h₀ :: hds) l) : GS X Wx (.Try body (h₀ :: hds) [] [] pos) (dTry f l) :=
  ⟨_, ps_tryA (tb := fun W => tOf X.K W f) hs hf tk (fun W pn xe t p => pss_tOf (hb W pn xe t p)) hh.ok, fun F S H σ ρ W De Dh cf hf lk =>
    ⟨F, S, ρ, W, _, cf, hf, ⟨lk.nx, lk.rt, lk.bk, lk.ct, hh.wish rfl lk⟩⟩⟩
end
/-! isinstance(e, C), e a caught exception without fields -/
def rIsX (K : PySem.W.Frag) : List V → Hp → VK → Prop := fun xs H Q => ∃ (a D C : Addr) (b : Bool), xs = [.ref a, .ref C] ∧ H a = some (ExH (.ref D) none a) ∧ ExcC K D ∧ PySem.W.kitOne K (.ref D) (.ref C) = some b ∧ Q (.bl b) H
theorem cr_isX {X : Cx} : CallR X (.builtin "isinstance") (rIsX X.K) := by
  intro pins s σ H xs us Q I r h
  obtain ⟨a, D, C, b, rfl, ha, T, e, q⟩ := h
  cases r with
  | cons rx rr =>
    cases rr with
    | cons rt rr =>
      cases rr
      cases rx
      cases rt
      obtain ⟨⟨oe, vs, hget, hz, hv⟩, _, _⟩ : ObjOk X.prog X.w H s.heap a (ExH (.ref D) none a) := I.hok a _ ha
      have J : PySem.W.InstAt s.heap a oe D none := by
        obtain ⟨oc, od, oda, osl⟩ := oe
        obtain ⟨h1, h2⟩ := hz
        dsimp only at h1 h2 hv
        subst h1 h2 hv
        exact ⟨hget, rfl, rfl, trivial⟩
      exact PySem.W.kia_one (PySem.W.handS_kitx_exc T.hg T.hk T.hs T.hd T.ha T.hn T.ht T.hm) I.kIn J e (fun z => nomatch z) fun tk => ⟨.bl b, H, I.kept (t' := tk) fun _ _ z => z, rfl, q⟩
/-- what isinstance says of a caught exception of the class D -/
structure IsAt (K : PySem.W.Frag) (D C : Addr) (b : Bool) : Prop where
  ex : ExcC K D
  kit : PySem.W.kitOne K (.ref D) (.ref C) = some b
def dIsX (l : List (Value × Bool)) : List D → (D → Prop) → Prop := fun ds Q => match ds with
  | [.exc c none _, .v (.ref _)] => ∃ b, (c, b) ∈ l ∧ Q (.bl b)
  | _ => False
/-- isinstance(e, C): l tells the classes that e may have, and the answers -/
theorem ge_isX {X : Cx} {Wx : WX} {e : Expr} {fe : TD} {C : Addr} {x : Str} {p px pos : Pos} {l : List (Value × Bool)} (hl : ∀ q ∈ l, ∃ D, q.1 = .ref D ∧ IsAt X.K D C q.2) (hC : X.mg x = some (.ref C)) (hm : X.mg "isinstance" = none) (ha : GE X Wx e fe)
    (hg : Gl X "isinstance" := by rfl) (hgx : Gl X x := by rfl) (hdx : (x == ("__debug__" : Str)) = false := by decide)
    (he : starEach [e, .Name x px] X.env = (false, eval e X.env) :: starEach [.Name x px] X.env := by rfl) (he2 : starEach [.Name x px] X.env = (false, eval (.Name x px) X.env) :: starEach [] X.env := by rfl) (hpl : (backTo pos (starEach [.Name x px] X.env)).any (·.1) = false := by rfl) :
    GE X Wx (.Call (.Name "isinstance" p) [e, .Name x px] [] pos) (fun ρ W Q Qx => fe ρ W (fun d ρ' W' => dIsX l [d, .ref C] fun y => Q y ρ' W') Qx) := by
  obtain ⟨te, pe, se⟩ := ha
  refine ⟨_, pe_callB cr_isX hg hm (by decide +kernel) (pa_cons pe (pa_cons (pe_glob (v := .ref C) hgx hC rfl hdx) pa_nil he2) he) (by decide) (by decide) he hpl, fun F S H σ ρ W Q Qx R cf hf hx hE => ?_⟩
  refine se F S H σ ρ W _ Qx _ cf hf hx fun S' H' ρ' W' d v e' c r q => ?_
  unfold dIsX at q
  split at q
  · rename_i ds cc ds0 C' e0
    cases e0
    obtain ⟨b, hb, q⟩ := q
    obtain ⟨D, e1, T⟩ := hl _ hb
    simp only at e1
    subst e1
    obtain ⟨a, od, xs, rfl, h1, h2, h3⟩ := Rep.exc_iff.mp r
    cases h2
    exact ⟨a, D, C, b, rfl, h1.1, T.ex, T.kit, hE S' H' ρ' W' _ _ e' c (Rep.v_iff.mpr rfl) q⟩
  · exact q.elim
def dIsE (l : List (Value × Bool)) (C : V) (fe : TD) : TD := fun ρ W Q Qx => fe ρ W (fun d ρ' W' => dIsX l [d, .v C] fun y => Q y ρ' W') Qx
theorem al0q {p : Value × Bool → Prop} : ∀ v ∈ ([] : List (Value × Bool)), p v := fun v h => by cases h
theorem al1q {K : PySem.W.Frag} {C D : Addr} {b : Bool} {l : List (Value × Bool)} (h : IsAt K D C b) (r : ∀ q ∈ l, ∃ D, q.1 = .ref D ∧ IsAt K D C q.2) : ∀ q ∈ (Value.ref D, b) :: l, ∃ D, q.1 = .ref D ∧ IsAt K D C q.2 := fun v hv => by
  rcases List.mem_cons.mp hv with e | hv
  · rw [e]; exact ⟨D, rfl, h⟩
  · exact r v hv
theorem ge_isE {X : Cx} {Wx : WX} {e : Expr} {fe : TD} {C : Addr} {x : Str} {p px pos : Pos} {l : List (Value × Bool)} (hl : ∀ q ∈ l, ∃ D, q.1 = .ref D ∧ IsAt X.K D C q.2) (hC : X.mg x = some (.ref C)) (hm : X.mg "isinstance" = none) (ha : GE X Wx e fe)
    (hg : Gl X "isinstance" := by rfl) (hgx : Gl X x := by rfl) (hdx : (x == ("__debug__" : Str)) = false := by decide)
    (he : starEach [e, .Name x px] X.env = (false, eval e X.env) :: starEach [.Name x px] X.env := by rfl) (he2 : starEach [.Name x px] X.env = (false, eval (.Name x px) X.env) :: starEach [] X.env := by rfl) (hpl : (backTo pos (starEach [.Name x px] X.env)).any (·.1) = false := by rfl) :
    GE X Wx (.Call (.Name "isinstance" p) [e, .Name x px] [] pos) (dIsE l (.ref C) fe) := ge_isX hl hC hm ha hg hgx hdx he he2 hpl
end G

namespace G
open PySem PySem.Spec L2
/-! ### len(x), x the frame's own list -/
section
variable {X : Cx} {Wx : WX} {pos : Pos}
theorem ge_lenO (k : Nat) {x : Str} {p px : Pos} (hm : X.mg "len" = none) (hg : Gl X "len" := by rfl) (hN : X.N[k]? = some x := by rfl) (hvx : Vis X.env.scope x := by first | exact Or.inl rfl | exact Or.inr (Or.inl rfl) | exact Or.inr (Or.inr rfl)) (hd : (x == ("__debug__" : Str)) = false := by decide) (hcd : (x == ("__classdict__" : Str)) = false := by decide)
    (he : starEach [.Name x px] X.env = (false, eval (.Name x px) X.env) :: starEach [] X.env := by rfl) (hpl : (backTo pos (starEach [] X.env)).any (·.1) = false := by rfl) : GE X Wx (.Call (.Name "len" p) [.Name x px] [] pos) (dLenO k) := by
  refine ⟨_, pe_callB call_len hg hm (by decide +kernel) (pa_cons (pe_var hN hvx hd hcd) pa_nil he) (by decide) (by decide) he hpl, fun F S H σ ρ W Q Qx R cf hf hx hE => ?_⟩
  unfold dLenO at hf
  split at hf
  · rename_i ds hk
    obtain ⟨p', ys, hp, h2, h3, _⟩ := cf.ol k ds hk
    exact ⟨_, hp, _, _, rfl, .inl ⟨ys, .inl (.inl h2), rfl⟩, hE S H ρ W _ _ .refl cf (Rep.v_iff.mpr (by rw [h3.length])) hf⟩
  · exact hf.elim
end
/-! ### tuple(xs) of a list: a tuple that is known to have no dict -/
def rTupF (K : PySem.W.Frag) : List V → Hp → VK → Prop := fun xs H Q => ∃ (p : Addr) (ys : List V), xs = [.ref p] ∧ SqL K H p ys ∧ ∀ (l : Addr) (o : Obj), H l = none → o.dict = none → Q (.ref l) (upd H l (.frz o (.tup ys)))
theorem cr_tupF {X : Cx} : CallR X (.type "tuple") (rTupF X.K) := by
  intro pins s σ H xs us Q I r h
  obtain ⟨p, ys, rfl, hq, q⟩ := h
  obtain ⟨u, rfl, rx⟩ := vals1 r
  cases rx
  obtain ⟨its, rv, pl, hz⟩ := I.list hq
  have hlen := rv.length
  refine call_tuple_list pl.isList (fun h' kp => ?_) (by simp only [List.size_toArray] <;> omega)
  have I1 : Inv X pins σ H { s with heap := h' } := I.kept (t' := s.toks) kp
  have new : (h'.push { cls := .type "tuple", data := .seq its.toArray }).get? h'.objs.size = some { cls := .type "tuple", data := .seq its.toArray } := Heap.get?_push_size _ rfl
  refine ⟨.ref h'.objs.size, _, I1.laid (t' := s.toks) (o := .frz { cls := .type "tuple", data := .seq its.toArray } (.tup ys)) (fun b o e => Heap.get?_push_of_some _ e) (Nat.le_refl _) ⟨new, hz, its, rv, _, new, rfl, _, rfl⟩, rfl, q _ _ (I1.hok.fresh (Nat.le_refl _)) rfl⟩
def dTupF : List D → (D → Prop) → Prop := fun ds Q => match ds with
  | [.lst xs] => Q (.tpf xs)
  | _ => False
theorem cs_tupF {K : PySem.W.Frag} : CSnd K (rTupF K) dTupF := fun F S H W ds xs P R cb rd hp k => by
  unfold dTupF at hp
  split at hp
  · obtain ⟨x, rfl, h⟩ := reps1 rd
    obtain ⟨a, ys, rfl, h1, h2⟩ := Rep.lst_iff.mp h
    refine ⟨a, ys, rfl, h1.sq, fun p o hn hd => k _ _ _ (same_new hn) ?_ hp⟩
    exact Rep.tpf_iff.mpr ⟨p, ys, o, rfl, ⟨upd_same, fun z => cb.sd p z hn⟩, hd, h2.up (stp_same (F := F) cb (same_new hn))⟩
  · exact hp.elim
/-- such a tuple, read as any tuple -/
def wk : D → D
  | .tpf ds => .tup ds
  | d => d
theorem rep_wk {K : PySem.W.Frag} {S : Reg} {H : Hp} {d : D} {v : V} (h : Rep K S H d v) : Rep K S H (wk d) v := by
  unfold wk
  split
  · obtain ⟨a, xs, o, rfl, h1, _, h2⟩ := Rep.tpf_iff.mp h
    exact Rep.tup_iff.mpr ⟨a, xs, rfl, .inr (.inr ⟨o, h1⟩), h2⟩
  · exact h
def dWk (fe : TD) : TD := fun ρ W Q Qx => fe ρ W (fun d ρ' W' => Q (wk d) ρ' W') Qx
theorem ge_wk {X : Cx} {Wx : WX} {e : Expr} {fe : TD} (h : GE X Wx e fe) : GE X Wx e (dWk fe) := by
  obtain ⟨te, pe, se⟩ := h
  exact ⟨te, pe, fun F S H σ ρ W Q Qx R cf hf hx hE => se F S H σ ρ W _ Qx _ cf hf hx fun S' H' ρ' W' d v e c r q => hE S' H' ρ' W' _ v e c (rep_wk r) q⟩
/-! ### dict(t), t such a tuple, of pairs -/
section
variable {X : Cx}
theorem pairs2 {pins : List (Addr × Obj)} {σ : St} {H : Hp} {s : Shared} (I : Inv X pins σ H s) : ∀ {ps : List Addr} {kvs : List (Key × V)}, Paired (fun p kv => SqT X.K H p [kV kv.1, kv.2]) ps kvs →
    ∃ (prs : List (Key × Value)) (pvs : List (Value × Value)), KV kvs prs ∧ prs.length = ps.length ∧ pvs.length = ps.length ∧ ∀ (j : Nat) (k v : Value), pvs[j]? = some (k, v) → (∃ b, ps[j]? = some b ∧ PyProof.Rows.IsTup s.heap b #[k, v]) ∧ ∃ q, prs[j]? = some (q, v) ∧ keyIs q k = true
  | _, _, .nil => ⟨[], [], .nil, rfl, rfl, fun j k v e => by simp at e⟩
  | _, _, .cons (a := p) (b := kv) h t => by
    obtain ⟨prs, pvs, r, hl, hm, hp⟩ := pairs2 I t
    obtain ⟨its, rv, ht, _⟩ := I.tuple h
    obtain ⟨u, y, ei, ru, ry⟩ := vals2 rv
    subst ei
    refine ⟨(kv.1, y) :: prs, (u, y) :: pvs, .cons ⟨rfl, ry⟩ r, by simp [hl], by simp [hm], fun j k v e => ?_⟩
    cases j with
    | zero =>
      simp only [List.getElem?_cons_zero, Option.some.injEq, Prod.mk.injEq] at e
      obtain ⟨rfl, rfl⟩ := e
      exact ⟨⟨p, rfl, ht⟩, kv.1, rfl, kV_is (P := X.prog) (w := X.w) ru⟩
    | succ j =>
      obtain ⟨⟨b, h1, h2⟩, q, h3, h4⟩ := hp j k v (by simpa using e)
      exact ⟨⟨b, by simpa using h1, h2⟩, q, by simpa using h3, h4⟩
def rDictF (K : PySem.W.Frag) : List V → Hp → VK → Prop := fun xs H Q => ∃ (a : Addr) (o : Obj) (ps : List Addr) (kvs : List (Key × V)), xs = [.ref a] ∧ H a = some (.frz o (.tup (ps.map V.ref))) ∧ o.dict = none ∧ Paired (fun p kv => SqT K H p [kV kv.1, kv.2]) ps kvs ∧ ∀ p, H p = none → Q (.ref p) (upd H p (.dK (mergeK [] kvs)))
theorem cr_dictF (hcalm : X.calm = true) : CallR X (.type "dict") (rDictF X.K) := by
  intro pins s σ H xs us Q I r q
  obtain ⟨a, o, ps, kvs, rfl, hq, hd, hp, q⟩ := q
  obtain ⟨u, rfl, rx⟩ := vals1 r
  cases rx
  obtain ⟨ho, hz, its, rv, o', e', hc, n, hdat⟩ : ObjOk X.prog X.w H s.heap a (.frz o (.tup (ps.map V.ref))) := I.hok a _ hq
  rw [ho] at e'; cases e'
  have ei := refs_at rv
  subst ei
  obtain ⟨prs, pvs, rel, hl, hm, hpr⟩ := pairs2 I hp
  rw [List.length_map] at hz
  have hit : PySem.PairItems s.heap (ps.map Value.ref).toArray (fun j => (ps[j]?).getD 0) pvs := by
    refine ⟨by simp [hm], fun j k v e => ?_⟩
    obtain ⟨⟨b, h1, h2⟩, _⟩ := hpr j k v e
    exact ⟨by simp [h1], by show PySem.PairAt s.heap ((ps[j]?).getD 0) k v; rw [h1]; exact .inl h2⟩
  have P := PySem.PairArg.tuple (prog := X.prog) (w := X.w) a (ps.map Value.ref).toArray (fun j => (ps[j]?).getD 0) pvs
  refine _root_.PySem.call_dict_pairs (knd := mixKind X.prog X.w) (kvs := prs) P (I.ok.hd hcalm) ⟨⟨o, n, ho, hc, hd, hdat⟩, hit⟩ ⟨by rw [hl, hm], fun i key v e => ?_⟩ (by rw [hm]; exact hz) fun h' tk hd' k => ?_
  · obtain ⟨_, k, h3, h4⟩ := hpr i key v e
    exact ⟨k, h3, h4⟩
  · have hs : (s.heap.objs.size == sysModules) = false := beq_eq_false_iff_ne.mpr (Nat.ne_of_gt I.big)
    have hlen : (mergeK [] kvs).length ≤ sizeLine := by
      refine Nat.le_trans (length_mergeK kvs []) ?_
      rw [List.length_nil, Nat.zero_add, rel.length, hl]
      exact hz
    have kk : ∀ b o, s.heap.get? b = some o → h'.get? b = some o := fun b o e => k b o (by simp) e
    exact ⟨.ref s.heap.objs.size, upd H s.heap.objs.size (.dK (mergeK [] kvs)), I.laid (t' := tk) kk (Nat.le_refl _) (show ObjOk X.prog X.w _ _ _ (.dK (mergeK [] kvs)) from ⟨hlen, hs, merged [] prs, KV.merge rel .nil, hd'⟩), rfl, q _ (I.hok.fresh (Nat.le_refl _))⟩
end
def pairD (kv : Key × D) : D := .tup [keyD kv.1, kv.2]
theorem reps_pairs {K : PySem.W.Frag} {S : Reg} {H : Hp} : ∀ {kvs : List (Key × D)} {xs : List V}, Reps K S H (kvs.map pairD) xs → ∃ (ps : List Addr) (ws : List (Key × V)), xs = ps.map V.ref ∧ KR K S H kvs ws ∧ Paired (fun p kv => SqT K H p [kV kv.1, kv.2]) ps ws
  | [], xs, h => by
    cases Reps.nil_iff.mp h
    exact ⟨[], [], rfl, KR.nil, .nil⟩
  | (k, d) :: kvs, xs, h => by
    obtain ⟨x, r, rfl, h1, h2⟩ := Reps.cons_iff.mp h
    obtain ⟨ps, ws, rfl, h3, h4⟩ := reps_pairs h2
    obtain ⟨p, zs, rfl, h5, h6⟩ := Rep.tup_iff.mp h1
    obtain ⟨y, r1, rfl, h7, h8⟩ := Reps.cons_iff.mp h6
    obtain ⟨z, r2, rfl, h9, h10⟩ := Reps.cons_iff.mp h8
    cases Reps.nil_iff.mp h10
    have ey : y = kV k := by cases k <;> exact Rep.v_iff.mp h7
    subst ey
    exact ⟨p :: ps, (k, z) :: ws, rfl, KR.cons_iff.mpr ⟨z, ws, rfl, h9, h3⟩, .cons h5.sq h4⟩
section
variable {X : Cx} {Wx : WX} {e : Expr} {fe : TD} {pos : Pos}
/-- dict(t), as a dict of the frame's own -/
def dDictT (fe : TD) : TDD := fun ρ W Q Qx => fe ρ W (fun d ρ' W' => match d with | .tpf ds => ∃ kvs : List (Key × D), ds = kvs.map pairD ∧ Q (putsD kvs) ρ' W' | _ => False) Qx
theorem gd_dictT {x : Str} {p : Pos} (hc : X.calm = true) (hg : Gl X x) (hm : X.mg x = none) (hv : bootBuiltins x = some (.type "dict")) (ha : GE X Wx e fe) (hn : x ≠ "__name__" := by decide) (hdb : (x == ("__debug__" : Str)) = false := by decide)
    (he : starEach [e] X.env = (false, eval e X.env) :: starEach [] X.env := by rfl) (hpl : (backTo pos (starEach [] X.env)).any (·.1) = false := by rfl) : GD X Wx (.Call (.Name x p) [e] [] pos) (dDictT fe) := by
  obtain ⟨te, pe, se⟩ := ha
  refine ⟨_, pe_callTy (cr_dictF hc) hg hm hv (pa_cons pe pa_nil he) hn hdb he hpl, fun F S H σ ρ W Q Qx R cf hf hx hE => ?_⟩
  refine se F S H σ ρ W _ Qx _ cf hf hx fun S' H' ρ' W' d v e' c r q => ?_
  split at q
  · rename_i ds
    obtain ⟨kvs, rfl, q⟩ := q
    obtain ⟨a, xs, o, rfl, h1, h2, h3⟩ := Rep.tpf_iff.mp r
    obtain ⟨ps, ws, rfl, h4, h5⟩ := reps_pairs h3
    exact ⟨a, o, ps, ws, rfl, h1.1, h2, h5, fun l hl => hE S' H' ρ' W' _ _ l e' c (kr_merge h4 KR.nil) hl q⟩
  · exact q.elim
end
/-! ### repr(d), d a dict of texts -/
def pyKV (l : List (Str × Str)) : PyData := .dict (l.map fun p => (.str p.1, .str p.2))
@[irreducible] def shownK (l : List (Str × Str)) : Str := (pyKV l).shown
def kvsOf (l : List (Str × Str)) : List (Key × V) := l.map fun p => (.inr p.1, .str p.2)
theorem depth_kv : ∀ l : List (Str × Str), PyData.depthKv (l.map fun p => (PyData.str p.1, PyData.str p.2)) = 0
  | [] => by simp [PyData.depthKv]
  | p :: l => by simp [PyData.depthKv, PyData.depth, depth_kv l]
theorem show_kv : ∀ l : List (Str × Str), PyData.showableKv (l.map fun p => (PyData.str p.1, PyData.str p.2)) = true
  | [] => by simp [PyData.showableKv]
  | p :: l => by simp [PyData.showableKv, PyData.showable, show_kv l]
def rReprK : List V → Hp → VK → Prop := fun xs H Q => ∃ (a : Addr) (l : List (Str × Str)), xs = [.ref a] ∧ H a = some (.dK (kvsOf l)) ∧ (shownK l).length ≤ sizeLine ∧ Q (.str (shownK l)) H
theorem reads_kv {prog : Program} {w : World} {h : Heap} : ∀ {l : List (Str × Str)} {vs : List (Key × Value)} {es : List DictEntry}, KV (kvsOf l) vs → PySem.Pairs (mixKind prog w) es vs →
    ReadsAll h (es.map (·.key)) ((l.map fun p => (PyData.str p.1, PyData.str p.2)).map (·.1)) [] ∧ ReadsAll h (es.map (·.val)) ((l.map fun p => (PyData.str p.1, PyData.str p.2)).map (·.2)) []
  | [], _, _, .nil, .nil => ⟨.nil, .nil⟩
  | p :: l, _, _, .cons ⟨e1, r1⟩ rt, .cons (e := e) hk hv ht => by
    obtain ⟨a1, a2⟩ := reads_kv rt ht
    obtain ⟨t, hu⟩ := r1
    rw [← e1] at hk
    have hk' : keyIs (.inr p.1) e.key = true := hk
    obtain ⟨_, _, z, _⟩ | ⟨x, t2, z, hkey⟩ := keyIs_shape hk'
    · cases z
    · cases z
      refine ⟨?_, ?_⟩
      · show ReadsAll h (e.key :: _) (PyData.str p.1 :: _) []
        rw [hkey]
        exact .cons (.str _ _) a1
      · show ReadsAll h (e.val :: _) (PyData.str p.2 :: _) []
        rw [hv, hu]
        exact .cons (.str _ _) a2
theorem cr_reprK {X : Cx} (hu : X.A.units + 64 < cLine) (hg : X.A.guards = some []) : CallR X (.builtin "repr") rReprK := by
  intro pins s σ H xs us Q I r h
  obtain ⟨a, l, rfl, ha, hz, q⟩ := h
  obtain ⟨u, rfl, rx⟩ := vals1 r
  cases rx
  obtain ⟨_, hs, vs, rel, o, es, ep, ho, hex, hdat, _, hp, _⟩ := dk_of I.hok ha
  obtain ⟨r1, r2⟩ := reads_kv (h := s.heap) rel hp
  have rd : Reads s.heap (.ref a) (pyKV l) ([a]) := by
    have := Reads.dict (h := s.heap) (a := a) (kvs := l.map fun p => (PyData.str p.1, PyData.str p.2)) ho hex.1 hdat r1 r2
    simpa [pyKV] using this
  unfold shownK at hz q
  refine repr_of_reads' rd (by rw [pyKV, PyData.showable]; exact show_kv l) (fun _ hm => ?_) hg (by rw [pyKV, PyData.depth, depth_kv]; omega) (fun _ _ e => e) (fun h' u tk hk => ⟨.str _, H, I.kept hk, ⟨u, rfl⟩, q⟩) hz
  rw [List.mem_singleton] at hm
  rw [hm] at hs
  exact absurd hs (by simp)
def dctOf (l : List (Str × Str)) : D := .dct (l.map fun p => .inr p.1) (l.map fun p => .str p.2)
def dReprK : List D → (D → Prop) → Prop := fun ds Q => ∃ l, ds = [dctOf l] ∧ (shownK l).length ≤ sizeLine ∧ Q (.str (shownK l))
theorem cs_reprK {K : PySem.W.Frag} : CSnd K rReprK dReprK := fun F S H W ds xs P R cb rd hp k => by
  obtain ⟨l, rfl, h1, h2⟩ := hp
  obtain ⟨x, rfl, h⟩ := reps1 rd
  obtain ⟨a, ys, rfl, h3, h4, h5⟩ := Rep.dct_iff.mp h
  refine ⟨a, l, rfl, ?_, h1, k _ _ H (Same.refl H) (Rep.v_iff.mpr rfl) h2⟩
  have e : ys = l.map fun p => V.str p.2 := Reps.of_map_v (xs := l.map fun p => V.str p.2) (by rw [List.map_map]; exact h5)
  rw [h3.1, e]
  congr 2
  unfold kvsOf
  clear h h3 h4 h5 e h1 h2 rd k
  induction l with
  | nil => rfl
  | cons p l ih => simp only [List.map_cons, List.zip_cons_cons, ih]
end G

namespace G
open PySem PySem.Spec L2 Builtin
/-! ### what repr shows is a text that may be compared: each sign a sign -/
def OkS (s : Str) : Prop := ∀ c ∈ s.cps.toList, c < 0x110000
theorem okS_iff {s : Str} : PyData.strOk s = true ↔ OkS s := by
  unfold PyData.strOk OkS
  rw [Array.all_eq_true_iff_forall_mem]
  exact ⟨fun h c hc => of_decide_eq_true (h c (by simpa using hc)), fun h c hc => decide_eq_true (h c (by simpa using hc))⟩
theorem char_lt (c : Char) : c.toNat < 0x110000 := by
  have := c.valid
  unfold UInt32.isValidChar Nat.isValidChar at this
  show c.val.toNat < _
  omega
theorem okS_of (s : String) : OkS (Str.ofString s) := fun c hc => by
  rw [Str.ofString_eq_toList] at hc
  simp only [List.mem_map] at hc
  obtain ⟨x, _, rfl⟩ := hc
  exact char_lt x
theorem okS_app {a b : Str} (h1 : OkS a) (h2 : OkS b) : OkS (a ++ b) := fun c hc => by
  have e : (a ++ b).cps.toList = a.cps.toList ++ b.cps.toList := by
    show (a.cps ++ b.cps).toList = _
    simp
  rw [e] at hc
  rcases List.mem_append.mp hc with hc | hc
  · exact h1 c hc
  · exact h2 c hc
theorem okS_join {sep : Str} (hs : OkS sep) : ∀ {ts : List Str}, (∀ t ∈ ts, OkS t) → OkS (Str.join sep ts)
  | [], _ => fun c hc => by cases hc
  | [x], h => h x List.mem_cons_self
  | x :: y :: r, h => okS_app (okS_app (h x List.mem_cons_self) hs) (okS_join hs fun t ht => h t (List.mem_cons_of_mem _ ht))
theorem okS_textFrom : ∀ {ts : List Str} {k : Nat} {acc : Str}, OkS acc → (∀ t ∈ ts, OkS t) → OkS (textFrom k acc ts)
  | [], _, _, h, _ => h
  | t :: ts, k, acc, h, ht => okS_textFrom (ts := ts) (okS_app (okS_app h (okS_of _)) (ht t List.mem_cons_self)) fun x hx => ht x (List.mem_cons_of_mem _ hx)
theorem okS_list {ts : List Str} (h : ∀ t ∈ ts, OkS t) : OkS (listText ts) := okS_app (okS_textFrom (okS_of _) h) (okS_of _)
theorem okS_tuple {ts : List Str} (h : ∀ t ∈ ts, OkS t) : OkS (tupleText ts) := okS_app (okS_app (okS_of _) (okS_join (okS_of _) h)) (okS_of _)
theorem okS_dict {ts : List Str} (h : ∀ t ∈ ts, OkS t) : OkS (dictText ts) := okS_app (okS_app (okS_of _) (okS_join (okS_of _) h)) (okS_of _)
theorem reprChar_lt {q c : Nat} (hc : c < 0x110000) : ∀ x ∈ Str.reprChar q c, x < 0x110000 := by
  have hex : ∀ w, ∀ x ∈ List.replicate (w - ((Nat.toDigits 16 c).map Char.toNat).length) 48 ++ (Nat.toDigits 16 c).map Char.toNat, x < 0x110000 := fun w x hx => by
    rcases List.mem_append.mp hx with hx | hx
    · rw [(List.mem_replicate.mp hx).2]; decide
    · rw [List.mem_map] at hx
      obtain ⟨y, _, rfl⟩ := hx
      exact char_lt y
  have two : ∀ a b : Nat, a < 0x110000 → b < 0x110000 → ∀ x ∈ [a, b], x < 0x110000 := fun a b ha hb x hx => by
    simp only [List.mem_cons, List.not_mem_nil, or_false] at hx
    rcases hx with rfl | rfl
    · exact ha
    · exact hb
  intro x hx
  unfold Str.reprChar at hx
  dsimp only at hx
  split at hx
  · exact two _ _ (by decide) hc x hx
  split at hx
  · exact two _ _ (by decide) (by decide) x hx
  split at hx
  · exact two _ _ (by decide) (by decide) x hx
  split at hx
  · exact two _ _ (by decide) (by decide) x hx
  split at hx
  · rw [List.mem_singleton.mp hx]; exact hc
  split at hx
  · rcases List.mem_append.mp hx with hx | hx
    · exact two _ _ (by decide) (by decide) x hx
    · exact hex 2 x hx
  split at hx
  · rcases List.mem_append.mp hx with hx | hx
    · exact two _ _ (by decide) (by decide) x hx
    · exact hex 4 x hx
  · rcases List.mem_append.mp hx with hx | hx
    · exact two _ _ (by decide) (by decide) x hx
    · exact hex 8 x hx
theorem foldl_repr_lt (q : Nat) : ∀ (l : List Nat) (acc : Array Nat), (∀ c ∈ l, c < 0x110000) → (∀ c ∈ acc.toList, c < 0x110000) → ∀ c ∈ (l.foldl (fun out c => out ++ (Str.reprChar q c).toArray) acc).toList, c < 0x110000
  | [], acc, _, h => h
  | d :: r, acc, h, ha => by
    rw [List.foldl_cons]
    refine foldl_repr_lt q r _ (fun c hc => h c (List.mem_cons_of_mem _ hc)) fun c hc => ?_
    rw [Array.toList_append] at hc
    rcases List.mem_append.mp hc with hc | hc
    · exact ha c hc
    · exact reprChar_lt (h d List.mem_cons_self) c (by simpa using hc)
theorem okS_repr {x : Str} (h : OkS x) : OkS (reprText x) := fun c hc => by
  have hq : reprQuote x < 0x110000 := by
    unfold reprQuote
    split <;> decide
  unfold reprText at hc
  have hc : c ∈ ((x.cps.foldl (fun out c => out ++ (Str.reprChar (reprQuote x) c).toArray) #[reprQuote x]).push (reprQuote x)).toList := hc
  rw [Array.toList_push, ← Array.foldl_toList] at hc
  rcases List.mem_append.mp hc with hc | hc
  · refine foldl_repr_lt (reprQuote x) x.cps.toList _ h (fun c hc => ?_) c hc
    rw [List.mem_singleton.mp hc]; exact hq
  · rw [List.mem_singleton.mp hc]; exact hq
mutual
theorem shown_ok : ∀ {n : Nat} {d : D}, D.good n d = true → OkS d.py.shown
  | _, .v .non, _ => by rw [D.py, PyData.shown]; exact okS_of _
  | _, .v (.bl b), _ => by rw [D.py, PyData.shown]; cases b <;> exact okS_of _
  | _, .v (.int i), _ => by rw [D.py, PyData.shown]; exact okS_of _
  | _, .v (.str b), g => by
    rw [D.good] at g
    rw [D.py, PyData.shown]
    exact okS_repr (okS_iff.mp g)
  | _, .v (.byt _), h => by simp [D.good] at h
  | _, .v (.flt _), h => by simp [D.good] at h
  | _, .v (.ref _), h => by simp [D.good] at h
  | _, .v (.ty _), h => by simp [D.good] at h
  | 0, .tup _, h => by simp [D.good] at h
  | 0, .lst _, h => by simp [D.good] at h
  | 0, .scr _, h => by simp [D.good] at h
  | 0, .dct _ _, h => by simp [D.good] at h
  | _ + 1, .dct _ _, h => by simp [D.good] at h
  | 0, .exc _ _ _, h => by simp [D.good] at h
  | _ + 1, .exc _ _ _, h => by simp [D.good] at h
  | 0, .tpf _, h => by simp [D.good] at h
  | _ + 1, .tpf _, h => by simp [D.good] at h
  | n + 1, .tup ds, g => by
    rw [D.py, PyData.shown]
    exact okS_tuple (showns_ok (n := n) (ds := ds) (by simpa [D.good] using g))
  | n + 1, .lst ds, g => by
    rw [D.py, PyData.shown]
    exact okS_list (showns_ok (n := n) (ds := ds) (by simpa [D.good] using g))
  | n + 1, .scr ns, g => by
    rw [D.py, PyData.shown]
    refine okS_list fun t ht => ?_
    clear g
    induction ns with
    | nil => rw [List.map_nil, PyData.shownAll] at ht; cases ht
    | cons i r ih =>
      rw [List.map_cons, PyData.shownAll] at ht
      rcases List.mem_cons.mp ht with rfl | ht
      · rw [PyData.shown]; exact okS_of _
      · exact ih ht
theorem showns_ok : ∀ {n : Nat} {ds : List D}, goods n ds = true → ∀ t ∈ PyData.shownAll (pys ds), OkS t
  | _, [], _ => fun t ht => by rw [pys, PyData.shownAll] at ht; cases ht
  | n, d :: ds, g => fun t ht => by
    rw [goods, Bool.and_eq_true] at g
    rw [pys, PyData.shownAll] at ht
    rcases List.mem_cons.mp ht with rfl | ht
    · exact shown_ok g.1
    · exact showns_ok g.2 t ht
end
/-! the dicts of texts -/
theorem shownK_ok {l : List (Str × Str)} (h : ∀ p ∈ l, PyData.strOk p.1 = true ∧ PyData.strOk p.2 = true) : PyData.strOk (shownK l) = true := by
  rw [okS_iff]
  unfold shownK pyKV
  rw [PyData.shown]
  refine okS_dict fun t ht => ?_
  induction l with
  | nil => rw [List.map_nil, PyData.shownKv] at ht; cases ht
  | cons p l ih =>
    rw [List.map_cons, PyData.shownKv] at ht
    rcases List.mem_cons.mp ht with rfl | ht
    · have := h p List.mem_cons_self
      rw [PyData.shown, PyData.shown]
      exact okS_app (okS_app (okS_repr (okS_iff.mp this.1)) (okS_of _)) (okS_repr (okS_iff.mp this.2))
    · exact ih (fun p hp => h p (List.mem_cons_of_mem _ hp)) ht
theorem shownK_len {l : List (Str × Str)} {B : Nat} (h : ∀ p ∈ l, PyData.strOk p.1 = true ∧ PyData.strOk p.2 = true ∧ p.1.length ≤ B ∧ p.2.length ≤ B) : (shownK l).length ≤ l.length * (20 * B + 8) + 3 := by
  unfold shownK pyKV
  rw [PyData.shown]
  have h1 := dictText_len_le (PyData.shownKv (l.map fun p => (.str p.1, .str p.2)))
  have h2 : ((PyData.shownKv (l.map fun p => (PyData.str p.1, PyData.str p.2))).map (·.length)).sum + 2 * (PyData.shownKv (l.map fun p => (PyData.str p.1, PyData.str p.2))).length ≤ l.length * (20 * B + 8) := by
    clear h1
    induction l with
    | nil => simp [PyData.shownKv]
    | cons p l ih =>
      have ih := ih fun p hp => h p (List.mem_cons_of_mem _ hp)
      have lt16 : ∀ {s : Str}, PyData.strOk s = true → ∀ c ∈ s.cps.toList, c < 16 ^ 8 := fun hs c hc => Nat.lt_of_lt_of_le (okS_iff.mp hs c hc) (by decide)
      obtain ⟨a1, a2, a3, a4⟩ := h p List.mem_cons_self
      have b1 := StrLaws.reprText_len p.1 (lt16 a1)
      have b2 := StrLaws.reprText_len p.2 (lt16 a2)
      rw [List.map_cons, PyData.shownKv, List.map_cons, List.sum_cons, List.length_cons, List.length_cons, PyData.shown, PyData.shown, strLen_append, strLen_append]
      have e : (l.length + 1) * (20 * B + 8) = l.length * (20 * B + 8) + (20 * B + 8) := Nat.succ_mul _ _
      have : (": " : Str).length = 2 := rfl
      omega
  omega
end G

namespace G
open PySem PySem.Spec L2
/-! ### set(xs), xs a list or a tuple of ints and texts -/
instance memDec (k : Key) (l : List Key) : Decidable (k ∈ l) := @List.instDecidableMemOfLawfulBEq Key instBEqOfDecidableEq inferInstance k l
def dds (ks : List Key) : List Key := ks.foldl (fun acc k => if k ∈ acc then acc else acc ++ [k]) []
theorem dds_snoc (ks : List Key) (k : Key) : dds (ks ++ [k]) = if k ∈ dds ks then dds ks else dds ks ++ [k] := by
  unfold dds; rw [List.foldl_append]; rfl
theorem mem_dds : ∀ (n : Nat) (ks : List Key), ks.length = n → ∀ k, k ∈ dds ks ↔ k ∈ ks := by
  intro n
  induction n with
  | zero => intro ks h k; rw [List.length_eq_zero_iff.mp h]; exact Iff.rfl
  | succ n ih =>
    intro ks h k
    obtain ⟨r, x, rfl⟩ : ∃ r x, ks = r ++ [x] := ⟨ks.dropLast, ks.getLast (fun e => by rw [e] at h; cases h), (List.dropLast_concat_getLast _).symm⟩
    have hr : r.length = n := by rw [List.length_append] at h; simpa using h
    rw [dds_snoc, List.mem_append, List.mem_singleton, ← ih r hr k]
    by_cases q : x ∈ dds r
    · rw [if_pos q]
      exact ⟨.inl, fun z => z.elim id fun e => e ▸ q⟩
    · rw [if_neg q, List.mem_append, List.mem_singleton]
theorem dds_mem {ks : List Key} {k : Key} : k ∈ dds ks ↔ k ∈ ks := mem_dds _ ks rfl k
theorem dds_le (ks : List Key) : (dds ks).length ≤ ks.length := by
  have : ∀ (ks acc : List Key), (ks.foldl (fun acc k => if k ∈ acc then acc else acc ++ [k]) acc).length ≤ acc.length + ks.length := by
    intro ks
    induction ks with
    | nil => intro acc; exact Nat.le_refl _
    | cons k r ih =>
      intro acc
      refine Nat.le_trans (ih _) ?_
      dsimp only
      split
      · simp only [List.length_cons]; omega
      · simp only [List.length_cons, List.length_append, List.length_nil]; omega
  have := this ks []
  unfold dds
  simpa using this
theorem dds_nd : ∀ (n : Nat) (ks : List Key), ks.length = n → (dds ks).Nodup := by
  intro n
  induction n with
  | zero => intro ks h; rw [List.length_eq_zero_iff.mp h]; exact List.nodup_nil
  | succ n ih =>
    intro ks h
    obtain ⟨r, x, rfl⟩ : ∃ r x, ks = r ++ [x] := ⟨ks.dropLast, ks.getLast (fun e => by rw [e] at h; cases h), (List.dropLast_concat_getLast _).symm⟩
    have hr : r.length = n := by rw [List.length_append] at h; simpa using h
    rw [dds_snoc]
    split
    · exact ih r hr
    · rename_i q
      rw [List.nodup_append]
      exact ⟨ih r hr, by simp, fun a ha b hb e => q (by rw [List.mem_singleton.mp hb] at e; exact e ▸ ha)⟩
/-- all unlike, or not -/
theorem dds_len_eq (ks : List Key) : (dds ks).length = ks.length ↔ ks.Nodup := by
  constructor
  · intro h
    have sp : ks.Subset (dds ks) := fun k hk => dds_mem.mpr hk
    have key : ∀ (n : Nat) (ks : List Key), ks.length = n → (dds ks).length = ks.length → ks.Nodup := by
      intro n
      induction n with
      | zero => intro ks h _; rw [List.length_eq_zero_iff.mp h]; exact List.nodup_nil
      | succ n ih =>
        intro ks h e
        obtain ⟨r, x, rfl⟩ : ∃ r x, ks = r ++ [x] := ⟨ks.dropLast, ks.getLast (fun e => by rw [e] at h; cases h), (List.dropLast_concat_getLast _).symm⟩
        have hr : r.length = n := by rw [List.length_append] at h; simpa using h
        have le := dds_le r
        rw [dds_snoc, List.length_append, List.length_singleton] at e
        by_cases q : x ∈ dds r
        · rw [if_pos q] at e; omega
        · rw [if_neg q, List.length_append, List.length_singleton] at e
          rw [List.nodup_append]
          exact ⟨ih r hr (by omega), by simp, fun a ha b hb z => q (by rw [List.mem_singleton.mp hb] at z; exact dds_mem.mpr (z ▸ ha))⟩
    exact key _ ks rfl h
  · intro h
    have key : ∀ (n : Nat) (ks : List Key), ks.length = n → ks.Nodup → dds ks = ks := by
      intro n
      induction n with
      | zero => intro ks h _; rw [List.length_eq_zero_iff.mp h]; rfl
      | succ n ih =>
        intro ks h nd
        obtain ⟨r, x, rfl⟩ : ∃ r x, ks = r ++ [x] := ⟨ks.dropLast, ks.getLast (fun e => by rw [e] at h; cases h), (List.dropLast_concat_getLast _).symm⟩
        have hr : r.length = n := by rw [List.length_append] at h; simpa using h
        rw [List.nodup_append] at nd
        have e := ih r hr nd.1
        rw [dds_snoc, e, if_neg fun z => nd.2.2 x z x (by simp) rfl]
    rw [key _ ks rfl h]
abbrev KSet (P : Program) (w : World) (h : Heap) (C : Addr) (ks : List Key) : Prop := h.SetOf (mixKind P w) C (fun k => decide (k ∈ ks)) (dds ks).length
theorem kset_eq {P : Program} {w : World} {h : Heap} {C : Addr} {ks : List Key} {f : Key → Bool} {n : Nat} (x : h.SetOf (mixKind P w) C f n) (e : ∀ k, f k = decide (k ∈ ks)) (en : n = (dds ks).length) : KSet P w h C ks := by
  have : f = fun k => decide (k ∈ ks) := funext e
  unfold KSet
  rw [← this, ← en]; exact x
section
variable {P : Program} {w : World} {A : Around} {R : Result → Shared → Prop} {J : Addr} {fp wr : List Addr} {Gs : Array GenState → Array GenState → Prop} {n : Nat} {Pi : Nat → Value → Prop} {St : Nat → Shared → Prop}
theorem set_loop (Wk : WalksS P w A.in1 J fp wr Gs n Pi St) (C : Addr) (nC : C ∉ fp) (ks : List Key) (len : ks.length = n) (small : n + 1 < scanBound) (there : ∀ i v, Pi i v → ∃ k, ks[i]? = some k ∧ (mixKind P w).is k v = true ∧ v.scannable = true) :
    ∀ (m i : Nat) (s : Shared), i + m = n → St i s → KSet P w s.heap C (ks.take i) → (∀ s', Moved (C :: wr) Gs s s' → KSet P w s'.heap C ks → R (.ok (.ret .none)) s') →
      codeAny (model P w) A (.builtin "set.update.loop" ⟨[.ref C, .ref J], []⟩) R s := by
  have nw : C ∉ wr := fun z => nC (Wk.sub _ z)
  have up : ∀ b ∈ wr, b ∈ C :: wr := fun _ z => List.mem_cons_of_mem _ z
  have kept : ∀ {s s' : Shared} {L : List Key}, Moved wr Gs s s' → KSet P w s.heap C L → KSet P w s'.heap C L := fun {s s' L} mv ⟨o, es, ep, t, ho, r⟩ => ⟨o, es, ep, t, mv.heap C _ nw ho, r⟩
  intro m
  induction m with
  | zero =>
    intro i s hi st S0 fin
    obtain rfl : i = n := by omega
    refine (codeAny_builtin PyProof.Rows.F.entry_set_update_loop ?_); rw [Around.under_plainId PyProof.Rows.F.plain_set_update_loop _]
    refine wpAny_bind (m := pyNext (.ref J)) (Wk.done s _ _ st fun s' mv => ?_)
    rw [← len, List.take_length] at S0
    exact wpAny_pure (fin s' (mv.mono up) (kept mv S0))
  | succ m ih =>
    intro i s hi st S0 fin
    refine (codeAny_builtin PyProof.Rows.F.entry_set_update_loop ?_); rw [Around.under_plainId PyProof.Rows.F.plain_set_update_loop _]
    refine wpAny_bind (m := pyNext (.ref J)) (Wk.item i s _ _ (by omega) st fun v s' hP st' mv => ?_)
    obtain ⟨k, hk, ki, ksc⟩ := there i v hP
    have S1 := kept mv S0
    refine wpAny_bind (m := holding [v] (setAdd C v)) (wpAny_holding ?_)
    unfold setAdd
    refine wpAny_holding (wpAny_bind ((mixKind P w).pyHash ki ?_))
    have few : (dds (ks.take i)).length + 1 < scanBound := by
      have a := dds_le (ks.take i)
      rw [List.length_take] at a
      omega
    refine wpAny_setAddHashed_of (s := { s' with toks := s'.toks + 1 }) ki ksc S1 few fun h2 same S2 => ?_
    have S3 : KSet P w h2 C (ks.take (i + 1)) := by
      have e : ks.take (i + 1) = ks.take i ++ [k] := by rw [List.take_add_one, hk]; rfl
      refine kset_eq S2 (fun x => ?_) ?_
      · rw [e, Bool.eq_iff_iff, Bool.or_eq_true, decide_eq_true_eq, decide_eq_true_eq, decide_eq_true_eq, List.mem_append, List.mem_singleton]
      · rw [e, dds_snoc]
        by_cases q : k ∈ ks.take i
        · rw [if_pos (decide_eq_true q), if_pos (dds_mem.mpr q)]
        · rw [if_neg (by rw [decide_eq_true_eq]; exact q), if_neg (fun z => q (dds_mem.mp z)), List.length_append]; rfl
    refine wpAny_pure ⟨PySem.plainId_quiet PyProof.Rows.F.plain_set_update_loop _, ih (i + 1) _ (by omega) (Wk.frame _ s' _ _ st' (Nat.le_succ _) fun b hb o e => ?_) S3 fun s3 mv3 S4 => fin s3 ?_ S4⟩
    · rw [same.2 b fun z => nC (z ▸ hb)]; exact e
    · refine Moved.trans Wk.gtrans ((mv.mono up).then_heap (Nat.le_succ _) fun b o hb e => ?_) mv3
      rw [same.2 b fun z => hb (by rw [z]; exact List.mem_cons_self)]; exact e
end
end G
namespace G
open PySem PySem.Spec L2
theorem two_ne {a b c : Addr} (h : a ≠ b) (k : a ≠ c) : a ∉ [b, c] := fun z => by
  rcases List.mem_cons.mp z with z | z
  · exact h z
  · exact k (List.mem_singleton.mp z)
/-- the empty set as it is made -/
abbrev eSet (led : Bool) : Obj := { cls := .type "set", dict := none, data := .set #[] 0 (.fresh 0 0 led) }
section
variable {P : Program} {w : World} {A : Around} {E : Value → Shared → Prop} {s : Shared}
theorem eSet_k {h : Heap} {led : Bool} {C : Addr} (e : h.get? C = some (eSet led)) : KSet P w h C [] := by
  refine kset_eq (f := fun _ => false) (n := 0) ⟨_, #[], 0, _, e, ⟨rfl, rfl, rfl⟩, rfl, (fun _ z => by simp at z), (fun k => by simp), (by decide), (by rfl), rfl⟩ (fun k => ?_) rfl
  exact (decide_eq_false (by simp)).symm
/-- what the walk of the items asks, and what it leaves -/
theorem set_fill {led : Bool} {a J : Addr} {u : Shared} {items : Array Value} {ks : List Key} {wr : List Addr} {Gs : Array GenState → Array GenState → Prop} {St : Nat → Shared → Prop} {B : Around} {R : Result → Shared → Prop}
    (Wk : WalksS P w B.in1 J [J, a] wr Gs items.size (fun i v => items[i]? = some v) St) (hC : s.heap.objs.size ∉ [J, a]) (len : ks.length = items.size) (small : items.size + 1 < scanBound)
    (there : ∀ (i : Nat) v, items[i]? = some v → ∃ k, ks[i]? = some k ∧ (mixKind P w).is k v = true ∧ v.scannable = true) (st : St 0 u) (e : u.heap.get? s.heap.objs.size = some (eSet led))
    (fin : ∀ s', Moved (s.heap.objs.size :: wr) Gs u s' → KSet P w s'.heap s.heap.objs.size ks → R (.ok (.ret .none)) s') :
    codeAny (model P w) B (.builtin "set.update.loop" ⟨[.ref s.heap.objs.size, .ref J], []⟩) R u :=
  set_loop Wk s.heap.objs.size hC ks len small there items.size 0 u (Nat.zero_add _) st (eSet_k e) fin
theorem set_of_list {a : Addr} {items : Array Value} {ks : List Key} {Q : Value → Shared → Prop} (calm : A.handled = none) (isl : s.heap.IsList a items) (len : ks.length = items.size) (small : items.size + 1 < scanBound)
    (there : ∀ (i : Nat) v, items[i]? = some v → ∃ k, ks[i]? = some k ∧ (mixKind P w).is k v = true ∧ v.scannable = true)
    (fin : ∀ (h2 : Heap) (tk : Nat), KSet P w h2 s.heap.objs.size ks → (∀ b o, b < s.heap.objs.size → s.heap.get? b = some o → h2.get? b = some o) → Q (.ref s.heap.objs.size) { s with heap := h2, toks := tk }) :
    wpAny (model P w) A (call (.type "set") [.ref a]) Q E s := by
  obtain ⟨c, tl, m1⟩ := PySem.F.called_set.mro
  have m2 := PySem.F.called_set.made; have m3 := PySem.F.called_set.sub
  refine wpAny_call (codeAny_of_tree ?_)
  show wpAny _ _ (callAny (.type "set") _) _ _ _
  refine wpAny_pure ⟨Code.quiet_builtin _ (by decide +kernel), codeAny_builtin F.entry_type_call ?_⟩
  rw [Around.under_plain (weight_type_call_type "set" [.ref a] []) rfl]
  have m4 := PySem.F.called_set.notType; have m5 := PySem.F.called_set.canCreate; have m6 := PySem.F.typeCall_set_1 (.ref a)
  repeat (any_goals (first | assumption | wp_step))
  refine codeAny_mono (code_set_new_1 (.ref a) (E := E) (Q₁ := fun v u => ∃ led : Bool, v = .ref s.heap.objs.size ∧ u = { s with heap := s.heap.push (eSet led) }) fun led => ⟨led, rfl, rfl⟩) fun r u hr => ?_
  match r, hr with
  | .error _, hr => exact hr
  | .ok (.ret _), ⟨led, e1, e2⟩ =>
    subst e1; subst e2
    have g0 : (s.heap.push (eSet led)).get? s.heap.objs.size = some (eSet led) := Heap.get?_push_size _ rfl
    have ty : Shared.TypeIs { s with heap := s.heap.push (eSet led) } (.ref s.heap.objs.size) "set" := ⟨_, g0, rfl⟩
    have m7 := PySem.F.called_set.init.lookup; have m8 := PySem.F.called_set.init.bind (.ref s.heap.objs.size)
    repeat (any_goals (first | assumption | wp_step))
    refine codeAny_mono (codeAny_call_builtin (R := wants (fun v u => v = .none ∧ ∃ h2 tk, u = { s with heap := h2, toks := tk } ∧ KSet P w h2 s.heap.objs.size ks ∧ ∀ b o, b < s.heap.objs.size → s.heap.get? b = some o → h2.get? b = some o) E) PySem.F.called_set.init.plain PySem.F.entry_set_init (check_set_init_1 ty ?_)) fun r2 u2 hr2 => ?_
    · obtain ⟨⟨oc, od, odt, osl⟩, ho, hc, nl, hd⟩ := isl
      simp only at hc hd
      subst hc; subst hd
      have g1 : (s.heap.push (eSet led)).get? a = some { cls := .type "list", dict := od, data := .seq items nl, slots := osl } := Heap.get?_push_of_some _ ho
      have n1 := PySem.F.sub_list_set; have n2 := PySem.F.sub_list_frozenset; have n3 : (Value.type "list" == Value.type "dict") = false := by decide
      have isl1 : (s.heap.push (eSet led)).IsList a items := ⟨_, g1, rfl, nl, rfl⟩
      unfold Builtin.«set.__init__» noKeywords Builtin.Frozenset.updateFrom
      generalize hI : pyIter = walked
      wp_walk
      subst hI
      refine wpAny_pyIter_list isl1 (wpAny_bind (wpAny_runValue ?_))
      have la : a < s.heap.objs.size := Heap.lt_size ho
      have sz1 : (s.heap.push (eSet led)).objs.size = s.heap.objs.size + 1 := Heap.size_push ..
      refine set_fill (led := led) ((Walks.list (by simp [calm]) _ a (by rw [sz1]; exact Nat.ne_of_lt (Nat.lt_succ_of_lt la)) items).toS) (by rw [sz1]; exact two_ne (Nat.ne_of_lt (Nat.lt_succ_self _)) (Nat.ne_of_gt la)) len small there ⟨⟨_, Heap.get?_push_size _ rfl, rfl, rfl⟩, isl1.push _⟩ (Heap.get?_push_of_some _ g0) fun u mv S => ?_
      obtain ⟨h2, g2, d2, t2, o2⟩ := u
      obtain rfl : g2 = s.gens := mv.gens
      obtain rfl : d2 = s.drawn := mv.drawn
      obtain rfl : o2 = s.os := mv.os
      refine wpAny_pure (wpAny_pure ⟨rfl, h2, t2, rfl, S, fun b o hb e => mv.heap b o ?_ (Heap.get?_push_of_some _ (Heap.get?_push_of_some _ e))⟩)
      rw [sz1]; exact two_ne (Nat.ne_of_lt hb) (Nat.ne_of_lt (Nat.lt_succ_of_lt hb))
    · match r2, hr2 with
      | .error _, hr2 => exact hr2
      | .ok (.ret _), ⟨e1, h2, tk, e2, S, kp⟩ =>
        subst e1; subst e2
        repeat (any_goals (first | assumption | wp_step))
        exact fin _ _ S kp
theorem set_of_tuple {a : Addr} {items : Array Value} {ks : List Key} {Q : Value → Shared → Prop} (calm : A.handled = none) (isl : s.heap.IsTuple a items) (len : ks.length = items.size) (small : items.size + 1 < scanBound)
    (there : ∀ (i : Nat) v, items[i]? = some v → ∃ k, ks[i]? = some k ∧ (mixKind P w).is k v = true ∧ v.scannable = true)
    (fin : ∀ (h2 : Heap) (tk : Nat), KSet P w h2 s.heap.objs.size ks → (∀ b o, b < s.heap.objs.size → s.heap.get? b = some o → h2.get? b = some o) → Q (.ref s.heap.objs.size) { s with heap := h2, toks := tk }) :
    wpAny (model P w) A (call (.type "set") [.ref a]) Q E s := by
  obtain ⟨c, tl, m1⟩ := PySem.F.called_set.mro
  have m2 := PySem.F.called_set.made; have m3 := PySem.F.called_set.sub
  refine wpAny_call (codeAny_of_tree ?_)
  show wpAny _ _ (callAny (.type "set") _) _ _ _
  refine wpAny_pure ⟨Code.quiet_builtin _ (by decide +kernel), codeAny_builtin F.entry_type_call ?_⟩
  rw [Around.under_plain (weight_type_call_type "set" [.ref a] []) rfl]
  have m4 := PySem.F.called_set.notType; have m5 := PySem.F.called_set.canCreate; have m6 := PySem.F.typeCall_set_1 (.ref a)
  repeat (any_goals (first | assumption | wp_step))
  refine codeAny_mono (code_set_new_1 (.ref a) (E := E) (Q₁ := fun v u => ∃ led : Bool, v = .ref s.heap.objs.size ∧ u = { s with heap := s.heap.push (eSet led) }) fun led => ⟨led, rfl, rfl⟩) fun r u hr => ?_
  match r, hr with
  | .error _, hr => exact hr
  | .ok (.ret _), ⟨led, e1, e2⟩ =>
    subst e1; subst e2
    have g0 : (s.heap.push (eSet led)).get? s.heap.objs.size = some (eSet led) := Heap.get?_push_size _ rfl
    have ty : Shared.TypeIs { s with heap := s.heap.push (eSet led) } (.ref s.heap.objs.size) "set" := ⟨_, g0, rfl⟩
    have m7 := PySem.F.called_set.init.lookup; have m8 := PySem.F.called_set.init.bind (.ref s.heap.objs.size)
    repeat (any_goals (first | assumption | wp_step))
    refine codeAny_mono (codeAny_call_builtin (R := wants (fun v u => v = .none ∧ ∃ h2 tk, u = { s with heap := h2, toks := tk } ∧ KSet P w h2 s.heap.objs.size ks ∧ ∀ b o, b < s.heap.objs.size → s.heap.get? b = some o → h2.get? b = some o) E) PySem.F.called_set.init.plain PySem.F.entry_set_init (check_set_init_1 ty ?_)) fun r2 u2 hr2 => ?_
    · obtain ⟨⟨oc, od, odt, osl⟩, ho, hc, nl, hd⟩ := isl
      simp only at hc hd
      subst hc; subst hd
      have g1 : (s.heap.push (eSet led)).get? a = some { cls := .type "tuple", dict := od, data := .seq items nl, slots := osl } := Heap.get?_push_of_some _ ho
      have n1 := PySem.F.sub_tuple_set; have n2 := PySem.F.sub_tuple_frozenset; have n3 : (Value.type "tuple" == Value.type "dict") = false := by decide
      have isl1 : (s.heap.push (eSet led)).IsTuple a items := ⟨_, g1, rfl, nl, rfl⟩
      unfold Builtin.«set.__init__» noKeywords Builtin.Frozenset.updateFrom
      generalize hI : pyIter = walked
      wp_walk
      subst hI
      refine wpAny_pyIter_tuple isl1 (wpAny_bind (wpAny_runValue ?_))
      have la : a < s.heap.objs.size := Heap.lt_size ho
      have sz1 : (s.heap.push (eSet led)).objs.size = s.heap.objs.size + 1 := Heap.size_push ..
      refine set_fill (led := led) ((Walks.tuple (by simp [calm]) _ a (by rw [sz1]; exact Nat.ne_of_lt (Nat.lt_succ_of_lt la)) items).toS) (by rw [sz1]; exact two_ne (Nat.ne_of_lt (Nat.lt_succ_self _)) (Nat.ne_of_gt la)) len small there ⟨⟨_, Heap.get?_push_size _ rfl, rfl, rfl⟩, isl1.push _⟩ (Heap.get?_push_of_some _ g0) fun u mv S => ?_
      obtain ⟨h2, g2, d2, t2, o2⟩ := u
      obtain rfl : g2 = s.gens := mv.gens
      obtain rfl : d2 = s.drawn := mv.drawn
      obtain rfl : o2 = s.os := mv.os
      refine wpAny_pure (wpAny_pure ⟨rfl, h2, t2, rfl, S, fun b o hb e => mv.heap b o ?_ (Heap.get?_push_of_some _ (Heap.get?_push_of_some _ e))⟩)
      rw [sz1]; exact two_ne (Nat.ne_of_lt hb) (Nat.ne_of_lt (Nat.lt_succ_of_lt hb))
    · match r2, hr2 with
      | .error _, hr2 => exact hr2
      | .ok (.ret _), ⟨e1, h2, tk, e2, S, kp⟩ =>
        subst e1; subst e2
        repeat (any_goals (first | assumption | wp_step))
        exact fin _ _ S kp
end
end G

namespace G
open PySem PySem.Spec L2
/-! ### len(set(x)), x a list or a tuple of ints and texts -/
abbrev kD (k : Key) : D := .v (kV k)
def tLenK (K : PySem.W.Frag) (ta : TE) : TE := fun σ H Q => ta σ H fun x H1 => ∃ (a : Addr) (ks : List Key), x = .ref a ∧ (SqL K H1 a (ks.map kV) ∨ SqT K H1 a (ks.map kV)) ∧ ks.length < 4000 ∧ Q (.int (dds ks).length) H1
theorem keys_there {P : Program} {w : World} {ks : List Key} {its : List Value} (r : Vals (ks.map kV) its) : ks.length = its.toArray.size ∧ ∀ (i : Nat) v, its.toArray[i]? = some v → ∃ k, ks[i]? = some k ∧ (mixKind P w).is k v = true ∧ v.scannable = true := by
  have hl : ks.length = its.toArray.size := by rw [List.size_toArray, ← r.length, List.length_map]
  refine ⟨hl, fun i v hv => ?_⟩
  have hi : i < ks.length := by rw [hl]; exact (Array.getElem?_eq_some_iff.mp hv).1
  obtain ⟨u, hu, ru⟩ := r.get (i := i) (x := kV ks[i]) (by rw [List.getElem?_map, List.getElem?_eq_getElem hi]; rfl)
  have e : u = v := by
    have : its.toArray[i]? = its[i]? := by simp
    rw [this, hu] at hv; exact Option.some.inj hv
  subst e
  exact ⟨ks[i], List.getElem?_eq_getElem hi, kV_is ru, key_scan ru⟩
section
variable {X : Cx} {Wx : WX} {a : Expr} {fa : TD} {p p2 q pos : Pos}
theorem pe_lenK {ta : TE} (hc : X.calm = true) (hg : Gl X "len") (hm : X.mg "len" = none) (hg2 : Gl X "set") (hm2 : X.mg "set" = none) (ha : PE X a ta) (one : starEach [a] X.env = (false, eval a X.env) :: starEach [] X.env := by rfl) :
    PE X (.Call (.Name "len" p) [.Call (.Name "set" p2) [a] [] q] [] pos) (tLenK X.K ta) := by
  constructor
  intro pins s σ H Q I h
  refine PyProof.Rows.Call_ (ld_blt I hg hm PySem.boot_len (PyProof.Rows.callWith_builtin1 (PyProof.Rows.args_cons ?_ rfl) rfl rfl))
  refine PyProof.Rows.Call_ (ld_blt I hg2 hm2 PyProof.Rows.boot_set (PyProof.Rows.callWith_type1 (PyProof.Rows.args_cons (thn (ha.run pins s σ H _ I h) fun v s1 z => PyProof.Rows.args_nil ?_) one) one rfl))
  obtain ⟨x, H1, I1, r1, b, ks, ex, hq, few, q1⟩ := z
  subst ex
  cases r1
  have sb : scanBound = 4096 := rfl
  have le := dds_le ks
  have fin : ∀ (h2 : Heap) (tk : Nat), KSet X.prog X.w h2 s1.heap.objs.size ks → (∀ b o, b < s1.heap.objs.size → s1.heap.get? b = some o → h2.get? b = some o) →
      wpAny (model X.prog X.w) X.A (call (.builtin "len") [.ref s1.heap.objs.size]) (EP X pins σ Q) X.xe { s1 with heap := h2, toks := tk } := fun h2 tk S kp => by
    obtain ⟨o, es, ep, t, ho, hex, hd, _, _, _, hf, hn⟩ := S
    have J : Inv X pins σ H1 { s1 with heap := h2, toks := tk } := I1.kept fun b o e => kp b o (Heap.lt_size e) e
    exact call_len_set ho hex hd hf (by rw [hn]; omega) ⟨.int (dds ks).length, H1, J.tok _, ⟨_, by rw [hn]⟩, q1⟩
  rcases hq with hq | hq
  · obtain ⟨its, r, pl, _⟩ := I1.list hq
    obtain ⟨l1, l2⟩ := keys_there (P := X.prog) (w := X.w) r
    exact set_of_list (I1.ok.hd hc) pl.isList l1 (by rw [← l1]; omega) l2 fun h2 tk S kp => PyProof.Rows.args_nil (fin h2 tk S kp)
  · obtain ⟨its, r, pl, _⟩ := I1.tuple hq
    obtain ⟨l1, l2⟩ := keys_there (P := X.prog) (w := X.w) r
    exact set_of_tuple (I1.ok.hd hc) pl l1 (by rw [← l1]; omega) l2 fun h2 tk S kp => PyProof.Rows.args_nil (fin h2 tk S kp)
def dLenSet (fa : TD) : TD := fun ρ W Q Qx => fa ρ W (fun d ρ' W' => ∃ ks : List Key, (d = .lst (ks.map kD) ∨ d = .tup (ks.map kD) ∨ d = .tpf (ks.map kD)) ∧ ks.length < 4000 ∧ Q (.int (dds ks).length) ρ' W') Qx
theorem reps_k {K : PySem.W.Frag} {S : Reg} {H : Hp} {ks : List Key} {vs : List V} (r : Reps K S H (ks.map kD) vs) : vs = ks.map kV := Reps.of_map_v (xs := ks.map kV) (by rw [List.map_map]; exact r)
theorem ge_lenSet (hc : X.calm = true) (hm : X.mg "len" = none) (hm2 : X.mg "set" = none) (ha : GE X Wx a fa) (hg : Gl X "len" := by rfl) (hg2 : Gl X "set" := by rfl) (one : starEach [a] X.env = (false, eval a X.env) :: starEach [] X.env := by rfl) :
    GE X Wx (.Call (.Name "len" p) [.Call (.Name "set" p2) [a] [] q] [] pos) (dLenSet fa) := by
  obtain ⟨ta, pa, sa⟩ := ha
  refine ⟨_, pe_lenK hc hg hm hg2 hm2 pa one, fun F S H σ ρ W Q Qx R cf hf hx hE => ?_⟩
  refine sa F S H σ ρ W _ Qx _ cf hf hx fun S1 H1 ρ1 W1 d v e1 c1 r1 q1 => ?_
  obtain ⟨ks, hd, few, q1⟩ := q1
  rcases hd with rfl | rfl | rfl
  · obtain ⟨b, xs, rfl, h1, h2⟩ := Rep.lst_iff.mp r1
    have := reps_k h2; subst this
    exact ⟨b, ks, rfl, .inl h1.sq, few, hE S1 H1 ρ1 W1 _ _ e1 c1 (Rep.v_iff.mpr rfl) q1⟩
  · obtain ⟨b, xs, rfl, h1, h2⟩ := Rep.tup_iff.mp r1
    have := reps_k h2; subst this
    exact ⟨b, ks, rfl, .inr h1.sq, few, hE S1 H1 ρ1 W1 _ _ e1 c1 (Rep.v_iff.mpr rfl) q1⟩
  · obtain ⟨b, xs, o, rfl, h1, _, h2⟩ := Rep.tpf_iff.mp r1
    have := reps_k h2; subst this
    exact ⟨b, ks, rfl, .inr (.inl (.inr ⟨o, h1.1⟩)), few, hE S1 H1 ρ1 W1 _ _ e1 c1 (Rep.v_iff.mpr rfl) q1⟩
/-! ### a constant of the module that is a tuple of flat things -/
structure TupAt (K : PySem.W.Frag) (mg : Str → Option Value) (x : Str) (xs : List V) : Prop where
  at' : ∃ c, mg x = some (.ref c) ∧ SqT K emp c xs
theorem tupAt_mk {K : PySem.W.Frag} {mg : Str → Option Value} {x : Str} {xs : List V} {c : Addr} {dd : Option Addr} {its : Array Value} {n : Nat} {sl : Array (Option Value)} (h : mg x = some (.ref c)) (l : K.lookup c = some ⟨.type "tuple", dd, .seq its n, sl⟩) (r : Vals xs its.toList) (z : its.size ≤ 16777216) : TupAt K mg x xs :=
  ⟨c, h, .inr ⟨_, its, n, l, rfl, rfl, z, r⟩⟩
def dCD (d : D) : TD := fun ρ W Q _ => Q d ρ W
theorem ge_tc {x : Str} {xs : List V} {px : Pos} (h : TupAt X.K X.mg x xs) (hg : Gl X x := by rfl) (hd : (x == ("__debug__" : Str)) = false := by decide) : GE X Wx (.Name x px) (dCD (.tup (xs.map D.v))) := by
  obtain ⟨c, h1, h2⟩ := h.at'
  exact ⟨_, pe_glob (v := .ref c) hg h1 rfl hd, fun F S H σ ρ W Q Qx R cf hf _ hE => hE S H ρ W _ _ .refl cf (Rep.tup_iff.mpr ⟨c, xs, rfl, .inr (.inl h2), Reps.map_v xs⟩) hf⟩
end
/-! ### x.index(y): the first place -/
section
variable {X : Cx} {Wx : WX} {o e : Expr} {es : List Expr} {fo : TD} {fl : TL} {apos cpos : Pos}
/-- a tuple that is known to have no dict, as a receiver -/
def tBMF (r : V → List V → Hp → VK → Prop) (to : TE) (t : TA) : TE := fun σ H Q => to σ H fun x H1 => (∃ (c : Addr) (ob : Obj) (ys : List V), x = .ref c ∧ H1 c = some (.frz ob (.tup ys)) ∧ ob.dict = none) ∧ t σ H1 fun xs H2 => r x xs H2 Q
theorem pe_bmF {to : TE} {t : TA} {name : Str} {id : String} {r : V → List V → Hp → VK → Prop} (slot : Slot "tuple" name id) (hty : typeOf (.builtin id) = pure (.type "method_descriptor")) (hm : MtR X id r) (ho : PE X o to) (ha : PA X (e :: es) t) (hbase : attributeBase o name X.env (eval o X.env) = eval o X.env := by rfl)
    (hfew : ((backTo cpos (starEach (e :: es) X.env)).all (fun x => !x.1) && (backToKw cpos (keywordEach [] X.env)).all (fun x => x.1.isSome) && decide ((e :: es).length + ([] : List Keyword).length + (if ([] : List Keyword).isEmpty then 0 else 1) < 30)) = true := by rfl)
    (hline : (apos.endLine == cpos.line) = true := by rfl) (hs : starEach (e :: es) X.env = (false, eval e X.env) :: starEach es X.env := by rfl) (hplain : (backTo cpos (starEach es X.env)).any (·.1) = false := by rfl) : PE X (.Call (.Attribute o name apos) (e :: es) [] cpos) (tBMF r to t) := by
  constructor
  intro pins s σ H Q I h
  refine wpAny_Call_method_late hbase hfew hline rfl (thn (ho.run pins s σ H _ I h) fun v s1 z => ?_)
  obtain ⟨x, H1, I1, r1, ⟨c, ob, ys, ex, hc, hn⟩, q1⟩ := z
  subst ex
  cases r1
  obtain ⟨g, _, its, rv, o2, g2, hcl, n, hdt⟩ := (show ObjOk X.prog X.w H1 s1.heap c (.frz ob (.tup ys)) from I1.hok c _ hc)
  have e2 : o2 = ob := by rw [g] at g2; exact (Option.some.inj g2).symm
  subst e2
  refine ⟨"tuple", id, PySem.F.plainAttrs_tuple, slot, hty, ⟨_, g, hcl⟩, fun b hb => ?_, ?_⟩
  · cases hb; exact ⟨_, g, hn⟩
  have hA := ha.run cpos pins s1 σ H1 _ I1 q1
  rw [hs] at hA ⊢
  refine Calls.callWith_builtin (by show (false || (backTo cpos (starEach es X.env)).any (·.1)) = false; rw [hplain]; rfl) (Calls.evalArgs_plain (thn hA fun us s2 z2 => ?_))
  obtain ⟨vs, H2, I2, r2, q2⟩ := z2
  exact hm pins s2 σ H2 (.ref c) vs _ us Q I2 rfl r2 q2
def dIndexF (fo : TD) (fl : TL) : TD := fun ρ W Q Qx => fo ρ W (fun d ρ1 W1 => (∃ ys, d = .tpf ys) ∧ fl ρ1 W1 (fun ds ρ2 W2 => ∃ (ys : List Str) (z : Str) (j : Nat), d = .tpf (ys.map D.str) ∧ ds = [.str z] ∧ ys[j]? = some z ∧ (∀ m, m < j → ys[m]? ≠ some z) ∧ Q (.int (j : Nat)) ρ2 W2) Qx) Qx
theorem ge_indexF (ho : GE X Wx o fo) (ha : GA X Wx (e :: es) fl) (hbase : attributeBase o "index" X.env (eval o X.env) = eval o X.env := by rfl)
    (hfew : ((backTo cpos (starEach (e :: es) X.env)).all (fun x => !x.1) && (backToKw cpos (keywordEach [] X.env)).all (fun x => x.1.isSome) && decide ((e :: es).length + ([] : List Keyword).length + (if ([] : List Keyword).isEmpty then 0 else 1) < 30)) = true := by rfl)
    (hline : (apos.endLine == cpos.line) = true := by rfl) (hs : starEach (e :: es) X.env = (false, eval e X.env) :: starEach es X.env := by rfl) (hplain : (backTo cpos (starEach es X.env)).any (·.1) = false := by rfl) : GE X Wx (.Call (.Attribute o "index" apos) (e :: es) [] cpos) (dIndexF fo fl) := by
  obtain ⟨to, po, so⟩ := ho
  obtain ⟨ta, pa, sa⟩ := ha
  refine ⟨_, pe_bmF PySem.F.slot_tuple_index PySem.F.type_tuple_index mt_tup_index po pa hbase hfew hline hs hplain, fun F S H σ ρ W Q Qx R cf hf hx hE => ?_⟩
  refine so F S H σ ρ W _ Qx _ cf hf hx fun S1 H1 ρ1 W1 d v e1 c1 r1 q1 => ?_
  obtain ⟨⟨ys, rfl⟩, q1⟩ := q1
  obtain ⟨c, xs, ob, rfl, h1, h2, h3⟩ := Rep.tpf_iff.mp r1
  refine ⟨⟨c, ob, xs, rfl, h1.1, h2⟩, ?_⟩
  refine sa F S1 H1 σ ρ1 W1 _ Qx _ c1 q1 (hx.up e1) fun S2 H2 ρ2 W2 ds vs e2 c2 r2 q2 => ?_
  obtain ⟨zs, z, j, eq, rfl, hj, hno, q2⟩ := q2
  cases eq
  obtain ⟨y, rfl, ry⟩ := reps1 r2
  cases Rep.v_iff.mp ry
  have h4 := (h3.up e2)
  have e3 : xs = zs.map V.str := Reps.of_map_v (xs := zs.map V.str) (by rw [List.map_map]; exact h4)
  subst e3
  exact ⟨c, zs, z, j, rfl, rfl, .inl (.inr ⟨ob, (e2.has h1).1⟩), hj, hno, hE S2 H2 ρ2 W2 _ _ (e1.trans e2) c2 (Rep.v_iff.mpr rfl) q2⟩
/-- .. of a list -/
def dIndexL (fo : TD) (fl : TL) : TD := fun ρ W Q Qx => fo ρ W (fun d ρ1 W1 => (∃ ys, d = .lst ys) ∧ fl ρ1 W1 (fun ds ρ2 W2 => ∃ (ys : List V) (y z : V) (j : Nat), d = .lst (ys.map D.v) ∧ ds = [.v y] ∧ flatV y = true ∧ ys.all flatV = true ∧ ys[j]? = some z ∧ eqV z y = true ∧ (∀ (m : Nat) (z' : V), m < j → ys[m]? = some z' → eqV z' y = false) ∧ Q (.int (j : Nat)) ρ2 W2) Qx) Qx
theorem ge_indexL (ho : GE X Wx o fo) (ha : GA X Wx (e :: es) fl) (hbase : attributeBase o "index" X.env (eval o X.env) = eval o X.env := by rfl)
    (hfew : ((backTo cpos (starEach (e :: es) X.env)).all (fun x => !x.1) && (backToKw cpos (keywordEach [] X.env)).all (fun x => x.1.isSome) && decide ((e :: es).length + ([] : List Keyword).length + (if ([] : List Keyword).isEmpty then 0 else 1) < 30)) = true := by rfl)
    (hline : (apos.endLine == cpos.line) = true := by rfl) (hs : starEach (e :: es) X.env = (false, eval e X.env) :: starEach es X.env := by rfl) (hplain : (backTo cpos (starEach es X.env)).any (·.1) = false := by rfl) : GE X Wx (.Call (.Attribute o "index" apos) (e :: es) [] cpos) (dIndexL fo fl) := by
  obtain ⟨to, po, so⟩ := ho
  obtain ⟨ta, pa, sa⟩ := ha
  refine ⟨_, pe_bm PySem.F.plainAttrs_list PySem.F.slot_list_index PySem.F.type_list_index mt_index po pa hbase hfew hline hs hplain, fun F S H σ ρ W Q Qx R cf hf hx hE => ?_⟩
  refine so F S H σ ρ W _ Qx _ cf hf hx fun S1 H1 ρ1 W1 d v e1 c1 r1 q1 => ?_
  obtain ⟨⟨ys, rfl⟩, q1⟩ := q1
  obtain ⟨c, xs, rfl, h1, h3⟩ := Rep.lst_iff.mp r1
  refine ⟨.inl ⟨rfl, xs, h1.sq⟩, ?_⟩
  refine sa F S1 H1 σ ρ1 W1 _ Qx _ c1 q1 (hx.up e1) fun S2 H2 ρ2 W2 ds vs e2 c2 r2 q2 => ?_
  obtain ⟨zs, y, z, j, eq, rfl, fy, fz, hj, hz, hno, q2⟩ := q2
  cases eq
  obtain ⟨x, rfl, ry⟩ := reps1 r2
  have ey := Rep.v_iff.mp ry
  subst ey
  have e3 : xs = zs := Reps.of_map_v (h3.up e2)
  subst e3
  exact ⟨c, xs, _, j, z, rfl, rfl, (e2.imL h1).sq, fy, fz, hj, hz, hno, hE S2 H2 ρ2 W2 _ _ (e1.trans e2) c2 (Rep.v_iff.mpr rfl) q2⟩
end
end G

namespace G
open PySem PySem.Spec L2
/-! ### x in xs, not in: data of any depth in a list or a tuple -/
def rInN (K : PySem.W.Frag) (neg : Bool) : R2 := fun x y H Q => ∃ (d : PyData) (xs : List PyData), Dp K H x d ∧ (Dp K H y (.list xs) ∨ Dp K H y (.tuple xs)) ∧ PyData.canLayAll0 xs = true ∧ d.canLay0 = true ∧ d.depth ≤ 62 ∧ Q (.bl (if neg then !xs.any fun z => PyData.eqv z d else xs.any fun z => PyData.eqv z d)) H
theorem room_n {A : Around} {xs : List PyData} {d : PyData} (h : d.depth ≤ 62) (hu : A.units + 64 < cLine) : A.units + 1 + min (PyData.depthAll xs) d.depth < cLine := by
  have := Nat.min_le_right (PyData.depthAll xs) d.depth
  omega
theorem op_inN {X : Cx} (hu : X.A.units + 64 < cLine) : OpR X (compareOp .In) (rInN X.K false) := by
  intro pins s σ H x y v u Q I rx ry h
  obtain ⟨d, xs, hd, he, c1, c2, dp, q⟩ := h
  obtain ⟨as, r1⟩ := Dp.reads I d x v hd rx
  rcases he with he | he
  · obtain ⟨bs, r2⟩ := Dp.reads I (.list xs) y u he ry
    exact SeqAt.in_list_reads r2 r1 c1 c2 (room_n dp hu) ⟨.bl _, H, I, rfl, q⟩
  · obtain ⟨bs, r2⟩ := Dp.reads I (.tuple xs) y u he ry
    exact SeqAt.in_tuple_reads r2 r1 c1 c2 (room_n dp hu) ⟨.bl _, H, I, rfl, q⟩
theorem op_niN {X : Cx} (hu : X.A.units + 64 < cLine) : OpR X (compareOp .NotIn) (rInN X.K true) := by
  intro pins s σ H x y v u Q I rx ry h
  obtain ⟨d, xs, hd, he, c1, c2, dp, q⟩ := h
  obtain ⟨as, r1⟩ := Dp.reads I d x v hd rx
  rcases he with he | he
  · obtain ⟨bs, r2⟩ := Dp.reads I (.list xs) y u he ry
    exact SeqAt.notIn_list_reads r2 r1 c1 c2 (room_n dp hu) ⟨.bl _, H, I, rfl, q⟩
  · obtain ⟨bs, r2⟩ := Dp.reads I (.tuple xs) y u he ry
    exact SeqAt.notIn_tuple_reads r2 r1 c1 c2 (room_n dp hu) ⟨.bl _, H, I, rfl, q⟩
def dInN (neg : Bool) : D → D → (D → Prop) → Prop := fun d e Q => ∃ ys, (e = .lst ys ∨ e = .tup ys) ∧ D.good 62 d = true ∧ goods 62 ys = true ∧ Q (.bl (if neg then !ys.any fun z => eqD z d else ys.any fun z => eqD z d))
theorem pys_map : ∀ ds : List D, pys ds = ds.map D.py
  | [] => by rw [pys]; rfl
  | d :: ds => by rw [pys, pys_map ds]; rfl
theorem any_py (ys : List D) (d : D) : ((pys ys).any fun z => PyData.eqv z d.py) = ys.any fun z => eqD z d := by
  rw [pys_map, List.any_map]; rfl
theorem rs_inN {K : PySem.W.Frag} {neg : Bool} : RSnd K (rInN K neg) (dInN neg) := fun F S H W d e x y P R cb rd re hp k => by
  obtain ⟨ys, he, g1, g2, q⟩ := hp
  refine ⟨d.py, pys ys, dp_of (n := 62) g1 rd, ?_, (lays_of g2).1, (lay_of g1).1, (lay_of g1).2, k _ _ H (Same.refl H) (Rep.v_iff.mpr rfl) ?_⟩
  · rcases he with rfl | rfl
    · exact .inl (by have := dp_of (n := 63) (d := .lst ys) (by rw [D.good]; exact g2) re; rwa [D.py] at this)
    · exact .inr (by have := dp_of (n := 63) (d := .tup ys) (by rw [D.good]; exact g2) re; rwa [D.py] at this)
  · rw [any_py]; exact q
/-- flat, or of any depth -/
def dInB (neg : Bool) : D → D → (D → Prop) → Prop := fun d e Q => dIn neg d e Q ∨ dInN neg d e Q
def rInB (K : PySem.W.Frag) (neg : Bool) : R2 := fun x y H Q => rInA K neg x y H Q ∨ rInN K neg x y H Q
theorem rs_inB {K : PySem.W.Frag} {neg : Bool} : RSnd K (rInB K neg) (dInB neg) := rs_or rs_in rs_inN
theorem op_inB {X : Cx} (hu : X.A.units + 64 < cLine) : OpR X (compareOp .In) (rInB X.K false) := op_inA.or (op_inN hu)
theorem op_niB {X : Cx} (hu : X.A.units + 64 < cLine) : OpR X (compareOp .NotIn) (rInB X.K true) := op_niA.or (op_niN hu)
/-! ### < of truths too -/
def rLtB : R2 := fun x y H Q => ∃ a b : Bool, x = .bl a ∧ y = .bl b ∧ Q (.bl (!a && b)) H
theorem op_ltBl {X : Cx} : OpR X (compareOp .Lt) rLtB := by
  intro pins s σ H x y v u Q I rx ry h
  obtain ⟨a, b, rfl, rfl, q⟩ := h
  cases rx
  cases ry
  refine PyProof.Rows.lt_bool ⟨.bl (!a && b), H, I, ?_, q⟩
  cases a <;> cases b <;> rfl
@[irreducible] def dLtB : D → D → (D → Prop) → Prop := fun d e Q => match d, e with | .v (.bl a), .v (.bl b) => Q (.bl (!a && b)) | d, e => dLt d e Q
theorem rs_ltBl {K : PySem.W.Frag} : RSnd K rLtB (fun d e Q => match d, e with | .v (.bl a), .v (.bl b) => Q (.bl (!a && b)) | _, _ => False) := fun F S H W d e x y P R cb rd re hp k => by
  dsimp only at hp
  split at hp
  · rw [Rep.v_iff] at rd re
    exact ⟨_, _, rd, re, k _ _ H (Same.refl H) (Rep.v_iff.mpr rfl) hp⟩
  · exact hp.elim
def rLtA : R2 := fun x y H Q => rCmp (fun i j => decide (i < j)) ltS x y H Q ∨ rLtB x y H Q
theorem rs_ltB {K : PySem.W.Frag} : RSnd K rLtA dLtB := rs_imp (rs_or rs_cmp rs_ltBl) fun d e Q q => by
  unfold dLtB at q
  split at q
  · exact .inr q
  · exact .inl q
theorem op_ltB {X : Cx} : OpR X (compareOp .Lt) rLtA := op_ltA.or op_ltBl
/-! ### x != [] of any list -/
theorem ne_lengths (l b : Addr) (items items2 : Array Value) (n n2 : Nat) (dd dd2 : Option Addr) (sl sl2 : Array (Option Value)) (hc0 : (items.size != items2.size) = true) :
    PySem.Meets (Builtin.«list.__ne__» ⟨[.ref l, .ref b], []⟩) (fun _ R s => s.heap.get? l = some { cls := .type "list", dict := dd, data := .seq items n, slots := sl } ∧ s.heap.get? b = some { cls := .type "list", dict := dd2, data := .seq items2 n2, slots := sl2 } ∧ R (.ok (.ret (.bool true))) s) :=
  .of_wp fun prog w A R s h => by
    obtain ⟨hp, g, d, tk, os⟩ := s; obtain ⟨hl, hb, h⟩ := h
    have f3 := PySem.AutoSeq1.sub_list_list
    wp_walk using PySem.AutoSeq1.wpAny_loadPart' hl, PySem.AutoSeq1.wpAny_loadPart' hb
    exact ⟨_, rfl, h⟩
def rNeE : R2 := fun x y H Q => ∃ (a b : Addr) (xs : List V), x = .ref a ∧ y = .ref b ∧ H a = some (.lst xs) ∧ H b = some (.lst []) ∧ xs ≠ [] ∧ Q (.bl true) H
theorem op_neE0 {X : Cx} (hu : X.A.units + 64 < cLine) : OpR X (compareOp .NotEq) rNeE := by
  intro pins s σ H x y v u Q I rx ry h
  obtain ⟨a, b, xs, rfl, rfl, h1, h2, h3, q⟩ := h
  cases rx
  cases ry
  obtain ⟨its, r1, pl1, _⟩ := I.list (SqL.of (K := X.K) h1)
  obtain ⟨its2, r2, pl2, _⟩ := I.list (SqL.of (K := X.K) h2)
  cases r2
  obtain ⟨⟨cls, dd, data, sl⟩, n, ho, hc, hd, hs⟩ := pl1
  obtain ⟨⟨cls2, dd2, data2, sl2⟩, n2, ho2, hc2, hd2, hs2⟩ := pl2
  simp only at hc hd hs hc2 hd2 hs2
  subst hc hs hc2 hs2
  have sz : (its.toArray.size != ([] : List Value).toArray.size) = true := by
    have := r1.length
    have : its ≠ [] := fun e => h3 (List.length_eq_zero_iff.mp (by rw [this, e]; rfl))
    simp [this]
  exact PySem.richCompare_meets_room (op := .NotEq) ⟨_, ho, rfl⟩ ⟨_, ho2, rfl⟩ PySem.F.slot_list_ne PySem.F.entry_list_ne (PySem.F.args_list_ne_2 _ _) (ne_lengths a b its.toArray _ n n2 dd dd2 sl sl2 sz)
    ⟨ho, ho2, show Value.bool true ≠ Value.notImplemented ∧ _ from ⟨(fun x => nomatch x), ⟨.bl true, H, I, rfl, q⟩⟩⟩ (by omega)
def dNeE : D → D → (D → Prop) → Prop := fun d e Q => (∃ ds, d = .lst ds ∧ e = .lst [] ∧ ds ≠ [] ∧ Q (.bl true)) ∨ dNe d e Q
theorem rs_neE0 {K : PySem.W.Frag} : RSnd K rNeE (fun d e Q => ∃ ds, d = .lst ds ∧ e = .lst [] ∧ ds ≠ [] ∧ Q (.bl true)) := fun F S H W d e x y P R cb rd re hp k => by
  obtain ⟨ds, rfl, rfl, hn, q⟩ := hp
  obtain ⟨a, xs, rfl, h1, h2⟩ := Rep.lst_iff.mp rd
  obtain ⟨b, ys, rfl, h3, h4⟩ := Rep.lst_iff.mp re
  have e0 := Reps.nil_iff.mp h4
  subst e0
  exact ⟨a, b, xs, rfl, rfl, h1.1, h3.1, fun e => hn (List.length_eq_zero_iff.mp (by rw [← h2.length, e]; rfl)), k _ _ H (Same.refl H) (Rep.v_iff.mpr rfl) q⟩
theorem rs_neE {K : PySem.W.Frag} : RSnd K (fun x y H Q => rNeE x y H Q ∨ (rNe x y H Q ∨ rNeD K x y H Q)) dNeE := rs_or rs_neE0 rs_ne
theorem op_neE {X : Cx} (hu : X.A.units + 64 < cLine) : OpR X (compareOp .NotEq) (fun x y H Q => rNeE x y H Q ∨ (rNe x y H Q ∨ rNeD X.K x y H Q)) := (op_neE0 hu).or (op_neA hu)
end G

/-! f(k = e, ..), every argument by its name; what it raises goes on -/
namespace G
open PySem PySem.Spec L2
section
variable {X : Cx} {Wx : WX} {e : Expr} {es : List Expr} {fl : TL} {p pos : Pos} {k j n : Nat} {x : Str} {st : Stmt} {ps : List Str} {sp : SpD}
variable {nm : Option Str} {kpos : Pos} {fe : TD} {kws : List Keyword}
def dCallKX (sp : SpD) (n m : Nat) (ix : List Nat) (fl : TL) : TD := fun ρ W Q Qx => fl ρ W (fun ds ρ' W' => ds.length = m ∧ (pick ix ds).length = n ∧ sp (pick ix ds) W' (fun d W2 => Q d ρ' W2) (fun cls x W2 => Qx cls x ρ' W2)) Qx
theorem ge_ckx {ks : List Str} {m : Nat} (tk : Takes X Wx) (ix : List Nat) (c : Cal X.prog X.w X.K X.mg X.base k x st ps sp) (hr : Rm j X.A) (hk : k ≤ j)
    (hb : ∀ (kV doc pm : Value) (an : Option Addr) (cdv ct : Value) (ws : List Value), ws.length = ks.length → bindArgs (PySem.W.fnOf x x (defArgs st) (defBody st) (defScope st) .none kV doc pm an cdv ct) ⟨[], ks.zip ws⟩ = pure (ps.zip (pick ix ws)))
    (ha : GK X Wx kws fl) (hm : ks.length = m := by rfl) (hn : ps.length = n := by rfl) (hall : (backToKw pos (keywordEach kws X.env)).all (·.1.isSome) = true := by rfl) (hks : (backToKw pos (keywordEach kws X.env)).filterMap (·.1) = ks := by rfl) (hg : Gl X x := by rfl) (hdb : (x == ("__debug__" : Str)) = false := by decide)
    (hpl : ((backTo pos (starEach [] X.env)).any (·.1) || (backToKw pos (keywordEach kws X.env)).any (·.1.isNone)) = false := by rfl) :
    GE X Wx (.Call (.Name x p) [] kws pos) (dCallKX sp n m ix fl) := by
  obtain ⟨f, fd, hmg, hF, hB, hf⟩ := c
  obtain ⟨ta, pa, sa⟩ := ha
  subst hn
  let te : TE := fun σ H Q => ta σ H fun zs H2 => zs.length = ks.length ∧ toSp X.K ps.length sp (pick ix zs) H2 Q (WE Wx σ)
  refine ⟨te, ⟨fun pins s σ H Q I h => ?_⟩, ?_⟩
  · refine wpAny_Call_Name_kw (ld_glob I hg hmg ?_ hdb)
    refine PySem.W.callWith_KW0 (h₀ := X.base) I.ok.mod.kin hF.kp hall ?_ hpl
    refine thn (pa.run pos pins s σ H _ I h) fun ws s2 ⟨zs, H2, I2, rz, l2, q2⟩ => ⟨I2.kIn, ?_⟩
    rw [hks]
    obtain ⟨oc, od, kV, doc, pm, an, cdv, ct, osl, rfl, lk, hcd⟩ := hF.ex
    have hr2 := vals_pick rz ix
    have hbt := BindsTo.of_eq (s := s2) (hb kV doc pm an cdv ct ws (by rw [← rz.length, l2]))
    refine wpAny_call (codeAny_mono (end_call (pins := pins) I2 (fun e s' z => passAt tk σ pins H2 s2 e s' I2 z) (hf.go (hr.less hk) I2.env0 hbt hr2 q2)) fun r s' z => ?_)
    match r, z with
    | .error e, z => exact z
    | .ok (.ret u), z => exact z
    | .ok .next, z => exact z.elim
    | .ok .brk, z => exact z.elim
    | .ok .cont, z => exact z.elim
  · intro F S H σ ρ W Q Qx R cf hf' hx hE
    refine sa F S H σ ρ W _ Qx _ cf hf' hx fun S1 H1 ρ1 W1 ds vs e1 c1 r1 q1 => ?_
    obtain ⟨q0, q1, q2⟩ := q1
    refine ⟨by rw [r1.length, q0, hm], _, S1, W1, pick ix ds, _, _, c1.below, reps_pick r1 ix, q1, q2, fun S' H' W' d v e' b r q => ?_, fun S' H' W' cls x od e' b xr q => ?_⟩
    · exact hE S' H' ρ1 W' d v (e1.trans (e'.mono fun _ h => .inl h)) (c1.back e' b) r q
    · exact hx S' H' σ ρ1 W' cls x od (e1.trans (e'.mono fun _ h => .inl h)) (c1.back e' b) xr q
end
theorem kit_ref {K : PySem.W.Frag} {D C : Addr} {b : Bool} (hne : (Value.ref D == Value.ref C) = false) (hdct : PySem.W.hasDictIn K C = true) (ht : PySem.W.typeIn K (.ref C) = some (.type "type")) (h4 : PySem.W.subIn K (.ref D) (.ref C) = some b) : PySem.W.kitOne K (.ref D) (.ref C) = some b := by
  obtain ⟨cd, hc, _⟩ := PySem.W.any_some hdct
  have e2 : ((PySem.W.clsIn K C).isSome && PySem.W.typeIn K (.ref C) == some (.type "type")) = true := by rw [hc, ht] <;> rfl
  show (if (Value.ref D == Value.ref C) = true then some true else (if ((PySem.W.clsIn K C).isSome && PySem.W.typeIn K (.ref C) == some (.type "type")) = true then PySem.W.subIn K (.ref D) (.ref C) else none)) = some b
  rw [hne, if_neg (by decide), if_pos e2]
  exact h4
theorem kit_self {K : PySem.W.Frag} {D : Addr} : PySem.W.kitOne K (.ref D) (.ref D) = some true := by
  show (if (Value.ref D == Value.ref D) = true then some true else _) = some true
  rw [if_pos (beq_iff_eq.mpr rfl)]
end G

/-! instances of own classes: fields read and stored, methods -/
namespace G
open PySem PySem.Spec L2
/-! ### fields by name -/
section
variable {K : PySem.W.Frag} {S : Reg} {H : Hp}
theorem fld_lk : ∀ {fs : List (Str × D)} {vs : List (Str × V)} {f : Str} {d : D}, vs.map (·.1) = fs.map (·.1) → Reps K S H (fs.map (·.2)) (vs.map (·.2)) → fs.lookup f = some d → ∃ v, vs.lookup f = some v ∧ Rep K S H d v
  | [], _, _, _, _, _, h => by cases h
  | (g, x) :: fs, [], _, _, e, _, _ => by cases e
  | (g, x) :: fs, (g', y) :: vs, f, d, e, r, h => by
    rw [List.map_cons, List.map_cons, List.cons.injEq] at e
    obtain ⟨e1, e2⟩ := e
    dsimp only at e1
    subst e1
    obtain ⟨y', r', e3, r1, r2⟩ := Reps.cons_iff.mp r
    rw [List.map_cons, List.cons.injEq] at e3
    obtain ⟨e3, e4⟩ := e3
    dsimp only at e3
    subst e3
    rw [List.lookup_cons] at h ⊢
    cases q : f == g' with
    | true =>
      rw [q] at h
      cases h
      exact ⟨y, rfl, r1⟩
    | false =>
      rw [q] at h
      exact fld_lk e2 (by rw [e4]; exact r2) h
theorem fld_none : ∀ {fs : List (Str × D)} {vs : List (Str × V)} {f : Str}, vs.map (·.1) = fs.map (·.1) → fs.lookup f = none → vs.lookup f = none
  | [], [], _, _, _ => rfl
  | [], _ :: _, _, e, _ => by cases e
  | (g, x) :: fs, [], _, e, _ => by cases e
  | (g, x) :: fs, (g', y) :: vs, f, e, h => by
    rw [List.map_cons, List.map_cons, List.cons.injEq] at e
    obtain ⟨e1, e2⟩ := e
    dsimp only at e1
    subst e1
    rw [List.lookup_cons] at h ⊢
    cases q : f == g' with
    | true => rw [q] at h; cases h
    | false =>
      rw [q] at h
      exact fld_none e2 h
/-- a field stored -/
def putFd (f : Str) (d : D) : List (Str × D) → List (Str × D)
  | [] => [(f, d)]
  | (g, x) :: r => if g = f then (g, d) :: r else (g, x) :: putFd f d r
theorem put_rep {f : Str} {d : D} {v : V} (rd : Rep K S H d v) : ∀ {fs : List (Str × D)} {vs : List (Str × V)}, vs.map (·.1) = fs.map (·.1) → Reps K S H (fs.map (·.2)) (vs.map (·.2)) →
    (putF f v vs).map (·.1) = (putFd f d fs).map (·.1) ∧ Reps K S H ((putFd f d fs).map (·.2)) ((putF f v vs).map (·.2))
  | [], [], _, _ => ⟨rfl, Reps.cons rd Reps.nil⟩
  | [], _ :: _, e, _ => by cases e
  | (g, x) :: fs, [], e, _ => by cases e
  | (g, x) :: fs, (g', y) :: vs, e, r => by
    rw [List.map_cons, List.map_cons, List.cons.injEq] at e
    obtain ⟨e1, e2⟩ := e
    dsimp only at e1
    subst e1
    obtain ⟨y', r', e3, r1, r2⟩ := Reps.cons_iff.mp r
    rw [List.map_cons, List.cons.injEq] at e3
    obtain ⟨e3, e4⟩ := e3
    dsimp only at e3
    subst e3
    unfold putF putFd
    by_cases q : g' = f
    · rw [if_pos q, if_pos q]
      exact ⟨by rw [List.map_cons, List.map_cons, e2], Reps.cons rd (by rw [e4]; exact r2)⟩
    · rw [if_neg q, if_neg q]
      obtain ⟨a, b⟩ := put_rep rd (fs := fs) (vs := vs) e2 (by rw [e4]; exact r2)
      exact ⟨by rw [List.map_cons, List.map_cons, a], Reps.cons r1 b⟩
theorem keys_len {fs : List (Str × D)} {vs : List (Str × V)} (e : vs.map (·.1) = fs.map (·.1)) : vs.length = fs.length := by
  have := congrArg List.length e
  rwa [List.length_map, List.length_map] at this
end
/-- an own class, the object, its fields' names are no names of the class -/
structure FldOf (K : PySem.W.Frag) (C : Addr) (f : Str) : Prop where
  c : Cls K C
  n : NoAttr K C f
section
variable {X : Cx} {Wx : WX} {o e value : Expr} {es : List Expr} {f m qual x : Str} {C : Addr} {pos pos' tpos apos p : Pos} {fo fe : TD} {fl : TL}
/-- e.f -/
def dFld (C : Addr) (f : Str) (fe : TD) : TD := fun ρ W Q Qx => fe ρ W (fun x ρ1 W1 => match x with
  | .v (.ref p) => ∃ dx fs d, W1 p = some (.ins C dx fs) ∧ fs.lookup f = some d ∧ Q d ρ1 W1
  | _ => False) Qx
theorem ge_fld (c : FldOf X.K C f) (he : GE X Wx e fe) (hb : attributeBase e f X.env (eval e X.env) = eval e X.env := by rfl) : GE X Wx (.Attribute e f pos) (dFld C f fe) := by
  obtain ⟨te, pe, se⟩ := he
  refine ⟨_, pe_fld pe hb, fun F S H σ ρ W Q Qx R cf hf hx hE => ?_⟩
  refine se F S H σ ρ W _ Qx _ cf hf hx fun S1 H1 ρ1 W1 d v e1 c1 r1 q1 => ?_
  split at q1
  · rename_i p
    obtain ⟨dx, fs, d, hw, hl, q⟩ := q1
    obtain ⟨_, _, vs, h1, h2, h3⟩ := c1.cb.w p _ hw
    obtain ⟨v', l', r'⟩ := fld_lk h2 h3 hl
    exact ⟨p, C, dx, vs, v', Rep.v_iff.mp r1, h1, c.c, c.n, l', hE S1 H1 ρ1 W1 d v' e1 c1 r' q⟩
  · exact q1.elim
/-- e.f = value -/
def dSetF (C : Addr) (f : Str) (fv fo : TD) : TSD := fun De ρ W => fv ρ W (fun d ρ1 W1 => fo ρ1 W1 (fun x ρ2 W2 => match x with
  | .v (.ref p) => ∃ dx fs, W2 p = some (.ins C dx fs) ∧ fs.length < 1000 ∧ De.nx ρ2 (updW W2 p (.ins C dx (putFd f d fs)))
  | _ => False) De.ex) De.ex
theorem gs_setF {fv : TD} (c : FldOf X.K C f) (hv : GE X Wx value fv) (ho : GE X Wx o fo) (hs : swapsWith value (some (.Attribute o f pos')) pos.line X.env = pure false := by rfl) : GS X Wx (.Assign [.Attribute o f pos'] value pos) (dSetF C f fv fo) := by
  obtain ⟨tv, pv, sv⟩ := hv
  obtain ⟨to, po, so⟩ := ho
  refine ⟨_, ps_fld po pv hs, fun F S H σ ρ W De Dh cf hf l => ?_⟩
  refine sv F S H σ ρ W _ De.ex _ cf hf l.ex fun S1 H1 ρ1 W1 d v e1 c1 r1 q1 => ?_
  refine so F S1 H1 σ ρ1 W1 _ De.ex _ c1 q1 (l.ex.up e1) fun S2 H2 ρ2 W2 d2 v2 e2 c2 r2 q2 => ?_
  split at q2
  · rename_i p
    obtain ⟨dx, fs, hw, hl, q⟩ := q2
    obtain ⟨_, _, vs, h1, h2, h3⟩ := c2.cb.w p _ hw
    obtain ⟨a, b⟩ := put_rep (r1.up e2) (f := f) h2 h3
    refine ⟨p, C, dx, vs, Rep.v_iff.mp r2, h1, c.c, c.n, by rw [keys_len h2]; exact hl, ?_⟩
    obtain ⟨st, c4⟩ := c2.chW (o := .ins C dx (putFd f d fs)) (u := .ins C dx (putF f v vs)) hw fun S' H' e' hp => ⟨_, hp, a, b.up e'⟩
    exact l.nx _ _ _ _ _ ((e1.trans e2).trans st) c4 q
  · exact q2.elim
/-! ### methods -/
structure MethAt (K : PySem.W.Frag) (C : Addr) (m qual : Str) (st : Stmt) (ps : List Str) : Prop where
  c : Cls K C
  ex : ∃ f fd, Meth K C m f ∧ Fun K m qual st f fd ∧ Binds K fd ps []
structure MCal (P : Program) (w : World) (K : PySem.W.Frag) (mg : Str → Option Value) (base : Heap) (k : Nat) (C : Addr) (m qual : Str) (st : Stmt) (ps : List Str) (sp : SpD) : Prop where
  c : Cls K C
  ex : ∃ f fd, Meth K C m f ∧ Fun K m qual st f fd ∧ Binds K fd ps [] ∧ FnG P w K mg base k f fd ps (toSp K ps.length sp)
end
section
variable {P : Program} {w : World} {K : PySem.W.Frag} {mg : Str → Option Value} {base : Heap} {k j : Nat} {C : Addr} {m qual : Str} {st : Stmt} {ps : List Str} {sp sp' : SpD}
theorem MCal.imp (c : MCal P w K mg base k C m qual st ps sp) (h : ∀ ds W Q Qx, sp' ds W Q Qx → sp ds W Q Qx) : MCal P w K mg base k C m qual st ps sp' := by
  obtain ⟨c0, f, fd, a, b, c, d⟩ := c
  exact ⟨c0, f, fd, a, b, c, d.imp (toSp_imp h _ _ _ _)⟩
theorem MCal.mono (c : MCal P w K mg base k C m qual st ps sp) (h : k ≤ j) : MCal P w K mg base j C m qual st ps sp := by
  obtain ⟨c0, f, fd, a, b, c, d⟩ := c
  exact ⟨c0, f, fd, a, b, c, d.mono h⟩
/-- THE RULE for a method -/
theorem mcalD {N : List Str} (T : MethAt K C m qual st ps) (Sc : FnScope N ps (defScope st))
    (hbody : ∀ (f : Addr) (cdv : Value) (A : Around) (outer : List PySem.Env) (s : Shared) (H : Hp) (E : XK), Rm k (A.deeper (PyProof.Rows.envOfC qual (defScope st) s.heap.objs.size f cdv)) →
      ∃ g, GSs (cxOf (L2.CX P w) P w K mg base N qual (defScope st) f cdv A outer s H E) (fun cls d _ H => E cls d H) (defBody st) g ∧
        ∀ ds W Qd Qx, ds.length = ps.length → sp ds W Qd Qx → g { nx := fun _ W' => Qd .non W', rt := Qd, ex := fun cls x _ W' => Qx cls x W' } (ds.map (fun d => some (Sl.sh d)) ++ List.replicate (N.length - ds.length) none) W) :
    MCal P w K mg base (k + 1) C m qual st ps sp := by
  obtain ⟨c0, f, fd, a, b, c⟩ := T
  exact ⟨c0, f, fd, a, b, c, okD b Sc (hbody f)⟩
end
section
variable {X : Cx} {Wx : WX} {o e value : Expr} {es : List Expr} {f m qual x : Str} {C : Addr} {pos pos' tpos apos p : Pos} {fo fe : TD} {fl : TL} {k j n : Nat} {st : Stmt} {ps : List Str} {sp : SpD} {kws : List Keyword}
/-- a def run at these arguments -/
theorem run_fnG {f : Addr} {fd : FuncData} {sp : Sp} {E : XK} {pins : List (Addr × Obj)} {σ : St} {H : Hp} {s : Shared} {Q : VK} {us : List Value} {vs : List V} (F : FnG X.prog X.w X.K X.mg X.base k f fd ps sp) (hr : Rm k X.A) (hb : Binds X.K fd ps []) (hx : PassesAt (L2.CX X.prog X.w) X σ E)
    (I : Inv X pins σ H s) (r : Vals vs us) (h : sp vs H Q E) : wpAny (model X.prog X.w) X.A (call (.ref f) us) (EP X pins σ Q) X.xe s := by
  have b := hb s us I.kIn (by rw [List.append_nil, ← r.length]; exact F.many h)
  rw [List.append_nil] at b
  refine wpAny_call (codeAny_mono (end_call (pins := pins) I (fun e s' z => hx pins H s e s' I z) (F.go hr I.env0 b r h)) fun r s' z => ?_)
  match r, z with
  | .error e, z => exact z
  | .ok (.ret u), z => exact z
  | .ok .next, z => exact z.elim
  | .ok .brk, z => exact z.elim
  | .ok .cont, z => exact z.elim
/-- o.m(e, ..) -/
def dMeth (C : Addr) (m : Str) (sp : SpD) (n : Nat) (fo : TD) (fl : TL) : TD := fun ρ W Q Qx => fo ρ W (fun x ρ1 W1 => match x with
  | .v (.ref p) => (∃ dx fs, W1 p = some (.ins C dx fs) ∧ fs.lookup m = none) ∧ fl ρ1 W1 (fun ds ρ' W' => ds.length + 1 = n ∧ sp (.ref p :: ds) W' (fun d W2 => Q d ρ' W2) (fun cls x W2 => Qx cls x ρ' W2)) Qx
  | _ => False) Qx
theorem ge_meth {pl : Sem Bool} (tk : Takes X Wx) (mc : MCal X.prog X.w X.K X.mg X.base k C m qual st ps sp) (hr : Rm j X.A) (hk : k ≤ j) (ho : GE X Wx o fo) (ha : GA X Wx (e :: es) fl) (hn : ps.length = n := by rfl)
    (hst : starEach (e :: es) X.env = (false, eval e X.env) :: starEach es X.env := by rfl) (hpl : (backTo pos (starEach es X.env)).any (·.1) = false := by rfl)
    (ht : eval (.Call (.Attribute o m apos) (e :: es) [] pos) X.env = (do
      let ov ← eval o X.env
      standAt apos.atName
      let (f, first) ← holding [ov] (getMethod ov m pl)
      callWith pos f first (backTo pos (starEach (e :: es) X.env)) (backToKw pos (keywordEach [] X.env))) := by rfl) : GE X Wx (.Call (.Attribute o m apos) (e :: es) [] pos) (dMeth C m sp n fo fl) := by
  obtain ⟨c0, f, fd, hm, _, hb, hf⟩ := mc
  obtain ⟨to, po, so⟩ := ho
  obtain ⟨ta, pa, sa⟩ := ha
  subst hn
  let te : TE := fun σ H Q => to σ H fun x H1 => ∃ a dx fs, x = .ref a ∧ H1 a = some (.ins C dx fs) ∧ fs.lookup m = none ∧ ta σ H1 fun vs H2 => toSp X.K ps.length sp (x :: vs) H2 Q (WE Wx σ)
  refine ⟨te, ⟨fun pins s σ H Q I h => ?_⟩, ?_⟩
  · refine PySem.W.methodCall_KW (pl := pl) (thn (po.run pins s σ H _ I h) fun u s1 ⟨x, H1, I1, rx, a, dx, fs, ex, ea, l, q⟩ => ?_) ht
    subst ex
    obtain rfl : u = Value.ref a := rx
    refine getmeth_ok I1 ea c0 hm l ?_
    refine PySem.W.callWith_K (first := [.ref a]) (h₀ := X.base) I.ok.mod.kin hm.kp (thn (pa.run pos pins s1 σ H1 _ I1 q) fun us s2 ⟨vs, H2, I2, r, q2⟩ => ⟨I2.kIn, ?_⟩) hst hpl
    exact run_fnG (us := .ref a :: us) (vs := .ref a :: vs) hf (hr.less hk) hb (passAt tk σ) I2 (.cons rfl r) q2
  · intro F S H σ ρ W Q Qx R cf hf' hx hE
    refine so F S H σ ρ W _ Qx _ cf hf' hx fun S1 H1 ρ1 W1 d v e1 c1 r1 q1 => ?_
    split at q1
    · rename_i p
      obtain ⟨⟨dx, fs, hw, hl⟩, q1⟩ := q1
      obtain ⟨_, _, vs, h1, h2, h3⟩ := c1.cb.w p _ hw
      have ev := Rep.v_iff.mp r1
      subst ev
      refine ⟨p, dx, vs, rfl, h1, fld_none h2 hl, ?_⟩
      refine sa F S1 H1 σ ρ1 W1 _ Qx _ c1 q1 (hx.up e1) fun S2 H2 ρ2 W2 ds ws e2 c2 r2 q2 => ?_
      refine ⟨_, S2, W2, .ref p :: ds, _, _, c2.below, Reps.cons (Rep.v_iff.mpr rfl) r2, q2.1, q2.2, fun S' H' W' d v e' b r q => ?_, fun S' H' W' cls x od e' b xr q => ?_⟩
      · exact hE S' H' ρ2 W' d v ((e1.trans e2).trans (e'.mono fun _ h => .inl h)) (c2.back e' b) r q
      · exact hx S' H' σ ρ2 W' cls x od ((e1.trans e2).trans (e'.mono fun _ h => .inl h)) (c2.back e' b) xr q
    · exact q1.elim
/-- o.m() -/
theorem ge_meth0 {pl : Sem Bool} (tk : Takes X Wx) (mc : MCal X.prog X.w X.K X.mg X.base k C m qual st ps sp) (hr : Rm j X.A) (hk : k ≤ j) (ho : GE X Wx o fo) (hn : ps.length = n := by rfl)
    (ht : eval (.Call (.Attribute o m apos) [] [] pos) X.env = (do
      let ov ← eval o X.env
      standAt apos.atName
      let (f, first) ← holding [ov] (getMethod ov m pl)
      callWith pos f first (backTo pos (starEach [] X.env)) (backToKw pos (keywordEach [] X.env))) := by rfl) : GE X Wx (.Call (.Attribute o m apos) [] [] pos) (dMeth C m sp n fo dNil) := by
  obtain ⟨c0, f, fd, hm, _, hb, hf⟩ := mc
  obtain ⟨to, po, so⟩ := ho
  subst hn
  let te : TE := fun σ H Q => to σ H fun x H1 => ∃ a dx fs, x = .ref a ∧ H1 a = some (.ins C dx fs) ∧ fs.lookup m = none ∧ toSp X.K ps.length sp [x] H1 Q (WE Wx σ)
  refine ⟨te, ⟨fun pins s σ H Q I h => ?_⟩, ?_⟩
  · refine PySem.W.methodCall_KW (pl := pl) (thn (po.run pins s σ H _ I h) fun u s1 ⟨x, H1, I1, rx, a, dx, fs, ex, ea, l, q⟩ => ?_) ht
    subst ex
    obtain rfl : u = Value.ref a := rx
    refine getmeth_ok I1 ea c0 hm l ?_
    exact PySem.W.callWith_K0 (first := [.ref a]) I1.kIn hm.kp (run_fnG (us := [.ref a]) (vs := [.ref a]) hf (hr.less hk) hb (passAt tk σ) I1 (.cons rfl .nil) q)
  · intro F S H σ ρ W Q Qx R cf hf' hx hE
    refine so F S H σ ρ W _ Qx _ cf hf' hx fun S1 H1 ρ1 W1 d v e1 c1 r1 q1 => ?_
    split at q1
    · rename_i p
      obtain ⟨⟨dx, fs, hw, hl⟩, q2⟩ := q1
      obtain ⟨_, _, vs, h1, h2, h3⟩ := c1.cb.w p _ hw
      have ev := Rep.v_iff.mp r1
      subst ev
      refine ⟨p, dx, vs, rfl, h1, fld_none h2 hl, ?_⟩
      refine ⟨_, S1, W1, [.ref p], _, _, c1.below, Reps.cons (Rep.v_iff.mpr rfl) Reps.nil, q2.1, q2.2, fun S' H' W' d v e' b r q => ?_, fun S' H' W' cls x od e' b xr q => ?_⟩
      · exact hE S' H' ρ1 W' d v (e1.trans (e'.mono fun _ h => .inl h)) (c1.back e' b) r q
      · exact hx S' H' σ ρ1 W' cls x od (e1.trans (e'.mono fun _ h => .inl h)) (c1.back e' b) xr q
    · exact q1.elim
/-- o.m(k = e, ..), every argument by its name; ix: where the parameters behind self stand among the keywords -/
def dMethK (C : Addr) (m : Str) (sp : SpD) (n a : Nat) (ix : List Nat) (fo : TD) (fl : TL) : TD := fun ρ W Q Qx => fo ρ W (fun x ρ1 W1 => match x with
  | .v (.ref p) => (∃ dx fs, W1 p = some (.ins C dx fs) ∧ fs.lookup m = none) ∧ fl ρ1 W1 (fun ds ρ' W' => ds.length = a ∧ (pick ix ds).length + 1 = n ∧ sp (.ref p :: pick ix ds) W' (fun d W2 => Q d ρ' W2) (fun cls x W2 => Qx cls x ρ' W2)) Qx
  | _ => False) Qx
theorem ge_methK {ks : List Str} {a : Nat} {pl : Sem Bool} (tk : Takes X Wx) (ix : List Nat) (mc : MCal X.prog X.w X.K X.mg X.base k C m qual st ps sp) (hr : Rm j X.A) (hk : k ≤ j) (ho : GE X Wx o fo)
    (hb : ∀ (kV doc pm : Value) (an : Option Addr) (cdv ct u : Value) (ws : List Value), ws.length = ks.length → bindArgs (PySem.W.fnOf m qual (defArgs st) (defBody st) (defScope st) .none kV doc pm an cdv ct) ⟨[u], ks.zip ws⟩ = pure (ps.zip (u :: pick ix ws)))
    (ha : GK X Wx kws fl) (hm : ks.length = a := by rfl) (hn : ps.length = n := by rfl) (hall : (backToKw pos (keywordEach kws X.env)).all (·.1.isSome) = true := by rfl) (hks : (backToKw pos (keywordEach kws X.env)).filterMap (·.1) = ks := by rfl)
    (hpl : ((backTo pos (starEach [] X.env)).any (·.1) || (backToKw pos (keywordEach kws X.env)).any (·.1.isNone)) = false := by rfl)
    (ht : eval (.Call (.Attribute o m apos) [] kws pos) X.env = (do
      let ov ← eval o X.env
      standAt apos.atName
      let (f, first) ← holding [ov] (getMethod ov m pl)
      callWith pos f first (backTo pos (starEach [] X.env)) (backToKw pos (keywordEach kws X.env))) := by rfl) :
    GE X Wx (.Call (.Attribute o m apos) [] kws pos) (dMethK C m sp n a ix fo fl) := by
  obtain ⟨c0, f, fd, hmm, hF, hB, hf⟩ := mc
  obtain ⟨to, po, so⟩ := ho
  obtain ⟨ta, pa, sa⟩ := ha
  subst hn
  let te : TE := fun σ H Q => to σ H fun x H1 => ∃ a dx fs, x = .ref a ∧ H1 a = some (.ins C dx fs) ∧ fs.lookup m = none ∧ ta σ H1 fun zs H2 => zs.length = ks.length ∧ toSp X.K ps.length sp (x :: pick ix zs) H2 Q (WE Wx σ)
  refine ⟨te, ⟨fun pins s σ H Q I h => ?_⟩, ?_⟩
  · refine PySem.W.methodCall_KW (pl := pl) (thn (po.run pins s σ H _ I h) fun u s1 ⟨x, H1, I1, rx, a, dx, fs, ex, ea, l, q⟩ => ?_) ht
    subst ex
    obtain rfl : u = Value.ref a := rx
    refine getmeth_ok I1 ea c0 hmm l ?_
    refine PySem.W.callWith_KW0 (first := [.ref a]) (h₀ := X.base) I1.ok.mod.kin hmm.kp hall ?_ hpl
    refine thn (pa.run pos pins s1 σ H1 _ I1 q) fun ws s2 ⟨zs, H2, I2, rz, l2, q2⟩ => ⟨I2.kIn, ?_⟩
    rw [hks]
    obtain ⟨oc, od, kV, doc, pm, an, cdv, ct, osl, rfl, lk, hcd⟩ := hF.ex
    have hr2 := vals_pick rz ix
    have hv : Vals (V.ref a :: pick ix zs) (Value.ref a :: pick ix ws) := .cons rfl hr2
    have hbt := BindsTo.of_eq (s := s2) (hb kV doc pm an cdv ct (.ref a) ws (by rw [← rz.length, l2]))
    refine wpAny_call (codeAny_mono (end_call (pins := pins) I2 (fun e s' z => passAt tk σ pins H2 s2 e s' I2 z) (hf.go (hr.less hk) I2.env0 hbt hv q2)) fun r s' z => ?_)
    match r, z with
    | .error e, z => exact z
    | .ok (.ret u), z => exact z
    | .ok .next, z => exact z.elim
    | .ok .brk, z => exact z.elim
    | .ok .cont, z => exact z.elim
  · intro F S H σ ρ W Q Qx R cf hf' hx hE
    refine so F S H σ ρ W _ Qx _ cf hf' hx fun S1 H1 ρ1 W1 d v e1 c1 r1 q1 => ?_
    split at q1
    · rename_i p
      obtain ⟨⟨dx, fs, hw, hl⟩, q1⟩ := q1
      obtain ⟨_, _, vs, h1, h2, h3⟩ := c1.cb.w p _ hw
      have ev := Rep.v_iff.mp r1
      subst ev
      refine ⟨p, dx, vs, rfl, h1, fld_none h2 hl, ?_⟩
      refine sa F S1 H1 σ ρ1 W1 _ Qx _ c1 q1 (hx.up e1) fun S2 H2 ρ2 W2 ds ws e2 c2 r2 q2 => ?_
      obtain ⟨q0, q1, q2⟩ := q2
      refine ⟨by rw [r2.length, q0, hm], _, S2, W2, .ref p :: pick ix ds, _, _, c2.below, Reps.cons (Rep.v_iff.mpr rfl) (reps_pick r2 ix), q1, q2, fun S' H' W' d v e' b r q => ?_, fun S' H' W' cls x od e' b xr q => ?_⟩
      · exact hE S' H' ρ2 W' d v ((e1.trans e2).trans (e'.mono fun _ h => .inl h)) (c2.back e' b) r q
      · exact hx S' H' σ ρ2 W' cls x od ((e1.trans e2).trans (e'.mono fun _ h => .inl h)) (c2.back e' b) xr q
    · exact q1.elim
end
/-! ### defs with defaults -/
structure FunA (K : PySem.W.Frag) (x qual : Str) (st : Stmt) (f : Addr) (fd : FuncData) : Prop where
  ex : ∃ (oc : Value) (od : Option Addr) (dV kV doc pm : Value) (an : Option Addr) (cdv ct : Value) (osl : Array (Option Value)),
    fd = PySem.W.fnOf x qual (defArgs st) (defBody st) (defScope st) dV kV doc pm an cdv ct ∧ K.lookup f = some ⟨oc, od, .func fd, osl⟩ ∧ PySem.W.codeIn K cdv qual = true
  kp : PySem.W.keepIn K (.ref f) = true
/-- the same with any defaults -/
theorem fng_ofA {P : Program} {w : World} {K : PySem.W.Frag} {mg : Str → Option Value} {base : Heap} {k : Nat} {x qual : Str} {st : Stmt} {f : Addr} {fd : FuncData} {N ps : List Str} {sp : Sp} (F : FunA K x qual st f fd) (S : FnScope N ps (defScope st)) (hl : ∀ {vs H Q E}, sp vs H Q E → vs.length = ps.length)
    (hb : ∀ (cdv : Value) (A : Around) (outer : List PySem.Env) (s : Shared) (H : Hp) (vs : List V) (Q : VK) (E : XK), Rm k (A.deeper (PyProof.Rows.envOfC qual (defScope st) s.heap.objs.size f cdv)) → sp vs H Q E →
      ∃ t, PSs (cxOf (L2.CX P w) P w K mg base N qual (defScope st) f cdv A outer s H E) (defBody st) t ∧ t { nx := fun _ H' => Q .non H', rt := Q } (L2.start N vs) H) : FnG P w K mg base (k + 1) f fd ps sp := by
  obtain ⟨oc, od, dV, kV, doc, pm, an, cdv, ct, osl, efd, atK, isC⟩ := F.ex
  subst efd
  refine ⟨hl, ?_⟩
  intro A outer s H args us vs Q E rm env bnd rel hsp
  have stay : ∀ b o, base.get? b = some o → s.heap.get? b = some o := fun b o e => (env.bs b o e).1
  have inK : K.In s.heap := env.mod.kin.keeps stay
  have par : ∀ y ∈ ps.zip us, (defScope st).names.lookup y.1 = some .local ∨ ((defScope st).names.lookup y.1 = some .cell ∧ ((cellsFrom (s.heap.objs.size + 1) (defScope st).names []).lookup y.1).isSome = true) := by
    rintro ⟨n, v⟩ hy
    refine (S.par n (List.of_mem_zip hy).1).imp id fun q => ⟨q, PySem.W.cellsFrom_some _ _ _ (.inl q)⟩
  refine codeAny_call_function rm.toRoom.depth (inK _ _ atK) rfl S.co S.gen rfl (PySem.W.codeRec_of inK isC) (bnd _ _ _ _ ?_)
  refine wpAny_newFunctionEnv_cells S.kind par ?_
  rintro env' rfl s1 inC
  refine ⟨(env.mod.nolimit.keeps stay).keeps inC.toInCall.keep, codeAny_func ?_⟩
  obtain ⟨t, pt, qt⟩ := hb cdv A outer s H vs Q E ⟨rm.toRoom.deeper _, rm.gd⟩ hsp
  have I := inv_start (CX := L2.CX P w) (E := E) S rm.toRoom.hd env (hl hsp) rel inC
  refine wpAny_mono (pt.run [] s1 (L2.start N vs) H _ I qt) (fun fl s' q => ?_) (fun _ _ q => q)
  match fl, q with
  | .ret u, ⟨v, _, H', J, rv, q⟩ => exact ⟨v, H', J.os, J.bare, J.base, J.hok, rv, q⟩
  | .next, ⟨_, H', J, q⟩ => exact ⟨V.non, H', J.os, J.bare, J.base, J.hok, rfl, q⟩
  | .brk, ⟨_, _, _, q⟩ => exact q.elim
  | .cont, ⟨_, _, _, q⟩ => exact q.elim
/-- .. and of a def with any defaults -/
theorem okDA {P : Program} {w : World} {K : PySem.W.Frag} {mg : Str → Option Value} {base : Heap} {x qual : Str} {st : Stmt} {f : Addr} {fd : FuncData} {N ps : List Str} {k : Nat} {sp : SpD} (F : FunA K x qual st f fd) (Sc : FnScope N ps (defScope st))
    (hbody : ∀ (cdv : Value) (A : Around) (outer : List PySem.Env) (s : Shared) (H : Hp) (E : XK), Rm k (A.deeper (PyProof.Rows.envOfC qual (defScope st) s.heap.objs.size f cdv)) →
      ∃ g, GSs (cxOf (L2.CX P w) P w K mg base N qual (defScope st) f cdv A outer s H E) (fun cls d _ H => E cls d H) (defBody st) g ∧
        ∀ ds W Qd Qx, ds.length = ps.length → sp ds W Qd Qx → g { nx := fun _ W' => Qd .non W', rt := Qd, ex := fun cls x _ W' => Qx cls x W' } (ds.map (fun d => some (Sl.sh d)) ++ List.replicate (N.length - ds.length) none) W) :
    FnG P w K mg base (k + 1) f fd ps (toSp K ps.length sp) := by
  refine fng_ofA F Sc (fun {vs H Q E} h => ?_) (fun cdv A outer s H vs Q E hr h => ?_)
  · obtain ⟨_, _, _, ds, _, _, _, h1, h2, _⟩ := h
    rw [h1.length, h2]
  · obtain ⟨g, ⟨t, pt, sg⟩, hg⟩ := hbody cdv A outer s H E hr
    obtain ⟨Fr, S, W, ds, Qd, Qx, cb, rs, hl, hsp, hQ, hE⟩ := h
    refine ⟨t, pt, ?_⟩
    have hvl : vs.length = ps.length := by rw [rs.length, hl]
    refine sg Fr S H (L2.start N vs) _ W _ _ ?_ (hg ds W Qd Qx hl hsp) ?_
    · have shp : ∀ (i : Nat) (sl : Sl), (ds.map (fun d => some (Sl.sh d)) ++ List.replicate (N.length - ds.length) none)[i]? = some (some sl) → ∃ d, ds[i]? = some d ∧ sl = .sh d := fun i sl h => by
        rw [List.getElem?_append] at h
        split at h
        · rename_i hi
          rw [List.getElem?_map] at h
          cases e : ds[i]? with
          | none => rw [e] at h; cases h
          | some d => rw [e] at h; cases h; exact ⟨d, rfl, rfl⟩
        · rw [List.getElem?_replicate] at h
          split at h <;> cases h
      refine ⟨cb, ?_, fun i d h => ?_, fun i ds' h => ?_, fun i j p h1 h2 => ?_⟩
      · unfold L2.start
        simp [rs.length]
      · obtain ⟨d', e1, e2⟩ := shp i _ h
        cases e2
        obtain ⟨v, e3, r⟩ := rs.get e1
        refine ⟨v, ?_, r⟩
        unfold L2.start
        have hi : i < vs.length := (List.getElem?_eq_some_iff.mp e3).1
        rw [List.getElem?_append_left (by simpa using hi), List.getElem?_map, e3]
        rfl
      · obtain ⟨d', e1, e2⟩ := shp i _ h
        cases e2
      · obtain ⟨ds', h1, _⟩ := h1
        obtain ⟨d', e1, e2⟩ := shp i _ h1
        cases e2
    · exact ⟨fun S' H' σ' ρ' W' e c q => hQ S' H' W' _ _ e c.cb (Rep.v_iff.mpr rfl) q, fun S' H' σ' ρ' W' d v e c r q => hQ S' H' W' d v e c.cb r q,
        fun S' H' σ' ρ' W' e c q => q.elim, fun S' H' σ' ρ' W' e c q => q.elim, fun S' H' σ' ρ' W' cls x od e c xr q => hE S' H' W' cls x od e c.cb xr q⟩
end G

/-! instances of own classes: made, properties -/
namespace G
open PySem PySem.Spec L2
theorem Rm.in1 {k : Nat} {A : Around} (r : Rm (k + 1) A) : Rm k A.in1 := ⟨r.toRoom.in1, r.gd⟩
theorem make_guards {A : Around} {C : Addr} {us : List Value} {kw : List (Str × Value)} : (A.under (.builtin "type.__call__" ⟨.ref C :: us, kw⟩)).guards = A.guards := by
  first | rfl | simp [Around.under, Code.weight, Code.isCreation, Code.isGuard, Code.isCaller, Code.frames, Code.isFrame, guardIds]
theorem Rm.make {k : Nat} {A : Around} (r : Rm (k + 1) A) (C : Addr) (us : List Value) (kw : List (Str × Value)) : Rm k (A.under (.builtin "type.__call__" ⟨.ref C :: us, kw⟩)) := ⟨r.toRoom.make C us kw, make_guards.trans r.gd⟩
section
variable {K : PySem.W.Frag} {F S : Reg} {H : Hp} {σ : St} {ρ : Env} {W : Wd}
/-- a new changeable object -/
theorem Cf.newMO (c : Cf K F S H σ ρ W) {p : Addr} {u : HO} {o : MO} (hp : H p = none) (ho : ∀ S' H', Stp (fun _ => False) S H S' H' → H' p = some u → MRep K S' H' p o) :
    W p = none ∧ Stp F S H (Add S p) (upd H p u) ∧ Cf K F (Add S p) (upd H p u) σ ρ (updW W p o) := by
  have hw : W p = none := by
    cases q : W p with
    | none => rfl
    | some o => exact absurd hp (c.cb.sd p (c.cb.w p o q).1)
  have np : ∀ a, S a → a ≠ p := fun a hs q => c.cb.sd a hs (by rw [q]; exact hp)
  have st : Stp F S H (Add S p) (upd H p u) := (c.alien (o := u) hp).1
  refine ⟨hw, st, ⟨fun a h => ?_, fun a h => .inl (c.cb.fs a h), fun q o' hq => ?_⟩, c.len, fun j d' h => ?_, fun j ds' h => ?_, c.dis⟩
  · rcases h with h | h
    · rw [upd_ne (np a h)]; exact c.cb.sd a h
    · rw [h, upd_same]; simp
  · by_cases hq' : q = p
    · subst hq'
      rw [updW_same] at hq
      cases hq
      exact ⟨.inr rfl, fun hf => c.cb.sd _ (c.cb.fs _ hf) hp, ho _ _ (st.mono fun _ h => h.elim) upd_same⟩
    · rw [updW_ne hq'] at hq
      obtain ⟨h1, h2, h3⟩ := c.cb.w q o' hq
      exact ⟨.inl h1, h2, h3.up st (upd_ne hq')⟩
  · obtain ⟨w, h1, h2⟩ := c.sh j d' h
    exact ⟨w, h1, h2.up st⟩
  · obtain ⟨q, h1, h3, h4, h5, h6⟩ := c.om j ds' h
    have hq : q ≠ p := np q h4
    exact ⟨q, h1, h3.up st (upd_ne hq), .inl h4, h5, by rw [updW_ne hq]; exact h6⟩
end
/-- an own class with an __init__ that is a def of the text -/
structure MkAt (K : PySem.W.Frag) (mg : Str → Option Value) (x : Str) (C : Addr) (qual : Str) (st : Stmt) (ps : List Str) (dvs : List V) : Prop where
  at_ : mg x = some (.ref C)
  ex : ∃ f fd ds, Mk K C f ∧ FunA K "__init__" qual st f fd ∧ Binds K fd ps ds ∧ Vals dvs ds
structure MkCal (P : Program) (w : World) (K : PySem.W.Frag) (mg : Str → Option Value) (base : Heap) (k : Nat) (x : Str) (C : Addr) (qual : Str) (st : Stmt) (ps : List Str) (dvs : List V) (sp : SpD) : Prop where
  at_ : mg x = some (.ref C)
  ex : ∃ f fd ds, Mk K C f ∧ FunA K "__init__" qual st f fd ∧ Binds K fd ps ds ∧ Vals dvs ds ∧ FnG P w K mg base k f fd ps (toSp K ps.length sp)
section
variable {P : Program} {w : World} {K : PySem.W.Frag} {mg : Str → Option Value} {base : Heap} {k j : Nat} {x : Str} {C : Addr} {m qual : Str} {st : Stmt} {ps : List Str} {sp sp' : SpD} {dvs : List V}
theorem mkcalD {N : List Str} (T : MkAt K mg x C qual st ps dvs) (Sc : FnScope N ps (defScope st))
    (hbody : ∀ (f : Addr) (cdv : Value) (A : Around) (outer : List PySem.Env) (s : Shared) (H : Hp) (E : XK), Rm k (A.deeper (PyProof.Rows.envOfC qual (defScope st) s.heap.objs.size f cdv)) →
      ∃ g, GSs (cxOf (L2.CX P w) P w K mg base N qual (defScope st) f cdv A outer s H E) (fun cls d _ H => E cls d H) (defBody st) g ∧
        ∀ ds W Qd Qx, ds.length = ps.length → sp ds W Qd Qx → g { nx := fun _ W' => Qd .non W', rt := Qd, ex := fun cls x _ W' => Qx cls x W' } (ds.map (fun d => some (Sl.sh d)) ++ List.replicate (N.length - ds.length) none) W) :
    MkCal P w K mg base (k + 1) x C qual st ps dvs sp := by
  obtain ⟨at_, f, fd, ds, a, b, c, d⟩ := T
  exact ⟨at_, f, fd, ds, a, b, c, d, okDA b Sc (hbody f)⟩
end
section
variable {X : Cx} {Wx : WX} {o e value : Expr} {es : List Expr} {f m qual x : Str} {C : Addr} {pos pos' tpos apos p : Pos} {fo fe : TD} {fl : TL} {k j n : Nat} {st : Stmt} {ps : List Str} {sp : SpD} {kws : List Keyword} {dvs : List V}
/-- an instance made, its __init__ run -/
theorem run_makeG {fi : Addr} {fd : FuncData} {sp : Sp} {E : XK} {pins : List (Addr × Obj)} {σ : St} {H : Hp} {s : Shared} {Q : VK} {us ds : List Value} {vs : List V} (M : Mk X.K C fi) (F : FnG X.prog X.w X.K X.mg X.base k fi fd ps sp) (hr : Rm (k + 1) X.A) (hb : Binds X.K fd ps ds) (hd : Vals dvs ds)
    (hx : PassesAt (L2.CX X.prog X.w) X σ E) (I : Inv X pins σ H s) (r : Vals vs us)
    (h : ∀ x dx, H x = none → H dx = none → dx ≠ x → sp (.ref x :: (vs ++ dvs)) (upd (upd H dx (.own x)) x (.ins C dx [])) (fun v H2 => v = .non ∧ Q (.ref x) H2) E) :
    wpAny (model X.prog X.w) X.A (call (.ref C) us) (EP X pins σ Q) X.xe s := by
  have hq := h (s.heap.objs.size + 1) s.heap.objs.size (I.hok.fresh (Nat.le_succ _)) (I.hok.fresh (Nat.le_refl _)) (Nat.ne_of_lt (Nat.lt_succ_self _))
  have I2 := Inv.made (C := C) I
  have r2 : Vals (V.ref (s.heap.objs.size + 1) :: (vs ++ dvs)) (Value.ref (s.heap.objs.size + 1) :: (us ++ ds)) := .cons rfl (r.append hd)
  have hl : (Value.ref (s.heap.objs.size + 1) :: us ++ ds).length = ps.length := by
    have e := r2.length
    rw [F.many hq] at e
    exact e.symm
  refine wpAny_call (make_map (f := fi) I.kIn M.makes M.init (beq_iff_eq.mp M.fn) (codeAny_mono (F.go (hr.make C us []) (I2.env0.make C us []) (hb _ (Value.ref (s.heap.objs.size + 1) :: us) I2.kIn hl) r2 hq) fun r s' hq' => ?_))
  cases r with
  | error e => exact hx pins _ _ e s' I2 hq'
  | ok fl =>
    cases fl with
    | ret u =>
      obtain ⟨v, H', I3, rv, ev, q3⟩ := I2.after hq'
      subst ev
      exact ⟨rv, ⟨V.ref (s.heap.objs.size + 1), H', I3, rfl, q3⟩⟩
    | next => exact False.elim hq'
    | brk => exact False.elim hq'
    | cont => exact False.elim hq'
/-- C(e, ..) -/
def dMake (C : Addr) (sp : SpD) (n : Nat) (dvs : List V) (fl : TL) : TD := fun ρ W Q Qx => fl ρ W (fun ds ρ1 W1 => ∀ p dx, W1 p = none → (ds ++ dvs.map D.v).length + 1 = n ∧ sp (.ref p :: (ds ++ dvs.map D.v)) (updW W1 p (.ins C dx [])) (fun d W2 => d = .non ∧ Q (.ref p) ρ1 W2) (fun cls x W2 => Qx cls x ρ1 W2)) Qx
theorem ge_make (tk : Takes X Wx) (mc : MkCal X.prog X.w X.K X.mg X.base k x C qual st ps dvs sp) (hr : Rm j X.A) (hk : k + 1 ≤ j) (hg : Gl X x) (ha : GA X Wx (e :: es) fl) (hn : ps.length = n := by rfl)
    (hdb : (x == ("__debug__" : Str)) = false := by decide) (he : starEach (e :: es) X.env = (false, eval e X.env) :: starEach es X.env := by rfl) (hpl : (backTo pos (starEach es X.env)).any (·.1) = false := by rfl) :
    GE X Wx (.Call (.Name x p) (e :: es) [] pos) (dMake C sp n dvs fl) := by
  obtain ⟨hm, fi, fd, ds0, M, _, hb, hd, F⟩ := mc
  obtain ⟨ta, pa, sa⟩ := ha
  subst hn
  let te : TE := fun σ H Q => ta σ H fun vs H1 => ∀ x dx, H1 x = none → H1 dx = none → dx ≠ x → toSp X.K ps.length sp (.ref x :: (vs ++ dvs)) (upd (upd H1 dx (.own x)) x (.ins C dx [])) (fun v H2 => v = .non ∧ Q (.ref x) H2) (WE Wx σ)
  refine ⟨te, ⟨fun pins s σ H Q I h => ?_⟩, ?_⟩
  · refine wpAny_Call_Name_kw (ld_glob I hg hm ?_ hdb)
    refine PySem.W.callWith_K (h₀ := X.base) I.ok.mod.kin M.kp (thn (pa.run pos pins s σ H _ I h) fun us s1 ⟨vs, H1, I1, r, q⟩ => ⟨I1.kIn, ?_⟩) he hpl
    exact run_makeG M F (hr.less hk) hb hd (passAt tk σ) I1 r q
  · intro F S H σ ρ W Q Qx R cf hf' hx hE
    refine sa F S H σ ρ W _ Qx _ cf hf' hx fun S1 H1 ρ1 W1 ds vs e1 c1 r1 q1 => fun a dx ha hdx hne => ?_
    have sm : Same H1 (upd H1 dx (.own a)) := same_new hdx
    have c2 := c1.same sm
    have ha2 : upd H1 dx (.own a) a = none := by rw [upd_ne hne.symm]; exact ha
    obtain ⟨hw, st, c3⟩ := c2.newMO (o := .ins C dx []) (u := .ins C dx []) ha2 fun S' H' e' hp => ⟨[], hp, rfl, Reps.nil⟩
    have e3 := (stp_same c1.cb sm).trans st
    obtain ⟨h1, h2⟩ := q1 a dx hw
    have rv : Reps X.K S1 H1 (dvs.map D.v) dvs := Reps.map_v dvs
    refine ⟨_, _, _, .ref a :: (ds ++ dvs.map D.v), _, _, c3.below, Reps.cons (Rep.v_iff.mpr rfl) ((r1.append rv).up e3), h1, h2, fun S' H' W' d v e' b r q => ?_, fun S' H' W' cls x od e' b xr q => ?_⟩
    · obtain ⟨ed, q⟩ := q
      subst ed
      exact ⟨Rep.v_iff.mp r, hE S' H' ρ1 W' (.ref a) _ ((e1.trans e3).trans (e'.mono fun _ h => .inl h)) (c3.back e' b) (Rep.v_iff.mpr rfl) q⟩
    · exact hx S' H' σ ρ1 W' cls x od ((e1.trans e3).trans (e'.mono fun _ h => .inl h)) (c3.back e' b) xr q
/-! ### properties -/
structure PropAt (K : PySem.W.Frag) (C : Addr) (f qual : Str) (st : Stmt) : Prop where
  c : Cls K C
  ex : ∃ p g fd, PropOf K C f p g ∧ FunA K f qual st g fd ∧ Binds K fd ["self"] []
structure PropCal (P : Program) (w : World) (K : PySem.W.Frag) (mg : Str → Option Value) (base : Heap) (k : Nat) (C : Addr) (f qual : Str) (st : Stmt) (sp : SpD) : Prop where
  c : Cls K C
  ex : ∃ p g fd, PropOf K C f p g ∧ FunA K f qual st g fd ∧ Binds K fd ["self"] [] ∧ FnG P w K mg base k g fd ["self"] (toSp K 1 sp)
theorem getpropG {p g a dx : Addr} {fs : List (Str × V)} {f : Str} {fd : FuncData} {sp : Sp} {pins : List (Addr × Obj)} {σ : St} {H : Hp} {s : Shared} {Q : VK} {b : Bool} {E' : Value → Shared → Prop} (I : Inv X pins σ H s) (ea : H a = some (.ins C dx fs)) (c : Cls X.K C) (hp : PropOf X.K C f p g)
    (F : FnG X.prog X.w X.K X.mg X.base k g fd ["self"] sp) (hr : Rm (k + 1) X.A) (hb : Binds X.K fd ["self"] []) (h : sp [.ref a] H Q E0) :
    wpAny (model X.prog X.w) X.A (getAttr (.ref a) f b) (EP X pins σ Q) E' s := by
  obtain ⟨mA, O, _, _, _, _⟩ := ins_get I.hok ea
  obtain ⟨od, J, _⟩ := O.look
  obtain ⟨rest, hrec⟩ := hp.rec_
  have I1 := I.tok (s.toks + 1)
  have hc : (PySem.W.clsIn X.K C).isSome = true := by
    obtain ⟨cd, hc, _⟩ := PySem.W.any_some c.hd
    rw [hc]
    rfl
  have hbt := hb { s with toks := s.toks + 1 } [.ref a] I1.kIn rfl
  rw [List.append_nil] at hbt
  have rv0 : Vals [V.ref a] [Value.ref a] := .cons rfl .nil
  refine PySem.W.get_bind I.kIn J (PySem.W.plainGet_of (c.get f)).1 (PySem.W.findObj_data hc hp.at_ hp.get hp.tak) (PySem.W.plainGet_of (c.get f)).2 (wpAny_call (PySem.W.prop_get (s := { s with toks := s.toks + 1 }) I.kIn hrec ?_))
  refine codeAny_mono (F.go hr.in1 I1.env0.in1 hbt rv0 h) fun r s' hq => ?_
  cases r with
  | error er => exact False.elim (passL (X := X.nox) pins σ H { s with toks := s.toks + 1 } er s' (I1.wish _) hq)
  | ok fl =>
    cases fl with
    | ret u =>
      obtain ⟨v, H', I3, rv, q3⟩ := I1.after hq
      show wpAny _ _ (handedOut u) _ _ _
      rw [PySem.W.handedOut_of (handed_of rv)]
      exact wpAny_pure ⟨v, H', I3, rv, q3⟩
    | next => exact False.elim hq
    | brk => exact False.elim hq
    | cont => exact False.elim hq
/-- e.f, a property; nothing is raised -/
def dProp (C : Addr) (sp : SpD) (fe : TD) : TD := fun ρ W Q Qx => fe ρ W (fun x ρ1 W1 => match x with
  | .v (.ref p) => (∃ dx fs, W1 p = some (.ins C dx fs)) ∧ sp [.ref p] W1 (fun d W2 => Q d ρ1 W2) (fun _ _ _ => False)
  | _ => False) Qx
theorem ge_prop (mc : PropCal X.prog X.w X.K X.mg X.base k C f qual st sp) (hr : Rm j X.A) (hk : k + 1 ≤ j) (he : GE X Wx e fe) (hb : attributeBase e f X.env (eval e X.env) = eval e X.env := by rfl) : GE X Wx (.Attribute e f pos) (dProp C sp fe) := by
  obtain ⟨c, p, g, fd, hp, _, hbd, F⟩ := mc
  obtain ⟨te0, pe, se⟩ := he
  let te : TE := fun σ H Q => te0 σ H fun x H1 => ∃ a dx fs, x = .ref a ∧ H1 a = some (.ins C dx fs) ∧ toSp X.K 1 sp [.ref a] H1 Q E0
  refine ⟨te, ⟨fun pins s σ H Q I h => ?_⟩, ?_⟩
  · refine attr_of hb (thn (pe.run pins s σ H _ I h) fun u s1 ⟨x, H1, I1, rx, a, dx, fs, ex, ea, q⟩ => ?_)
    subst ex
    obtain rfl : u = Value.ref a := rx
    exact getpropG I1 ea c hp F (hr.less hk) hbd q
  · intro F S H σ ρ W Q Qx R cf hf' hx hE
    refine se F S H σ ρ W _ Qx _ cf hf' hx fun S1 H1 ρ1 W1 d v e1 c1 r1 q1 => ?_
    split at q1
    · rename_i p
      obtain ⟨⟨dx, fs, hw⟩, q2⟩ := q1
      obtain ⟨_, _, vs, h1, h2, h3⟩ := c1.cb.w p _ hw
      have ev := Rep.v_iff.mp r1
      subst ev
      refine ⟨p, dx, vs, rfl, h1, _, S1, W1, [.ref p], _, _, c1.below, Reps.cons (Rep.v_iff.mpr rfl) Reps.nil, rfl, q2, fun S' H' W' d v e' b r q => ?_, fun S' H' W' cls x od e' b xr q => q.elim⟩
      exact hE S' H' ρ1 W' d v (e1.trans (e'.mono fun _ h => .inl h)) (c1.back e' b) r q
    · exact q1.elim
end
section
variable {P : Program} {w : World} {K : PySem.W.Frag} {mg : Str → Option Value} {base : Heap} {k j : Nat} {C : Addr} {f qual : Str} {st : Stmt} {sp : SpD}
theorem propcalD {N : List Str} (T : PropAt K C f qual st) (Sc : FnScope N ["self"] (defScope st))
    (hbody : ∀ (g : Addr) (cdv : Value) (A : Around) (outer : List PySem.Env) (s : Shared) (H : Hp) (E : XK), Rm k (A.deeper (PyProof.Rows.envOfC qual (defScope st) s.heap.objs.size g cdv)) →
      ∃ t, GSs (cxOf (L2.CX P w) P w K mg base N qual (defScope st) g cdv A outer s H E) (fun cls d _ H => E cls d H) (defBody st) t ∧
        ∀ ds W Qd Qx, ds.length = 1 → sp ds W Qd Qx → t { nx := fun _ W' => Qd .non W', rt := Qd, ex := fun cls x _ W' => Qx cls x W' } (ds.map (fun d => some (Sl.sh d)) ++ List.replicate (N.length - ds.length) none) W) :
    PropCal P w K mg base (k + 1) C f qual st sp := by
  obtain ⟨c, p, g, fd, a, b, d⟩ := T
  exact ⟨c, p, g, fd, a, b, d, okDA (ps := ["self"]) b Sc (hbody g)⟩
end
end G

/-! a changeable list walked: it stands still meanwhile -/
namespace G
open PySem PySem.Spec L2
def delW (W : Wd) (p : Addr) : Wd := fun q => if q = p then none else W q
theorem delW_same {W : Wd} {p : Addr} : delW W p p = none := if_pos rfl
theorem delW_ne {W : Wd} {p q : Addr} (h : q ≠ p) : delW W p q = W q := if_neg h
section
variable {K : PySem.W.Frag} {F S S' : Reg} {H H' : Hp} {σ σ2 : St} {ρ ρ2 : Env} {W W' : Wd}
/-- it is taken for a foreign one -/
theorem Cf.still (c : Cf K F S H σ ρ W) {q : Addr} {o : MO} (hw : W q = some o) : Cf K (Add F q) S H σ ρ (delW W q) where
  cb := ⟨c.cb.sd, fun a h => h.elim (c.cb.fs a) fun e => e ▸ (c.cb.w q o hw).1, fun a u h => by
    by_cases ha : a = q
    · rw [ha, delW_same] at h; cases h
    · rw [delW_ne ha] at h
      obtain ⟨h1, h2, h3⟩ := c.cb.w a u h
      exact ⟨h1, fun z => z.elim h2 ha, h3⟩⟩
  len := c.len
  sh := c.sh
  om := fun i d h => by
    obtain ⟨p, h1, h2, h3, h4, h5⟩ := c.om i d h
    have np : p ≠ q := fun z => by rw [z, hw] at h5; cases h5
    exact ⟨p, h1, h2, h3, fun z => z.elim h4 np, by rw [delW_ne np]; exact h5⟩
  dis := c.dis
/-- and again one that may change -/
theorem Cf.stir (c : Cf K (Add F q) S H σ ρ W) (nF : ¬ F q) {o : MO} (r : MRep K S H q o) : Cf K F S H σ ρ (updW W q o) where
  cb := ⟨c.cb.sd, fun a h => c.cb.fs a (.inl h), fun a u h => by
    by_cases ha : a = q
    · subst ha
      rw [updW_same] at h
      cases h
      exact ⟨c.cb.fs a (.inr rfl), nF, r⟩
    · rw [updW_ne ha] at h
      obtain ⟨h1, h2, h3⟩ := c.cb.w a u h
      exact ⟨h1, fun z => h2 (.inl z), h3⟩⟩
  len := c.len
  sh := c.sh
  om := fun i d h => by
    obtain ⟨p, h1, h2, h3, h4, h5⟩ := c.om i d h
    have np : p ≠ q := fun z => h4 (.inr z)
    exact ⟨p, h1, h2, h3, fun z => h4 (.inl z), by rw [updW_ne np]; exact h5⟩
  dis := c.dis
theorem itok_w {a : Addr} {xs : List V} {ds : List D} (h : H a = some (.lst xs)) (r : Reps K S H ds xs) : ItOk K (Add F a) S H (Itl K a) ds := fun S' H' e => by
  have h' : SqL K H' a xs := SqL.of ((e.frn a (.inr rfl)).trans h)
  have r' := r.up e
  refine ⟨fun i d hd => ?_, ⟨xs, h', by rw [r'.length]; exact Nat.le_refl _⟩⟩
  obtain ⟨v, hv, rv⟩ := r'.get hd
  exact ⟨⟨xs, v, h', hv⟩, fun x H3 ⟨e3, y⟩ => by
    subst e3
    have := y xs h'
    rw [hv] at this; cases this
    exact ⟨Same.refl _, fun _ => rv⟩⟩
theorem lc_body {gd : TGD} {ft : TB} {fe : TD} {vs ts : List Nat} (hts : ∀ j ∈ ts, j ∈ vs) {S1 : Reg} {H1 : Hp} {ρ1 : Env} {W1 : Wd} {ds : List D} {J : It} {Q : List D → Wd → Prop} {R : VK} (hno : noOwn ρ1 vs) (c1 : Cf K F S1 H1 σ ρ1 W1) (ok : ItOk K F S1 H1 J ds) (hlen : ds.length ≤ sizeLine)
    (q1 : ∃ I : Nat → List D → Wd → Prop, I 0 [] W1 ∧
      (∀ (i : Nat) d acc W, ds[i]? = some d → acc.length ≤ i → I i acc W → gd d (wipeD ρ1 vs) W fun ρ2 W1 => ft ρ2 W1 (fun b ρ3 W2 => ρ3 = ρ2 ∧ if b = true then
        fe ρ2 W2 (fun y ρ3 W3 => ρ3 = ρ2 ∧ I (i + 1) (acc ++ [y]) W3) (fun _ _ _ _ => False) else I (i + 1) acc W2) (fun _ _ _ _ => False)) ∧ ∀ acc W, acc.length ≤ ds.length → I ds.length acc W → Q acc W)
    (hE : ∀ S' H' ρ' W' acc xs p, Stp F S1 H1 S' H' → Cf K F S' H' σ ρ' W' → ρ' = ρ1 → Reps K S' H' acc xs → H' p = none → Q acc W' → R (.ref p) (upd H' p (.lst xs))) :
    tLc (fun _ _ R' => R' J H1) (canG K ts gd) (canB K WX0 ft) (canE K WX0 fe) vs σ H R := by
  obtain ⟨I, h0, hturn, hend⟩ := q1
  intro p hp
  have nF : ¬ F p := fun z => c1.cb.sd p (c1.cb.fs p z) hp
  have nS : ¬ S1 p := fun z => c1.cb.sd p z hp
  obtain ⟨ea, ca⟩ := c1.alien (o := .lst []) hp
  let Iv : Nat → Hp → Prop := fun i H' => ∃ S' W' acc xs, Stp F S1 H1 S' H' ∧ Cf K (Add F p) S' H' σ ρ1 W' ∧ Reps K S' H' acc xs ∧ H' p = some (.lst xs) ∧ acc.length ≤ i ∧ I i acc W'
  refine ⟨fun i m H' => m = ds.length - i ∧ i ≤ ds.length ∧ Iv i H', ⟨ds.length, by simp, Nat.zero_le _, Add S1 p, W1, [], [], ea, ca, Reps.nil, upd_same, Nat.le_refl _, h0⟩, ?_⟩
  rintro i m H2 ⟨rfl, hi, S2, W2, acc, xs, e2, c2, r2, hp2, hacc, q2⟩
  have nFp : Stp F S1 H1 S2 H2 := e2
  obtain ⟨okg, oks⟩ := ok S2 H2 e2
  by_cases hlt : i < ds.length
  · have hd : ds[i]? = some ds[i] := List.getElem?_eq_getElem hlt
    obtain ⟨hgo, hy⟩ := okg i _ hd
    refine .inr ⟨hgo, Iv (i + 1), fun H' p' => ⟨_, by omega, rfl, hlt, p'⟩, fun x H3 y => ?_⟩
    obtain ⟨s3, r3⟩ := hy x H3 y
    have e3 : Stp F S2 H2 S2 H3 := (stp_same c2.cb s3).mono fun _ h => .inl h
    refine ⟨Add F p, S2, wipeD ρ1 vs, W2, ds[i], _, (c2.same s3).wiped vs, r3 c2.cb.sd, hturn i _ acc W2 hd hacc q2, fun S4 H4 σ4 ρ4 W4 e4 c4 o1 o2 q4 => ?_⟩
    have off1 : ∀ j, j ∉ vs → σ4[j]? = σ[j]? := fun j hj => (o1.2 j fun z => hj (hts j z)).trans (wipe_off σ vs j hj)
    have off2 : ∀ j, j ∉ vs → ρ4[j]? = ρ1[j]? := fun j hj => (o2.2 j fun z => hj (hts j z)).trans (wipeD_off ρ1 vs j hj)
    refine ⟨wipe_eq (by rw [o1.1, wipe_length]) off1, ?_⟩
    refine ⟨Add F p, S4, ρ4, W4, _, _, c4, q4, lkx_none, fun S5 H5 ρ5 W5 b e5 c5 q5 => ?_⟩
    obtain ⟨rfl, q5⟩ := q5
    have e45 := (e4.mono (F' := F) fun _ h => .inl h).trans (e5.mono (F' := F) fun _ h => .inl h)
    have e35 := e3.trans e45
    have r5 := r2.up e35
    have hp5 : H5 p = some (.lst xs) := (e5.frn p (.inr rfl)).trans ((e4.frn p (.inr rfl)).trans (s3 p _ hp2))
    have full : Stp (Add F p) S2 H2 S5 H5 := (stp_same c2.cb s3).trans (e4.trans e5)
    cases b with
    | true =>
      refine ⟨Add F p, S5, ρ5, W5, _, _, c5, q5, lkx_none, fun S6 H6 ρ6 W6 y' v6 e6 c6 r6 q6 => ?_⟩
      obtain ⟨rfl, q6⟩ := q6
      have hp6 : H6 p = some (.lst xs) := (e6.frn p (.inr rfl)).trans hp5
      refine ⟨xs, hp6, by rw [r2.length]; omega, ?_⟩
      have c7 := c2.restore (full.trans e6) c6 off1 off2 hno
      have sp : S6 p := c7.cb.fs p (.inr rfl)
      have e67 : Stp F S6 H6 S6 (upd H6 p (.lst (xs ++ [v6]))) := ⟨fun a u h e => by
        have : a ≠ p := fun q => h (q ▸ sp)
        rw [upd_ne this]; exact e, fun a h1 h2 => absurd h1 h2, fun a h => by
        by_cases ha : a = p
        · rw [ha, upd_same] at h; cases h
        · rw [upd_ne ha] at h; exact h, fun a h => upd_ne fun z => nF (z ▸ h)⟩
      have e6' := e6.mono (F' := F) fun _ h => .inl h
      refine ⟨S6, W6, acc ++ [y'], xs ++ [v6], ((e2.trans e35).trans e6').trans e67, c7.alienCh.2, ((r5.up e6').append (Reps.cons r6 Reps.nil)).up e67, upd_same, by simp; omega, q6⟩
    | false =>
      have c7 := c2.restore full c5 off1 off2 hno
      exact ⟨S5, W5, acc, xs, e2.trans e35, c7, r5, hp5, by omega, q5⟩
  · have e : i = ds.length := by omega
    subst e
    refine .inl ⟨oks, ?_⟩
    have sp : S2 p := c2.cb.fs p (.inr rfl)
    have := hE (Rem S2 p) (del H2 p) ρ1 W2 acc xs p ⟨fun a o h1 h2 => ?_, fun a h1 h2 => e2.new a h1.1 h2, fun a h => ?_, fun a h => ?_⟩ (c2.unalien nF) rfl (r2.del sp) del_same (hend acc W2 hacc q2)
    · rw [upd_del hp2] at this; exact this
    · have : a ≠ p := fun z => by rw [z, hp] at h2; cases h2
      rw [del_ne this]; exact e2.keep a o h1 h2
    · by_cases ha : a = p
      · rw [ha]; exact hp
      · rw [del_ne ha] at h; exact e2.dom a h
    · rw [del_ne (fun (z : a = p) => nF (z ▸ h))]; exact e2.frn a h

end
/-- [e for .. in xs if ..], xs a changeable list: within it is not there -/
@[irreducible] def dLcW (fi : TD) (gd : TGD) (ft : TB) (fe : TD) (vs : List Nat) : TL := fun ρ W Q Qx => noOwn ρ vs ∧ fi ρ W (fun x ρ0 W0 => ρ0 = ρ ∧ match x with
  | .v (.ref q) => ∃ ds, W0 q = some (.lst ds) ∧ ds.length ≤ sizeLine ∧ ∃ I : Nat → List D → Wd → Prop, I 0 [] (delW W0 q) ∧
    (∀ (i : Nat) d acc W, ds[i]? = some d → acc.length ≤ i → I i acc W → gd d (wipeD ρ vs) W fun ρ1 W1 => ft ρ1 W1 (fun b ρ2 W2 => ρ2 = ρ1 ∧ if b = true then
      fe ρ1 W2 (fun y ρ3 W3 => ρ3 = ρ1 ∧ I (i + 1) (acc ++ [y]) W3) (fun _ _ _ _ => False) else I (i + 1) acc W2) (fun _ _ _ _ => False)) ∧ ∀ acc W, acc.length ≤ ds.length → I ds.length acc W → Q acc ρ (updW W q (.lst ds))
  | _ => False) Qx
section
variable {X : Cx} {Wx : WX} {elt tg iter : Expr} {ifs : List Expr} {scope : Scope} {own : List (Str × Nat)} {pos : Pos} {fi : TD} {gd : TGD} {ft : TB} {fe : TD} {ts : List Nat}
theorem gn_lcW (own : List (Str × Nat)) (hc : X.calm = true) (hN : X.N.Nodup) (hi : GE X Wx iter fi) (ok : BlkOk X.N X.env.scope scope own) (hts : ∀ j ∈ ts, j ∈ own.map (·.2))
    (hg : ∀ (s : Shared) (H : Hp) (C : Addr) (cl : List (Str × Addr)) (fp : List Addr), GG (X.blk s H scope (PySem.compEnvC scope cl C X.env) fp) tg gd ts) (ht : ∀ (s : Shared) (H : Hp) (C : Addr) (cl : List (Str × Addr)) (fp : List Addr), GTs (X.blk s H scope (PySem.compEnvC scope cl C X.env) fp) WX0 ifs ft)
    (he : ∀ (s : Shared) (H : Hp) (C : Addr) (cl : List (Str × Addr)) (fp : List Addr), GE (X.blk s H scope (PySem.compEnvC scope cl C X.env) fp) WX0 elt fe) (hs : ∀ x, foldedSetIterable iter X.env x = pure x := by intro _; rfl) :
    GN X Wx (.ListComp elt [⟨tg, iter, ifs, 0⟩] scope pos) (dLcW fi gd ft fe (own.map (·.2))) := by
  obtain ⟨ti, pi, si⟩ := hi
  refine ⟨tLc _ (canG X.K ts gd) (canB X.K WX0 ft) (canE X.K WX0 fe) (own.map (·.2)), pe_lc hc hN (pi_list pi) ok (fun s H C cl fp => (hg s H C cl fp).can) (fun s H C cl fp => (ht s H C cl fp).can) (fun s H C cl fp => (he s H C cl fp).can) hs, fun F S H σ ρ W Q Qx R cf hf hx hE => ?_⟩
  unfold dLcW at hf
  obtain ⟨hno, hf⟩ := hf
  refine si F S H σ ρ W _ Qx _ cf hf hx fun S1 H1 ρ1 W1 d v e1 c1 r1 q1 => ?_
  obtain ⟨rfl, q1⟩ := q1
  split at q1
  · rename_i q
    obtain ⟨ds, hw, hl, q1⟩ := q1
    obtain ⟨_, nF, xs, h1, h2⟩ := c1.cb.w q _ hw
    have ev := Rep.v_iff.mp r1
    subst ev
    refine ⟨q, rfl, ⟨xs, SqL.of h1⟩, ?_⟩
    exact lc_body (H := H1) (Q := fun acc W => Q acc ρ1 (updW W q (.lst ds))) hts hno (c1.still hw) (itok_w h1 h2) hl q1 fun S' H' ρ' W' acc ys p e c er r hp q' => by
      subst er
      have e' := e.mono (F' := F) fun _ h => .inl h
      exact hE S' H' ρ' (updW W' q (.lst ds)) acc ys p (e1.trans e') (c.stir nF ⟨xs, (e.frn q (.inr rfl)).trans h1, h2.up e⟩) r hp q'
  · exact q1.elim
end
end G

namespace G
open PySem PySem.Spec L2
/-! ### d.get(k, e) -/
section
variable {X : Cx} {Wx : WX} {o i e : Expr} {fo fi fe : TD} {cpos : Pos}
def dDGet2 (fo fi fe : TD) : TD := fun ρ W Q Qx => fo ρ W (fun x ρ1 W1 => (∃ ks ds, x = .dct ks ds) ∧ fi ρ1 W1 (fun y ρ2 W2 => fe ρ2 W2 (fun z ρ3 W3 => match x with
  | .dct ks ds => ∃ k, keyOf y = some k ∧ Q ((valD (ks.zip ds) k).getD z) ρ3 W3
  | _ => False) Qx) Qx) Qx
theorem ge_dget2 {apos : Pos} (hu : X.A.units + 1 < cLine) (ho : GE X Wx o fo) (hi : GE X Wx i fi) (he : GE X Wx e fe) (m : M2 X o "get" apos i e cpos) : GE X Wx (.Call (.Attribute o "get" apos) [i, e] [] cpos) (dDGet2 fo fi fe) := by
  obtain ⟨to, po, so⟩ := ho
  obtain ⟨ti, pi, si⟩ := hi
  obtain ⟨te, pe, se⟩ := he
  refine ⟨_, pe_dget2 hu po pi pe m, fun F S H σ ρ W Q Qx R cf hf hx hE => ?_⟩
  refine so F S H σ ρ W _ Qx _ cf hf hx fun S1 H1 ρ1 W1 d v e1 c1 r1 q1 => ?_
  obtain ⟨⟨ks, ds, rfl⟩, q1⟩ := q1
  obtain ⟨a, vs, rfl, ha, hs, kr⟩ := r1.dct_rd
  refine ⟨a, rfl, .inl ⟨vs, .inl ha⟩, ?_⟩
  refine si F S1 H1 σ ρ1 W1 _ Qx _ c1 q1 (hx.up e1) fun S2 H2 ρ2 W2 d2 v2 e2 c2 r2 q2 => ?_
  refine se F S2 H2 σ ρ2 W2 _ Qx _ c2 q2 (hx.up (e1.trans e2)) fun S3 H3 ρ3 W3 d3 v3 e3 c3 r3 q3 => ?_
  obtain ⟨k, hk, q⟩ := q3
  have ha3 := (e2.trans e3).keep a _ hs ha
  have kr3 := kr.up (e2.trans e3)
  obtain ⟨k1, k2⟩ := kr3.val k
  have hv := key_rep hk (r2.up e3)
  cases hz : valD (ks.zip ds) k with
  | some z =>
    rw [hz] at q
    obtain ⟨w, hw, rw'⟩ := k1 z hz
    exact ⟨some w, .inl ⟨vs, k, .inl ha3, hv, hw.symm⟩, hE S3 H3 ρ3 W3 z w ((e1.trans e2).trans e3) c3 rw' q⟩
  | none =>
    rw [hz] at q
    exact ⟨none, .inl ⟨vs, k, .inl ha3, hv, (k2 hz).symm⟩, hE S3 H3 ρ3 W3 d3 v3 ((e1.trans e2).trans e3) c3 r3 q⟩
end
/-! ### < of data of any depth -/
abbrev dlt (d e : D) : Bool := PySem.W.dataLt d.py e.py
def rLtN (K : PySem.W.Frag) : R2 := fun x y H Q => ∃ d e, Dp K H x d ∧ Dp K H y e ∧ PySem.W.alike d e = true ∧ d ≠ .none ∧ d.depth ≤ 62 ∧ Q (.bl (PySem.W.dataLt d e)) H
theorem op_ltN {X : Cx} (hu : X.A.units + 64 < cLine) : OpR X (compareOp .Lt) (rLtN X.K) := by
  intro pins s σ H x y v u Q I rx ry h
  obtain ⟨d, e, hd, he, al, hn, dp, q⟩ := h
  obtain ⟨as, r1⟩ := Dp.reads I d x v hd rx
  obtain ⟨bs, r2⟩ := Dp.reads I e y u he ry
  exact PySem.W.lt_data r1 r2 al hn (by have := Nat.min_le_left d.depth e.depth; omega) ⟨.bl _, H, I, rfl, q⟩
def dLtN : D → D → (D → Prop) → Prop := fun d e Q => D.good 62 d = true ∧ D.good 62 e = true ∧ PySem.W.alike d.py e.py = true ∧ d.py ≠ .none ∧ Q (.bl (dlt d e))
theorem rs_ltN {K : PySem.W.Frag} : RSnd K (rLtN K) dLtN := fun F S H W d e x y P R cb rd re hp k => by
  obtain ⟨g1, g2, al, hn, q⟩ := hp
  exact ⟨d.py, e.py, dp_of (n := 62) g1 rd, dp_of (n := 62) g2 re, al, hn, (lay_of g1).2, k _ _ H (Same.refl H) (Rep.v_iff.mpr rfl) q⟩
/-- flat, or of any depth -/
def dLtM : D → D → (D → Prop) → Prop := fun d e Q => dLt d e Q ∨ dLtN d e Q
def rLtM (K : PySem.W.Frag) : R2 := fun x y H Q => rCmp (fun i j => decide (i < j)) ltS x y H Q ∨ rLtN K x y H Q
theorem rs_ltM {K : PySem.W.Frag} : RSnd K (rLtM K) dLtM := rs_or rs_cmp rs_ltN
theorem op_ltM {X : Cx} (hu : X.A.units + 64 < cLine) : OpR X (compareOp .Lt) (rLtM X.K) := op_ltA.or (op_ltN hu)
end G

/-! sorted(xs, key=f), f a def of the text -/
namespace G
open PySem PySem.Spec L2
open PyProof.Rows (seqObj SortSt arrOf failedOf)
/-- the keys' store emptied, the list filled -/
def soH (h : Heap) (kS a : Addr) (out : Array Value) : Heap := (h.update kS (Obj.mapSeq fun _ => #[])).update a (Obj.mapSeq fun _ => out)
theorem soH_old {h : Heap} {kS a b : Addr} {out : Array Value} (h1 : b ≠ kS) (h2 : b ≠ a) : (soH h kS a out).get? b = h.get? b := by
  unfold soH
  rw [(Heap.SameBut.update _ a _).2 b h2, (Heap.SameBut.update h kS _).2 b h1]
theorem soH_at {h : Heap} {kS a : Addr} {out : Array Value} {n : Nat} (ha : h.get? a = some (seqObj "list" #[] n)) (ne : a ≠ kS) : ∃ c, (soH h kS a out).get? a = some (seqObj "list" out c) := by
  have h1 : (h.update kS (Obj.mapSeq fun _ => (#[] : Array Value))).get? a = some (seqObj "list" #[] n) := ((Heap.SameBut.update h kS _).2 a ne).trans ha
  exact ⟨_, PyProof.Rows.get?_update_seq h1 fun _ => out⟩
section
variable {P : Program} {w : World} {A : Around} {E : Value → Shared → Prop} {s : Shared} {a kS : Addr} {vs : List Value} {keys : Array Value} {e e1 : Nat} {R : PySem.Fin → Shared → Prop}
theorem so_tail {st : SortSt} {out : List Value} (gk : s.heap.get? kS = some (seqObj "list" keys e)) (ga : s.heap.get? a = some (seqObj "list" #[] e1)) (ne : a ≠ kS) (z1 : keys.size ≤ sizeLine) (z2 : out.length ≤ sizeLine)
    (hf : failedOf st = none) (ho : (arrOf st).map (·.2) = out.toArray) (fin : ∀ tk, R (.done (.ret .none)) { s with heap := soH s.heap kS a out.toArray, toks := tk }) : wpAny (model P w) A (PyProof.Rows.ksk_tail a false e1 (.ref kS) st) R E s := by
  have ga1 : (s.heap.update kS (Obj.mapSeq fun _ => (#[] : Array Value))).get? a = some (seqObj "list" #[] e1) := ((Heap.SameBut.update s.heap kS _).2 a ne).trans ga
  have z3 : out.toArray.size ≤ sizeLine + 1 := by
    rw [List.size_toArray]; omega
  unfold PyProof.Rows.ksk_tail
  simp only [Bool.false_eq_true, if_false]
  rw [ho]
  refine wpAny_bind (PyProof.Rows.listUpdate_at gk rfl ?_ z1 (by simp))
  refine wpAny_bind (PySem.wpAny_letGo (wpAny_bind (PyProof.Rows.seqEpoch_at ga1 rfl (wpAny_bind (PyProof.Rows.listUpdate_at ga1 rfl ?_ (by simp) z3)))))
  rw [hf]
  simp only [bne_self_eq_false, Bool.false_eq_true, if_false]
  exact wpAny_pure (fin _)
theorem so_end {κ : PyProof.Rows.KeyKind} (gk : s.heap.get? kS = some (seqObj "list" keys e)) (ga : s.heap.get? a = some (seqObj "list" #[] e1)) (ne : a ≠ kS) (S : PySem.W.SortsAt P w A s κ keys.toList) (sz : keys.size = vs.length) (zl : vs.length ≤ sizeLine)
    (fin : ∀ tk, R (.done (.ret .none)) { s with heap := soH s.heap kS a (PySem.W.sortVals κ false keys.toList vs).toArray, toks := tk }) : wpAny (model P w) A (PyProof.Rows.ksk_end a false vs.toArray e1 (.ref kS) keys) R E s := by
  obtain ⟨kd, k1, k2⟩ := S.kind
  have kl : keys.toList.length = vs.length := by rw [Array.length_toList, sz]
  have K0 : PyProof.Rows.KeysOf κ (keys.zip vs.toArray) := PySem.W.keysOf_zip S.keys
  have ol : (PySem.W.sortVals κ false keys.toList vs).length = vs.length := PySem.W.sortVals_length false kl
  have zz : (keys.zip vs.toArray).size = vs.length := by rw [Array.size_zip, sz, List.size_toArray, Nat.min_self]
  have oz : (PySem.W.sortVals κ false keys.toList vs).length ≤ sizeLine := by rw [ol]; exact zl
  have kz : keys.size ≤ sizeLine := by rw [sz]; exact zl
  have res : ∀ st' : SortSt, (arrOf st').Perm (keys.zip vs.toArray) → PyProof.Rows.SortedToK κ (arrOf st') (keys.zip vs.toArray).size → PyProof.Rows.Stable κ (arrOf st') (keys.zip vs.toArray) → (arrOf st').map (·.2) = (PySem.W.sortVals κ false keys.toList vs).toArray := fun st' p1 p2 p3 => by
    have q := PySem.W.sort_out (rev := false) (keys := keys) (items := vs.toArray) (xs := arrOf st') (κ := κ) K0 p1 p2 p3
    have q' := congrArg List.toArray q
    rwa [Array.toArray_toList] at q'
  unfold PyProof.Rows.ksk_end
  simp only [Bool.false_eq_true, if_false]
  by_cases few : vs.toArray.size < 2
  · rw [if_pos few, if_pos few]
    refine wpAny_bind (wpAny_pure ?_)
    rw [StateT.run_pure]
    refine wpAny_bind (wpAny_pure (so_tail gk ga ne kz oz rfl (res _ (Array.Perm.refl _) (fun i j hij hj => ?_) (PyProof.Rows.Stable.refl _)) fin))
    rw [zz] at hj
    rw [List.size_toArray] at few
    obtain rfl : i = j := by omega
    exact PyProof.Rows.KeyOrd.kle_refl _
  · rw [if_neg few, if_neg few]
    rw [List.size_toArray] at few
    refine wpAny_bind (k2 (by omega) _ (wpAny_bind (wpAny_mono (PyProof.Rows.H.wpS_sortRunsSt (κ := κ) (kd := kd) (a₀ := keys.zip vs.toArray) (st := SortSt.mk' kd (keys.zip vs.toArray) #[] 7 none)
      (Q := fun _ st' => failedOf st' = none ∧ (arrOf st').map (·.2) = (PySem.W.sortVals κ false keys.toList vs).toArray) k1 K0 ⟨Array.Perm.refl _, rfl, rfl⟩ rfl (PyProof.Rows.Stable.refl _) (by rw [zz]; omega) fun st' a1 a2 a3 a4 => ⟨a2, res st' a1 a3 a4⟩) ?_ fun _ _ q => q)))
    rintro ⟨⟨⟩, st'⟩ s' ⟨rfl, hf, ho⟩
    exact so_tail gk ga ne kz oz hf ho fin
end
theorem each_vals {α : Type} {f : α → V} : ∀ {us : List Value} {bs : List α}, PySem.W.EachIs (fun v b => RelV (f b) v) us bs → Vals (bs.map f) us
  | _, _, .nil => .nil
  | _, _, .cons h t => .cons h (each_vals t)
theorem vals_each {α : Type} {f : α → V} : ∀ {us : List Value} {bs : List α}, Vals (bs.map f) us → PySem.W.EachIs (fun v b => RelV (f b) v) us bs
  | _, [], .nil => .nil
  | _, _ :: _, .cons h t => .cons h (vals_each t)
theorem vals_snoc {x : V} {u : Value} (r : RelV x u) : ∀ {xs : List V} {us : List Value}, Vals xs us → Vals (xs ++ [x]) (us ++ [u])
  | _, _, .nil => .cons r .nil
  | _, _, .cons h t => .cons h (vals_snoc r t)
section
variable {X : Cx} {pins : List (Addr × Obj)} {σ : St} {B : Around} {E : Value → Shared → Prop} {R : PySem.Fin → Shared → Prop}
/-- the two objects that the sort keeps aside -/
abbrev soPins (kS a : Addr) (keys : Array Value) (e e1 : Nat) (pins : List (Addr × Obj)) : List (Addr × Obj) := (kS, seqObj "list" keys e) :: (a, seqObj "list" #[] e1) :: pins
theorem pin_at {H : Hp} {s : Shared} {pl : List (Addr × Obj)} (I : Inv X pl σ H s) {p : Addr × Obj} (m : p ∈ pl) : s.heap.get? p.1 = some p.2 ∧ H p.1 = none := ⟨(I.pin p (List.mem_append_right _ m)).1, (I.pin p (List.mem_append_right _ m)).2.1⟩
/-- an address that is aside may turn -/
structure Aside (X : Cx) (pins : List (Addr × Obj)) (b : Addr) : Prop where
  nl : b ≠ X.env.locals
  nf : b ∉ X.fs
  yg : b ∈ X.ex ∨ X.s_0.heap.objs.size ≤ b
  nc : ∀ x c, X.env.cells.lookup x = some c → c ≠ b
  np : ∀ p ∈ X.pn ++ pins, p.1 ≠ b
theorem aside_of {H : Hp} {s : Shared} (I : Inv X pins σ H s) {b : Addr} (h : s.heap.objs.size ≤ b) : Aside X pins b := by
  have f := I.fpOk (H' := fun _ => none) h rfl
  exact ⟨f.2.1, f.2.2.1, f.2.2.2.1, f.2.2.2.2.1, f.2.2.2.2.2⟩
theorem Aside.cons {b : Addr} (f : Aside X pins b) {p : Addr × Obj} (h : p.1 ≠ b) : Aside X (p :: pins) b := ⟨f.nl, f.nf, f.yg, f.nc, fun q hq => by
  rcases List.mem_append.mp hq with hq | hq
  · exact f.np q (List.mem_append_left _ hq)
  · rcases List.mem_cons.mp hq with rfl | hq
    · exact h
    · exact f.np q (List.mem_append_right _ hq)⟩
theorem Aside.fp {b : Addr} (f : Aside X pins b) {H : Hp} (h : H b = none) : FpOk X pins H b := ⟨h, f.nl, f.nf, f.yg, f.nc, f.np⟩
theorem pin_more {H : Hp} {s : Shared} (I : Inv X pins σ H s) {b : Addr} (f : Aside X pins b) {xs : Array Value} {n : Nat} (ho : s.heap.get? b = some (seqObj "list" xs n)) (hn : H b = none) : Inv X ((b, seqObj "list" xs n) :: pins) σ H s := by
  refine I.pins_of fun p hp => ?_
  rcases List.mem_cons.mp hp with rfl | hp
  · exact ⟨ho, hn, f.nl, f.nf, fun v q => by cases q⟩
  · exact I.pin p (List.mem_append_right _ hp)
theorem pin_less {H : Hp} {s : Shared} {p : Addr × Obj} (I : Inv X (p :: pins) σ H s) : Inv X pins σ H s := I.pins_of fun q hq => I.pin q (List.mem_append_right _ (List.mem_cons_of_mem _ hq))
/-- the calls of the key's def -/
theorem so_rest {kS a : Addr} {e1 : Nat} {f : Value} {us : List Value} {α : Type} {bs : List α} {it : α → V} {g : α → PyData} {Iv : Nat → List V → Hp → Prop} (ne : a ≠ kS) (fk : Aside X ((a, seqObj "list" #[] e1) :: pins) kS) (zl : us.length ≤ sizeLine) (rv : Vals (bs.map it) us)
    {s : Shared} {H : Hp} (I : Inv X (soPins kS a #[] 0 e1 pins) σ H s) (h0 : Iv 0 [] H)
    (turn : ∀ (pl : List (Addr × Obj)) (i : Nat) (b : α) (v : Value) (ks : List V) (H : Hp) (s : Shared), bs[i]? = some b → RelV (it b) v → Inv X pl σ H s → Iv i ks H →
      wpAny (model X.prog X.w) B (call f [v]) (fun u s' => ∃ k H', Inv X pl σ H' s' ∧ RelV k u ∧ Iv (i + 1) (ks ++ [k]) H') (fun _ _ => False) s)
    (keysOk : ∀ ks H, Iv bs.length ks H → ks.length = bs.length ∧ ∀ (i : Nat) b k, bs[i]? = some b → ks[i]? = some k → Dp X.K H k (g b)) (hal : PySem.W.AllAlike (bs.map g)) (hso : PySem.W.Sortable (bs.map g)) (hu : ∀ d ∈ bs.map g, B.units + d.depth < cLine)
    (fin : ∀ s' H' keys e out tk, Inv X (soPins kS a keys e e1 pins) σ H' s' → (∃ ks, Iv bs.length ks H') → PySem.W.EachIs (fun v b => RelV (it b) v) out (bs.mergeSort (PySem.W.dataLe false g)) → R (.done (.ret .none)) { s' with heap := soH s'.heap kS a out.toArray, toks := tk }) :
    wpAny (model X.prog X.w) B (PyProof.Rows.ksk_rest a f false us.toArray e1 (.ref kS)) R E s := by
  have hl : bs.length = us.length := by have := rv.length; rwa [List.length_map] at this
  unfold PyProof.Rows.ksk_rest
  refine wpAny_bind (wpAny_rule ?_)
  rw [List.forIn_toArray]
  refine wpAny_bind (PyProof.Rows.ksk_fold (fun i s' => ∃ keys e H' ks, Inv X (soPins kS a keys e e1 pins) σ H' s' ∧ Vals ks keys.toList ∧ keys.size = i ∧ Iv i ks H') us 0 s ⟨#[], 0, H, [], I, .nil, rfl, h0⟩ (fun j v s' hv hI => ?_) (fun s' hI => ?_))
  · obtain ⟨keys, e, H', ks, I', rk, hz, hiv⟩ := hI
    rw [Nat.zero_add] at hz hiv ⊢
    have hj : j < us.length := (List.getElem?_eq_some_iff.mp hv).1
    obtain ⟨b, hb⟩ : ∃ b, bs[j]? = some b := ⟨_, List.getElem?_eq_getElem (by omega)⟩
    obtain ⟨v', hv', rb⟩ := rv.get (i := j) (x := it b) (by rw [List.getElem?_map, hb]; rfl)
    rw [hv] at hv'; cases hv'
    refine wpAny_bind (wpAny_attempt (wpAny_mono (turn _ j b v ks H' s' hb rb I' hiv) (fun u s2 h2 => ?_) fun _ _ z => z.elim))
    obtain ⟨k, H2, I2, rk2, hiv2⟩ := h2
    have gk := pin_at I2 (p := (kS, seqObj "list" keys e)) List.mem_cons_self
    have ga := pin_at I2 (p := (a, seqObj "list" #[] e1)) (List.mem_cons_of_mem _ List.mem_cons_self)
    have sb := Heap.SameBut.update s2.heap kS (Obj.mapSeq (·.push u))
    obtain ⟨c, hc⟩ : ∃ c, (s2.heap.update kS (Obj.mapSeq (·.push u))).get? kS = some (seqObj "list" (keys.push u) c) := ⟨_, PyProof.Rows.get?_update_seq gk.1 (·.push u)⟩
    refine wpAny_bind (PyProof.Rows.listUpdate_at gk.1 rfl ?_ (by rw [hz]; omega) (by rw [Array.size_push, hz]; omega))
    have I3 := (pin_less I2).turned (h' := s2.heap.update kS (Obj.mapSeq (·.push u))) (t' := s2.toks) (fun b o hb q => (sb.2 b hb).trans q) gk.2 fk.nl fk.yg fk.nc fk.np
    exact wpAny_pure ⟨rfl, keys.push u, c, H2, ks ++ [k], pin_more I3 fk hc gk.2, by rw [Array.toList_push]; exact vals_snoc rk2 rk, by rw [Array.size_push, hz], hiv2⟩
  · obtain ⟨keys, e, H', ks, I', rk, hz, hiv⟩ := hI
    rw [Nat.zero_add] at hz hiv
    rw [← hl] at hiv
    have gk := pin_at I' (p := (kS, seqObj "list" keys e)) List.mem_cons_self
    have ga := pin_at I' (p := (a, seqObj "list" #[] e1)) (List.mem_cons_of_mem _ List.mem_cons_self)
    obtain ⟨kl, kd⟩ := keysOk ks H' hiv
    refine wpAny_bind (PyProof.Rows.listItems_at gk.1 rfl ?_)
    have hk : PySem.W.EachIs (fun v d => ∃ as, PySem.Reads s'.heap v d as) keys.toList (bs.map g) := by
      refine PySem.W.EachIs.of_zip (by rw [Array.length_toList, hz, List.length_map, hl]) fun p hp => ?_
      obtain ⟨i, hi, rfl⟩ := List.getElem_of_mem hp
      rw [List.length_zip, List.length_map, Array.length_toList] at hi
      obtain ⟨b, hb⟩ : ∃ b, bs[i]? = some b := ⟨_, List.getElem?_eq_getElem (by omega)⟩
      obtain ⟨k, hk⟩ : ∃ k, ks[i]? = some k := ⟨_, List.getElem?_eq_getElem (by omega)⟩
      obtain ⟨u, hu', ru⟩ := rk.get hk
      have e1' : (keys.toList.zip (bs.map g))[i]? = some (u, g b) := by
        rw [List.getElem?_zip_eq_some]
        exact ⟨hu', by rw [List.getElem?_map, hb]; rfl⟩
      obtain ⟨_, e2⟩ := List.getElem?_eq_some_iff.mp e1'
      rw [e2]
      exact Dp.reads I' (g b) k u (kd i b k hb hk) ru
    refine so_end (κ := PySem.W.dataKind s'.heap (bs.map g)) gk.1 ga.1 ne (PySem.W.SortsAt.data hk hal hso hu) hz zl fun tk => ?_
    refine fin s' H' keys e _ tk I' ⟨ks, hiv⟩ ?_
    exact PySem.W.keyedOut_each (rev := false) g ⟨s'.heap, keys.toList, hal, rfl, hk⟩ (vals_each rv)
end
/-- over the heap: bs the items with their data -/
def rSortK (K : PySem.W.Frag) (sp : Sp) (fa : Addr) : List V → List V → Hp → VK → Prop := fun xs zs H Q => ∃ (a : Addr) (bs : List (V × D)) (g : D → PyData) (Iv : Nat → List V → Hp → Prop),
  xs = [.ref a] ∧ SqL K H a (bs.map Prod.fst) ∧ zs = [.ref fa] ∧ Iv 0 [] H ∧
  (∀ (i : Nat) b ks H, bs[i]? = some b → Iv i ks H → sp [b.1] H (fun k H' => Iv (i + 1) (ks ++ [k]) H') (fun _ _ _ => False)) ∧
  (∀ ks H, Iv bs.length ks H → ks.length = bs.length ∧ ∀ (i : Nat) b k, bs[i]? = some b → ks[i]? = some k → Dp K H k (g b.2)) ∧ PySem.W.AllAlike (bs.map fun b => g b.2) ∧ PySem.W.Sortable (bs.map fun b => g b.2) ∧ (∀ b ∈ bs, (g b.2).depth ≤ 62) ∧
  ∀ H', (∃ ks, Iv bs.length ks H') → ∀ ys p, ys = bs.mergeSort (PySem.W.dataLe false fun b => g b.2) → H' p = none → Q (.ref p) (upd H' p (.lst (ys.map Prod.fst)))
section
variable {X : Cx} {fa : Addr} {fd : FuncData} {ps : List Str} {k : Nat} {sp : Sp}
theorem cr_sortK (F : FnG X.prog X.w X.K X.mg X.base k fa fd ps sp) (hr : Rm (k + 2) X.A) (hb : Binds X.K fd ps []) : CallRK X (.builtin "sorted") [Str.ofString "key"] (rSortK X.K sp fa) := by
  intro pins s σ H xs zs us ws Q I r1 r2 h
  obtain ⟨a, bs, g, Iv, rfl, hs, rfl, i0, turn, ko, hal, hso, hd, q⟩ := h
  obtain ⟨its, rv, hl, hz⟩ := I.list hs
  rw [Vals.ref1 r1, Vals.ref1 r2]
  have hlen : bs.length = its.length := by have := rv.length; rwa [List.length_map] at this
  have zl : its.length ≤ sizeLine := by rw [← hlen]; simpa using hz
  have hu64 : X.A.units + 2 + 62 < cLine := by have := hr.toRoom.un; omega
  refine PySem.W.sorted_of_sort hl.isList zl (PyProof.Rows.ksk_s1 _ _) (fun _ => PyProof.Rows.ksk_l1 _ _) fun E' => ?_
  show wpAny _ _ (Builtin.«list.sort» ⟨[.ref (s.heap.objs.size + 1)], [(Str.ofString "key", .ref fa)]⟩) _ _ _
  rw [PyProof.Rows.ksk_t1]
  have o0 := PySem.W.copyHeap_at s.heap its
  obtain ⟨e1, o1⟩ : ∃ e1, ((PySem.W.copyHeap s.heap its).update (s.heap.objs.size + 1) (Obj.mapSeq fun _ => (#[] : Array Value))).get? (s.heap.objs.size + 1) = some (seqObj "list" #[] e1) := ⟨_, PyProof.Rows.get?_update_seq o0 fun _ => #[]⟩
  obtain ⟨h1, eh1⟩ : ∃ h1, h1 = (PySem.W.copyHeap s.heap its).update (s.heap.objs.size + 1) (Obj.mapSeq fun _ => (#[] : Array Value)) := ⟨_, rfl⟩
  rw [← eh1] at o1
  have old1 : ∀ b o, s.heap.get? b = some o → h1.get? b = some o := fun b o z => by
    rw [eh1, (Heap.SameBut.update _ _ _).2 b (Nat.ne_of_lt (Nat.lt_succ_of_lt (Heap.lt_size z)))]
    exact PySem.W.copyHeap_old z
  have big : s.heap.objs.size + 1 < h1.objs.size := Heap.lt_size o1
  obtain ⟨h2, eh2⟩ : ∃ h2, h2 = h1.push (seqObj "tuple" its.toArray 0) := ⟨_, rfl⟩
  have sz2 : h2.objs.size = h1.objs.size + 1 := by rw [eh2]; exact Heap.size_push ..
  obtain ⟨h3, eh3⟩ : ∃ h3, h3 = h2.push (seqObj "list" #[] 0) := ⟨_, rfl⟩
  have up : ∀ b o, h1.get? b = some o → h3.get? b = some o := fun b o z => by
    rw [eh3, eh2]; exact Heap.get?_push_of_some _ (Heap.get?_push_of_some _ z)
  have ok3 : h3.get? h2.objs.size = some (seqObj "list" #[] 0) := by rw [eh3]; exact Heap.get?_push_size _ rfl
  have ne : s.heap.objs.size + 1 ≠ h2.objs.size := by omega
  have I3 : Inv X pins σ H { s with heap := h3, toks := s.toks } := I.kept fun b o z => up b o (old1 b o z)
  have fD : Aside X pins (s.heap.objs.size + 1) := aside_of I (Nat.le_succ _)
  have fK0 : Aside X pins h2.objs.size := aside_of I (by omega)
  have fK : Aside X ((s.heap.objs.size + 1, seqObj "list" #[] e1) :: pins) h2.objs.size := fK0.cons ne
  have I4 : Inv X (soPins h2.objs.size (s.heap.objs.size + 1) #[] 0 e1 pins) σ H { s with heap := h3, toks := s.toks } :=
    pin_more (pin_more I3 fD (up _ _ o1) (I.hok.fresh (Nat.le_succ _))) fK ok3 (I.hok.fresh (by omega))
  unfold PyProof.Rows.ksk_tree
  refine wpAny_bind (PyProof.Rows.listItems_at o0 rfl (wpAny_bind (PyProof.Rows.listUpdate_at o0 rfl ?_ (by rw [List.size_toArray]; exact zl) (by simp))))
  show wpAny _ _ _ _ _ { s with heap := (PySem.W.copyHeap s.heap its).update (s.heap.objs.size + 1) (Obj.mapSeq fun _ => (#[] : Array Value)) }
  rw [← eh1]
  refine wpAny_bind (PyProof.Rows.seqEpoch_at o1 rfl (wpAny_bind (wpAny_newTuple ?_ (by simpa using zl))))
  have e2' : h1.push { cls := .type "tuple", data := .seq its.toArray.toList.toArray } = h2 := by rw [eh2, Array.toArray_toList]
  show wpAny _ _ _ _ _ { s with heap := h1.push { cls := .type "tuple", data := .seq its.toArray.toList.toArray } }
  rw [e2']
  refine wpAny_bind (wpAny_newList ?_ (by simp))
  show wpAny _ _ _ _ _ { s with heap := h2.push (seqObj "list" #[] 0) }
  rw [← eh3]
  refine wpAny_holding ?_
  refine so_rest (it := Prod.fst) (g := fun b : V × D => g b.2) (Iv := Iv) ne fK zl rv I4 i0 (fun pl i b v ks H' s' hb' rb I' hiv => ?_) ko hal hso (fun d hd' => ?_) (fun s' H' keys e out tk I' hiv hout => ?_)
  · have sp1 := turn i b ks H' hb' hiv
    have bd := hb s' [v] I'.kIn (by rw [List.append_nil, ← F.many sp1]; rfl)
    rw [List.append_nil] at bd
    refine wpAny_call (codeAny_mono (F.go hr.in1.in1 I'.env0.in1.in1 bd (.cons rb .nil) sp1) fun r s2 z => ?_)
    match r, z with
    | .error er, z =>
      obtain ⟨_, _, _, _, _, _, _, _, _, _, _, _, z⟩ := z
      exact z.elim
    | .ok (.ret u), z =>
      obtain ⟨kv, H2, I2, rk, q2⟩ := I'.after z
      exact ⟨kv, H2, I2, rk, q2⟩
    | .ok .next, z => exact z.elim
    | .ok .brk, z => exact z.elim
    | .ok .cont, z => exact z.elim
  · rw [List.mem_map] at hd'
    obtain ⟨b, hb1, rfl⟩ := hd'
    have := hd b hb1
    show X.A.units + 1 + 1 + _ < _
    omega
  · refine ⟨rfl, ?_⟩
    have gk := pin_at I' (p := (h2.objs.size, seqObj "list" keys e)) List.mem_cons_self
    have ga := pin_at I' (p := (s.heap.objs.size + 1, seqObj "list" #[] e1)) (List.mem_cons_of_mem _ List.mem_cons_self)
    have sb := Heap.SameBut.update s'.heap h2.objs.size (Obj.mapSeq fun _ => (#[] : Array Value))
    have J1 := (pin_less I').turned (h' := s'.heap.update h2.objs.size (Obj.mapSeq fun _ => (#[] : Array Value))) (t' := tk) (fun b o hb z => (sb.2 b hb).trans z) gk.2 fK.nl fK.yg fK.nc fK.np
    have sb2 := Heap.SameBut.update (s'.heap.update h2.objs.size (Obj.mapSeq fun _ => (#[] : Array Value))) (s.heap.objs.size + 1) (Obj.mapSeq fun _ => out.toArray)
    obtain ⟨c, hc⟩ := soH_at (out := out.toArray) ga.1 ne
    have vo := each_vals hout
    have hol : ((bs.mergeSort (PySem.W.dataLe false fun b => g b.2)).map Prod.fst).length ≤ sizeLine := by
      rw [List.length_map, List.length_mergeSort, hlen]; exact zl
    have J2 := (pin_less J1).take (h' := soH s'.heap h2.objs.size (s.heap.objs.size + 1) out.toArray) (t' := tk) (it := s.heap.objs.size + 1) (o := .lst ((bs.mergeSort (PySem.W.dataLe false fun b => g b.2)).map Prod.fst)) (fun b o hb z => (sb2.2 b hb).trans z) (fD.fp ga.2) ⟨hol, out, c, vo, hc⟩
    exact ⟨.ref _, _, J2, rfl, q H' hiv _ _ rfl ga.2⟩
end
/-! over data -/
def dSortK (sp : SpD) (fe : TD) : TL := fun ρ W Q Qx => fe ρ W (fun d ρ' W' => match d with
  | .lst ds => ∃ g : D → D, (∀ x ∈ ds, sp [x] W' (fun k W2 => k = g x ∧ W2 = W') (fun _ _ _ => False)) ∧ (∀ x ∈ ds, D.good 60 (g x) = true ∧ ∃ l, g x = .lst l) ∧ (∀ x ∈ ds, ∀ y ∈ ds, PySem.W.alike (g x).py (g y).py = true) ∧
      Q (ds.mergeSort (PySem.W.dataLe false fun d => (g d).py)) ρ' W'
  | _ => False) Qx
section
variable {X : Cx} {Wx : WX} {e : Expr} {fe : TD} {p pos : Pos} {k j : Nat} {x f : Str} {st : Stmt} {ps : List Str} {sp : SpD}
theorem zip_fst {α β : Type} : ∀ {l : List α} {m : List β}, l.length = m.length → (l.zip m).map Prod.fst = l
  | [], _, _ => by simp
  | a :: l, [], h => by simp at h
  | a :: l, b :: m, h => by rw [List.zip_cons_cons, List.map_cons, zip_fst (by simpa using h)]
theorem zip_snd {α β : Type} : ∀ {l : List α} {m : List β}, l.length = m.length → (l.zip m).map Prod.snd = m
  | [], [], _ => rfl
  | [], _ :: _, h => by simp at h
  | a :: l, [], h => by simp at h
  | a :: l, b :: m, h => by rw [List.zip_cons_cons, List.map_cons, zip_snd (by simpa using h)]
theorem reps_zip_all {K : PySem.W.Frag} {S : Reg} {H : Hp} : ∀ {ds : List D} {xs : List V}, Reps K S H ds xs → ∀ b ∈ xs.zip ds, Rep K S H b.2 b.1
  | [], _, h, b, hb => by rw [List.zip_nil_right] at hb; cases hb
  | d :: ds, _, h, b, hb => by
    obtain ⟨x, r, rfl, h1, h2⟩ := Reps.cons_iff.mp h
    rcases List.mem_cons.mp hb with rfl | hb
    · exact h1
    · exact reps_zip_all h2 b hb
theorem reps_of_pairs {K : PySem.W.Frag} {S : Reg} {H : Hp} : ∀ {bs : List (V × D)}, (∀ b ∈ bs, Rep K S H b.2 b.1) → Reps K S H (bs.map Prod.snd) (bs.map Prod.fst)
  | [], _ => Reps.nil
  | b :: bs, h => Reps.cons (h b List.mem_cons_self) (reps_of_pairs fun c hc => h c (List.mem_cons_of_mem _ hc))
theorem gn_sortK {pf pk : Pos} (c : Cal X.prog X.w X.K X.mg X.base k f st ps sp) (hr : Rm j X.A) (hk : k + 2 ≤ j) (hg : Gl X x) (hm : X.mg x = none) (hv : bootBuiltins x = some (.builtin "sorted")) (hgf : Gl X f) (ha : GE X Wx e fe) (hp1 : ps.length = 1 := by rfl)
    (hn : x ≠ "__name__" := by decide) (hdb : (x == ("__debug__" : Str)) = false := by decide) (hdf : (f == ("__debug__" : Str)) = false := by decide)
    (he : backTo pos (starEach [e] X.env) = (false, eval e X.env) :: backTo pos (starEach [] X.env) := by rfl) (hpl : (backTo pos (starEach [e] X.env)).any (·.1) = false := by rfl)
    (hall : (backToKw pos (keywordEach [⟨some "key", .Name f pf, pk⟩] X.env)).all (·.1.isSome) = true := by rfl) (hnone : (backToKw pos (keywordEach [⟨some "key", .Name f pf, pk⟩] X.env)).any (·.1.isNone) = false := by rfl)
    (hks : (backToKw pos (keywordEach [⟨some "key", .Name f pf, pk⟩] X.env)).filterMap (·.1) = [Str.ofString "key"] := by rfl) (hse : starEach [e] X.env = (false, eval e X.env) :: starEach [] X.env := by rfl) :
    GN X Wx (.Call (.Name x p) [e] [⟨some "key", .Name f pf, pk⟩] pos) (dSortK sp fe) := by
  obtain ⟨te, pe, se⟩ := ha
  obtain ⟨fa, fd, mf, fun1, bd, F⟩ := c
  obtain ⟨tk, pk', sk⟩ : GE X Wx (.Name f pf) (dC (.ref fa)) := ge_gc (pos := pf) ⟨_, mf, rfl⟩ hgf hdf
  refine ⟨_, pe_callBK (cr_sortK F ⟨hr.toRoom.mono hk, hr.gd⟩ bd) hg hm hv (pa_cons pe pa_nil hse) (pk_cons pk' pk_nil) hn hdb he hpl hall hnone hks, fun Fr S H σ ρ W Q Qx R cf hf hx hE => ?_⟩
  refine se Fr S H σ ρ W _ Qx _ cf hf hx fun S1 H1 ρ1 W1 d v e1 c1 r1 q1 => ?_
  split at q1
  · rename_i ds
    obtain ⟨g, hsp, hg1, hal, q1⟩ := q1
    obtain ⟨a, xs, rfl, ha, hrs⟩ := Rep.lst_iff.mp r1
    refine sk Fr S1 H1 σ ρ1 W1 (fun y ρ2 W2 => y = .ref fa ∧ ρ2 = ρ1 ∧ W2 = W1) Qx _ c1 ⟨rfl, rfl, rfl⟩ (hx.up e1) fun S2 H2 ρ2 W2 d2 v2 e2 c2 r2 q2 => ?_
    obtain ⟨rfl, rfl, rfl⟩ := q2
    cases Rep.v_iff.mp r2
    have hrs2 := hrs.up e2
    have hxl := hrs2.length
    refine ⟨a, xs.zip ds, fun d => (g d).py, fun i ks H => ∃ S', Stp Fr S2 H2 S' H ∧ Cf X.K Fr S' H σ ρ2 W2 ∧ Reps X.K S' H ((ds.take i).map g) ks, rfl, ?_, rfl, ⟨S2, .refl, c2, Reps.nil⟩, ?_, ?_, ?_, ?_, ?_, ?_⟩
    · rw [zip_fst hxl]; exact (e2.imL ha).sq
    · rintro i b ks H3 hb ⟨S3, e3, c3, r3⟩
      obtain ⟨y, d⟩ := b
      rw [List.getElem?_zip_eq_some] at hb
      obtain ⟨hb1, hb2⟩ := hb
      have hd := List.mem_of_getElem? hb2
      obtain ⟨y', hy', ry⟩ := (hrs2.up e3).get hb2
      dsimp only at hb1
      rw [hb1] at hy'; cases hy'
      refine ⟨_, S3, W2, [d], _, _, c3.below, Reps.cons ry Reps.nil, by rw [hp1]; rfl, hsp d hd, fun S4 H4 W4 k4 v4 e4 b4 r4 q4 => ?_, fun _ _ _ _ _ _ _ _ _ q => q.elim⟩
      obtain ⟨rfl, rfl⟩ := q4
      have e4' : Stp Fr S3 H3 S4 H4 := e4.mono fun _ h => .inl h
      refine ⟨S4, e3.trans e4', c3.back e4 b4, ?_⟩
      rw [List.take_add_one, hb2, List.map_append]
      exact (r3.up e4').append (Reps.cons r4 Reps.nil)
    · rintro ks H3 ⟨S3, e3, c3, r3⟩
      have hzl : (xs.zip ds).length = ds.length := by rw [List.length_zip, hxl, Nat.min_self]
      rw [hzl, List.take_length] at r3
      have kl := r3.length
      rw [List.length_map] at kl
      refine ⟨by rw [hzl, kl], fun i b k hb hk' => ?_⟩
      obtain ⟨y, d⟩ := b
      rw [List.getElem?_zip_eq_some] at hb
      obtain ⟨k', hk2, rk⟩ := r3.get (i := i) (d := g d) (by rw [List.getElem?_map, hb.2]; rfl)
      rw [hk'] at hk2; cases hk2
      exact dp_of (n := 60) (hg1 d (List.mem_of_getElem? hb.2)).1 rk
    · intro a1 ha1 a2 ha2
      rw [List.mem_map] at ha1 ha2
      obtain ⟨b1, m1, rfl⟩ := ha1
      obtain ⟨b2, m2, rfl⟩ := ha2
      exact hal _ (List.of_mem_zip m1).2 _ (List.of_mem_zip m2).2
    · refine .inr fun a1 ha1 => ?_
      rw [List.mem_map] at ha1
      obtain ⟨b1, m1, rfl⟩ := ha1
      obtain ⟨l, el⟩ := (hg1 _ (List.of_mem_zip m1).2).2
      dsimp only
      rw [el]
      exact ⟨by simp [D.py], fun xs => by simp [D.py]⟩
    · intro b1 m1
      have := (lay_of (hg1 _ (List.of_mem_zip m1).2).1).2
      dsimp only
      omega
    · rintro H3 ⟨ks, S3, e3, c3, r3⟩ ys q' rfl hq
      have all : ∀ b ∈ (xs.zip ds).mergeSort (PySem.W.dataLe false fun b => (g b.2).py), Rep X.K S3 H3 b.2 b.1 := fun b hb => reps_zip_all (hrs2.up e3) b ((List.mergeSort_perm _ _).mem_iff.mp hb)
      have es : ((xs.zip ds).mergeSort (PySem.W.dataLe false fun b => (g b.2).py)).map Prod.snd = ds.mergeSort (PySem.W.dataLe false fun d => (g d).py) := by
        have := PySem.W.sort_maps (r := PySem.W.dataLe false fun b : V × D => (g b.2).py) (s := PySem.W.dataLe false fun d : D => (g d).py) Prod.snd (l := xs.zip ds) fun a _ b _ => rfl
        rw [this, zip_snd hxl]
      exact hE S3 H3 ρ2 W2 _ _ q' ((e1.trans e2).trans e3) c3 (reps_of_pairs all) hq (by rw [es]; exact q1)
  · exact q1.elim
end
end G

/-! sorted(xs), xs any alike data, any length -/
namespace G
open PySem PySem.Spec L2
def rSortA (K : PySem.W.Frag) : List V → Hp → VK → Prop := fun xs H Q => ∃ (a : Addr) (bs : List (V × PyData)), xs = [.ref a] ∧ SqL K H a (bs.map Prod.fst) ∧ (∀ b ∈ bs, Dp K H b.1 b.2) ∧ PySem.W.AllAlike (bs.map Prod.snd) ∧ PySem.W.Sortable (bs.map Prod.snd) ∧ (∀ b ∈ bs, b.2.depth ≤ 62) ∧
  ∀ p, H p = none → Q (.ref p) (upd H p (.lst ((bs.mergeSort (PySem.W.dataLe false Prod.snd)).map Prod.fst)))
section
variable {X : Cx}
theorem cr_sortA (hu : X.A.units + 66 < cLine) : CallR X (.builtin "sorted") (rSortA X.K) := by
  intro pins s σ H vs us Q I r h
  obtain ⟨a, bs, rfl, hs, hd, hal, hso, hdep, q⟩ := h
  obtain ⟨its, rv, hl, hz⟩ := I.list hs
  rw [Vals.ref1 r]
  have hlen : bs.length = its.length := by have := rv.length; rwa [List.length_map] at this
  have zl : its.length ≤ sizeLine := by rw [← hlen]; simpa using hz
  have I2 : Inv X pins σ H { s with heap := PySem.W.sortingHeap (PySem.W.copyHeap s.heap its) (s.heap.objs.size + 1) its, toks := s.toks } := I.kept fun b o z => PySem.W.sorting_copy_old z
  have hk : PySem.W.EachIs (fun v d => ∃ as, PySem.Reads (PySem.W.sortingHeap (PySem.W.copyHeap s.heap its) (s.heap.objs.size + 1) its) v d as) its (bs.map Prod.snd) := by
    refine PySem.W.EachIs.of_zip (by rw [List.length_map, hlen]) fun p hp => ?_
    obtain ⟨i, hi, rfl⟩ := List.getElem_of_mem hp
    rw [List.length_zip, List.length_map] at hi
    obtain ⟨b, hb⟩ : ∃ b, bs[i]? = some b := ⟨_, List.getElem?_eq_getElem (by omega)⟩
    obtain ⟨u, hu', ru⟩ := rv.get (i := i) (x := b.1) (by rw [List.getElem?_map, hb]; rfl)
    have e1 : (its.zip (bs.map Prod.snd))[i]? = some (u, b.2) := by
      rw [List.getElem?_zip_eq_some]
      exact ⟨hu', by rw [List.getElem?_map, hb]; rfl⟩
    obtain ⟨_, e2⟩ := List.getElem?_eq_some_iff.mp e1
    rw [e2]
    exact Dp.reads I2 b.2 b.1 u (hd b (List.mem_of_getElem? hb)) ru
  have S := PySem.W.SortsAt.data (prog := X.prog) (w := X.w) (A := X.A.in1.in1) (s := { s with heap := PySem.W.sortingHeap (PySem.W.copyHeap s.heap its) (s.heap.objs.size + 1) its, toks := s.toks }) hk hal hso fun d hd' => by
    rw [List.mem_map] at hd'
    obtain ⟨b, m, rfl⟩ := hd'
    have := hdep b m
    show X.A.units + 1 + 1 + _ < _
    omega
  refine PySem.W.sorted_vals hl.isList S zl ?_
  obtain ⟨ep, he'⟩ := PyProof.Rows.sortedAll_at s.heap its (PySem.W.sortVals (PySem.W.dataKind (PySem.W.sortingHeap (PySem.W.copyHeap s.heap its) (s.heap.objs.size + 1) its) (bs.map Prod.snd)) false its its).toArray
  have ev := PySem.W.keyedOut_each (rev := false) (R := fun v (b : V × PyData) => RelV b.1 v) (bs := bs) Prod.snd ⟨_, its, hal, rfl, hk⟩ (vals_each rv)
  have vo := each_vals ev
  have ol : ((bs.mergeSort (PySem.W.dataLe false Prod.snd)).map Prod.fst).length ≤ sizeLine := by
    rw [List.length_map, List.length_mergeSort, hlen]; exact zl
  exact ⟨.ref _, _, I.laid (t' := s.toks) (a := s.heap.objs.size + 1) (o := .lst ((bs.mergeSort (PySem.W.dataLe false Prod.snd)).map Prod.fst)) (fun _ _ => PyProof.Rows.sortedAll_old) (Nat.le_succ _) ⟨ol, _, ep, vo, he'⟩, rfl, q _ (I.hok.fresh (Nat.le_succ _))⟩
end
abbrev srt (ds : List D) : List D := ds.mergeSort (PySem.W.dataLe false D.py)
def dSortA (fe : TD) : TL := fun ρ W Q Qx => fe ρ W (fun d ρ' W' => match d with
  | .lst ds => (∀ x ∈ ds, D.good 60 x = true) ∧ PySem.W.AllAlike (ds.map D.py) ∧ PySem.W.Sortable (ds.map D.py) ∧ Q (srt ds) ρ' W'
  | _ => False) Qx
section
variable {X : Cx} {Wx : WX} {e : Expr} {fe : TD} {pos : Pos}
theorem gn_sortA (hu : X.A.units + 66 < cLine) {x : Str} {p : Pos} (hg : Gl X x) (hm : X.mg x = none) (hv : bootBuiltins x = some (.builtin "sorted")) (ha : GE X Wx e fe) (hn : x ≠ "__name__" := by decide) (hdb : (x == ("__debug__" : Str)) = false := by decide)
    (he : starEach [e] X.env = (false, eval e X.env) :: starEach [] X.env := by rfl) (hpl : (backTo pos (starEach [] X.env)).any (·.1) = false := by rfl) : GN X Wx (.Call (.Name x p) [e] [] pos) (dSortA fe) := by
  obtain ⟨te, pe, se⟩ := ha
  refine ⟨_, pe_callB (cr_sortA hu) hg hm hv (pa_cons pe pa_nil he) hn hdb he hpl, fun F S H σ ρ W Q Qx R cf hf hx hE => ?_⟩
  refine se F S H σ ρ W _ Qx _ cf hf hx fun S' H' ρ' W' d v e' c r q => ?_
  split at q
  · rename_i ds
    obtain ⟨a, xs, rfl, ha, hr⟩ := Rep.lst_iff.mp r
    obtain ⟨hg1, hal, hso, q⟩ := q
    have hxl := hr.length
    have e1 : (xs.zip (ds.map D.py)).map Prod.fst = xs := zip_fst (by rw [hxl, List.length_map])
    have e2 : (xs.zip (ds.map D.py)).map Prod.snd = ds.map D.py := zip_snd (by rw [hxl, List.length_map])
    have ez : xs.zip (ds.map D.py) = (xs.zip ds).map fun b => (b.1, b.2.py) := by
      rw [List.zip_map_right]; rfl
    refine ⟨a, xs.zip (ds.map D.py), rfl, by rw [e1]; exact ha.sq, ?_, by rw [e2]; exact hal, by rw [e2]; exact hso, ?_, fun l hl => ?_⟩
    · intro b hb
      rw [ez, List.mem_map] at hb
      obtain ⟨c', hc', rfl⟩ := hb
      exact dp_of (n := 60) (hg1 _ (List.of_mem_zip hc').2) (reps_zip_all hr c' hc')
    · intro b hb
      rw [ez, List.mem_map] at hb
      obtain ⟨c', hc', rfl⟩ := hb
      have := (lay_of (hg1 _ (List.of_mem_zip hc').2)).2
      dsimp only
      omega
    · have m1 : (xs.zip (ds.map D.py)).mergeSort (PySem.W.dataLe false Prod.snd) = ((xs.zip ds).mergeSort (PySem.W.dataLe false fun b => b.2.py)).map fun b => (b.1, b.2.py) := by
        rw [ez]
        exact (PySem.W.sort_maps (r := PySem.W.dataLe false fun b : V × D => b.2.py) (s := PySem.W.dataLe false Prod.snd) (fun b : V × D => (b.1, b.2.py)) (l := xs.zip ds) fun a _ b _ => rfl).symm
      have all : ∀ b ∈ (xs.zip ds).mergeSort (PySem.W.dataLe false fun b => b.2.py), Rep X.K S' H' b.2 b.1 := fun b hb => reps_zip_all hr b ((List.mergeSort_perm _ _).mem_iff.mp hb)
      have es : ((xs.zip ds).mergeSort (PySem.W.dataLe false fun b => b.2.py)).map Prod.snd = srt ds := by
        have := PySem.W.sort_maps (r := PySem.W.dataLe false fun b : V × D => b.2.py) (s := PySem.W.dataLe false D.py) Prod.snd (l := xs.zip ds) fun a _ b _ => rfl
        rw [this, zip_snd hxl]
      have := hE S' H' ρ' W' _ _ l e' c (reps_of_pairs all) hl (by rw [es]; exact q)
      rw [m1, List.map_map]
      exact this
  · exact q.elim
end
section
variable {X : Cx} {Wx : WX} {p pos : Pos} {k j : Nat} {x : Str} {st : Stmt} {ps : List Str} {sp : SpD}
/-- f() -/
theorem ge_c0 (tk : Takes X Wx) (c : Cal X.prog X.w X.K X.mg X.base k x st ps sp) (hr : Rm j X.A) (hk : k ≤ j) (hn : ps.length = 0 := by rfl) (hg : Gl X x := by rfl) (hdb : (x == ("__debug__" : Str)) = false := by decide) :
    GE X Wx (.Call (.Name x p) [] [] pos) (dCall sp 0 dNil) := by
  obtain ⟨f, fd, a, b, c, d⟩ := c
  refine ⟨tCallS (toSp X.K 0 sp) (WE Wx) tNil, ⟨fun pins s σ H Q I h => ?_⟩, snd_call fun F S H σ ρ W Q Qx R cf hf hx hE => hE S H ρ W [] [] .refl cf Reps.nil hf⟩
  refine wpAny_Call_Name_kw (ld_glob I hg a ?_ hdb)
  rw [hn] at d
  exact PySem.W.callWith_K0 I.kIn b.kp (run_fnG (us := []) d (hr.less hk) c (passAt tk σ) I .nil h)
end
theorem u66 {k : Nat} {A : Around} (r : Rm k A) : A.units + 66 < cLine := by have := r.toRoom.un; omega
end G

namespace G
open PySem PySem.Spec L2 PyProof.Rows
/-! ### raise C(e), C's __init__ one of: super().__init__(".."); self.F = x -/
/-- the promise of such an __init__ -/
def spX (C : Addr) (F : Str) : Sp := fun vs H Q _ => ∃ (e : Addr) (y : V), vs = [.ref e, y] ∧ H e = some (exo e C none) ∧
  ∀ d, H d = none → d ≠ e → Q .non (upd (upd H d (exd d [(F, y)])) e (exo e C (some d)))
/-- what the end of such an __init__ leaves -/
theorem supEnd {CX : CXT} {outer : List PySem.Env} {P : Program} {w : World} {H : Hp} {s : Shared} {h4 : Heap} {g : Array GenState} {d : Drawn} {tk : Nat} {Q : VK} {E : XK} {e C dx t1 : Addr} {F : Str} {y : V} {u : Value} (hok : HOk P w H s.heap)
    (he : H e = some (exo e C none)) (hg : AllBare g) (hd0 : s.heap.objs.size ≤ dx) (ne : dx ≠ e) (ry : RelV y u) (k : ∀ b o, b ≠ e → s.heap.get? b = some o → h4.get? b = some o)
    (hx : h4.get? e = some ({ cls := .ref C, dict := some dx, data := .fields #[.ref t1, .none, .none, .none, .bool false, .none] } : Obj)) (hn : h4.Ns1 dx (fun z => if z = F then some u else none))
    (q : Q .non (upd (upd H dx (exd dx [(F, y)])) e (exo e C (some dx)))) : CR CX outer P w H s Q E (.ok (.ret .none)) ⟨h4, g, d, tk, s.os⟩ := by
  have hd : H dx = none := hok.fresh hd0
  have fre : ∀ {b : Addr}, H b = none → b ≠ e := fun n z => by rw [z, he] at n; cases n
  have old : ∀ {b : Addr} {o : Obj}, s.heap.get? b = some o → ∃ o', h4.get? b = some o' := fun {b o} z => by
    by_cases hb : b = e
    · exact ⟨_, hb ▸ hx⟩
    · exact ⟨o, k b o hb z⟩
  have new : ∀ {b : Addr} {o : HO}, H b = some o → b ≠ dx := fun z => ne_of_none z hd
  refine ⟨.non, upd (upd H dx (exd dx [(F, y)])) e (exo e C (some dx)), rfl, hg, ⟨fun b o z n _ _ => k b o (fre n) z, fun b o z n _ _ => ⟨o.slots, k b o (fre n) z⟩, fun b o z n _ => ?_, fun b o z _ => old z, fun b xs z => ?_, fun b o v z => ?_, fun b ps z => ⟨#[], ?_⟩⟩, fun b o z => ?_, rfl, q⟩
  · have : b ≠ dx := Nat.ne_of_lt (Nat.lt_of_lt_of_le (Heap.lt_size z) hd0)
    rw [upd_ne (fre n), upd_ne this]; exact n
  · rw [upd_ne (at_ne he z exo_tup), upd_ne (new z)]; exact z
  · rw [upd_ne (at_ne he z exo_frz), upd_ne (new z)]; exact z
  · rw [upd_ne (at_ne he z exo_tbl), upd_ne (new z), z]; simp
  · by_cases hb : b = e
    · subst hb
      rw [upd_same] at z; cases z
      exact exo_ok hx
    rw [upd_ne hb] at z
    by_cases hb2 : b = dx
    · subst hb2
      rw [upd_same] at z; cases z
      exact exd_ok hn (relO_put (fs := []) ry fun g => True.intro)
    rw [upd_ne hb2] at z
    refine (hok b o z).stay (fun c v hc x => k c v ?_ x) (fun c hc => ?_) (fun c xs hc => ?_)
    · rcases hc with hc | hc
      · exact hc ▸ hb
      · exact at_ne he hc exo_own
    · rw [upd_ne (at_ne he hc exo_own), upd_ne (new hc)]; exact hc
    · rw [upd_ne (at_ne he hc exo_tup), upd_ne (new hc)]; exact hc

/-- what the text says of such an __init__: fI the def, cc the cell of its class, cda its code -/
structure SupInit (P : Program) (K : PySem.W.Frag) (C fI cc cda : Addr) (F x : Str) (fd : FuncData) : Prop where
  lk : ∃ (oc : Value) (od : Option Addr) (sl : Array (Option Value)), K.lookup fI = some ⟨oc, od, .func fd, sl⟩
  clo : fd.closure = [(("__class__" : Str), cc)]
  gl : fd.globals = mainGlobals
  bl : fd.builtins = builtinsNs
  cdE : fd.code = .ref cda
  cd : PySem.W.codeIn K (.ref cda) fd.qualname = true
  file : ∃ (c : Value) (d : Option Addr) (vs : Array Value) (sl : Array (Option Value)) (f : Str) (t : Tok), K.lookup cda = some ⟨c, d, .fields vs, sl⟩ ∧ vs[2]? = some (.str f t) ∧ ((P.main.file : Str) == f) = true
  top : (P.main.scope.names.lookup ("super" : Str)).isSome = false
  cell : ∃ (c : Value) (d : Option Addr) (sl : Array (Option Value)), K.lookup cc = some ⟨c, d, .cell (some (.ref C)), sl⟩
  noS : PySem.W.nsIn K mainGlobals "super" = some none
  opq : PySem.W.nsIn K cStatics "thirdparty.any" = some none
  sup : PySem.W.ks_superIn K C C "__init__" = some (some (.builtin "ValueError.__init__"))
  sub : PySem.W.subIn K (.ref C) (.type "ValueError") = some true
  mro : PySem.W.mroIn K C (.ref C) = some true
  ex : PySem.W.excInitIn K C [.type "ValueError", .type "Exception", .type "BaseException", .type "object"] "ValueError.__new__" = true
  noF : PySem.W.findIn K (.ref C) F = some none
  body : ∃ (m : Str) (j : Nat) (p0 p1 p2 p3 p4 p5 p6 p7 p8 p9 : Pos), fd.body = .stmts [.Expr (.Call (.Attribute (.Call (.Name "super" p0) [] [] p1) "__init__" p2) [.Constant (.str m) j p3] [] p4) p5, .Assign [.Attribute (.Name "self" p6) F p7] (.Name x p8) p9] ∧
    ∀ env : PySem.Env, ∃ pl : Sem Bool, eval (.Call (.Attribute (.Call (.Name "super" p0) [] [] p1) "__init__" p2) [.Constant (.str m) j p3] [] p4) env = (do
      let ov ← attributeBase (.Call (.Name "super" p0) [] [] p1) "__init__" env (eval (.Call (.Name "super" p0) [] [] p1) env)
      standAt p2.atName
      let (f, first) ← holding [ov] (getMethod ov "__init__" pl)
      callWith p4 f first (backTo p4 (starEach [.Constant (.str m) j p3] env)) [])
  hd : ∃ ar : Arg, (fd.params.posonlyargs ++ fd.params.args).head? = some ar ∧ ar.arg = "self"
  kS : fd.scope.names.lookup ("super" : Str) = some .globalImplicit
  kC : fd.scope.names.lookup ("__class__" : Str) = some .free
  k1 : fd.scope.names.lookup ("self" : Str) = some .local
  k2 : fd.scope.names.lookup x = some .local
  kc : ∀ y ∈ fd.scope.names, y.2 ≠ .cell
  ki : fd.scope.kind = .function
  co : fd.scope.isCoroutine = false
  gn : fd.scope.isGenerator = false
  nx : x ≠ "self"
  ndb : (x == ("__debug__" : Str)) = false
theorem fn_sup {CX : CXT} {P : Program} {w : World} {K : PySem.W.Frag} {mg : Str → Option Value} {base : Heap} {k : Nat} {C fI cc cda : Addr} {F x : Str} {fd : FuncData} (S : SupInit P K C fI cc cda F x fd) (T : OexC K C) :
    FnOk P w K mg base CX (k + 1) fI fd ["self", x] (spX C F) := by
  refine ⟨fun vs H Q E ⟨_, _, e, _⟩ => by rw [e]; rfl, fun A outer s H args us vs Q E hr e0 hb r ⟨e, y, ev, he, hq⟩ => ?_⟩
  subst ev
  cases r with
  | @cons _ v0 _ ur ra rr =>
  cases rr with
  | @cons _ u _ ur2 ry rn =>
  cases rn
  obtain rfl : v0 = Value.ref e := ra
  have KX : K.In s.heap := e0.mod.kin.keeps fun b o z => (e0.bs b o z).1
  obtain ⟨oc, od, sl, lk⟩ := S.lk
  obtain ⟨m, j, p0, p1, p2, p3, p4, p5, p6, p7, p8, p9, hbd, hev⟩ := S.body
  obtain ⟨ar, har, arn⟩ := S.hd
  obtain ⟨cv, cd0, cvs, csl, file, ft, hcode, hcvs, hfile⟩ := S.file
  obtain ⟨ccl, ccd, ccs, hcell⟩ := S.cell
  obtain ⟨t1, ho⟩ := exo_at e0.hok he
  obtain ⟨nm, q, N, bs, bm, sn, sb, ab, col, dd, k0, k1, k2, k3, k5, hC, hbm⟩ := T.cls
  have hcl : PySem.W.clsIn K C = some { name := nm, bases := bs, mro := .ref C :: bm, ns := N, qualname := q, hasDict := true, slotNames := sn, subclasses := sb, abstract := ab, collection := col, hasDel := false } := by unfold PySem.W.clsIn; rw [hC] <;> rfl
  have eb : ∀ b o, base.get? b = some o → b ≠ e := fun b o z a => by
    have := (e0.bs b o z).2
    rw [a, he] at this; cases this
  refine ks_codeAny_call_defAt hr.depth (KX _ _ lk) rfl (e0.mod.nolimit.keeps fun b o z => (e0.bs b o z).1) (by rw [S.cdE]; exact PySem.W.codeRec_of KX S.cd) hbd hb S.kc (fun z hz => ?_) (fun g0 hns hk => ?_) S.co S.gn S.ki
  · rcases List.mem_cons.mp hz with rfl | hz
    · exact S.k1
    · obtain rfl := List.mem_singleton.mp hz
      exact S.k2
  have Xb : K.In (PySem.W.hideAll s.heap [e]) := e0.mod.kin.keeps fun b o z => PySem.W.hideAll_get _ (e0.bs b o z).1 (by simpa using eb b o z)
  have F0 : Fr (PySem.W.hideAll s.heap [e]) s.heap.objs.size g0 (fun z => [(("self" : Str), Value.ref e), (x, u)].reverse.lookup z) := ⟨hns, fun b o z => hk b o (PySem.W.of_hideAll _ z), Nat.le_of_eq (PySem.W.hideAll_size _ _)⟩
  have ne0 : e ≠ s.heap.objs.size := Nat.ne_of_lt (Heap.lt_size ho)
  have N0 : News (PySem.W.hideAll s.heap [e]) s.heap.objs.size g0 [(e, PySem.W.excObj C t1 none .none)] := fun p hp => by
    obtain rfl := List.mem_singleton.mp hp
    exact ⟨hk _ _ ho, ne0, PySem.W.hideAll_none _ (by simp)⟩
  have X0 : K.In g0 := Xb.keeps F0.keep
  obtain ⟨pl, hev⟩ := hev (callEnv fd s.heap.objs.size fI)
  have hint : interactive (callEnv fd s.heap.objs.size fI) = false := by
    show (fd.scope.kind == .module && _) = false
    rw [S.ki]; rfl
  have hsn : ∀ z : Str, (fd.scope.names.lookup z) = (callEnv fd s.heap.objs.size fI).kindOf z := fun z => rfl
  have vself : (fun z => [(("self" : Str), Value.ref e), (x, u)].reverse.lookup z) "self" = some (.ref e) := by
    show List.lookup ("self" : Str) [(x, u), ("self", Value.ref e)] = _
    rw [List.lookup_cons, show (("self" : Str) == x) = false from by simpa using Ne.symm S.nx]
    rfl
  have vx : (fun z => [(("self" : Str), Value.ref e), (x, u)].reverse.lookup z) x = some u := by
    show List.lookup x [(x, u), ("self", Value.ref e)] = _
    rw [List.lookup_cons, beq_self_eq_true]
  obtain ⟨oD, hD1, hD2⟩ : ∃ oD, g0.get? C = some oD ∧ oD.data = .cls { name := nm, bases := bs, mro := .ref C :: bm, ns := N, qualname := q, hasDict := true, slotNames := sn, subclasses := sb, abstract := ab, collection := col, hasDel := false } := ⟨_, X0 _ _ hC, rfl⟩
  obtain ⟨mb, hmb, hb0⟩ := e0.mod.blt
  have kb : ∀ b o, base.get? b = some o → g0.get? b = some o := fun b o z => hk b o (e0.bs b o z).1
  refine ks_wpAt_execs_cons (ks_wpAt_Expr_any (ks_wpAt_MethodCall (pl := pl) ?_ hev) hint)
  refine ks_wpAt_super_base S.kS S.kC (by decide) rfl (X0 _ _ lk) rfl har S.cdE (X0 _ _ hcode) rfl hcvs hfile S.top ?_
  refine PySem.W.ks_loadName_global S.ki S.kS (Calls.loadGlobal_builtin (mg := mg) (mb := mb) (by show g0.Ns fd.globals mg; rw [S.gl]; exact e0.mod.glob.keeps kb) (PySem.W.mg_none_of e0.mod.kin e0.mod.glob S.noS)
    (by show g0.Ns fd.builtins mb; rw [S.bl]; exact hmb.keeps kb) ((hb0 _ (by decide)).trans (show bootBuiltins "super" = some (.type "super") from by kernel_rfl)) ⟨rfl, ?_⟩)
  refine wpAny_loadName_free S.ki S.kC (c := cc) (v := .ref C) (by show fd.closure.lookup _ = _; rw [S.clo]; rfl) ⟨_, X0 _ _ hcell, rfl⟩ ?_
  refine wpAny_loadName_local (v := .ref e) S.ki (by rw [arn]; exact S.k1) F0.ns (by rw [arn]; exact vself) ?_
  refine ks_wpAny_isType_cls hD1 hD2 ⟨rfl, ?_⟩
  refine ks_wpAny_call_super hD1 hD2 (hk _ _ ho) rfl (fun c z => by cases z) (PySem.W.looks_mroIn X0 S.mro) (fun h1 e1 k1 => ?_)
  obtain ⟨F1, N1, l1⟩ := PySem.W.ks_newsPush (s := ⟨g0, s.gens, s.drawn, s.toks + 2, s.os⟩) F0 N0 rfl e1 k1
  refine PySem.W.kxs_method (s := ⟨h1, s.gens, s.drawn, _, s.os⟩) PySem.W.kxs_ValueError F1 Xb N1 (so := g0.objs.size) (List.mem_cons_self ..) (PySem.W.InstAt.of_exc0 N1 (.tail _ (List.mem_cons_self ..))) S.opq S.sup S.sub (by decide) (fun q2 h2 F2 N2 l2 => ?_)
  have nq : q2 ≠ e := Ne.symm (Nat.ne_of_lt (l2 (e, _) (.tail _ (List.mem_cons_self ..))))
  have ns : g0.objs.size ≠ e := Ne.symm (Nat.ne_of_lt (l1 (e, _) (List.mem_cons_self ..)))
  refine PySem.W.kxs_callWith1 N2 (List.mem_cons_self ..) (spliced_more (wpAny_Constant_str (spliced_none ⟨PySem.W.kxs_at N2 (List.mem_cons_self ..), ?_⟩)))
  refine PySem.W.kxs_call (s := ⟨h2, _, _, _, _⟩) F2 Xb N2 PySem.F.excBase_ValueError S.ex (List.mem_cons_self ..) (.tail nq (.tail ns (.head fun p hp => by cases hp))) (by size_fits) (fun t3 h3 F3 N3 l3 => ?_)
  have X3 : K.In h3 := Xb.keeps F3.keep
  have m3 := (N3 (e, PySem.W.excObj C t3 none .none) (.tail _ (.tail _ (.tail _ (List.mem_cons_self ..))))).1
  refine ks_wpAt_execs_cons (ks_wpAt_Assign_Attr (wpAt_of_wpAny (ldc S.ki S.k2 F3.ns vx (ldc S.ki S.k1 F3.ns vself ?_ (by decide)) S.ndb)))
  refine PySem.W.set_plain X3 (ox := PySem.W.excObj C t3 none .none) (od := none) ⟨m3, rfl, rfl, trivial⟩ T.sa ?_
  refine PySem.HandSPX.exc_osa X3 m3 hcl (show PySem.HandSPX.refsVE (.ref C :: bm) = true from hbm) rfl S.noF (fun h4 tk dx k4 dn dne hx hn => ?_)
  refine wpAt_of_wpAny (wpAny_execs_nil ?_)
  have up : s.heap.objs.size ≤ h3.objs.size := Nat.le_of_lt F3.ns.lt
  exact supEnd e0.hok he e0.bare (Nat.le_trans up dn) dne ry (fun b o hb z => k4 b o hb (F3.keep b o (PySem.W.hideAll_get _ z (by simpa using hb)))) hx hn (hq dx (e0.hok.fresh (Nat.le_trans up dn)) dne)

/-- what is known of a class that is raised with a field -/
structure ExcF (P : Program) (K : PySem.W.Frag) (mg : Str → Option Value) (x : Str) (C : Addr) (F : Str) : Prop where
  mg : mg x = some (.ref C)
  ox : OexC K C
  ini : ∃ (fI cc cda : Addr) (y : Str) (fd : FuncData), PySem.W.findIn K (.ref C) "__init__" = some (some (.ref fI)) ∧ PySem.W.typeIn K (.ref fI) = some (.type "function") ∧ SupInit P K C fI cc cda F y fd ∧
    ∀ us : List Value, us.length = 2 → bindArgs fd ⟨us, []⟩ = pure (List.zip [("self" : Str), y] us)
def dRaiseF (c : Value) (F : Str) (f : TD) : TSD := fun De ρ W => f ρ W (fun d ρ' W' => De.ex c (some [(F, d)]) ρ' W') De.ex
theorem heap_end {H : Hp} {a d : Addr} {o1 o2 o3 u : HO} (ha : H a = none) (ne : d ≠ a) : upd (L2.del (upd (upd (upd H a o1) d o2) a o3) a) d u = upd H d u := by
  funext b
  by_cases hb : b = d
  · rw [hb, upd_same, upd_same]
  rw [upd_ne hb, upd_ne hb]
  by_cases hc : b = a
  · rw [hc, L2.del_same, ha]
  · rw [L2.del_ne hc, upd_ne hc, upd_ne hb, upd_ne hc]
section
variable {X : Cx} {Wx : WX}
theorem gs_raiseF {x F : Str} {C : Addr} {k : Nat} {e : Expr} {fe : TD} {p pos pos' : Pos} (hc : X.calm = true) (tk : Takes X Wx) (T : ExcF X.prog X.K X.mg x C F) (hr : Room k X.A) (hk : 2 ≤ k) (ha : GE X Wx e fe) (hg : Gl X x := by rfl)
    (hdb : (x == ("__debug__" : Str)) = false := by decide) (he : starEach [e] X.env = (false, eval e X.env) :: starEach [] X.env := by rfl) (hpl : (backTo pos (starEach [] X.env)).any (·.1) = false := by rfl) :
    GS X Wx (.Raise (some (.Call (.Name x p) [e] [] pos)) none pos') (dRaiseF (.ref C) F fe) := by
  obtain ⟨te, pe, se⟩ := ha
  obtain ⟨fI, cc, cda, y, fd, i1, i2, S, hb⟩ := T.ini
  refine ⟨_, ps_raise hc tk (pmk_oex (CX := fun _ _ _ _ _ _ => False) (k := 1) (dvs := []) (ds := []) T.ox i1 i2 (fn_sup (k := 0) S T.ox) (hr.mono hk) (Binds.all hb) .nil (fun _ _ _ _ _ _ _ z => z.elim) hg T.mg (pa_cons pe pa_nil he) hdb he hpl), fun F1 S1 H σ ρ W De Dh cf hf l => ?_⟩
  refine se F1 S1 H σ ρ W _ _ _ cf hf l.ex fun S' H' ρ' W' d v st cf' rp q => ⟨by simp, fun a ha => ⟨a, v, rfl, upd_same, fun dd hd0 ne => ⟨rfl, dd, [(F, v)], upd_same, by rw [upd_ne ne, upd_same], ?_, ?_⟩⟩⟩
  · rw [upd_ne ne] at hd0; exact hd0
  · rw [upd_ne ne] at hd0
    rw [heap_end ha ne]
    have sm : Same H' (upd H' dd (.xd [(F, v)])) := fun b o h => same_new hd0 b o h
    have sp := stp_same cf'.cb sm
    exact l.ex S' _ σ ρ' W' _ (some [(F, d)]) _ (st.trans sp) (cf'.same sm) ⟨dd, [(F, v)], rfl, upd_same, fun z => cf'.cb.sd dd z hd0, rfl, ⟨v, [], rfl, rp.up sp, rfl⟩⟩ q
/-- e.n of a caught exception; l: the classes that it may have -/
def dXf (l : List Value) (n : Str) (fe : TD) : TD := fun ρ W Q Qx => fe ρ W (fun d ρ' W' => ∃ (c : Value) (ks : List Str) (ds : List D) (r : D), d = .exc c (some ks) ds ∧ c ∈ l ∧ (ks.zip ds).lookup n = some r ∧ Q r ρ' W') Qx
theorem lookup_reps {K : PySem.W.Frag} {S : Reg} {H : Hp} {n : Str} {r : D} : ∀ {ks : List Str} {ds : List D} {xs : List V}, Reps K S H ds xs → (ks.zip ds).lookup n = some r → ∃ v, (ks.zip xs).lookup n = some v ∧ Rep K S H r v
  | [], _, _, _, h => by simp at h
  | _ :: _, [], _, _, h => by simp at h
  | k :: ks, d :: ds, xs, rp, h => by
    obtain ⟨v, r', rfl, r1, r2⟩ := rp
    rw [List.zip_cons_cons, List.lookup_cons] at h
    rw [List.zip_cons_cons, List.lookup_cons]
    split at h
    · cases h
      rename_i hk
      exact ⟨v, rfl, r1⟩
    · exact lookup_reps r2 h
structure XfAt (K : PySem.W.Frag) (C : Addr) (n : Str) : Prop where
  xf : XfC K C
  no : PySem.W.findIn K (.ref C) n = some none
theorem alx0 {K : PySem.W.Frag} {n : Str} : ∀ c ∈ ([] : List Value), ∃ C, c = .ref C ∧ XfAt K C n := fun c h => by cases h
theorem alx1 {K : PySem.W.Frag} {n : Str} {C : Addr} {l : List Value} (h : XfAt K C n) (r : ∀ c ∈ l, ∃ C, c = .ref C ∧ XfAt K C n) : ∀ c ∈ Value.ref C :: l, ∃ C, c = .ref C ∧ XfAt K C n := fun c hc => by
  rcases List.mem_cons.mp hc with e | hc
  · exact ⟨C, e, h⟩
  · exact r c hc
theorem ge_xf {e : Expr} {fe : TD} {n : Str} {pos : Pos} {l : List Value} (hl : ∀ c ∈ l, ∃ C, c = .ref C ∧ XfAt X.K C n) (ha : GE X Wx e fe) (hb : attributeBase e n X.env (eval e X.env) = eval e X.env := by rfl) :
    GE X Wx (.Attribute e n pos) (dXf l n fe) := by
  obtain ⟨te, pe, se⟩ := ha
  refine ⟨fun σ H R => te σ H fun v H' => ∃ (a : Addr) (C dd : Addr) (fs : List (Str × V)) (r : V), v = .ref a ∧ XfAt X.K C n ∧ H' a = some (ExH (.ref C) (some dd) a) ∧ H' dd = some (.xd fs) ∧ fs.lookup n = some r ∧ R r H', ⟨fun pins s σ H R I h => ?_⟩, fun F S H σ ρ W Q Qx R cf hf hx hE => ?_⟩
  · refine attr_of hb (thn (pe.run pins s σ H _ I h) fun u s1 ⟨v, H1, I1, rv, a, C, dd, fs, r, ev, T, h1, h2, h3, q⟩ => ?_)
    subst ev
    obtain rfl : u = Value.ref a := rv
    obtain ⟨⟨oe, vs, hg, hz, hv⟩, _, _⟩ : ObjOk X.prog X.w H1 s1.heap a (ExH (.ref C) (some dd) a) := I1.hok a _ h1
    obtain ⟨mA, hns, hr⟩ : ObjOk X.prog X.w H1 s1.heap dd (.xd fs) := I1.hok dd _ h2
    obtain ⟨od, ho, hlk⟩ := lookIn_ns hns
    obtain ⟨w, hw, rw'⟩ := RelO.some_of (v := r) (o := mA n) (by rw [← h3]; exact hr n)
    have J : PySem.W.InstAt s1.heap a oe C (some od) := ⟨hg, hz.1, by unfold PySem.W.notCls; rw [hv] <;> rfl, by rw [hz.2]; exact ho⟩
    exact HandSPX.exc_get I1.kIn J T.xf.ga T.xf.gg T.xf.exC (PySem.W.findObj_own T.xf.hdC T.no rfl (by rw [hlk, hw])) (handed_of rw') ⟨r, H1, I1.tok _, rw', q⟩
  · refine se F S H σ ρ W _ Qx _ cf hf hx fun S' H' ρ' W' d v st c rp ⟨cl, ks, ds, r, ed, hm, hr, q⟩ => ?_
    subst ed
    obtain ⟨C, rfl, T⟩ := hl _ hm
    obtain ⟨a, od, xs, rfl, h1, ⟨dd, rfl, h2, _⟩, h3⟩ := Rep.exc_iff.mp rp
    obtain ⟨w, hw, rw'⟩ := lookup_reps h3 hr
    exact ⟨a, C, dd, _, w, rfl, T, h1.1, h2.1, hw, hE S' H' ρ' W' _ _ st c rw' q⟩
end

def clsDef (i : Nat) : Stmt → Stmt
  | .ClassDef _ _ _ b _ _ _ _ _ _ _ => b.getD i (.Pass ⟨0, 0, 0, 0⟩)
  | s => s
/-- what the class's own text says -/
structure SupSt (st : Stmt) (F y : Str) : Prop where
  body : ∃ (m : Str) (j : Nat) (p0 p1 p2 p3 p4 p5 p6 p7 p8 p9 : Pos), defBody st = [.Expr (.Call (.Attribute (.Call (.Name "super" p0) [] [] p1) "__init__" p2) [.Constant (.str m) j p3] [] p4) p5, .Assign [.Attribute (.Name "self" p6) F p7] (.Name y p8) p9] ∧
    ∀ env : PySem.Env, ∃ pl : Sem Bool, eval (.Call (.Attribute (.Call (.Name "super" p0) [] [] p1) "__init__" p2) [.Constant (.str m) j p3] [] p4) env = (do
      let ov ← attributeBase (.Call (.Name "super" p0) [] [] p1) "__init__" env (eval (.Call (.Name "super" p0) [] [] p1) env)
      standAt p2.atName
      let (f, first) ← holding [ov] (getMethod ov "__init__" pl)
      callWith p4 f first (backTo p4 (starEach [.Constant (.str m) j p3] env)) [])
  hd : ∃ ar : Arg, ((defArgs st).posonlyargs ++ (defArgs st).args).head? = some ar ∧ ar.arg = "self"
  kS : (defScope st).names.lookup ("super" : Str) = some .globalImplicit
  kC : (defScope st).names.lookup ("__class__" : Str) = some .free
  k1 : (defScope st).names.lookup ("self" : Str) = some .local
  k2 : (defScope st).names.lookup y = some .local
  kc : ∀ z ∈ (defScope st).names, z.2 ≠ .cell
  ki : (defScope st).kind = .function
  co : (defScope st).isCoroutine = false
  gn : (defScope st).isGenerator = false
  nx : y ≠ "self"
  ndb : (y == ("__debug__" : Str)) = false
  bd : ∀ (qual : Str) (cc : Addr) (kV doc pm : Value) (an : Option Addr) (cdv ct : Value) (us : List Value), us.length = 2 →
    bindArgs (PySem.W.fnX "__init__" qual (defArgs st) (defBody st) (defScope st) [("__class__", cc)] .none kV doc pm an cdv ct) ⟨us, []⟩ = pure (List.zip [("self" : Str), y] us)
theorem excF_mk {P : Program} {K : PySem.W.Frag} {mg : Str → Option Value} {h : Heap} {x F y qual : Str} {C : Addr} {st : Stmt} (S : SupSt st F y) (hT : (P.main.scope.names.lookup ("super" : Str)).isSome = false) (X : K.In h) (GN : h.Ns mainGlobals mg)
    {fI cc cda N : Addr} {oc kV doc pm ct : Value} {od an dd : Option Addr} {sl : Array (Option Value)} {nm q : Str} {bs bm sub : List Value} {sn : List Str} {ab : Bool} {col : Option Bool} {k0 k1 k2 k3 k5 : Option Value}
    {c1 c2 : Value} {d1 d2 : Option Addr} {vs : Array Value} {s1 s2 : Array (Option Value)} {file : Str} {ft : Tok}
    (e1 : PySem.W.nsIn K mainGlobals x = some (some (.ref C)))
    (e2 : K.lookup C = some (excClassObj nm q C N bs bm true sn sub ab col dd k0 k1 k2 k3 k5 "ValueError.__new__"))
    (e7 : PySem.W.findIn K (.ref C) "__init__" = some (some (.ref fI)))
    (e9 : K.lookup fI = some ⟨oc, od, .func (PySem.W.fnX "__init__" qual (defArgs st) (defBody st) (defScope st) [("__class__", cc)] .none kV doc pm an (.ref cda) ct), sl⟩)
    (e11 : K.lookup cda = some ⟨c1, d1, .fields vs, s1⟩) (e13 : K.lookup cc = some ⟨c2, d2, .cell (some (.ref C)), s2⟩) (e12 : vs[2]? = some (.str file ft)) (hr : PySem.HandSPX.refsVE bm = true) (hP : ((P.main.file : Str) == file) = true)
    (e3 : PySem.W.findIn K (.ref C) "__setattr__" = some (some (.builtin "object.__setattr__"))) (e4 : PySem.W.subIn K (.ref C) (.type "BaseException") = some true) (e5 : PySem.W.typeIn K (.ref C) = some (.type "type")) (e6 : PySem.W.keepIn K (.ref C) = true)
    (e8 : PySem.W.typeIn K (.ref fI) = some (.type "function")) (e10 : PySem.W.codeIn K (.ref cda) qual = true) (e14 : PySem.W.nsIn K mainGlobals "super" = some none) (e15 : PySem.W.nsIn K cStatics "thirdparty.any" = some none)
    (e16 : PySem.W.ks_superIn K C C "__init__" = some (some (.builtin "ValueError.__init__"))) (e17 : PySem.W.subIn K (.ref C) (.type "ValueError") = some true) (e18 : PySem.W.mroIn K C (.ref C) = some true)
    (e19 : PySem.W.excInitIn K C [.type "ValueError", .type "Exception", .type "BaseException", .type "object"] "ValueError.__new__" = true) (e20 : PySem.W.findIn K (.ref C) F = some none) : ExcF P K mg x C F where
  mg := PySem.W.mg_of X GN e1
  ox := ⟨⟨_, _, _, _, _, _, _, _, _, _, _, _, _, _, _, e2, hr⟩, e3, e4, e5, e6⟩
  ini := ⟨fI, cc, cda, y, _, e7, e8, {
    lk := ⟨_, _, _, e9⟩, clo := rfl, gl := rfl, bl := rfl, cdE := rfl, cd := e10, file := ⟨_, _, _, _, _, _, e11, e12, hP⟩, top := hT, cell := ⟨_, _, _, e13⟩, noS := e14, opq := e15, sup := e16, sub := e17, mro := e18, ex := e19, noF := e20,
    body := by
      obtain ⟨m, j, p0, p1, p2, p3, p4, p5, p6, p7, p8, p9, h1, h2⟩ := S.body
      exact ⟨m, j, p0, p1, p2, p3, p4, p5, p6, p7, p8, p9, congrArg FuncBody.stmts h1, h2⟩
    hd := S.hd, kS := S.kS, kC := S.kC, k1 := S.k1, k2 := S.k2, kc := S.kc, ki := S.ki, co := S.co, gn := S.gn, nx := S.nx, ndb := S.ndb }, S.bd _ _ _ _ _ _ _ _⟩
/-! ### x += e of texts -/
def rIaS : R2 := fun x y H Q => ∃ i j, x = .str i ∧ y = .str j ∧ i.length + j.length ≤ sizeLine ∧ Q (.str (i ++ j)) H
def dIaS : D → D → (D → Prop) → Prop := fun d e Q => match d, e with
  | .v (.str i), .v (.str j) => i.length + j.length ≤ sizeLine ∧ Q (.str (i ++ j))
  | _, _ => False
theorem op_iaS {X : Cx} : PIp X .Add rIaS := iop_add_str
theorem rs_iaS {K : PySem.W.Frag} : RSnd K rIaS dIaS := fun F S H W d e x y P R cb rd re hp k => by
  unfold dIaS at hp
  split at hp
  · rw [Rep.v_iff] at rd re
    subst rd
    subst re
    exact ⟨_, _, rfl, rfl, hp.1, k _ _ H (Same.refl H) (Rep.v_iff.mpr rfl) hp.2⟩
  · exact hp.elim
end G

namespace C
open PySem PySem.Spec L2 G TL
def Printable (s : Str) : Prop := ∀ c ∈ tl s, 32 ≤ c ∧ c ≤ 126
/-- the k digits of n -/
def digs : Nat → Nat → List Nat
  | 0, _ => []
  | k + 1, n => digs k (n / 10) ++ [48 + n % 10]
def isDig (c : Nat) : Bool := decide (48 ≤ c) && decide (c ≤ 57)
def numIn (l : List Nat) (at_ k : Nat) : Int :=
  if ((l.drop at_).take k).length < k ∨ ((l.drop at_).take k).all isDig = false then -1 else ((NumText.digitsVal ((l.drop at_).take k) : Nat) : Int)
theorem so_sp : Str.ofString " " = mkS [32] := by decide +kernel
theorem so_ti : Str.ofString "~" = mkS [126] := by decide +kernel
theorem so_0 : Str.ofString "0" = mkS [48] := by decide +kernel
theorem so_9 : Str.ofString "9" = mkS [57] := by decide +kernel
theorem so_pl : Str.ofString "+" = mkS [43] := by decide +kernel
theorem so_dot : Str.ofString "." = mkS [46] := by decide +kernel
theorem digs_len : ∀ (k n : Nat), (digs k n).length = k
  | 0, _ => rfl
  | k + 1, n => by rw [digs, List.length_append, digs_len k]; rfl
theorem pad_digs : ∀ (k n : Nat), 0 < k → n < 10 ^ k → List.replicate (k - (numL n).length) 48 ++ numL n = digs k n
  | 0, _, h, _ => absurd h (by decide)
  | 1, n, _, h => by
    have h' : n < 10 := by simpa using h
    rw [numL_lt h', digs, digs]
    simp [Nat.mod_eq_of_lt h']
  | k + 2, n, _, h => by
    have h2 : n / 10 < 10 ^ (k + 1) := by
      rw [Nat.div_lt_iff_lt_mul (by decide)]
      rw [Nat.pow_succ] at h; exact h
    rw [digs, ← pad_digs (k + 1) (n / 10) (by omega) h2]
    by_cases h10 : n < 10
    · have : n / 10 = 0 := Nat.div_eq_of_lt h10
      rw [this, numL_lt h10, numL_lt (by decide : 0 < 10), Nat.mod_eq_of_lt h10]
      show List.replicate (k + 1) 48 ++ [48 + n] = (List.replicate k 48 ++ [48]) ++ [48 + n]
      rw [List.replicate_succ']
    · rw [numL_step (by omega : 10 ≤ n), List.length_append, ← List.append_assoc]
      congr 2
      congr 1
      show k + 2 - ((numL (n / 10)).length + 1) = _
      omega
theorem log2_small {n k : Nat} (h : n < 2 ^ k) (hk : 0 < k) : n.log2 < k := by
  by_cases h0 : n = 0
  · rw [h0]; exact hk
  · exact (Nat.log2_lt h0).mpr h
theorem ten_le_two : ∀ k : Nat, 10 ^ k ≤ 2 ^ (4 * k)
  | 0 => by decide
  | k + 1 => by
    have e : 2 ^ (4 * (k + 1)) = 2 ^ (4 * k) * 2 ^ 4 := by rw [← Nat.pow_add]; rfl
    rw [e, Nat.pow_succ]
    exact Nat.mul_le_mul (ten_le_two k) (by decide)
theorem rjust_tl (n k : Nat) (hk : 0 < k) (h : n < 10 ^ k) : Txt.rjustF (toString ((n : Nat) : Int) : String) (k : Int) 48 = mkS (digs k n) := by
  refine str_eq ?_
  rw [← pad_digs k n hk h]
  have hl : (Str.ofString (toString ((n : Nat) : Int))).length = (numL n).length := by rw [len_tl, tl_num]
  unfold Txt.rjustF
  split
  · rename_i h1
    rw [hl] at h1
    rw [tl_num, show k - (numL n).length = 0 by omega]
    rfl
  · rename_i h1
    rw [hl] at h1
    unfold Builtin.Str.padded
    rw [hl]
    show (Array.replicate _ 48 ++ (Str.ofString (toString ((n : Nat) : Int))).cps ++ Array.replicate 0 48).toList = _
    simp only [Array.toList_append, Array.toList_replicate, List.replicate_zero, List.append_nil]
    rw [Int.toNat_natCast]
    congr 1
    exact tl_num n
theorem pad_ok : ∀ k : Fin 101, PySem.PadOk ((k.val : Nat) : Int) = true := by decide +kernel
theorem isDig_all {l : List Nat} (h : l.all isDig = true) : NumText.AllDigits l := fun c hc => by
  have := List.all_eq_true.mp h c hc
  unfold isDig at this
  rw [Bool.and_eq_true, decide_eq_true_eq, decide_eq_true_eq] at this
  exact this
theorem numIn_range (l : List Nat) (a k : Nat) : -1 ≤ numIn l a k := by
  unfold numIn
  split <;> omega
theorem inV2 (z a b : List Nat) : inV (.str (mkS z)) [.str (mkS a), .str (mkS b)] = (decide (z = a) || decide (z = b)) := by
  have e : ∀ x y : List Nat, eqV (.str (mkS x)) (.str (mkS y)) = decide (y = x) := fun x y => by
    show ((mkS x) == (mkS y)) = _
    rw [Bool.eq_iff_iff, beq_iff_eq, decide_eq_true_eq, mkS_inj, eq_comm]
  unfold inV
  rw [List.any_cons, List.any_cons, List.any_nil, e, e, Bool.or_false]
theorem rgc_up {b c : Nat} (hc : 0 < c) (hc2 : c < 1073741824) (hb : b < 1073741824) : RgC 0 b c ((b + c - 1) / c) := by
  have fit : ∀ i : Int, -(2 ^ 62) ≤ i → i < 2 ^ 62 → Builtin.Range.rangeFitsLong i = true := fun i h1 h2 => by
    unfold Builtin.Range.rangeFitsLong
    simp
    omega
  have e : Builtin.Range.rangeSize 0 (b : Int) (c : Int) = (((b + c - 1) / c : Nat) : Int) := by
    unfold Builtin.Range.rangeSize
    rw [if_pos (by omega)]
    by_cases h0 : b = 0
    · subst h0
      rw [if_neg (by omega), Nat.div_eq_of_lt (by omega)]
      rfl
    · rw [if_pos (by omega)]
      have h1 : (b : Int) - 0 - 1 = ((b - 1 : Nat) : Int) := by omega
      have h2 : (b + c - 1) / c = (b - 1) / c + 1 := by
        rw [show b + c - 1 = (b - 1) + c by omega, Nat.add_div_right _ hc]
      rw [h1, h2, ← Int.natCast_ediv]
      rfl
  have hle : (b + c - 1) / c ≤ b + c := Nat.le_trans (Nat.div_le_self _ _) (by omega)
  generalize (b + c - 1) / c = q at e hle ⊢
  refine ⟨by omega, by omega, ?_, e⟩
  unfold Builtin.Range.small
  rw [e, fit 0 (by omega) (by omega), fit b (by omega) (by omega), fit c (by omega) (by omega), fit _ (by omega) (by omega), if_pos (by omega), fit _ (by omega) (by omega)]
  simp
theorem mulX_of {i j : Int} (a b : Nat) (hi : i.natAbs < 2 ^ a) (hj : j.natAbs < 2 ^ b) (ha : 0 < a) (hb : 0 < b) (h : a + b ≤ 60000000) : CMulX i j := by
  unfold CMulX
  have := log2_small hi ha
  have := log2_small hj hb
  omega
theorem goods_ints (gs : List Int) : goods 63 (gs.map D.int) = true := by
  induction gs with
  | nil => rfl
  | cons a r ih => simp [goods, D.good, ih]
theorem ixN0 {n : Nat} (h : 0 < n) : ixN n 0 = some 0 := by
  unfold ixN
  rw [if_pos (by decide), if_pos (by omega)]; rfl
theorem atI0 {α : Type} {a : α} {l : List α} : atI (a :: l) 0 = some a := by
  unfold atI
  rw [ixN0 (by simp : 0 < (a :: l).length)]; rfl
theorem joinL_nil : ∀ ys : List (List Nat), TL.joinL [] ys = ys.flatten
  | [] => rfl
  | [x] => by simp [TL.joinL]
  | x :: y :: r => by
    have := joinL_nil (y :: r)
    rw [List.flatten_cons, ← this]
    simp [TL.joinL]
theorem join_mkS (ys : List (List Nat)) : Txt.join (mkS []) (ys.map mkS) = mkS ys.flatten := by
  rw [← joinL_nil]; exact SX.join_S [] ys
def signs1 : List Nat := [32, 33, 34, 35, 36, 38, 39, 40, 41, 42, 43, 44, 45, 46, 47, 48, 49, 50, 51, 52, 53, 54, 55, 56, 57, 58, 59, 60, 61, 62, 63, 64, 65, 66, 67, 68, 69, 70, 71, 72, 73, 74, 75, 76, 77, 78, 79, 80, 81, 82, 83, 84, 85, 86, 87, 88, 89, 90, 91, 92, 93, 94, 95, 96, 97, 98, 99, 100, 101, 102, 103, 104, 105, 106, 107, 108, 109, 110, 111, 112, 113, 114, 115, 116, 117, 118, 119, 120, 121, 122, 123, 124, 125, 126]
theorem so_s1 : Str.ofString " !\"#$&'()*+,-./0123456789:;<=>?@ABCDEFGHIJKLMNOPQRSTUVWXYZ[\\]^_`abcdefghijklmnopqrstuvwxyz{|}~" = mkS signs1 := by decide +kernel
theorem so_nil : Str.ofString "" = mkS [] := by decide +kernel
def Pr (l : List Nat) : Prop := ∀ c ∈ l, 32 ≤ c ∧ c ≤ 126
theorem pr_s1 : Pr signs1 := by unfold Pr; decide +kernel
/-- one sign of a text -/
theorem at_mkS (l : List Nat) (r : Int) (h0 : 0 ≤ r) (h1 : r < l.length) (hp : Pr l) : ∃ c, atI (mkS l).cps.toList r = some c ∧ 32 ≤ c ∧ c ≤ 126 := by
  obtain ⟨n, rfl⟩ : ∃ n : Nat, r = n := ⟨r.toNat, by omega⟩
  have hn : n < l.length := by omega
  have e : (mkS l).cps.toList[n]? = some l[n] := List.getElem?_eq_getElem hn
  exact ⟨l[n], atI_of e, hp _ (List.getElem_mem hn)⟩
/-- an item of a list -/
theorem at_lst {α : Type} (l : List α) (r : Int) (h0 : 0 ≤ r) (h1 : r < l.length) : ∃ c, c ∈ l ∧ atI l r = some c := by
  obtain ⟨n, rfl⟩ : ∃ n : Nat, r = n := ⟨r.toNat, by omega⟩
  have hn : n < l.length := by omega
  exact ⟨l[n], List.getElem_mem hn, atI_of (List.getElem?_eq_getElem hn)⟩
theorem flat_ones (ys : List D) (h : ∀ y ∈ ys, ∃ c, y = .str (mkS [c]) ∧ 32 ≤ c ∧ c ≤ 126) : ∃ l : List Nat, l.length = ys.length ∧ Pr l ∧ ys = (l.map fun c => [c]).map fun x => D.str (mkS x) := by
  induction ys with
  | nil => exact ⟨[], rfl, fun _ h => absurd h List.not_mem_nil, rfl⟩
  | cons y r ih =>
    obtain ⟨l, h1, h2, h3⟩ := ih fun z hz => h z (List.mem_cons_of_mem _ hz)
    obtain ⟨c, rfl, hc⟩ := h y (List.mem_cons_self ..)
    refine ⟨c :: l, by simp [h1], fun d hd => ?_, by rw [h3]; rfl⟩
    rcases List.mem_cons.mp hd with rfl | hd
    · exact hc
    · exact h2 d hd
theorem flat_sing (l : List Nat) : (l.map fun c => [c]).flatten = l := by
  induction l with
  | nil => rfl
  | cons a r ih => simp [ih]
theorem sum_ones (l : List Nat) : (((l.map fun c => [c]).map mkS).map (·.length)).sum = l.length := by
  induction l with
  | nil => rfl
  | cons a r ih =>
    simp only [List.map_cons, List.sum_cons, List.length_cons, len_mkS] at ih ⊢
    rw [ih]; simp; omega
/-- a text again and again, cut -/
theorem rep_cut {l : List Nat} (n : Nat) (h : 0 < l.length) : ((List.replicate n l).flatten.take n).length = n := by
  rw [List.length_take, List.length_flatten, List.map_replicate, List.sum_replicate_nat]
  have : n ≤ n * l.length := Nat.le_mul_of_pos_right _ h
  omega
theorem rep_pr {l : List Nat} (n : Nat) (h : Pr l) : Pr ((List.replicate n l).flatten) := fun c hc => by
  rw [List.mem_flatten] at hc
  obtain ⟨z, hz, hc⟩ := hc
  rw [List.mem_replicate] at hz
  exact h c (hz.2 ▸ hc)
theorem find_dg (c : Nat) : Txt.find (mkS [48, 49, 50, 51, 52, 53, 54, 55, 56, 57]) (mkS [c]) = if isDig c then (c : Int) - 48 else -1 := by
  have all : ∀ r : Fin 10, Txt.find (mkS [48, 49, 50, 51, 52, 53, 54, 55, 56, 57]) (mkS [48 + r.val]) = (r.val : Int) := by decide +kernel
  by_cases h : isDig c = true
  · rw [if_pos h]
    unfold isDig at h
    rw [Bool.and_eq_true, decide_eq_true_eq, decide_eq_true_eq] at h
    have := all ⟨c - 48, by omega⟩
    rw [show 48 + (⟨c - 48, by omega⟩ : Fin 10).val = c by simp; omega] at this
    rw [this]
    simp; omega
  · rw [if_neg h]
    have hf := StrLaws.found_one (mkS [48, 49, 50, 51, 52, 53, 54, 55, 56, 57]) c
    have hn : c ∉ (mkS [48, 49, 50, 51, 52, 53, 54, 55, 56, 57]).cps.toList := by
      intro q
      refine h ?_
      show isDig c = true
      have q : c ∈ [48, 49, 50, 51, 52, 53, 54, 55, 56, 57] := q
      simp only [List.mem_cons, List.not_mem_nil, or_false] at q
      unfold isDig
      rw [Bool.and_eq_true, decide_eq_true_eq, decide_eq_true_eq]
      omega
    rw [decide_eq_false hn] at hf
    unfold Txt.find
    show (match Builtin.Str.occurrences (mkS [48, 49, 50, 51, 52, 53, 54, 55, 56, 57]) ⟨#[c]⟩ 0 (mkS [48, 49, 50, 51, 52, 53, 54, 55, 56, 57]).length 1 with | i :: _ => (i : Int) | [] => -1) = -1
    cases q : Builtin.Str.occurrences (mkS [48, 49, 50, 51, 52, 53, 54, 55, 56, 57]) ⟨#[c]⟩ 0 (mkS [48, 49, 50, 51, 52, 53, 54, 55, 56, 57]).length 1 with
    | nil => rfl
    | cons i r => rw [q] at hf; cases hf
theorem so_dg : Str.ofString "0123456789" = mkS [48, 49, 50, 51, 52, 53, 54, 55, 56, 57] := by decide +kernel
theorem at_dg (r : Nat) (h : r < 10) : atI (mkS [48, 49, 50, 51, 52, 53, 54, 55, 56, 57]).cps.toList (r : Int) = some (48 + r) := by
  have : ∀ r : Fin 10, atI (mkS [48, 49, 50, 51, 52, 53, 54, 55, 56, 57]).cps.toList ((r : Nat) : Int) = some (48 + r.val) := by decide +kernel
  exact this ⟨r, h⟩
theorem digs_cons : ∀ (j x : Nat), digs (j + 1) x = (48 + x / 10 ^ j % 10) :: digs j x
  | 0, x => by simp [digs]
  | j + 1, x => by
    rw [digs, digs_cons j (x / 10), digs, Nat.div_div_eq_div_mul, Nat.pow_succ', List.cons_append]
theorem cut_len (s : Str) (lo hi : Option Int) : (cutS s lo hi).length ≤ s.length := by
  unfold cutS
  show (List.toArray _).size ≤ _
  rw [List.size_toArray, List.length_take, List.length_drop]
  have := len_tl' s
  have e : s.cps.toList.length = s.length := this.symm
  omega
theorem ix_all {L : List D} {r : Int} {P : D → Prop} (h0 : 0 ≤ r) (h1 : r < L.length) (h : ∀ z ∈ L, P z) : ∃ z, atI L r = some z ∧ P z := by
  obtain ⟨z, hz, e⟩ := at_lst L r h0 h1
  exact ⟨z, e, h z hz⟩
theorem digs_val : ∀ (k n : Nat), n < 10 ^ k → NumText.digitsVal (digs k n) = n
  | 0, n, h => by simp [digs, NumText.digitsVal]; simp at h; exact h.symm
  | k + 1, n, h => by
    have ih := digs_val k (n / 10) (by rw [Nat.div_lt_iff_lt_mul (by decide)]; rw [Nat.pow_succ] at h; exact h)
    unfold NumText.digitsVal at ih ⊢
    rw [digs, List.foldl_append, ih]
    simp; omega
theorem digs_dig : ∀ (k n : Nat), (digs k n).all isDig = true
  | 0, n => rfl
  | k + 1, n => by
    rw [digs, List.all_append, digs_dig k]
    simp [isDig]; omega
theorem numIn_digs {l x y : List Nat} {n a : Nat} (h : l = x ++ (digs 6 n ++ y)) (ha : x.length = a) (hn : n < 1000000) : numIn l a 6 = (n : Int) := by
  subst h ha
  unfold numIn
  rw [List.drop_left, List.take_left' (digs_len 6 n), digs_len, digs_dig, digs_val 6 n (by omega), if_neg (by simp)]
/-- the bound of a script's numbers -/
@[irreducible] def bigB : Nat := 2 ^ 1048576
theorem big_log {n : Nat} (h : n < bigB) : n.log2 < 1048576 := by
  unfold bigB at h
  exact log2_small h (by decide)
theorem bits_big {z : Int} (h : Builtin.Int.intBits z ≤ 1048576) : z.natAbs < bigB := by
  unfold bigB
  by_cases h0 : z = 0
  · subst h0; exact Nat.two_pow_pos _
  · unfold Builtin.Int.intBits at h
    rw [if_neg (by simpa using h0)] at h
    exact (Nat.log2_lt (by omega)).mp (by omega)
theorem mulX_big {i j : Int} (b : Nat) (hi : i.natAbs < bigB) (hj : j.natAbs < 2 ^ b) (hb : 0 < b) (h : b ≤ 50000000) : CMulX i j := by
  unfold CMulX
  have := big_log hi
  have := log2_small hj hb
  omega
/-- eqD with the empty list -/
theorem eqD_nil (ds : List D) : eqD (.lst ds) (.lst []) = ds.isEmpty := by
  unfold eqD
  cases ds <;> simp [D.py, pys, PyData.eqv, PyData.eqvAll]
theorem dNe_nil {ds : List D} {Q : D → Prop} (g : goods 63 ds = true) (h : Q (.bl (!ds.isEmpty))) : dNe (.lst ds) (.lst []) Q := by
  have key : dNeN (.lst ds) (.lst []) Q := ⟨by simpa [D.good] using g, by simp [D.good, goods], by rw [eqD_nil]; exact h⟩
  unfold dNe
  exact key
theorem goods_strs {l : List Nat} (h : Pr l) : goods 63 (l.map fun c => D.str (mkS [c])) = true := by
  induction l with
  | nil => rfl
  | cons a r ih =>
    have ha := h a (List.mem_cons_self ..)
    simp only [List.map_cons, goods, D.good, Bool.and_eq_true]
    refine ⟨?_, ih fun c hc => h c (List.mem_cons_of_mem _ hc)⟩
    unfold PyData.strOk mkS
    simp; omega
theorem inS_one (c : Nat) (s : Str) : inS (mkS [c]) s = decide (c ∈ tl s) := StrLaws.found_one s c
theorem pr_lower {l : List Nat} (h : Pr l) : ∃ l', Txt.lower (mkS l) = mkS l' ∧ Pr l' ∧ l'.length = l.length := by
  refine ⟨l.map PyProof.Rows.lo1, ?_, fun c hc => ?_, by simp⟩
  · rw [PyProof.Rows.lower_ascii (fun c hc => by have := h c hc; omega)]
    refine str_eq ?_
    show (Array.map _ _).toList = _
    rw [Array.toList_map]; rfl
  · rw [List.mem_map] at hc
    obtain ⟨d, hd, rfl⟩ := hc
    have := h d hd
    unfold PyProof.Rows.lo1
    split <;> omega
theorem numL_ge (n : Nat) : ∀ c ∈ numL n, 48 ≤ c := by
  induction n using Nat.strongRecOn with
  | _ n ih =>
    by_cases h : n < 10
    · rw [numL_lt h]; intro c hc; simp at hc; omega
    · rw [numL_step (by omega : 10 ≤ n)]
      intro c hc
      rcases List.mem_append.mp hc with hc | hc
      · exact ih (n / 10) (by omega) c hc
      · simp at hc; omega
theorem zfill_tl (n k : Nat) (hk : 0 < k) (h : n < 10 ^ k) : Txt.zfill (toString ((n : Nat) : Int) : String) (k : Int) = mkS (digs k n) := by
  rw [← rjust_tl n k hk h]
  unfold Txt.zfill Txt.rjustF
  split
  · rfl
  · unfold zfilled
    split
    · rename_i hc
      have : 43 ∈ numL n := by
        rw [← tl_num n]
        exact Array.mem_toList_iff.mpr (Array.mem_of_getElem? hc)
      have := numL_ge n _ this
      omega
    · rename_i hc
      have : 45 ∈ numL n := by
        rw [← tl_num n]
        exact Array.mem_toList_iff.mpr (Array.mem_of_getElem? hc)
      have := numL_ge n _ this
      omega
    · rw [Int.toNat_natCast]
theorem big_pos : 0 < bigB := by unfold bigB; exact Nat.two_pow_pos _
theorem mod61 (X : Int) : (X % 2305843009213693951).natAbs < 2 ^ 61 := by omega
theorem mod61d (X d : Int) (hd : 0 < d) : (X % 2305843009213693951 / d).natAbs < 2 ^ 61 := by
  have h0 : 0 ≤ X % 2305843009213693951 := by omega
  have h1 := Int.ediv_le_self d h0
  have h2 := Int.ediv_nonneg h0 (by omega : 0 ≤ d)
  omega
theorem dLc_mapF {α : Type} {fi : TID} {fe : TD} {i : Nat} {ρ : G.Env} {W : Wd} {Q : KL} {Qx : KX} (xs : List α) (f g : α → D) (hno : noOwn ρ [i]) (hl : xs.length ≤ sizeLine) (hi : ∀ P : KL, P (xs.map f) ρ W → fi ρ W P Qx)
    (he : ∀ x ∈ xs, ∀ P : KD, P (g x) ((ρ.set i none).set i (some (.sh (f x)))) W → fe ((ρ.set i none).set i (some (.sh (f x)))) W P noX) (hq : Q (xs.map g) ρ W) : dLc fi (gdName i) dYes fe [i] ρ W Q Qx := by
  refine dLc_inv (xs.map f) W (fun j acc W' => W' = W ∧ acc = (xs.take j).map g) hno (by rw [List.length_map]; exact hl) hi ⟨rfl, by simp⟩ (fun j d acc W' hj _ hI => ?_) (fun acc W' _ hI => ?_)
  · obtain ⟨rfl, rfl⟩ := hI
    rw [List.getElem?_map] at hj
    cases hx : xs[j]? with
    | none => rw [hx] at hj; cases hj
    | some x =>
      rw [hx] at hj; cases hj
      refine ⟨rfl, ?_⟩
      show fe _ W' _ noX
      refine he x (List.mem_of_getElem? hx) _ ⟨rfl, rfl, ?_⟩
      rw [List.take_add_one, hx]
      simp
  · obtain ⟨rfl, rfl⟩ := hI
    rw [List.length_map, List.take_length]
    exact hq
/-- .. the items pairs -/
theorem dLc_map2 {α : Type} {fi : TID} {fe : TD} {i j : Nat} {ρ : G.Env} {W : Wd} {Q : KL} {Qx : KX} (xs : List α) (f1 f2 g : α → D) (hno : noOwn ρ [i, j]) (hl : xs.length ≤ sizeLine) (hi : ∀ P : KL, P (xs.map fun x => .tup [f1 x, f2 x]) ρ W → fi ρ W P Qx)
    (he : ∀ x ∈ xs, ∀ P : KD, P (g x) ((((ρ.set j none).set i none).set i (some (.sh (f1 x)))).set j (some (.sh (f2 x)))) W → fe ((((ρ.set j none).set i none).set i (some (.sh (f1 x)))).set j (some (.sh (f2 x)))) W P noX) (hq : Q (xs.map g) ρ W) :
    dLc fi (gdTup 2 (gdCons (gdName i) (gdCons (gdName j) gdNil))) dYes fe [i, j] ρ W Q Qx := by
  refine dLc_inv (xs.map fun x => .tup [f1 x, f2 x]) W (fun j acc W' => W' = W ∧ acc = (xs.take j).map g) hno (by rw [List.length_map]; exact hl) hi ⟨rfl, by simp⟩ (fun n d acc W' hj _ hI => ?_) (fun acc W' _ hI => ?_)
  · obtain ⟨rfl, rfl⟩ := hI
    rw [List.getElem?_map] at hj
    cases hx : xs[n]? with
    | none => rw [hx] at hj; cases hj
    | some x =>
      rw [hx] at hj; cases hj
      refine ⟨rfl, rfl, ?_⟩
      show fe _ W' _ noX
      refine he x (List.mem_of_getElem? hx) _ ⟨rfl, rfl, ?_⟩
      rw [List.take_add_one, hx]
      simp
  · obtain ⟨rfl, rfl⟩ := hI
    rw [List.length_map, List.take_length]
    exact hq
theorem sum_le {l : List Nat} {B : Nat} (h : ∀ x ∈ l, x ≤ B) : l.sum ≤ l.length * B := by
  induction l with
  | nil => simp
  | cons a r ih =>
    have h1 := h a (List.mem_cons_self ..)
    have h2 := ih fun x hx => h x (List.mem_cons_of_mem _ hx)
    rw [List.sum_cons, List.length_cons, Nat.add_mul]
    omega
theorem flat_len {ys : List (List Nat)} {n B : Nat} (hn : ys.length ≤ n) (hB : ∀ y ∈ ys, y.length ≤ B) : ys.flatten.length ≤ n * B := by
  rw [List.length_flatten]
  have := sum_le (l := ys.map List.length) (B := B) (fun x hx => by
    rw [List.mem_map] at hx
    obtain ⟨y, hy, rfl⟩ := hx
    exact hB y hy)
  rw [List.length_map] at this
  exact Nat.le_trans this (Nat.mul_le_mul_right _ hn)
theorem dJoin_mkS {ys : List (List Nat)} {n B : Nat} {Q : D → Prop} (hn : ys.length ≤ n) (hB : ∀ y ∈ ys, y.length ≤ B) (hs : n * B ≤ 16777216) (h : Q (.str (mkS ys.flatten))) : dJoin (.str (mkS [])) [.lst (ys.map fun x => .str (mkS x))] Q := by
  refine ⟨ys.map mkS, ?_, ?_, ?_⟩
  · have := strsOf_map (ys.map mkS)
    rw [List.map_map] at this
    exact this
  · have e : (ys.map mkS).map (·.length) = ys.map List.length := by
      rw [List.map_map]
      exact List.map_congr_left fun y _ => len_mkS y
    have := flat_len hn hB
    rw [List.length_flatten] at this
    rw [e, len_mkS, List.length_nil, Nat.mul_zero]
    omega
  · rw [join_mkS]; exact h
theorem str_small {n : Nat} (h : n < 10) : (Str.ofString (toString ((n : Nat) : Int))) = mkS (digs 1 n) := by
  refine str_eq ?_
  rw [tl_num, numL_lt h, digs, digs]
  simp [Nat.mod_eq_of_lt h]
theorem join_parts {ys : List (List Nat)} {n B : Nat} (hn : ys.length ≤ n) (hB : ∀ y ∈ ys, y.length ≤ B) (hs : n * B ≤ 16777216) : strsOf (ys.map fun x => .str (mkS x)) = some (ys.map mkS) ∧ ((ys.map mkS).map (·.length)).sum + (ys.map mkS).length * (mkS []).length ≤ 16777216 := by
  refine ⟨?_, ?_⟩
  · have := strsOf_map (ys.map mkS)
    rw [List.map_map] at this
    exact this
  · have e : (ys.map mkS).map (·.length) = ys.map List.length := by
      rw [List.map_map]
      exact List.map_congr_left fun y _ => len_mkS y
    have := flat_len hn hB
    rw [List.length_flatten] at this
    rw [e, len_mkS, List.length_nil, Nat.mul_zero]
    omega
theorem dLc_filtF {α : Type} {fi : TID} {ft : TB} {fe : TD} {i : Nat} {ρ : G.Env} {W : Wd} {Q : KL} {Qx : KX} (xs : List α) (f g : α → D) (p : α → Bool) (hno : noOwn ρ [i]) (hl : xs.length ≤ sizeLine) (hi : ∀ P : KL, P (xs.map f) ρ W → fi ρ W P Qx)
    (ht : ∀ x ∈ xs, ∀ P : KB, P (p x) ((ρ.set i none).set i (some (.sh (f x)))) W → ft ((ρ.set i none).set i (some (.sh (f x)))) W P noX)
    (he : ∀ x ∈ xs, p x = true → ∀ P : KD, P (g x) ((ρ.set i none).set i (some (.sh (f x)))) W → fe ((ρ.set i none).set i (some (.sh (f x)))) W P noX) (hq : Q ((xs.filter p).map g) ρ W) : dLc fi (gdName i) ft fe [i] ρ W Q Qx := by
  refine dLc_inv (xs.map f) W (fun j acc W' => W' = W ∧ acc = ((xs.take j).filter p).map g) hno (by rw [List.length_map]; exact hl) hi ⟨rfl, by simp⟩ (fun j d acc W' hj _ hI => ?_) (fun acc W' _ hI => ?_)
  · obtain ⟨rfl, rfl⟩ := hI
    rw [List.getElem?_map] at hj
    cases hx : xs[j]? with
    | none => rw [hx] at hj; cases hj
    | some x =>
      rw [hx] at hj; cases hj
      refine ht x (List.mem_of_getElem? hx) _ ⟨rfl, ?_⟩
      cases hp : p x with
      | true =>
        rw [if_pos rfl]
        refine he x (List.mem_of_getElem? hx) hp _ ⟨rfl, rfl, ?_⟩
        rw [List.take_add_one, hx]
        simp [hp]
      | false =>
        rw [if_neg Bool.false_ne_true]
        refine ⟨rfl, ?_⟩
        rw [List.take_add_one, hx]
        simp [hp]
  · obtain ⟨rfl, rfl⟩ := hI
    rw [List.length_map, List.take_length]
    exact hq
theorem dNe_str {a b : Str} {Q : D → Prop} (h : Q (.bl (!decide (a = b)))) : dNe (.str a) (.str b) Q := by
  have : decide (V.str a = V.str b) = decide (a = b) := by
    rw [Bool.eq_iff_iff, decide_eq_true_eq, decide_eq_true_eq]
    exact ⟨fun h => by injection h, fun h => by rw [h]⟩
  unfold dNe
  show (if scal _ _ = true then _ else _)
  rw [if_pos (rfl : scal _ _ = true), this]
  exact h
theorem dNe_int {a b : Int} {Q : D → Prop} (h : Q (.bl (!decide (a = b)))) : dNe (.int a) (.int b) Q := by
  have : decide (V.int a = V.int b) = decide (a = b) := by
    rw [Bool.eq_iff_iff, decide_eq_true_eq, decide_eq_true_eq]
    exact ⟨fun h => by injection h, fun h => by rw [h]⟩
  unfold dNe
  show (if scal _ _ = true then _ else _)
  rw [if_pos (rfl : scal _ _ = true), this]
  exact h
theorem dNe_bl {a b : Bool} {Q : D → Prop} (h : Q (.bl (!decide (a = b)))) : dNe (.bl a) (.bl b) Q := by
  have : decide (V.bl a = V.bl b) = decide (a = b) := by
    rw [Bool.eq_iff_iff, decide_eq_true_eq, decide_eq_true_eq]
    exact ⟨fun h => by injection h, fun h => by rw [h]⟩
  unfold dNe
  show (if scal _ _ = true then _ else _)
  rw [if_pos (rfl : scal _ _ = true), this]
  exact h
theorem dEq_bl {a b : Bool} {Q : D → Prop} (h : Q (.bl (decide (a = b)))) : dEq (.bl a) (.bl b) Q := by
  have : decide (V.bl a = V.bl b) = decide (a = b) := by
    rw [Bool.eq_iff_iff, decide_eq_true_eq, decide_eq_true_eq]
    exact ⟨fun h => by injection h, fun h => by rw [h]⟩
  unfold dEq
  show (if scal _ _ = true then _ else _)
  rw [if_pos (rfl : scal _ _ = true), this]
  exact h
/-- the items known by B alone: a comprehension over each such list -/
theorem dLc_of {fi : TID} {gd : TGD} {ft : TB} {fe : TD} {vs : List Nat} {ρ : G.Env} {W : Wd} {Q : KL} {Qx : KX} (B : List D → Prop) (hno : noOwn ρ vs) (hi : ∀ P : KL, (∀ ds, B ds → P ds ρ W) → fi ρ W P Qx)
    (h : ∀ ds, B ds → dLc (fun ρ W P _ => P ds ρ W) gd ft fe vs ρ W Q Qx) : dLc fi gd ft fe vs ρ W Q Qx := by
  unfold dLc
  refine ⟨hno, hi _ fun ds b => ?_⟩
  have := h ds b
  unfold dLc at this
  exact this.2
end C

/-! the plain law of conditions: values, names, conditions, truths -/
namespace Q
open PySem PySem.Spec L2 G TL C
theorem hno {A B : Prop} (q : B) : (if (!true) = true then A else B) := by rw [if_neg (by decide)]; exact q
/-- any plain data of some depth and weight -/
abbrev NV (d : D) : Prop := Nice 50 1000000 d
/-- .. or an empty dict -/
def AnyD (d : D) : Prop := NV d ∨ d = .dct [] []
theorem nv_cases {n B : Nat} {d : D} (h : Nice n B d) : d = .non ∨ (∃ b, d = .bl b) ∨ (∃ i, d = .int i) ∨ (∃ s, d = .str s) ∨ (∃ ds, d = .tup ds) ∨ ∃ ds, d = .lst ds := by
  have g := h.good
  have k := h.ok
  cases d with
  | v x =>
    cases x with
    | non => exact .inl rfl
    | bl b => exact .inr (.inl ⟨b, rfl⟩)
    | int b => exact .inr (.inr (.inl ⟨b, rfl⟩))
    | str b => exact .inr (.inr (.inr (.inl ⟨b, rfl⟩)))
    | _ => cases n <;> simp [D.good] at g
  | tup ds => exact .inr (.inr (.inr (.inr (.inl ⟨ds, rfl⟩))))
  | lst ds => exact .inr (.inr (.inr (.inr (.inr ⟨ds, rfl⟩))))
  | scr ns => simp [iOk] at k
  | _ => cases n <;> simp [D.good] at g
theorem any_cases {d : D} (h : AnyD d) : d = .non ∨ (∃ b, d = .bl b) ∨ (∃ i, d = .int i) ∨ (∃ s, d = .str s ∧ s.length ≤ 1000000) ∨ (∃ ds, d = .tup ds) ∨ (∃ ds, d = .lst ds) ∨ d = .dct [] [] := by
  rcases h with h | rfl
  · rcases nv_cases h with h' | h' | h' | ⟨s, rfl⟩ | h' | h'
    · exact .inl h'
    · exact .inr (.inl h')
    · exact .inr (.inr (.inl h'))
    · exact .inr (.inr (.inr (.inl ⟨s, rfl, h.slen⟩)))
    · exact .inr (.inr (.inr (.inr (.inl h'))))
    · exact .inr (.inr (.inr (.inr (.inr (.inl h')))))
  · exact .inr (.inr (.inr (.inr (.inr (.inr rfl)))))
def isIntD : D → Bool
  | .v (.int _) => true
  | _ => false
def isBlD : D → Bool
  | .v (.bl _) => true
  | _ => false
def isStrD : D → Bool
  | .v (.str _) => true
  | _ => false
def isTupD : D → Bool
  | .tup _ => true
  | _ => false
def isLstD : D → Bool
  | .lst _ => true
  | _ => false
def textB (l : List Nat) : Bool := l.all fun c => decide (32 ≤ c) && decide (c ≤ 126)
def isTextD : D → Bool
  | .v (.str s) => textB (tl s)
  | _ => false
def isVal : D → Bool
  | .v .non => true
  | .v (.bl _) => true
  | .v (.int i) => decide (i.natAbs ≤ 999999999999999999999999999999)
  | .v (.str s) => textB (tl s) && decide (s.length ≤ 200)
  | _ => false
def letters : List Nat := [97, 98, 99, 100, 101, 102, 103, 104, 105, 106, 107, 108, 109, 110, 111, 112, 113, 114, 115, 116, 117, 118, 119, 120, 121, 122]
theorem so_letters : Str.ofString "abcdefghijklmnopqrstuvwxyz" = mkS letters := by decide +kernel
def nameB (l : List Nat) : Bool := decide (1 ≤ l.length) && decide (l.length ≤ 8) && l.all fun c => decide (c ∈ letters)
def isNameD : D → Bool
  | .v (.str s) => nameB (tl s)
  | _ => false
def strOf : D → Str
  | .v (.str s) => s
  | _ => mkS []
def areNamesD : D → Bool
  | .tup ds => ds.all isNameD && decide (ds.map strOf).Nodup
  | _ => false
def colsOf : D → List Str
  | .tup ds => ds.map strOf
  | _ => []
def inCols (cols : List Str) : D → Bool
  | .v (.str s) => decide (s ∈ cols)
  | _ => false
def wAnd : Str := Str.ofString "and"
def wOr : Str := Str.ofString "or"
def wNot : Str := Str.ofString "not"
def wNone : Str := Str.ofString "none"
def wIs : Str := Str.ofString "is"
def wLess : Str := Str.ofString "less"
def wMost : Str := Str.ofString "most"
def leafB (cols : List Str) (a b : D) (r : List D) : Bool :=
  inCols cols b && (if D.isV a (.str wNone) then r.isEmpty else (D.isV a (.str wIs) || D.isV a (.str wLess) || D.isV a (.str wMost)) && match r with | [c] => isVal c | _ => false)
/-- a condition over columns, nested at most so deep -/
def isCond (cols : List Str) : Nat → D → Bool
  | 0, _ => false
  | n + 1, d => match d with
    | .tup (a :: b :: r) =>
      if D.isV a (.str wAnd) || D.isV a (.str wOr) then (match r with | [c] => isCond cols n b && isCond cols n c | _ => false)
      else if D.isV a (.str wNot) then r.isEmpty && isCond cols n b
      else leafB cols a b r
    | _ => false
inductive Cd
  | non (j : Nat)
  | cmp (w : Nat) (j : Nat) (v : D)
  | neg (c : Cd)
  | two (o : Bool) (c e : Cd)
def wd : Nat → Str
  | 0 => wIs
  | 1 => wLess
  | _ => wMost
def cdD (cols : List Str) : Cd → D
  | .non j => .tup [.str wNone, .str (cols.getD j (mkS []))]
  | .cmp w j v => .tup [.str (wd w), .str (cols.getD j (mkS [])), v]
  | .neg c => .tup [.str wNot, cdD cols c]
  | .two o c e => .tup [.str (if o then wOr else wAnd), cdD cols c, cdD cols e]
def CdOk (k : Nat) : Nat → Cd → Prop
  | _, .non j => j < k
  | _, .cmp w j v => w ≤ 2 ∧ j < k ∧ isVal v = true
  | n + 1, .neg c => CdOk k n c
  | n + 1, .two _ c e => CdOk k n c ∧ CdOk k n e
  | 0, .neg _ => False
  | 0, .two _ _ _ => False
def kindOf : D → String
  | .v .non => "none"
  | .v (.bl _) => "truth"
  | .v (.int _) => "int"
  | _ => "text"
def ltV : D → D → Bool
  | .v (.bl a), .v (.bl b) => !a && b
  | .v (.int a), .v (.int b) => decide (a < b)
  | .v (.str a), .v (.str b) => ltS a b
  | _, _ => false
def eqV' : D → D → Bool
  | .v x, .v y => decide (x = y)
  | _, _ => false
def cmpB : Nat → D → D → Bool
  | 0, x, v => eqV' x v
  | 1, x, v => ltV x v
  | _, x, v => ltV x v || eqV' x v
/-- true, false, unknown -/
def ev (row : List D) : Cd → Option Bool
  | .non j => some (D.isV (row.getD j .non) .non)
  | .cmp w j v => if D.isV (row.getD j .non) .non || decide (kindOf (row.getD j .non) ≠ kindOf v) then none else some (cmpB w (row.getD j .non) v)
  | .neg c => (ev row c).map not
  | .two o c e => if ev row c = some o ∨ ev row e = some o then some o else if ev row c = none ∨ ev row e = none then none else some (!o)
def tri : Option Bool → D
  | none => .non
  | some b => .bl b
/-! ### what is eaten by == and in -/
theorem good62 {d : D} (h : NV d) : D.good 62 d = true := good_up (by decide) h.good
theorem eqD_str {d : D} (h : NV d) (s : Str) : eqD (.str s) d = D.isV d (.str s) := by
  rcases nv_cases h with rfl | ⟨_, rfl⟩ | ⟨_, rfl⟩ | ⟨t, rfl⟩ | ⟨xs, rfl⟩ | ⟨xs, rfl⟩
  · simp [eqD, D.py, PyData.eqv, D.isV]
  · simp [eqD, D.py, PyData.eqv, D.isV]
  · simp [eqD, D.py, PyData.eqv, D.isV]
  · simp only [eqD, D.py, PyData.eqv, D.isV]
    rw [Bool.eq_iff_iff, decide_eq_true_eq, beq_iff_eq]
    constructor
    · intro h; rw [h]
    · intro h; cases h; rfl
  · simp [eqD, D.py, PyData.eqv, D.isV]
  · simp [eqD, D.py, PyData.eqv, D.isV]
theorem good_str {s : Str} (hs : PyData.strOk s = true) (n : Nat) : D.good n (.str s) = true := by rw [D.good]; exact hs
theorem in_strs {d : D} (h : NV d) {ss : List Str} (hs : ∀ s ∈ ss, PyData.strOk s = true) {neg : Bool} {P : D → Prop} (q : P (.bl (if neg then !ss.any fun s => D.isV d (.str s) else ss.any fun s => D.isV d (.str s)))) : dInB neg d (.tup (ss.map D.str)) P := by
  refine .inr ⟨ss.map D.str, .inr rfl, good62 h, ?_, ?_⟩
  · rw [goods_all, List.all_eq_true]
    intro x hx
    rw [List.mem_map] at hx
    obtain ⟨s, m, rfl⟩ := hx
    exact good_str (hs s m) 62
  · have e : ((ss.map D.str).any fun z => eqD z d) = ss.any fun s => D.isV d (.str s) := by
      rw [List.any_map]
      congr 1
      funext s
      exact eqD_str h s
    rw [e]; exact q
theorem eq_strV {s : Str} (hs : PyData.strOk s = true) {d : D} (h : NV d) {P : D → Prop} (q : P (.bl (D.isV d (.str s)))) : dEq d (.str s) P := by
  have gd := good_up (m := 64) (by decide) h.good
  have gs := good_str hs 64
  unfold dEq
  rcases nv_cases h with rfl | ⟨_, rfl⟩ | ⟨_, rfl⟩ | ⟨t, rfl⟩ | ⟨xs, rfl⟩ | ⟨xs, rfl⟩
  · exact q
  · exact q
  · exact q
  · exact q
  · exact ⟨gd, gs, by have : eqD (.tup xs) (.v (.str s)) = false := (by simp [eqD, D.py, PyData.eqv]); rw [this]; exact q⟩
  · exact ⟨gd, gs, by have : eqD (.lst xs) (.v (.str s)) = false := (by simp [eqD, D.py, PyData.eqv]); rw [this]; exact q⟩
theorem inCols_any {d : D} (cols : List Str) : (cols.any fun s => D.isV d (.str s)) = inCols cols d := by
  cases d with
  | v x =>
    cases x with
    | str t =>
      show _ = decide (t ∈ cols)
      rw [Bool.eq_iff_iff, List.any_eq_true, decide_eq_true_eq]
      constructor
      · rintro ⟨s, hs, e⟩
        have : t = s := by simpa [D.isV] using e
        rw [this]; exact hs
      · exact fun h => ⟨t, h, by simp [D.isV]⟩
    | _ => show _ = false; rw [List.any_eq_false]; intro s _; simp [D.isV]
  | _ => show _ = false; rw [List.any_eq_false]; intro s _; simp [D.isV]
theorem nv_item {ds : List D} {d : D} (h : NV (.tup ds)) (hd : d ∈ ds) : NV d := (h.untup.mem hd).up (by decide) (Nat.le_refl _)
theorem nv_litem {ds : List D} {d : D} (h : NV (.lst ds)) (hd : d ∈ ds) : NV d := (h.unlst.mem hd).up (by decide) (Nat.le_refl _)
theorem nv_len {ds : List D} (h : NV (.tup ds)) : ds.length ≤ 500000 := by have := h.untup.len; omega
theorem ok_and : PyData.strOk wAnd = true := by decide +kernel
theorem ok_or : PyData.strOk wOr = true := by decide +kernel
theorem ok_not : PyData.strOk wNot = true := by decide +kernel
theorem ok_none : PyData.strOk wNone = true := by decide +kernel
theorem ok_is : PyData.strOk wIs = true := by decide +kernel
theorem ok_less : PyData.strOk wLess = true := by decide +kernel
theorem ok_most : PyData.strOk wMost = true := by decide +kernel
/-! ### a condition is what cdD shows -/
theorem isV_str {d : D} {s : Str} (h : D.isV d (.str s) = true) : d = .str s := by
  unfold D.isV at h
  split at h
  · have := of_decide_eq_true h
    rw [this]
  · cases h
theorem cond_cd {cols : List Str} : ∀ (n : Nat) (d : D), isCond cols n d = true → ∃ c, d = cdD cols c ∧ CdOk cols.length n c
  | 0, d, h => by unfold isCond at h; cases h
  | n + 1, d, h => by
    unfold isCond at h
    split at h
    · rename_i a b r
      split at h
      · rename_i hw
        rw [Bool.or_eq_true] at hw
        split at h
        · rename_i c
          rw [Bool.and_eq_true] at h
          obtain ⟨x, rfl, hx⟩ := cond_cd n b h.1
          obtain ⟨y, rfl, hy⟩ := cond_cd n c h.2
          rcases hw with hw | hw
          · have := isV_str hw; subst this
            exact ⟨.two false x y, rfl, hx, hy⟩
          · have := isV_str hw; subst this
            exact ⟨.two true x y, rfl, hx, hy⟩
        · cases h
      split at h
      · rename_i hw
        have := isV_str hw; subst this
        rw [Bool.and_eq_true, List.isEmpty_iff] at h
        obtain ⟨rfl, h⟩ := h
        obtain ⟨x, rfl, hx⟩ := cond_cd n b h
        exact ⟨.neg x, rfl, hx⟩
      · unfold leafB at h
        rw [Bool.and_eq_true] at h
        obtain ⟨hb, h⟩ := h
        obtain ⟨s, rfl, hs⟩ : ∃ s, b = .str s ∧ s ∈ cols := by
          cases b with
          | v x =>
            cases x with
            | str s => exact ⟨s, rfl, of_decide_eq_true hb⟩
            | _ => exact absurd hb (by simp [inCols])
          | _ => exact absurd hb (by simp [inCols])
        obtain ⟨j, hj, rfl⟩ := List.getElem_of_mem hs
        have ej : cols.getD j (mkS []) = cols[j] := by rw [List.getD_eq_getElem?_getD, List.getElem?_eq_getElem hj]; rfl
        split at h
        · rename_i hw
          have := isV_str hw; subst this
          rw [List.isEmpty_iff] at h
          subst h
          exact ⟨.non j, by rw [cdD, ej], hj⟩
        · rw [Bool.and_eq_true, Bool.or_eq_true, Bool.or_eq_true] at h
          obtain ⟨hw, h⟩ := h
          split at h
          · rename_i v
            rcases hw with (hw | hw) | hw
            · have := isV_str hw; subst this
              exact ⟨.cmp 0 j v, by rw [cdD, ej]; rfl, by omega, hj, h⟩
            · have := isV_str hw; subst this
              exact ⟨.cmp 1 j v, by rw [cdD, ej]; rfl, by omega, hj, h⟩
            · have := isV_str hw; subst this
              exact ⟨.cmp 2 j v, by rw [cdD, ej]; rfl, by omega, hj, h⟩
          · cases h
    · cases h
theorem cd_up {k : Nat} : ∀ {n m : Nat} {c : Cd}, CdOk k n c → n ≤ m → CdOk k m c
  | _, _, .non j, h, _ => by unfold CdOk at h ⊢; exact h
  | _, _, .cmp w j v, h, _ => by unfold CdOk at h ⊢; exact h
  | n + 1, m + 1, .neg c, h, hm => by
    unfold CdOk at h ⊢
    exact cd_up h (by omega)
  | n + 1, m + 1, .two o c e, h, hm => by
    unfold CdOk at h ⊢
    exact ⟨cd_up h.1 (by omega), cd_up h.2 (by omega)⟩
  | 0, _, .neg c, h, _ => by unfold CdOk at h; exact h.elim
  | 0, _, .two o c e, h, _ => by unfold CdOk at h; exact h.elim
  | n + 1, 0, _, h, hm => by omega
end Q

namespace Q
open PySem PySem.Spec L2 G TL C
/-- a source with n draws left at least -/
def SrcOk (W : Wd) (p : Addr) (n : Nat) : Prop := ∃ a b c : Int, W p = some (.lst [.int a, .int b, .int c]) ∧ 0 ≤ a ∧ a.natAbs < bigB ∧ 0 ≤ b ∧ b < 2305843009213693951 ∧ 0 ≤ c ∧ c + n ≤ 1000000
theorem SrcOk.less {W : Wd} {p : Addr} {n m : Nat} (h : SrcOk W p n) (hm : m ≤ n) : SrcOk W p m := by
  obtain ⟨a, b, c, h1, h2, h3, h4, h5, h6, h7⟩ := h
  exact ⟨a, b, c, h1, h2, h3, h4, h5, h6, by omega⟩
def namesD (ls : List (List Nat)) : List D := ls.map fun l => D.str (mkS l)
structure NamesOk (m : Nat) (ls : List (List Nat)) : Prop where
  len : ls.length ≤ m
  nm : ∀ l ∈ ls, nameB l = true
  nd : ls.Nodup
theorem letters_pr : ∀ c ∈ letters, 32 ≤ c ∧ c ≤ 126 := by decide +kernel
theorem name_pr {l : List Nat} (h : nameB l = true) : Pr l := fun c hc => by
  unfold nameB at h
  rw [Bool.and_eq_true, List.all_eq_true] at h
  exact letters_pr c (of_decide_eq_true (h.2 c hc))
theorem name_len {l : List Nat} (h : nameB l = true) : 1 ≤ l.length ∧ l.length ≤ 8 := by
  unfold nameB at h
  rw [Bool.and_eq_true, Bool.and_eq_true] at h
  exact ⟨of_decide_eq_true h.1.1, of_decide_eq_true h.1.2⟩
theorem pr_ok {l : List Nat} (h : Pr l) : PyData.strOk (mkS l) = true := by
  unfold PyData.strOk mkS
  rw [Array.all_eq_true_iff_forall_mem]
  intro c hc
  have := h c (by simpa using hc)
  exact decide_eq_true (by omega)
theorem text_pr {l : List Nat} : textB l = true ↔ Pr l := by
  unfold textB Pr
  rw [List.all_eq_true]
  constructor
  · intro h c hc
    have := h c hc
    rw [Bool.and_eq_true, decide_eq_true_eq, decide_eq_true_eq] at this
    exact this
  · intro h c hc
    have := h c hc
    rw [Bool.and_eq_true, decide_eq_true_eq, decide_eq_true_eq]
    exact this
def kn : Nat → Str
  | 0 => Str.ofString "int"
  | 1 => Str.ofString "text"
  | _ => Str.ofString "truth"
def knS : Nat → String
  | 0 => "int"
  | 1 => "text"
  | _ => "truth"
structure Col where
  nm : List Nat
  kd : Nat
  free : Bool
def colD (c : Col) : D := .tup [.str (mkS c.nm), .str (kn c.kd), .bl c.free]
structure ColsOk (cs : List Col) : Prop where
  ne : cs ≠ []
  len : cs.length ≤ 8
  nm : ∀ c ∈ cs, nameB c.nm = true
  kd : ∀ c ∈ cs, c.kd ≤ 2
theorem val_nice (n : Nat) {d : D} (h : isVal d = true) : Nice n 2010 d := by
  unfold isVal at h
  split at h
  · exact Nice.non (by decide)
  · exact Nice.bl (by decide)
  · rename_i i
    have h1 := of_decide_eq_true h
    have h2 : (999999999999999999999999999999 : Nat) < 2 ^ 100 := by decide
    have h3 : i.natAbs.log2 < 100 := C.log2_small (k := 100) (Nat.lt_of_le_of_lt h1 h2) (by decide)
    exact Nice.int (by omega) (by omega)
  · rename_i s
    rw [Bool.and_eq_true] at h
    have h2 := of_decide_eq_true h.2
    have := pr_ok (text_pr.mp h.1)
    rw [mkS_tl] at this
    exact Nice.str this (by omega)
  · cases h
/-! ### parts of a value by their places -/
def atP : List Nat → D → Option D
  | [], d => some d
  | k :: q, d => match d with
    | .tup ds => (match ds[k]? with | some e => atP q e | none => none)
    | _ => none
def putP : List Nat → D → D → D
  | [], _, new => new
  | k :: q, d, new => match d with
    | .tup ds => .tup (ds.take k ++ [putP q (ds.getD k .non) new] ++ ds.drop (k + 1))
    | d => d
theorem at_tup {k : Nat} {q : List Nat} {d e : D} (h : atP (k :: q) d = some e) : ∃ ds x, d = .tup ds ∧ ds[k]? = some x ∧ atP q x = some e := by
  unfold atP at h
  split at h
  · rename_i ds
    split at h
    · rename_i x hx
      exact ⟨ds, x, rfl, hx, h⟩
    · cases h
  · cases h
theorem at_nice : ∀ {q : List Nat} {n B : Nat} {d e : D}, Nice n B d → atP q d = some e → Nice n B e
  | [], _, _, _, _, h, e => by cases e; exact h
  | k :: q, n, B, d, e, h, he => by
    obtain ⟨ds, x, rfl, hx, h2⟩ := at_tup he
    cases n with
    | zero => have := h.good; simp [D.good] at this
    | succ n => exact at_nice ((h.untup.mem (List.mem_of_getElem? hx)).up (Nat.le_succ n) (Nat.le_refl _)) h2
theorem wts_set {ds : List D} {k : Nat} {x : D} (h : ds[k]? = some x) : wts ds = wts (ds.take k) + (wt x + 2) + wts (ds.drop (k + 1)) := by
  have hk := (List.getElem?_eq_some_iff.mp h)
  obtain ⟨hk, e⟩ := hk
  have e2 : ds = ds.take k ++ (x :: ds.drop (k + 1)) := by
    rw [← e, List.getElem_cons_drop, List.take_append_drop]
  have := congrArg wts e2
  rw [wts_app, wts] at this
  omega
theorem put_nice : ∀ {q : List Nat} {n m C : Nat} {d e new : D}, Nice n (wt d) d → atP q d = some e → Nice m C new → Nice (n + m) (wt d + C) (putP q d new)
  | [], n, m, C, d, e, new, h, he, hn => hn.up (Nat.le_add_left ..) (Nat.le_add_left ..)
  | k :: q, n, m, C, d, e, new, h, he, hn => by
    obtain ⟨ds, x, rfl, hx, h2⟩ := at_tup he
    cases n with
    | zero => have := h.good; simp [D.good] at this
    | succ n =>
      have hL : NiceL n (wts ds) ds := by
        have := h.untup
        exact ⟨this.good, this.ok, Nat.le_refl _⟩
      have hxm := hL.mem (List.mem_of_getElem? hx)
      have hx1 : Nice n (wt x) x := ⟨hxm.good, hxm.ok, Nat.le_refl _⟩
      have ih := put_nice hx1 h2 hn
      have e0 : ds.getD k .non = x := by rw [List.getD_eq_getElem?_getD, hx]; rfl
      have e1 : putP (k :: q) (.tup ds) new = .tup (ds.take k ++ [putP q x new] ++ ds.drop (k + 1)) := by
        rw [putP, e0]
      rw [e1]
      have up : ∀ l : List D, l.Sublist ds → NiceL (n + m) (wts l) l := fun l s => by
        have a := hL.sub s
        exact ⟨goods_up (Nat.le_add_right ..) a.good, a.ok, Nat.le_refl _⟩
      have L := ((up _ (List.take_sublist k ds)).app (NiceL.cons ih (NiceL.nil (B := 0)))).app (up _ (List.drop_sublist (k + 1) ds))
      have := wts_set hx
      refine (Nice.tup L).up (by omega) ?_
      rw [G.wt]
      omega
/-- places of parts -/
structure PlOk (d : D) (qs : List (List Nat)) : Prop where
  ne : qs ≠ []
  ok : ∀ q ∈ qs, ∃ e, atP q d = some e
  le : qs.length ≤ wt d
def pathD (path : List D) (q : List Nat) : D := .tup (path ++ q.map fun k => D.int (k : Nat))
/-- what is no row, or one -/
def RowD (d : D) : Prop := AnyD d ∨ ∃ ds, d = .tup ds ∧ ds.length ≤ 20 ∧ ∀ x ∈ ds, AnyD x
def isRow : D → Bool
  | .tup ds => ds.all isVal
  | _ => false
def lenRow : D → Nat
  | .tup ds => ds.length
  | _ => 0
theorem any_nv {d : D} (h : NV d) : AnyD d := .inl h
theorem val_any {d : D} (h : isVal d = true) : AnyD d := .inl ((val_nice 50 h).up (Nat.le_refl _) (by decide))
section
variable {d : D} {P : D → Prop}
theorem ty_any (h : AnyD d) (c : String) (hc : c = "int" ∨ c = "bool" ∨ c = "str" ∨ c = "tuple" ∨ c = "list") : ∃ t b, tyD d = some t ∧ kitB t c = some b ∧ b = (match c with | "int" => isIntD d || isBlD d | "bool" => isBlD d | "str" => isStrD d | "tuple" => isTupD d | _ => isLstD d) := by
  rcases any_cases h with rfl | ⟨_, rfl⟩ | ⟨_, rfl⟩ | ⟨_, rfl, _⟩ | ⟨_, rfl⟩ | ⟨_, rfl⟩ | rfl <;> rcases hc with rfl | rfl | rfl | rfl | rfl <;> exact ⟨_, _, rfl, rfl, rfl⟩
theorem ty_str (h : AnyD d) : ∃ t, tyD d = some t ∧ kitB t "str" = some (isStrD d) := by
  rcases any_cases h with rfl | ⟨_, rfl⟩ | ⟨_, rfl⟩ | ⟨_, rfl, _⟩ | ⟨_, rfl⟩ | ⟨_, rfl⟩ | rfl <;> exact ⟨_, rfl, rfl⟩
theorem ty_tup (h : AnyD d) : ∃ t, tyD d = some t ∧ kitB t "tuple" = some (isTupD d) := by
  rcases any_cases h with rfl | ⟨_, rfl⟩ | ⟨_, rfl⟩ | ⟨_, rfl, _⟩ | ⟨_, rfl⟩ | ⟨_, rfl⟩ | rfl <;> exact ⟨_, rfl, rfl⟩
theorem ty_lst (h : AnyD d) : ∃ t, tyD d = some t ∧ kitB t "list" = some (isLstD d) := by
  rcases any_cases h with rfl | ⟨_, rfl⟩ | ⟨_, rfl⟩ | ⟨_, rfl, _⟩ | ⟨_, rfl⟩ | ⟨_, rfl⟩ | rfl <;> exact ⟨_, rfl, rfl⟩
theorem ty_bool (h : AnyD d) : ∃ t, tyD d = some t ∧ kitB t "bool" = some (isBlD d) := by
  rcases any_cases h with rfl | ⟨_, rfl⟩ | ⟨_, rfl⟩ | ⟨_, rfl, _⟩ | ⟨_, rfl⟩ | ⟨_, rfl⟩ | rfl <;> exact ⟨_, rfl, rfl⟩
theorem isi_int (h : AnyD d) (q : P (.bl (isIntD d || isBlD d))) : dIsi [d, .v (.ty "int")] P := by
  obtain ⟨t, b, h1, h2, h3⟩ := ty_any h "int" (.inl rfl); exact ⟨t, b, h1, h2, by rw [h3]; exact q⟩
theorem isi_bool (h : AnyD d) (q : P (.bl (isBlD d))) : dIsi [d, .v (.ty "bool")] P := by
  obtain ⟨t, b, h1, h2, h3⟩ := ty_any h "bool" (.inr (.inl rfl)); exact ⟨t, b, h1, h2, by rw [h3]; exact q⟩
theorem isi_str (h : AnyD d) (q : P (.bl (isStrD d))) : dIsi [d, .v (.ty "str")] P := by
  obtain ⟨t, b, h1, h2, h3⟩ := ty_any h "str" (.inr (.inr (.inl rfl))); exact ⟨t, b, h1, h2, by rw [h3]; exact q⟩
theorem isi_tup (h : AnyD d) (q : P (.bl (isTupD d))) : dIsi [d, .v (.ty "tuple")] P := by
  obtain ⟨t, b, h1, h2, h3⟩ := ty_any h "tuple" (.inr (.inr (.inr (.inl rfl)))); exact ⟨t, b, h1, h2, by rw [h3]; exact q⟩
theorem isi_lst (h : AnyD d) (q : P (.bl (isLstD d))) : dIsi [d, .v (.ty "list")] P := by
  obtain ⟨t, b, h1, h2, h3⟩ := ty_any h "list" (.inr (.inr (.inr (.inr rfl)))); exact ⟨t, b, h1, h2, by rw [h3]; exact q⟩
end
end Q

/-! the codes of values, and that they go as values do -/
namespace Q
open PySem PySem.Spec L2 G TL C
/-! ### codes -/
def escC (c : Nat) : List Nat := if c = 32 then [33, 97] else if c = 33 then [33, 98] else [c]
def txtC (l : List Nat) : List Nat := (l.map escC).flatten ++ [32]
def numC (i : Int) : List Nat :=
  if i = 0 then [111] else if 0 < i then 112 :: (64 + (numL i.natAbs).length) :: numL i.natAbs
  else 110 :: (96 - (numL i.natAbs).length) :: (numL i.natAbs).map (105 - ·)
def codeV : D → List Nat
  | .v .non => [48]
  | .v (.bl b) => [if b then 50 else 49]
  | .v (.int i) => numC i
  | .v (.str s) => 116 :: txtC (tl s)
  | _ => []
def rowC (ds : List D) : List Nat := (ds.map codeV).flatten
def rankV : D → D
  | .v .non => .lst [.int 0, .int 0, .str (mkS [])]
  | .v (.bl b) => .lst [.int (if b then 2 else 1), .int 0, .str (mkS [])]
  | .v (.int i) => .lst [.int 3, .int i, .str (mkS [])]
  | .v (.str s) => .lst [.int 4, .int 0, .str s]
  | d => d
def rankR (ds : List D) : D := .lst (ds.map rankV)
/-! ### a first place where two lists differ -/
def Dif (a b : List Nat) : Prop := ∃ p x y s t, x < y ∧ a = p ++ x :: s ∧ b = p ++ y :: t
theorem Dif.pre {a b : List Nat} (p : List Nat) (h : Dif a b) : Dif (p ++ a) (p ++ b) := by
  obtain ⟨q, x, y, s, t, h1, rfl, rfl⟩ := h
  exact ⟨p ++ q, x, y, s, t, h1, by rw [List.append_assoc], by rw [List.append_assoc]⟩
theorem Dif.app {a b : List Nat} (u v : List Nat) (h : Dif a b) : Dif (a ++ u) (b ++ v) := by
  obtain ⟨q, x, y, s, t, h1, rfl, rfl⟩ := h
  exact ⟨q, x, y, s ++ u, t ++ v, h1, by rw [List.append_assoc]; rfl, by rw [List.append_assoc]; rfl⟩
theorem Dif.head {x y : Nat} (s t : List Nat) (h : x < y) : Dif (x :: s) (y :: t) := ⟨[], x, y, s, t, h, rfl, rfl⟩
theorem Dif.cons {a b : List Nat} (x : Nat) (h : Dif a b) : Dif (x :: a) (x :: b) := h.pre [x]
theorem lt_pre : ∀ (p a b : List Nat), a < b → p ++ a < p ++ b
  | [], _, _, h => h
  | x :: p, a, b, h => List.cons_lt_cons_iff.mpr (.inr ⟨rfl, lt_pre p a b h⟩)
theorem Dif.lt {a b : List Nat} (h : Dif a b) : a < b := by
  obtain ⟨q, x, y, s, t, h1, rfl, rfl⟩ := h
  exact lt_pre _ _ _ (List.cons_lt_cons_iff.mpr (.inl h1))
theorem Dif.nlt {a b : List Nat} (h : Dif a b) : ¬ b < a := fun z => List.lt_irrefl _ (List.lt_trans h.lt z)
theorem Dif.ne {a b : List Nat} (h : Dif a b) : a ≠ b := fun z => List.lt_irrefl b (z ▸ h.lt)
theorem Dif.take {a b : List Nat} (h : Dif a b) : a.take b.length ≠ b ∧ b.take a.length ≠ a := by
  obtain ⟨q, x, y, s, t, h1, rfl, rfl⟩ := h
  constructor
  · intro e
    have e1 := congrArg (·[q.length]?) e
    simp only [List.getElem?_take, List.length_append, List.length_cons] at e1
    rw [if_pos (by omega), List.getElem?_append_right (Nat.le_refl _), List.getElem?_append_right (Nat.le_refl _)] at e1
    simp at e1; omega
  · intro e
    have e1 := congrArg (·[q.length]?) e
    simp only [List.getElem?_take, List.length_append, List.length_cons] at e1
    rw [if_pos (by omega), List.getElem?_append_right (Nat.le_refl _), List.getElem?_append_right (Nat.le_refl _)] at e1
    simp at e1; omega
/-- the same for signs of data -/
abbrev Tk := List (Int ⊕ List Nat)
def DifT (a b : Tk) : Prop := ∃ p x y s t, PyProof.Rows.itemLt x y = true ∧ a = p ++ x :: s ∧ b = p ++ y :: t
theorem DifT.pre {a b : Tk} (p : Tk) (h : DifT a b) : DifT (p ++ a) (p ++ b) := by
  obtain ⟨q, x, y, s, t, h1, rfl, rfl⟩ := h
  exact ⟨p ++ q, x, y, s, t, h1, by rw [List.append_assoc], by rw [List.append_assoc]⟩
theorem DifT.cons {a b : Tk} (x) (h : DifT a b) : DifT (x :: a) (x :: b) := h.pre [x]
theorem DifT.app {a b : Tk} (u v : Tk) (h : DifT a b) : DifT (a ++ u) (b ++ v) := by
  obtain ⟨q, x, y, s, t, h1, rfl, rfl⟩ := h
  exact ⟨q, x, y, s ++ u, t ++ v, h1, by rw [List.append_assoc]; rfl, by rw [List.append_assoc]; rfl⟩
theorem DifT.head {x y} (s t : Tk) (h : PyProof.Rows.itemLt x y = true) : DifT (x :: s) (y :: t) := ⟨[], x, y, s, t, h, rfl, rfl⟩
theorem item_ne {x y} (h : PyProof.Rows.itemLt x y = true) : x ≠ y := fun z => by
  subst z
  have := PyProof.Rows.itemOrd.irrefl x
  rw [show PyProof.Rows.itemOrd.blt x x = PyProof.Rows.itemLt x x from rfl, h] at this
  cases this
theorem item_as {x y} (h : PyProof.Rows.itemLt x y = true) : PyProof.Rows.itemLt y x = false := by
  cases q : PyProof.Rows.itemLt y x with
  | false => rfl
  | true =>
    have := PyProof.Rows.itemOrd.trans x y x h q
    rw [PyProof.Rows.itemOrd.irrefl x] at this
    cases this
theorem DifT.lt {a b : Tk} (h : DifT a b) : PyProof.Rows.lexLt PyProof.Rows.itemOrd a b = true ∧ PyProof.Rows.lexLt PyProof.Rows.itemOrd b a = false ∧ a ≠ b := by
  obtain ⟨q, x, y, s, t, h1, rfl, rfl⟩ := h
  have ne := item_ne h1
  refine ⟨?_, ?_, fun e => ?_⟩
  · rw [PySem.W.lex_pre, PyProof.Rows.lex_diff (O := PyProof.Rows.itemOrd) ne]; exact h1
  · rw [PySem.W.lex_pre, PyProof.Rows.lex_diff (O := PyProof.Rows.itemOrd) (Ne.symm ne)]; exact item_as h1
  · have := List.append_cancel_left e
    injection this with e1 e2
    exact ne e1
/-! ### digits -/
theorem digs_dif : ∀ (k a b : Nat), a < b → b < 10 ^ k → Dif (digs k a) (digs k b)
  | 0, a, b, h, h2 => by simp at h2; omega
  | k + 1, a, b, h, h2 => by
    have hb : b / 10 < 10 ^ k := by rw [Nat.div_lt_iff_lt_mul (by decide)]; rw [Nat.pow_succ] at h2; exact h2
    rw [digs, digs]
    by_cases q : a / 10 = b / 10
    · rw [q]
      exact (Dif.head [] [] (by omega)).pre _
    · exact (digs_dif k (a / 10) (b / 10) (by omega) hb).app _ _
/-- the digits of a number: as many as are needed -/
theorem numL_digs : ∀ n : Nat, 0 < n → numL n = digs (numL n).length n ∧ n < 10 ^ (numL n).length ∧ 10 ^ ((numL n).length - 1) ≤ n := fun n => by
  induction n using Nat.strongRecOn with
  | _ n ih =>
    intro h0
    by_cases h : n < 10
    · rw [numL_lt h]
      refine ⟨?_, by simpa using h, by simp; omega⟩
      show [48 + n] = digs 1 n
      rw [digs, digs, Nat.mod_eq_of_lt h]; rfl
    · obtain ⟨i1, i2, i3⟩ := ih (n / 10) (by omega) (by omega)
      rw [numL_step (by omega : 10 ≤ n), List.length_append]
      simp only [List.length_cons, List.length_nil, Nat.zero_add, Nat.add_sub_cancel]
      refine ⟨?_, ?_, ?_⟩
      · rw [digs, ← i1]
      · rw [Nat.pow_succ]; omega
      · have pos : 0 < (numL (n / 10)).length := List.length_pos_iff.mpr (numL_ne _)
        obtain ⟨m, hm⟩ : ∃ m, (numL (n / 10)).length = m + 1 := ⟨_, (Nat.succ_pred_eq_of_pos pos).symm⟩
        rw [hm] at i3 ⊢
        rw [Nat.add_sub_cancel] at i3
        rw [Nat.pow_succ]; omega
theorem numL_len_lt {a b : Nat} (ha : 0 < a) (h : a < b) : (numL a).length ≤ (numL b).length := by
  obtain ⟨_, _, a3⟩ := numL_digs a ha
  obtain ⟨_, b2, _⟩ := numL_digs b (by omega)
  apply Nat.le_of_not_lt
  intro q
  have : (10 : Nat) ^ (numL b).length ≤ 10 ^ ((numL a).length - 1) := Nat.pow_le_pow_right (by decide) (by omega)
  omega
theorem numL_le {n : Nat} (h : n < 10 ^ 30) : (numL n).length ≤ 30 := by
  by_cases h0 : n = 0
  · subst h0; rw [numL_lt (by decide)]; decide
  · obtain ⟨_, _, a3⟩ := numL_digs n (by omega)
    apply Nat.le_of_not_lt
    intro q
    have : (10 : Nat) ^ 30 ≤ 10 ^ ((numL n).length - 1) := Nat.pow_le_pow_right (by decide) (by omega)
    omega
theorem numL_dif {a b : Nat} (ha : 0 < a) (h : a < b) (hl : (numL a).length = (numL b).length) : Dif (numL a) (numL b) := by
  obtain ⟨a1, a2, a3⟩ := numL_digs a ha
  obtain ⟨b1, b2, b3⟩ := numL_digs b (by omega)
  have := digs_dif (numL b).length a b h b2
  rw [← b1, ← hl, ← a1] at this
  exact this
theorem Dif.comp {a b : List Nat} (h : Dif a b) (hb : ∀ c ∈ b, c ≤ 105) : Dif (b.map (105 - ·)) (a.map (105 - ·)) := by
  obtain ⟨q, x, y, s, t, h1, rfl, rfl⟩ := h
  have := hb y (by simp)
  exact ⟨q.map (105 - ·), 105 - y, 105 - x, t.map (105 - ·), s.map (105 - ·), by omega, by simp, by simp⟩
theorem numL_105 (n : Nat) : ∀ c ∈ numL n, c ≤ 105 := fun c hc => by have := numL_digits n c hc; omega
theorem num_dif {i j : Int} (h : i < j) (hi : i.natAbs < 10 ^ 30) (hj : j.natAbs < 10 ^ 30) : Dif (numC i) (numC j) := by
  unfold numC
  by_cases i0 : i = 0
  · rw [if_pos i0, if_neg (by omega), if_pos (by omega)]
    exact Dif.head _ _ (by decide)
  · rw [if_neg i0]
    by_cases ip : 0 < i
    · rw [if_pos ip, if_neg (by omega), if_pos (by omega)]
      refine Dif.cons _ ?_
      have hl := numL_len_lt (a := i.natAbs) (b := j.natAbs) (by omega) (by omega)
      by_cases q : (numL i.natAbs).length = (numL j.natAbs).length
      · rw [q]; exact Dif.cons _ (numL_dif (by omega) (by omega) q)
      · exact Dif.head _ _ (by omega)
    · rw [if_neg ip]
      by_cases j0 : j = 0
      · rw [if_pos j0]; exact Dif.head _ _ (by decide)
      · rw [if_neg j0]
        by_cases jp : 0 < j
        · rw [if_pos jp]; exact Dif.head _ _ (by decide)
        · rw [if_neg jp]
          refine Dif.cons _ ?_
          have hl := numL_len_lt (a := j.natAbs) (b := i.natAbs) (by omega) (by omega)
          have l30 := numL_le hi
          by_cases q : (numL j.natAbs).length = (numL i.natAbs).length
          · rw [q]; exact Dif.cons _ ((numL_dif (by omega) (by omega) q).comp (numL_105 _))
          · exact Dif.head _ _ (by omega)
/-! ### texts -/
theorem esc_32 : escC 32 = [33, 97] := rfl
theorem esc_33 : escC 33 = [33, 98] := rfl
theorem esc_o {c : Nat} (h : c ≠ 32) (h2 : c ≠ 33) : escC c = [c] := by unfold escC; rw [if_neg h, if_neg h2]
theorem esc_dif {c d : Nat} (h : c < d) (hc : 32 ≤ c) (s t : List Nat) : Dif (escC c ++ s) (escC d ++ t) := by
  by_cases c32 : c = 32
  · subst c32
    by_cases d33 : d = 33
    · subst d33; exact Dif.cons _ (Dif.head _ _ (by decide))
    · rw [esc_32, esc_o (by omega) d33]; exact Dif.head _ _ (by omega)
  · rw [esc_o (c := d) (by omega) (by omega)]
    by_cases c33 : c = 33
    · subst c33; exact Dif.head _ _ (by omega)
    · rw [esc_o c32 c33]; exact Dif.head _ _ h
theorem esc_head (c : Nat) (hc : 32 ≤ c) : ∃ x r, escC c = x :: r ∧ 33 ≤ x := by
  unfold escC
  split
  · exact ⟨33, [97], rfl, by decide⟩
  · split
    · exact ⟨33, [98], rfl, by decide⟩
    · exact ⟨c, [], rfl, by omega⟩
theorem txt_dif : ∀ (a b : List Nat), a < b → (∀ c ∈ a, 32 ≤ c) → (∀ c ∈ b, 32 ≤ c) → Dif (txtC a) (txtC b)
  | [], [], h, _, _ => absurd h (List.lt_irrefl _)
  | [], d :: b, _, _, hb => by
    obtain ⟨x, r, e, hx⟩ := esc_head d (hb d List.mem_cons_self)
    unfold txtC
    rw [List.map_cons, List.flatten_cons, e]
    exact Dif.head _ _ (by omega)
  | c :: a, [], h, _, _ => by simp at h
  | c :: a, d :: b, h, ha, hb => by
    rcases List.cons_lt_cons_iff.mp h with h1 | ⟨rfl, h1⟩
    · unfold txtC
      rw [List.map_cons, List.flatten_cons, List.map_cons, List.flatten_cons, List.append_assoc, List.append_assoc]
      exact esc_dif h1 (ha c List.mem_cons_self) _ _
    · have ih := txt_dif a b h1 (fun x hx => ha x (List.mem_cons_of_mem _ hx)) (fun x hx => hb x (List.mem_cons_of_mem _ hx))
      unfold txtC at ih ⊢
      rw [List.map_cons, List.flatten_cons, List.map_cons, List.flatten_cons, List.append_assoc, List.append_assoc]
      exact ih.pre _
/-! ### values -/
theorem toks_rank (k z : Int) (s : Str) : PySem.W.keyToks (D.py (.lst [.int k, .int z, .str s])) = [.inl 1, .inl k, .inl 1, .inl z, .inl 1, .inr (tl s), .inl 0] := by
  simp [D.py, pys, PySem.W.keyToks, PySem.W.keyToksAll, TL.tl]
abbrev tkV (d : D) : Tk := PySem.W.keyToks (rankV d).py
theorem val_bound {i : Int} (h : isVal (.int i) = true) : i.natAbs < 10 ^ 30 := by
  have := of_decide_eq_true (h : decide (i.natAbs ≤ 999999999999999999999999999999) = true)
  have e : (10 : Nat) ^ 30 = 1000000000000000000000000000000 := by decide
  omega
theorem val_text {s : Str} (h : isVal (.str s) = true) : (∀ c ∈ tl s, 32 ≤ c ∧ c ≤ 126) ∧ s.length ≤ 200 := by
  have h : (textB (tl s) && decide (s.length ≤ 200)) = true := h
  rw [Bool.and_eq_true] at h
  exact ⟨text_pr.mp h.1, of_decide_eq_true h.2⟩
/-- one stands ahead of the other, by both readings -/
def Ahead (a b : D) : Prop := Dif (codeV a) (codeV b) ∧ DifT (tkV a) (tkV b)
theorem it_int {a b : Int} (h : a < b) : PyProof.Rows.itemLt (.inl a) (.inl b) = true := decide_eq_true h
theorem it_str {a b : List Nat} (h : a < b) : PyProof.Rows.itemLt (.inr a) (.inr b) = true := decide_eq_true h
theorem tk_kind {k k' z z' : Int} {s s' : Str} (h : k < k') : DifT (PySem.W.keyToks (D.py (.lst [.int k, .int z, .str s]))) (PySem.W.keyToks (D.py (.lst [.int k', .int z', .str s']))) := by
  rw [toks_rank, toks_rank]
  exact (DifT.head _ _ (it_int h)).cons _
theorem tk_size {k z z' : Int} {s s' : Str} (h : z < z') : DifT (PySem.W.keyToks (D.py (.lst [.int k, .int z, .str s]))) (PySem.W.keyToks (D.py (.lst [.int k, .int z', .str s']))) := by
  rw [toks_rank, toks_rank]
  exact (((DifT.head _ _ (it_int h)).cons _).cons _).cons _
theorem tk_text {k z : Int} {s s' : Str} (h : tl s < tl s') : DifT (PySem.W.keyToks (D.py (.lst [.int k, .int z, .str s]))) (PySem.W.keyToks (D.py (.lst [.int k, .int z, .str s']))) := by
  rw [toks_rank, toks_rank]
  exact (((((DifT.head _ _ (it_str h)).cons _).cons _).cons _).cons _).cons _
theorem num_head (i : Int) : ∃ x r, numC i = x :: r ∧ 110 ≤ x ∧ x ≤ 112 := by
  unfold numC
  split
  · exact ⟨111, [], rfl, by decide, by decide⟩
  · split
    · exact ⟨112, _, rfl, by decide, by decide⟩
    · exact ⟨110, _, rfl, by decide, by decide⟩
theorem code_head {d : D} (h : isVal d = true) : ∃ x r, codeV d = x :: r := by
  unfold isVal at h
  split at h
  · exact ⟨_, _, rfl⟩
  · exact ⟨_, _, rfl⟩
  · obtain ⟨x, r, e, _⟩ := num_head _; exact ⟨x, r, e⟩
  · exact ⟨_, _, rfl⟩
  · cases h
theorem tri_list (a b : List Nat) : a < b ∨ a = b ∨ b < a := by
  by_cases h : a < b
  · exact .inl h
  · by_cases h2 : b < a
    · exact .inr (.inr h2)
    · exact .inr (.inl (List.le_antisymm (List.not_lt.mp h2) (List.not_lt.mp h)))
theorem val_tri {a b : D} (ha : isVal a = true) (hb : isVal b = true) : a = b ∨ Ahead a b ∨ Ahead b a := by
  have kinds : ∀ d, isVal d = true → d = .non ∨ (∃ c, d = .bl c) ∨ (∃ i, d = .int i) ∨ ∃ s, d = .str s := fun d h => by
    unfold isVal at h
    split at h
    · exact .inl rfl
    · exact .inr (.inl ⟨_, rfl⟩)
    · exact .inr (.inr (.inl ⟨_, rfl⟩))
    · exact .inr (.inr (.inr ⟨_, rfl⟩))
    · cases h
  have hd : ∀ (x y : Nat) (s t : List Nat) (a b : D), codeV a = x :: s → codeV b = y :: t → x < y → Dif (codeV a) (codeV b) := fun x y s t a b e1 e2 h => by
    rw [e1, e2]; exact Dif.head _ _ h
  rcases kinds a ha with rfl | ⟨c, rfl⟩ | ⟨i, rfl⟩ | ⟨s, rfl⟩ <;> rcases kinds b hb with rfl | ⟨c', rfl⟩ | ⟨j, rfl⟩ | ⟨t, rfl⟩
  · exact .inl rfl
  · refine .inr (.inl ⟨hd _ _ _ _ _ _ rfl rfl (by cases c' <;> decide), tk_kind (by cases c' <;> decide)⟩)
  · obtain ⟨x, r, e, h1, h2⟩ := num_head j
    exact .inr (.inl ⟨hd _ _ _ _ _ _ rfl e (by omega), tk_kind (by decide)⟩)
  · exact .inr (.inl ⟨hd _ _ _ _ _ _ rfl rfl (by decide), tk_kind (by decide)⟩)
  · refine .inr (.inr ⟨hd _ _ _ _ _ _ rfl rfl (by cases c <;> decide), tk_kind (by cases c <;> decide)⟩)
  · cases c <;> cases c'
    · exact .inl rfl
    · exact .inr (.inl ⟨hd _ _ _ _ _ _ rfl rfl (by decide), tk_kind (by decide)⟩)
    · exact .inr (.inr ⟨hd _ _ _ _ _ _ rfl rfl (by decide), tk_kind (by decide)⟩)
    · exact .inl rfl
  · obtain ⟨x, r, e, h1, h2⟩ := num_head j
    exact .inr (.inl ⟨hd _ _ _ _ _ _ rfl e (by cases c <;> simp <;> omega), tk_kind (by cases c <;> decide)⟩)
  · exact .inr (.inl ⟨hd _ _ _ _ _ _ rfl rfl (by cases c <;> decide), tk_kind (by cases c <;> decide)⟩)
  · obtain ⟨x, r, e, h1, h2⟩ := num_head i
    exact .inr (.inr ⟨hd _ _ _ _ _ _ rfl e (by omega), tk_kind (by decide)⟩)
  · obtain ⟨x, r, e, h1, h2⟩ := num_head i
    exact .inr (.inr ⟨hd _ _ _ _ _ _ rfl e (by cases c' <;> simp <;> omega), tk_kind (by cases c' <;> decide)⟩)
  · rcases Int.lt_trichotomy i j with h | rfl | h
    · exact .inr (.inl ⟨num_dif h (val_bound ha) (val_bound hb), tk_size h⟩)
    · exact .inl rfl
    · exact .inr (.inr ⟨num_dif h (val_bound hb) (val_bound ha), tk_size h⟩)
  · obtain ⟨x, r, e, h1, h2⟩ := num_head i
    exact .inr (.inl ⟨hd _ _ _ _ _ _ e rfl (by omega), tk_kind (by decide)⟩)
  · exact .inr (.inr ⟨hd _ _ _ _ _ _ rfl rfl (by decide), tk_kind (by decide)⟩)
  · exact .inr (.inr ⟨hd _ _ _ _ _ _ rfl rfl (by cases c' <;> decide), tk_kind (by cases c' <;> decide)⟩)
  · obtain ⟨x, r, e, h1, h2⟩ := num_head j
    exact .inr (.inr ⟨hd _ _ _ _ _ _ e rfl (by omega), tk_kind (by decide)⟩)
  · rcases tri_list (tl s) (tl t) with h | h | h
    · exact .inr (.inl ⟨(txt_dif _ _ h (fun c hc => ((val_text ha).1 c hc).1) (fun c hc => ((val_text hb).1 c hc).1)).cons _, tk_text h⟩)
    · exact .inl (by rw [← mkS_tl s, h, mkS_tl])
    · exact .inr (.inr ⟨(txt_dif _ _ h (fun c hc => ((val_text hb).1 c hc).1) (fun c hc => ((val_text ha).1 c hc).1)).cons _, tk_text h⟩)
/-! ### rows -/
abbrev tkR (r : List D) : Tk := PySem.W.keyToks (rankR r).py
theorem tkR_nil : tkR [] = [.inl 0] := by simp [tkR, rankR, D.py, pys, PySem.W.keyToks, PySem.W.keyToksAll]
theorem tkR_cons (a : D) (r : List D) : tkR (a :: r) = .inl 1 :: (tkV a ++ tkR r) := by
  simp [tkR, rankR, D.py, pys, PySem.W.keyToks, PySem.W.keyToksAll]
def AheadR (r q : List D) : Prop := rowC r < rowC q ∧ ¬ rowC q < rowC r ∧ rowC r ≠ rowC q ∧ DifT (tkR r) (tkR q)
theorem aheadR_pre {a : D} {r q : List D} (h : AheadR r q) : AheadR (a :: r) (a :: q) := by
  obtain ⟨h1, h2, h3, h4⟩ := h
  have e : ∀ r, rowC (a :: r) = codeV a ++ rowC r := fun r => rfl
  have l := lt_pre (codeV a) _ _ h1
  refine ⟨by rw [e, e]; exact l, by rw [e, e]; exact fun z => List.lt_irrefl _ (List.lt_trans l z), by rw [e, e]; exact fun z => h3 (List.append_cancel_left z), ?_⟩
  rw [tkR_cons, tkR_cons]
  exact (h4.pre _).cons _
theorem row_tri : ∀ {r q : List D}, (∀ d ∈ r, isVal d = true) → (∀ d ∈ q, isVal d = true) → r = q ∨ AheadR r q ∨ AheadR q r
  | [], [], _, _ => .inl rfl
  | [], b :: q, _, hq => by
    obtain ⟨x, s, e⟩ := code_head (hq b List.mem_cons_self)
    refine .inr (.inl ?_)
    have e2 : rowC (b :: q) = x :: (s ++ rowC q) := by show codeV b ++ rowC q = _; rw [e]; rfl
    refine ⟨by rw [e2]; exact List.nil_lt_cons _ _, by rw [e2]; simp [rowC], by rw [e2]; simp [rowC], ?_⟩
    rw [tkR_nil, tkR_cons]
    exact DifT.head _ _ (it_int (by decide))
  | a :: r, [], hr, _ => by
    obtain ⟨x, s, e⟩ := code_head (hr a List.mem_cons_self)
    refine .inr (.inr ?_)
    have e2 : rowC (a :: r) = x :: (s ++ rowC r) := by show codeV a ++ rowC r = _; rw [e]; rfl
    refine ⟨by rw [e2]; exact List.nil_lt_cons _ _, by rw [e2]; simp [rowC], by rw [e2]; simp [rowC], ?_⟩
    rw [tkR_nil, tkR_cons]
    exact DifT.head _ _ (it_int (by decide))
  | a :: r, b :: q, hr, hq => by
    have cons : ∀ {a b : D} {r q : List D}, Ahead a b → AheadR (a :: r) (b :: q) := fun {a b r q} h => by
      have d : Dif (rowC (a :: r)) (rowC (b :: q)) := h.1.app _ _
      refine ⟨d.lt, d.nlt, d.ne, ?_⟩
      rw [tkR_cons, tkR_cons]
      exact (h.2.app _ _).cons _
    rcases val_tri (hr a List.mem_cons_self) (hq b List.mem_cons_self) with rfl | h | h
    · rcases row_tri (r := r) (q := q) (fun d hd => hr d (List.mem_cons_of_mem _ hd)) (fun d hd => hq d (List.mem_cons_of_mem _ hd)) with rfl | h | h
      · exact .inl rfl
      · exact .inr (.inl (aheadR_pre h))
      · exact .inr (.inr (aheadR_pre h))
    · exact .inr (.inl (cons h))
    · exact .inr (.inr (cons h))
/-- the code of one row is less than another's exactly if the row is ahead -/
theorem row_lt {r q : List D} (hr : ∀ d ∈ r, isVal d = true) (hq : ∀ d ∈ q, isVal d = true) : decide (rowC r < rowC q) = dlt (rankR r) (rankR q) := by
  unfold dlt PySem.W.dataLt
  rcases row_tri hr hq with rfl | h | h
  · rw [PyProof.Rows.lex_irrefl, decide_eq_false (List.lt_irrefl _)]
  · rw [h.2.2.2.lt.1, decide_eq_true h.1]
  · rw [h.2.2.2.lt.2.1, decide_eq_false h.2.1]
theorem str_good {s : Str} (h : isVal (.str s) = true) : PyData.strOk s = true := by
  have := pr_ok (val_text h).1
  rwa [mkS_tl] at this
theorem rank_form {d : D} (h : isVal d = true) : ∃ k z s, rankV d = .lst [.int k, .int z, .str s] ∧ PyData.strOk s = true := by
  unfold isVal at h
  split at h
  · exact ⟨_, _, _, rfl, by decide +kernel⟩
  · exact ⟨_, _, _, rfl, by decide +kernel⟩
  · exact ⟨_, _, _, rfl, by decide +kernel⟩
  · exact ⟨_, _, _, rfl, str_good h⟩
  · cases h
theorem rank_good {d : D} (h : isVal d = true) (n : Nat) : D.good (n + 2) (rankV d) = true := by
  obtain ⟨k, z, s, e, hs⟩ := rank_form h
  rw [e]
  simp [D.good, goods, hs]
theorem rank_alike {a b : D} (ha : isVal a = true) (hb : isVal b = true) : PySem.W.alike (rankV a).py (rankV b).py = true := by
  obtain ⟨k, z, s, e, _⟩ := rank_form ha
  obtain ⟨k', z', s', e', _⟩ := rank_form hb
  rw [e, e']
  simp [D.py, pys, PySem.W.alike, PySem.W.alikeAll]
theorem rankR_alike : ∀ {r q : List D}, (∀ d ∈ r, isVal d = true) → (∀ d ∈ q, isVal d = true) → PySem.W.alike (rankR r).py (rankR q).py = true := by
  have all : ∀ {r q : List D}, (∀ d ∈ r, isVal d = true) → (∀ d ∈ q, isVal d = true) → PySem.W.alikeAll (pys (r.map rankV)) (pys (q.map rankV)) = true := by
    intro r
    induction r with
    | nil => intro q _ _; simp [pys, PySem.W.alikeAll]
    | cons a r ih =>
      intro q hr hq
      cases q with
      | nil => simp [pys, PySem.W.alikeAll]
      | cons b q =>
        rw [List.map_cons, List.map_cons, pys, pys, PySem.W.alikeAll, rank_alike (hr a List.mem_cons_self) (hq b List.mem_cons_self), ih (fun d hd => hr d (List.mem_cons_of_mem _ hd)) (fun d hd => hq d (List.mem_cons_of_mem _ hd))]
        rfl
  intro r q hr hq
  unfold rankR
  rw [D.py, D.py, PySem.W.alike]
  exact all hr hq
theorem rankR_good {r : List D} (hr : ∀ d ∈ r, isVal d = true) (n : Nat) : D.good (n + 3) (rankR r) = true := by
  unfold rankR
  rw [D.good, goods_all, List.all_eq_true]
  intro x hx
  rw [List.mem_map] at hx
  obtain ⟨d, hd, rfl⟩ := hx
  exact rank_good (hr d hd) n
theorem row_eq {r q : List D} (hr : ∀ d ∈ r, isVal d = true) (hq : ∀ d ∈ q, isVal d = true) : decide (rowC r = rowC q) = eqD (rankR r) (rankR q) := by
  have key : ∀ {r q : List D}, DifT (tkR r) (tkR q) → (∀ d ∈ r, isVal d = true) → (∀ d ∈ q, isVal d = true) → eqD (rankR r) (rankR q) = false ∧ eqD (rankR q) (rankR r) = false := fun {r q} h hr hq => by
    constructor
    · cases z : eqD (rankR r) (rankR q) with
      | false => rfl
      | true => exact absurd ((PySem.W.toks_eqv _ _ (rankR_alike hr hq)).1 z) h.lt.2.2
    · cases z : eqD (rankR q) (rankR r) with
      | false => rfl
      | true => exact absurd ((PySem.W.toks_eqv _ _ (rankR_alike hq hr)).1 z).symm h.lt.2.2
  rcases row_tri hr hq with rfl | h | h
  · rw [eqD_self (rankR_good hr 0), decide_eq_true rfl]
  · rw [(key h.2.2.2 hr hq).1, decide_eq_false h.2.2.1]
  · rw [(key h.2.2.2 hq hr).2, decide_eq_false fun z => h.2.2.1 z.symm]
theorem val_eq {a b : D} (ha : isVal a = true) (hb : isVal b = true) : decide ((codeV a).take (codeV b).length = codeV b) = eqD (rankV a) (rankV b) := by
  have key : ∀ {a b : D}, DifT (tkV a) (tkV b) → isVal a = true → isVal b = true → eqD (rankV a) (rankV b) = false ∧ eqD (rankV b) (rankV a) = false := fun {a b} h ha hb => by
    constructor
    · cases z : eqD (rankV a) (rankV b) with
      | false => rfl
      | true => exact absurd ((PySem.W.toks_eqv _ _ (rank_alike ha hb)).1 z) h.lt.2.2
    · cases z : eqD (rankV b) (rankV a) with
      | false => rfl
      | true => exact absurd ((PySem.W.toks_eqv _ _ (rank_alike hb ha)).1 z).symm h.lt.2.2
  rcases val_tri ha hb with rfl | h | h
  · rw [eqD_self (rank_good ha 0), List.take_length, decide_eq_true rfl]
  · rw [(key h.2 ha hb).1, decide_eq_false h.1.take.1]
  · rw [(key h.2 hb ha).2, decide_eq_false h.1.take.2]
/-! ### sizes -/
theorem esc_len (c : Nat) : (escC c).length ≤ 2 := by unfold escC; split; · simp
                                                      · split <;> simp
theorem code_len {d : D} (h : isVal d = true) : (codeV d).length ≤ 402 := by
  unfold isVal at h
  split at h
  · exact (by decide : 1 ≤ 402)
  · exact (by decide : 1 ≤ 402)
  · rename_i i
    have := numL_le (val_bound h)
    show (numC i).length ≤ 402
    unfold numC
    split
    · simp
    · split
      · simp; omega
      · simp; omega
  · rename_i s
    have hl := (val_text h).2
    show (txtC (tl s)).length + 1 ≤ 402
    unfold txtC
    rw [List.length_append]
    have := flat_len (ys := (tl s).map escC) (n := 200) (B := 2) (by rw [List.length_map, ← len_tl s]; exact hl) (fun y hy => by
      rw [List.mem_map] at hy
      obtain ⟨c, _, rfl⟩ := hy
      exact esc_len c)
    simp only [List.length_cons, List.length_nil]; omega
  · cases h
theorem row_app (r q : List D) : rowC (r ++ q) = rowC r ++ rowC q := by unfold rowC; rw [List.map_append, List.flatten_append]
theorem row_len {r : List D} (h : ∀ d ∈ r, isVal d = true) : (rowC r).length ≤ r.length * 402 :=
  flat_len (by rw [List.length_map]; exact Nat.le_refl _) fun y hy => by
    rw [List.mem_map] at hy
    obtain ⟨d, hd, rfl⟩ := hy
    exact code_len (h d hd)
/-! ### the jar -/
structure JarOk (W : Wd) (p : Addr) : Prop where
  ex : ∃ a b : Int, W p = some (.lst [.int a, .int b]) ∧ 0 ≤ a ∧ a.natAbs < 2 ^ 640 ∧ 0 ≤ b ∧ b < 2147483648
end Q

/-! reading codes, sign by sign -/
namespace Q
open PySem PySem.Spec L2 G TL C
abbrev Res (α : Type) := Nat ⊕ (α × Nat)
def preT (S : List Nat) : Res (List Nat) → Res (List Nat)
  | .inl e => .inl e
  | .inr (t, b) => .inr (S ++ t, b)
theorem preT_nil (r : Res (List Nat)) : preT [] r = r := by cases r <;> rfl
theorem preT_app (S T : List Nat) (r : Res (List Nat)) : preT S (preT T r) = preT (S ++ T) r := by
  cases r with
  | inl e => rfl
  | inr p => simp [preT]
/-- a text's code from a on, n signs at most -/
def textA (l : List Nat) : Nat → Nat → Res (List Nat)
  | 0, a => match l[a]? with
    | some c => if c = 32 then .inr ([], a + 1) else .inl a
    | none => .inl a
  | n + 1, a => match l[a]? with
    | none => .inl a
    | some c => if c = 32 then .inr ([], a + 1) else if c = 33 then (match l[a + 1]? with
        | some d => if d = 97 then preT [32] (textA l n (a + 2)) else if d = 98 then preT [33] (textA l n (a + 2)) else .inl (a + 1)
        | none => .inl (a + 1))
      else preT [c] (textA l n (a + 1))
def leadC (below : Bool) : Nat := if below then 57 else 48
def figC (below : Bool) (c : Nat) : Nat := if below then 105 - c else c
def cntC (below : Bool) (c : Nat) : Nat := if below then 96 - c else c - 64
def sgnC (below : Bool) (n : Nat) : Int := if below then 0 - (n : Int) else n
/-- n figures from a on; first: the first one, which is no nought (in a number below nought: no nine) -/
def digA (l : List Nat) (below : Bool) : Bool → Nat → Nat → Res (List Nat)
  | _, 0, a => .inr ([], a)
  | first, n + 1, a => match l[a]? with
    | none => .inl a
    | some c => if 48 ≤ c ∧ c ≤ 57 ∧ ¬ (first = true ∧ c = leadC below) then preT [figC below c] (digA l below false n (a + 1)) else .inl a
abbrev digV (ds : List Nat) : Nat := NumText.digitsVal ds
def numA (l : List Nat) (below : Bool) (a : Nat) : Nat ⊕ (Int × Nat) := match l[a]? with
  | none => .inl a
  | some c => if 65 ≤ c ∧ c ≤ 95 ∧ cntC below c ≤ 30 then (match digA l below true (cntC below c) (a + 1) with
      | .inl e => .inl e
      | .inr (ds, b) => .inr (sgnC below (digV ds), b)) else .inl a
def valA (l : List Nat) (a : Nat) : Nat ⊕ (D × Nat) := match l[a]? with
  | none => .inl a
  | some c => if c = 116 then (match textA l 200 (a + 1) with | .inl e => .inl e | .inr (t, b) => .inr (.str (mkS t), b))
    else if c = 110 ∨ c = 112 then (match numA l (decide (c = 110)) (a + 1) with | .inl e => .inl e | .inr (i, b) => .inr (.int i, b))
    else if c = 48 then .inr (.non, a + 1) else if c = 49 then .inr (.bl false, a + 1) else if c = 50 then .inr (.bl true, a + 1) else if c = 111 then .inr (.int 0, a + 1) else .inl a
def rowA (l : List Nat) : Nat → Nat → Nat ⊕ List D
  | 0, _ => .inr []
  | n + 1, a => if a < l.length then (match valA l a with
      | .inl e => .inl e
      | .inr (d, b) => (match rowA l n b with | .inl e => .inl e | .inr r => .inr (d :: r))) else .inr []
def readA (l : List Nat) : Nat ⊕ List D := rowA l l.length 0
def preR (V : List D) : Nat ⊕ List D → Nat ⊕ List D
  | .inl e => .inl e
  | .inr r => .inr (V ++ r)
theorem preR_nil (r : Nat ⊕ List D) : preR [] r = r := by cases r <;> rfl
theorem rowA_end {l : List Nat} {n a : Nat} (h : ¬ a < l.length) : rowA l n a = .inr [] := by
  cases n with
  | zero => rfl
  | succ n => rw [rowA, if_neg h]
/-! ### what was read is a value, and the places go on -/
theorem textA_ok {l : List Nat} (hp : Pr l) : ∀ {n a : Nat} {t : List Nat} {b : Nat}, textA l n a = .inr (t, b) → Pr t ∧ t.length ≤ n ∧ a < b ∧ b ≤ l.length := by
  have at_ : ∀ {a c : Nat}, l[a]? = some c → a < l.length ∧ 32 ≤ c ∧ c ≤ 126 := fun {a c} h => by
    obtain ⟨h1, h2⟩ := List.getElem?_eq_some_iff.mp h
    have := hp c (h2 ▸ List.getElem_mem h1)
    exact ⟨h1, this⟩
  intro n
  induction n with
  | zero =>
    intro a t b h
    rw [textA] at h
    split at h
    · rename_i c hc
      split at h
      · injection h with h; injection h with h1 h2
        subst h1 h2
        have := (at_ hc).1
        exact ⟨fun _ z => (by cases z), Nat.le_refl _, by omega, by omega⟩
      · cases h
    · cases h
  | succ n ih =>
    have pre : ∀ {x a2 t b : Nat} {T : List Nat} , 32 ≤ x → x ≤ 126 → preT [x] (textA l n a2) = .inr (T, b) → Pr T ∧ T.length ≤ n + 1 ∧ a2 < b ∧ b ≤ l.length := fun {x a2 t b T} h1 h2 h => by
      cases q : textA l n a2 with
      | inl e => rw [q] at h; cases h
      | inr p =>
        obtain ⟨u, b2⟩ := p
        rw [q] at h
        injection h with h; injection h with h3 h4
        subst h3 h4
        obtain ⟨i1, i2, i3, i4⟩ := ih q
        refine ⟨fun c hc => ?_, by simp; omega, i3, i4⟩
        rcases List.mem_cons.mp hc with rfl | hc
        · exact ⟨h1, h2⟩
        · exact i1 c hc
    intro a t b h
    rw [textA] at h
    split at h
    · cases h
    · rename_i c hc
      obtain ⟨q1, q2, q3⟩ := at_ hc
      split at h
      · injection h with h; injection h with h1 h2
        subst h1 h2
        exact ⟨fun _ z => (by cases z), by simp, by omega, by omega⟩
      · split at h
        · split at h
          · split at h
            · obtain ⟨r1, r2, r3, r4⟩ := pre (t := 0) (by decide) (by decide) h
              exact ⟨r1, r2, by omega, r4⟩
            · split at h
              · obtain ⟨r1, r2, r3, r4⟩ := pre (t := 0) (by decide) (by decide) h
                exact ⟨r1, r2, by omega, r4⟩
              · cases h
          · cases h
        · obtain ⟨r1, r2, r3, r4⟩ := pre (t := 0) q2 q3 h
          exact ⟨r1, r2, by omega, r4⟩
theorem digA_ok {l : List Nat} {below : Bool} : ∀ {n a : Nat} {first : Bool} {ds : List Nat} {b : Nat}, digA l below first n a = .inr (ds, b) → (∀ c ∈ ds, 48 ≤ c ∧ c ≤ 57) ∧ ds.length = n ∧ b = a + n ∧ (a ≤ l.length → b ≤ l.length) := by
  intro n
  induction n with
  | zero =>
    intro a first ds b h
    rw [digA] at h
    injection h with h; injection h with h1 h2
    subst h1 h2
    exact ⟨fun _ z => (by cases z), rfl, rfl, id⟩
  | succ n ih =>
    intro a first ds b h
    rw [digA] at h
    split at h
    · cases h
    · rename_i c hc
      have hlt := (List.getElem?_eq_some_iff.mp hc).1
      split at h
      · rename_i hd
        cases q : digA l below false n (a + 1) with
        | inl e => rw [q] at h; cases h
        | inr p =>
          obtain ⟨u, b2⟩ := p
          rw [q] at h
          injection h with h; injection h with h1 h2
          subst h1 h2
          obtain ⟨i1, i2, i3, i4⟩ := ih q
          refine ⟨fun x hx => ?_, by simp [i2], by omega, fun _ => i4 (by omega)⟩
          rcases List.mem_cons.mp hx with rfl | hx
          · unfold figC; split <;> omega
          · exact i1 x hx
      · cases h
theorem digV_lt : ∀ {ds : List Nat} , (∀ c ∈ ds, 48 ≤ c ∧ c ≤ 57) → digV ds < 10 ^ ds.length := fun {ds} h => by
  have key : ∀ (ds : List Nat) (acc : Nat), (∀ c ∈ ds, 48 ≤ c ∧ c ≤ 57) → ds.foldl (fun acc c => acc * 10 + (c - 48)) acc < (acc + 1) * 10 ^ ds.length := by
    intro ds
    induction ds with
    | nil => intro acc _; simp
    | cons c r ih =>
      intro acc h
      rw [List.foldl_cons]
      have h1 := ih (acc * 10 + (c - 48)) fun x hx => h x (List.mem_cons_of_mem _ hx)
      have h2 := h c List.mem_cons_self
      refine Nat.lt_of_lt_of_le h1 ?_
      rw [List.length_cons, Nat.pow_succ, Nat.mul_comm (10 ^ r.length), ← Nat.mul_assoc]
      exact Nat.mul_le_mul_right _ (by omega)
  have := key ds 0 h
  unfold digV NumText.digitsVal
  omega
theorem int_val {i : Int} (h : i.natAbs < 10 ^ 30) : isVal (.int i) = true := by
  show decide (i.natAbs ≤ 999999999999999999999999999999) = true
  have e : (10 : Nat) ^ 30 = 1000000000000000000000000000000 := by decide
  exact decide_eq_true (by omega)
theorem str_val {l : List Nat} (hp : Pr l) (hl : l.length ≤ 200) : isVal (.str (mkS l)) = true := by
  show (textB (tl (mkS l)) && decide ((mkS l).length ≤ 200)) = true
  rw [tl_mkS, text_pr.mpr hp, len_mkS, decide_eq_true hl]
  rfl
theorem numA_ok {l : List Nat} {below : Bool} {a : Nat} {i : Int} {b : Nat} (h : numA l below a = .inr (i, b)) : isVal (.int i) = true ∧ a < b ∧ b ≤ l.length := by
  unfold numA at h
  split at h
  · cases h
  · rename_i c hc
    have hlt := (List.getElem?_eq_some_iff.mp hc).1
    split at h
    · rename_i hb
      split at h
      · cases h
      · rename_i ds b2 hd
        injection h with h; injection h with h1 h2
        subst h2
        obtain ⟨i1, i2, i3, i4⟩ := digA_ok hd
        have hv := digV_lt i1
        have : (10 : Nat) ^ ds.length ≤ 10 ^ 30 := Nat.pow_le_pow_right (by decide) (by rw [i2]; exact hb.2.2)
        refine ⟨int_val ?_, by omega, i4 (by omega)⟩
        rw [← h1]
        unfold sgnC
        split <;> omega
    · cases h
theorem valA_ok {l : List Nat} (hp : Pr l) {a : Nat} {d : D} {b : Nat} (h : valA l a = .inr (d, b)) : isVal d = true ∧ a < b ∧ b ≤ l.length := by
  unfold valA at h
  split at h
  · cases h
  · rename_i c hc
    have hlt := (List.getElem?_eq_some_iff.mp hc).1
    split at h
    · split at h
      · cases h
      · rename_i t b2 ht
        injection h with h; injection h with h1 h2
        subst h1 h2
        obtain ⟨i1, i2, i3, i4⟩ := textA_ok hp ht
        exact ⟨str_val i1 i2, by omega, i4⟩
    · split at h
      · split at h
        · cases h
        · rename_i i b2 ht
          injection h with h; injection h with h1 h2
          subst h1 h2
          obtain ⟨i1, i2, i3⟩ := numA_ok ht
          exact ⟨i1, by omega, i3⟩
      · split at h
        · injection h with h; injection h with h1 h2
          subst h1 h2; exact ⟨rfl, by omega, hlt⟩
        · split at h
          · injection h with h; injection h with h1 h2
            subst h1 h2; exact ⟨rfl, by omega, hlt⟩
          · split at h
            · injection h with h; injection h with h1 h2
              subst h1 h2; exact ⟨rfl, by omega, hlt⟩
            · split at h
              · injection h with h; injection h with h1 h2
                subst h1 h2; exact ⟨rfl, by omega, hlt⟩
              · cases h
theorem rowA_ok {l : List Nat} (hp : Pr l) : ∀ {n a : Nat} {r : List D}, rowA l n a = .inr r → (∀ d ∈ r, isVal d = true) ∧ r.length ≤ n := by
  intro n
  induction n with
  | zero => intro a r h; injection h with h; subst h; exact ⟨fun _ z => (by cases z), Nat.le_refl _⟩
  | succ n ih =>
    intro a r h
    rw [rowA] at h
    split at h
    · split at h
      · cases h
      · rename_i d b hv
        split at h
        · cases h
        · rename_i r2 hr
          injection h with h
          subst h
          obtain ⟨i1, i2⟩ := ih hr
          refine ⟨fun x hx => ?_, by simp; omega⟩
          rcases List.mem_cons.mp hx with rfl | hx
          · exact (valA_ok hp hv).1
          · exact i1 x hx
    · injection h with h; subst h; exact ⟨fun _ z => (by cases z), by simp⟩
/-! ### the code of a row, read -/
theorem get0 (p : List Nat) (x : Nat) (r : List Nat) : (p ++ x :: r)[p.length]? = some x := by simp
theorem get1 (p : List Nat) (x y : Nat) (r : List Nat) : (p ++ x :: y :: r)[p.length + 1]? = some y := by
  rw [List.getElem?_append_right (by omega)]
  simp
theorem text_trip : ∀ (s : List Nat) (n : Nat) (p t : List Nat), s.length ≤ n → textA (p ++ (txtC s ++ t)) n p.length = .inr (s, p.length + (txtC s).length)
  | [], n, p, t, _ => by
    have e : p ++ (txtC [] ++ t) = p ++ 32 :: t := rfl
    rw [e]
    cases n with
    | zero => rw [textA, get0]; rfl
    | succ n => rw [textA, get0]; rfl
  | c :: s, 0, p, t, h => by simp at h
  | c :: s, n + 1, p, t, h => by
    have hs : s.length ≤ n := by simpa using h
    have two : ∀ (x : Nat), escC c = [33, x] → (if x = 97 then 32 else 33) = c → (x = 97 ∨ x = 98) → textA (p ++ (txtC (c :: s) ++ t)) (n + 1) p.length = .inr (c :: s, p.length + (txtC (c :: s)).length) := fun x e1 e2 e3 => by
      have et : txtC (c :: s) = 33 :: x :: txtC s := by unfold txtC; rw [List.map_cons, List.flatten_cons, e1]; rfl
      have ih := text_trip s n (p ++ [33, x]) t hs
      have ep : p ++ (33 :: x :: txtC s ++ t) = p ++ [33, x] ++ (txtC s ++ t) := by simp
      have e0 : (p ++ [33, x] ++ (txtC s ++ t))[p.length]? = some 33 := by rw [← ep]; exact get0 _ _ _
      have e4 : (p ++ [33, x] ++ (txtC s ++ t))[p.length + 1]? = some x := by rw [← ep]; exact get1 _ _ _ _
      have el : (p ++ [33, x]).length = p.length + 2 := by simp
      rw [el] at ih
      rw [et, ep, textA, e0]
      dsimp only
      rw [if_neg (by decide), if_pos rfl, e4]
      dsimp only
      rcases e3 with rfl | rfl
      · rw [if_pos rfl, ih]
        have : (32 : Nat) = c := e2
        subst this
        simp [preT]; omega
      · rw [if_neg (by decide), if_pos rfl, ih]
        have : (33 : Nat) = c := e2
        subst this
        simp [preT]; omega
    by_cases h1 : c = 32
    · exact two 97 (by rw [h1]; rfl) (by rw [h1]; rfl) (.inl rfl)
    · by_cases h2 : c = 33
      · exact two 98 (by rw [h2]; rfl) (by rw [h2]; rfl) (.inr rfl)
      · have et : txtC (c :: s) = c :: txtC s := by unfold txtC; rw [List.map_cons, List.flatten_cons, esc_o h1 h2]; rfl
        have ih := text_trip s n (p ++ [c]) t hs
        have ep : p ++ (c :: txtC s ++ t) = p ++ [c] ++ (txtC s ++ t) := by simp
        have e0 : (p ++ [c] ++ (txtC s ++ t))[p.length]? = some c := by rw [← ep]; exact get0 _ _ _
        have el : (p ++ [c]).length = p.length + 1 := by simp
        rw [el] at ih
        rw [et, ep, textA, e0]
        dsimp only
        rw [if_neg h1, if_neg h2, ih]
        simp [preT]; omega
theorem fig_fig {below : Bool} {c : Nat} (h : 48 ≤ c ∧ c ≤ 57) : figC below (figC below c) = c := by unfold figC; cases below <;> simp; omega
theorem fig_dig {below : Bool} {c : Nat} (h : 48 ≤ c ∧ c ≤ 57) : 48 ≤ figC below c ∧ figC below c ≤ 57 := by unfold figC; cases below <;> simp <;> omega
theorem fig_lead {below : Bool} {c : Nat} (h : 48 ≤ c ∧ c ≤ 57) (e : figC below c = leadC below) : c = 48 := by unfold figC leadC at e; cases below <;> simp at e <;> omega
theorem dig_trip (below : Bool) : ∀ (ds : List Nat) (first : Bool) (p t : List Nat), (∀ c ∈ ds, 48 ≤ c ∧ c ≤ 57) → (first = true → ds.head? ≠ some 48) →
    digA (p ++ (ds.map (figC below) ++ t)) below first ds.length p.length = .inr (ds, p.length + ds.length)
  | [], first, p, t, _, _ => by rw [List.length_nil, digA]; rfl
  | c :: ds, first, p, t, h, hf => by
    have hc := h c List.mem_cons_self
    have ih := dig_trip below ds false (p ++ [figC below c]) t (fun x hx => h x (List.mem_cons_of_mem _ hx)) (fun z => by cases z)
    have ep : p ++ ((c :: ds).map (figC below) ++ t) = p ++ [figC below c] ++ (ds.map (figC below) ++ t) := by simp
    have e0 : (p ++ [figC below c] ++ (ds.map (figC below) ++ t))[p.length]? = some (figC below c) := by rw [← ep]; exact get0 _ _ _
    have el : (p ++ [figC below c]).length = p.length + 1 := by simp
    rw [el] at ih
    rw [ep, List.length_cons, digA, e0]
    dsimp only
    have hd := fig_dig (below := below) hc
    rw [if_pos ⟨hd.1, hd.2, fun z => hf z.1 (by rw [fig_lead hc z.2]; rfl)⟩, ih, fig_fig hc]
    simp [preT]; omega
theorem numL_head : ∀ n : Nat, 0 < n → (numL n).head? ≠ some 48 := fun n => by
  induction n using Nat.strongRecOn with
  | _ n ih =>
    intro h0
    by_cases h : n < 10
    · rw [numL_lt h]; simp; omega
    · have := ih (n / 10) (by omega) (by omega)
      rw [numL_step (by omega : 10 ≤ n)]
      have ne := numL_ne (n / 10)
      cases q : numL (n / 10) with
      | nil => exact absurd q ne
      | cons x r => rw [q] at this; simpa using this
theorem digV_numL {n : Nat} (h : 0 < n) : digV (numL n) = n := by
  obtain ⟨h1, h2, _⟩ := numL_digs n h
  have := digs_val _ n h2
  rw [← h1] at this
  exact this
theorem val_trip {d : D} (h : isVal d = true) (p t : List Nat) : valA (p ++ (codeV d ++ t)) p.length = .inr (d, p.length + (codeV d).length) := by
  have one : ∀ (x : Nat) (d : D), codeV d = [x] → (∀ c, c = x → valA (p ++ c :: t) p.length = .inr (d, p.length + 1)) → valA (p ++ (codeV d ++ t)) p.length = .inr (d, p.length + (codeV d).length) := fun x d e k => by
    rw [e]; exact k x rfl
  unfold isVal at h
  split at h
  · exact one 48 _ rfl fun c e => by unfold valA; rw [get0]; simp [e]
  · rename_i b
    cases b
    · exact one 49 _ rfl fun c e => by unfold valA; rw [get0]; simp [e]
    · exact one 50 _ rfl fun c e => by unfold valA; rw [get0]; simp [e]
  · rename_i i
    have hb := val_bound (i := i) h
    have l30 := numL_le hb
    have lpos : 0 < (numL i.natAbs).length := List.length_pos_iff.mpr (numL_ne _)
    show valA (p ++ (numC i ++ t)) p.length = .inr (.int i, p.length + (numC i).length)
    by_cases i0 : i = 0
    · subst i0
      show valA (p ++ 111 :: t) p.length = _
      unfold valA; rw [get0]; rfl
    have hn : 0 < i.natAbs := by omega
    have key : ∀ (below : Bool) (s k : Nat) (fs : List Nat), fs = (numL i.natAbs).map (figC below) → numC i = s :: k :: fs → (s = 110 ∨ s = 112) → decide (s = 110) = below → 65 ≤ k ∧ k ≤ 95 → cntC below k = (numL i.natAbs).length → sgnC below i.natAbs = i →
        valA (p ++ (numC i ++ t)) p.length = .inr (.int i, p.length + (numC i).length) := fun below s k fs hfs hc hs hbe hk hcnt hsg => by
      rw [hc]
      have ep : p ++ (s :: k :: fs ++ t) = p ++ [s, k] ++ (fs ++ t) := by simp
      have e0 : (p ++ [s, k] ++ (fs ++ t))[p.length]? = some s := by rw [← ep]; exact get0 _ _ _
      have e1 : (p ++ [s, k] ++ (fs ++ t))[p.length + 1]? = some k := by rw [← ep]; exact get1 _ _ _ _
      have ih := dig_trip below (numL i.natAbs) true (p ++ [s, k]) t (numL_digits _) (fun _ => numL_head _ hn)
      rw [← hfs] at ih
      have el : (p ++ [s, k]).length = p.length + 2 := by simp
      rw [el] at ih
      have hnum : numA (p ++ [s, k] ++ (fs ++ t)) below (p.length + 1) = .inr (i, p.length + 2 + (numL i.natAbs).length) := by
        unfold numA
        rw [e1]
        dsimp only
        rw [if_pos ⟨hk.1, hk.2, by rw [hcnt]; exact l30⟩, hcnt, ih]
        dsimp only
        rw [digV_numL hn, hsg]
      have hs116 : s ≠ 116 := by omega
      rw [ep]
      unfold valA
      rw [e0]
      dsimp only
      rw [if_neg hs116, if_pos hs, hbe, hnum]
      simp [hfs]; omega
    by_cases ip : 0 < i
    · have e : numC i = 112 :: (64 + (numL i.natAbs).length) :: numL i.natAbs := by unfold numC; rw [if_neg i0, if_pos ip]
      exact key false 112 _ _ (by rw [show figC false = id from by funext c; rfl, List.map_id]) e (.inr rfl) rfl ⟨by omega, by omega⟩ (by unfold cntC; simp) (by unfold sgnC; simp; omega)
    · have e : numC i = 110 :: (96 - (numL i.natAbs).length) :: (numL i.natAbs).map (105 - ·) := by unfold numC; rw [if_neg i0, if_neg ip]
      exact key true 110 _ _ (by rw [show figC true = (105 - ·) from by funext c; rfl]) e (.inl rfl) rfl ⟨by omega, by omega⟩ (by unfold cntC; simp; omega) (by unfold sgnC; simp; omega)
  · rename_i s
    have hl := (val_text h).2
    have ep : p ++ (codeV (.str s) ++ t) = p ++ [116] ++ (txtC (tl s) ++ t) := by simp [codeV]
    have e0 : (p ++ [116] ++ (txtC (tl s) ++ t))[p.length]? = some 116 := by rw [← ep]; exact get0 _ _ _
    have ih := text_trip (tl s) 200 (p ++ [116]) t (by rw [← len_tl s]; exact hl)
    have el : (p ++ [116]).length = p.length + 1 := by simp
    rw [el] at ih
    rw [ep]
    unfold valA
    rw [e0]
    dsimp only
    rw [if_pos rfl, ih]
    dsimp only
    rw [mkS_tl]
    simp [codeV]; omega
  · cases h
theorem code_pos {d : D} (h : isVal d = true) : 0 < (codeV d).length := by
  obtain ⟨x, r, e⟩ := code_head h
  rw [e]; simp
theorem row_trip : ∀ (r : List D) (n : Nat) (p : List Nat), (∀ d ∈ r, isVal d = true) → (rowC r).length ≤ n → rowA (p ++ rowC r) n p.length = .inr r
  | [], n, p, _, _ => rowA_end (by simp [rowC])
  | d :: r, n, p, h, hl => by
    have hd := h d List.mem_cons_self
    have pos := code_pos hd
    have er : rowC (d :: r) = codeV d ++ rowC r := rfl
    rw [er, List.length_append] at hl
    obtain ⟨m, rfl⟩ : ∃ m, n = m + 1 := ⟨n - 1, by omega⟩
    have ih := row_trip r m (p ++ codeV d) (fun x hx => h x (List.mem_cons_of_mem _ hx)) (by omega)
    rw [List.length_append, List.append_assoc] at ih
    rw [er, rowA, if_pos (by simp; omega), val_trip hd p (rowC r)]
    dsimp only
    rw [ih]
theorem read_row {r : List D} (h : ∀ d ∈ r, isVal d = true) : readA (rowC r) = .inr r := row_trip r _ [] h (Nat.le_refl _)
end Q

namespace K12
open PySem PySem.Spec L2 G TL C Q
def top (i : Nat) : Stmt := PySem.Challenge.pw_heldlevels_k12_codes_told.main.body.getD i (.Pass ⟨0, 0, 0, 0⟩)
abbrev s_is_integer : Stmt := top 9
abbrev n_is_integer : List Str := ["value"]
theorem sc_is_integer : FnScope n_is_integer ["value"] (defScope s_is_integer) := ⟨rfl, rfl, rfl, by decide +kernel, rfl, by decide +kernel, by decide +kernel⟩

abbrev s_is_text : Stmt := top 10
abbrev n_is_text : List Str := ["value", "sign"]
theorem sc_is_text : FnScope n_is_text ["value"] (defScope s_is_text) := ⟨rfl, rfl, rfl, by decide +kernel, rfl, by decide +kernel, by decide +kernel⟩

abbrev s_is_value : Stmt := top 19
abbrev n_is_value : List Str := ["value"]
theorem sc_is_value : FnScope n_is_value ["value"] (defScope s_is_value) := ⟨rfl, rfl, rfl, by decide +kernel, rfl, by decide +kernel, by decide +kernel⟩

abbrev s_text_code : Stmt := top 20
abbrev n_text_code : List Str := ["text", "told", "sign"]
theorem sc_text_code : FnScope n_text_code ["text"] (defScope s_text_code) := ⟨rfl, rfl, rfl, by decide +kernel, rfl, by decide +kernel, by decide +kernel⟩

abbrev s_number_code : Stmt := top 21
abbrev n_number_code : List Str := ["number", "digits", "digit"]
theorem sc_number_code : FnScope n_number_code ["number"] (defScope s_number_code) := ⟨rfl, rfl, rfl, by decide +kernel, rfl, by decide +kernel, by decide +kernel⟩

abbrev s_code_of : Stmt := top 22
abbrev n_code_of : List Str := ["value"]
theorem sc_code_of : FnScope n_code_of ["value"] (defScope s_code_of) := ⟨rfl, rfl, rfl, by decide +kernel, rfl, by decide +kernel, by decide +kernel⟩

abbrev s_value_code : Stmt := top 23
abbrev n_value_code : List Str := ["value"]
theorem sc_value_code : FnScope n_value_code ["value"] (defScope s_value_code) := ⟨rfl, rfl, rfl, by decide +kernel, rfl, by decide +kernel, by decide +kernel⟩

abbrev s_row_code : Stmt := top 24
abbrev n_row_code : List Str := ["values", "value"]
theorem sc_row_code : FnScope n_row_code ["values"] (defScope s_row_code) := ⟨rfl, rfl, rfl, by decide +kernel, rfl, by decide +kernel, by decide +kernel⟩

abbrev s_text_from : Stmt := top 25
abbrev n_text_from : List Str := ["code", "at", "most", "signs"]
theorem sc_text_from : FnScope n_text_from ["code", "at", "most"] (defScope s_text_from) := ⟨rfl, rfl, rfl, by decide +kernel, rfl, by decide +kernel, by decide +kernel⟩

abbrev s_number_from : Stmt := top 26
abbrev n_number_from : List Str := ["code", "at", "below", "found", "many", "digits", "k", "sign"]
theorem sc_number_from : FnScope n_number_from ["code", "at", "below"] (defScope s_number_from) := ⟨rfl, rfl, rfl, by decide +kernel, rfl, by decide +kernel, by decide +kernel⟩

abbrev s_value_from : Stmt := top 27
abbrev n_value_from : List Str := ["code", "at", "sign"]
theorem sc_value_from : FnScope n_value_from ["code", "at"] (defScope s_value_from) := ⟨rfl, rfl, rfl, by decide +kernel, rfl, by decide +kernel, by decide +kernel⟩

abbrev s_values_told : Stmt := top 28
abbrev n_values_told : List Str := ["code", "values", "at", "value"]
theorem sc_values_told : FnScope n_values_told ["code"] (defScope s_values_told) := ⟨rfl, rfl, rfl, by decide +kernel, rfl, by decide +kernel, by decide +kernel⟩

abbrev s_law_jar : Stmt := top 30
abbrev n_law_jar : List Str := ["cell"]
theorem sc_law_jar : FnScope n_law_jar ["cell"] (defScope s_law_jar) := ⟨rfl, rfl, rfl, by decide +kernel, rfl, by decide +kernel, by decide +kernel⟩

abbrev s_law_drawn : Stmt := top 31
abbrev n_law_drawn : List Str := ["jar", "many", "digit"]
theorem sc_law_drawn : FnScope n_law_drawn ["jar", "many"] (defScope s_law_drawn) := ⟨rfl, rfl, rfl, by decide +kernel, rfl, by decide +kernel, by decide +kernel⟩

abbrev s_law_same : Stmt := top 32
abbrev n_law_same : List Str := ["found", "due", "k"]
theorem sc_law_same : FnScope n_law_same ["found", "due"] (defScope s_law_same) := ⟨rfl, rfl, rfl, by decide +kernel, rfl, by decide +kernel, by decide +kernel⟩

abbrev s_law_signs : Stmt := top 33
abbrev n_law_signs : List Str := ["signs"]
theorem sc_law_signs : FnScope n_law_signs [] (defScope s_law_signs) := ⟨rfl, rfl, rfl, by decide +kernel, rfl, by decide +kernel, by decide +kernel⟩

abbrev s_law_code : Stmt := top 34
abbrev n_law_code : List Str := ["value", "counts", "digits", "sign", "digit"]
theorem sc_law_code : FnScope n_law_code ["value"] (defScope s_law_code) := ⟨rfl, rfl, rfl, by decide +kernel, rfl, by decide +kernel, by decide +kernel⟩

abbrev s_law_text : Stmt := top 35
abbrev n_law_text : List Str := ["jar", "signs", "low", "kind", "size", "one", "other", "at", "k"]
theorem sc_law_text : FnScope n_law_text ["jar"] (defScope s_law_text) := ⟨rfl, rfl, rfl, by decide +kernel, rfl, by decide +kernel, by decide +kernel⟩

abbrev s_law_number : Stmt := top 36
abbrev n_law_number : List Str := ["jar", "kind", "many", "below", "power", "k", "found"]
theorem sc_law_number : FnScope n_law_number ["jar"] (defScope s_law_number) := ⟨rfl, rfl, rfl, by decide +kernel, rfl, by decide +kernel, by decide +kernel⟩

abbrev s_law_value : Stmt := top 37
abbrev n_law_value : List Str := ["jar", "kind"]
theorem sc_law_value : FnScope n_law_value ["jar"] (defScope s_law_value) := ⟨rfl, rfl, rfl, by decide +kernel, rfl, by decide +kernel, by decide +kernel⟩

abbrev s_law_text_at : Stmt := top 38
abbrev n_law_text_at : List Str := ["code", "at", "text", "turn", "sign"]
theorem sc_law_text_at : FnScope n_law_text_at ["code", "at"] (defScope s_law_text_at) := ⟨rfl, rfl, rfl, by decide +kernel, rfl, by decide +kernel, by decide +kernel⟩

abbrev s_law_number_at : Stmt := top 39
abbrev n_law_number_at : List Str := ["code", "at", "below", "counts", "many", "number", "k"]
theorem sc_law_number_at : FnScope n_law_number_at ["code", "at", "below"] (defScope s_law_number_at) := ⟨rfl, rfl, rfl, by decide +kernel, rfl, by decide +kernel, by decide +kernel⟩

abbrev s_law_read : Stmt := top 40
abbrev n_law_read : List Str := ["code", "row", "at", "sign", "good", "value"]
theorem sc_law_read : FnScope n_law_read ["code"] (defScope s_law_read) := ⟨rfl, rfl, rfl, by decide +kernel, rfl, by decide +kernel, by decide +kernel⟩

abbrev s_law_told : Stmt := top 41
abbrev n_law_told : List Str := ["code", "found", "e"]
theorem sc_law_told : FnScope n_law_told ["code"] (defScope s_law_told) := ⟨rfl, rfl, rfl, by decide +kernel, rfl, by decide +kernel, by decide +kernel⟩

abbrev s_law_refused : Stmt := top 42
abbrev n_law_refused : List Str := ["values", "found"]
theorem sc_law_refused : FnScope n_law_refused ["values"] (defScope s_law_refused) := ⟨rfl, rfl, rfl, by decide +kernel, rfl, by decide +kernel, by decide +kernel⟩

abbrev s_law_spoilt : Stmt := top 43
abbrev n_law_spoilt : List Str := ["jar", "code", "turn", "kind", "at", "sign"]
theorem sc_law_spoilt : FnScope n_law_spoilt ["jar", "code"] (defScope s_law_spoilt) := ⟨rfl, rfl, rfl, by decide +kernel, rfl, by decide +kernel, by decide +kernel⟩

abbrev s_law_edges : Stmt := top 44
abbrev n_law_edges : List Str := ["long", "found"]
theorem sc_law_edges : FnScope n_law_edges [] (defScope s_law_edges) := ⟨rfl, rfl, rfl, by decide +kernel, rfl, by decide +kernel, by decide +kernel⟩

abbrev s_law_value_refused : Stmt := top 45
abbrev n_law_value_refused : List Str := ["value", "caught", "e"]
theorem sc_law_value_refused : FnScope n_law_value_refused ["value"] (defScope s_law_value_refused) := ⟨rfl, rfl, rfl, by decide +kernel, rfl, by decide +kernel, by decide +kernel⟩

abbrev s_law : Stmt := top 46
abbrev n_law : List Str := ["script", "code", "value", "cell", "jar", "row", "turn", "other", "at", "bad", "odd", "values", "k"]
theorem sc_law : FnScope n_law ["script"] (defScope s_law) := ⟨rfl, rfl, rfl, by decide +kernel, rfl, by decide +kernel, by decide +kernel⟩

abbrev a_InvalidCode : Addr := 82
abbrev a_InvalidRow : Addr := 49
abbrev a_InvalidText : Addr := 37
abbrev a_InvalidValue : Addr := 61
abbrev a_StoreError : Addr := 24
abbrev s_InvalidCode : Stmt := clsDef 0 (top 5)
theorem su_InvalidCode : SupSt s_InvalidCode "index" "index" where
  body := ⟨_, _, _, _, _, _, _, _, _, _, _, _, rfl, fun _ => ⟨_, rfl⟩⟩
  hd := ⟨_, rfl, rfl⟩
  kS := by decide +kernel
  kC := by decide +kernel
  k1 := by decide +kernel
  k2 := by decide +kernel
  kc := by decide +kernel
  nx := by decide +kernel
  ndb := by decide +kernel
  ki := rfl
  co := rfl
  gn := rfl
  bd := fun _ _ _ _ _ _ _ _ us hl => match us, hl with | [_, _], _ => rfl
structure Txt (P : Program) (K : PySem.W.Frag) (mg : Str → Option Value) : Prop where
  f_is_integer : DefAt K mg "is_integer" s_is_integer ["value"]
  f_is_text : DefAt K mg "is_text" s_is_text ["value"]
  f_is_value : DefAt K mg "is_value" s_is_value ["value"]
  f_text_code : DefAt K mg "text_code" s_text_code ["text"]
  f_number_code : DefAt K mg "number_code" s_number_code ["number"]
  f_code_of : DefAt K mg "code_of" s_code_of ["value"]
  f_value_code : DefAt K mg "value_code" s_value_code ["value"]
  f_row_code : DefAt K mg "row_code" s_row_code ["values"]
  f_text_from : DefAt K mg "text_from" s_text_from ["code", "at", "most"]
  f_number_from : DefAt K mg "number_from" s_number_from ["code", "at", "below"]
  f_value_from : DefAt K mg "value_from" s_value_from ["code", "at"]
  f_values_told : DefAt K mg "values_told" s_values_told ["code"]
  f_law_jar : DefAt K mg "_law_jar" s_law_jar ["cell"]
  f_law_drawn : DefAt K mg "_law_drawn" s_law_drawn ["jar", "many"]
  f_law_same : DefAt K mg "_law_same" s_law_same ["found", "due"]
  f_law_signs : DefAt K mg "_law_signs" s_law_signs []
  f_law_code : DefAt K mg "_law_code" s_law_code ["value"]
  f_law_text : DefAt K mg "_law_text" s_law_text ["jar"]
  f_law_number : DefAt K mg "_law_number" s_law_number ["jar"]
  f_law_value : DefAt K mg "_law_value" s_law_value ["jar"]
  f_law_text_at : DefAt K mg "_law_text_at" s_law_text_at ["code", "at"]
  f_law_number_at : DefAt K mg "_law_number_at" s_law_number_at ["code", "at", "below"]
  f_law_read : DefAt K mg "_law_read" s_law_read ["code"]
  f_law_told : DefAt K mg "_law_told" s_law_told ["code"]
  f_law_refused : DefAt K mg "_law_refused" s_law_refused ["values"]
  f_law_spoilt : DefAt K mg "_law_spoilt" s_law_spoilt ["jar", "code"]
  f_law_edges : DefAt K mg "_law_edges" s_law_edges []
  f_law_value_refused : DefAt K mg "_law_value_refused" s_law_value_refused ["value"]
  f_law : DefAt K mg "law" s_law ["script"]
  b_abs : mg "abs" = none
  b_all : mg "all" = none
  b_bool : mg "bool" = none
  b_int : mg "int" = none
  b_isinstance : mg "isinstance" = none
  b_len : mg "len" = none
  b_list : mg "list" = none
  b_max : mg "max" = none
  b_range : mg "range" = none
  b_str : mg "str" = none
  b_tuple : mg "tuple" = none
  c_COUNTS : ∃ u, mg "COUNTS" = some u ∧ RelV (.str "ABCDEFGHIJKLMNOPQRSTUVWXYZ[\\]^_") u
  c_DIGITS : ∃ u, mg "DIGITS" = some u ∧ RelV (.str "0123456789") u
  c_END : ∃ u, mg "END" = some u ∧ RelV (.str " ") u
  c_GREATEST_SIGN : ∃ u, mg "GREATEST_SIGN" = some u ∧ RelV (.str "~") u
  c_LEAST_SIGN : ∃ u, mg "LEAST_SIGN" = some u ∧ RelV (.str " ") u
  c_MARK : ∃ u, mg "MARK" = some u ∧ RelV (.str "!") u
  c_MOST_FIGURES : ∃ u, mg "MOST_FIGURES" = some u ∧ RelV (.int 30) u
  c_MOST_INTEGER : ∃ u, mg "MOST_INTEGER" = some u ∧ RelV (.int 999999999999999999999999999999) u
  c_MOST_SIGNS : ∃ u, mg "MOST_SIGNS" = some u ∧ RelV (.int 200) u
  xf_InvalidCode : ExcF P K mg "InvalidCode" a_InvalidCode "index"
  x_InvalidRow : ExcAt K mg "InvalidRow" a_InvalidRow
  x_InvalidText : ExcAt K mg "InvalidText" a_InvalidText
  x_InvalidValue : ExcAt K mg "InvalidValue" a_InvalidValue
  x_StoreError : ExcAt K mg "StoreError" a_StoreError
  xa_InvalidCode_index : XfAt K a_InvalidCode "index"
  m_InvalidCode_InvalidCode : PySem.W.exmOne K (.ref a_InvalidCode) (.ref a_InvalidCode) = some true
  m_InvalidCode_InvalidRow : PySem.W.exmOne K (.ref a_InvalidCode) (.ref a_InvalidRow) = some false
  m_InvalidCode_InvalidText : PySem.W.exmOne K (.ref a_InvalidCode) (.ref a_InvalidText) = some false
  m_InvalidCode_StoreError : PySem.W.exmOne K (.ref a_InvalidCode) (.ref a_StoreError) = some true
  m_InvalidRow_InvalidCode : PySem.W.exmOne K (.ref a_InvalidRow) (.ref a_InvalidCode) = some false
  m_InvalidRow_InvalidRow : PySem.W.exmOne K (.ref a_InvalidRow) (.ref a_InvalidRow) = some true
  m_InvalidRow_InvalidText : PySem.W.exmOne K (.ref a_InvalidRow) (.ref a_InvalidText) = some false
  m_InvalidRow_StoreError : PySem.W.exmOne K (.ref a_InvalidRow) (.ref a_StoreError) = some true
  m_InvalidText_InvalidCode : PySem.W.exmOne K (.ref a_InvalidText) (.ref a_InvalidCode) = some false
  m_InvalidText_InvalidRow : PySem.W.exmOne K (.ref a_InvalidText) (.ref a_InvalidRow) = some false
  m_InvalidText_InvalidText : PySem.W.exmOne K (.ref a_InvalidText) (.ref a_InvalidText) = some true
  m_InvalidText_StoreError : PySem.W.exmOne K (.ref a_InvalidText) (.ref a_StoreError) = some true
  m_InvalidValue_InvalidCode : PySem.W.exmOne K (.ref a_InvalidValue) (.ref a_InvalidCode) = some false
  m_InvalidValue_InvalidRow : PySem.W.exmOne K (.ref a_InvalidValue) (.ref a_InvalidRow) = some false
  m_InvalidValue_InvalidText : PySem.W.exmOne K (.ref a_InvalidValue) (.ref a_InvalidText) = some false
  m_InvalidValue_StoreError : PySem.W.exmOne K (.ref a_InvalidValue) (.ref a_StoreError) = some true
  i_InvalidCode_InvalidRow : IsAt K a_InvalidCode a_InvalidRow false
  i_InvalidCode_InvalidValue : IsAt K a_InvalidCode a_InvalidValue false
  i_InvalidRow_InvalidRow : IsAt K a_InvalidRow a_InvalidRow true
  i_InvalidRow_InvalidValue : IsAt K a_InvalidRow a_InvalidValue false
  i_InvalidText_InvalidRow : IsAt K a_InvalidText a_InvalidRow false
  i_InvalidText_InvalidValue : IsAt K a_InvalidText a_InvalidValue false
  i_InvalidValue_InvalidRow : IsAt K a_InvalidValue a_InvalidRow false
  i_InvalidValue_InvalidValue : IsAt K a_InvalidValue a_InvalidValue true

/-! ### what the defs promise -/
def Any1 (d : D) : Prop := d = .non ∨ (∃ b, d = .bl b) ∨ (∃ i, d = .int i) ∨ (∃ s, d = .str s ∧ s.length ≤ 100000) ∨ (∃ ds, d = .tup ds) ∨ ∃ ds, d = .lst ds
def isRow1 : D → Bool
  | .tup r => r.all isVal
  | _ => false
def SmR (d : D) : Prop := ∀ r, d = .tup r → r.length ≤ 20 ∧ ∀ x ∈ r, Any1 x
def resD : Nat ⊕ List D → D
  | .inl e => .tup [.int e, .non]
  | .inr r => .tup [.non, .tup r]
def CodeOk (l : List Nat) : Prop := Pr l ∧ l.length ≤ 10000
def sp_is_integer : SpD := fun ds W Q _ => ∃ d, ds = [d] ∧ Any1 d ∧ Q (.bl (isIntD d)) W
def d_is_integer : TSD := (dRet (dAnd (dCB dIsi (dCons (dVar 0) (dCons (dC (.ty "int")) dNil))) (dNot (dCB dIsi (dCons (dVar 0) (dCons (dC (.ty "bool")) dNil))))))

def sp_is_text : SpD := fun ds W Q _ => ∃ d, ds = [d] ∧ Any1 d ∧ Q (.bl (isTextD d)) W
def d_is_text : TSD := (dRet (dAnd (dCB dIsi (dCons (dVar 0) (dCons (dC (.ty "str")) dNil))) (dCB dAll (dCons (dFresh (dLc (iStrD (dVar 0)) (gdName 1) dYes (dChain dLe dLe (dC (.str " ")) (dVar 1) (dC (.str "~"))) [1])) dNil))))

def sp_is_value : SpD := fun ds W Q _ => ∃ d, ds = [d] ∧ Any1 d ∧ Q (.bl (isVal d)) W
def d_is_value : TSD := (dSeq (dIfS (dOrB (dBool (dOp dIsA (dVar 0) (dC .non))) (dBool (dCB dIsi (dCons (dVar 0) (dCons (dC (.ty "bool")) dNil))))) (dRet (dC (.bl true))) dNext)
  (dSeq (dIfS (dBool (dCall sp_is_integer 1 (dCons (dVar 0) dNil))) (dRet (dOp dLe (dCB dAbs (dCons (dVar 0) dNil)) (dC (.int 999999999999999999999999999999)))) dNext)
  (dRet (dAnd (dCall sp_is_text 1 (dCons (dVar 0) dNil)) (dOp dLe (dCB dLen (dCons (dVar 0) dNil)) (dC (.int 200)))))))

def sp_text_code : SpD := fun ds W Q _ => ∃ s : Str, ds = [.str s] ∧ isVal (.str s) = true ∧ Q (.str (mkS (txtC (tl s)))) W
def d_text_code : TSD := (dSeq (dAsg (dDisp [((dC (.str " ")), (dOp dAdd (dC (.str "!")) (dC (.str "a")))), ((dC (.str "!")), (dOp dAdd (dC (.str "!")) (dC (.str "b"))))]) (gdName 1))
  (dRet (dOp dAdd (dM dJoin (dC (.str "")) (dCons (dFresh (dLc (iStrD (dVar 0)) (gdName 2) dYes (dDGet2 (dVar 1) (dVar 2) (dVar 2)) [2])) dNil)) (dC (.str " ")))))

def sp_number_code : SpD := fun ds W Q _ => ∃ i : Int, ds = [.int i] ∧ isVal (.int i) = true ∧ Q (.str (mkS (numC i))) W
def d_number_code : TSD := (dSeq (dIfS (dBool (dOp dEq (dVar 0) (dC (.int 0)))) (dRet (dC (.str "o"))) dNext)
  (dSeq (dAsg (dCB dStrC (dCons (dCB dAbs (dCons (dVar 0) dNil)) dNil)) (gdName 1))
  (dSeq (dIfS (dBool (dOp dGt (dVar 0) (dC (.int 0)))) (dRet (dOp dAdd (dOp dAdd (dC (.str "p")) (dOp dIx (dC (.str "ABCDEFGHIJKLMNOPQRSTUVWXYZ[\\]^_")) (dOp dSub (dCB dLen (dCons (dVar 1) dNil)) (dC (.int 1))))) (dVar 1))) dNext)
  (dRet (dOp dAdd (dOp dAdd (dC (.str "n")) (dOp dIx (dC (.str "ABCDEFGHIJKLMNOPQRSTUVWXYZ[\\]^_")) (dOp dSub (dOp dAdd (dC (.int 30)) (dC (.int 1))) (dCB dLen (dCons (dVar 1) dNil))))) (dM dJoin (dC (.str "")) (dCons (dFresh (dLc (iStrD (dVar 1)) (gdName 2) dYes (dCB dStrC (dCons (dOp dSub (dC (.int 9)) (dCB dIntC (dCons (dVar 2) dNil))) dNil)) [2])) dNil)))))))

def sp_code_of : SpD := fun ds W Q _ => ∃ d, ds = [d] ∧ isVal d = true ∧ Q (.str (mkS (codeV d))) W
def d_code_of : TSD := (dSeq (dIfS (dOrB (dBool (dOp dIsA (dVar 0) (dC .non))) (dOrB (dBool (dOp dIsA (dVar 0) (dC (.bl false)))) (dBool (dOp dIsA (dVar 0) (dC (.bl true)))))) (dRet (dIf (dBool (dOp dIsA (dVar 0) (dC .non))) (dC (.str "0")) (dCB dStrC (dCons (dOp dAdd (dC (.int 1)) (dCB dIntC (dCons (dVar 0) dNil))) dNil)))) dNext)
  (dRet (dIf (dBool (dCB dIsi (dCons (dVar 0) (dCons (dC (.ty "str")) dNil)))) (dOp dAdd (dC (.str "t")) (dCall sp_text_code 1 (dCons (dVar 0) dNil))) (dCall sp_number_code 1 (dCons (dVar 0) dNil)))))

def sp_value_code : SpD := fun ds W Q Qx => ∃ d, ds = [d] ∧ Any1 d ∧ (isVal d = true → Q (.str (mkS (codeV d))) W) ∧ (isVal d = false → Qx (.ref a_InvalidValue) none W)
def d_value_code : TSD := (dSeq (dIfS (dNotB (dBool (dCall sp_is_value 1 (dCons (dVar 0) dNil)))) (dRaise (.ref a_InvalidValue)) dNext)
  (dRet (dCall sp_code_of 1 (dCons (dVar 0) dNil))))

def sp_row_code : SpD := fun ds W Q Qx => ∃ d, ds = [d] ∧ Any1 d ∧ SmR d ∧ (∀ r, d = .tup r → (∀ x ∈ r, isVal x = true) → Q (.str (mkS (rowC r))) W) ∧ (isRow1 d = false → Qx (.ref a_InvalidRow) none W)
def d_row_code : TSD := (dSeq (dIfS (dOrB (dNotB (dBool (dCB dIsi (dCons (dVar 0) (dCons (dC (.ty "tuple")) dNil))))) (dNotB (dBool (dCB dAll (dCons (dFresh (dLc (iTupD (dVar 0)) (gdName 1) dYes (dCall sp_is_value 1 (dCons (dVar 1) dNil)) [1])) dNil))))) (dRaise (.ref a_InvalidRow)) dNext)
  (dRet (dM dJoin (dC (.str "")) (dCons (dFresh (dLc (iTupD (dVar 0)) (gdName 1) dYes (dCall sp_code_of 1 (dCons (dVar 1) dNil)) [1])) dNil))))

def sp_text_from : SpD := fun ds W Q Qx => ∃ (l : List Nat) (a : Nat), ds = [.str (mkS l), .int a, .int 200] ∧ CodeOk l ∧ a ≤ l.length ∧
  (match textA l 200 a with | .inl e => Qx (.ref a_InvalidCode) (some [("index", .int e)]) W | .inr (t, b) => Q (.tup [.str (mkS t), .int b]) W)
def d_text_from : TSD := (dSeq (dAsgO 3 (dLstN dNil))
  (dSeq (dWhile (dBool (dOp dNe (dSl dCut (dVar 0) (dPart (dVar 1)) (dPart (dOp dAdd (dVar 1) (dC (.int 1))))) (dC (.str " "))))
  (dSeq (dIfS (dOrB (dBool (dOp dEq (dVar 1) (dCB dLen (dCons (dVar 0) dNil)))) (dBool (dOp dEq (dLenO 3) (dVar 2)))) (dRaiseF (.ref a_InvalidCode) "index" (dVar 1)) dNext)
  (dSeq (dIfS (dBool (dOp dEq (dOp dIx (dVar 0) (dVar 1)) (dC (.str "!")))) (dSeq (dAug 1 dIadd (dC (.int 1)))
  (dSeq (dIfS (dBool (dOp (dIn true) (dSl dCut (dVar 0) (dPart (dVar 1)) (dPart (dOp dAdd (dVar 1) (dC (.int 1))))) (dTup (dCons (dC (.str "a")) (dCons (dC (.str "b")) dNil))))) (dRaiseF (.ref a_InvalidCode) "index" (dVar 1)) dNext)
  (dApp 3 (dIf (dBool (dOp dEq (dOp dIx (dVar 0) (dVar 1)) (dC (.str "a")))) (dC (.str " ")) (dC (.str "!")))))) (dApp 3 (dOp dIx (dVar 0) (dVar 1))))
  (dAug 1 dIadd (dC (.int 1))))))
  (dFrz 3 (dRet (dTup (dCons (dM dJoin (dC (.str "")) (dCons (dVar 3) dNil)) (dCons (dOp dAdd (dVar 1) (dC (.int 1))) dNil)))))))

def sp_number_from : SpD := fun ds W Q Qx => ∃ (l : List Nat) (a : Nat) (below : Bool), ds = [.str (mkS l), .int a, .bl below] ∧ CodeOk l ∧ a ≤ l.length ∧
  (match numA l below a with | .inl e => Qx (.ref a_InvalidCode) (some [("index", .int e)]) W | .inr (i, b) => Q (.tup [.int i, .int b]) W)
def d_number_from : TSD := (dSeq (dAsg (dIf (dBool (dOp dLt (dVar 1) (dCB dLen (dCons (dVar 0) dNil)))) (dM (dM1 fun a b => .int (Txt.find a b)) (dC (.str "ABCDEFGHIJKLMNOPQRSTUVWXYZ[\\]^_")) (dCons (dOp dIx (dVar 0) (dVar 1)) dNil)) (dNeg (dC (.int 1)))) (gdName 3))
  (dSeq (dAsg (dIf (dAndB (dBool (dVar 2)) (dBool (dOp dGe (dVar 3) (dC (.int 0))))) (dOp dSub (dOp dAdd (dC (.int 30)) (dC (.int 1))) (dVar 3)) (dOp dAdd (dVar 3) (dC (.int 1)))) (gdName 4))
  (dSeq (dIfS (dNotB (dBool (dChain dLe dLe (dC (.int 1)) (dVar 4) (dC (.int 30))))) (dRaiseF (.ref a_InvalidCode) "index" (dVar 1)) dNext)
  (dSeq (dAsg (dC (.str "")) (gdName 5))
  (dSeq (dFor (iRngD1 (dCons (dVar 4) dNil)) (gdName 6)
  (dSeq (dAsg (dSl dCut (dVar 0) (dPart (dOp dAdd (dOp dAdd (dVar 1) (dC (.int 1))) (dVar 6))) (dPart (dOp dAdd (dOp dAdd (dVar 1) (dC (.int 2))) (dVar 6)))) (gdName 7))
  (dSeq (dIfS (dOrB (dBool (dOp dEq (dVar 7) (dC (.str "")))) (dOrB (dBool (dOp (dIn true) (dVar 7) (dC (.str "0123456789")))) (dAndB (dBool (dOp dEq (dVar 6) (dC (.int 0)))) (dBool (dOp dEq (dVar 7) (dIf (dBool (dVar 2)) (dC (.str "9")) (dC (.str "0")))))))) (dRaiseF (.ref a_InvalidCode) "index" (dOp dAdd (dOp dAdd (dVar 1) (dC (.int 1))) (dVar 6))) dNext)
  (dAug 5 dIaS (dIf (dBool (dVar 2)) (dCB dStrC (dCons (dOp dSub (dC (.int 9)) (dCB dIntC (dCons (dVar 7) dNil))) dNil)) (dVar 7))))))
  (dRet (dTup (dCons (dIf (dBool (dVar 2)) (dOp dSub (dC (.int 0)) (dCB dIntC (dCons (dVar 5) dNil))) (dCB dIntC (dCons (dVar 5) dNil))) (dCons (dOp dAdd (dOp dAdd (dVar 1) (dC (.int 1))) (dVar 4)) dNil)))))))))

def sp_value_from : SpD := fun ds W Q Qx => ∃ (l : List Nat) (a : Nat), ds = [.str (mkS l), .int a] ∧ CodeOk l ∧ a < l.length ∧
  (match valA l a with | .inl e => Qx (.ref a_InvalidCode) (some [("index", .int e)]) W | .inr (d, b) => Q (.tup [d, .int b]) W)
def d_value_from : TSD := (dSeq (dAsg (dSl dCut (dVar 0) (dPart (dVar 1)) (dPart (dOp dAdd (dVar 1) (dC (.int 1))))) (gdName 2))
  (dSeq (dIfS (dBool (dOp dEq (dVar 2) (dC (.str "t")))) (dRet (dCall sp_text_from 3 (dCons (dVar 0) (dCons (dOp dAdd (dVar 1) (dC (.int 1))) (dCons (dC (.int 200)) dNil))))) dNext)
  (dSeq (dIfS (dBool (dOp (dIn false) (dVar 2) (dTup (dCons (dC (.str "n")) (dCons (dC (.str "p")) dNil))))) (dRet (dCall sp_number_from 3 (dCons (dVar 0) (dCons (dOp dAdd (dVar 1) (dC (.int 1))) (dCons (dOp dEq (dVar 2) (dC (.str "n"))) dNil))))) dNext)
  (dSeq (dIfS (dBool (dOp (dIn true) (dVar 2) (dTup (dCons (dC (.str "0")) (dCons (dC (.str "1")) (dCons (dC (.str "2")) (dCons (dC (.str "o")) dNil))))))) (dRaiseF (.ref a_InvalidCode) "index" (dVar 1)) dNext)
  (dRet (dTup (dCons (dDGet (dDisp [((dC (.str "0")), (dC .non)), ((dC (.str "1")), (dC (.bl false))), ((dC (.str "2")), (dC (.bl true))), ((dC (.str "o")), (dC (.int 0)))]) (dVar 2)) (dCons (dOp dAdd (dVar 1) (dC (.int 1))) dNil))))))))

def sp_values_told : SpD := fun ds W Q Qx => ∃ d, ds = [d] ∧ Any1 d ∧ (isTextD d = false → Qx (.ref a_InvalidText) none W) ∧ (∀ l, d = .str (mkS l) → Pr l → l.length ≤ 10000 ∧
  (match readA l with | .inl e => Qx (.ref a_InvalidCode) (some [("index", .int e)]) W | .inr r => Q (.tup r) W))
def d_values_told : TSD := (dSeq (dIfS (dNotB (dBool (dCall sp_is_text 1 (dCons (dVar 0) dNil)))) (dRaise (.ref a_InvalidText)) dNext)
  (dSeq (dAsg (dTup (dCons (dTup dNil) (dCons (dC (.int 0)) dNil))) (gdTup 2 (gdCons (gdName 1) (gdCons (gdName 2) gdNil))))
  (dSeq (dWhile (dBool (dOp dLt (dVar 2) (dCB dLen (dCons (dVar 0) dNil))))
  (dSeq (dAsg (dCall sp_value_from 2 (dCons (dVar 0) (dCons (dVar 2) dNil))) (gdTup 2 (gdCons (gdName 3) (gdCons (gdName 2) gdNil))))
  (dAsg (dOp dAdd (dVar 1) (dTup (dCons (dVar 3) dNil))) (gdName 1))))
  (dRet (dVar 1)))))

def sp_law_jar : SpD := fun ds W Q _ => ∃ z : Int, ds = [.int z] ∧ ∀ W' p, JarOk W' p → Q (.ref p) W'
def d_law_jar : TSD := (dSeq (dAsg (dOp dMod (dCB dIntC (dCons (dVar 0) dNil)) (dOp dMulA (dOp dMulA (dOp dPow (dC (.int 10)) (dC (.int 64))) (dOp dPow (dC (.int 10)) (dC (.int 64)))) (dOp dPow (dC (.int 10)) (dC (.int 64))))) (gdName 0))
  (dRetW (dLstN (dCons (dCB (dC2 fun i j => if j > i then j else i) (dCons (dC (.int 0)) (dCons (dOp dSub (dVar 0) (dOp dPow (dC (.int 10)) (dC (.int 18)))) dNil))) (dCons (dOp dAdd (dOp dMod (dVar 0) (dC (.int 2147483629))) (dC (.int 3))) dNil)))))

def sp_law_drawn : SpD := fun ds W Q _ => ∃ (p : Addr) (many : Int), ds = [.ref p, .int many] ∧ JarOk W p ∧ 0 < many ∧ many ≤ 1000000000 ∧ ∀ r W', 0 ≤ r → r < many → JarOk W' p → Q (.int r) W'
def d_law_drawn : TSD := (dSeq (dIfS (dBool (dOp dGt (dIxW (dVar 0) (dC (.int 0))) (dC (.int 0)))) (dSeq (dAsg (dOp dMod (dCB dIntC (dCons (dIxW (dVar 0) (dC (.int 0))) dNil)) (dVar 1)) (gdName 2))
  (dSeq (dSetW (dOp dFdv (dIxW (dVar 0) (dC (.int 0))) (dVar 1)) (dVar 0) (dC (.int 0)))
  (dRet (dVar 2)))) dNext)
  (dSeq (dSetW (dOp dMod (dCB dIntC (dCons (dOp dAdd (dOp dMulA (dIxW (dVar 0) (dC (.int 1))) (dC (.int 48271))) (dC (.int 12820163))) dNil)) (dC (.int 2147483647))) (dVar 0) (dC (.int 1)))
  (dRet (dOp dMod (dOp dFdv (dOp dMod (dCB dIntC (dCons (dOp dMulA (dIxW (dVar 0) (dC (.int 1))) (dIxW (dVar 0) (dC (.int 1)))) dNil)) (dC (.int 2147483629))) (dC (.int 64))) (dVar 1)))))

/-- None, truths, ints, texts and what is made of them, n deep -/
def plainN : Nat → D → Prop
  | _, .v .non => True
  | _, .v (.bl _) => True
  | _, .v (.int _) => True
  | _, .v (.str _) => True
  | n + 1, .tup ds => ds.length ≤ 100000 ∧ ∀ d ∈ ds, plainN n d
  | n + 1, .lst ds => ds.length ≤ 100000 ∧ ∀ d ∈ ds, plainN n d
  | _, _ => False
def spn_law_same (n : Nat) : SpD := fun ds W Q _ => ∃ d, ds = [d, d] ∧ plainN n d ∧ Q (.bl true) W
abbrev sp_law_same : SpD := spn_law_same 3
def d_law_same (sp0 : SpD) : TSD := (dSeq (dIfS (dBool (dOp dIsA (dVar 1) (dC .non))) (dRet (dOp dIsA (dVar 0) (dC .non))) dNext)
  (dSeq (dIfS (dBool (dOp dIsA (dVar 1) (dC (.bl true)))) (dRet (dOp dIsA (dVar 0) (dC (.bl true)))) dNext)
  (dSeq (dIfS (dBool (dOp dIsA (dVar 1) (dC (.bl false)))) (dRet (dOp dIsA (dVar 0) (dC (.bl false)))) dNext)
  (dSeq (dIfS (dBool (dCB dIsi (dCons (dVar 1) (dCons (dC (.ty "int")) dNil)))) (dRet (dAnd (dCB dIsi (dCons (dVar 0) (dCons (dC (.ty "int")) dNil))) (dAnd (dNot (dCB dIsi (dCons (dVar 0) (dCons (dC (.ty "bool")) dNil)))) (dOp dEq (dVar 0) (dVar 1))))) dNext)
  (dSeq (dIfS (dBool (dCB dIsi (dCons (dVar 1) (dCons (dC (.ty "str")) dNil)))) (dRet (dAnd (dCB dIsi (dCons (dVar 0) (dCons (dC (.ty "str")) dNil))) (dOp dEq (dVar 0) (dVar 1)))) dNext)
  (dSeq (dIfS (dOrB (dBool (dOp dNe (dCB dIsi (dCons (dVar 1) (dCons (dC (.ty "tuple")) dNil))) (dCB dIsi (dCons (dVar 0) (dCons (dC (.ty "tuple")) dNil))))) (dBool (dOp dNe (dCB dIsi (dCons (dVar 1) (dCons (dC (.ty "list")) dNil))) (dCB dIsi (dCons (dVar 0) (dCons (dC (.ty "list")) dNil)))))) (dRet (dC (.bl false))) dNext)
  (dRet (dAnd (dOp dEq (dCB dLen (dCons (dVar 0) dNil)) (dCB dLen (dCons (dVar 1) dNil))) (dCB dAll (dCons (dFresh (dLc (iRngD1 (dCons (dCB dLen (dCons (dVar 1) dNil)) dNil)) (gdName 2) dYes (dCall sp0 2 (dCons (dOp dIx (dVar 0) (dVar 2)) (dCons (dOp dIx (dVar 1) (dVar 2)) dNil))) [2])) dNil))))))))))

def sp_law_signs : SpD := fun ds W Q _ => ds = [] ∧ Q (.str (mkS signs1)) W
def d_law_signs : TSD := (dSeq (dAsg (dC (.str " !\"#$&'()*+,-./0123456789:;<=>?@ABCDEFGHIJKLMNOPQRSTUVWXYZ[\\]^_`")) (gdName 0))
  (dRet (dOp dAdd (dVar 0) (dC (.str "abcdefghijklmnopqrstuvwxyz{|}~")))))

def sp_law_code : SpD := fun ds W Q _ => ∃ d, ds = [d] ∧ isVal d = true ∧ Q (.str (mkS (codeV d))) W
def d_law_code : TSD := (dSeq (dIfS (dOrB (dBool (dOp dIsA (dVar 0) (dC .non))) (dOrB (dBool (dOp dIsA (dVar 0) (dC (.bl false)))) (dBool (dOp dIsA (dVar 0) (dC (.bl true)))))) (dRet (dIf (dBool (dOp dIsA (dVar 0) (dC .non))) (dC (.str "0")) (dOp dIx (dLst (dCons (dC (.str "1")) (dCons (dC (.str "2")) dNil))) (dCB dIntC (dCons (dVar 0) dNil))))) dNext)
  (dSeq (dAsg (dC (.str "ABCDEFGHIJKLMNOPQRSTUVWXYZ[\\]^_")) (gdName 1))
  (dSeq (dIfS (dBool (dCB dIsi (dCons (dVar 0) (dCons (dC (.ty "str")) dNil)))) (dRet (dOp dAdd (dOp dAdd (dC (.str "t")) (dM dJoin (dC (.str "")) (dCons (dFresh (dLc (iStrD (dVar 0)) (gdName 3) dYes (dDGet2 (dDisp [((dC (.str " ")), (dC (.str "!a"))), ((dC (.str "!")), (dC (.str "!b")))]) (dVar 3) (dVar 3)) [3])) dNil))) (dC (.str " ")))) dNext)
  (dSeq (dIfS (dBool (dOp dEq (dVar 0) (dC (.int 0)))) (dRet (dC (.str "o"))) dNext)
  (dSeq (dAsg (dCB dStrC (dCons (dCB dAbs (dCons (dVar 0) dNil)) dNil)) (gdName 2))
  (dSeq (dIfS (dBool (dOp dGt (dVar 0) (dC (.int 0)))) (dRet (dOp dAdd (dOp dAdd (dC (.str "p")) (dOp dIx (dVar 1) (dOp dSub (dCB dLen (dCons (dVar 2) dNil)) (dC (.int 1))))) (dVar 2))) dNext)
  (dRet (dOp dAdd (dOp dAdd (dC (.str "n")) (dOp dIx (dVar 1) (dOp dSub (dC (.int 31)) (dCB dLen (dCons (dVar 2) dNil))))) (dM dJoin (dC (.str "")) (dCons (dFresh (dLc (iStrD (dVar 2)) (gdName 4) dYes (dOp dIx (dC (.str "9876543210")) (dCB dIntC (dCons (dVar 4) dNil))) [4])) dNil))))))))))

def sp_law_text : SpD := fun ds W Q _ => ∃ p : Addr, ds = [.ref p] ∧ JarOk W p ∧ ∀ s W', isVal (.str s) = true → JarOk W' p → Q (.str s) W'
def d_law_text : TSD := (dSeq (dAsg (dTup (dCons (dCall sp_law_signs 0 dNil) (dCons (dC (.str " !\"a")) (dCons (dCall sp_law_drawn 2 (dCons (dVar 0) (dCons (dC (.int 8)) dNil))) dNil)))) (gdTup 3 (gdCons (gdName 1) (gdCons (gdName 2) (gdCons (gdName 3) gdNil)))))
  (dSeq (dIfS (dBool (dOp dEq (dVar 3) (dC (.int 0)))) (dSeq (dAsg (dOp dSub (dC (.int 200)) (dCall sp_law_drawn 2 (dCons (dVar 0) (dCons (dC (.int 3)) dNil)))) (gdName 4))
  (dSeq (dPar3 5 6 7 (dCons (dOp dIx (dVar 1) (dCall sp_law_drawn 2 (dCons (dVar 0) (dCons (dC (.int 94)) dNil)))) (dCons (dOp dIx (dVar 2) (dCall sp_law_drawn 2 (dCons (dVar 0) (dCons (dC (.int 4)) dNil)))) (dCons (dCall sp_law_drawn 2 (dCons (dVar 0) (dCons (dVar 4) dNil))) dNil))))
  (dRet (dOp dAdd (dOp dAdd (dOp dMulA (dVar 5) (dVar 7)) (dVar 6)) (dOp dMulA (dVar 5) (dOp dSub (dOp dSub (dVar 4) (dVar 7)) (dC (.int 1)))))))) dNext)
  (dSeq (dIfS (dBool (dOp dLt (dVar 3) (dC (.int 5)))) (dRet (dM dJoin (dC (.str "")) (dCons (dFresh (dLc (iRngD1 (dCons (dCall sp_law_drawn 2 (dCons (dVar 0) (dCons (dC (.int 5)) dNil))) dNil)) (gdName 8) dYes (dOp dIx (dVar 2) (dCall sp_law_drawn 2 (dCons (dVar 0) (dCons (dC (.int 4)) dNil)))) [8])) dNil))) dNext)
  (dRet (dM dJoin (dC (.str "")) (dCons (dFresh (dLc (iRngD1 (dCons (dCall sp_law_drawn 2 (dCons (dVar 0) (dCons (dC (.int 8)) dNil))) dNil)) (gdName 8) dYes (dOp dIx (dVar 1) (dCall sp_law_drawn 2 (dCons (dVar 0) (dCons (dC (.int 94)) dNil)))) [8])) dNil))))))

def sp_law_number : SpD := fun ds W Q _ => ∃ p : Addr, ds = [.ref p] ∧ JarOk W p ∧ ∀ i W', isVal (.int i) = true → JarOk W' p → Q (.int i) W'
def d_law_number : TSD := (dSeq (dPar3 1 2 3 (dCons (dCall sp_law_drawn 2 (dCons (dVar 0) (dCons (dC (.int 8)) dNil))) (dCons (dOp dAdd (dC (.int 1)) (dCall sp_law_drawn 2 (dCons (dVar 0) (dCons (dC (.int 30)) dNil)))) (dCons (dCall sp_law_drawn 2 (dCons (dVar 0) (dCons (dC (.int 2)) dNil))) dNil))))
  (dSeq (dAsg (dC (.int 1)) (gdName 4))
  (dSeq (dFor (iRngD1 (dCons (dOp dSub (dVar 2) (dC (.int 1))) dNil)) (gdName 5)
  (dAsg (dOp dMulA (dVar 4) (dC (.int 10))) (gdName 4)))
  (dSeq (dIfS (dBool (dOp dLt (dVar 1) (dC (.int 2)))) (dAsg (dCall sp_law_drawn 2 (dCons (dVar 0) (dCons (dC (.int 12)) dNil))) (gdName 6)) (dIfS (dBool (dOp dLt (dVar 1) (dC (.int 5)))) (dAsg (dOp dIx (dLst (dCons (dVar 4) (dCons (dOp dSub (dOp dMulA (dVar 4) (dC (.int 10))) (dC (.int 1))) dNil))) (dOp dMod (dCB dIntC (dCons (dVar 1) dNil)) (dC (.int 2)))) (gdName 6)) (dSeq (dAsg (dOp dAdd (dC (.int 1)) (dCall sp_law_drawn 2 (dCons (dVar 0) (dCons (dC (.int 9)) dNil)))) (gdName 6))
  (dFor (iRngD1 (dCons (dOp dSub (dVar 2) (dC (.int 1))) dNil)) (gdName 5)
  (dAsg (dOp dAdd (dOp dMulA (dVar 6) (dC (.int 10))) (dCall sp_law_drawn 2 (dCons (dVar 0) (dCons (dC (.int 10)) dNil)))) (gdName 6))))))
  (dRet (dIf (dBool (dOp dEq (dVar 3) (dC (.int 0)))) (dVar 6) (dOp dSub (dC (.int 0)) (dVar 6))))))))

def sp_law_value : SpD := fun ds W Q _ => ∃ p : Addr, ds = [.ref p] ∧ JarOk W p ∧ ∀ d W', isVal d = true → JarOk W' p → Q d W'
def d_law_value : TSD := (dSeq (dAsg (dCall sp_law_drawn 2 (dCons (dVar 0) (dCons (dC (.int 9)) dNil))) (gdName 1))
  (dSeq (dIfS (dBool (dOp dLt (dVar 1) (dC (.int 3)))) (dRet (dOp dIx (dLst (dCons (dC .non) (dCons (dC (.bl false)) (dCons (dC (.bl true)) dNil)))) (dVar 1))) dNext)
  (dRet (dIf (dBool (dOp dLt (dVar 1) (dC (.int 6)))) (dCall sp_law_number 1 (dCons (dVar 0) dNil)) (dCall sp_law_text 1 (dCons (dVar 0) dNil))))))

def sp_law_text_at : SpD := fun ds W Q _ => ∃ (l : List Nat) (a : Nat), ds = [.str (mkS l), .int a] ∧ CodeOk l ∧ a ≤ l.length ∧
  (match textA l 200 a with | .inl e => Q (.tup [.bl false, .non, .int e]) W | .inr (t, b) => Q (.tup [.bl true, .str (mkS t), .int b]) W)
def d_law_text_at : TSD := (dSeq (dAsg (dC (.str "")) (gdName 2))
  (dSeq (dFor (iRngD1 (dCons (dC (.int 201)) dNil)) (gdName 3)
  (dSeq (dIfS (dBool (dOp dEq (dVar 1) (dCB dLen (dCons (dVar 0) dNil)))) (dRet (dTup (dCons (dC (.bl false)) (dCons (dC .non) (dCons (dVar 1) dNil))))) dNext)
  (dSeq (dAsg (dOp dIx (dVar 0) (dVar 1)) (gdName 4))
  (dSeq (dIfS (dBool (dOp dEq (dVar 4) (dC (.str " ")))) (dRet (dTup (dCons (dC (.bl true)) (dCons (dVar 2) (dCons (dOp dAdd (dVar 1) (dC (.int 1))) dNil))))) dNext)
  (dSeq (dIfS (dBool (dOp dEq (dCB dLen (dCons (dVar 2) dNil)) (dC (.int 200)))) (dRet (dTup (dCons (dC (.bl false)) (dCons (dC .non) (dCons (dVar 1) dNil))))) dNext)
  (dSeq (dIfS (dBool (dOp dEq (dVar 4) (dC (.str "!")))) (dSeq (dAsg (dOp dAdd (dVar 1) (dC (.int 1))) (gdName 1))
  (dSeq (dIfS (dOrB (dBool (dOp dEq (dVar 1) (dCB dLen (dCons (dVar 0) dNil)))) (dBool (dOp (dIn true) (dOp dIx (dVar 0) (dVar 1)) (dC (.str "ab"))))) (dRet (dTup (dCons (dC (.bl false)) (dCons (dC .non) (dCons (dVar 1) dNil))))) dNext)
  (dAsg (dOp dIx (dLst (dCons (dC (.str " ")) (dCons (dC (.str "!")) dNil))) (dCB dIntC (dCons (dOp dEq (dOp dIx (dVar 0) (dVar 1)) (dC (.str "b"))) dNil))) (gdName 4)))) dNext)
  (dSeq (dAsg (dOp dAdd (dVar 2) (dVar 4)) (gdName 2))
  (dAsg (dOp dAdd (dVar 1) (dC (.int 1))) (gdName 1)))))))))
  (dRet (dTup (dCons (dC (.bl false)) (dCons (dC .non) (dCons (dVar 1) dNil)))))))

def sp_law_number_at : SpD := fun ds W Q _ => ∃ (l : List Nat) (a : Nat) (below : Bool), ds = [.str (mkS l), .int a, .bl below] ∧ CodeOk l ∧ a ≤ l.length ∧
  (match numA l below a with | .inl e => Q (.tup [.bl false, .non, .int e]) W | .inr (i, b) => Q (.tup [.bl true, .int i, .int b]) W)
def d_law_number_at : TSD := (dSeq (dAsg (dC (.str "ABCDEFGHIJKLMNOPQRSTUVWXYZ[\\]^_")) (gdName 3))
  (dSeq (dIfS (dOrB (dBool (dOp dEq (dVar 1) (dCB dLen (dCons (dVar 0) dNil)))) (dBool (dOp (dIn true) (dOp dIx (dVar 0) (dVar 1)) (dVar 3)))) (dRet (dTup (dCons (dC (.bl false)) (dCons (dC .non) (dCons (dVar 1) dNil))))) dNext)
  (dSeq (dAsg (dOp dAdd (dM (dM1 fun a b => .int (Txt.find a b)) (dVar 3) (dCons (dOp dIx (dVar 0) (dVar 1)) dNil)) (dC (.int 1))) (gdName 4))
  (dSeq (dIfS (dBool (dVar 2)) (dAsg (dOp dSub (dC (.int 32)) (dVar 4)) (gdName 4)) dNext)
  (dSeq (dIfS (dBool (dOp dGt (dVar 4) (dC (.int 30)))) (dRet (dTup (dCons (dC (.bl false)) (dCons (dC .non) (dCons (dVar 1) dNil))))) dNext)
  (dSeq (dAsg (dC (.int 0)) (gdName 5))
  (dSeq (dFor (iRngD1 (dCons (dVar 4) dNil)) (gdName 6)
  (dSeq (dAsg (dOp dAdd (dVar 1) (dC (.int 1))) (gdName 1))
  (dSeq (dIfS (dOrB (dBool (dOp dEq (dVar 1) (dCB dLen (dCons (dVar 0) dNil)))) (dOrB (dBool (dOp (dIn true) (dOp dIx (dVar 0) (dVar 1)) (dC (.str "0123456789")))) (dAndB (dBool (dOp dEq (dVar 6) (dC (.int 0)))) (dBool (dOp dEq (dOp dIx (dVar 0) (dVar 1)) (dOp dIx (dLst (dCons (dC (.str "0")) (dCons (dC (.str "9")) dNil))) (dCB dIntC (dCons (dVar 2) dNil)))))))) (dRet (dTup (dCons (dC (.bl false)) (dCons (dC .non) (dCons (dVar 1) dNil))))) dNext)
  (dAsg (dOp dAdd (dOp dMulA (dVar 5) (dC (.int 10))) (dIf (dBool (dVar 2)) (dOp dSub (dC (.int 9)) (dCB dIntC (dCons (dOp dIx (dVar 0) (dVar 1)) dNil))) (dCB dIntC (dCons (dOp dIx (dVar 0) (dVar 1)) dNil)))) (gdName 5)))))
  (dRet (dTup (dCons (dC (.bl true)) (dCons (dIf (dBool (dVar 2)) (dOp dSub (dC (.int 0)) (dVar 5)) (dVar 5)) (dCons (dOp dAdd (dVar 1) (dC (.int 1))) dNil))))))))))))

def sp_law_read : SpD := fun ds W Q _ => ∃ l : List Nat, ds = [.str (mkS l)] ∧ CodeOk l ∧ Q (resD (readA l)) W
def d_law_read : TSD := (dSeq (dAsg (dTup (dCons (dTup dNil) (dCons (dC (.int 0)) dNil))) (gdTup 2 (gdCons (gdName 1) (gdCons (gdName 2) gdNil))))
  (dSeq (dWhile (dBool (dOp dLt (dVar 2) (dCB dLen (dCons (dVar 0) dNil))))
  (dSeq (dAsg (dOp dIx (dVar 0) (dVar 2)) (gdName 3))
  (dSeq (dIfS (dBool (dOp (dIn false) (dVar 3) (dC (.str "012o")))) (dSeq (dAsg (dOp dAdd (dVar 1) (dTup (dCons (dOp dIx (dLst (dCons (dC .non) (dCons (dC (.bl false)) (dCons (dC (.bl true)) (dCons (dC (.int 0)) dNil))))) (dM (dM1 fun a b => .int (Txt.find a b)) (dC (.str "012o")) (dCons (dVar 3) dNil))) dNil))) (gdName 1))
  (dSeq (dAsg (dOp dAdd (dVar 2) (dC (.int 1))) (gdName 2))
  dCont)) dNext)
  (dSeq (dIfS (dBool (dOp (dIn true) (dVar 3) (dC (.str "npt")))) (dRet (dTup (dCons (dVar 2) (dCons (dC .non) dNil)))) dNext)
  (dSeq (dAsg (dIf (dBool (dOp dEq (dVar 3) (dC (.str "t")))) (dCall sp_law_text_at 2 (dCons (dVar 0) (dCons (dOp dAdd (dVar 2) (dC (.int 1))) dNil))) (dCall sp_law_number_at 3 (dCons (dVar 0) (dCons (dOp dAdd (dVar 2) (dC (.int 1))) (dCons (dOp dEq (dVar 3) (dC (.str "n"))) dNil))))) (gdTup 3 (gdCons (gdName 4) (gdCons (gdName 5) (gdCons (gdName 2) gdNil)))))
  (dSeq (dIfS (dNotB (dBool (dVar 4))) (dRet (dTup (dCons (dVar 2) (dCons (dC .non) dNil)))) dNext)
  (dAsg (dOp dAdd (dVar 1) (dTup (dCons (dVar 5) dNil))) (gdName 1))))))))
  (dRet (dTup (dCons (dC .non) (dCons (dVar 1) dNil))))))

def sp_law_told : SpD := fun ds W Q _ => ∃ d, ds = [d] ∧ Any1 d ∧ (isTextD d = false → Q (.str "text") W) ∧ (∀ l, d = .str (mkS l) → Pr l → l.length ≤ 10000 ∧ Q (resD (readA l)) W)
def d_law_told : TSD := (dSeq (dAsg (dC (.str "other")) (gdName 1))
  (dSeq (dTry (dAsg (dTup (dCons (dC .non) (dCons (dCall sp_values_told 1 (dCons (dVar 0) dNil)) dNil))) (gdName 1)) [⟨.ref a_InvalidCode, [.ref a_InvalidCode], [.ref a_InvalidText, .ref a_InvalidRow, .ref a_InvalidValue], (some 2), (dAsg (dTup (dCons (dXf [.ref a_InvalidCode] "index" (dVar 2)) (dCons (dC .non) dNil))) (gdName 1))⟩, ⟨.ref a_InvalidText, [.ref a_InvalidText], [.ref a_InvalidRow, .ref a_InvalidValue, .ref a_InvalidCode], none, (dAsg (dC (.str "text")) (gdName 1))⟩, ⟨.ref a_StoreError, [.ref a_InvalidText, .ref a_InvalidRow, .ref a_InvalidValue, .ref a_InvalidCode], [], none, (dAsg (dC (.str "other")) (gdName 1))⟩])
  (dRet (dVar 1))))

def sp_law_refused : SpD := fun ds W Q _ => ∃ d, ds = [d] ∧ Any1 d ∧ SmR d ∧ isRow1 d = false ∧ Q (.str "row") W
def d_law_refused : TSD := (dSeq (dAsg (dC (.str "none")) (gdName 1))
  (dSeq (dTry (dDrop (dCall sp_row_code 1 (dCons (dVar 0) dNil))) [⟨.ref a_InvalidRow, [.ref a_InvalidRow], [.ref a_InvalidText, .ref a_InvalidValue, .ref a_InvalidCode], none, (dAsg (dC (.str "row")) (gdName 1))⟩, ⟨.ref a_StoreError, [.ref a_InvalidText, .ref a_InvalidRow, .ref a_InvalidValue, .ref a_InvalidCode], [], none, (dAsg (dC (.str "other")) (gdName 1))⟩])
  (dRet (dVar 1))))

def sp_law_spoilt : SpD := fun ds W Q _ => ∃ (p : Addr) (l : List Nat), ds = [.ref p, .str (mkS l)] ∧ JarOk W p ∧ Pr l ∧ l.length ≤ 9000 ∧ ∀ l' W', Pr l' → l'.length ≤ l.length + 2 → JarOk W' p → Q (.str (mkS l')) W'
def d_law_spoilt : TSD := (dSeq (dFor (iRngD1 (dCons (dOp dAdd (dC (.int 1)) (dCall sp_law_drawn 2 (dCons (dVar 0) (dCons (dC (.int 2)) dNil)))) dNil)) (gdName 2)
  (dSeq (dPar3 3 4 5 (dCons (dCall sp_law_drawn 2 (dCons (dVar 0) (dCons (dC (.int 6)) dNil))) (dCons (dCall sp_law_drawn 2 (dCons (dVar 0) (dCons (dOp dAdd (dCB dLen (dCons (dVar 1) dNil)) (dC (.int 1))) dNil))) (dCons (dOp dIx (dC (.str "012notp !ab_A^B9x~")) (dCall sp_law_drawn 2 (dCons (dVar 0) (dCons (dC (.int 18)) dNil)))) dNil))))
  (dIfS (dBool (dOp dEq (dVar 3) (dC (.int 0)))) (dAsg (dSl dCut (dVar 1) dNoP (dPart (dVar 4))) (gdName 1)) (dIfS (dBool (dOp dLt (dVar 3) (dC (.int 3)))) (dAsg (dOp dAdd (dOp dAdd (dSl dCut (dVar 1) dNoP (dPart (dVar 4))) (dVar 5)) (dSl dCut (dVar 1) (dPart (dVar 4)) dNoP)) (gdName 1)) (dIfS (dBool (dOp dEq (dVar 3) (dC (.int 3)))) (dAsg (dOp dAdd (dSl dCut (dVar 1) dNoP (dPart (dVar 4))) (dSl dCut (dVar 1) (dPart (dOp dAdd (dVar 4) (dC (.int 1)))) dNoP)) (gdName 1)) (dAsg (dOp dAdd (dOp dAdd (dSl dCut (dVar 1) dNoP (dPart (dVar 4))) (dVar 5)) (dSl dCut (dVar 1) (dPart (dOp dAdd (dVar 4) (dC (.int 1)))) dNoP)) (gdName 1)))))))
  (dRet (dVar 1)))

def sp_law_edges : SpD := fun ds W Q _ => ds = [] ∧ ∀ ss : List Str, (∀ s ∈ ss, Pr (tl s) ∧ (tl s).length ≤ 1000) → ss.length ≤ 60 → Q (.lst (ss.map D.str)) W
def d_law_edges : TSD := (dSeq (dAsg (dOp dAdd (dC (.str "t")) (dOp dMulA (dC (.str "a")) (dC (.int 200)))) (gdName 0))
  (dSeq (dAsg (dLst (dCons (dC (.str "")) (dCons (dC (.str "t")) (dCons (dC (.str "t ")) (dCons (dC (.str "t!")) (dCons (dC (.str "t!a")) (dCons (dC (.str "t!a ")) (dCons (dC (.str "t!c")) (dCons (dC (.str "t! ")) (dCons (dVar 0) (dCons (dOp dAdd (dVar 0) (dC (.str " "))) (dCons (dOp dAdd (dVar 0) (dC (.str "a"))) (dCons (dOp dAdd (dVar 0) (dC (.str "!"))) (dCons (dOp dAdd (dVar 0) (dC (.str "!a "))) dNil)))))))))))))) (gdName 1))
  (dSeq (dAsg (dOp dAdd (dVar 1) (dLst (dCons (dOp dAdd (dOp dAdd (dC (.str "t")) (dOp dMulA (dC (.str "!a")) (dC (.int 200)))) (dC (.str " "))) (dCons (dOp dAdd (dOp dAdd (dC (.str "t")) (dOp dMulA (dC (.str "!b")) (dC (.int 200)))) (dC (.str "!b "))) (dCons (dOp dAdd (dOp dAdd (dC (.str "t")) (dOp dMulA (dC (.str "a")) (dC (.int 199)))) (dC (.str "!"))) (dCons (dOp dAdd (dOp dAdd (dC (.str "t")) (dOp dMulA (dC (.str "a")) (dC (.int 199)))) (dC (.str "!b "))) (dCons (dC (.str "p")) (dCons (dC (.str "pA")) (dCons (dC (.str "pA0")) dNil))))))))) (gdName 1))
  (dSeq (dAsg (dOp dAdd (dVar 1) (dLst (dCons (dC (.str "pA1")) (dCons (dC (.str "pB1")) (dCons (dC (.str "pB10")) (dCons (dC (.str "pB01")) (dCons (dC (.str "p_1")) (dCons (dC (.str "p^")) (dCons (dOp dAdd (dOp dAdd (dC (.str "p^")) (dC (.str "1"))) (dOp dMulA (dC (.str "0")) (dC (.int 29)))) (dCons (dOp dAdd (dC (.str "p^")) (dOp dMulA (dC (.str "1")) (dC (.int 31)))) (dCons (dC (.str "n")) (dCons (dC (.str "n_")) (dCons (dC (.str "n_9")) (dCons (dC (.str "n_8")) (dCons (dC (.str "n^80")) (dCons (dC (.str "n^90")) dNil)))))))))))))))) (gdName 1))
  (dSeq (dAsg (dOp dAdd (dVar 1) (dLst (dCons (dOp dAdd (dC (.str "nB")) (dOp dMulA (dC (.str "0")) (dC (.int 30)))) (dCons (dOp dAdd (dOp dAdd (dC (.str "nB")) (dC (.str "8"))) (dOp dMulA (dC (.str "9")) (dC (.int 29)))) (dCons (dOp dAdd (dC (.str "nA")) (dOp dMulA (dC (.str "8")) (dC (.int 31)))) (dCons (dC (.str "o0")) (dCons (dC (.str "oo2")) (dCons (dC (.str "3")) (dCons (dC (.str "N")) (dCons (dC (.str "pa1")) (dCons (dC (.str "n~")) (dCons (dC (.str "pA12")) (dCons (dC (.str " ")) (dCons (dC (.str "01!")) dNil)))))))))))))) (gdName 1))
  (dRet (dVar 1)))))))

def sp_law_value_refused : SpD := fun ds W Q _ => ∃ d, ds = [d] ∧ Any1 d ∧ isVal d = false ∧ Q (.bl true) W
def d_law_value_refused : TSD := (dSeq (dAsg (dC .non) (gdName 1))
  (dSeq (dTry (dDrop (dCall sp_value_code 1 (dCons (dVar 0) dNil))) [⟨.ref a_StoreError, [.ref a_InvalidText, .ref a_InvalidRow, .ref a_InvalidValue, .ref a_InvalidCode], [], (some 2), (dAsg (dVar 2) (gdName 1))⟩])
  (dRet (dAnd (dIsE [(.ref a_InvalidText, false), (.ref a_InvalidRow, false), (.ref a_InvalidValue, true), (.ref a_InvalidCode, false)] (.ref a_InvalidValue) (dVar 1)) (dNot (dIsE [(.ref a_InvalidText, false), (.ref a_InvalidRow, true), (.ref a_InvalidValue, false), (.ref a_InvalidCode, false)] (.ref a_InvalidRow) (dVar 1)))))))

def sp_law : SpD := spTrue

def d_law : TSD := (dSeq (dFor (iSeq (dCall sp_law_edges 0 dNil)) (gdName 1)
  (dIfS (dNotB (dBool (dCall sp_law_same 2 (dCons (dCall sp_law_told 1 (dCons (dVar 1) dNil)) (dCons (dCall sp_law_read 1 (dCons (dVar 1) dNil)) dNil))))) (dRet (dC (.bl false))) dNext))
  (dSeq (dFor (iSeq (dLst (dCons (dC .non) (dCons (dC (.int 7)) (dCons (dTup (dCons (dC (.str "0")) dNil)) (dCons (dLst (dCons (dC (.str "0")) dNil)) (dCons (dC (.bl true)) (dCons (dC (.str "0\n")) (dCons (dC (.str "ta\tb ")) (dCons (dTup dNil) dNil)))))))))) (gdName 2)
  (dIfS (dOrB (dBool (dOp dNe (dCall sp_law_told 1 (dCons (dVar 2) dNil)) (dC (.str "text")))) (dBool (dOp dNe (dCall sp_law_refused 1 (dCons (dLst (dCons (dVar 2) dNil)) dNil)) (dC (.str "row"))))) (dRet (dC (.bl false))) dNext))
  (dSeq (dFor (iSeq (dOp dAdd (dLst (dCons (dC (.int 3)) dNil)) (dSl dCut (dVar 0) dNoP (dPart (dC (.int 40)))))) (gdName 3)
  (dSeq (dAsg (dCall sp_law_jar 1 (dCons (dVar 3) dNil)) (gdName 4))
  (dSeq (dAsg (dCB dTupC (dCons (dFresh (dLc (iRngD1 (dCons (dCall sp_law_drawn 2 (dCons (dVar 4) (dCons (dC (.int 7)) dNil))) dNil)) (gdName 12) dYes (dCall sp_law_value 1 (dCons (dVar 4) dNil)) [12])) dNil)) (gdName 5))
  (dSeq (dAsg (dM dJoin (dC (.str "")) (dCons (dFresh (dLc (iTupD (dVar 5)) (gdName 2) dYes (dCall sp_law_code 1 (dCons (dVar 2) dNil)) [2])) dNil)) (gdName 1))
  (dSeq (dIfS (dNotB (dBool (dCall sp_law_same 2 (dCons (dLst (dCons (dCall sp_row_code 1 (dCons (dVar 5) dNil)) (dCons (dCallKX sp_row_code 1 1 [0] (dCons (dVar 5) dNil)) dNil))) (dCons (dLst (dCons (dVar 1) (dCons (dVar 1) dNil))) dNil))))) (dRet (dC (.bl false))) dNext)
  (dSeq (dIfS (dNotB (dBool (dCall sp_law_same 2 (dCons (dLst (dCons (dCall sp_values_told 1 (dCons (dVar 1) dNil)) (dCons (dCallKX sp_values_told 1 1 [0] (dCons (dCall sp_row_code 1 (dCons (dVar 5) dNil)) dNil)) dNil))) (dCons (dLst (dCons (dVar 5) (dCons (dVar 5) dNil))) dNil))))) (dRet (dC (.bl false))) dNext)
  (dSeq (dIfS (dBool (dOp dNe (dVar 1) (dM dJoin (dC (.str "")) (dCons (dFresh (dLc (iTupD (dVar 5)) (gdName 2) dYes (dCall sp_value_code 1 (dCons (dVar 2) dNil)) [2])) dNil)))) (dRet (dC (.bl false))) dNext)
  (dSeq (dFor (iRngD1 (dCons (dC (.int 3)) dNil)) (gdName 6)
  (dSeq (dAsg (dCall sp_law_spoilt 2 (dCons (dVar 4) (dCons (dVar 1) dNil))) (gdName 7))
  (dIfS (dNotB (dBool (dCall sp_law_same 2 (dCons (dCall sp_law_told 1 (dCons (dVar 7) dNil)) (dCons (dCall sp_law_read 1 (dCons (dVar 7) dNil)) dNil))))) (dRet (dC (.bl false))) dNext)))
  (dSeq (dPar 8 9 (dCons (dCall sp_law_drawn 2 (dCons (dVar 4) (dCons (dOp dAdd (dCB dLen (dCons (dVar 5) dNil)) (dC (.int 1))) dNil))) (dCons (dCall sp_law_drawn 2 (dCons (dVar 4) (dCons (dC (.int 8)) dNil))) dNil)))
  (dSeq (dAsg (dOp dIx (dLst (dCons (dOp dPow (dC (.int 10)) (dC (.int 30))) (dCons (dOp dSub (dC (.int 0)) (dOp dPow (dC (.int 10)) (dC (.int 30)))) (dCons (dOp dMulA (dC (.str "a")) (dC (.int 201))) (dCons (dC (.str "a\n")) (dCons (dTup dNil) (dCons (dTup (dCons (dC (.int 1)) dNil)) (dCons (dLst dNil) (dCons (dLst (dCons (dC (.int 1)) dNil)) dNil))))))))) (dVar 9)) (gdName 10))
  (dSeq (dIfS (dOrB (dNotB (dBool (dCall sp_law_value_refused 1 (dCons (dVar 10) dNil)))) (dNotB (dBool (dCall sp_law_value_refused 1 (dCons (dLst (dCons (dVar 10) dNil)) dNil))))) (dRet (dC (.bl false))) dNext)
  (dSeq (dAsg (dOp dIx (dLst (dCons (dOp dAdd (dOp dAdd (dSl dCut (dVar 5) dNoP (dPart (dVar 8))) (dTup (dCons (dVar 10) dNil))) (dSl dCut (dVar 5) (dPart (dVar 8)) dNoP)) (dCons (dCB dListC (dCons (dVar 5) dNil)) (dCons (dVar 1) (dCons (dC .non) (dCons (dC (.int 7)) (dCons (dC (.bl true)) dNil))))))) (dCB (dC2 fun i j => if j > i then j else i) (dCons (dC (.int 0)) (dCons (dOp dSub (dCall sp_law_drawn 2 (dCons (dVar 4) (dCons (dC (.int 9)) dNil))) (dC (.int 3))) dNil)))) (gdName 11))
  (dIfS (dOrB (dBool (dOp dNe (dCall sp_law_refused 1 (dCons (dVar 11) dNil)) (dC (.str "row")))) (dNotB (dBool (dCall sp_law_same 2 (dCons (dCall sp_row_code 1 (dCons (dVar 5) dNil)) (dCons (dVar 1) dNil)))))) (dRet (dC (.bl false))) dNext)))))))))))))
  (dRet (dC (.bl true))))))

end K12

namespace K12
open PySem PySem.Spec L2 G TL C Q
theorem val_cases {d : D} (h : isVal d = true) : d = .non ∨ (∃ c, d = .bl c) ∨ (∃ i, d = .int i) ∨ ∃ s, d = .str s := by
  unfold isVal at h
  split at h
  · exact .inl rfl
  · exact .inr (.inl ⟨_, rfl⟩)
  · exact .inr (.inr (.inl ⟨_, rfl⟩))
  · exact .inr (.inr (.inr ⟨_, rfl⟩))
  · cases h
theorem le_signs (c : Nat) {P : D → Prop} (hP : P (.bl (decide (32 ≤ c) && decide (c ≤ 126)))) : (match D.bl (!ltS (mkS [c]) (mkS [32])) with | .v (.bl true) => P (.bl (!ltS (mkS [126]) (mkS [c]))) | .v (.bl false) => P (.bl false) | _ => False) := by
  by_cases h32 : c < 32
  · rw [ltS_one, decide_eq_true h32]
    rw [decide_eq_false (by omega : ¬ 32 ≤ c)] at hP
    exact hP
  · rw [ltS_one, ltS_one, decide_eq_false h32]
    have e : decide (c ≤ 126) = !decide (126 < c) := by
      by_cases h : c ≤ 126
      · rw [decide_eq_true h, decide_eq_false (by omega)]; rfl
      · rw [decide_eq_false h, decide_eq_true (by omega)]; rfl
    rw [decide_eq_true (by omega : 32 ≤ c), Bool.true_and, e] at hP
    exact hP
theorem abs_le (i : Int) : decide ((if i < 0 then -i else i) ≤ (999999999999999999999999999999 : Int)) = decide (i.natAbs ≤ 999999999999999999999999999999) := by
  refine decide_eq_decide.mpr ?_
  split <;> omega

theorem rd_is_integer : Rd n_is_integer 1 sp_is_integer d_is_integer := by
  rintro ds W Q Qx _ ⟨d, rfl, hs, h⟩
  rcases hs with rfl | ⟨_, rfl⟩ | ⟨_, rfl⟩ | ⟨_, rfl, _⟩ | ⟨_, rfl⟩ | ⟨_, rfl⟩
  · exact ⟨_, false, rfl, rfl, h⟩
  · exact ⟨_, true, rfl, rfl, _, true, rfl, rfl, h⟩
  · exact ⟨_, true, rfl, rfl, _, false, rfl, rfl, h⟩
  · exact ⟨_, false, rfl, rfl, h⟩
  · exact ⟨_, false, rfl, rfl, h⟩
  · exact ⟨_, false, rfl, rfl, h⟩
theorem rd_is_text : Rd n_is_text 1 sp_is_text d_is_text := by
  rintro ds W Q Qx _ ⟨d, rfl, hs, h⟩
  show d_is_text _ [some (.sh d), none] W
  unfold d_is_text
  rw [so_sp, so_ti]
  rcases hs with rfl | ⟨_, rfl⟩ | ⟨i, rfl⟩ | ⟨s, rfl, hl⟩ | ⟨_, rfl⟩ | ⟨_, rfl⟩
  · exact ⟨_, false, rfl, rfl, h⟩
  · exact ⟨_, false, rfl, rfl, h⟩
  · exact ⟨_, false, rfl, rfl, h⟩
  · refine ⟨_, true, rfl, rfl, ?_⟩
    refine dLc_mapF (tl s) (fun c => .str (mkS [c])) (fun c => .bl (decide (32 ≤ c) && decide (c ≤ 126))) (noOwn1 (by simp)) (sz _ (by rw [← len_tl s]; omega)) (fun P hP => hP) (fun c hc P hP => ?_) ?_
    · exact le_signs c (P := fun z => P z _ _) hP
    · refine ⟨(tl s).map fun c => decide (32 ≤ c) && decide (c ≤ 126), bls_map _ _, ?_⟩
      rw [List.all_map]
      exact h
  · exact ⟨_, false, rfl, rfl, h⟩
  · exact ⟨_, false, rfl, rfl, h⟩
theorem rd_is_value : Rd n_is_value 1 sp_is_value d_is_value := by
  rintro ds W Q Qx _ ⟨d, rfl, hs, h⟩
  show d_is_value _ [some (.sh d)] W
  unfold d_is_value
  have hsa := hs
  rcases hs with rfl | ⟨_, rfl⟩ | ⟨i, rfl⟩ | ⟨s, rfl, hl⟩ | ⟨_, rfl⟩ | ⟨_, rfl⟩
  · exact h
  · exact ⟨_, true, rfl, rfl, h⟩
  · refine ⟨_, false, rfl, rfl, ?_⟩
    refine ⟨rfl, .int i, rfl, hsa, ?_⟩
    show Q (.bl (decide ((if i < 0 then -i else i) ≤ (999999999999999999999999999999 : Int)))) W
    rw [abs_le]; exact h
  · refine ⟨_, false, rfl, rfl, ?_⟩
    refine ⟨rfl, .str s, rfl, hsa, ?_⟩
    refine ⟨rfl, .str s, rfl, hsa, ?_⟩
    have h : Q (.bl (textB (tl s) && decide (s.length ≤ 200))) W := h
    show (match D.bl (textB (tl s)) with | .v (.bl true) => _ | .v (.bl false) => _ | _ => False)
    cases e : textB (tl s) with
    | false => rw [e] at h; exact h
    | true =>
      rw [e, Bool.true_and] at h
      refine ⟨sz _ (by omega), ?_⟩
      show Q (.bl (decide ((s.length : Int) ≤ 200))) W
      rw [show decide ((s.length : Int) ≤ 200) = decide (s.length ≤ 200) from decide_eq_decide.mpr (by omega)]
      exact h
  · exact ⟨_, false, rfl, rfl, rfl, _, rfl, hsa, rfl, _, rfl, hsa, h⟩
  · exact ⟨_, false, rfl, rfl, rfl, _, rfl, hsa, rfl, _, rfl, hsa, h⟩
theorem so_mk : Str.ofString "!" = mkS [33] := by decide +kernel
theorem so_a : Str.ofString "a" = mkS [97] := by decide +kernel
theorem so_b : Str.ofString "b" = mkS [98] := by decide +kernel
theorem so_o : Str.ofString "o" = mkS [111] := by decide +kernel
theorem so_p : Str.ofString "p" = mkS [112] := by decide +kernel
theorem so_n : Str.ofString "n" = mkS [110] := by decide +kernel
theorem so_t : Str.ofString "t" = mkS [116] := by decide +kernel
def cntL : List Nat := [65, 66, 67, 68, 69, 70, 71, 72, 73, 74, 75, 76, 77, 78, 79, 80, 81, 82, 83, 84, 85, 86, 87, 88, 89, 90, 91, 92, 93, 94, 95]
theorem so_cnt : Str.ofString "ABCDEFGHIJKLMNOPQRSTUVWXYZ[\\]^_" = mkS cntL := by decide +kernel
theorem cnt_at (r : Nat) (h : r < 31) : atI (mkS cntL).cps.toList (r : Int) = some (65 + r) := by
  have : ∀ r : Fin 31, atI (mkS cntL).cps.toList ((r : Nat) : Int) = some (65 + r.val) := by decide +kernel
  exact this ⟨r, h⟩
def tld : List (Key × D) := [(.inr (mkS [32]), .str (mkS [33, 97])), (.inr (mkS [33]), .str (mkS [33, 98]))]
theorem told_at (c : Nat) : (valD tld (.inr (mkS [c]))).getD (.str (mkS [c])) = .str (mkS (escC c)) := by
  unfold tld
  rw [valD_cons, valD_cons]
  have e : ∀ a b : Nat, ((Sum.inr (mkS [a]) : Key) = .inr (mkS [b])) ↔ a = b := fun a b => by
    constructor
    · intro h
      have h := mkS_inj.mp (Sum.inr.inj h)
      injection h
    · intro h; rw [h]
  by_cases h1 : c = 32
  · subst h1; rw [if_pos rfl]; rfl
  · rw [if_neg (fun z => h1 ((e _ _).mp z).symm)]
    by_cases h2 : c = 33
    · subst h2; rw [if_pos rfl]; rfl
    · rw [if_neg (fun z => h2 ((e _ _).mp z).symm), esc_o h1 h2]; rfl
theorem puts_told : putsD tld = tld := by
  have e : ((mkS [32] : Str) = mkS [33]) ↔ False := ⟨fun h => (by have := mkS_inj.mp h; simp at this), False.elim⟩
  simp [putsD, putD, tld, e]
theorem rd_text_code : Rd n_text_code 1 sp_text_code d_text_code := by
  rintro ds W Q Qx _ ⟨s, rfl, hs, h⟩
  show d_text_code _ [some (.sh (.str s)), none, none] W
  unfold d_text_code
  rw [so_sp, so_mk, so_a, so_b, so_nil]
  obtain ⟨hp, hl⟩ := val_text hs
  refine ⟨sz _ (by simp [len_mkS]), sz _ (by simp [len_mkS]), tld, rfl, by decide, ?_⟩
  rw [puts_told]
  refine ⟨⟨_, rfl⟩, ?_⟩
  refine dLc_mapF (tl s) (fun c => .str (mkS [c])) (fun c => .str (mkS (escC c))) (noOwn1 (by simp)) (sz _ (by rw [← len_tl s]; omega)) (fun P hP => hP) (fun c hc P hP => ?_) ?_
  · refine ⟨⟨_, _, rfl⟩, .inr (mkS [c]), rfl, ?_⟩
    rw [zip_fst_snd, told_at]
    exact hP
  · have : (tl s).map (fun c => D.str (mkS (escC c))) = ((tl s).map escC).map fun y => D.str (mkS y) := by rw [List.map_map]; rfl
    rw [this]
    have fl := flat_len (ys := (tl s).map escC) (n := 200) (B := 2) (by rw [List.length_map, ← len_tl s]; exact hl) (fun y hy => by
      rw [List.mem_map] at hy
      obtain ⟨c, _, rfl⟩ := hy
      exact esc_len c)
    obtain ⟨j1, j2⟩ := join_parts (ys := (tl s).map escC) (n := 200) (B := 2) (by rw [List.length_map, ← len_tl s]; exact hl) (fun y hy => by
      rw [List.mem_map] at hy
      obtain ⟨c, _, rfl⟩ := hy
      exact esc_len c) (by decide)
    refine ⟨_, j1, j2, ?_⟩
    rw [join_mkS]
    refine ⟨sz _ (by rw [len_mkS, len_mkS]; simp only [List.length_cons, List.length_nil]; omega), ?_⟩
    show Q (.str (mkS ((tl s).map escC).flatten ++ mkS [32])) W
    rw [app_mkS]
    exact h
theorem str_num (n : Nat) : (Str.ofString (toString ((n : Nat) : Int))) = mkS (numL n) := str_eq (tl_num n)
theorem dig_comp {c : Nat} (h : 48 ≤ c ∧ c ≤ 57) : (Str.ofString (toString (9 - ((c - 48 : Nat) : Int)))) = mkS [105 - c] := by
  have : (9 : Int) - ((c - 48 : Nat) : Int) = ((57 - c : Nat) : Int) := by omega
  rw [this, str_num, numL_lt (by omega)]
  congr 2
  omega
theorem int_dig {c : Nat} (h : 48 ≤ c ∧ c ≤ 57) : PySem.intText? (mkS [c]) = some ((c - 48 : Nat) : Int) := by
  have := PySem.intText_digits (x := mkS [c]) (fun d hd => by simp [mkS] at hd; omega) (by simp [mkS]) (by rw [len_mkS]; simp)
  rw [this]
  simp [NumText.digitsVal, mkS]
theorem rd_number_code : Rd n_number_code 1 sp_number_code d_number_code := by
  rintro ds W Q Qx _ ⟨i, rfl, hs, h⟩
  show d_number_code _ [some (.sh (.int i)), none, none] W
  unfold d_number_code
  rw [so_o, so_p, so_n, so_cnt, so_nil]
  have hb := val_bound hs
  have l30 := numL_le hb
  have lpos : 0 < (numL i.natAbs).length := List.length_pos_iff.mpr (numL_ne _)
  have hlog : i.natAbs.log2 < 1920 := Nat.lt_of_lt_of_le (log2_small (k := 100) (Nat.lt_of_lt_of_le hb (by decide)) (by decide)) (by decide)
  unfold numC at h
  refine dEq_int (ite_d (fun h0 => ?_) (fun h0 => ?_))
  · rw [if_pos h0] at h; exact h
  rw [if_neg h0] at h
  have ea : (if i < 0 then -i else i) = ((i.natAbs : Nat) : Int) := by split <;> omega
  show ((if i < 0 then -i else i).natAbs.log2 < 1920 ∧ _)
  rw [ea]
  refine ⟨by simpa using hlog, ?_⟩
  rw [str_num]
  refine ite_d (fun hp => ?_) (fun hp => ?_)
  · have hp : 0 < i := hp
    rw [if_pos hp] at h
    refine ⟨sz _ (by rw [len_mkS]; omega), sz _ (by decide), 65 + ((numL i.natAbs).length - 1), ?_, ?_⟩
    · have e : (((mkS (numL i.natAbs)).length : Int) - 1) = (((numL i.natAbs).length - 1 : Nat) : Int) := by rw [len_mkS]; omega
      rw [e]; exact cnt_at _ (by omega)
    · refine ⟨sz _ (by rw [one_mkS, len_mkS, len_mkS]; simp), sz _ (by rw [one_mkS, app_mkS, len_mkS, len_mkS]; simp only [List.length_append, List.length_cons, List.length_nil]; omega), ?_⟩
      rw [one_mkS, app_mkS, app_mkS]
      have : 65 + ((numL i.natAbs).length - 1) = 64 + (numL i.natAbs).length := by omega
      rw [this]
      exact h
  · have hp : ¬ 0 < i := hp
    rw [if_neg hp] at h
    refine ⟨sz _ (by rw [len_mkS]; omega), sz _ (by decide), 65 + (31 - (numL i.natAbs).length), ?_, ?_⟩
    · have e : ((30 : Int) + 1 - ((mkS (numL i.natAbs)).length : Int)) = ((31 - (numL i.natAbs).length : Nat) : Int) := by rw [len_mkS]; omega
      rw [e]; exact cnt_at _ (by omega)
    · refine ⟨sz _ (by rw [one_mkS, len_mkS, len_mkS]; simp), ⟨_, rfl⟩, ?_⟩
      refine dLc_mapF (numL i.natAbs) (fun c => .str (mkS [c])) (fun c => .str (mkS [105 - c])) (noOwn1 (by simp)) (sz _ (by omega)) (fun P hP => hP) (fun c hc P hP => ?_) ?_
      · have hd := numL_digits i.natAbs c hc
        refine ⟨by rw [len_mkS]; simp, _, int_dig hd, ?_⟩
        refine ⟨Nat.lt_of_lt_of_le (log2_small (k := 5) (by omega) (by decide)) (by decide), ?_⟩
        have := dig_comp hd
        show P (.str (Str.ofString (toString (9 - ((c - 48 : Nat) : Int))))) _ _
        rw [this]
        exact hP
      · have : (numL i.natAbs).map (fun c => D.str (mkS [105 - c])) = ((numL i.natAbs).map fun c => [105 - c]).map fun y => D.str (mkS y) := by rw [List.map_map]; rfl
        rw [this]
        have hone : ∀ y ∈ (numL i.natAbs).map fun c => [105 - c], y.length ≤ 1 := fun y hy => by
          rw [List.mem_map] at hy
          obtain ⟨c, _, rfl⟩ := hy
          simp
        obtain ⟨j1, j2⟩ := join_parts (ys := (numL i.natAbs).map fun c => [105 - c]) (n := 30) (B := 1) (by rw [List.length_map]; exact l30) hone (by decide)
        refine ⟨_, j1, j2, ?_⟩
        rw [join_mkS]
        have ef : ((numL i.natAbs).map fun c => [105 - c]).flatten = (numL i.natAbs).map (105 - ·) := by
          rw [← flat_sing ((numL i.natAbs).map (105 - ·)), List.map_map]; rfl
        rw [ef]
        refine ⟨sz _ (by rw [one_mkS, app_mkS, len_mkS, len_mkS]; simp only [List.length_append, List.length_cons, List.length_nil, List.length_map]; omega), ?_⟩
        rw [one_mkS, app_mkS, app_mkS]
        have : 65 + (31 - (numL i.natAbs).length) = 96 - (numL i.natAbs).length := by omega
        rw [this]
        exact h
theorem bl_code (b : Bool) : (Str.ofString (toString ((1 : Int) + (if b then 1 else 0)))) = mkS [if b then 50 else 49] := by
  cases b
  · exact (str_num 1).trans (by rw [numL_lt (by decide)]; rfl)
  · exact (str_num 2).trans (by rw [numL_lt (by decide)]; rfl)
theorem rd_code_of : Rd n_code_of 1 sp_code_of d_code_of := by
  rintro ds W Q Qx _ ⟨d, rfl, hs, h⟩
  show d_code_of _ [some (.sh d)] W
  unfold d_code_of
  rw [so_0, so_t]
  rcases val_cases hs with rfl | ⟨b, rfl⟩ | ⟨i, rfl⟩ | ⟨s, rfl⟩
  · exact h
  · have hb := bl_code b
    cases b
    · refine ⟨by decide, ?_⟩
      show Q (.str (Str.ofString (toString ((1 : Int) + (if false then 1 else 0))))) W
      rw [hb]; exact h
    · refine ⟨by decide, ?_⟩
      show Q (.str (Str.ofString (toString ((1 : Int) + (if true then 1 else 0))))) W
      rw [hb]; exact h
  · refine ⟨_, false, rfl, rfl, ?_⟩
    exact ⟨rfl, i, rfl, hs, h⟩
  · refine ⟨_, true, rfl, rfl, ?_⟩
    refine ⟨rfl, s, rfl, hs, ?_⟩
    have hl := code_len hs
    have hl : (116 :: txtC (tl s)).length ≤ 402 := hl
    rw [List.length_cons] at hl
    refine ⟨sz _ (by rw [len_mkS, len_mkS]; simp only [List.length_cons, List.length_nil]; omega), ?_⟩
    rw [app_mkS]
    exact h
theorem hno {A B : Prop} (q : B) : (if (!true) = true then A else B) := by rw [if_neg (by decide)]; exact q
theorem hyes {A B : Prop} (q : A) : (if (!false) = true then A else B) := by rw [if_pos (by decide)]; exact q
theorem rd_value_code : Rd n_value_code 1 sp_value_code d_value_code := by
  rintro ds W Q Qx _ ⟨d, rfl, hs, h1, h2⟩
  refine ⟨rfl, d, rfl, hs, ?_⟩
  cases e : isVal d with
  | true => exact hno ⟨rfl, d, rfl, e, h1 e⟩
  | false => exact hyes (h2 e)
theorem all_tt {r : List D} (h : ∀ d ∈ r, isVal d = true) : r.all isVal = true := List.all_eq_true.mpr h
theorem rd_row_code : Rd n_row_code 1 sp_row_code d_row_code := by
  rintro ds W Q Qx _ ⟨d, rfl, hs, hsm, h1, h2⟩
  show d_row_code _ [some (.sh d), none] W
  unfold d_row_code
  rw [so_nil]
  rcases hs with rfl | ⟨_, rfl⟩ | ⟨i, rfl⟩ | ⟨s, rfl, hl⟩ | ⟨r, rfl⟩ | ⟨_, rfl⟩
  · exact ⟨_, false, rfl, rfl, h2 rfl⟩
  · exact ⟨_, false, rfl, rfl, h2 rfl⟩
  · exact ⟨_, false, rfl, rfl, h2 rfl⟩
  · exact ⟨_, false, rfl, rfl, h2 rfl⟩
  · obtain ⟨hl, hany⟩ := hsm r rfl
    refine ⟨_, true, rfl, rfl, ?_⟩
    refine dLc_mapF r id (fun d => .bl (isVal d)) (noOwn1 (by simp)) (sz _ (by omega)) (fun P hP => by rw [List.map_id] at hP; exact hP) (fun d hd P hP => ?_) ?_
    · exact ⟨rfl, d, rfl, hany d hd, hP⟩
    · refine ⟨_, bls_map _ _, ?_⟩
      rw [List.all_map]
      show (if (!r.all isVal) = true then _ else _)
      cases e : r.all isVal with
      | false => exact hyes (h2 e)
      | true =>
        have hv : ∀ d ∈ r, isVal d = true := List.all_eq_true.mp e
        refine hno ?_
        show _ ∧ _
        refine ⟨⟨_, rfl⟩, ?_⟩
        refine dLc_mapF r id (fun d => .str (mkS (codeV d))) (noOwn1 (by simp)) (sz _ (by omega)) (fun P hP => by rw [List.map_id] at hP; exact hP) (fun d hd P hP => ?_) ?_
        · exact ⟨rfl, d, rfl, hv d hd, hP⟩
        · have e : r.map (fun d => D.str (mkS (codeV d))) = (r.map codeV).map fun y => D.str (mkS y) := by rw [List.map_map]; rfl
          rw [e]
          obtain ⟨j1, j2⟩ := join_parts (ys := r.map codeV) (n := 20) (B := 402) (by rw [List.length_map]; exact hl) (fun y hy => by
            rw [List.mem_map] at hy
            obtain ⟨d, hd, rfl⟩ := hy
            exact code_len (hv d hd)) (by decide)
          refine ⟨_, j1, j2, ?_⟩
          rw [join_mkS]
          exact h1 r rfl hv
  · exact ⟨_, false, rfl, rfl, h2 rfl⟩
end K12

namespace K12
open PySem PySem.Spec L2 G TL C Q
theorem rd_law_jar : Rd n_law_jar 1 sp_law_jar d_law_jar := by
  rintro ds W Q Qx _ ⟨z, rfl, h⟩
  show d_law_jar _ [some (.sh (.int z))] W
  unfold d_law_jar
  have p64 : ((10 : Int) ^ (64 : Int).toNat).natAbs < 2 ^ 213 := by decide
  have p128 : ((10 : Int) ^ (64 : Int).toNat * 10 ^ (64 : Int).toNat).natAbs < 2 ^ 426 := by decide
  have pos : (0 : Int) < 10 ^ (64 : Int).toNat * 10 ^ (64 : Int).toNat * 10 ^ (64 : Int).toNat := by decide
  have big : (10 : Int) ^ (64 : Int).toNat * 10 ^ (64 : Int).toNat * 10 ^ (64 : Int).toNat < 2 ^ 640 := by decide
  refine ⟨⟨by decide, by decide, by decide⟩, ⟨by decide, by decide, by decide⟩, mulX_of 213 213 p64 p64 (by decide) (by decide) (by decide), ⟨by decide, by decide, by decide⟩, mulX_of 426 213 p128 p64 (by decide) (by decide) (by decide), pos, ?_⟩
  have c0 := Int.emod_nonneg z (show (10 : Int) ^ (64 : Int).toNat * 10 ^ (64 : Int).toNat * 10 ^ (64 : Int).toNat ≠ 0 by omega)
  have c1 := Int.emod_lt_of_pos z pos
  have key : ∀ c : Int, 0 ≤ c → c < 2 ^ 640 → 0 ≤ (if c - 10 ^ 18 > 0 then c - 10 ^ 18 else 0) ∧ (if c - 10 ^ 18 > 0 then c - 10 ^ 18 else 0).natAbs < 2 ^ 640 ∧ 0 ≤ c % 2147483629 + 3 ∧ c % 2147483629 + 3 < 2147483648 := fun c h0 h1 => by
    refine ⟨by split <;> omega, by split <;> omega, by omega, by omega⟩
  obtain ⟨k1, k2, k3, k4⟩ := key (z % ((10 : Int) ^ (64 : Int).toNat * 10 ^ (64 : Int).toNat * 10 ^ (64 : Int).toNat)) c0 (Int.lt_trans c1 big)
  exact ⟨⟨by decide, by decide, by decide⟩, (by decide : (0 : Int) < 2147483629), sz 2 (by decide), fun p hp => h _ p ⟨_, _, updW_same, k1, k2, k3, k4⟩⟩
theorem rd_law_drawn : Rd n_law_drawn 2 sp_law_drawn d_law_drawn := by
  rintro ds W Q Qx _ ⟨p, many, rfl, ⟨a, b, hp, ha0, ha1, hb0, hb1⟩, hM0, hM1, h⟩
  show d_law_drawn _ [some (.sh (.ref p)), some (.sh (.int many)), none] W
  unfold d_law_drawn
  refine ⟨_, .int a, hp, rfl, ?_⟩
  refine ite_d (fun h0 => ?_) (fun h0 => ?_)
  · have hd : a / many ≤ a := Int.ediv_le_self _ ha0
    have hd0 : 0 ≤ a / many := Int.ediv_nonneg ha0 (by omega)
    have hlt : (a / many).natAbs < 2 ^ 640 := by omega
    refine ⟨_, .int a, hp, rfl, hM0, _, .int a, hp, rfl, ⟨hM0, Nat.lt_of_lt_of_le (log2_small (k := 30) (by omega) (by decide)) (by decide)⟩, _, 0, hp, rfl, ?_⟩
    exact h _ _ (Int.emod_nonneg _ (by omega)) (Int.emod_lt_of_pos _ hM0) ⟨a / many, b, updW_same, hd0, hlt, hb0, hb1⟩
  · have f0 : 0 ≤ (b * 48271 + 12820163) % 2147483647 := by omega
    have f1 : (b * 48271 + 12820163) % 2147483647 < 2147483648 := by omega
    have f2 : ((b * 48271 + 12820163) % 2147483647).natAbs < 2 ^ 31 := by omega
    refine ⟨_, .int b, hp, rfl, mulX_of 31 16 (by omega) (by decide) (by decide) (by decide) (by decide), (by decide : (0 : Int) < 2147483647), _, 1, hp, rfl, ?_⟩
    refine ⟨_, .int ((b * 48271 + 12820163) % 2147483647), updW_same, rfl, _, .int ((b * 48271 + 12820163) % 2147483647), updW_same, rfl, mulX_of 31 31 f2 f2 (by decide) (by decide) (by decide), (by decide : (0 : Int) < 2147483629), ⟨by decide, by decide⟩, hM0, ?_⟩
    exact h _ _ (Int.emod_nonneg _ (by omega)) (Int.emod_lt_of_pos _ hM0) ⟨a, (b * 48271 + 12820163) % 2147483647, updW_same, ha0, ha1, f0, f1⟩
theorem so_cat : Str.ofString " !\"#$&'()*+,-./0123456789:;<=>?@ABCDEFGHIJKLMNOPQRSTUVWXYZ[\\]^_`" ++ Str.ofString "abcdefghijklmnopqrstuvwxyz{|}~" = mkS signs1 := by decide +kernel
theorem rd_law_signs : Rd n_law_signs 0 sp_law_signs d_law_signs := by
  rintro ds W Q Qx _ ⟨rfl, h⟩
  refine ⟨sz _ (by decide), ?_⟩
  show Q (.str (Str.ofString " !\"#$&'()*+,-./0123456789:;<=>?@ABCDEFGHIJKLMNOPQRSTUVWXYZ[\\]^_`" ++ Str.ofString "abcdefghijklmnopqrstuvwxyz{|}~")) W
  rw [so_cat]
  exact h
theorem val_str {l : List Nat} (hp : Pr l) (hl : l.length ≤ 200) : isVal (.str (mkS l)) = true := by
  show (textB (tl (mkS l)) && decide ((mkS l).length ≤ 200)) = true
  rw [tl_mkS, text_pr.mpr hp, len_mkS, decide_eq_true hl]
  rfl
theorem rep_one (c : Nat) {n : Int} (h : 0 ≤ n) : repS ⟨#[c]⟩ n = mkS (List.replicate n.toNat c) := by
  obtain ⟨m, rfl⟩ : ∃ m : Nat, n = m := ⟨n.toNat, by omega⟩
  rw [rep_mkS]
  congr 1
  show (List.replicate m [c]).flatten = List.replicate m c
  induction m with
  | zero => rfl
  | succ m ih => rw [List.replicate_succ, List.flatten_cons, ih (by omega), List.replicate_succ]; rfl
theorem so_low : Str.ofString " !\"a" = mkS [32, 33, 34, 97] := by decide +kernel
theorem pr_low : Pr [32, 33, 34, 97] := by unfold Pr; decide +kernel
theorem s1_len : signs1.length = 94 := by decide +kernel
theorem rd_law_text : Rd n_law_text 1 sp_law_text d_law_text := by
  rintro ds W Q Qx _ ⟨p, rfl, hs, h⟩
  show d_law_text _ [some (.sh (.ref p)), none, none, none, none, none, none, none, none] W
  unfold d_law_text
  rw [so_low, so_nil]
  refine ⟨rfl, rfl, rfl, p, 8, rfl, hs, by decide, by decide, fun k W1 k0 k1 hs => ⟨sz 3 (by decide), rfl, ?_⟩⟩
  refine dEq_int (ite_d (fun h0 => ?_) (fun h0 => ?_))
  · refine ⟨rfl, p, 3, rfl, hs, by decide, by decide, fun r W2 r0 r1 hs => ?_⟩
    refine ⟨rfl, p, 94, rfl, hs, by decide, by decide, fun a W3 a0 a1 hs => ⟨sz _ (by rw [len_mkS, s1_len]; decide), ?_⟩⟩
    obtain ⟨c, hc, cl, cu⟩ := at_mkS signs1 a a0 (by rw [s1_len]; exact a1) pr_s1
    refine ⟨c, hc, rfl, p, 4, rfl, hs, by decide, by decide, fun b W4 b0 b1 hs => ⟨sz _ (by rw [len_mkS]; decide), ?_⟩⟩
    obtain ⟨c2, hc2, cl2, cu2⟩ := at_mkS [32, 33, 34, 97] b b0 b1 pr_low
    refine ⟨c2, hc2, rfl, p, 200 - r, rfl, hs, by omega, by omega, fun m W5 m0 m1 hs => ?_⟩
    refine ⟨by omega, by omega, sz _ (by show 1 * m.toNat ≤ _; omega), ?_⟩
    rw [rep_one c m0, one_mkS c2]
    refine ⟨sz _ (by rw [len_mkS, len_mkS, List.length_replicate]; simp only [List.length_cons, List.length_nil]; omega), ?_⟩
    refine ⟨by omega, by omega, sz _ (by show 1 * (200 - r - m - 1).toNat ≤ _; omega), ?_⟩
    rw [rep_one c (by omega : 0 ≤ 200 - r - m - 1), app_mkS]
    refine ⟨sz _ (by rw [len_mkS, len_mkS, List.length_append, List.length_replicate, List.length_replicate]; simp only [List.length_cons, List.length_nil]; omega), ?_⟩
    rw [app_mkS]
    refine h _ _ (val_str (fun d hd => ?_) ?_) hs
    · simp only [List.mem_append, List.mem_replicate, List.mem_singleton] at hd
      rcases hd with (hd | hd) | hd
      · rw [hd.2]; exact ⟨cl, cu⟩
      · rw [hd]; exact ⟨cl2, cu2⟩
      · rw [hd.2]; exact ⟨cl, cu⟩
    · simp only [List.length_append, List.length_replicate, List.length_cons, List.length_nil]; omega
  refine ite_d (fun h1 => ?_) (fun h1 => ?_)
  · refine ⟨⟨_, rfl⟩, ?_⟩
    refine dLc_eachB (fun ds W0 => ds.length ≤ 8 ∧ JarOk W0 p) (fun j W' => JarOk W' p) (fun y => ∃ c, y = .str (mkS [c]) ∧ 32 ≤ c ∧ c ≤ 126) (noOwn1 (by simp)) (fun P hP => ?_) (fun ds W0 b => ⟨sz _ (by omega), b.2⟩) (fun ds W0 b j d W' hd hs P hP => ?_) (fun ds W0 b ys W' hl hA hs => ?_)
    · exact ⟨rfl, p, 5, rfl, hs, by decide, by decide, fun m W2 m0 m1 hs => ⟨by omega, by omega, hP _ _ ⟨by rw [rng_len]; omega, hs⟩⟩⟩
    · refine ⟨rfl, p, 4, rfl, hs, by decide, by decide, fun b W4 b0 b1 hs => ⟨sz _ (by rw [len_mkS]; decide), ?_⟩⟩
      obtain ⟨c, hc, cl, cu⟩ := at_mkS [32, 33, 34, 97] b b0 b1 pr_low
      exact ⟨c, hc, hP _ _ ⟨c, rfl, cl, cu⟩ hs⟩
    · obtain ⟨l, l1, l2, rfl⟩ := flat_ones ys hA
      obtain ⟨j1, j2⟩ := join_parts (ys := l.map fun c => [c]) (n := 8) (B := 1) (by rw [List.length_map]; omega) (fun y hy => by
        rw [List.mem_map] at hy
        obtain ⟨c, _, rfl⟩ := hy
        simp) (by decide)
      refine ⟨_, j1, j2, ?_⟩
      rw [join_mkS, flat_sing]
      exact h _ _ (val_str l2 (by omega)) hs
  · refine ⟨⟨_, rfl⟩, ?_⟩
    refine dLc_eachB (fun ds W0 => ds.length ≤ 8 ∧ JarOk W0 p) (fun j W' => JarOk W' p) (fun y => ∃ c, y = .str (mkS [c]) ∧ 32 ≤ c ∧ c ≤ 126) (noOwn1 (by simp)) (fun P hP => ?_) (fun ds W0 b => ⟨sz _ (by omega), b.2⟩) (fun ds W0 b j d W' hd hs P hP => ?_) (fun ds W0 b ys W' hl hA hs => ?_)
    · exact ⟨rfl, p, 8, rfl, hs, by decide, by decide, fun m W2 m0 m1 hs => ⟨by omega, by omega, hP _ _ ⟨by rw [rng_len]; omega, hs⟩⟩⟩
    · refine ⟨rfl, p, 94, rfl, hs, by decide, by decide, fun b W4 b0 b1 hs => ⟨sz _ (by rw [len_mkS, s1_len]; decide), ?_⟩⟩
      obtain ⟨c, hc, cl, cu⟩ := at_mkS signs1 b b0 (by rw [s1_len]; exact b1) pr_s1
      exact ⟨c, hc, hP _ _ ⟨c, rfl, cl, cu⟩ hs⟩
    · obtain ⟨l, l1, l2, rfl⟩ := flat_ones ys hA
      obtain ⟨j1, j2⟩ := join_parts (ys := l.map fun c => [c]) (n := 8) (B := 1) (by rw [List.length_map]; omega) (fun y hy => by
        rw [List.mem_map] at hy
        obtain ⟨c, _, rfl⟩ := hy
        simp) (by decide)
      refine ⟨_, j1, j2, ?_⟩
      rw [join_mkS, flat_sing]
      exact h _ _ (val_str l2 (by omega)) hs
end K12

namespace K12
open PySem PySem.Spec L2 G TL C Q
theorem val_int {i : Int} (h : i.natAbs < 10 ^ 30) : isVal (.int i) = true := by
  show decide (i.natAbs ≤ 999999999999999999999999999999) = true
  have e : (10 : Nat) ^ 30 = 1000000000000000000000000000000 := by decide
  exact decide_eq_true (by omega)
theorem mul10 {i : Int} (h : i.natAbs < 10 ^ 40) : CMulX i 10 := mulX_of 134 4 (Nat.lt_of_lt_of_le h (by decide)) (by decide) (by decide) (by decide) (by decide)
theorem mul10n {n : Nat} (h : n ≤ 10 ^ 30) : CMulX (n : Int) 10 := mul10 (by rw [Int.natAbs_natCast]; exact Nat.lt_of_le_of_lt h (by decide))
theorem rd_law_number : Rd n_law_number 1 sp_law_number d_law_number := by
  rintro ds W Q Qx _ ⟨p, rfl, hs, h⟩
  show d_law_number _ [some (.sh (.ref p)), none, none, none, none, none, none] W
  unfold d_law_number
  refine ⟨rfl, p, 8, rfl, hs, by decide, by decide, fun k W1 k0 k1 hs => ⟨rfl, p, 30, rfl, hs, by decide, by decide, fun m W2 m0 m1 hs => ⟨rfl, p, 2, rfl, hs, by decide, by decide, fun b W3 b0 b1 hs => ?_⟩⟩⟩
  obtain ⟨n, rfl⟩ : ∃ n : Nat, m = n := ⟨m.toNat, by omega⟩
  have hn : n < 30 := by omega
  have p40 : ∀ j : Nat, j ≤ 30 → 10 ^ j ≤ 10 ^ 30 := fun j hj => Nat.pow_le_pow_right (by decide) hj
  refine seq_gen (fun ρ W' => JarOk W' p ∧ ∃ x5, ρ = [some (.sh (.ref p)), some (.sh (.int k)), some (.sh (.int (1 + n))), some (.sh (.int b)), some (.sh (.int ((10 ^ n : Nat) : Int))), x5, none]) (fun ρ W4 hI => ?_) (fun N hN => ?_)
  case refine_2 =>
    refine dFor_of (rng 0 n) (fun i ρ W' => JarOk W' p ∧ ∃ x5, ρ = [some (.sh (.ref p)), some (.sh (.int k)), some (.sh (.int (1 + n))), some (.sh (.int b)), some (.sh (.int ((10 ^ i : Nat) : Int))), x5, none]) (fun P hP => ?_) ⟨hs, none, rfl⟩ (fun i d ρ W' hd hI => ?_) (fun ρ W' hI => ?_)
    · refine ⟨by omega, by omega, ?_⟩
      have e : ((1 : Int) + n - 1).toNat = n := by omega
      rw [e]; exact hP
    · obtain ⟨hs, x5, rfl⟩ := hI
      have hi : i < n := by
        have := (List.getElem?_eq_some_iff.mp hd).1
        rw [rng_len] at this; exact this
      have := p40 i (by omega)
      refine ⟨mul10n this, hs, some (.sh d), ?_⟩
      have e : ((10 ^ (i + 1) : Nat) : Int) = ((10 ^ i : Nat) : Int) * 10 := by rw [Nat.pow_succ]; exact Int.natCast_mul _ _
      rw [e]; rfl
    · rw [rng_len] at hI
      exact hN _ _ hI
  obtain ⟨hs, x5, rfl⟩ := hI
  refine seq_gen (fun ρ W' => JarOk W' p ∧ ∃ (f : Nat) (x4 x5 : Option Sl), f < 10 ^ 30 ∧ ρ = [some (.sh (.ref p)), some (.sh (.int k)), some (.sh (.int (1 + n))), some (.sh (.int b)), x4, x5, some (.sh (.int f))]) (fun ρ W4 hI => ?_) (fun N hN => ?_)
  case refine_2 =>
    have pn := p40 n (by omega)
    have pn1 := p40 (n + 1) (by omega)
    rw [Nat.pow_succ] at pn1
    refine ite_d (fun h0 => ?_) (fun h0 => ite_d (fun h1 => ?_) (fun h1 => ?_))
    · refine ⟨rfl, p, 12, rfl, hs, by decide, by decide, fun r W5 r0 r1 hs => hN _ _ ⟨hs, r.toNat, some (.sh (.int ((10 ^ n : Nat) : Int))), x5, ?_, ?_⟩⟩
      · have : (12 : Nat) < 10 ^ 30 := by decide
        omega
      · rw [Int.toNat_of_nonneg r0]; rfl
    · have p1 : 1 ≤ 10 ^ n := Nat.pow_pos (by decide)
      refine ⟨mul10n pn, sz 2 (by decide), (by decide : (0 : Int) < 2), ?_⟩
      have hk : k % 2 = 0 ∨ k % 2 = 1 := by omega
      rcases hk with e | e
      · refine ⟨.int ((10 ^ n : Nat) : Int), by rw [e]; rfl, hN _ _ ⟨hs, 10 ^ n, some (.sh (.int ((10 ^ n : Nat) : Int))), x5, by omega, rfl⟩⟩
      · refine ⟨.int (((10 ^ n : Nat) : Int) * 10 - 1), by rw [e]; rfl, hN _ _ ⟨hs, 10 ^ n * 10 - 1, some (.sh (.int ((10 ^ n : Nat) : Int))), x5, by omega, ?_⟩⟩
        have : ((10 ^ n * 10 - 1 : Nat) : Int) = ((10 ^ n : Nat) : Int) * 10 - 1 := by omega
        rw [this]; rfl
    · refine ⟨rfl, p, 9, rfl, hs, by decide, by decide, fun r W5 r0 r1 hs => ?_⟩
      refine dFor_of (rng 0 n) (fun i ρ W' => JarOk W' p ∧ ∃ (f : Nat) (x5 : Option Sl), f < 10 ^ (i + 1) ∧ ρ = [some (.sh (.ref p)), some (.sh (.int k)), some (.sh (.int (1 + n))), some (.sh (.int b)), some (.sh (.int ((10 ^ n : Nat) : Int))), x5, some (.sh (.int f))]) (fun P hP => ?_) ⟨hs, (1 + r).toNat, x5, by rw [Nat.pow_succ]; omega, ?_⟩ (fun i d ρ W' hd hI => ?_) (fun ρ W' hI => ?_)
      · refine ⟨by omega, by omega, ?_⟩
        have e : ((1 : Int) + n - 1).toNat = n := by omega
        rw [e]; exact hP
      · rw [Int.toNat_of_nonneg (by omega)]; rfl
      · obtain ⟨hs, f, x5, hf, rfl⟩ := hI
        have hi : i < n := by
          have := (List.getElem?_eq_some_iff.mp hd).1
          rw [rng_len] at this; exact this
        have := p40 (i + 1) (by omega)
        refine ⟨mul10n (by omega), rfl, p, 10, rfl, hs, by decide, by decide, fun r W6 r0 r1 hs => ⟨hs, f * 10 + r.toNat, some (.sh d), by rw [Nat.pow_succ]; omega, ?_⟩⟩
        have e : ((f * 10 + r.toNat : Nat) : Int) = (f : Int) * 10 + r := by omega
        rw [e]; rfl
      · rw [rng_len] at hI
        obtain ⟨hs, f, x5, hf, rfl⟩ := hI
        have := p40 (n + 1) (by omega)
        exact hN _ _ ⟨hs, f, some (.sh (.int ((10 ^ n : Nat) : Int))), x5, by omega, rfl⟩
  obtain ⟨hs, f, x4, x5, hf, rfl⟩ := hI
  refine dEq_int (ite_d (fun h0 => ?_) (fun h0 => ?_))
  · exact h _ _ (val_int (by omega)) hs
  · exact h _ _ (val_int (by omega)) hs
theorem rd_law_value : Rd n_law_value 1 sp_law_value d_law_value := by
  rintro ds W Q Qx _ ⟨p, rfl, hs, h⟩
  show d_law_value _ [some (.sh (.ref p)), none] W
  unfold d_law_value
  refine ⟨rfl, p, 9, rfl, hs, by decide, by decide, fun k W1 k0 k1 hs => ?_⟩
  refine ite_d (fun h0 => ?_) (fun h0 => ite_d (fun h1 => ?_) (fun h1 => ?_))
  · refine ⟨sz 3 (by decide), ix_all k0 h0 fun z hz => h _ _ ?_ hs⟩
    simp only [List.mem_cons, List.not_mem_nil, or_false] at hz
    rcases hz with rfl | rfl | rfl <;> rfl
  · exact ⟨rfl, p, rfl, hs, fun i W2 hi hs => h _ _ hi hs⟩
  · exact ⟨rfl, p, rfl, hs, fun s W2 hi hs => h _ _ hi hs⟩
end K12

namespace K12
open PySem PySem.Spec L2 G TL C Q
theorem dFrz_of {i : Nat} {f : TSD} {De : EndsD} {ρ : G.Env} {W : Wd} {ds : List D} (h : ρ[i]? = some (some (.ol ds))) (k : f De (ρ.set i (some (.sh (.lst ds)))) W) : dFrz i f De ρ W := by
  unfold dFrz; rw [h]; exact k
theorem take1 (l : List Nat) (a : Nat) : (l.drop a).take 1 = l[a]?.toList := by
  cases e : l[a]? with
  | none => rw [List.drop_eq_nil_of_le (List.getElem?_eq_none_iff.mp e)]; rfl
  | some c =>
    obtain ⟨h1, h2⟩ := List.getElem?_eq_some_iff.mp e
    rw [List.drop_eq_getElem_cons h1, h2]; rfl
theorem sl1 (l : List Nat) (a : Nat) {b : Int} (hb : b = a + 1) : cutS (mkS l) (some (a : Int)) (some b) = mkS l[a]?.toList := by
  have e : b = ((a + 1 : Nat) : Int) := by omega
  rw [e, cut_ab, tl_mkS, show a + 1 - a = 1 by omega, take1]
theorem mk_ne {a b : List Nat} (h : a ≠ b) : ¬ mkS a = mkS b := fun z => h (mkS_inj.mp z)
abbrev oneD (S : List Nat) : List D := S.map fun c => D.str (mkS [c])
abbrev tf (l : List Nat) (a : Nat) (S : List Nat) : G.Env := [some (.sh (.str (mkS l))), some (.sh (.int a)), some (.sh (.int 200)), some (.ol (oneD S))]
theorem in_str (x : List Nat) : ∀ ys : List (List Nat), inV (.str (mkS x)) (ys.map fun y => V.str (mkS y)) = decide (x ∈ ys)
  | [] => by simp [inV]
  | y :: ys => by
    have ih := in_str x ys
    unfold inV at ih ⊢
    rw [List.map_cons, List.any_cons, ih]
    have : eqV (.str (mkS y)) (.str (mkS x)) = decide (x = y) := by
      by_cases h : x = y
      · subst h; rw [decide_eq_true rfl]; simp [eqV]
      · rw [decide_eq_false h]
        have : ¬ mkS y = mkS x := fun z => h (mkS_inj.mp z).symm
        simp [eqV, this]
    rw [this]
    simp [List.mem_cons]
theorem rd_text_from : Rd n_text_from 3 sp_text_from d_text_from := by
  rintro ds W Q Qx _ ⟨l, a0, rfl, ⟨hp, hl⟩, ha, h⟩
  show d_text_from _ [some (.sh (.str (mkS l))), some (.sh (.int a0)), some (.sh (.int 200)), none] W
  unfold d_text_from
  rw [so_sp, so_mk, so_a, so_b, so_nil]
  refine seq_gen (fun ρ W' => W' = W ∧ ρ = tf l a0 []) (fun ρ W' hI => ?_) (fun N hN => ⟨sz 0 (by decide), hN _ _ ⟨rfl, rfl⟩⟩)
  obtain ⟨rfl, rfl⟩ := hI
  refine seq_gen (fun ρ W2 => W2 = W' ∧ ∃ S a, a ≤ l.length ∧ textA l 200 a0 = .inr (S, a + 1) ∧ S.length ≤ 200 ∧ ρ = tf l a S) (fun ρ W2 hI => ?_) (fun N hN => ?_)
  case refine_1 =>
    obtain ⟨rfl, S, a, h1, h2, h3, rfl⟩ := hI
    rw [h2] at h
    refine dFrz_of (ds := oneD S) rfl ?_
    have es : oneD S = (S.map fun c => [c]).map fun y => D.str (mkS y) := by rw [List.map_map]; rfl
    rw [es]
    obtain ⟨j1, j2⟩ := join_parts (ys := S.map fun c => [c]) (n := 200) (B := 1) (by rw [List.length_map]; exact h3) (fun y hy => by
      rw [List.mem_map] at hy
      obtain ⟨c, _, rfl⟩ := hy
      simp) (by decide)
    refine ⟨⟨_, rfl⟩, _, j1, j2, ?_⟩
    rw [join_mkS, flat_sing]
    refine ⟨sz 2 (by decide), ?_⟩
    have h : Q (.tup [.str (mkS S), .int ((a + 1 : Nat) : Int)]) W2 := h
    rw [show ((a + 1 : Nat) : Int) = (a : Int) + 1 from by omega] at h
    exact h
  refine dWhile_of (fun m ρ W2 => W2 = W' ∧ ∃ S a, m + S.length = 200 ∧ a ≤ l.length ∧ textA l 200 a0 = preT S (textA l m a) ∧ ρ = tf l a S) 200 ⟨rfl, [], a0, rfl, ha, (preT_nil _).symm, rfl⟩ (fun m ρ W2 hI => ?_)
  obtain ⟨rfl, S, a, hm, hal, he, rfl⟩ := hI
  have slz : l.length ≤ sizeLine := sz _ (by omega)
  refine ⟨by rw [len_mkS]; exact slz, ?_⟩
  rw [sl1 l a rfl]
  refine dNe_str ?_
  have fin : ∀ b : Nat, textA l m a = .inl b → Qx (.ref a_InvalidCode) (some [("index", .int b)]) W2 := fun b z => by
    rw [he, z] at h; exact h
  cases e : l[a]? with
  | none =>
    rw [decide_eq_false (mk_ne (by simp : (none : Option Nat).toList ≠ [32]))]
    refine ite_t ?_
    have hal2 : a = l.length := by have := List.getElem?_eq_none_iff.mp e; omega
    refine ⟨by rw [len_mkS]; exact slz, dEq_int ?_⟩
    rw [decide_eq_true (by rw [len_mkS, hal2] : (a : Int) = ((mkS l).length : Int))]
    exact fin a (by cases m <;> rw [textA, e])
  | some c =>
    have hlt := (List.getElem?_eq_some_iff.mp e).1
    by_cases c32 : c = 32
    · rw [decide_eq_true (by rw [c32]; rfl : mkS (some c).toList = mkS [32])]
      refine ite_f (hN _ _ ⟨rfl, S, a, hal, ?_, by omega, rfl⟩)
      rw [he]
      have : textA l m a = .inr ([], a + 1) := by cases m <;> rw [textA, e] <;> simp [c32]
      rw [this]; simp [preT]
    rw [decide_eq_false (mk_ne (by simpa using c32 : (some c).toList ≠ [32]))]
    refine ite_t ?_
    refine ⟨by rw [len_mkS]; exact slz, dEq_int ?_⟩
    rw [decide_eq_false (by rw [len_mkS]; omega : ¬ (a : Int) = ((mkS l).length : Int))]
    refine ite_f (dEq_int ?_)
    cases m with
    | zero =>
      rw [decide_eq_true (by rw [List.length_map]; omega : ((oneD S).length : Int) = 200)]
      exact fin a (by rw [textA, e]; simp [c32])
    | succ m =>
      rw [decide_eq_false (by rw [List.length_map]; omega : ¬ ((oneD S).length : Int) = 200)]
      have e' : (mkS l).cps.toList[a]? = some c := e
      have slq : (mkS l).length ≤ sizeLine := by rw [len_mkS]; exact slz
      have cast : (a : Int) + 1 = ((a + 1 : Nat) : Int) := by omega
      refine ite_f ⟨slq, c, atI_of e', dEq_str ?_⟩
      rw [one_mkS]
      by_cases c33 : c = 33
      · rw [decide_eq_true (by rw [c33] : mkS [c] = mkS [33])]
        refine ite_t ⟨slq, sz 2 (by decide), [[97], [98]].map (fun y => V.str (mkS y)), rfl, rfl, rfl, ?_⟩
        rw [cast, sl1 l (a + 1) rfl]
        show (if (!inV (.str (mkS l[a + 1]?.toList)) ([[97], [98]].map fun y => V.str (mkS y))) = true then _ else _)
        rw [in_str]
        have hT : textA l (m + 1) a = (match l[a + 1]? with | some d => if d = 97 then preT [32] (textA l m (a + 2)) else if d = 98 then preT [33] (textA l m (a + 2)) else .inl (a + 1) | none => .inl (a + 1)) := by
          rw [textA, e]
          dsimp only
          rw [if_neg c32, if_pos c33]
          try rfl
        have go : ∀ d x : Nat, l[a + 1]? = some d → (d = 97 ∧ x = 32 ∨ d = 98 ∧ x = 33) → preT S (textA l (m + 1) a) = preT (S ++ [x]) (textA l m (a + 2)) := fun d x z hd => by
          rw [hT, z]
          dsimp only
          rcases hd with ⟨rfl, rfl⟩ | ⟨rfl, rfl⟩
          · rw [if_pos rfl, preT_app]
          · rw [if_neg (by decide), if_pos rfl, preT_app]
        cases f : l[a + 1]? with
        | none =>
          refine ite_t ?_
          exact fin (a + 1) (by rw [hT, f])
        | some d =>
          have hlt2 := (List.getElem?_eq_some_iff.mp f).1
          have f' : (mkS l).cps.toList[a + 1]? = some d := f
          have fin2 : ∀ x : Nat, (d = 97 ∧ x = 32 ∨ d = 98 ∧ x = 33) → ∃ m', m' < m + 1 ∧ W2 = W2 ∧ ∃ S2 a2, m' + S2.length = 200 ∧ a2 ≤ l.length ∧ textA l 200 a0 = preT S2 (textA l m' a2) ∧ [some (.sh (.str (mkS l))), some (.sh (.int (((a + 1 : Nat) : Int) + 1))), some (.sh (.int 200)), some (.ol (oneD S ++ [.str (mkS [x])]))] = tf l a2 S2 := fun x hx => by
            refine ⟨m, by omega, rfl, S ++ [x], a + 2, by simp; omega, by omega, by rw [he, go d x f hx], ?_⟩
            unfold tf oneD
            rw [List.map_append, show (((a + 1 : Nat) : Int) + 1) = ((a + 2 : Nat) : Int) from by omega]; rfl
          by_cases d97 : d = 97
          · rw [decide_eq_true (by rw [d97]; simp : (some d).toList ∈ [[97], [98]])]
            refine ite_f ⟨⟨_, rfl⟩, slq, d, atI_of f', dEq_str ?_⟩
            rw [one_mkS, decide_eq_true (by rw [d97] : mkS [d] = mkS [97])]
            exact ite_t ⟨sz _ (by rw [List.length_map]; omega), fin2 32 (.inl ⟨d97, rfl⟩)⟩
          · by_cases d98 : d = 98
            · rw [decide_eq_true (by rw [d98]; simp : (some d).toList ∈ [[97], [98]])]
              refine ite_f ⟨⟨_, rfl⟩, slq, d, atI_of f', dEq_str ?_⟩
              rw [one_mkS, decide_eq_false (mk_ne (by simpa using d97))]
              exact ite_f ⟨sz _ (by rw [List.length_map]; omega), fin2 33 (.inr ⟨d98, rfl⟩)⟩
            · rw [decide_eq_false (by simp [d97, d98] : ¬ (some d).toList ∈ [[97], [98]])]
              refine ite_t ?_
              exact fin (a + 1) (by rw [hT, f]; simp [d97, d98])
      · rw [decide_eq_false (mk_ne (by simpa using c33))]
        refine ite_f ⟨⟨_, rfl⟩, slq, c, atI_of e', ?_, m, by omega, rfl, S ++ [c], a + 1, by simp; omega, hlt, ?_, ?_⟩
        · exact sz _ (by rw [List.length_map]; omega)
        · rw [he, textA, e]
          dsimp only
          rw [if_neg c32, if_neg c33, preT_app]
        · rw [one_mkS]
          show [_, some (.sh (.int ((a : Int) + 1))), _, some (.ol (oneD S ++ [.str (mkS [c])]))] = tf l (a + 1) (S ++ [c])
          unfold tf oneD
          rw [cast, List.map_append]; rfl
end K12

namespace K12
open PySem PySem.Spec L2 G TL C Q
theorem find_no {L : List Nat} {c : Nat} (hn : c ∉ L) : Txt.find (mkS L) (mkS [c]) = -1 := by
  have hf := StrLaws.found_one (mkS L) c
  have hn' : c ∉ (mkS L).cps.toList := hn
  rw [decide_eq_false hn'] at hf
  unfold Txt.find
  show (match Builtin.Str.occurrences (mkS L) ⟨#[c]⟩ 0 (mkS L).length 1 with | i :: _ => (i : Int) | [] => -1) = -1
  cases q : Builtin.Str.occurrences (mkS L) ⟨#[c]⟩ 0 (mkS L).length 1 with
  | nil => rfl
  | cons i r => rw [q] at hf; cases hf
theorem mem_cnt {c : Nat} : c ∈ cntL ↔ 65 ≤ c ∧ c ≤ 95 := by
  unfold cntL
  simp only [List.mem_cons, List.not_mem_nil, or_false]
  omega
theorem find_cnt {c : Nat} (h : 65 ≤ c ∧ c ≤ 95) : Txt.find (mkS cntL) (mkS [c]) = (c : Int) - 65 := by
  have all : ∀ r : Fin 31, Txt.find (mkS cntL) (mkS [65 + r.val]) = (r.val : Int) := by decide +kernel
  have := all ⟨c - 65, by omega⟩
  rw [show 65 + (⟨c - 65, by omega⟩ : Fin 31).val = c by simp; omega] at this
  rw [this]; simp; omega
abbrev decL : List Nat := [48, 49, 50, 51, 52, 53, 54, 55, 56, 57]
theorem mem_dec {c : Nat} : c ∈ decL ↔ 48 ≤ c ∧ c ≤ 57 := by
  simp only [List.mem_cons, List.not_mem_nil, or_false]
  omega
theorem slk (l : List Nat) (n : Nat) {x y : Int} (hx : x = n) (hy : y = n + 1) : cutS (mkS l) (some x) (some y) = mkS l[n]?.toList := by
  rw [hx]; exact sl1 l n hy
theorem in_dec (x : List Nat) : inS (mkS x) (mkS decL) = inS (mkS x) (mkS decL) := rfl
theorem dig_text (c : Nat) (h : 48 ≤ c ∧ c ≤ 57) : (Str.ofString (toString (9 - ((c - 48 : Nat) : Int)))) = mkS [105 - c] := dig_comp h
theorem int_digs {ds : List Nat} (h : ∀ c ∈ ds, 48 ≤ c ∧ c ≤ 57) (hne : ds ≠ []) (hl : ds.length ≤ 640) : PySem.intText? (mkS ds) = some ((digV ds : Nat) : Int) :=
  PySem.intText_digits (x := mkS ds) (fun d hd => by
    have := h d hd
    omega) hne (by rw [len_mkS]; omega)
abbrev sn (l : List Nat) (a : Nat) (below : Bool) (f m : Int) (dg : List Nat) (x6 x7 : Option Sl) : G.Env :=
  [some (.sh (.str (mkS l))), some (.sh (.int a)), some (.sh (.bl below)), some (.sh (.int f)), some (.sh (.int m)), some (.sh (.str (mkS dg))), x6, x7]
def fndC : Option Nat → Int
  | none => -1
  | some c => if 65 ≤ c ∧ c ≤ 95 then (c : Int) - 65 else -1
def manC (below : Bool) (f : Int) : Int := if below = true ∧ 0 ≤ f then 31 - f else f + 1
theorem fnd_yes {c : Nat} (h : 65 ≤ c ∧ c ≤ 95) : fndC (some c) = (c : Int) - 65 := if_pos h
theorem fnd_no {c : Nat} (h : ¬ (65 ≤ c ∧ c ≤ 95)) : fndC (some c) = -1 := if_neg h
theorem man_m1 (below : Bool) : manC below (-1) = 0 := by unfold manC; rw [if_neg (fun z => by omega)]; rfl
theorem man_t {f : Int} (h : 0 ≤ f) : manC true f = 31 - f := if_pos ⟨rfl, h⟩
theorem man_f (f : Int) : manC false f = f + 1 := if_neg fun z => by cases z.1
theorem man_cnt {c : Nat} (h : 65 ≤ c ∧ c ≤ 95) (below : Bool) : manC below (fndC (some c)) = (cntC below c : Nat) := by
  rw [fnd_yes h]
  cases below with
  | false => rw [man_f]; show _ = ((c - 64 : Nat) : Int); omega
  | true => rw [man_t (by omega)]; show _ = ((96 - c : Nat) : Int); omega
theorem numA_bad {l : List Nat} {below : Bool} {a : Nat} (h : ¬ (1 ≤ manC below (fndC l[a]?) ∧ manC below (fndC l[a]?) ≤ 30)) : numA l below a = .inl a := by
  unfold numA
  split
  · rfl
  · rename_i c e
    rw [e] at h
    refine if_neg fun z => h ?_
    obtain ⟨z1, z2, z3⟩ := z
    rw [man_cnt ⟨z1, z2⟩]
    have : 1 ≤ cntC below c := by unfold cntC; split <;> omega
    omega
theorem numA_good {l : List Nat} {below : Bool} {a : Nat} (h : 1 ≤ manC below (fndC l[a]?) ∧ manC below (fndC l[a]?) ≤ 30) : ∃ n : Nat, manC below (fndC l[a]?) = n ∧ 1 ≤ n ∧ n ≤ 30 ∧ a < l.length ∧
    numA l below a = (match digA l below true n (a + 1) with | .inl e => .inl e | .inr (ds, b) => .inr (sgnC below (digV ds), b)) := by
  unfold numA
  split
  · rename_i e
    rw [e, show fndC none = -1 from rfl, man_m1] at h
    omega
  · rename_i c e
    have hlt := (List.getElem?_eq_some_iff.mp e).1
    rw [e] at h ⊢
    by_cases hc : 65 ≤ c ∧ c ≤ 95
    · rw [man_cnt hc] at h ⊢
      refine ⟨cntC below c, rfl, by omega, by omega, hlt, ?_⟩
      rw [if_pos ⟨hc.1, hc.2, by omega⟩]
      try rfl
    · rw [fnd_no hc, man_m1] at h
      omega
theorem rd_number_from : Rd n_number_from 3 sp_number_from d_number_from := by
  rintro ds W Q Qx _ ⟨l, a, below, rfl, ⟨hp, hl⟩, ha, h⟩
  show d_number_from _ [some (.sh (.str (mkS l))), some (.sh (.int a)), some (.sh (.bl below)), none, none, none, none, none] W
  unfold d_number_from
  rw [so_nil, so_cnt, so_dg, so_9, so_0]
  have slq : (mkS l).length ≤ sizeLine := by rw [len_mkS]; exact sz _ (by omega)
  refine seq_gen (fun ρ W' => W' = W ∧ ρ = [some (.sh (.str (mkS l))), some (.sh (.int a)), some (.sh (.bl below)), some (.sh (.int (fndC l[a]?))), none, none, none, none]) (fun ρ W' hI => ?_) (fun N hN => ?_)
  case refine_2 =>
    refine ⟨slq, ite_d (fun h0 => ?_) (fun h0 => ?_)⟩
    · rw [len_mkS] at h0
      have hlt : a < l.length := by omega
      have e : l[a]? = some l[a] := List.getElem?_eq_getElem hlt
      have e' : (mkS l).cps.toList[a]? = some l[a] := e
      refine ⟨⟨_, rfl⟩, slq, l[a], atI_of e', ?_⟩
      rw [one_mkS]
      refine hN _ _ ⟨rfl, ?_⟩
      rw [e]
      by_cases hc : 65 ≤ l[a] ∧ l[a] ≤ 95
      · rw [fnd_yes hc, ← find_cnt hc]; rfl
      · rw [fnd_no hc, ← find_no (fun z => hc (mem_cnt.mp z))]; rfl
    · rw [len_mkS] at h0
      have e : l[a]? = none := List.getElem?_eq_none_iff.mpr (by omega)
      exact hN _ _ ⟨rfl, by rw [e]; rfl⟩
  obtain ⟨rfl, rfl⟩ := hI
  generalize hf : fndC l[a]? = f
  refine seq_gen (fun ρ W2 => W2 = W' ∧ ρ = [some (.sh (.str (mkS l))), some (.sh (.int a)), some (.sh (.bl below)), some (.sh (.int f)), some (.sh (.int (manC below f))), none, none, none]) (fun ρ W2 hI => ?_) (fun N hN => ?_)
  case refine_2 =>
    refine ite_b (fun hb => ?_) (fun hb => ?_)
    · subst hb
      refine ite_d (fun h0 => ?_) (fun h0 => ?_)
      · refine hN _ _ ⟨rfl, ?_⟩
        rw [man_t h0]; rfl
      · refine hN _ _ ⟨rfl, ?_⟩
        rw [show manC true f = f + 1 from if_neg fun z => h0 z.2]; rfl
    · subst hb
      refine hN _ _ ⟨rfl, ?_⟩
      rw [man_f]; rfl
  obtain ⟨rfl, rfl⟩ := hI
  subst hf
  generalize hm : manC below (fndC l[a]?) = m
  have fail : ∀ e : Nat, numA l below a = .inl e → Qx (.ref a_InvalidCode) (some [("index", .int e)]) W2 := fun e z => by rw [z] at h; exact h
  have badm : ¬ (1 ≤ m ∧ m ≤ 30) → Qx (.ref a_InvalidCode) (some [("index", .int a)]) W2 := fun z => fail a (numA_bad (by rw [hm]; exact z))
  show (match D.bl (decide (1 ≤ m)) with | .v (.bl true) => _ | .v (.bl false) => _ | _ => False)
  by_cases h1 : 1 ≤ m
  case neg =>
    rw [decide_eq_false h1]
    exact hyes (badm fun z => h1 z.1)
  rw [decide_eq_true h1]
  show (if (!decide (m ≤ 30)) = true then _ else _)
  by_cases h2 : m ≤ 30
  case neg =>
    rw [decide_eq_false h2]
    exact hyes (badm fun z => h2 z.2)
  rw [decide_eq_true h2]
  refine hno ?_
  obtain ⟨n, en, n1, n30, hlt, hnum⟩ := numA_good (l := l) (below := below) (a := a) (by rw [hm]; exact ⟨h1, h2⟩)
  rw [hm] at en
  subst en
  generalize fndC l[a]? = f
  unfold dNext
  dsimp only
  refine seq_gen (fun ρ W3 => W3 = W2 ∧ ρ = sn l a below f n [] none none) (fun ρ W3 hI => ?_) (fun N hN => hN _ _ ⟨rfl, rfl⟩)
  obtain ⟨rfl, rfl⟩ := hI
  refine seq_gen (fun ρ W4 => W4 = W3 ∧ ∃ ds x6 x7, digA l below true n (a + 1) = .inr (ds, a + 1 + n) ∧ ρ = sn l a below f n ds x6 x7) (fun ρ W4 hI => ?_) (fun N hN => ?_)
  case refine_1 =>
    obtain ⟨rfl, ds, x6, x7, hd, rfl⟩ := hI
    obtain ⟨d1, d2, _, _⟩ := digA_ok hd
    have hne : ds ≠ [] := fun z => by rw [z] at d2; simp at d2; omega
    rw [hnum, hd] at h
    have h : Q (.tup [.int (sgnC below (digV ds)), .int ((a + 1 + n : Nat) : Int)]) W4 := h
    have ec : ((a + 1 + n : Nat) : Int) = (a : Int) + 1 + n := by omega
    rw [ec] at h
    refine ite_b (fun hb => ?_) (fun hb => ?_)
    · subst hb
      exact ⟨by rw [len_mkS]; omega, _, int_digs d1 hne (by omega), sz 2 (by decide), h⟩
    · subst hb
      exact ⟨by rw [len_mkS]; omega, _, int_digs d1 hne (by omega), sz 2 (by decide), h⟩
  refine dFor_of (rng 0 n) (fun i ρ W4 => W4 = W3 ∧ i ≤ n ∧ ∃ dg x6 x7, dg.length = i ∧ digA l below true n (a + 1) = preT dg (digA l below (decide (i = 0)) (n - i) (a + 1 + i)) ∧ ρ = sn l a below f n dg x6 x7) (fun P hP => ?_) ⟨rfl, Nat.zero_le _, [], none, none, rfl, (preT_nil _).symm, rfl⟩ (fun i d ρ W4 hd hI => ?_) (fun ρ W4 hI => ?_)
  · refine ⟨by omega, by omega, ?_⟩
    rw [Int.toNat_natCast]; exact hP
  · obtain ⟨rfl, hi0, dg, x6, x7, hdl, he, rfl⟩ := hI
    have hi : i < n := by
      have := (List.getElem?_eq_some_iff.mp hd).1
      rw [rng_len] at this; exact this
    have ed : d = .int (i : Int) := by
      unfold rng at hd
      rw [List.getElem?_map, List.getElem?_range hi] at hd
      have := Option.some.inj hd
      rw [← this]
      show D.int (0 + (i : Int)) = _
      rw [Int.zero_add]
    subst ed
    have hq : n - i = (n - i - 1) + 1 := by omega
    rw [hq, digA] at he
    have fail2 : (∀ c, l[a + 1 + i]? = some c → ¬ (48 ≤ c ∧ c ≤ 57 ∧ ¬ (decide (i = 0) = true ∧ c = leadC below))) → Qx (.ref a_InvalidCode) (some [("index", .int ((a + 1 + i : Nat) : Int))]) W4 := fun z => by
      refine fail _ ?_
      rw [hnum, he]
      cases e : l[a + 1 + i]? with
      | none => rfl
      | some c => dsimp only; rw [if_neg (z c e)]; rfl
    refine seq_gen (fun ρ W5 => W5 = W4 ∧ ρ = sn l a below f n dg (some (.sh (.int i))) (some (.sh (.str (mkS l[a + 1 + i]?.toList))))) (fun ρ W5 hI => ?_) (fun N hN => ⟨slq, ?_⟩)
    case refine_2 =>
      refine hN _ _ ⟨rfl, ?_⟩
      rw [← slk l (a + 1 + i) (x := (a : Int) + 1 + i) (y := (a : Int) + 2 + i) (by omega) (by omega)]
      rfl
    obtain ⟨rfl, rfl⟩ := hI
    refine dEq_str ?_
    have ei : ((a + 1 + i : Nat) : Int) = (a : Int) + 1 + i := by omega
    rw [ei] at fail2
    cases e : l[a + 1 + i]? with
    | none =>
      rw [decide_eq_true (show mkS (none : Option Nat).toList = mkS [] from rfl)]
      exact ite_t (fail2 fun c z => by rw [e] at z; cases z)
    | some c =>
      rw [decide_eq_false (mk_ne (by simp : (some c).toList ≠ []))]
      rw [e] at he
      dsimp only at he
      refine ite_f ?_
      show (if (!inS (mkS [c]) (mkS decL)) = true then _ else _)
      rw [inS_one, tl_mkS]
      by_cases hc : 48 ≤ c ∧ c ≤ 57
      case neg =>
        rw [decide_eq_false (fun z => hc (mem_dec.mp z))]
        exact hyes (fail2 fun c' z hz => by rw [e] at z; cases z; exact hc ⟨hz.1, hz.2.1⟩)
      rw [decide_eq_true (mem_dec.mpr hc)]
      have bad : decide (i = 0) = true ∧ c = leadC below → Qx (.ref a_InvalidCode) (some [("index", .int ((a : Int) + 1 + i))]) W5 := fun q => fail2 fun c' z hz => by
        rw [e] at z; cases z; exact hz.2.2 q
      have nxt : ∀ De : EndsD, ¬ (decide (i = 0) = true ∧ c = leadC below) → (∀ ρ2 W2, (W2 = W5 ∧ i + 1 ≤ n ∧ ∃ dg x6 x7, dg.length = i + 1 ∧ digA l below true n (a + 1) = preT dg (digA l below (decide (i + 1 = 0)) (n - (i + 1)) (a + 1 + (i + 1))) ∧ ρ2 = sn l a below f n dg x6 x7) → De.nx ρ2 W2) →
          dAug 5 dIaS (dIf (dBool (dVar 2)) (dCB dStrC (dCons (dOp dSub (dC (.int 9)) (dCB dIntC (dCons (dVar 7) dNil))) dNil)) (dVar 7)) De (sn l a below f n dg (some (.sh (.int i))) (some (.sh (.str (mkS [c]))))) W5 := fun De hl hN => by
        rw [if_pos ⟨hc.1, hc.2, hl⟩, preT_app] at he
        have fin : De.nx (sn l a below f n (dg ++ [figC below c]) (some (.sh (.int i))) (some (.sh (.str (mkS [c]))))) W5 := hN _ _ ⟨rfl, hi, dg ++ [figC below c], _, _, by simp [hdl], by
          rw [he, show decide (i + 1 = 0) = false from decide_eq_false (by omega), show n - (i + 1) = n - i - 1 by omega, show a + 1 + (i + 1) = a + 1 + i + 1 by omega], rfl⟩
        have sz2 : (mkS dg).length + (mkS [figC below c]).length ≤ sizeLine := sz _ (by rw [len_mkS, len_mkS]; simp only [List.length_cons, List.length_nil]; omega)
        refine ite_b (fun hb => ?_) (fun hb => ?_)
        · subst hb
          refine ⟨by rw [len_mkS]; simp, _, int_dig hc, ?_⟩
          refine ⟨Nat.lt_of_lt_of_le (log2_small (k := 5) (by omega) (by decide)) (by decide), ?_⟩
          show dIaS (.str (mkS dg)) (.str (Str.ofString (toString (9 - ((c - 48 : Nat) : Int))))) _
          rw [dig_comp hc]
          refine ⟨sz2, ?_⟩
          rw [app_mkS]
          exact fin
        · subst hb
          refine ⟨sz2, ?_⟩
          rw [app_mkS]
          exact fin
      refine hno ?_
      refine dEq_int (ite_d (fun h0 => ?_) (fun h0 => ?_))
      · have h0 : i = 0 := by omega
        refine ite_b (fun hb => dEq_str (ite_d (fun hz => ?_) (fun hz => ?_))) (fun hb => dEq_str (ite_d (fun hz => ?_) (fun hz => ?_)))
        · have := mkS_inj.mp hz
          exact bad ⟨decide_eq_true h0, by subst hb; injection this⟩
        · exact nxt _ (fun q => hz (by subst hb; rw [q.2]; rfl)) fun ρ2 W2 q => q
        · have := mkS_inj.mp hz
          exact bad ⟨decide_eq_true h0, by subst hb; injection this⟩
        · exact nxt _ (fun q => hz (by subst hb; rw [q.2]; rfl)) fun ρ2 W2 q => q
      · exact nxt _ (fun q => h0 (by have := of_decide_eq_true q.1; omega)) fun ρ2 W2 q => q
  · rw [rng_len] at hI
    obtain ⟨rfl, hi0, dg, x6, x7, hdl, he, rfl⟩ := hI
    rw [Nat.sub_self, digA] at he
    exact hN _ _ ⟨rfl, dg, x6, x7, by rw [he]; simp [preT], rfl⟩
end K12

namespace K12
open PySem PySem.Spec L2 G TL C Q
theorem so_1 : Str.ofString "1" = mkS [49] := by decide +kernel
theorem so_2 : Str.ofString "2" = mkS [50] := by decide +kernel
def t4 : List (Key × D) := [(.inr (mkS [48]), .non), (.inr (mkS [49]), .bl false), (.inr (mkS [50]), .bl true), (.inr (mkS [111]), .int 0)]
theorem puts4 : putsD t4 = t4 := by
  have e : ∀ a b : Nat, ((mkS [a] : Str) = mkS [b]) ↔ a = b := fun a b => ⟨fun h => (by have := mkS_inj.mp h; injection this), fun h => by rw [h]⟩
  simp [putsD, putD, t4, e]
theorem val4 {c : Nat} {d : D} (h : c = 48 ∧ d = .non ∨ c = 49 ∧ d = .bl false ∨ c = 50 ∧ d = .bl true ∨ c = 111 ∧ d = .int 0) : valD t4 (.inr (mkS [c])) = some d := by
  have e : ∀ a b : Nat, ((mkS [a] : Str) = mkS [b]) ↔ a = b := fun a b => ⟨fun h => (by have := mkS_inj.mp h; injection this), fun h => by rw [h]⟩
  unfold t4
  rcases h with ⟨rfl, rfl⟩ | ⟨rfl, rfl⟩ | ⟨rfl, rfl⟩ | ⟨rfl, rfl⟩ <;> simp [valD_cons, e]
theorem rd_value_from : Rd n_value_from 2 sp_value_from d_value_from := by
  rintro ds W Q Qx _ ⟨l, a, rfl, ⟨hp, hl⟩, ha, h⟩
  show d_value_from _ [some (.sh (.str (mkS l))), some (.sh (.int a)), none] W
  unfold d_value_from
  rw [so_t, so_n, so_p, so_0, so_1, so_2, so_o]
  have slq : (mkS l).length ≤ sizeLine := by rw [len_mkS]; exact sz _ (by omega)
  obtain ⟨c, e⟩ : ∃ c, l[a]? = some c := ⟨_, List.getElem?_eq_getElem ha⟩
  refine seq_gen (fun ρ W' => W' = W ∧ ρ = [some (.sh (.str (mkS l))), some (.sh (.int a)), some (.sh (.str (mkS [c])))]) (fun ρ W' hI => ?_) (fun N hN => ⟨slq, ?_⟩)
  case refine_2 =>
    rw [sl1 l a rfl, e]
    exact hN _ _ ⟨rfl, rfl⟩
  obtain ⟨rfl, rfl⟩ := hI
  unfold valA at h
  rw [e] at h
  dsimp only at h
  have inT : ∀ ys : List (List Nat), inV (.str (mkS [c])) (ys.map fun y => V.str (mkS y)) = decide ([c] ∈ ys) := in_str [c]
  refine dEq_str ?_
  by_cases c1 : c = 116
  · rw [decide_eq_true (by rw [c1] : mkS [c] = mkS [116])]
    rw [if_pos c1] at h
    refine ite_t ⟨rfl, l, a + 1, rfl, ⟨hp, hl⟩, ha, ?_⟩
    cases q : textA l 200 (a + 1) with
    | inl z => rw [q] at h; exact h
    | inr z => obtain ⟨t, b⟩ := z; rw [q] at h; exact h
  rw [decide_eq_false (mk_ne (by simpa using c1))]
  rw [if_neg c1] at h
  refine ite_f ⟨sz 2 (by decide), [[110], [112]].map (fun y => V.str (mkS y)), rfl, rfl, rfl, ?_⟩
  show (if (inV (.str (mkS [c])) ([[110], [112]].map fun y => V.str (mkS y))) = true then _ else _)
  rw [inT]
  by_cases c2 : c = 110 ∨ c = 112
  · rw [decide_eq_true (by simpa using c2)]
    rw [if_pos c2] at h
    refine ite_t ?_
    refine dEq_str ?_
    refine ⟨rfl, l, a + 1, decide (c = 110), ?_, ⟨hp, hl⟩, ha, ?_⟩
    · rw [show decide (mkS [c] = mkS [110]) = decide (c = 110) from decide_eq_decide.mpr ⟨fun z => (by have := mkS_inj.mp z; injection this), fun z => by rw [z]⟩]; rfl
    cases q : numA l (decide (c = 110)) (a + 1) with
    | inl z => rw [q] at h; exact h
    | inr z => obtain ⟨t, b⟩ := z; rw [q] at h; exact h
  rw [decide_eq_false (by simpa using c2)]
  rw [if_neg c2] at h
  refine ite_f ⟨sz 4 (by decide), [[48], [49], [50], [111]].map (fun y => V.str (mkS y)), rfl, rfl, rfl, ?_⟩
  show (if (!inV (.str (mkS [c])) ([[48], [49], [50], [111]].map fun y => V.str (mkS y))) = true then _ else _)
  rw [inT]
  have go : ∀ d, (c = 48 ∧ d = D.non ∨ c = 49 ∧ d = .bl false ∨ c = 50 ∧ d = .bl true ∨ c = 111 ∧ d = .int 0) → Q (.tup [d, .int ((a + 1 : Nat) : Int)]) W' → (dRet (dTup (dCons (dDGet (dDisp [((dC (.str (mkS [48]))), (dC .non)), ((dC (.str (mkS [49]))), (dC (.bl false))), ((dC (.str (mkS [50]))), (dC (.bl true))), ((dC (.str (mkS [111]))), (dC (.int 0)))]) (dVar 2)) (dCons (dOp dAdd (dVar 1) (dC (.int 1))) dNil))))
      { nx := fun _ W' => Q .non W', rt := Q, ex := fun cls x _ W' => Qx cls x W' } [some (.sh (.str (mkS l))), some (.sh (.int a)), some (.sh (.str (mkS [c])))] W' := fun d hd q => by
    refine ⟨t4, rfl, by decide, ?_⟩
    rw [puts4]
    refine ⟨.inr (mkS [c]), d, rfl, ?_, sz 2 (by decide), q⟩
    rw [zip_fst_snd]
    exact val4 hd
  by_cases c3 : c = 48 ∨ c = 49 ∨ c = 50 ∨ c = 111
  case neg =>
    rw [decide_eq_false (by simpa using c3)]
    have h : Qx (.ref a_InvalidCode) (some [("index", .int a)]) W' := by
      rw [if_neg (fun z => c3 (.inl z)), if_neg (fun z => c3 (.inr (.inl z))), if_neg (fun z => c3 (.inr (.inr (.inl z)))), if_neg (fun z => c3 (.inr (.inr (.inr z))))] at h
      exact h
    exact hyes h
  rw [decide_eq_true (by simpa using c3)]
  refine hno ?_
  rcases c3 with c3 | c3 | c3 | c3
  · rw [if_pos c3] at h
    exact go .non (.inl ⟨c3, rfl⟩) h
  · rw [if_neg (by omega), if_pos c3] at h
    exact go (.bl false) (.inr (.inl ⟨c3, rfl⟩)) h
  · rw [if_neg (by omega), if_neg (by omega), if_pos c3] at h
    exact go (.bl true) (.inr (.inr (.inl ⟨c3, rfl⟩))) h
  · rw [if_neg (by omega), if_neg (by omega), if_neg (by omega), if_pos c3] at h
    exact go (.int 0) (.inr (.inr (.inr ⟨c3, rfl⟩))) h
theorem preR_app (V : List D) (d : D) (r : Nat ⊕ List D) : preR V (match r with | .inl e => .inl e | .inr r => .inr (d :: r)) = preR (V ++ [d]) r := by
  cases r with
  | inl e => rfl
  | inr r => simp [preR]
theorem rd_values_told : Rd n_values_told 1 sp_values_told d_values_told := by
  rintro ds W Q Qx _ ⟨d, rfl, hs, h1, h2⟩
  show d_values_told _ [some (.sh d), none, none, none] W
  unfold d_values_told
  refine ⟨rfl, d, rfl, hs, ?_⟩
  cases ht : isTextD d with
  | false => exact hyes (h1 ht)
  | true =>
    refine hno ?_
    obtain ⟨s, rfl⟩ : ∃ s, d = .str s := by
      unfold isTextD at ht
      split at ht
      · exact ⟨_, rfl⟩
      · cases ht
    have hp : Pr (tl s) := text_pr.mp ht
    obtain ⟨l, rfl⟩ : ∃ l, s = mkS l := ⟨tl s, (mkS_tl s).symm⟩
    rw [tl_mkS] at hp
    obtain ⟨hl, h⟩ := h2 l rfl hp
    have slq : (mkS l).length ≤ sizeLine := by rw [len_mkS]; exact sz _ (by omega)
    unfold dNext
    dsimp only
    refine seq_gen (fun ρ W' => W' = W ∧ ρ = [some (.sh (.str (mkS l))), some (.sh (.tup [])), some (.sh (.int (0 : Nat))), none]) (fun ρ W' hI => ?_) (fun N hN => ⟨sz 0 (by decide), sz 2 (by decide), rfl, hN _ _ ⟨rfl, rfl⟩⟩)
    obtain ⟨rfl, rfl⟩ := hI
    refine seq_gen (fun ρ W2 => W2 = W' ∧ ∃ V a x3, readA l = .inr V ∧ ρ = [some (.sh (.str (mkS l))), some (.sh (.tup V)), some (.sh (.int (a : Nat))), x3]) (fun ρ W2 hI => ?_) (fun N hN => ?_)
    case refine_1 =>
      obtain ⟨rfl, V, a, x3, hr, rfl⟩ := hI
      rw [hr] at h
      exact h
    refine dWhile_of (fun m ρ W2 => W2 = W' ∧ ∃ V a x3, l.length ≤ m + a ∧ V.length + m ≤ l.length ∧ readA l = preR V (rowA l m a) ∧ ρ = [some (.sh (.str (mkS l))), some (.sh (.tup V)), some (.sh (.int (a : Nat))), x3]) l.length ⟨rfl, [], 0, none, by omega, by simp, (preR_nil _).symm, rfl⟩ (fun m ρ W2 hI => ?_)
    obtain ⟨rfl, V, a, x3, hm, hv, he, rfl⟩ := hI
    refine ⟨slq, ?_⟩
    show (if decide ((a : Int) < ((mkS l).length : Int)) = true then _ else _)
    rw [len_mkS]
    refine ite_d (fun h0 => ?_) (fun h0 => ?_)
    · have hlt : a < l.length := by omega
      obtain ⟨n, rfl⟩ : ∃ n, m = n + 1 := ⟨m - 1, by omega⟩
      rw [rowA, if_pos hlt] at he
      refine seq_gen (fun ρ W3 => W3 = W2 ∧ ∃ v b, valA l a = .inr (v, b) ∧ ρ = [some (.sh (.str (mkS l))), some (.sh (.tup V)), some (.sh (.int (b : Nat))), some (.sh v)]) (fun ρ W3 hI => ?_) (fun N hN => ?_)
      case refine_2 =>
        refine ⟨rfl, l, a, rfl, ⟨hp, hl⟩, hlt, ?_⟩
        cases q : valA l a with
        | inl z =>
          rw [q] at he
          rw [he] at h
          exact h
        | inr z =>
          obtain ⟨v, b⟩ := z
          exact ⟨rfl, hN _ _ ⟨rfl, v, b, q, rfl⟩⟩
      obtain ⟨rfl, v, b, q, rfl⟩ := hI
      rw [q] at he
      dsimp only at he
      obtain ⟨_, b1, b2⟩ := valA_ok hp q
      refine ⟨sz 1 (by decide), sz _ (by simp; omega), n, by omega, rfl, V ++ [v], b, some (.sh v), by omega, by simp; omega, ?_, rfl⟩
      rw [he]
      exact preR_app V v _
    · refine hN _ _ ⟨rfl, V, a, x3, ?_, rfl⟩
      rw [he, rowA_end (by omega)]
      simp [preR]
end K12

namespace K12
open PySem PySem.Spec L2 G TL C Q
theorem so_ab : Str.ofString "ab" = mkS [97, 98] := by decide +kernel
theorem so_ea : Str.ofString "!a" = mkS [33, 97] := by decide +kernel
theorem so_eb : Str.ofString "!b" = mkS [33, 98] := by decide +kernel
theorem so_rev : Str.ofString "9876543210" = mkS [57, 56, 55, 54, 53, 52, 51, 50, 49, 48] := by decide +kernel
theorem at_rev (r : Nat) (h : r < 10) : atI (mkS [57, 56, 55, 54, 53, 52, 51, 50, 49, 48]).cps.toList (r : Int) = some (57 - r) := by
  have : ∀ r : Fin 10, atI (mkS [57, 56, 55, 54, 53, 52, 51, 50, 49, 48]).cps.toList ((r : Nat) : Int) = some (57 - r.val) := by decide +kernel
  exact this ⟨r, h⟩
theorem rd_law_code : Rd n_law_code 1 sp_law_code d_law_code := by
  rintro ds W Q Qx _ ⟨d, rfl, hs, h⟩
  show d_law_code _ [some (.sh d), none, none, none, none] W
  unfold d_law_code
  rw [so_0, so_1, so_2, so_cnt, so_t, so_nil, so_sp, so_mk, so_ea, so_eb, so_o, so_p, so_n, so_rev]
  rcases val_cases hs with rfl | ⟨b, rfl⟩ | ⟨i, rfl⟩ | ⟨s, rfl⟩
  · exact h
  · cases b
    · exact ⟨sz 2 (by decide), .str (mkS [49]), rfl, h⟩
    · exact ⟨sz 2 (by decide), .str (mkS [50]), rfl, h⟩
  · show dSeq (dIfS _ _ _) _ _ _ _
    refine ⟨_, false, rfl, rfl, ?_⟩
    have hb := val_bound hs
    have l30 := numL_le hb
    have lpos : 0 < (numL i.natAbs).length := List.length_pos_iff.mpr (numL_ne _)
    have hlog : i.natAbs.log2 < 1920 := Nat.lt_of_lt_of_le (log2_small (k := 100) (Nat.lt_of_lt_of_le hb (by decide)) (by decide)) (by decide)
    have h : Q (.str (mkS (numC i))) W := h
    unfold numC at h
    refine dEq_int (ite_d (fun h0 => ?_) (fun h0 => ?_))
    · rw [if_pos h0] at h; exact h
    rw [if_neg h0] at h
    have ea : (if i < 0 then -i else i) = ((i.natAbs : Nat) : Int) := by split <;> omega
    show ((if i < 0 then -i else i).natAbs.log2 < 1920 ∧ _)
    rw [ea]
    refine ⟨by simpa using hlog, ?_⟩
    rw [str_num]
    refine ite_d (fun hp => ?_) (fun hp => ?_)
    · have hp : 0 < i := hp
      rw [if_pos hp] at h
      refine ⟨sz _ (by rw [len_mkS]; omega), sz _ (by decide), 65 + ((numL i.natAbs).length - 1), ?_, ?_⟩
      · have e : (((mkS (numL i.natAbs)).length : Int) - 1) = (((numL i.natAbs).length - 1 : Nat) : Int) := by rw [len_mkS]; omega
        rw [e]; exact cnt_at _ (by omega)
      · refine ⟨sz _ (by rw [one_mkS, len_mkS, len_mkS]; simp), sz _ (by rw [one_mkS, app_mkS, len_mkS, len_mkS]; simp only [List.length_append, List.length_cons, List.length_nil]; omega), ?_⟩
        rw [one_mkS, app_mkS, app_mkS]
        have : 65 + ((numL i.natAbs).length - 1) = 64 + (numL i.natAbs).length := by omega
        rw [this]
        exact h
    · have hp : ¬ 0 < i := hp
      rw [if_neg hp] at h
      refine ⟨sz _ (by rw [len_mkS]; omega), sz _ (by decide), 65 + (31 - (numL i.natAbs).length), ?_, ?_⟩
      · have e : ((31 : Int) - ((mkS (numL i.natAbs)).length : Int)) = ((31 - (numL i.natAbs).length : Nat) : Int) := by rw [len_mkS]; omega
        rw [e]; exact cnt_at _ (by omega)
      · refine ⟨sz _ (by rw [one_mkS, len_mkS, len_mkS]; simp), ⟨_, rfl⟩, ?_⟩
        refine dLc_mapF (numL i.natAbs) (fun c => .str (mkS [c])) (fun c => .str (mkS [105 - c])) (noOwn1 (by simp)) (sz _ (by omega)) (fun P hP => hP) (fun c hc P hP => ?_) ?_
        · have hd := numL_digits i.natAbs c hc
          refine ⟨by rw [len_mkS]; simp, _, int_dig hd, sz _ (by decide), 57 - (c - 48), at_rev (c - 48) (by omega), ?_⟩
          rw [one_mkS, show 57 - (c - 48) = 105 - c by omega]
          exact hP
        · have : (numL i.natAbs).map (fun c => D.str (mkS [105 - c])) = ((numL i.natAbs).map fun c => [105 - c]).map fun y => D.str (mkS y) := by rw [List.map_map]; rfl
          rw [this]
          have hone : ∀ y ∈ (numL i.natAbs).map fun c => [105 - c], y.length ≤ 1 := fun y hy => by
            rw [List.mem_map] at hy
            obtain ⟨c, _, rfl⟩ := hy
            simp
          obtain ⟨j1, j2⟩ := join_parts (ys := (numL i.natAbs).map fun c => [105 - c]) (n := 30) (B := 1) (by rw [List.length_map]; exact l30) hone (by decide)
          refine ⟨_, j1, j2, ?_⟩
          rw [join_mkS]
          have ef : ((numL i.natAbs).map fun c => [105 - c]).flatten = (numL i.natAbs).map (105 - ·) := by
            rw [← flat_sing ((numL i.natAbs).map (105 - ·)), List.map_map]; rfl
          rw [ef]
          refine ⟨sz _ (by rw [one_mkS, app_mkS, len_mkS, len_mkS]; simp only [List.length_append, List.length_cons, List.length_nil, List.length_map]; omega), ?_⟩
          rw [one_mkS, app_mkS, app_mkS]
          have : 65 + (31 - (numL i.natAbs).length) = 96 - (numL i.natAbs).length := by omega
          rw [this]
          exact h
  · refine ⟨_, true, rfl, rfl, ?_⟩
    obtain ⟨hp, hl⟩ := val_text hs
    refine ⟨⟨_, rfl⟩, ?_⟩
    refine dLc_mapF (tl s) (fun c => .str (mkS [c])) (fun c => .str (mkS (escC c))) (noOwn1 (by simp)) (sz _ (by rw [← len_tl s]; omega)) (fun P hP => hP) (fun c hc P hP => ?_) ?_
    · refine ⟨tld, rfl, by decide, ?_⟩
      rw [puts_told]
      refine ⟨⟨_, _, rfl⟩, .inr (mkS [c]), rfl, ?_⟩
      rw [zip_fst_snd, told_at]
      exact hP
    · have : (tl s).map (fun c => D.str (mkS (escC c))) = ((tl s).map escC).map fun y => D.str (mkS y) := by rw [List.map_map]; rfl
      rw [this]
      have fl := flat_len (ys := (tl s).map escC) (n := 200) (B := 2) (by rw [List.length_map, ← len_tl s]; exact hl) (fun y hy => by
        rw [List.mem_map] at hy
        obtain ⟨c, _, rfl⟩ := hy
        exact esc_len c)
      obtain ⟨j1, j2⟩ := join_parts (ys := (tl s).map escC) (n := 200) (B := 2) (by rw [List.length_map, ← len_tl s]; exact hl) (fun y hy => by
        rw [List.mem_map] at hy
        obtain ⟨c, _, rfl⟩ := hy
        exact esc_len c) (by decide)
      refine ⟨_, j1, j2, ?_⟩
      rw [join_mkS]
      refine ⟨sz _ (by rw [len_mkS, len_mkS]; simp only [List.length_cons, List.length_nil]; omega), ?_⟩
      rw [app_mkS]
      refine ⟨sz _ (by rw [len_mkS, len_mkS]; simp only [List.length_append, List.length_cons, List.length_nil]; omega), ?_⟩
      rw [app_mkS]
      exact h
end K12

namespace K12
open PySem PySem.Spec L2 G TL C Q
theorem nxt_of {De : EndsD} {ρ : G.Env} {W : Wd} (h : De.nx ρ W) : dNext De ρ W := h
theorem rng_at {n i : Nat} {d : D} (h : (rng 0 n)[i]? = some d) : i < n ∧ d = .int (i : Int) := by
  have hi : i < n := by
    have := (List.getElem?_eq_some_iff.mp h).1
    rw [rng_len] at this; exact this
  refine ⟨hi, ?_⟩
  unfold rng at h
  rw [List.getElem?_map, List.getElem?_range hi] at h
  have := Option.some.inj h
  rw [← this]
  show D.int (0 + (i : Int)) = _
  rw [Int.zero_add]
abbrev ta (l : List Nat) (a : Nat) (S : List Nat) (x3 x4 : Option Sl) : G.Env := [some (.sh (.str (mkS l))), some (.sh (.int a)), some (.sh (.str (mkS S))), x3, x4]
theorem rd_law_text_at : Rd n_law_text_at 2 sp_law_text_at d_law_text_at := by
  rintro ds W Q Qx _ ⟨l, a0, rfl, ⟨hp, hl⟩, ha, h⟩
  show d_law_text_at _ [some (.sh (.str (mkS l))), some (.sh (.int a0)), none, none, none] W
  unfold d_law_text_at
  rw [so_nil, so_sp, so_mk, so_ab, so_b]
  have slq : (mkS l).length ≤ sizeLine := by rw [len_mkS]; exact sz _ (by omega)
  refine seq_gen (fun ρ W' => W' = W ∧ ρ = ta l a0 [] none none) (fun ρ W' hI => ?_) (fun N hN => hN _ _ ⟨rfl, rfl⟩)
  obtain ⟨rfl, rfl⟩ := hI
  refine seq_gen (fun ρ W2 => False) (fun ρ W2 hI => hI.elim) (fun N hN => ?_)
  refine dFor_of (rng 0 201) (fun i ρ W2 => W2 = W' ∧ i ≤ 200 ∧ ∃ S a x3 x4, S.length = i ∧ a ≤ l.length ∧ textA l 200 a0 = preT S (textA l (200 - i) a) ∧ ρ = ta l a S x3 x4) (fun P hP => ⟨by decide, by decide, hP⟩) ⟨rfl, by omega, [], a0, none, none, rfl, ha, (preT_nil _).symm, rfl⟩ (fun i d ρ W2 hd hI => ?_) (fun ρ W2 hI => ?_)
  case refine_2 =>
    rw [rng_len] at hI
    obtain ⟨_, h1, _⟩ := hI
    omega
  obtain ⟨hi, rfl⟩ := rng_at hd
  obtain ⟨rfl, hi2, S, a, x3, x4, hS, hal, he, rfl⟩ := hI
  have fin : ∀ b : Nat, textA l (200 - i) a = .inl b → Q (.tup [.bl false, .non, .int b]) W2 := fun b z => by
    rw [he, z] at h; exact h
  refine ⟨slq, dEq_int ?_⟩
  rw [len_mkS]
  refine ite_d (fun h0 => ⟨sz 3 (by decide), ?_⟩) (fun h0 => ?_)
  · have e : l[a]? = none := List.getElem?_eq_none_iff.mpr (by omega)
    refine fin a ?_
    cases q : 200 - i with
    | zero => rw [textA, e]
    | succ n => rw [textA, e]
  have hlt : a < l.length := by omega
  obtain ⟨c, e⟩ : ∃ c, l[a]? = some c := ⟨_, List.getElem?_eq_getElem hlt⟩
  have e' : (mkS l).cps.toList[a]? = some c := e
  refine nxt_of ?_
  dsimp only
  refine seq_gen (fun ρ W3 => W3 = W2 ∧ ρ = ta l a S (some (.sh (.int i))) (some (.sh (.str (mkS [c]))))) (fun ρ W3 hI => ?_) (fun N hN => ⟨slq, c, atI_of e', hN _ _ ⟨rfl, by rw [one_mkS]; rfl⟩⟩)
  obtain ⟨rfl, rfl⟩ := hI
  refine dEq_str ?_
  by_cases c32 : c = 32
  · rw [decide_eq_true (by rw [c32] : mkS [c] = mkS [32])]
    have ht : textA l (200 - i) a = .inr ([], a + 1) := by
      cases q : 200 - i with
      | zero => rw [textA, e]; simp [c32]
      | succ n => rw [textA, e]; simp [c32]
    have h : Q (.tup [.bl true, .str (mkS (S ++ [])), .int ((a + 1 : Nat) : Int)]) W3 := by
      rw [he, ht] at h; exact h
    rw [List.append_nil] at h
    exact ite_t ⟨sz 3 (by decide), h⟩
  rw [decide_eq_false (mk_ne (by simpa using c32))]
  refine ite_f ⟨sz _ (by rw [len_mkS]; omega), dEq_int ?_⟩
  rw [len_mkS, hS]
  by_cases i200 : i = 200
  · rw [decide_eq_true (by omega : (i : Int) = 200)]
    refine ite_t ⟨sz 3 (by decide), fin a ?_⟩
    rw [i200]
    show textA l 0 a = _
    rw [textA, e]; simp [c32]
  rw [decide_eq_false (by omega : ¬ (i : Int) = 200)]
  refine ite_f (nxt_of ?_)
  dsimp only
  have hm : 200 - i = (200 - (i + 1)) + 1 := by omega
  -- what the text and the place become
  refine seq_gen (fun ρ W4 => W4 = W3 ∧ ∃ (x b : Nat), a < b ∧ b ≤ l.length ∧ textA l (200 - i) a = preT [x] (textA l (200 - (i + 1)) b) ∧ ρ = ta l (b - 1) S (some (.sh (.int i))) (some (.sh (.str (mkS [x]))))) (fun ρ W4 hI => ?_) (fun N hN => ?_)
  case refine_1 =>
    obtain ⟨rfl, x, b, hab, hb, ht, rfl⟩ := hI
    refine ⟨sz _ (by rw [len_mkS, len_mkS]; simp; omega), ?_⟩
    refine ⟨rfl, by omega, S ++ [x], b, some (.sh (.int i)), some (.sh (.str (mkS [x]))), by simp [hS], hb, ?_, ?_⟩
    · rw [he, ht, preT_app]
    · rw [app_mkS]
      unfold ta
      have : (b : Int) = ((b - 1 : Nat) : Int) + 1 := by omega
      rw [this]; rfl
  refine dEq_str ?_
  by_cases c33 : c = 33
  case neg =>
    rw [decide_eq_false (mk_ne (by simpa using c33))]
    refine ite_f (hN _ _ ⟨rfl, c, a + 1, by omega, hlt, ?_, rfl⟩)
    rw [hm, textA, e]
    dsimp only
    rw [if_neg c32, if_neg c33]
  rw [decide_eq_true (by rw [c33] : mkS [c] = mkS [33])]
  have hT : textA l (200 - i) a = (match l[a + 1]? with | some d => if d = 97 then preT [32] (textA l (200 - (i + 1)) (a + 2)) else if d = 98 then preT [33] (textA l (200 - (i + 1)) (a + 2)) else .inl (a + 1) | none => .inl (a + 1)) := by
    rw [hm, textA, e]
    dsimp only
    rw [if_neg c32, if_pos c33]
    try rfl
  refine ite_t ?_
  refine seq_gen (fun ρ W5 => W5 = W3 ∧ ρ = ta l (a + 1) S (some (.sh (.int i))) (some (.sh (.str (mkS [c]))))) (fun ρ W5 hI => ?_) (fun N2 hN2 => hN2 _ _ ⟨rfl, rfl⟩)
  obtain ⟨rfl, rfl⟩ := hI
  refine ⟨slq, dEq_int ?_⟩
  rw [len_mkS]
  refine ite_d (fun h1 => ?_) (fun h1 => ?_)
  · have f : l[a + 1]? = none := List.getElem?_eq_none_iff.mpr (by omega)
    exact ite_t ⟨sz 3 (by decide), fin (a + 1) (by rw [hT, f])⟩
  have hlt2 : a + 1 < l.length := by omega
  obtain ⟨d, f⟩ : ∃ d, l[a + 1]? = some d := ⟨_, List.getElem?_eq_getElem hlt2⟩
  have f' : (mkS l).cps.toList[a + 1]? = some d := f
  refine ⟨slq, d, atI_of f', ?_⟩
  rw [one_mkS]
  show (if (!inS (mkS [d]) (mkS [97, 98])) = true then _ else _)
  rw [inS_one, tl_mkS]
  by_cases hd : d ∈ [97, 98]
  case neg =>
    rw [decide_eq_false hd]
    refine hyes ⟨sz 3 (by decide), fin (a + 1) ?_⟩
    rw [hT, f]
    simp at hd
    simp [hd]
  rw [decide_eq_true hd]
  refine hno ?_
  refine ⟨sz 2 (by decide), slq, d, atI_of f', dEq_str ?_⟩
  rw [one_mkS]
  simp only [List.mem_cons, List.not_mem_nil, or_false] at hd
  rcases hd with rfl | rfl
  · rw [decide_eq_false (mk_ne (by simp))]
    refine ⟨.str (mkS [32]), rfl, hN _ _ ⟨rfl, 32, a + 2, by omega, by omega, ?_, rfl⟩⟩
    rw [hT, f]; rfl
  · rw [decide_eq_true rfl]
    refine ⟨.str (mkS [33]), rfl, hN _ _ ⟨rfl, 33, a + 2, by omega, by omega, ?_, rfl⟩⟩
    rw [hT, f]; rfl
end K12

namespace K12
open PySem PySem.Spec L2 G TL C Q
abbrev na (l : List Nat) (a : Nat) (below : Bool) (m : Int) (v : Int) (x6 : Option Sl) : G.Env := [some (.sh (.str (mkS l))), some (.sh (.int a)), some (.sh (.bl below)), some (.sh (.str (mkS cntL))), some (.sh (.int m)), some (.sh (.int v)), x6]
theorem digV_snoc (ds : List Nat) (c : Nat) : digV (ds ++ [c]) = digV ds * 10 + (c - 48) := by
  unfold digV NumText.digitsVal
  rw [List.foldl_append]; rfl
theorem rd_law_number_at : Rd n_law_number_at 3 sp_law_number_at d_law_number_at := by
  rintro ds W Q Qx _ ⟨l, a, below, rfl, ⟨hp, hl⟩, ha, h⟩
  show d_law_number_at _ [some (.sh (.str (mkS l))), some (.sh (.int a)), some (.sh (.bl below)), none, none, none, none] W
  unfold d_law_number_at
  rw [so_cnt, so_dg, so_9, so_0]
  have slq : (mkS l).length ≤ sizeLine := by rw [len_mkS]; exact sz _ (by omega)
  refine seq_gen (fun ρ W' => W' = W ∧ ρ = [some (.sh (.str (mkS l))), some (.sh (.int a)), some (.sh (.bl below)), some (.sh (.str (mkS cntL))), none, none, none]) (fun ρ W' hI => ?_) (fun N hN => hN _ _ ⟨rfl, rfl⟩)
  obtain ⟨rfl, rfl⟩ := hI
  have fail : ∀ e : Nat, numA l below a = .inl e → Q (.tup [.bl false, .non, .int e]) W' := fun e z => by rw [z] at h; exact h
  refine ⟨slq, dEq_int ?_⟩
  rw [len_mkS]
  refine ite_d (fun h0 => ?_) (fun h0 => ?_)
  · have e : l[a]? = none := List.getElem?_eq_none_iff.mpr (by omega)
    exact ite_t ⟨sz 3 (by decide), fail a (by unfold numA; rw [e])⟩
  have hlt : a < l.length := by omega
  obtain ⟨c, e⟩ : ∃ c, l[a]? = some c := ⟨_, List.getElem?_eq_getElem hlt⟩
  have e' : (mkS l).cps.toList[a]? = some c := e
  refine ⟨slq, c, atI_of e', ?_⟩
  rw [one_mkS]
  show (if (!inS (mkS [c]) (mkS cntL)) = true then _ else _)
  rw [inS_one, tl_mkS]
  by_cases hc : 65 ≤ c ∧ c ≤ 95
  case neg =>
    rw [decide_eq_false (fun z => hc (mem_cnt.mp z))]
    exact hyes ⟨sz 3 (by decide), fail a (by unfold numA; rw [e]; dsimp only; rw [if_neg (fun z => hc ⟨z.1, z.2.1⟩)])⟩
  rw [decide_eq_true (mem_cnt.mpr hc)]
  refine hno (nxt_of ?_)
  dsimp only
  have hmc := man_cnt hc below
  refine seq_gen (fun ρ W2 => W2 = W' ∧ ρ = [some (.sh (.str (mkS l))), some (.sh (.int a)), some (.sh (.bl below)), some (.sh (.str (mkS cntL))), some (.sh (.int ((c : Int) - 65 + 1))), none, none]) (fun ρ W2 hI => ?_) (fun N hN => ⟨⟨_, rfl⟩, slq, c, atI_of e', ?_⟩)
  case refine_2 =>
    rw [one_mkS]
    refine hN _ _ ⟨rfl, ?_⟩
    rw [← find_cnt hc]; rfl
  obtain ⟨rfl, rfl⟩ := hI
  refine seq_gen (fun ρ W3 => W3 = W2 ∧ ρ = [some (.sh (.str (mkS l))), some (.sh (.int a)), some (.sh (.bl below)), some (.sh (.str (mkS cntL))), some (.sh (.int (cntC below c : Nat))), none, none]) (fun ρ W3 hI => ?_) (fun N hN => ?_)
  case refine_2 =>
    refine ite_b (fun hb => ?_) (fun hb => ?_)
    · subst hb
      refine hN _ _ ⟨rfl, ?_⟩
      have : ((cntC true c : Nat) : Int) = 32 - ((c : Int) - 65 + 1) := by show ((96 - c : Nat) : Int) = _; omega
      rw [this]; rfl
    · subst hb
      refine hN _ _ ⟨rfl, ?_⟩
      have : ((cntC false c : Nat) : Int) = ((c : Int) - 65 + 1) := by show ((c - 64 : Nat) : Int) = _; omega
      rw [this]
  obtain ⟨rfl, rfl⟩ := hI
  generalize hn : cntC below c = n
  refine ite_d (fun h1 => ⟨sz 3 (by decide), fail a ?_⟩) (fun h1 => ?_)
  · have h1 : (n : Int) > 30 := h1
    unfold numA; rw [e]; dsimp only; rw [if_neg (fun z => by omega)]
  have h1 : ¬ (n : Int) > 30 := h1
  have hnum : numA l below a = (match digA l below true n (a + 1) with | .inl e => .inl e | .inr (ds, b) => .inr (sgnC below (digV ds), b)) := by
    unfold numA; rw [e]; dsimp only
    rw [hn, if_pos ⟨hc.1, hc.2, by omega⟩]
    try rfl
  refine nxt_of ?_
  dsimp only
  refine seq_gen (fun ρ W4 => W4 = W3 ∧ ρ = na l a below n 0 none) (fun ρ W4 hI => ?_) (fun N hN => hN _ _ ⟨rfl, rfl⟩)
  obtain ⟨rfl, rfl⟩ := hI
  refine seq_gen (fun ρ W5 => W5 = W4 ∧ ∃ ds x6, digA l below true n (a + 1) = .inr (ds, a + 1 + n) ∧ ρ = na l (a + n) below n (digV ds) x6) (fun ρ W5 hI => ?_) (fun N hN => ?_)
  case refine_1 =>
    obtain ⟨rfl, ds, x6, hd, rfl⟩ := hI
    rw [hnum, hd] at h
    have h : Q (.tup [.bl true, .int (sgnC below (digV ds)), .int ((a + 1 + n : Nat) : Int)]) W5 := h
    have ec : ((a + 1 + n : Nat) : Int) = ((a + n : Nat) : Int) + 1 := by omega
    rw [ec] at h
    refine ite_b (fun hb => ?_) (fun hb => ?_)
    · subst hb
      exact ⟨sz 3 (by decide), h⟩
    · subst hb
      exact ⟨sz 3 (by decide), h⟩
  refine dFor_of (rng 0 n) (fun i ρ W5 => W5 = W4 ∧ i ≤ n ∧ a + i < l.length ∧ ∃ dg x6, dg.length = i ∧ (∀ c ∈ dg, 48 ≤ c ∧ c ≤ 57) ∧ digA l below true n (a + 1) = preT dg (digA l below (decide (i = 0)) (n - i) (a + 1 + i)) ∧ ρ = na l (a + i) below n (digV dg) x6) (fun P hP => ?_) ⟨rfl, Nat.zero_le _, hlt, [], none, rfl, (fun _ z => by cases z), (preT_nil _).symm, rfl⟩ (fun i d ρ W5 hd hI => ?_) (fun ρ W5 hI => ?_)
  · refine ⟨by omega, by omega, ?_⟩
    rw [Int.toNat_natCast]; exact hP
  · obtain ⟨hi, rfl⟩ := rng_at hd
    obtain ⟨rfl, hi0, hil, dg, x6, hdl, hdd, he, rfl⟩ := hI
    have hq : n - i = (n - i - 1) + 1 := by omega
    rw [hq, digA] at he
    have cast : ((a + i : Nat) : Int) + 1 = ((a + 1 + i : Nat) : Int) := by omega
    have fail2 : (∀ c, l[a + 1 + i]? = some c → ¬ (48 ≤ c ∧ c ≤ 57 ∧ ¬ (decide (i = 0) = true ∧ c = leadC below))) → Q (.tup [.bl false, .non, .int ((a + 1 + i : Nat) : Int)]) W5 := fun z => by
      refine fail _ ?_
      rw [hnum, he]
      cases e : l[a + 1 + i]? with
      | none => rfl
      | some c => dsimp only; rw [if_neg (z c e)]; rfl
    refine seq_gen (fun ρ W6 => W6 = W5 ∧ ρ = na l (a + 1 + i) below n (digV dg) (some (.sh (.int i)))) (fun ρ W6 hI => ?_) (fun N hN => hN _ _ ⟨rfl, ?_⟩)
    case refine_2 =>
      unfold na
      rw [← cast]; rfl
    obtain ⟨rfl, rfl⟩ := hI
    refine ⟨slq, dEq_int ?_⟩
    rw [len_mkS]
    refine ite_d (fun h2 => ?_) (fun h2 => ?_)
    · have e : l[a + 1 + i]? = none := List.getElem?_eq_none_iff.mpr (by omega)
      exact ite_t ⟨sz 3 (by decide), fail2 fun c z => by rw [e] at z; cases z⟩
    have hlt2 : a + 1 + i < l.length := by omega
    obtain ⟨c, e⟩ : ∃ c, l[a + 1 + i]? = some c := ⟨_, List.getElem?_eq_getElem hlt2⟩
    have e' : (mkS l).cps.toList[a + 1 + i]? = some c := e
    rw [e] at he
    dsimp only at he
    refine ⟨slq, c, atI_of e', ?_⟩
    rw [one_mkS]
    show (if (!inS (mkS [c]) (mkS decL)) = true then _ else _)
    rw [inS_one, tl_mkS]
    by_cases hc : 48 ≤ c ∧ c ≤ 57
    case neg =>
      rw [decide_eq_false (fun z => hc (mem_dec.mp z))]
      exact hyes (ite_t ⟨sz 3 (by decide), fail2 fun c' z hz => by rw [e] at z; cases z; exact hc ⟨hz.1, hz.2.1⟩⟩)
    rw [decide_eq_true (mem_dec.mpr hc)]
    have bad : decide (i = 0) = true ∧ c = leadC below → Q (.tup [.bl false, .non, .int ((a + 1 + i : Nat) : Int)]) W6 := fun q => fail2 fun c' z hz => by
      rw [e] at z; cases z; exact hz.2.2 q
    have nxt : ∀ De : EndsD, ¬ (decide (i = 0) = true ∧ c = leadC below) → (∀ ρ2 W2, (W2 = W6 ∧ i + 1 ≤ n ∧ a + (i + 1) < l.length ∧ ∃ dg x6, dg.length = i + 1 ∧ (∀ c ∈ dg, 48 ≤ c ∧ c ≤ 57) ∧ digA l below true n (a + 1) = preT dg (digA l below (decide (i + 1 = 0)) (n - (i + 1)) (a + 1 + (i + 1))) ∧ ρ2 = na l (a + (i + 1)) below n (digV dg) x6) → De.nx ρ2 W2) →
        (dAsg (dOp dAdd (dOp dMulA (dVar 5) (dC (.int 10))) (dIf (dBool (dVar 2)) (dOp dSub (dC (.int 9)) (dCB dIntC (dCons (dOp dIx (dVar 0) (dVar 1)) dNil))) (dCB dIntC (dCons (dOp dIx (dVar 0) (dVar 1)) dNil)))) (gdName 5)) De (na l (a + 1 + i) below n (digV dg) (some (.sh (.int i)))) W6 := fun De hl hN => by
      rw [if_pos ⟨hc.1, hc.2, hl⟩, preT_app] at he
      have fin : De.nx (na l (a + 1 + i) below n (digV (dg ++ [figC below c])) (some (.sh (.int i)))) W6 := by
        refine hN _ _ ⟨rfl, hi, by omega, dg ++ [figC below c], some (.sh (.int i)), by simp [hdl], fun x hx => ?_, ?_, ?_⟩
        · rcases List.mem_append.mp hx with hx | hx
          · exact hdd x hx
          · rw [List.mem_singleton.mp hx]; exact fig_dig hc
        · rw [he, show decide (i + 1 = 0) = false from decide_eq_false (by omega), show n - (i + 1) = n - i - 1 by omega, show a + 1 + (i + 1) = a + 1 + i + 1 by omega]
        · rw [show a + (i + 1) = a + 1 + i by omega]
      have hv := digV_lt hdd
      have p30 : (10 : Nat) ^ dg.length ≤ 10 ^ 30 := Nat.pow_le_pow_right (by decide) (by omega)
      refine ⟨mul10n (by omega), ?_⟩
      rw [digV_snoc] at fin
      refine ite_b (fun hb => ?_) (fun hb => ?_)
      · subst hb
        refine ⟨slq, c, atI_of e', ?_⟩
        rw [one_mkS]
        refine ⟨by rw [len_mkS]; simp, _, int_dig hc, ?_⟩
        have ev : ((digV dg * 10 + (figC true c - 48) : Nat) : Int) = (digV dg : Int) * 10 + (9 - ((c - 48 : Nat) : Int)) := by
          show ((digV dg * 10 + ((105 - c) - 48) : Nat) : Int) = _
          omega
        rw [ev] at fin
        exact fin
      · subst hb
        refine ⟨slq, c, atI_of e', ?_⟩
        rw [one_mkS]
        refine ⟨by rw [len_mkS]; simp, _, int_dig hc, ?_⟩
        have ev : ((digV dg * 10 + (figC false c - 48) : Nat) : Int) = (digV dg : Int) * 10 + ((c - 48 : Nat) : Int) := by
          show ((digV dg * 10 + (c - 48) : Nat) : Int) = _
          omega
        rw [ev] at fin
        exact fin
    refine hno ?_
    refine dEq_int (ite_d (fun h3 => ?_) (fun h3 => ?_))
    · have h3 : i = 0 := by omega
      refine ⟨slq, c, atI_of e', sz 2 (by decide), ?_⟩
      rw [one_mkS]
      have ez : atI [D.str (mkS [48]), D.str (mkS [57])] (if below = true then 1 else 0) = some (.str (mkS [leadC below])) := by cases below <;> rfl
      refine ⟨_, ez, dEq_str (ite_d (fun hz => ?_) (fun hz => ?_))⟩
      · have := mkS_inj.mp hz
        exact ⟨sz 3 (by decide), bad ⟨decide_eq_true h3, by injection this⟩⟩
      · exact nxt _ (fun q => hz (by rw [q.2])) fun ρ2 W2 q => q
    · exact nxt _ (fun q => h3 (by have := of_decide_eq_true q.1; omega)) fun ρ2 W2 q => q
  · rw [rng_len] at hI
    obtain ⟨rfl, hi0, hil, dg, x6, hdl, hdd, he, rfl⟩ := hI
    rw [Nat.sub_self, digA] at he
    exact hN _ _ ⟨rfl, dg, x6, by rw [he]; simp [preT], rfl⟩
theorem so_012 : Str.ofString "012o" = mkS [48, 49, 50, 111] := by decide +kernel
theorem so_npt : Str.ofString "npt" = mkS [110, 112, 116] := by decide +kernel
theorem in_012 {c : Nat} : c ∈ [48, 49, 50, 111] ↔ c = 48 ∨ c = 49 ∨ c = 50 ∨ c = 111 := by simp
theorem in_npt {c : Nat} : c ∈ [110, 112, 116] ↔ c = 110 ∨ c = 112 ∨ c = 116 := by simp
theorem find_012 {c : Nat} {d : D} (h : c = 48 ∧ d = .non ∨ c = 49 ∧ d = .bl false ∨ c = 50 ∧ d = .bl true ∨ c = 111 ∧ d = .int 0) : atI [D.non, .bl false, .bl true, .int 0] (Txt.find (mkS [48, 49, 50, 111]) (mkS [c])) = some d := by
  rcases h with ⟨rfl, rfl⟩ | ⟨rfl, rfl⟩ | ⟨rfl, rfl⟩ | ⟨rfl, rfl⟩
  · rw [show Txt.find (mkS [48, 49, 50, 111]) (mkS [48]) = 0 from by decide +kernel]; rfl
  · rw [show Txt.find (mkS [48, 49, 50, 111]) (mkS [49]) = 1 from by decide +kernel]; rfl
  · rw [show Txt.find (mkS [48, 49, 50, 111]) (mkS [50]) = 2 from by decide +kernel]; rfl
  · rw [show Txt.find (mkS [48, 49, 50, 111]) (mkS [111]) = 3 from by decide +kernel]; rfl
abbrev rs (l : List Nat) (V : List D) (a : Nat) (x3 x4 x5 : Option Sl) : G.Env := [some (.sh (.str (mkS l))), some (.sh (.tup V)), some (.sh (.int a)), x3, x4, x5]
theorem rd_law_read : Rd n_law_read 1 sp_law_read d_law_read := by
  rintro ds W Q Qx _ ⟨l, rfl, ⟨hp, hl⟩, h⟩
  show d_law_read _ [some (.sh (.str (mkS l))), none, none, none, none, none] W
  unfold d_law_read
  rw [so_012, so_npt, so_t, so_n]
  have slq : (mkS l).length ≤ sizeLine := by rw [len_mkS]; exact sz _ (by omega)
  refine seq_gen (fun ρ W' => W' = W ∧ ρ = rs l [] 0 none none none) (fun ρ W' hI => ?_) (fun N hN => ⟨sz 0 (by decide), sz 2 (by decide), rfl, hN _ _ ⟨rfl, rfl⟩⟩)
  obtain ⟨rfl, rfl⟩ := hI
  refine seq_gen (fun ρ W2 => W2 = W' ∧ ∃ V a x3 x4 x5, readA l = .inr V ∧ ρ = rs l V a x3 x4 x5) (fun ρ W2 hI => ?_) (fun N hN => ?_)
  case refine_1 =>
    obtain ⟨rfl, V, a, x3, x4, x5, hr, rfl⟩ := hI
    rw [hr] at h
    exact ⟨sz 2 (by decide), h⟩
  refine dWhile_of (fun m ρ W2 => W2 = W' ∧ ∃ V a x3 x4 x5, l.length ≤ m + a ∧ V.length + m ≤ l.length ∧ readA l = preR V (rowA l m a) ∧ ρ = rs l V a x3 x4 x5) l.length ⟨rfl, [], 0, none, none, none, by omega, by simp, (preR_nil _).symm, rfl⟩ (fun m ρ W2 hI => ?_)
  obtain ⟨rfl, V, a, x3, x4, x5, hm, hv, he, rfl⟩ := hI
  refine ⟨slq, ?_⟩
  show (if decide ((a : Int) < ((mkS l).length : Int)) = true then _ else _)
  rw [len_mkS]
  refine ite_d (fun h0 => ?_) (fun h0 => ?_)
  case refine_2 =>
    refine hN _ _ ⟨rfl, V, a, x3, x4, x5, ?_, rfl⟩
    rw [he, rowA_end (by omega)]
    simp [preR]
  have hlt : a < l.length := by omega
  obtain ⟨n, rfl⟩ : ∃ n, m = n + 1 := ⟨m - 1, by omega⟩
  rw [rowA, if_pos hlt] at he
  obtain ⟨c, e⟩ : ∃ c, l[a]? = some c := ⟨_, List.getElem?_eq_getElem hlt⟩
  have e' : (mkS l).cps.toList[a]? = some c := e
  have fail : ∀ z, valA l a = .inl z → Q (.tup [.int z, .non]) W2 := fun z q => by
    rw [q] at he
    rw [he] at h; exact h
  have good : ∀ d b, valA l a = .inr (d, b) → a < b ∧ b ≤ l.length ∧ readA l = preR (V ++ [d]) (rowA l n b) := fun d b q => by
    obtain ⟨_, b1, b2⟩ := valA_ok hp q
    rw [q] at he
    exact ⟨b1, b2, he.trans (preR_app V d _)⟩
  refine seq_gen (fun ρ W3 => W3 = W2 ∧ ρ = rs l V a (some (.sh (.str (mkS [c])))) x4 x5) (fun ρ W3 hI => ?_) (fun N2 hN2 => ⟨slq, c, atI_of e', hN2 _ _ ⟨rfl, by rw [one_mkS]; rfl⟩⟩)
  obtain ⟨rfl, rfl⟩ := hI
  have hV : valA l a = (if c = 116 then (match textA l 200 (a + 1) with | .inl e => .inl e | .inr (t, b) => .inr (.str (mkS t), b))
    else if c = 110 ∨ c = 112 then (match numA l (decide (c = 110)) (a + 1) with | .inl e => .inl e | .inr (i, b) => .inr (.int i, b))
    else if c = 48 then .inr (.non, a + 1) else if c = 49 then .inr (.bl false, a + 1) else if c = 50 then .inr (.bl true, a + 1) else if c = 111 then .inr (.int 0, a + 1) else .inl a) := by
    unfold valA; rw [e]; try rfl
  show (if inS (mkS [c]) (mkS [48, 49, 50, 111]) = true then _ else _)
  rw [inS_one, tl_mkS]
  by_cases c3 : c ∈ [48, 49, 50, 111]
  · rw [decide_eq_true c3]
    have go : ∀ (De : EndsD) d, (∀ ρ2 W2, (∃ m', m' < n + 1 ∧ W2 = W3 ∧ ∃ V a x3 x4 x5, l.length ≤ m' + a ∧ V.length + m' ≤ l.length ∧ readA l = preR V (rowA l m' a) ∧ ρ2 = rs l V a x3 x4 x5) → De.ct ρ2 W2) → (c = 48 ∧ d = D.non ∨ c = 49 ∧ d = .bl false ∨ c = 50 ∧ d = .bl true ∨ c = 111 ∧ d = .int 0) → valA l a = .inr (d, a + 1) → (dSeq (dAsg (dOp dAdd (dVar 1) (dTup (dCons (dOp dIx (dLst (dCons (dC .non) (dCons (dC (.bl false)) (dCons (dC (.bl true)) (dCons (dC (.int 0)) dNil))))) (dM (dM1 fun a b => .int (Txt.find a b)) (dC (.str (mkS [48, 49, 50, 111]))) (dCons (dVar 3) dNil))) dNil))) (gdName 1))
  (dSeq (dAsg (dOp dAdd (dVar 2) (dC (.int 1))) (gdName 2))
  dCont)) De (rs l V a (some (.sh (.str (mkS [c])))) x4 x5) W3 := fun De d hN hd q => by
      obtain ⟨b1, b2, b3⟩ := good d (a + 1) q
      refine ⟨sz 4 (by decide), ⟨_, rfl⟩, d, find_012 hd, sz 1 (by decide), sz _ (by simp; omega), ?_⟩
      exact hN _ _ ⟨n, by omega, rfl, V ++ [d], a + 1, some (.sh (.str (mkS [c]))), x4, x5, by omega, by simp; omega, b3, rfl⟩
    refine ite_t ?_
    rcases in_012.mp c3 with c4 | c4 | c4 | c4
    · exact go _ .non (fun ρ2 W2 q => q) (.inl ⟨c4, rfl⟩) (by rw [hV, c4]; rfl)
    · exact go _ (.bl false) (fun ρ2 W2 q => q) (.inr (.inl ⟨c4, rfl⟩)) (by rw [hV, c4]; rfl)
    · exact go _ (.bl true) (fun ρ2 W2 q => q) (.inr (.inr (.inl ⟨c4, rfl⟩))) (by rw [hV, c4]; rfl)
    · exact go _ (.int 0) (fun ρ2 W2 q => q) (.inr (.inr (.inr ⟨c4, rfl⟩))) (by rw [hV, c4]; rfl)
  rw [decide_eq_false c3]
  refine ite_f (nxt_of ?_)
  dsimp only
  show (if (!inS (mkS [c]) (mkS [110, 112, 116])) = true then _ else _)
  rw [inS_one, tl_mkS]
  by_cases c5 : c ∈ [110, 112, 116]
  case neg =>
    rw [decide_eq_false c5]
    refine hyes ⟨sz 2 (by decide), fail a ?_⟩
    rw [hV]
    rw [in_012] at c3
    rw [in_npt] at c5
    rw [if_neg (by omega), if_neg (by omega), if_neg (by omega), if_neg (by omega), if_neg (by omega), if_neg (by omega)]
  rw [decide_eq_true c5]
  refine hno (nxt_of ?_)
  dsimp only
  refine seq_gen (fun ρ W4 => W4 = W3 ∧ ((∃ z x5, valA l a = .inl z ∧ ρ = rs l V z (some (.sh (.str (mkS [c])))) (some (.sh (.bl false))) x5) ∨ ∃ d b, valA l a = .inr (d, b) ∧ ρ = rs l V b (some (.sh (.str (mkS [c])))) (some (.sh (.bl true))) (some (.sh d)))) (fun ρ W4 hI => ?_) (fun N2 hN2 => ?_)
  case refine_1 =>
    obtain ⟨rfl, ⟨z, x5, hz, rfl⟩ | ⟨d, b, hb, rfl⟩⟩ := hI
    · exact ⟨sz 2 (by decide), fail z hz⟩
    · obtain ⟨b1, b2, b3⟩ := good d b hb
      refine ⟨sz 1 (by decide), sz _ (by simp; omega), ?_⟩
      exact ⟨n, by omega, rfl, V ++ [d], b, some (.sh (.str (mkS [c]))), some (.sh (.bl true)), some (.sh d), by omega, by simp; omega, b3, rfl⟩
  refine dEq_str ?_
  by_cases c1 : c = 116
  · rw [decide_eq_true (by rw [c1] : mkS [c] = mkS [116])]
    rw [if_pos c1] at hV
    refine ite_t ⟨rfl, l, a + 1, rfl, ⟨hp, hl⟩, hlt, ?_⟩
    cases q : textA l 200 (a + 1) with
    | inl z => exact ⟨rfl, hN2 _ _ ⟨rfl, .inl ⟨z, some (.sh .non), by rw [hV, q], rfl⟩⟩⟩
    | inr z => obtain ⟨t, b⟩ := z; exact ⟨rfl, hN2 _ _ ⟨rfl, .inr ⟨.str (mkS t), b, by rw [hV, q], rfl⟩⟩⟩
  rw [decide_eq_false (mk_ne (by simpa using c1))]
  have c2 : c = 110 ∨ c = 112 := by rw [in_npt] at c5; omega
  rw [if_neg c1, if_pos c2] at hV
  refine ite_f ?_
  refine dEq_str ?_
  refine ⟨rfl, l, a + 1, decide (c = 110), ?_, ⟨hp, hl⟩, hlt, ?_⟩
  · rw [show decide (mkS [c] = mkS [110]) = decide (c = 110) from decide_eq_decide.mpr ⟨fun z => (by have := mkS_inj.mp z; injection this), fun z => by rw [z]⟩]; rfl
  cases q : numA l (decide (c = 110)) (a + 1) with
  | inl z => exact ⟨rfl, hN2 _ _ ⟨rfl, .inl ⟨z, some (.sh .non), by rw [hV, q], rfl⟩⟩⟩
  | inr z => obtain ⟨i, b⟩ := z; exact ⟨rfl, hN2 _ _ ⟨rfl, .inr ⟨.int i, b, by rw [hV, q], rfl⟩⟩⟩
end K12

namespace K12
open PySem PySem.Spec L2 G TL C Q
theorem rd_law_told : Rd n_law_told 1 sp_law_told d_law_told := by
  rintro ds W Q Qx _ ⟨d, rfl, hs, h1, h2⟩
  show d_law_told _ [some (.sh d), none, none] W
  unfold d_law_told
  refine seq_gen (fun ρ W' => W' = W ∧ ρ = [some (.sh d), some (.sh (.str "other")), none]) (fun ρ W' hI => ?_) (fun N hN => hN _ _ ⟨rfl, rfl⟩)
  obtain ⟨rfl, rfl⟩ := hI
  refine seq_gen (fun ρ W2 => W2 = W' ∧ ∃ r x2, Q r W' ∧ ρ = [some (.sh d), some (.sh r), x2]) (fun ρ W2 hI => ?_) (fun N hN => ?_)
  case refine_1 =>
    obtain ⟨rfl, r, x2, hq, rfl⟩ := hI
    exact hq
  refine ⟨rfl, d, rfl, hs, fun ht => ?_, fun l hd hp => ?_⟩
  · refine .inr ⟨by simp, .inl ⟨by simp, hN _ _ ⟨rfl, .str "text", none, h1 ht, rfl⟩⟩⟩
  · obtain ⟨hl, h⟩ := h2 l hd hp
    refine ⟨hl, ?_⟩
    cases q : readA l with
    | inl e =>
      rw [q] at h
      refine .inl ⟨by simp, ?_⟩
      refine ⟨.ref a_InvalidCode, ["index"], [.int e], .int e, rfl, by simp, rfl, sz 2 (by decide), hN _ _ ⟨rfl, _, none, h, rfl⟩⟩
    | inr r =>
      rw [q] at h
      exact ⟨sz 2 (by decide), hN _ _ ⟨rfl, _, none, h, rfl⟩⟩
theorem rd_law_refused : Rd n_law_refused 1 sp_law_refused d_law_refused := by
  rintro ds W Q Qx _ ⟨d, rfl, hs, hsm, hr, h⟩
  show d_law_refused _ [some (.sh d), none] W
  unfold d_law_refused
  refine seq_gen (fun ρ W' => W' = W ∧ ρ = [some (.sh d), some (.sh (.str "none"))]) (fun ρ W' hI => ?_) (fun N hN => hN _ _ ⟨rfl, rfl⟩)
  obtain ⟨rfl, rfl⟩ := hI
  refine seq_gen (fun ρ W2 => W2 = W' ∧ ρ = [some (.sh d), some (.sh (.str "row"))]) (fun ρ W2 hI => ?_) (fun N hN => ?_)
  case refine_1 =>
    obtain ⟨rfl, rfl⟩ := hI
    exact h
  refine ⟨rfl, d, rfl, hs, hsm, fun r e hv => ?_, fun _ => .inl ⟨by simp, hN _ _ ⟨rfl, rfl⟩⟩⟩
  subst e
  have : isRow1 (.tup r) = true := List.all_eq_true.mpr hv
  rw [hr] at this
  cases this
theorem rd_law_value_refused : Rd n_law_value_refused 1 sp_law_value_refused d_law_value_refused := by
  rintro ds W Q Qx _ ⟨d, rfl, hs, hr, h⟩
  show d_law_value_refused _ [some (.sh d), none, none] W
  unfold d_law_value_refused
  refine seq_gen (fun ρ W' => W' = W ∧ ρ = [some (.sh d), some (.sh .non), none]) (fun ρ W' hI => ?_) (fun N hN => hN _ _ ⟨rfl, rfl⟩)
  obtain ⟨rfl, rfl⟩ := hI
  refine seq_gen (fun ρ W2 => W2 = W' ∧ ρ = [some (.sh d), some (.sh (.exc (.ref a_InvalidValue) none [])), none]) (fun ρ W2 hI => ?_) (fun N hN => ?_)
  case refine_1 =>
    obtain ⟨rfl, rfl⟩ := hI
    exact ⟨true, by simp, false, by simp, h⟩
  refine ⟨rfl, d, rfl, hs, fun e => ?_, fun _ => .inl ⟨by simp, hN _ _ ⟨rfl, rfl⟩⟩⟩
  rw [hr] at e
  cases e
theorem rdn_law_same (n : Nat) (sp0 : SpD) (h0 : ∀ m, n = m + 1 → sp0 = spn_law_same m) : Rd n_law_same 2 (spn_law_same n) (d_law_same sp0) := by
  rintro ds W Q Qx _ ⟨d, rfl, hp, h⟩
  show d_law_same sp0 _ [some (.sh d), some (.sh d), none] W
  unfold d_law_same
  have deep : ∀ (ds : List D), ds.length ≤ 100000 → (∀ m, n = m + 1 → ∀ z ∈ ds, plainN m z) → n ≠ 0 → (∀ i z, atI ds i = some z → ∀ P : D → Prop, P z → dIx d (.int i) P) → (∀ P : D → Prop, P (.int ds.length) → dLen [d] P) →
      dAnd (dOp dEq (dCB dLen (dCons (dVar 0) dNil)) (dCB dLen (dCons (dVar 1) dNil))) (dCB dAll (dCons (dFresh (dLc (iRngD1 (dCons (dCB dLen (dCons (dVar 1) dNil)) dNil)) (gdName 2) dYes (dCall sp0 2 (dCons (dOp dIx (dVar 0) (dVar 2)) (dCons (dOp dIx (dVar 1) (dVar 2)) dNil))) [2])) dNil)) [some (.sh d), some (.sh d), none] W (fun z _ W' => Q z W') (fun cls x _ W' => Qx cls x W') := fun ds hl hz hn hix hlen => by
    show dLen [d] (fun z => dLen [d] fun y => dEq z y _)
    refine hlen _ ?_
    refine hlen _ ?_
    refine dEq_int ?_
    rw [decide_eq_true rfl]
    refine dLc_mapF (List.range ds.length) (fun i => .int (0 + (i : Int))) (fun i => .bl ((fun _ => true) i)) (noOwn1 (by simp)) ?_ (fun P hP => ?_) (fun i hi P hP => ?_) ?_
    · rw [List.length_range]; exact sz _ (by omega)
    · refine hlen (fun z => match [z] with | [.v (.int j)] => -(2 ^ 62) ≤ j ∧ j < 2 ^ 62 ∧ P (rng 0 j.toNat) _ W | _ => False) ⟨by omega, by omega, ?_⟩
      rw [Int.toNat_natCast]; exact hP
    · rw [List.mem_range] at hi
      obtain ⟨m, rfl⟩ : ∃ m, n = m + 1 := ⟨n - 1, by omega⟩
      rw [h0 m rfl]
      have e := atI_of (List.getElem?_eq_getElem hi)
      rw [show (0 : Int) + (i : Int) = (i : Int) by omega] at hP ⊢
      exact hix _ _ e _ (hix _ _ e _ ⟨rfl, _, rfl, hz m rfl _ (List.getElem_mem hi), hP⟩)
    · refine ⟨_, bls_map _ _, ?_⟩
      rw [List.all_map]
      have : (List.range ds.length).all (id ∘ fun _ => true) = true := by rw [List.all_eq_true]; intro _ _; rfl
      rw [this]
      exact h
  cases d with
  | v x =>
    cases x with
    | non => exact h
    | bl b => cases b <;> exact h
    | int b =>
      refine ⟨_, true, rfl, rfl, ?_⟩
      refine ⟨_, true, rfl, rfl, _, false, rfl, rfl, dEq_int ?_⟩
      rw [decide_eq_true rfl]; exact h
    | str b =>
      refine ⟨_, false, rfl, rfl, ?_⟩
      refine ⟨_, true, rfl, rfl, ?_⟩
      refine ⟨_, true, rfl, rfl, dEq_str ?_⟩
      rw [decide_eq_true rfl]; exact h
    | _ => unfold plainN at hp; cases n <;> exact hp.elim
  | tup ds =>
    cases n with
    | zero => unfold plainN at hp; exact hp.elim
    | succ m =>
      have hp' : ds.length ≤ 100000 ∧ ∀ d ∈ ds, plainN m d := by unfold plainN at hp; exact hp
      refine ⟨_, false, rfl, rfl, ?_⟩
      refine ⟨_, false, rfl, rfl, ?_⟩
      refine ⟨_, true, rfl, rfl, _, true, rfl, rfl, dNe_bl ?_⟩
      refine ⟨_, false, rfl, rfl, _, false, rfl, rfl, dNe_bl ?_⟩
      exact deep ds hp'.1 (fun k hk => by cases hk; exact hp'.2) (by simp) (fun i z e P hP => ⟨z, e, hP⟩) (fun P hP => hP)
  | lst ds =>
    cases n with
    | zero => unfold plainN at hp; exact hp.elim
    | succ m =>
      have hp' : ds.length ≤ 100000 ∧ ∀ d ∈ ds, plainN m d := by unfold plainN at hp; exact hp
      refine ⟨_, false, rfl, rfl, ?_⟩
      refine ⟨_, false, rfl, rfl, ?_⟩
      refine ⟨_, false, rfl, rfl, _, false, rfl, rfl, dNe_bl ?_⟩
      refine ⟨_, true, rfl, rfl, _, true, rfl, rfl, dNe_bl ?_⟩
      exact deep ds hp'.1 (fun k hk => by cases hk; exact hp'.2) (by simp) (fun i z e P hP => ⟨z, e, hP⟩) (fun P hP => hP)
  | _ => unfold plainN at hp; cases n <;> exact hp.elim
end K12

namespace K12
open PySem PySem.Spec L2 G TL C Q
def spo : List Nat := [48, 49, 50, 110, 111, 116, 112, 32, 33, 97, 98, 95, 65, 94, 66, 57, 120, 126]
theorem so_spo : Str.ofString "012notp !ab_A^B9x~" = mkS spo := by decide +kernel
theorem pr_spo : Pr spo := by unfold Pr spo; decide +kernel
theorem pr_sub {l m : List Nat} (h : m.Sublist l) (hp : Pr l) : Pr m := fun c hc => hp c (h.mem hc)
theorem pr_app {a b : List Nat} (ha : Pr a) (hb : Pr b) : Pr (a ++ b) := fun c hc => (List.mem_append.mp hc).elim (ha c) (hb c)
theorem pr_one {c : Nat} (h : 32 ≤ c) (h2 : c ≤ 126) : Pr [c] := fun d hd => by rw [List.mem_singleton.mp hd]; exact ⟨h, h2⟩
theorem rd_law_spoilt : Rd n_law_spoilt 2 sp_law_spoilt d_law_spoilt := by
  rintro ds W Q Qx _ ⟨p, l, rfl, hs, hp, hl, h⟩
  show d_law_spoilt _ [some (.sh (.ref p)), some (.sh (.str (mkS l))), none, none, none, none] W
  unfold d_law_spoilt
  rw [so_spo]
  refine seq_gen (fun ρ W2 => ∃ l' x2 x3 x4 x5, JarOk W2 p ∧ Pr l' ∧ l'.length ≤ l.length + 2 ∧ ρ = [some (.sh (.ref p)), some (.sh (.str (mkS l'))), x2, x3, x4, x5]) (fun ρ W2 hI => ?_) (fun N hN => ?_)
  case refine_1 =>
    obtain ⟨l', x2, x3, x4, x5, hs, h1, h2, rfl⟩ := hI
    exact h l' W2 h1 h2 hs
  refine dFor_mk ?_
  refine ⟨rfl, p, 2, rfl, hs, by decide, by decide, fun m W2 m0 m1 hs => ⟨by omega, by omega, ?_⟩⟩
  refine ⟨fun i ρ W3 => ∃ l' x2 x3 x4 x5, JarOk W3 p ∧ Pr l' ∧ l'.length ≤ l.length + i ∧ ρ = [some (.sh (.ref p)), some (.sh (.str (mkS l'))), x2, x3, x4, x5], ⟨l, none, none, none, none, hs, hp, by omega, rfl⟩, fun i d ρ W3 hd hI => ?_, fun ρ W3 hI => ?_⟩
  case refine_2 =>
    rw [rng_len] at hI
    obtain ⟨l', x2, x3, x4, x5, hs, h1, h2, rfl⟩ := hI
    exact hN _ _ ⟨l', x2, x3, x4, x5, hs, h1, by omega, rfl⟩
  obtain ⟨hi, rfl⟩ := rng_at hd
  obtain ⟨q, x2, x3, x4, x5, hs, hq, hql, rfl⟩ := hI
  have slq : (mkS q).length ≤ sizeLine := by rw [len_mkS]; exact sz _ (by omega)
  refine ⟨rfl, p, 6, rfl, hs, by decide, by decide, fun k W4 k0 k1 hs => ⟨slq, rfl, p, (q.length : Int) + 1, by rw [len_mkS], hs, by omega, by omega, fun a W5 a0 a1 hs => ⟨rfl, p, 18, rfl, hs, by decide, by decide, fun r W6 r0 r1 hs => ⟨sz _ (by decide), ?_⟩⟩⟩⟩
  obtain ⟨c, hc, cl, cu⟩ := at_mkS spo r r0 r1 pr_spo
  refine ⟨c, hc, ?_⟩
  obtain ⟨n, rfl⟩ : ∃ n : Nat, a = n := ⟨a.toNat, by omega⟩
  have hn : n ≤ q.length := by omega
  have cb : cutS (mkS q) none (some (n : Int)) = mkS (q.take n) := cut_b (mkS q) n
  have ca : cutS (mkS q) (some (n : Int)) none = mkS (q.drop n) := cut_a (mkS q) n
  have ca1 : cutS (mkS q) (some ((n : Int) + 1)) none = mkS (q.drop (n + 1)) := by
    have := cut_a (mkS q) (n + 1)
    rw [show ((n + 1 : Nat) : Int) = (n : Int) + 1 by omega] at this
    exact this
  have pt : Pr (q.take n) := pr_sub (List.take_sublist _ _) hq
  have pd : ∀ k, Pr (q.drop k) := fun k => pr_sub (List.drop_sublist _ _) hq
  have pc := pr_one cl cu
  have lt : (q.take n).length = n := by rw [List.length_take]; omega
  have ld : ∀ k, (q.drop k).length = q.length - k := fun k => List.length_drop
  have fin : ∀ q2 : List Nat, Pr q2 → q2.length ≤ l.length + (i + 1) → ∃ l' x2 x3 x4 x5, JarOk W6 p ∧ Pr l' ∧ l'.length ≤ l.length + (i + 1) ∧ ([some (.sh (.ref p)), some (.sh (.str (mkS q2))), some (.sh (.int i)), some (.sh (.int k)), some (.sh (.int n)), some (.sh (.str ⟨#[c]⟩))] : G.Env) = [some (.sh (.ref p)), some (.sh (.str (mkS l'))), x2, x3, x4, x5] :=
    fun q2 h1 h2 => ⟨q2, _, _, _, _, hs, h1, h2, rfl⟩
  refine dEq_int (ite_d (fun h0 => ⟨slq, ?_⟩) (fun h0 => ite_d (fun h1 => ?_) (fun h1 => dEq_int (ite_d (fun h2 => ?_) (fun h2 => ?_)))))
  · rw [cb]
    exact fin _ pt (by rw [lt]; omega)
  · refine ⟨slq, ?_⟩
    show _ ∧ _
    rw [cb, one_mkS]
    refine ⟨sz _ (by rw [len_mkS, len_mkS, lt]; simp; omega), slq, ?_⟩
    show _ ∧ _
    rw [ca, app_mkS]
    refine ⟨sz _ (by rw [len_mkS, len_mkS, List.length_append, lt, ld]; simp; omega), ?_⟩
    rw [app_mkS]
    rw [← one_mkS]
    exact fin _ (pr_app (pr_app pt pc) (pd n)) (by rw [List.length_append, List.length_append, lt, ld]; simp; omega)
  · refine ⟨slq, slq, ?_⟩
    show _ ∧ _
    rw [cb, ca1]
    refine ⟨sz _ (by rw [len_mkS, len_mkS, lt, ld]; omega), ?_⟩
    rw [app_mkS]
    exact fin _ (pr_app pt (pd (n + 1))) (by rw [List.length_append, lt, ld]; omega)
  · refine ⟨slq, ?_⟩
    show _ ∧ _
    rw [cb, one_mkS]
    refine ⟨sz _ (by rw [len_mkS, len_mkS, lt]; simp; omega), slq, ?_⟩
    show _ ∧ _
    rw [ca1, app_mkS]
    refine ⟨sz _ (by rw [len_mkS, len_mkS, List.length_append, lt, ld]; simp; omega), ?_⟩
    rw [app_mkS]
    rw [← one_mkS]
    exact fin _ (pr_app (pr_app pt pc) (pd (n + 1))) (by rw [List.length_append, List.length_append, lt, ld]; simp; omega)
def edgeL : List Str := ([Str.ofString "", Str.ofString "t", Str.ofString "t ", Str.ofString "t!", Str.ofString "t!a", Str.ofString "t!a ", Str.ofString "t!c", Str.ofString "t! ", (Str.ofString "t" ++ (repS (Str.ofString "a") 200)), ((Str.ofString "t" ++ (repS (Str.ofString "a") 200)) ++ Str.ofString " "), ((Str.ofString "t" ++ (repS (Str.ofString "a") 200)) ++ Str.ofString "a"), ((Str.ofString "t" ++ (repS (Str.ofString "a") 200)) ++ Str.ofString "!"), ((Str.ofString "t" ++ (repS (Str.ofString "a") 200)) ++ Str.ofString "!a ")] ++ [((Str.ofString "t" ++ (repS (Str.ofString "!a") 200)) ++ Str.ofString " "), ((Str.ofString "t" ++ (repS (Str.ofString "!b") 200)) ++ Str.ofString "!b "), ((Str.ofString "t" ++ (repS (Str.ofString "a") 199)) ++ Str.ofString "!"), ((Str.ofString "t" ++ (repS (Str.ofString "a") 199)) ++ Str.ofString "!b "), Str.ofString "p", Str.ofString "pA", Str.ofString "pA0"] ++ [Str.ofString "pA1", Str.ofString "pB1", Str.ofString "pB10", Str.ofString "pB01", Str.ofString "p_1", Str.ofString "p^", ((Str.ofString "p^" ++ Str.ofString "1") ++ (repS (Str.ofString "0") 29)), (Str.ofString "p^" ++ (repS (Str.ofString "1") 31)), Str.ofString "n", Str.ofString "n_", Str.ofString "n_9", Str.ofString "n_8", Str.ofString "n^80", Str.ofString "n^90"]) ++ [(Str.ofString "nB" ++ (repS (Str.ofString "0") 30)), ((Str.ofString "nB" ++ Str.ofString "8") ++ (repS (Str.ofString "9") 29)), (Str.ofString "nA" ++ (repS (Str.ofString "8") 31)), Str.ofString "o0", Str.ofString "oo2", Str.ofString "3", Str.ofString "N", Str.ofString "pa1", Str.ofString "n~", Str.ofString "pA12", Str.ofString " ", Str.ofString "01!"]
theorem edge_ok : (edgeL.all fun s => textB (tl s) && decide ((tl s).length ≤ 1000)) = true := by decide +kernel
theorem rd_law_edges : Rd n_law_edges 0 sp_law_edges d_law_edges := by
  rintro ds W Q Qx _ ⟨rfl, h⟩
  show d_law_edges _ [none, none] W
  unfold d_law_edges
  have hok := List.all_eq_true.mp edge_ok
  have h : Q (.lst (edgeL.map D.str)) W := h edgeL (fun s hs => by
    have := hok s hs
    rw [Bool.and_eq_true] at this
    exact ⟨text_pr.mp this.1, of_decide_eq_true this.2⟩) (by decide +kernel)
  refine seq_gen (fun ρ W' => W' = W ∧ ρ = [some (.sh (.str (Str.ofString "t" ++ repS (Str.ofString "a") 200))), none]) (fun ρ W' hI => ?_) (fun N hN => ?_)
  case refine_2 =>
    refine ⟨by decide, by decide, sz _ (by decide +kernel), sz _ (by decide +kernel), hN _ _ ⟨rfl, rfl⟩⟩
  obtain ⟨rfl, rfl⟩ := hI
  repeat (first | (refine And.intro (sz _ (by decide +kernel)) ?_) | (refine And.intro (by decide +kernel) ?_))
  exact h
end K12

namespace K12
open PySem PySem.Spec L2 G TL C Q
abbrev st (ns : List Int) (x1 x2 x3 x4 x5 x6 x7 x8 x9 x10 x11 x12 : Option D) : G.Env :=
  [some (.sh (.scr ns)), x1.map Sl.sh, x2.map Sl.sh, x3.map Sl.sh, x4.map Sl.sh, x5.map Sl.sh, x6.map Sl.sh, x7.map Sl.sh, x8.map Sl.sh, x9.map Sl.sh, x10.map Sl.sh, x11.map Sl.sh, x12.map Sl.sh]
theorem any_val {d : D} (h : isVal d = true) : Any1 d := by
  rcases val_cases h with rfl | ⟨b, rfl⟩ | ⟨i, rfl⟩ | ⟨s, rfl⟩
  · exact .inl rfl
  · exact .inr (.inl ⟨b, rfl⟩)
  · exact .inr (.inr (.inl ⟨i, rfl⟩))
  · have := (val_text h).2
    exact .inr (.inr (.inr (.inl ⟨s, rfl, by omega⟩)))
theorem any_str {l : List Nat} (h : l.length ≤ 10000) : Any1 (.str (mkS l)) := .inr (.inr (.inr (.inl ⟨_, rfl, by rw [len_mkS]; omega⟩)))
theorem plain_val {d : D} (h : isVal d = true) (n : Nat) : plainN n d := by
  rcases val_cases h with rfl | ⟨b, rfl⟩ | ⟨i, rfl⟩ | ⟨s, rfl⟩ <;> cases n <;> trivial
theorem plain_row {r : List D} (h : ∀ d ∈ r, isVal d = true) (hl : r.length ≤ 100000) (n : Nat) : plainN (n + 1) (.tup r) := by
  unfold plainN
  exact ⟨hl, fun d hd => plain_val (h d hd) n⟩
theorem plain_res {l : List Nat} (h : CodeOk l) : plainN 3 (resD (readA l)) := by
  cases q : readA l with
  | inl e =>
    show plainN 3 (.tup [.int e, .non])
    unfold plainN
    refine ⟨by simp, fun d hd => ?_⟩
    simp only [List.mem_cons, List.not_mem_nil, or_false] at hd
    rcases hd with rfl | rfl <;> trivial
  | inr r =>
    obtain ⟨h1, h2⟩ := rowA_ok h.1 q
    have := h.2
    show plainN 3 (.tup [.non, .tup r])
    unfold plainN
    refine ⟨by simp, fun d hd => ?_⟩
    simp only [List.mem_cons, List.not_mem_nil, or_false] at hd
    rcases hd with rfl | rfl
    · trivial
    · exact plain_row h1 (by omega) 1
theorem text_str {l : List Nat} (h : Pr l) : isTextD (.str (mkS l)) = true := by
  show textB (tl (mkS l)) = true
  rw [tl_mkS]; exact text_pr.mpr h
/-- what is told of a text is what is read of it -/
theorem same_told {ρ : G.Env} {W : Wd} {k : Nat} {l : List Nat} {Q : Bool → G.Env → Wd → Prop} {Qx : KX} (hk : ρ[k]? = some (some (.sh (.str (mkS l))))) (hc : CodeOk l) (h : Q false ρ W) :
    dNotB (dBool (dCall sp_law_same 2 (dCons (dCall sp_law_told 1 (dCons (dVar k) dNil)) (dCons (dCall sp_law_read 1 (dCons (dVar k) dNil)) dNil)))) ρ W Q Qx := by
  have hv : dVar k ρ W = fun P _ => P (.str (mkS l)) ρ W := by
    funext P Qx
    unfold dVar; rw [hk]
  simp only [dNotB, dBool, dCall, dCons, dNil, hv]
  refine ⟨rfl, .str (mkS l), rfl, any_str hc.2, fun z => ?_, fun l' e hp' => ?_⟩
  · rw [text_str hc.1] at z; cases z
  · obtain rfl : l = l' := by
      injection e with e
      injection e with e
      exact mkS_inj.mp e
    refine ⟨hc.2, ?_⟩
    show (match ρ[k]? with | some (some (.sh d)) => _ | _ => False)
    rw [hk]
    exact ⟨rfl, l, rfl, hc, rfl, resD (readA l), rfl, plain_res hc, h⟩
theorem mem8 {d : D} (h : d ∈ ([.non, .int 7, .tup [.str "0"], .lst [.str "0"], .bl true, .str "0\n", .str "ta\tb ", .tup []] : List D)) : Any1 d ∧ isTextD d = false := by
  simp only [List.mem_cons, List.not_mem_nil, or_false] at h
  rcases h with rfl | rfl | rfl | rfl | rfl | rfl | rfl | rfl
  · exact ⟨.inl rfl, rfl⟩
  · exact ⟨.inr (.inr (.inl ⟨_, rfl⟩)), rfl⟩
  · exact ⟨.inr (.inr (.inr (.inr (.inl ⟨_, rfl⟩)))), rfl⟩
  · exact ⟨.inr (.inr (.inr (.inr (.inr ⟨_, rfl⟩)))), rfl⟩
  · exact ⟨.inr (.inl ⟨_, rfl⟩), rfl⟩
  · exact ⟨.inr (.inr (.inr (.inl ⟨_, rfl, by decide⟩))), by decide +kernel⟩
  · exact ⟨.inr (.inr (.inr (.inl ⟨_, rfl, by decide⟩))), by decide +kernel⟩
  · exact ⟨.inr (.inr (.inr (.inr (.inl ⟨_, rfl⟩)))), rfl⟩
theorem cut_sub (rs : List D) (lo hi : Option Int) : (cutD rs lo hi).Sublist rs := (List.take_sublist _ _).trans (List.drop_sublist _ _)
theorem code_pr {d : D} (h : isVal d = true) : Pr (codeV d) := by
  rcases val_cases h with rfl | ⟨b, rfl⟩ | ⟨i, rfl⟩ | ⟨s, rfl⟩
  · exact pr_one (by decide) (by decide)
  · cases b <;> exact pr_one (by decide) (by decide)
  · show Pr (numC i)
    have hd := numL_digits i.natAbs
    have l30 := numL_le (val_bound h)
    have lpos : 0 < (numL i.natAbs).length := List.length_pos_iff.mpr (numL_ne _)
    intro c hc
    unfold numC at hc
    split at hc
    · rw [List.mem_singleton.mp hc]; decide
    · split at hc
      · simp only [List.mem_cons] at hc
        rcases hc with rfl | rfl | hc
        · decide
        · omega
        · have := hd c hc; omega
      · simp only [List.mem_cons, List.mem_map] at hc
        rcases hc with rfl | rfl | ⟨e, he, rfl⟩
        · decide
        · omega
        · have := hd e he; omega
  · show Pr (116 :: txtC (tl s))
    have hp := (val_text h).1
    intro c hc
    rcases List.mem_cons.mp hc with rfl | hc
    · decide
    · unfold txtC at hc
      rcases List.mem_append.mp hc with hc | hc
      · rw [List.mem_flatten] at hc
        obtain ⟨y, hy, hc⟩ := hc
        rw [List.mem_map] at hy
        obtain ⟨e, he, rfl⟩ := hy
        have := hp e he
        unfold escC at hc
        split at hc
        · simp at hc; omega
        · split at hc
          · simp at hc; omega
          · simp at hc; omega
      · rw [List.mem_singleton.mp hc]; decide
theorem row_pr {r : List D} (h : ∀ d ∈ r, isVal d = true) : Pr (rowC r) := fun c hc => by
  unfold rowC at hc
  rw [List.mem_flatten] at hc
  obtain ⟨y, hy, hc⟩ := hc
  rw [List.mem_map] at hy
  obtain ⟨d, hd, rfl⟩ := hy
  exact code_pr (h d hd) c hc
theorem odd_all {d : D} (h : d ∈ ([.int (10 ^ 30), .int (0 - 10 ^ 30), .str (repS (Str.ofString "a") 201), .str "a\n", .tup [], .tup [.int 1], .lst [], .lst [.int 1]] : List D)) : Any1 d ∧ isVal d = false := by
  simp only [List.mem_cons, List.not_mem_nil, or_false] at h
  rcases h with rfl | rfl | rfl | rfl | rfl | rfl | rfl | rfl
  · exact ⟨.inr (.inr (.inl ⟨_, rfl⟩)), by decide +kernel⟩
  · exact ⟨.inr (.inr (.inl ⟨_, rfl⟩)), by decide +kernel⟩
  · exact ⟨.inr (.inr (.inr (.inl ⟨_, rfl, by decide +kernel⟩))), by decide +kernel⟩
  · exact ⟨.inr (.inr (.inr (.inl ⟨_, rfl, by decide⟩))), by decide +kernel⟩
  · exact ⟨.inr (.inr (.inr (.inr (.inl ⟨_, rfl⟩)))), rfl⟩
  · exact ⟨.inr (.inr (.inr (.inr (.inl ⟨_, rfl⟩)))), rfl⟩
  · exact ⟨.inr (.inr (.inr (.inr (.inr ⟨_, rfl⟩)))), rfl⟩
  · exact ⟨.inr (.inr (.inr (.inr (.inr ⟨_, rfl⟩)))), rfl⟩
theorem rd_law : Rd n_law 1 sp_law d_law := by
  rintro ds W Q Qx _ ⟨ns, rfl, hl, hb, h⟩
  show d_law _ [some (.sh (.scr ns)), none, none, none, none, none, none, none, none, none, none, none, none] W
  unfold d_law
  -- the edges
  refine seq_gen (fun ρ W' => ∃ x1, ρ = st ns x1 none none none none none none none none none none none) (fun ρ W' hI => ?_) (fun N hN => ?_)
  case refine_2 =>
    refine dFor_mk ⟨rfl, rfl, fun ss hss hsl => ?_⟩
    refine ⟨fun i ρ W' => W' = W ∧ ∃ x1, ρ = st ns x1 none none none none none none none none none none none, ⟨rfl, none, rfl⟩, fun i d ρ W' hd hI => ?_, fun ρ W' hI => hN _ _ hI.2⟩
    obtain ⟨rfl, x1, rfl⟩ := hI
    have hm := List.mem_of_getElem? hd
    rw [List.mem_map] at hm
    obtain ⟨s, hs, rfl⟩ := hm
    obtain ⟨p1, p2⟩ := hss s hs
    show dIfS (dNotB _) _ _ _ (st ns x1 none none none none none none none none none none none |>.set 1 (some (.sh (.str s)))) _
    unfold dIfS
    refine same_told (l := tl s) (k := 1) ?_ ⟨p1, by omega⟩ ?_
    · rw [mkS_tl]; rfl
    · exact ite_f ⟨rfl, some (.str s), rfl⟩
  obtain ⟨x1, rfl⟩ := hI
  -- what is no text
  refine seq_gen (fun ρ W2 => ∃ x1 x2, ρ = st ns x1 x2 none none none none none none none none none none) (fun ρ W2 hI => ?_) (fun N hN => ?_)
  case refine_2 =>
    refine dFor_of [.non, .int 7, .tup [.str "0"], .lst [.str "0"], .bl true, .str "0\n", .str "ta\tb ", .tup []] (fun i ρ W2 => ∃ x1 x2, ρ = st ns x1 x2 none none none none none none none none none none) (fun P hP => ⟨sz 1 (by decide), sz 1 (by decide), sz 0 (by decide), sz 8 (by decide), hP⟩) ⟨x1, none, rfl⟩ (fun i d ρ W2 hd hI => ?_) (fun ρ W2 hI => hN _ _ hI)
    obtain ⟨x1, x2, rfl⟩ := hI
    obtain ⟨ha, ht⟩ := mem8 (List.mem_of_getElem? hd)
    refine ⟨rfl, d, rfl, ha, fun _ => dNe_str ?_, fun l e hp => ?_⟩
    · rw [decide_eq_true rfl]
      refine ite_f ⟨sz 1 (by decide), rfl, .lst [d], rfl, .inr (.inr (.inr (.inr (.inr ⟨_, rfl⟩)))), (fun r z => by cases z), rfl, dNe_str ?_⟩
      rw [decide_eq_true rfl]
      exact ite_f ⟨x1, some d, rfl⟩
    · rw [e, text_str hp] at ht
      cases ht
  obtain ⟨x1, x2, rfl⟩ := hI
  refine seq_gen (fun ρ W' => True) (fun ρ W' hI => h W') (fun N hN => ?_)
  refine dFor_of ([D.int 3] ++ (((ns.drop (HT.sIx ns.length 0 none)).take (HT.sIx ns.length ns.length (some 40) - HT.sIx ns.length 0 none)).map D.int)) (fun i ρ W' => ∃ x1 x2 x3 x4 x5 x6 x7 x8 x9 x10 x11 x12 : Option D, ρ = st ns x1 x2 x3 x4 x5 x6 x7 x8 x9 x10 x11 x12) (fun P hP => ?_) ⟨_, _, none, none, none, none, none, none, none, none, none, none, rfl⟩ (fun i d ρ W' hd hI => ?_) (fun ρ W' hI => hN _ _ trivial)
  · refine ⟨sz 1 (by decide), sz _ (by show 1 + _ ≤ _; rw [List.length_map, List.length_take, List.length_drop]; omega), hP⟩
  clear x1 x2
  obtain ⟨x1, x2, x3, x4, x5, x6, x7, x8, x9, x10, x11, x12, rfl⟩ := hI
  obtain ⟨z, rfl⟩ : ∃ z : Int, d = .int z := by
    have := List.mem_of_getElem? hd
    rcases List.mem_append.mp this with this | this
    · simp only [List.mem_cons, List.not_mem_nil, or_false] at this
      exact ⟨_, this⟩
    · rw [List.mem_map] at this
      obtain ⟨z, _, rfl⟩ := this
      exact ⟨z, rfl⟩
  refine seq_gen (fun ρ W' => ∃ p, JarOk W' p ∧ ρ = st ns x1 x2 (some (.int z)) (some (.ref p)) x5 x6 x7 x8 x9 x10 x11 x12) (fun ρ W1 hI => ?_) (fun N hN => ⟨rfl, z, rfl, fun W1 p hs => hN _ _ ⟨p, hs, rfl⟩⟩)
  obtain ⟨p, hs, rfl⟩ := hI
  -- the row
  refine seq_gen (fun ρ W' => ∃ r, JarOk W' p ∧ (∀ d ∈ r, isVal d = true) ∧ r.length ≤ 6 ∧ ρ = st ns x1 x2 (some (.int z)) (some (.ref p)) (some (.tup r)) x6 x7 x8 x9 x10 x11 x12) (fun ρ W1 hI => ?_) (fun N hN => ?_)
  case refine_2 =>
    refine dLc_eachB (fun ds W0 => ds.length ≤ 6 ∧ JarOk W0 p) (fun j W' => JarOk W' p) (fun y => isVal y = true) (noOwn1 (by cases x12 <;> simp)) (fun P hP => ?_) (fun ds W0 b => ⟨sz _ (by omega), b.2⟩) (fun ds W0 b j d W' hd hs P hP => ?_) (fun ds W0 b ys W' hl hA hs => ?_)
    · exact ⟨rfl, p, 7, rfl, hs, by decide, by decide, fun m W2 m0 m1 hs => ⟨by omega, by omega, hP _ _ ⟨by rw [rng_len]; omega, hs⟩⟩⟩
    · exact ⟨rfl, p, rfl, hs, fun d W2 hd hs => hP _ _ hd hs⟩
    · exact hN _ _ ⟨ys, hs, hA, by omega, rfl⟩
  obtain ⟨r, hs, hr, hrl, rfl⟩ := hI
  have rl := row_len hr
  have rl2 : (rowC r).length ≤ 2412 := by omega
  have hrow : ∀ P : D → Wd → Prop, ∀ W0 Qx0, P (.str (mkS (rowC r))) W0 → sp_row_code [.tup r] W0 P Qx0 := fun P W0 Qx0 hP => ⟨.tup r, rfl, .inr (.inr (.inr (.inr (.inl ⟨r, rfl⟩)))), fun r' e => (by
      injection e with e; subst e
      exact ⟨by omega, fun x hx => any_val (hr x hx)⟩), fun r' e _ => (by
      injection e with e; subst e; exact hP), fun z => (by
      have : isRow1 (.tup r) = true := List.all_eq_true.mpr hr
      rw [this] at z; cases z)⟩
  obtain ⟨js, j1, j2, j3⟩ : ∃ js, strsOf (r.map fun d => D.str (mkS (codeV d))) = some js ∧ (js.map (·.length)).sum + js.length * (mkS []).length ≤ 16777216 ∧ Txt.join (mkS []) js = mkS (rowC r) := by
    have e : r.map (fun d => D.str (mkS (codeV d))) = (r.map codeV).map fun y => D.str (mkS y) := by rw [List.map_map]; rfl
    rw [e]
    obtain ⟨j1, j2⟩ := join_parts (ys := r.map codeV) (n := 20) (B := 402) (by rw [List.length_map]; omega) (fun y hy => by
      rw [List.mem_map] at hy
      obtain ⟨d, hd, rfl⟩ := hy
      exact code_len (hr d hd)) (by decide)
    exact ⟨_, j1, j2, join_mkS _⟩
  rw [so_nil]
  -- the code
  refine seq_gen (fun ρ W' => JarOk W' p ∧ ρ = st ns (some (.str (mkS (rowC r)))) x2 (some (.int z)) (some (.ref p)) (some (.tup r)) x6 x7 x8 x9 x10 x11 x12) (fun ρ W2 hI => ?_) (fun N hN => ?_)
  case refine_2 =>
    refine ⟨⟨_, rfl⟩, ?_⟩
    refine dLc_mapF r id (fun d => .str (mkS (codeV d))) (noOwn1 (by cases x2 <;> simp)) (sz _ (by omega)) (fun P hP => by rw [List.map_id] at hP; exact hP) (fun d hd P hP => ⟨rfl, d, rfl, hr d hd, hP⟩) ?_
    refine ⟨js, j1, j2, ?_⟩
    rw [j3]
    exact hN _ _ ⟨hs, rfl⟩
  obtain ⟨hs, rfl⟩ := hI
  have plS : plainN 3 (.lst [.str (mkS (rowC r)), .str (mkS (rowC r))]) := by
    unfold plainN
    refine ⟨by simp, fun d hd => ?_⟩
    simp only [List.mem_cons, List.not_mem_nil, or_false] at hd
    rcases hd with rfl | rfl <;> trivial
  refine seq_gen (fun ρ W' => JarOk W' p ∧ ρ = st ns (some (.str (mkS (rowC r)))) x2 (some (.int z)) (some (.ref p)) (some (.tup r)) x6 x7 x8 x9 x10 x11 x12) (fun ρ W3 hI => ?_) (fun N hN => ?_)
  case refine_2 =>
    refine ⟨rfl, hrow _ _ _ ⟨rfl, rfl, hrow _ _ _ ⟨sz 2 (by decide), sz 2 (by decide), rfl, _, rfl, plS, hno (hN _ _ ⟨hs, rfl⟩)⟩⟩⟩
  obtain ⟨hs, rfl⟩ := hI
  have hcode : CodeOk (rowC r) := ⟨row_pr hr, by omega⟩
  have htold : ∀ P : D → Wd → Prop, ∀ W0 Qx0, P (.tup r) W0 → sp_values_told [.str (mkS (rowC r))] W0 P Qx0 := fun P W0 Qx0 hP => ⟨_, rfl, any_str hcode.2, fun z => (by rw [text_str hcode.1] at z; cases z), fun l e hp => (by
      obtain rfl : rowC r = l := by
        injection e with e
        injection e with e
        exact mkS_inj.mp e
      refine ⟨hcode.2, ?_⟩
      rw [read_row hr]
      exact hP)⟩
  have plR : plainN 3 (.lst [.tup r, .tup r]) := by
    unfold plainN
    refine ⟨by simp, fun d hd => ?_⟩
    simp only [List.mem_cons, List.not_mem_nil, or_false] at hd
    rcases hd with rfl | rfl <;> exact plain_row hr (by omega) 1
  refine seq_gen (fun ρ W' => JarOk W' p ∧ ρ = st ns (some (.str (mkS (rowC r)))) x2 (some (.int z)) (some (.ref p)) (some (.tup r)) x6 x7 x8 x9 x10 x11 x12) (fun ρ W4 hI => ?_) (fun N hN => ?_)
  case refine_2 =>
    refine ⟨rfl, htold _ _ _ ⟨rfl, hrow _ _ _ ⟨rfl, rfl, htold _ _ _ ⟨sz 2 (by decide), sz 2 (by decide), rfl, _, rfl, plR, hno (hN _ _ ⟨hs, rfl⟩)⟩⟩⟩⟩
  obtain ⟨hs, rfl⟩ := hI
  refine seq_gen (fun ρ W' => JarOk W' p ∧ ρ = st ns (some (.str (mkS (rowC r)))) x2 (some (.int z)) (some (.ref p)) (some (.tup r)) x6 x7 x8 x9 x10 x11 x12) (fun ρ W5 hI => ?_) (fun N hN => ?_)
  case refine_2 =>
    refine ⟨⟨_, rfl⟩, ?_⟩
    refine dLc_mapF r id (fun d => .str (mkS (codeV d))) (noOwn1 (by cases x2 <;> simp)) (sz _ (by omega)) (fun P hP => by rw [List.map_id] at hP; exact hP) (fun d hd P hP => ⟨rfl, d, rfl, any_val (hr d hd), (fun _ => hP), (fun z => by rw [hr d hd] at z; cases z)⟩) ?_
    refine ⟨js, j1, j2, ?_⟩
    rw [j3]
    refine dNe_str ?_
    rw [decide_eq_true rfl]
    exact ite_f (hN _ _ ⟨hs, rfl⟩)
  obtain ⟨hs, rfl⟩ := hI
  -- the spoilt ones
  refine seq_gen (fun ρ W' => JarOk W' p ∧ ∃ x6 x7, ρ = st ns (some (.str (mkS (rowC r)))) x2 (some (.int z)) (some (.ref p)) (some (.tup r)) x6 x7 x8 x9 x10 x11 x12) (fun ρ W6 hI => ?_) (fun N hN => ?_)
  case refine_2 =>
    refine dFor_of (rng 0 3) (fun i ρ W' => JarOk W' p ∧ ∃ x6 x7, ρ = st ns (some (.str (mkS (rowC r)))) x2 (some (.int z)) (some (.ref p)) (some (.tup r)) x6 x7 x8 x9 x10 x11 x12) (fun P hP => ⟨by decide, by decide, hP⟩) ⟨hs, x6, x7, rfl⟩ (fun i d ρ W' hd hI => ?_) (fun ρ W' hI => hN _ _ hI)
    obtain ⟨hs, x6, x7, rfl⟩ := hI
    refine seq_gen (fun ρ W2 => JarOk W2 p ∧ ∃ l', Pr l' ∧ l'.length ≤ 9000 ∧ ρ = st ns (some (.str (mkS (rowC r)))) x2 (some (.int z)) (some (.ref p)) (some (.tup r)) (some d) (some (.str (mkS l'))) x8 x9 x10 x11 x12) (fun ρ W2 hI => ?_) (fun N2 hN2 => ⟨rfl, p, rowC r, rfl, hs, hcode.1, by omega, fun l' W2 h1 h2 hs => hN2 _ _ ⟨hs, l', h1, by omega, rfl⟩⟩)
    obtain ⟨hs, l', h1, h2, rfl⟩ := hI
    unfold dIfS
    refine same_told (l := l') (k := 7) rfl ⟨h1, by omega⟩ ?_
    exact ite_f ⟨hs, some d, some (.str (mkS l')), rfl⟩
  clear x6 x7
  obtain ⟨hs, x6, x7, rfl⟩ := hI
  -- what is none
  refine seq_gen (fun ρ W' => JarOk W' p ∧ ∃ (a : Nat) (b : Int), a ≤ r.length ∧ 0 ≤ b ∧ b < 8 ∧ ρ = st ns (some (.str (mkS (rowC r)))) x2 (some (.int z)) (some (.ref p)) (some (.tup r)) x6 x7 (some (.int a)) (some (.int b)) x10 x11 x12) (fun ρ W7 hI => ?_) (fun N hN => ?_)
  case refine_2 =>
    refine ⟨rfl, p, (r.length : Int) + 1, rfl, hs, by omega, by omega, fun a W8 a0 a1 hs => ⟨rfl, p, 8, rfl, hs, by decide, by decide, fun b W9 b0 b1 hs => hN _ _ ⟨hs, a.toNat, b, by omega, b0, b1, ?_⟩⟩⟩
    rw [Int.toNat_of_nonneg a0]; rfl
  obtain ⟨hs, a, b, ha, b0, b1, rfl⟩ := hI
  refine seq_gen (fun ρ W' => JarOk W' p ∧ ∃ o, Any1 o ∧ isVal o = false ∧ ρ = st ns (some (.str (mkS (rowC r)))) x2 (some (.int z)) (some (.ref p)) (some (.tup r)) x6 x7 (some (.int a)) (some (.int b)) (some o) x11 x12) (fun ρ W8 hI => ?_) (fun N hN => ?_)
  case refine_2 =>
    refine ⟨⟨by decide, by decide, by decide⟩, ⟨by decide, by decide, by decide⟩, by decide, by decide, sz _ (by decide +kernel), sz 0 (by decide), sz 1 (by decide), sz 0 (by decide), sz 1 (by decide), sz 8 (by decide), ix_all b0 (by exact b1) fun o ho => ?_⟩
    obtain ⟨o1, o2⟩ := odd_all ho
    exact hN _ _ ⟨hs, o, o1, o2, rfl⟩
  obtain ⟨hs, o, o1, o2, rfl⟩ := hI
  refine seq_gen (fun ρ W' => JarOk W' p ∧ ρ = st ns (some (.str (mkS (rowC r)))) x2 (some (.int z)) (some (.ref p)) (some (.tup r)) x6 x7 (some (.int a)) (some (.int b)) (some o) x11 x12) (fun ρ W9 hI => ?_) (fun N hN => ?_)
  case refine_2 =>
    refine ⟨rfl, o, rfl, o1, o2, ?_⟩
    refine hno ⟨sz 1 (by decide), rfl, .lst [o], rfl, .inr (.inr (.inr (.inr (.inr ⟨_, rfl⟩)))), rfl, hno (hN _ _ ⟨hs, rfl⟩)⟩
  obtain ⟨hs, rfl⟩ := hI
  have c1 : (cutD r none (some (a : Int))).length ≤ r.length := (cut_sub r _ _).length_le
  have c2 : (cutD r (some (a : Int)) none).length ≤ r.length := (cut_sub r _ _).length_le
  refine seq_gen (fun ρ W' => JarOk W' p ∧ ∃ v, Any1 v ∧ SmR v ∧ isRow1 v = false ∧ ρ = st ns (some (.str (mkS (rowC r)))) x2 (some (.int z)) (some (.ref p)) (some (.tup r)) x6 x7 (some (.int a)) (some (.int b)) (some o) (some v) x12) (fun ρ W10 hI => ?_) (fun N hN => ?_)
  case refine_2 =>
    refine ⟨sz 1 (by decide), sz _ (by simp only [List.length_append, List.length_cons, List.length_nil]; omega), sz _ (by simp only [List.length_append, List.length_cons, List.length_nil]; omega), sz 6 (by decide), rfl, p, 9, rfl, hs, by decide, by decide, fun k W11 k0 k1 hs => ?_⟩
    refine ix_all (r := if k - 3 > 0 then k - 3 else 0) (by split <;> omega) (by show _ < (6 : Int); split <;> omega) fun v hv => ?_
    have key : Any1 v ∧ SmR v ∧ isRow1 v = false := by
      simp only [List.mem_cons, List.not_mem_nil, or_false] at hv
      rcases hv with rfl | rfl | rfl | rfl | rfl | rfl
      · refine ⟨.inr (.inr (.inr (.inr (.inl ⟨_, rfl⟩)))), fun q e => ?_, ?_⟩
        · injection e with e
          subst e
          refine ⟨by rw [List.length_append, List.length_append]; simp; omega, fun x hx => ?_⟩
          rcases List.mem_append.mp hx with hx | hx
          · rcases List.mem_append.mp hx with hx | hx
            · exact any_val (hr x ((cut_sub r _ _).mem hx))
            · rw [List.mem_singleton.mp hx]; exact o1
          · exact any_val (hr x ((cut_sub r _ _).mem hx))
        · show (List.all _ isVal) = false
          rw [List.all_append, List.all_append]
          simp [o2]
      · exact ⟨.inr (.inr (.inr (.inr (.inr ⟨_, rfl⟩)))), (fun q e => by cases e), rfl⟩
      · exact ⟨any_str hcode.2, (fun q e => by cases e), rfl⟩
      · exact ⟨.inl rfl, (fun q e => by cases e), rfl⟩
      · exact ⟨.inr (.inr (.inl ⟨_, rfl⟩)), (fun q e => by cases e), rfl⟩
      · exact ⟨.inr (.inl ⟨_, rfl⟩), (fun q e => by cases e), rfl⟩
    exact hN _ _ ⟨hs, v, key.1, key.2.1, key.2.2, rfl⟩
  obtain ⟨hs, v, v1, v2, v3, rfl⟩ := hI
  refine ⟨rfl, v, rfl, v1, v2, v3, dNe_str ?_⟩
  rw [decide_eq_true rfl]
  refine ite_f ⟨rfl, hrow _ _ _ ⟨rfl, _, rfl, trivial, hno ?_⟩⟩
  exact ⟨_, _, _, _, _, _, _, _, _, _, _, _, rfl⟩
end K12

namespace K12
open PySem PySem.Spec L2 G TL C Q
variable {P : Program} {w : World} {K : PySem.W.Frag} {mg : Str → Option Value} {base : Heap}
theorem ok_is_integer (T : Txt P K mg)  : Cal P w K mg base 1 "is_integer" s_is_integer ["value"] sp_is_integer :=
  calD T.f_is_integer sc_is_integer fun f cdv A outer s H E hr => ⟨d_is_integer, (gss_one (gs_ret (ge_and (ge_callB call_isi cs_isi rfl T.b_isinstance (by decide +kernel) (ga_cons (gv 0) (ga_cons (ge_ty T.b_int (by decide +kernel)) ga_nil))) (ge_one (ge_not (ge_callB call_isi cs_isi rfl T.b_isinstance (by decide +kernel) (ga_cons (gv 0) (ga_cons (ge_ty T.b_bool (by decide +kernel)) ga_nil)))))))), rd_is_integer⟩

theorem ok_is_text (T : Txt P K mg)  : Cal P w K mg base 1 "is_text" s_is_text ["value"] sp_is_text :=
  calD T.f_is_text sc_is_text fun f cdv A outer s H E hr => ⟨d_is_text, (gss_one (gs_ret (ge_and (ge_callB call_isi cs_isi rfl T.b_isinstance (by decide +kernel) (ga_cons (gv 0) (ga_cons (ge_ty T.b_str (by decide +kernel)) ga_nil))) (ge_one (ge_callB (cr_all rfl) cs_all rfl T.b_all (by decide +kernel) (ga_cons (GN.ge (gn_lc [("sign", 1)] rfl sc_is_text.nd (gi_str (gv 0)) (blkOk_by (own := [("sign", 1)]) (N := n_is_text) (sc := defScope s_is_text) (by decide +kernel)) (by decide) (fun _ _ _ _ _ => (gg_name (i := 1) sc_is_text.nd rfl (Or.inl rfl))) (fun _ _ _ _ _ => gts_nil) (fun _ _ _ _ _ => (ge_chain op_leA op_leA rs_cmp rs_cmp (ge_gc T.c_LEAST_SIGN) (gv 1) (ge_gc T.c_GREATEST_SIGN))))) ga_nil)))))), rd_is_text⟩

theorem ok_is_value (T : Txt P K mg) (C_is_integer : Cal P w K mg base 1 "is_integer" s_is_integer ["value"] sp_is_integer) (C_is_text : Cal P w K mg base 1 "is_text" s_is_text ["value"] sp_is_text) : Cal P w K mg base 2 "is_value" s_is_value ["value"] sp_is_value :=
  calD T.f_is_value sc_is_value fun f cdv A outer s H E hr => ⟨d_is_value, (gss_cons (gs_if (GW.gt (gw_or (gt_cmp op_isA rs_isA (gv 0) ge_non (nomark _)) (gw_or1 (gt_val (ge_callB call_isi cs_isi rfl T.b_isinstance (by decide +kernel) (ga_cons (gv 0) (ga_cons (ge_ty T.b_bool (by decide +kernel)) ga_nil))))))) (gss_one (gs_ret ge_bl)) gss_nil)
  (gss_cons (gs_if (gt_val (ge_c (takes_of rfl rfl rfl rfl) C_is_integer hr (by decide) (ga_cons (gv 0) ga_nil))) (gss_one (gs_ret (ge_cmp op_leA rs_cmp (ge_callB call_abs cs_abs rfl T.b_abs (by decide +kernel) (ga_cons (gv 0) ga_nil)) (ge_gc T.c_MOST_INTEGER) (nomark _)))) gss_nil)
  (gss_one (gs_ret (ge_and (ge_c (takes_of rfl rfl rfl rfl) C_is_text hr (by decide) (ga_cons (gv 0) ga_nil)) (ge_one (ge_cmp op_leA rs_cmp (ge_callB call_len cs_len rfl T.b_len (by decide +kernel) (ga_cons (gv 0) ga_nil)) (ge_gc T.c_MOST_SIGNS) (nomark _)))))))), rd_is_value⟩

theorem ok_text_code (T : Txt P K mg)  : Cal P w K mg base 1 "text_code" s_text_code ["text"] sp_text_code :=
  calD T.f_text_code sc_text_code fun f cdv A outer s H E hr => ⟨d_text_code, (gss_cons (gs_set (i := 1) sc_text_code.nd rfl (Or.inr rfl) (ge_disp (gps_cons (ge_gc T.c_END) (ge_op op_addA rs_add (ge_gc T.c_MARK) ge_str) (gps_cons (ge_gc T.c_MARK) (ge_op op_addA rs_add (ge_gc T.c_MARK) ge_str) gps_nil))))
  (gss_one (gs_ret (ge_op op_addA rs_add (ge_strM PySem.F.slot_str_join PySem.F.type_str_join mt_joinA ms_join ge_str (ga_cons (GN.ge (gn_lc [("sign", 2)] rfl sc_text_code.nd (gi_str (gv 0)) (blkOk_by (own := [("sign", 2)]) (N := n_text_code) (sc := defScope s_text_code) (by decide +kernel)) (by decide) (fun _ _ _ _ _ => (gg_name (i := 2) sc_text_code.nd rfl (Or.inl rfl))) (fun _ _ _ _ _ => gts_nil) (fun _ _ _ _ _ => (ge_dget2 (hu_of hr.toRoom) (gv 1) (gv 2) (gv 2) ⟨rfl, rfl, rfl, rfl⟩)))) ga_nil)) (ge_gc T.c_END))))), rd_text_code⟩

theorem ok_number_code (T : Txt P K mg)  : Cal P w K mg base 1 "number_code" s_number_code ["number"] sp_number_code :=
  calD T.f_number_code sc_number_code fun f cdv A outer s H E hr => ⟨d_number_code, (gss_cons (gs_if (gt_cmp (op_eqA hr.units) rs_eq (gv 0) ge_int (nomark _)) (gss_one (gs_ret ge_str)) gss_nil)
  (gss_cons (gs_set (i := 1) sc_number_code.nd rfl (Or.inl rfl) (ge_callTy call_str_int cs_str rfl T.b_str (by decide +kernel) (ga_cons (ge_callB call_abs cs_abs rfl T.b_abs (by decide +kernel) (ga_cons (gv 0) ga_nil)) ga_nil)))
  (gss_cons (gs_if (gt_cmp op_gtA rs_cmp (gv 0) ge_int (nomark _)) (gss_one (gs_ret (ge_op op_addA rs_add (ge_op op_addA rs_add ge_str (ge_ix ix_seq rs_ix (ge_gc T.c_COUNTS) (ge_op op_sub rs_J (ge_callB call_len cs_len rfl T.b_len (by decide +kernel) (ga_cons (gv 1) ga_nil)) ge_int) (fun _ _ => rfl))) (gv 1)))) gss_nil)
  (gss_one (gs_ret (ge_op op_addA rs_add (ge_op op_addA rs_add ge_str (ge_ix ix_seq rs_ix (ge_gc T.c_COUNTS) (ge_op op_sub rs_J (ge_op op_addA rs_add (ge_gc T.c_MOST_FIGURES) ge_int) (ge_callB call_len cs_len rfl T.b_len (by decide +kernel) (ga_cons (gv 1) ga_nil))) (fun _ _ => rfl))) (ge_strM PySem.F.slot_str_join PySem.F.type_str_join mt_joinA ms_join ge_str (ga_cons (GN.ge (gn_lc [("digit", 2)] rfl sc_number_code.nd (gi_str (gv 1)) (blkOk_by (own := [("digit", 2)]) (N := n_number_code) (sc := defScope s_number_code) (by decide +kernel)) (by decide) (fun _ _ _ _ _ => (gg_name (i := 2) sc_number_code.nd rfl (Or.inl rfl))) (fun _ _ _ _ _ => gts_nil) (fun _ _ _ _ _ => (ge_callTy call_str_int cs_str rfl T.b_str (by decide +kernel) (ga_cons (ge_op op_sub rs_J ge_int (ge_callTy call_intA cs_int rfl T.b_int (by decide +kernel) (ga_cons (gv 2) ga_nil))) ga_nil))))) ga_nil)))))))), rd_number_code⟩

theorem ok_code_of (T : Txt P K mg) (C_text_code : Cal P w K mg base 1 "text_code" s_text_code ["text"] sp_text_code) (C_number_code : Cal P w K mg base 1 "number_code" s_number_code ["number"] sp_number_code) : Cal P w K mg base 2 "code_of" s_code_of ["value"] sp_code_of :=
  calD T.f_code_of sc_code_of fun f cdv A outer s H E hr => ⟨d_code_of, (gss_cons (gs_if (GW.gt (gw_or (gt_cmp op_isA rs_isA (gv 0) ge_non (nomark _)) (gw_or (gt_cmp op_isA rs_isA (gv 0) ge_bl (nomark _)) (gw_or1 (gt_cmp op_isA rs_isA (gv 0) ge_bl (nomark _)))))) (gss_one (gs_ret (ge_if (gt_cmp op_isA rs_isA (gv 0) ge_non (nomark _)) ge_str (ge_callTy call_str_int cs_str rfl T.b_str (by decide +kernel) (ga_cons (ge_op op_addA rs_add ge_int (ge_callTy call_intA cs_int rfl T.b_int (by decide +kernel) (ga_cons (gv 0) ga_nil))) ga_nil))))) gss_nil)
  (gss_one (gs_ret (ge_if (gt_val (ge_callB call_isi cs_isi rfl T.b_isinstance (by decide +kernel) (ga_cons (gv 0) (ga_cons (ge_ty T.b_str (by decide +kernel)) ga_nil)))) (ge_op op_addA rs_add ge_str (ge_c (takes_of rfl rfl rfl rfl) C_text_code hr (by decide) (ga_cons (gv 0) ga_nil))) (ge_c (takes_of rfl rfl rfl rfl) C_number_code hr (by decide) (ga_cons (gv 0) ga_nil)))))), rd_code_of⟩

theorem ok_value_code (T : Txt P K mg) (C_is_value : Cal P w K mg base 2 "is_value" s_is_value ["value"] sp_is_value) (C_code_of : Cal P w K mg base 2 "code_of" s_code_of ["value"] sp_code_of) : Cal P w K mg base 3 "value_code" s_value_code ["value"] sp_value_code :=
  calD T.f_value_code sc_value_code fun f cdv A outer s H E hr => ⟨d_value_code, (gss_cons (gs_if (gt_not (gt_val (ge_c (takes_of rfl rfl rfl rfl) C_is_value hr (by decide) (ga_cons (gv 0) ga_nil)))) (gss_one (gs_raise rfl (takes_of rfl rfl rfl rfl) T.x_InvalidValue)) gss_nil)
  (gss_one (gs_ret (ge_c (takes_of rfl rfl rfl rfl) C_code_of hr (by decide) (ga_cons (gv 0) ga_nil))))), rd_value_code⟩

theorem ok_row_code (T : Txt P K mg) (C_is_value : Cal P w K mg base 2 "is_value" s_is_value ["value"] sp_is_value) (C_code_of : Cal P w K mg base 2 "code_of" s_code_of ["value"] sp_code_of) : Cal P w K mg base 3 "row_code" s_row_code ["values"] sp_row_code :=
  calD T.f_row_code sc_row_code fun f cdv A outer s H E hr => ⟨d_row_code, (gss_cons (gs_if (GW.gt (gw_or (gt_not (gt_val (ge_callB call_isi cs_isi rfl T.b_isinstance (by decide +kernel) (ga_cons (gv 0) (ga_cons (ge_ty T.b_tuple (by decide +kernel)) ga_nil))))) (gw_or1 (gt_not (gt_val (ge_callB (cr_all rfl) cs_all rfl T.b_all (by decide +kernel) (ga_cons (GN.ge (gn_lc [("value", 1)] rfl sc_row_code.nd (gi_tup (gv 0)) (blkOk_by (own := [("value", 1)]) (N := n_row_code) (sc := defScope s_row_code) (by decide +kernel)) (by decide) (fun _ _ _ _ _ => (gg_name (i := 1) sc_row_code.nd rfl (Or.inl rfl))) (fun _ _ _ _ _ => gts_nil) (fun _ _ _ _ _ => (ge_c takes0 C_is_value hr (by decide) (ga_cons (gv 1) ga_nil))))) ga_nil))))))) (gss_one (gs_raise rfl (takes_of rfl rfl rfl rfl) T.x_InvalidRow)) gss_nil)
  (gss_one (gs_ret (ge_strM PySem.F.slot_str_join PySem.F.type_str_join mt_joinA ms_join ge_str (ga_cons (GN.ge (gn_lc [("value", 1)] rfl sc_row_code.nd (gi_tup (gv 0)) (blkOk_by (own := [("value", 1)]) (N := n_row_code) (sc := defScope s_row_code) (by decide +kernel)) (by decide) (fun _ _ _ _ _ => (gg_name (i := 1) sc_row_code.nd rfl (Or.inl rfl))) (fun _ _ _ _ _ => gts_nil) (fun _ _ _ _ _ => (ge_c takes0 C_code_of hr (by decide) (ga_cons (gv 1) ga_nil))))) ga_nil))))), rd_row_code⟩

theorem ok_text_from (T : Txt P K mg)  : Cal P w K mg base 3 "text_from" s_text_from ["code", "at", "most"] sp_text_from :=
  calD T.f_text_from sc_text_from fun f cdv A outer s H E hr => ⟨d_text_from, (gss_cons (gs_setO (i := 3) sc_text_from.nd rfl (Or.inl rfl) (gn_lst ga_nil))
  (gss_cons (gs_while (passes_of rfl) (gt_cmp (op_neA hr.units) rs_ne (ge_sl sl_any ss_cut (gv 0) (go_some (gv 1)) (go_some (ge_op op_addA rs_add (gv 1) ge_int))) (ge_gc T.c_END) (nomark _))
  (gss_cons (gs_if (GW.gt (gw_or (gt_cmp (op_eqA hr.units) rs_eq (gv 1) (ge_callB call_len cs_len rfl T.b_len (by decide +kernel) (ga_cons (gv 0) ga_nil)) (nomark _)) (gw_or1 (gt_cmp (op_eqA hr.units) rs_eq (ge_lenO 3 T.b_len) (gv 2) (nomark _))))) (gss_one (gs_raiseF rfl (takes_of rfl rfl rfl rfl) T.xf_InvalidCode hr.toRoom (by decide) (gv 1))) gss_nil)
  (gss_cons (gs_if (gt_cmp (op_eqA hr.units) rs_eq (ge_ix ix_seq rs_ix (gv 0) (gv 1) (fun _ _ => rfl)) (ge_gc T.c_MARK) (nomark _)) (gss_cons (gs_aug (i := 1) sc_text_from.nd rfl (Or.inl rfl) ge_int op_iadd rs_ip)
  (gss_cons (gs_if (gt_cmp op_niA rs_in (ge_sl sl_any ss_cut (gv 0) (go_some (gv 1)) (go_some (ge_op op_addA rs_add (gv 1) ge_int))) (ge_tup (ga_cons ge_str (ga_cons ge_str ga_nil))) rfl) (gss_one (gs_raiseF rfl (takes_of rfl rfl rfl rfl) T.xf_InvalidCode hr.toRoom (by decide) (gv 1))) gss_nil)
  (gss_one (gs_app (i := 3) (ge_if (gt_cmp (op_eqA hr.units) rs_eq (ge_ix ix_seq rs_ix (gv 0) (gv 1) (fun _ _ => rfl)) ge_str (nomark _)) (ge_gc T.c_END) (ge_gc T.c_MARK)))))) (gss_one (gs_app (i := 3) (ge_ix ix_seq rs_ix (gv 0) (gv 1) (fun _ _ => rfl)))))
  (gss_one (gs_aug (i := 1) sc_text_from.nd rfl (Or.inl rfl) ge_int op_iadd rs_ip)))))
  (gss_frz 3 (gss_one (gs_ret (ge_tup (ga_cons (ge_strM PySem.F.slot_str_join PySem.F.type_str_join mt_joinA ms_join ge_str (ga_cons (gv 3) ga_nil)) (ga_cons (ge_op op_addA rs_add (gv 1) ge_int) ga_nil)))))))), rd_text_from⟩

theorem ok_number_from (T : Txt P K mg)  : Cal P w K mg base 3 "number_from" s_number_from ["code", "at", "below"] sp_number_from :=
  calD T.f_number_from sc_number_from fun f cdv A outer s H E hr => ⟨d_number_from, (gss_cons (gs_set (i := 3) sc_number_from.nd rfl (Or.inl rfl) (ge_if (gt_cmp op_ltA rs_cmp (gv 1) (ge_callB call_len cs_len rfl T.b_len (by decide +kernel) (ga_cons (gv 0) ga_nil)) (nomark _)) (ge_strM PySem.F.slot_str_find PySem.F.type_str_find mt_find ms_1 (ge_gc T.c_COUNTS) (ga_cons (ge_ix ix_seq rs_ix (gv 0) (gv 1) (fun _ _ => rfl)) ga_nil)) (ge_neg ge_int)))
  (gss_cons (gs_set (i := 4) sc_number_from.nd rfl (Or.inl rfl) (ge_if (GW.gt (gw_and (gt_val (gv 2)) (gw_and1 (gt_cmp op_geA rs_cmp (gv 3) ge_int (nomark _))))) (ge_op op_sub rs_J (ge_op op_addA rs_add (ge_gc T.c_MOST_FIGURES) ge_int) (gv 3)) (ge_op op_addA rs_add (gv 3) ge_int)))
  (gss_cons (gs_if (gt_not (gt_chain op_leA op_leA rs_cmp rs_cmp ge_int (gv 4) (ge_gc T.c_MOST_FIGURES))) (gss_one (gs_raiseF rfl (takes_of rfl rfl rfl rfl) T.xf_InvalidCode hr.toRoom (by decide) (gv 1))) gss_nil)
  (gss_cons (gs_set (i := 5) sc_number_from.nd rfl (Or.inl rfl) ge_str)
  (gss_cons (gs_for (passes_of rfl) rfl (gi_range1 rfl T.b_range (ga_cons (gv 4) ga_nil)) (gg_name (i := 6) sc_number_from.nd rfl (Or.inl rfl))
  (gss_cons (gs_set (i := 7) sc_number_from.nd rfl (Or.inl rfl) (ge_sl sl_any ss_cut (gv 0) (go_some (ge_op op_addA rs_add (ge_op op_addA rs_add (gv 1) ge_int) (gv 6))) (go_some (ge_op op_addA rs_add (ge_op op_addA rs_add (gv 1) ge_int) (gv 6)))))
  (gss_cons (gs_if (GW.gt (gw_or (gt_cmp (op_eqA hr.units) rs_eq (gv 7) ge_str (nomark _)) (gw_or (gt_cmp op_niA rs_in (gv 7) (ge_gc T.c_DIGITS) rfl) (gw_or1 (GW.gt (gw_and (gt_cmp (op_eqA hr.units) rs_eq (gv 6) ge_int (nomark _)) (gw_and1 (gt_cmp (op_eqA hr.units) rs_eq (gv 7) (ge_if (gt_val (gv 2)) ge_str ge_str) (nomark _))))))))) (gss_one (gs_raiseF rfl (takes_of rfl rfl rfl rfl) T.xf_InvalidCode hr.toRoom (by decide) (ge_op op_addA rs_add (ge_op op_addA rs_add (gv 1) ge_int) (gv 6)))) gss_nil)
  (gss_one (gs_aug (i := 5) sc_number_from.nd rfl (Or.inl rfl) (ge_if (gt_val (gv 2)) (ge_callTy call_str_int cs_str rfl T.b_str (by decide +kernel) (ga_cons (ge_op op_sub rs_J ge_int (ge_callTy call_intA cs_int rfl T.b_int (by decide +kernel) (ga_cons (gv 7) ga_nil))) ga_nil)) (gv 7)) op_iaS rs_iaS)))))
  (gss_one (gs_ret (ge_tup (ga_cons (ge_if (gt_val (gv 2)) (ge_op op_sub rs_J ge_int (ge_callTy call_intA cs_int rfl T.b_int (by decide +kernel) (ga_cons (gv 5) ga_nil))) (ge_callTy call_intA cs_int rfl T.b_int (by decide +kernel) (ga_cons (gv 5) ga_nil))) (ga_cons (ge_op op_addA rs_add (ge_op op_addA rs_add (gv 1) ge_int) (gv 4)) ga_nil)))))))))), rd_number_from⟩

theorem ok_value_from (T : Txt P K mg) (C_text_from : Cal P w K mg base 3 "text_from" s_text_from ["code", "at", "most"] sp_text_from) (C_number_from : Cal P w K mg base 3 "number_from" s_number_from ["code", "at", "below"] sp_number_from) : Cal P w K mg base 4 "value_from" s_value_from ["code", "at"] sp_value_from :=
  calD T.f_value_from sc_value_from fun f cdv A outer s H E hr => ⟨d_value_from, (gss_cons (gs_set (i := 2) sc_value_from.nd rfl (Or.inl rfl) (ge_sl sl_any ss_cut (gv 0) (go_some (gv 1)) (go_some (ge_op op_addA rs_add (gv 1) ge_int))))
  (gss_cons (gs_if (gt_cmp (op_eqA hr.units) rs_eq (gv 2) ge_str (nomark _)) (gss_one (gs_ret (ge_c (takes_of rfl rfl rfl rfl) C_text_from hr (by decide) (ga_cons (gv 0) (ga_cons (ge_op op_addA rs_add (gv 1) ge_int) (ga_cons (ge_gc T.c_MOST_SIGNS) ga_nil)))))) gss_nil)
  (gss_cons (gs_if (gt_cmp op_inA rs_in (gv 2) (ge_tup (ga_cons ge_str (ga_cons ge_str ga_nil))) rfl) (gss_one (gs_ret (ge_c (takes_of rfl rfl rfl rfl) C_number_from hr (by decide) (ga_cons (gv 0) (ga_cons (ge_op op_addA rs_add (gv 1) ge_int) (ga_cons (ge_cmp (op_eqA hr.units) rs_eq (gv 2) ge_str (nomark _)) ga_nil)))))) gss_nil)
  (gss_cons (gs_if (gt_cmp op_niA rs_in (gv 2) (ge_tup (ga_cons ge_str (ga_cons ge_str (ga_cons ge_str (ga_cons ge_str ga_nil))))) rfl) (gss_one (gs_raiseF rfl (takes_of rfl rfl rfl rfl) T.xf_InvalidCode hr.toRoom (by decide) (gv 1))) gss_nil)
  (gss_one (gs_ret (ge_tup (ga_cons (ge_dget (hu_of hr.toRoom) (ge_disp (gps_cons ge_str ge_non (gps_cons ge_str ge_bl (gps_cons ge_str ge_bl (gps_cons ge_str ge_int gps_nil))))) (gv 2) (fun _ _ => rfl)) (ga_cons (ge_op op_addA rs_add (gv 1) ge_int) ga_nil))))))))), rd_value_from⟩

theorem ok_values_told (T : Txt P K mg) (C_is_text : Cal P w K mg base 1 "is_text" s_is_text ["value"] sp_is_text) (C_value_from : Cal P w K mg base 4 "value_from" s_value_from ["code", "at"] sp_value_from) : Cal P w K mg base 5 "values_told" s_values_told ["code"] sp_values_told :=
  calD T.f_values_told sc_values_told fun f cdv A outer s H E hr => ⟨d_values_told, (gss_cons (gs_if (gt_not (gt_val (ge_c (takes_of rfl rfl rfl rfl) C_is_text hr (by decide) (ga_cons (gv 0) ga_nil)))) (gss_one (gs_raise rfl (takes_of rfl rfl rfl rfl) T.x_InvalidText)) gss_nil)
  (gss_cons (gs_asg (ge_tup (ga_cons (ge_tup ga_nil) (ga_cons ge_int ga_nil))) (gg_tup rfl (ggs_cons (gg_name (i := 1) sc_values_told.nd rfl (Or.inl rfl)) (ggs_cons (gg_name (i := 2) sc_values_told.nd rfl (Or.inl rfl)) ggs_nil))))
  (gss_cons (gs_while (passes_of rfl) (gt_cmp op_ltA rs_cmp (gv 2) (ge_callB call_len cs_len rfl T.b_len (by decide +kernel) (ga_cons (gv 0) ga_nil)) (nomark _))
  (gss_cons (gs_asg (ge_c (takes_of rfl rfl rfl rfl) C_value_from hr (by decide) (ga_cons (gv 0) (ga_cons (gv 2) ga_nil))) (gg_tup rfl (ggs_cons (gg_name (i := 3) sc_values_told.nd rfl (Or.inl rfl)) (ggs_cons (gg_name (i := 2) sc_values_told.nd rfl (Or.inl rfl)) ggs_nil))))
  (gss_one (gs_set (i := 1) sc_values_told.nd rfl (Or.inl rfl) (ge_op op_addA rs_add (gv 1) (ge_tup (ga_cons (gv 3) ga_nil)))))))
  (gss_one (gs_ret (gv 1)))))), rd_values_told⟩

theorem ok_law_jar (T : Txt P K mg)  : Cal P w K mg base 1 "_law_jar" s_law_jar ["cell"] sp_law_jar :=
  calD T.f_law_jar sc_law_jar fun f cdv A outer s H E hr => ⟨d_law_jar, (gss_cons (gs_set (i := 0) sc_law_jar.nd rfl (Or.inl rfl) (ge_op op_mod rs_I (ge_callTy call_intA cs_int rfl T.b_int (by decide +kernel) (ga_cons (gv 0) ga_nil)) (ge_op op_mulAll rs_mulA (ge_op op_mulAll rs_mulA (ge_op op_pow rs_I ge_int ge_int) (ge_op op_pow rs_I ge_int ge_int)) (ge_op op_pow rs_I ge_int ge_int))))
  (gss_one (gs_retW (gn_lst (ga_cons (ge_callB (call_max2 rfl) cs_2 rfl T.b_max (by decide +kernel) (ga_cons ge_int (ga_cons (ge_op op_sub rs_J (gv 0) (ge_op op_pow rs_I ge_int ge_int)) ga_nil))) (ga_cons (ge_op op_addA rs_add (ge_op op_mod rs_I (gv 0) ge_int) ge_int) ga_nil)))))), rd_law_jar⟩

theorem ok_law_drawn (T : Txt P K mg)  : Cal P w K mg base 1 "_law_drawn" s_law_drawn ["jar", "many"] sp_law_drawn :=
  calD T.f_law_drawn sc_law_drawn fun f cdv A outer s H E hr => ⟨d_law_drawn, (gss_cons (gs_if (gt_cmp op_gtA rs_cmp (ge_ixW (gv 0) ge_int (fun _ _ => rfl)) ge_int (nomark _)) (gss_cons (gs_set (i := 2) sc_law_drawn.nd rfl (Or.inl rfl) (ge_op op_mod rs_I (ge_callTy call_intA cs_int rfl T.b_int (by decide +kernel) (ga_cons (ge_ixW (gv 0) ge_int (fun _ _ => rfl)) ga_nil)) (gv 1)))
  (gss_cons (gs_setW (ge_op op_fdivW rs_I (ge_ixW (gv 0) ge_int (fun _ _ => rfl)) (gv 1)) (gv 0) ge_int)
  (gss_one (gs_ret (gv 2))))) gss_nil)
  (gss_cons (gs_setW (ge_op op_mod rs_I (ge_callTy call_intA cs_int rfl T.b_int (by decide +kernel) (ga_cons (ge_op op_addA rs_add (ge_op op_mulAll rs_mulA (ge_ixW (gv 0) ge_int (fun _ _ => rfl)) ge_int) ge_int) ga_nil)) ge_int) (gv 0) ge_int)
  (gss_one (gs_ret (ge_op op_mod rs_I (ge_op op_fdivW rs_I (ge_op op_mod rs_I (ge_callTy call_intA cs_int rfl T.b_int (by decide +kernel) (ga_cons (ge_op op_mulAll rs_mulA (ge_ixW (gv 0) ge_int (fun _ _ => rfl)) (ge_ixW (gv 0) ge_int (fun _ _ => rfl))) ga_nil)) ge_int) ge_int) (gv 1)))))), rd_law_drawn⟩

theorem step_law_same (T : Txt P K mg)  {k : Nat} {sp0 sp1 : SpD} (C_law_same : Cal P w K mg base k "_law_same" s_law_same ["found", "due"] sp0) (hk : 0 ≤ k) (rd : ∀ ds W Qd Qx, ds.length = 2 → sp1 ds W Qd Qx → d_law_same sp0 { nx := fun _ W' => Qd .non W', rt := Qd, ex := fun cls x _ W' => Qx cls x W' } (ds.map (fun d => some (Sl.sh d)) ++ List.replicate (n_law_same.length - ds.length) none) W) : Cal P w K mg base (k + 1) "_law_same" s_law_same ["found", "due"] sp1 :=
  calD T.f_law_same sc_law_same fun f cdv A outer s H E hr => ⟨d_law_same sp0, (gss_cons (gs_if (gt_cmp op_isA rs_isA (gv 1) ge_non (nomark _)) (gss_one (gs_ret (ge_cmp op_isA rs_isA (gv 0) ge_non (nomark _)))) gss_nil)
  (gss_cons (gs_if (gt_cmp op_isA rs_isA (gv 1) ge_bl (nomark _)) (gss_one (gs_ret (ge_cmp op_isA rs_isA (gv 0) ge_bl (nomark _)))) gss_nil)
  (gss_cons (gs_if (gt_cmp op_isA rs_isA (gv 1) ge_bl (nomark _)) (gss_one (gs_ret (ge_cmp op_isA rs_isA (gv 0) ge_bl (nomark _)))) gss_nil)
  (gss_cons (gs_if (gt_val (ge_callB call_isi cs_isi rfl T.b_isinstance (by decide +kernel) (ga_cons (gv 1) (ga_cons (ge_ty T.b_int (by decide +kernel)) ga_nil)))) (gss_one (gs_ret (ge_and (ge_callB call_isi cs_isi rfl T.b_isinstance (by decide +kernel) (ga_cons (gv 0) (ga_cons (ge_ty T.b_int (by decide +kernel)) ga_nil))) (ge_and (ge_not (ge_callB call_isi cs_isi rfl T.b_isinstance (by decide +kernel) (ga_cons (gv 0) (ga_cons (ge_ty T.b_bool (by decide +kernel)) ga_nil)))) (ge_one (ge_cmp (op_eqA hr.units) rs_eq (gv 0) (gv 1) (nomark _))))))) gss_nil)
  (gss_cons (gs_if (gt_val (ge_callB call_isi cs_isi rfl T.b_isinstance (by decide +kernel) (ga_cons (gv 1) (ga_cons (ge_ty T.b_str (by decide +kernel)) ga_nil)))) (gss_one (gs_ret (ge_and (ge_callB call_isi cs_isi rfl T.b_isinstance (by decide +kernel) (ga_cons (gv 0) (ga_cons (ge_ty T.b_str (by decide +kernel)) ga_nil))) (ge_one (ge_cmp (op_eqA hr.units) rs_eq (gv 0) (gv 1) (nomark _)))))) gss_nil)
  (gss_cons (gs_if (GW.gt (gw_or (gt_cmp (op_neA hr.units) rs_ne (ge_callB call_isi cs_isi rfl T.b_isinstance (by decide +kernel) (ga_cons (gv 1) (ga_cons (ge_ty T.b_tuple (by decide +kernel)) ga_nil))) (ge_callB call_isi cs_isi rfl T.b_isinstance (by decide +kernel) (ga_cons (gv 0) (ga_cons (ge_ty T.b_tuple (by decide +kernel)) ga_nil))) (nomark _)) (gw_or1 (gt_cmp (op_neA hr.units) rs_ne (ge_callB call_isi cs_isi rfl T.b_isinstance (by decide +kernel) (ga_cons (gv 1) (ga_cons (ge_ty T.b_list (by decide +kernel)) ga_nil))) (ge_callB call_isi cs_isi rfl T.b_isinstance (by decide +kernel) (ga_cons (gv 0) (ga_cons (ge_ty T.b_list (by decide +kernel)) ga_nil))) (nomark _))))) (gss_one (gs_ret ge_bl)) gss_nil)
  (gss_one (gs_ret (ge_and (ge_cmp (op_eqA hr.units) rs_eq (ge_callB call_len cs_len rfl T.b_len (by decide +kernel) (ga_cons (gv 0) ga_nil)) (ge_callB call_len cs_len rfl T.b_len (by decide +kernel) (ga_cons (gv 1) ga_nil)) (nomark _)) (ge_one (ge_callB (cr_all rfl) cs_all rfl T.b_all (by decide +kernel) (ga_cons (GN.ge (gn_lc [("k", 2)] rfl sc_law_same.nd (gi_range1 rfl T.b_range (ga_cons (ge_callB call_len cs_len rfl T.b_len (by decide +kernel) (ga_cons (gv 1) ga_nil)) ga_nil)) (blkOk_by (own := [("k", 2)]) (N := n_law_same) (sc := defScope s_law_same) (by decide +kernel)) (by decide) (fun _ _ _ _ _ => (gg_name (i := 2) sc_law_same.nd rfl (Or.inl rfl))) (fun _ _ _ _ _ => gts_nil) (fun _ _ _ _ _ => (ge_c takes0 C_law_same hr (Nat.le_refl _) (ga_cons (ge_ix ix_seq rs_ix (gv 0) (gv 2) (fun _ _ => rfl)) (ga_cons (ge_ix ix_seq rs_ix (gv 1) (gv 2) (fun _ _ => rfl)) ga_nil)))))) ga_nil)))))))))))), rd⟩
theorem ok_law_same (T : Txt P K mg)  : Cal P w K mg base 5 "_law_same" s_law_same ["found", "due"] sp_law_same := by
  have c0 := step_law_same (P := P) (w := w) (base := base) T  (cal_no (k := 1) T.f_law_same) (by decide) (rdn_law_same 0 spNo fun m h => by cases h)
  have c1 := step_law_same T  c0 (by decide) (rdn_law_same 1 (spn_law_same 0) fun m h => by cases h; rfl)
  have c2 := step_law_same T  c1 (by decide) (rdn_law_same 2 (spn_law_same 1) fun m h => by cases h; rfl)
  have c3 := step_law_same T  c2 (by decide) (rdn_law_same 3 (spn_law_same 2) fun m h => by cases h; rfl)
  exact c3

theorem ok_law_signs (T : Txt P K mg)  : Cal P w K mg base 1 "_law_signs" s_law_signs [] sp_law_signs :=
  calD T.f_law_signs sc_law_signs fun f cdv A outer s H E hr => ⟨d_law_signs, (gss_cons (gs_set (i := 0) sc_law_signs.nd rfl (Or.inl rfl) ge_str)
  (gss_one (gs_ret (ge_op op_addA rs_add (gv 0) ge_str)))), rd_law_signs⟩

theorem ok_law_code (T : Txt P K mg)  : Cal P w K mg base 1 "_law_code" s_law_code ["value"] sp_law_code :=
  calD T.f_law_code sc_law_code fun f cdv A outer s H E hr => ⟨d_law_code, (gss_cons (gs_if (GW.gt (gw_or (gt_cmp op_isA rs_isA (gv 0) ge_non (nomark _)) (gw_or (gt_cmp op_isA rs_isA (gv 0) ge_bl (nomark _)) (gw_or1 (gt_cmp op_isA rs_isA (gv 0) ge_bl (nomark _)))))) (gss_one (gs_ret (ge_if (gt_cmp op_isA rs_isA (gv 0) ge_non (nomark _)) ge_str (ge_ix ix_seq rs_ix (ge_lst (ga_cons ge_str (ga_cons ge_str ga_nil))) (ge_callTy call_intA cs_int rfl T.b_int (by decide +kernel) (ga_cons (gv 0) ga_nil)) (fun _ _ => rfl))))) gss_nil)
  (gss_cons (gs_set (i := 1) sc_law_code.nd rfl (Or.inl rfl) ge_str)
  (gss_cons (gs_if (gt_val (ge_callB call_isi cs_isi rfl T.b_isinstance (by decide +kernel) (ga_cons (gv 0) (ga_cons (ge_ty T.b_str (by decide +kernel)) ga_nil)))) (gss_one (gs_ret (ge_op op_addA rs_add (ge_op op_addA rs_add ge_str (ge_strM PySem.F.slot_str_join PySem.F.type_str_join mt_joinA ms_join ge_str (ga_cons (GN.ge (gn_lc [("sign", 3)] rfl sc_law_code.nd (gi_str (gv 0)) (blkOk_by (own := [("sign", 3)]) (N := n_law_code) (sc := defScope s_law_code) (by decide +kernel)) (by decide) (fun _ _ _ _ _ => (gg_name (i := 3) sc_law_code.nd rfl (Or.inl rfl))) (fun _ _ _ _ _ => gts_nil) (fun _ _ _ _ _ => (ge_dget2 (hu_of hr.toRoom) (ge_disp (gps_cons ge_str ge_str (gps_cons ge_str ge_str gps_nil))) (gv 3) (gv 3) ⟨rfl, rfl, rfl, rfl⟩)))) ga_nil))) ge_str))) gss_nil)
  (gss_cons (gs_if (gt_cmp (op_eqA hr.units) rs_eq (gv 0) ge_int (nomark _)) (gss_one (gs_ret ge_str)) gss_nil)
  (gss_cons (gs_set (i := 2) sc_law_code.nd rfl (Or.inl rfl) (ge_callTy call_str_int cs_str rfl T.b_str (by decide +kernel) (ga_cons (ge_callB call_abs cs_abs rfl T.b_abs (by decide +kernel) (ga_cons (gv 0) ga_nil)) ga_nil)))
  (gss_cons (gs_if (gt_cmp op_gtA rs_cmp (gv 0) ge_int (nomark _)) (gss_one (gs_ret (ge_op op_addA rs_add (ge_op op_addA rs_add ge_str (ge_ix ix_seq rs_ix (gv 1) (ge_op op_sub rs_J (ge_callB call_len cs_len rfl T.b_len (by decide +kernel) (ga_cons (gv 2) ga_nil)) ge_int) (fun _ _ => rfl))) (gv 2)))) gss_nil)
  (gss_one (gs_ret (ge_op op_addA rs_add (ge_op op_addA rs_add ge_str (ge_ix ix_seq rs_ix (gv 1) (ge_op op_sub rs_J ge_int (ge_callB call_len cs_len rfl T.b_len (by decide +kernel) (ga_cons (gv 2) ga_nil))) (fun _ _ => rfl))) (ge_strM PySem.F.slot_str_join PySem.F.type_str_join mt_joinA ms_join ge_str (ga_cons (GN.ge (gn_lc [("digit", 4)] rfl sc_law_code.nd (gi_str (gv 2)) (blkOk_by (own := [("digit", 4)]) (N := n_law_code) (sc := defScope s_law_code) (by decide +kernel)) (by decide) (fun _ _ _ _ _ => (gg_name (i := 4) sc_law_code.nd rfl (Or.inl rfl))) (fun _ _ _ _ _ => gts_nil) (fun _ _ _ _ _ => (ge_ix ix_seq rs_ix ge_str (ge_callTy call_intA cs_int rfl T.b_int (by decide +kernel) (ga_cons (gv 4) ga_nil)) (fun _ _ => rfl))))) ga_nil))))))))))), rd_law_code⟩

theorem ok_law_text (T : Txt P K mg) (C_law_drawn : Cal P w K mg base 1 "_law_drawn" s_law_drawn ["jar", "many"] sp_law_drawn) (C_law_signs : Cal P w K mg base 1 "_law_signs" s_law_signs [] sp_law_signs) : Cal P w K mg base 2 "_law_text" s_law_text ["jar"] sp_law_text :=
  calD T.f_law_text sc_law_text fun f cdv A outer s H E hr => ⟨d_law_text, (gss_cons (gs_asg (ge_tup (ga_cons (ge_c0 (takes_of rfl rfl rfl rfl) C_law_signs hr (by decide)) (ga_cons ge_str (ga_cons (ge_c (takes_of rfl rfl rfl rfl) C_law_drawn hr (by decide) (ga_cons (gv 0) (ga_cons ge_int ga_nil))) ga_nil)))) (gg_tup rfl (ggs_cons (gg_name (i := 1) sc_law_text.nd rfl (Or.inr rfl)) (ggs_cons (gg_name (i := 2) sc_law_text.nd rfl (Or.inr rfl)) (ggs_cons (gg_name (i := 3) sc_law_text.nd rfl (Or.inl rfl)) ggs_nil)))))
  (gss_cons (gs_if (gt_cmp (op_eqA hr.units) rs_eq (gv 3) ge_int (nomark _)) (gss_cons (gs_set (i := 4) sc_law_text.nd rfl (Or.inl rfl) (ge_op op_sub rs_J ge_int (ge_c (takes_of rfl rfl rfl rfl) C_law_drawn hr (by decide) (ga_cons (gv 0) (ga_cons ge_int ga_nil)))))
  (gss_cons (gs_par3 (i := 5) (j := 6) (l := 7) rfl sc_law_text.nd rfl rfl rfl (by decide) (by decide) (by decide) rfl rfl rfl (ga_cons (ge_ix ix_seq rs_ix (gv 1) (ge_c (takes_of rfl rfl rfl rfl) C_law_drawn hr (by decide) (ga_cons (gv 0) (ga_cons ge_int ga_nil))) (fun _ _ => rfl)) (ga_cons (ge_ix ix_seq rs_ix (gv 2) (ge_c (takes_of rfl rfl rfl rfl) C_law_drawn hr (by decide) (ga_cons (gv 0) (ga_cons ge_int ga_nil))) (fun _ _ => rfl)) (ga_cons (ge_c (takes_of rfl rfl rfl rfl) C_law_drawn hr (by decide) (ga_cons (gv 0) (ga_cons (gv 4) ga_nil))) ga_nil))) rfl)
  (gss_one (gs_ret (ge_op op_addA rs_add (ge_op op_addA rs_add (ge_op op_mulAll rs_mulA (gv 5) (gv 7)) (gv 6)) (ge_op op_mulAll rs_mulA (gv 5) (ge_op op_sub rs_J (ge_op op_sub rs_J (gv 4) (gv 7)) ge_int))))))) gss_nil)
  (gss_cons (gs_if (gt_cmp op_ltA rs_cmp (gv 3) ge_int (nomark _)) (gss_one (gs_ret (ge_strM PySem.F.slot_str_join PySem.F.type_str_join mt_joinA ms_join ge_str (ga_cons (GN.ge (gn_lc [("k", 8)] rfl sc_law_text.nd (gi_range1 rfl T.b_range (ga_cons (ge_c (takes_of rfl rfl rfl rfl) C_law_drawn hr (by decide) (ga_cons (gv 0) (ga_cons ge_int ga_nil))) ga_nil)) (blkOk_by (own := [("k", 8)]) (N := n_law_text) (sc := defScope s_law_text) (by decide +kernel)) (by decide) (fun _ _ _ _ _ => (gg_name (i := 8) sc_law_text.nd rfl (Or.inl rfl))) (fun _ _ _ _ _ => gts_nil) (fun _ _ _ _ _ => (ge_ix ix_seq rs_ix (gv 2) (ge_c takes0 C_law_drawn hr (by decide) (ga_cons (gv 0) (ga_cons ge_int ga_nil))) (fun _ _ => rfl))))) ga_nil)))) gss_nil)
  (gss_one (gs_ret (ge_strM PySem.F.slot_str_join PySem.F.type_str_join mt_joinA ms_join ge_str (ga_cons (GN.ge (gn_lc [("k", 8)] rfl sc_law_text.nd (gi_range1 rfl T.b_range (ga_cons (ge_c (takes_of rfl rfl rfl rfl) C_law_drawn hr (by decide) (ga_cons (gv 0) (ga_cons ge_int ga_nil))) ga_nil)) (blkOk_by (own := [("k", 8)]) (N := n_law_text) (sc := defScope s_law_text) (by decide +kernel)) (by decide) (fun _ _ _ _ _ => (gg_name (i := 8) sc_law_text.nd rfl (Or.inl rfl))) (fun _ _ _ _ _ => gts_nil) (fun _ _ _ _ _ => (ge_ix ix_seq rs_ix (gv 1) (ge_c takes0 C_law_drawn hr (by decide) (ga_cons (gv 0) (ga_cons ge_int ga_nil))) (fun _ _ => rfl))))) ga_nil))))))), rd_law_text⟩

theorem ok_law_number (T : Txt P K mg) (C_law_drawn : Cal P w K mg base 1 "_law_drawn" s_law_drawn ["jar", "many"] sp_law_drawn) : Cal P w K mg base 2 "_law_number" s_law_number ["jar"] sp_law_number :=
  calD T.f_law_number sc_law_number fun f cdv A outer s H E hr => ⟨d_law_number, (gss_cons (gs_par3 (i := 1) (j := 2) (l := 3) rfl sc_law_number.nd rfl rfl rfl (by decide) (by decide) (by decide) rfl rfl rfl (ga_cons (ge_c (takes_of rfl rfl rfl rfl) C_law_drawn hr (by decide) (ga_cons (gv 0) (ga_cons ge_int ga_nil))) (ga_cons (ge_op op_addA rs_add ge_int (ge_c (takes_of rfl rfl rfl rfl) C_law_drawn hr (by decide) (ga_cons (gv 0) (ga_cons ge_int ga_nil)))) (ga_cons (ge_c (takes_of rfl rfl rfl rfl) C_law_drawn hr (by decide) (ga_cons (gv 0) (ga_cons ge_int ga_nil))) ga_nil))) rfl)
  (gss_cons (gs_set (i := 4) sc_law_number.nd rfl (Or.inl rfl) ge_int)
  (gss_cons (gs_for (passes_of rfl) rfl (gi_range1 rfl T.b_range (ga_cons (ge_op op_sub rs_J (gv 2) ge_int) ga_nil)) (gg_name (i := 5) sc_law_number.nd rfl (Or.inl rfl))
  (gss_one (gs_set (i := 4) sc_law_number.nd rfl (Or.inl rfl) (ge_op op_mulAll rs_mulA (gv 4) ge_int))))
  (gss_cons (gs_if (gt_cmp op_ltA rs_cmp (gv 1) ge_int (nomark _)) (gss_one (gs_set (i := 6) sc_law_number.nd rfl (Or.inl rfl) (ge_c (takes_of rfl rfl rfl rfl) C_law_drawn hr (by decide) (ga_cons (gv 0) (ga_cons ge_int ga_nil))))) (gss_one (gs_if (gt_cmp op_ltA rs_cmp (gv 1) ge_int (nomark _)) (gss_one (gs_set (i := 6) sc_law_number.nd rfl (Or.inl rfl) (ge_ix ix_seq rs_ix (ge_lst (ga_cons (gv 4) (ga_cons (ge_op op_sub rs_J (ge_op op_mulAll rs_mulA (gv 4) ge_int) ge_int) ga_nil))) (ge_op op_mod rs_I (ge_callTy call_intA cs_int rfl T.b_int (by decide +kernel) (ga_cons (gv 1) ga_nil)) ge_int) (fun _ _ => rfl)))) (gss_cons (gs_set (i := 6) sc_law_number.nd rfl (Or.inl rfl) (ge_op op_addA rs_add ge_int (ge_c (takes_of rfl rfl rfl rfl) C_law_drawn hr (by decide) (ga_cons (gv 0) (ga_cons ge_int ga_nil)))))
  (gss_one (gs_for (passes_of rfl) rfl (gi_range1 rfl T.b_range (ga_cons (ge_op op_sub rs_J (gv 2) ge_int) ga_nil)) (gg_name (i := 5) sc_law_number.nd rfl (Or.inl rfl))
  (gss_one (gs_set (i := 6) sc_law_number.nd rfl (Or.inl rfl) (ge_op op_addA rs_add (ge_op op_mulAll rs_mulA (gv 6) ge_int) (ge_c (takes_of rfl rfl rfl rfl) C_law_drawn hr (by decide) (ga_cons (gv 0) (ga_cons ge_int ga_nil))))))))))))
  (gss_one (gs_ret (ge_if (gt_cmp (op_eqA hr.units) rs_eq (gv 3) ge_int (nomark _)) (gv 6) (ge_op op_sub rs_J ge_int (gv 6))))))))), rd_law_number⟩

theorem ok_law_value (T : Txt P K mg) (C_law_drawn : Cal P w K mg base 1 "_law_drawn" s_law_drawn ["jar", "many"] sp_law_drawn) (C_law_number : Cal P w K mg base 2 "_law_number" s_law_number ["jar"] sp_law_number) (C_law_text : Cal P w K mg base 2 "_law_text" s_law_text ["jar"] sp_law_text) : Cal P w K mg base 3 "_law_value" s_law_value ["jar"] sp_law_value :=
  calD T.f_law_value sc_law_value fun f cdv A outer s H E hr => ⟨d_law_value, (gss_cons (gs_set (i := 1) sc_law_value.nd rfl (Or.inl rfl) (ge_c (takes_of rfl rfl rfl rfl) C_law_drawn hr (by decide) (ga_cons (gv 0) (ga_cons ge_int ga_nil))))
  (gss_cons (gs_if (gt_cmp op_ltA rs_cmp (gv 1) ge_int (nomark _)) (gss_one (gs_ret (ge_ix ix_seq rs_ix (ge_lst (ga_cons ge_non (ga_cons ge_bl (ga_cons ge_bl ga_nil)))) (gv 1) (fun _ _ => rfl)))) gss_nil)
  (gss_one (gs_ret (ge_if (gt_cmp op_ltA rs_cmp (gv 1) ge_int (nomark _)) (ge_c (takes_of rfl rfl rfl rfl) C_law_number hr (by decide) (ga_cons (gv 0) ga_nil)) (ge_c (takes_of rfl rfl rfl rfl) C_law_text hr (by decide) (ga_cons (gv 0) ga_nil))))))), rd_law_value⟩

theorem ok_law_text_at (T : Txt P K mg)  : Cal P w K mg base 1 "_law_text_at" s_law_text_at ["code", "at"] sp_law_text_at :=
  calD T.f_law_text_at sc_law_text_at fun f cdv A outer s H E hr => ⟨d_law_text_at, (gss_cons (gs_set (i := 2) sc_law_text_at.nd rfl (Or.inl rfl) ge_str)
  (gss_cons (gs_for (passes_of rfl) rfl (gi_range1 rfl T.b_range (ga_cons ge_int ga_nil)) (gg_name (i := 3) sc_law_text_at.nd rfl (Or.inl rfl))
  (gss_cons (gs_if (gt_cmp (op_eqA hr.units) rs_eq (gv 1) (ge_callB call_len cs_len rfl T.b_len (by decide +kernel) (ga_cons (gv 0) ga_nil)) (nomark _)) (gss_one (gs_ret (ge_tup (ga_cons ge_bl (ga_cons ge_non (ga_cons (gv 1) ga_nil)))))) gss_nil)
  (gss_cons (gs_set (i := 4) sc_law_text_at.nd rfl (Or.inl rfl) (ge_ix ix_seq rs_ix (gv 0) (gv 1) (fun _ _ => rfl)))
  (gss_cons (gs_if (gt_cmp (op_eqA hr.units) rs_eq (gv 4) ge_str (nomark _)) (gss_one (gs_ret (ge_tup (ga_cons ge_bl (ga_cons (gv 2) (ga_cons (ge_op op_addA rs_add (gv 1) ge_int) ga_nil)))))) gss_nil)
  (gss_cons (gs_if (gt_cmp (op_eqA hr.units) rs_eq (ge_callB call_len cs_len rfl T.b_len (by decide +kernel) (ga_cons (gv 2) ga_nil)) ge_int (nomark _)) (gss_one (gs_ret (ge_tup (ga_cons ge_bl (ga_cons ge_non (ga_cons (gv 1) ga_nil)))))) gss_nil)
  (gss_cons (gs_if (gt_cmp (op_eqA hr.units) rs_eq (gv 4) ge_str (nomark _)) (gss_cons (gs_set (i := 1) sc_law_text_at.nd rfl (Or.inl rfl) (ge_op op_addA rs_add (gv 1) ge_int))
  (gss_cons (gs_if (GW.gt (gw_or (gt_cmp (op_eqA hr.units) rs_eq (gv 1) (ge_callB call_len cs_len rfl T.b_len (by decide +kernel) (ga_cons (gv 0) ga_nil)) (nomark _)) (gw_or1 (gt_cmp op_niA rs_in (ge_ix ix_seq rs_ix (gv 0) (gv 1) (fun _ _ => rfl)) ge_str rfl)))) (gss_one (gs_ret (ge_tup (ga_cons ge_bl (ga_cons ge_non (ga_cons (gv 1) ga_nil)))))) gss_nil)
  (gss_one (gs_set (i := 4) sc_law_text_at.nd rfl (Or.inl rfl) (ge_ix ix_seq rs_ix (ge_lst (ga_cons ge_str (ga_cons ge_str ga_nil))) (ge_callTy call_intA cs_int rfl T.b_int (by decide +kernel) (ga_cons (ge_cmp (op_eqA hr.units) rs_eq (ge_ix ix_seq rs_ix (gv 0) (gv 1) (fun _ _ => rfl)) ge_str (nomark _)) ga_nil)) (fun _ _ => rfl)))))) gss_nil)
  (gss_cons (gs_set (i := 2) sc_law_text_at.nd rfl (Or.inl rfl) (ge_op op_addA rs_add (gv 2) (gv 4)))
  (gss_one (gs_set (i := 1) sc_law_text_at.nd rfl (Or.inl rfl) (ge_op op_addA rs_add (gv 1) ge_int))))))))))
  (gss_one (gs_ret (ge_tup (ga_cons ge_bl (ga_cons ge_non (ga_cons (gv 1) ga_nil)))))))), rd_law_text_at⟩

theorem ok_law_number_at (T : Txt P K mg)  : Cal P w K mg base 1 "_law_number_at" s_law_number_at ["code", "at", "below"] sp_law_number_at :=
  calD T.f_law_number_at sc_law_number_at fun f cdv A outer s H E hr => ⟨d_law_number_at, (gss_cons (gs_set (i := 3) sc_law_number_at.nd rfl (Or.inl rfl) ge_str)
  (gss_cons (gs_if (GW.gt (gw_or (gt_cmp (op_eqA hr.units) rs_eq (gv 1) (ge_callB call_len cs_len rfl T.b_len (by decide +kernel) (ga_cons (gv 0) ga_nil)) (nomark _)) (gw_or1 (gt_cmp op_niA rs_in (ge_ix ix_seq rs_ix (gv 0) (gv 1) (fun _ _ => rfl)) (gv 3) rfl)))) (gss_one (gs_ret (ge_tup (ga_cons ge_bl (ga_cons ge_non (ga_cons (gv 1) ga_nil)))))) gss_nil)
  (gss_cons (gs_set (i := 4) sc_law_number_at.nd rfl (Or.inl rfl) (ge_op op_addA rs_add (ge_strM PySem.F.slot_str_find PySem.F.type_str_find mt_find ms_1 (gv 3) (ga_cons (ge_ix ix_seq rs_ix (gv 0) (gv 1) (fun _ _ => rfl)) ga_nil)) ge_int))
  (gss_cons (gs_if (gt_val (gv 2)) (gss_one (gs_set (i := 4) sc_law_number_at.nd rfl (Or.inl rfl) (ge_op op_sub rs_J ge_int (gv 4)))) gss_nil)
  (gss_cons (gs_if (gt_cmp op_gtA rs_cmp (gv 4) ge_int (nomark _)) (gss_one (gs_ret (ge_tup (ga_cons ge_bl (ga_cons ge_non (ga_cons (gv 1) ga_nil)))))) gss_nil)
  (gss_cons (gs_set (i := 5) sc_law_number_at.nd rfl (Or.inl rfl) ge_int)
  (gss_cons (gs_for (passes_of rfl) rfl (gi_range1 rfl T.b_range (ga_cons (gv 4) ga_nil)) (gg_name (i := 6) sc_law_number_at.nd rfl (Or.inl rfl))
  (gss_cons (gs_set (i := 1) sc_law_number_at.nd rfl (Or.inl rfl) (ge_op op_addA rs_add (gv 1) ge_int))
  (gss_cons (gs_if (GW.gt (gw_or (gt_cmp (op_eqA hr.units) rs_eq (gv 1) (ge_callB call_len cs_len rfl T.b_len (by decide +kernel) (ga_cons (gv 0) ga_nil)) (nomark _)) (gw_or (gt_cmp op_niA rs_in (ge_ix ix_seq rs_ix (gv 0) (gv 1) (fun _ _ => rfl)) ge_str rfl) (gw_or1 (GW.gt (gw_and (gt_cmp (op_eqA hr.units) rs_eq (gv 6) ge_int (nomark _)) (gw_and1 (gt_cmp (op_eqA hr.units) rs_eq (ge_ix ix_seq rs_ix (gv 0) (gv 1) (fun _ _ => rfl)) (ge_ix ix_seq rs_ix (ge_lst (ga_cons ge_str (ga_cons ge_str ga_nil))) (ge_callTy call_intA cs_int rfl T.b_int (by decide +kernel) (ga_cons (gv 2) ga_nil)) (fun _ _ => rfl)) (nomark _))))))))) (gss_one (gs_ret (ge_tup (ga_cons ge_bl (ga_cons ge_non (ga_cons (gv 1) ga_nil)))))) gss_nil)
  (gss_one (gs_set (i := 5) sc_law_number_at.nd rfl (Or.inl rfl) (ge_op op_addA rs_add (ge_op op_mulAll rs_mulA (gv 5) ge_int) (ge_if (gt_val (gv 2)) (ge_op op_sub rs_J ge_int (ge_callTy call_intA cs_int rfl T.b_int (by decide +kernel) (ga_cons (ge_ix ix_seq rs_ix (gv 0) (gv 1) (fun _ _ => rfl)) ga_nil))) (ge_callTy call_intA cs_int rfl T.b_int (by decide +kernel) (ga_cons (ge_ix ix_seq rs_ix (gv 0) (gv 1) (fun _ _ => rfl)) ga_nil)))))))))
  (gss_one (gs_ret (ge_tup (ga_cons ge_bl (ga_cons (ge_if (gt_val (gv 2)) (ge_op op_sub rs_J ge_int (gv 5)) (gv 5)) (ga_cons (ge_op op_addA rs_add (gv 1) ge_int) ga_nil))))))))))))), rd_law_number_at⟩

theorem ok_law_read (T : Txt P K mg) (C_law_text_at : Cal P w K mg base 1 "_law_text_at" s_law_text_at ["code", "at"] sp_law_text_at) (C_law_number_at : Cal P w K mg base 1 "_law_number_at" s_law_number_at ["code", "at", "below"] sp_law_number_at) : Cal P w K mg base 2 "_law_read" s_law_read ["code"] sp_law_read :=
  calD T.f_law_read sc_law_read fun f cdv A outer s H E hr => ⟨d_law_read, (gss_cons (gs_asg (ge_tup (ga_cons (ge_tup ga_nil) (ga_cons ge_int ga_nil))) (gg_tup rfl (ggs_cons (gg_name (i := 1) sc_law_read.nd rfl (Or.inl rfl)) (ggs_cons (gg_name (i := 2) sc_law_read.nd rfl (Or.inl rfl)) ggs_nil))))
  (gss_cons (gs_while (passes_of rfl) (gt_cmp op_ltA rs_cmp (gv 2) (ge_callB call_len cs_len rfl T.b_len (by decide +kernel) (ga_cons (gv 0) ga_nil)) (nomark _))
  (gss_cons (gs_set (i := 3) sc_law_read.nd rfl (Or.inl rfl) (ge_ix ix_seq rs_ix (gv 0) (gv 2) (fun _ _ => rfl)))
  (gss_cons (gs_if (gt_cmp op_inA rs_in (gv 3) ge_str rfl) (gss_cons (gs_set (i := 1) sc_law_read.nd rfl (Or.inl rfl) (ge_op op_addA rs_add (gv 1) (ge_tup (ga_cons (ge_ix ix_seq rs_ix (ge_lst (ga_cons ge_non (ga_cons ge_bl (ga_cons ge_bl (ga_cons ge_int ga_nil))))) (ge_strM PySem.F.slot_str_find PySem.F.type_str_find mt_find ms_1 ge_str (ga_cons (gv 3) ga_nil)) (fun _ _ => rfl)) ga_nil))))
  (gss_cons (gs_set (i := 2) sc_law_read.nd rfl (Or.inl rfl) (ge_op op_addA rs_add (gv 2) ge_int))
  (gss_one gs_cont))) gss_nil)
  (gss_cons (gs_if (gt_cmp op_niA rs_in (gv 3) ge_str rfl) (gss_one (gs_ret (ge_tup (ga_cons (gv 2) (ga_cons ge_non ga_nil))))) gss_nil)
  (gss_cons (gs_asg (ge_if (gt_cmp (op_eqA hr.units) rs_eq (gv 3) ge_str (nomark _)) (ge_c (takes_of rfl rfl rfl rfl) C_law_text_at hr (by decide) (ga_cons (gv 0) (ga_cons (ge_op op_addA rs_add (gv 2) ge_int) ga_nil))) (ge_c (takes_of rfl rfl rfl rfl) C_law_number_at hr (by decide) (ga_cons (gv 0) (ga_cons (ge_op op_addA rs_add (gv 2) ge_int) (ga_cons (ge_cmp (op_eqA hr.units) rs_eq (gv 3) ge_str (nomark _)) ga_nil))))) (gg_tup rfl (ggs_cons (gg_name (i := 4) sc_law_read.nd rfl (Or.inl rfl)) (ggs_cons (gg_name (i := 5) sc_law_read.nd rfl (Or.inl rfl)) (ggs_cons (gg_name (i := 2) sc_law_read.nd rfl (Or.inl rfl)) ggs_nil)))))
  (gss_cons (gs_if (gt_not (gt_val (gv 4))) (gss_one (gs_ret (ge_tup (ga_cons (gv 2) (ga_cons ge_non ga_nil))))) gss_nil)
  (gss_one (gs_set (i := 1) sc_law_read.nd rfl (Or.inl rfl) (ge_op op_addA rs_add (gv 1) (ge_tup (ga_cons (gv 5) ga_nil)))))))))))
  (gss_one (gs_ret (ge_tup (ga_cons ge_non (ga_cons (gv 1) ga_nil))))))), rd_law_read⟩

theorem ok_law_told (T : Txt P K mg) (C_values_told : Cal P w K mg base 5 "values_told" s_values_told ["code"] sp_values_told) : Cal P w K mg base 6 "_law_told" s_law_told ["code"] sp_law_told :=
  calD T.f_law_told sc_law_told fun f cdv A outer s H E hr => ⟨d_law_told, (gss_cons (gs_set (i := 1) sc_law_told.nd rfl (Or.inl rfl) ge_str)
  (gss_cons (gs_try rfl rfl (takes_of rfl rfl rfl rfl) (fun _ _ _ tk hp => (gss_one (gs_set (i := 1) sc_law_told.nd rfl (Or.inl rfl) (ge_tup (ga_cons ge_non (ga_cons (ge_c tk C_values_told hr (by decide) (ga_cons (gv 0) ga_nil)) ga_nil)))))) (.named ⟨rfl, by decide, .inl T.xf_InvalidCode.mg⟩ sc_law_told.nd rfl rfl (al1 T.m_InvalidCode_InvalidCode al0) (al1 T.m_InvalidText_InvalidCode (al1 T.m_InvalidRow_InvalidCode (al1 T.m_InvalidValue_InvalidCode al0))) (fun _ _ => (gss_one (gs_set (i := 1) sc_law_told.nd rfl (Or.inl rfl) (ge_tup (ga_cons (ge_xf (alx1 T.xa_InvalidCode_index alx0) (gv 2)) (ga_cons ge_non ga_nil)))))) (.bare ⟨rfl, by decide, .inl T.x_InvalidText.mg⟩ (al1 T.m_InvalidText_InvalidText al0) (al1 T.m_InvalidRow_InvalidText (al1 T.m_InvalidValue_InvalidText (al1 T.m_InvalidCode_InvalidText al0))) (fun _ _ => (gss_one (gs_set (i := 1) sc_law_told.nd rfl (Or.inl rfl) ge_str))) (.bare ⟨rfl, by decide, .inl T.x_StoreError.mg⟩ (al1 T.m_InvalidText_StoreError (al1 T.m_InvalidRow_StoreError (al1 T.m_InvalidValue_StoreError (al1 T.m_InvalidCode_StoreError al0)))) al0 (fun _ _ => (gss_one (gs_set (i := 1) sc_law_told.nd rfl (Or.inl rfl) ge_str))) .nil))))
  (gss_one (gs_ret (gv 1))))), rd_law_told⟩

theorem ok_law_refused (T : Txt P K mg) (C_row_code : Cal P w K mg base 3 "row_code" s_row_code ["values"] sp_row_code) : Cal P w K mg base 4 "_law_refused" s_law_refused ["values"] sp_law_refused :=
  calD T.f_law_refused sc_law_refused fun f cdv A outer s H E hr => ⟨d_law_refused, (gss_cons (gs_set (i := 1) sc_law_refused.nd rfl (Or.inl rfl) ge_str)
  (gss_cons (gs_try rfl rfl (takes_of rfl rfl rfl rfl) (fun _ _ _ tk hp => (gss_one (gs_expr (ge_c tk C_row_code hr (by decide) (ga_cons (gv 0) ga_nil))))) (.bare ⟨rfl, by decide, .inl T.x_InvalidRow.mg⟩ (al1 T.m_InvalidRow_InvalidRow al0) (al1 T.m_InvalidText_InvalidRow (al1 T.m_InvalidValue_InvalidRow (al1 T.m_InvalidCode_InvalidRow al0))) (fun _ _ => (gss_one (gs_set (i := 1) sc_law_refused.nd rfl (Or.inl rfl) ge_str))) (.bare ⟨rfl, by decide, .inl T.x_StoreError.mg⟩ (al1 T.m_InvalidText_StoreError (al1 T.m_InvalidRow_StoreError (al1 T.m_InvalidValue_StoreError (al1 T.m_InvalidCode_StoreError al0)))) al0 (fun _ _ => (gss_one (gs_set (i := 1) sc_law_refused.nd rfl (Or.inl rfl) ge_str))) .nil)))
  (gss_one (gs_ret (gv 1))))), rd_law_refused⟩

theorem ok_law_spoilt (T : Txt P K mg) (C_law_drawn : Cal P w K mg base 1 "_law_drawn" s_law_drawn ["jar", "many"] sp_law_drawn) : Cal P w K mg base 2 "_law_spoilt" s_law_spoilt ["jar", "code"] sp_law_spoilt :=
  calD T.f_law_spoilt sc_law_spoilt fun f cdv A outer s H E hr => ⟨d_law_spoilt, (gss_cons (gs_for (passes_of rfl) rfl (gi_range1 rfl T.b_range (ga_cons (ge_op op_addA rs_add ge_int (ge_c (takes_of rfl rfl rfl rfl) C_law_drawn hr (by decide) (ga_cons (gv 0) (ga_cons ge_int ga_nil)))) ga_nil)) (gg_name (i := 2) sc_law_spoilt.nd rfl (Or.inl rfl))
  (gss_cons (gs_par3 (i := 3) (j := 4) (l := 5) rfl sc_law_spoilt.nd rfl rfl rfl (by decide) (by decide) (by decide) rfl rfl rfl (ga_cons (ge_c (takes_of rfl rfl rfl rfl) C_law_drawn hr (by decide) (ga_cons (gv 0) (ga_cons ge_int ga_nil))) (ga_cons (ge_c (takes_of rfl rfl rfl rfl) C_law_drawn hr (by decide) (ga_cons (gv 0) (ga_cons (ge_op op_addA rs_add (ge_callB call_len cs_len rfl T.b_len (by decide +kernel) (ga_cons (gv 1) ga_nil)) ge_int) ga_nil))) (ga_cons (ge_ix ix_seq rs_ix ge_str (ge_c (takes_of rfl rfl rfl rfl) C_law_drawn hr (by decide) (ga_cons (gv 0) (ga_cons ge_int ga_nil))) (fun _ _ => rfl)) ga_nil))) rfl)
  (gss_one (gs_if (gt_cmp (op_eqA hr.units) rs_eq (gv 3) ge_int (nomark _)) (gss_one (gs_set (i := 1) sc_law_spoilt.nd rfl (Or.inl rfl) (ge_sl sl_any ss_cut (gv 1) go_none (go_some (gv 4))))) (gss_one (gs_if (gt_cmp op_ltA rs_cmp (gv 3) ge_int (nomark _)) (gss_one (gs_set (i := 1) sc_law_spoilt.nd rfl (Or.inl rfl) (ge_op op_addA rs_add (ge_op op_addA rs_add (ge_sl sl_any ss_cut (gv 1) go_none (go_some (gv 4))) (gv 5)) (ge_sl sl_any ss_cut (gv 1) (go_some (gv 4)) go_none)))) (gss_one (gs_if (gt_cmp (op_eqA hr.units) rs_eq (gv 3) ge_int (nomark _)) (gss_one (gs_set (i := 1) sc_law_spoilt.nd rfl (Or.inl rfl) (ge_op op_addA rs_add (ge_sl sl_any ss_cut (gv 1) go_none (go_some (gv 4))) (ge_sl sl_any ss_cut (gv 1) (go_some (ge_op op_addA rs_add (gv 4) ge_int)) go_none)))) (gss_one (gs_set (i := 1) sc_law_spoilt.nd rfl (Or.inl rfl) (ge_op op_addA rs_add (ge_op op_addA rs_add (ge_sl sl_any ss_cut (gv 1) go_none (go_some (gv 4))) (gv 5)) (ge_sl sl_any ss_cut (gv 1) (go_some (ge_op op_addA rs_add (gv 4) ge_int)) go_none))))))))))))
  (gss_one (gs_ret (gv 1)))), rd_law_spoilt⟩

theorem ok_law_edges (T : Txt P K mg)  : Cal P w K mg base 1 "_law_edges" s_law_edges [] sp_law_edges :=
  calD T.f_law_edges sc_law_edges fun f cdv A outer s H E hr => ⟨d_law_edges, (gss_cons (gs_set (i := 0) sc_law_edges.nd rfl (Or.inl rfl) (ge_op op_addA rs_add ge_str (ge_op op_mulAll rs_mulA ge_str ge_int)))
  (gss_cons (gs_set (i := 1) sc_law_edges.nd rfl (Or.inl rfl) (ge_lst (ga_cons ge_str (ga_cons ge_str (ga_cons ge_str (ga_cons ge_str (ga_cons ge_str (ga_cons ge_str (ga_cons ge_str (ga_cons ge_str (ga_cons (gv 0) (ga_cons (ge_op op_addA rs_add (gv 0) ge_str) (ga_cons (ge_op op_addA rs_add (gv 0) ge_str) (ga_cons (ge_op op_addA rs_add (gv 0) ge_str) (ga_cons (ge_op op_addA rs_add (gv 0) ge_str) ga_nil)))))))))))))))
  (gss_cons (gs_set (i := 1) sc_law_edges.nd rfl (Or.inl rfl) (ge_op op_addA rs_add (gv 1) (ge_lst (ga_cons (ge_op op_addA rs_add (ge_op op_addA rs_add ge_str (ge_op op_mulAll rs_mulA ge_str ge_int)) ge_str) (ga_cons (ge_op op_addA rs_add (ge_op op_addA rs_add ge_str (ge_op op_mulAll rs_mulA ge_str ge_int)) ge_str) (ga_cons (ge_op op_addA rs_add (ge_op op_addA rs_add ge_str (ge_op op_mulAll rs_mulA ge_str ge_int)) ge_str) (ga_cons (ge_op op_addA rs_add (ge_op op_addA rs_add ge_str (ge_op op_mulAll rs_mulA ge_str ge_int)) ge_str) (ga_cons ge_str (ga_cons ge_str (ga_cons ge_str ga_nil))))))))))
  (gss_cons (gs_set (i := 1) sc_law_edges.nd rfl (Or.inl rfl) (ge_op op_addA rs_add (gv 1) (ge_lst (ga_cons ge_str (ga_cons ge_str (ga_cons ge_str (ga_cons ge_str (ga_cons ge_str (ga_cons ge_str (ga_cons (ge_op op_addA rs_add (ge_op op_addA rs_add ge_str ge_str) (ge_op op_mulAll rs_mulA ge_str ge_int)) (ga_cons (ge_op op_addA rs_add ge_str (ge_op op_mulAll rs_mulA ge_str ge_int)) (ga_cons ge_str (ga_cons ge_str (ga_cons ge_str (ga_cons ge_str (ga_cons ge_str (ga_cons ge_str ga_nil)))))))))))))))))
  (gss_cons (gs_set (i := 1) sc_law_edges.nd rfl (Or.inl rfl) (ge_op op_addA rs_add (gv 1) (ge_lst (ga_cons (ge_op op_addA rs_add ge_str (ge_op op_mulAll rs_mulA ge_str ge_int)) (ga_cons (ge_op op_addA rs_add (ge_op op_addA rs_add ge_str ge_str) (ge_op op_mulAll rs_mulA ge_str ge_int)) (ga_cons (ge_op op_addA rs_add ge_str (ge_op op_mulAll rs_mulA ge_str ge_int)) (ga_cons ge_str (ga_cons ge_str (ga_cons ge_str (ga_cons ge_str (ga_cons ge_str (ga_cons ge_str (ga_cons ge_str (ga_cons ge_str (ga_cons ge_str ga_nil)))))))))))))))
  (gss_one (gs_ret (gv 1)))))))), rd_law_edges⟩

theorem ok_law_value_refused (T : Txt P K mg) (C_value_code : Cal P w K mg base 3 "value_code" s_value_code ["value"] sp_value_code) : Cal P w K mg base 4 "_law_value_refused" s_law_value_refused ["value"] sp_law_value_refused :=
  calD T.f_law_value_refused sc_law_value_refused fun f cdv A outer s H E hr => ⟨d_law_value_refused, (gss_cons (gs_set (i := 1) sc_law_value_refused.nd rfl (Or.inl rfl) ge_non)
  (gss_cons (gs_try rfl rfl (takes_of rfl rfl rfl rfl) (fun _ _ _ tk hp => (gss_one (gs_expr (ge_c tk C_value_code hr (by decide) (ga_cons (gv 0) ga_nil))))) (.named ⟨rfl, by decide, .inl T.x_StoreError.mg⟩ sc_law_value_refused.nd rfl rfl (al1 T.m_InvalidText_StoreError (al1 T.m_InvalidRow_StoreError (al1 T.m_InvalidValue_StoreError (al1 T.m_InvalidCode_StoreError al0)))) al0 (fun _ _ => (gss_one (gs_set (i := 1) sc_law_value_refused.nd rfl (Or.inl rfl) (gv 2)))) .nil))
  (gss_one (gs_ret (ge_and (ge_isE (l := [(.ref a_InvalidText, false), (.ref a_InvalidRow, false), (.ref a_InvalidValue, true), (.ref a_InvalidCode, false)]) (al1q T.i_InvalidText_InvalidValue (al1q T.i_InvalidRow_InvalidValue (al1q T.i_InvalidValue_InvalidValue (al1q T.i_InvalidCode_InvalidValue al0q)))) T.x_InvalidValue.mg T.b_isinstance (gv 1)) (ge_one (ge_not (ge_isE (l := [(.ref a_InvalidText, false), (.ref a_InvalidRow, true), (.ref a_InvalidValue, false), (.ref a_InvalidCode, false)]) (al1q T.i_InvalidText_InvalidRow (al1q T.i_InvalidRow_InvalidRow (al1q T.i_InvalidValue_InvalidRow (al1q T.i_InvalidCode_InvalidRow al0q)))) T.x_InvalidRow.mg T.b_isinstance (gv 1))))))))), rd_law_value_refused⟩

theorem ok_law (T : Txt P K mg) (C_law_edges : Cal P w K mg base 1 "_law_edges" s_law_edges [] sp_law_edges) (C_law_same : Cal P w K mg base 5 "_law_same" s_law_same ["found", "due"] sp_law_same) (C_law_read : Cal P w K mg base 2 "_law_read" s_law_read ["code"] sp_law_read) (C_law_told : Cal P w K mg base 6 "_law_told" s_law_told ["code"] sp_law_told) (C_law_refused : Cal P w K mg base 4 "_law_refused" s_law_refused ["values"] sp_law_refused) (C_law_jar : Cal P w K mg base 1 "_law_jar" s_law_jar ["cell"] sp_law_jar) (C_law_drawn : Cal P w K mg base 1 "_law_drawn" s_law_drawn ["jar", "many"] sp_law_drawn) (C_law_value : Cal P w K mg base 3 "_law_value" s_law_value ["jar"] sp_law_value) (C_law_code : Cal P w K mg base 1 "_law_code" s_law_code ["value"] sp_law_code) (C_row_code : Cal P w K mg base 3 "row_code" s_row_code ["values"] sp_row_code) (C_values_told : Cal P w K mg base 5 "values_told" s_values_told ["code"] sp_values_told) (C_value_code : Cal P w K mg base 3 "value_code" s_value_code ["value"] sp_value_code) (C_law_spoilt : Cal P w K mg base 2 "_law_spoilt" s_law_spoilt ["jar", "code"] sp_law_spoilt) (C_law_value_refused : Cal P w K mg base 4 "_law_value_refused" s_law_value_refused ["value"] sp_law_value_refused) : Cal P w K mg base 7 "law" s_law ["script"] sp_law :=
  calD T.f_law sc_law fun f cdv A outer s H E hr => ⟨d_law, (gss_cons (gs_for (passes_of rfl) rfl (gi_list (ge_c0 (takes_of rfl rfl rfl rfl) C_law_edges hr (by decide))) (gg_name (i := 1) sc_law.nd rfl (Or.inl rfl))
  (gss_one (gs_if (gt_not (gt_val (ge_c (takes_of rfl rfl rfl rfl) C_law_same hr (by decide) (ga_cons (ge_c (takes_of rfl rfl rfl rfl) C_law_told hr (by decide) (ga_cons (gv 1) ga_nil)) (ga_cons (ge_c (takes_of rfl rfl rfl rfl) C_law_read hr (by decide) (ga_cons (gv 1) ga_nil)) ga_nil))))) (gss_one (gs_ret ge_bl)) gss_nil)))
  (gss_cons (gs_for (passes_of rfl) rfl (gi_list (ge_lst (ga_cons ge_non (ga_cons ge_int (ga_cons (ge_tup (ga_cons ge_str ga_nil)) (ga_cons (ge_lst (ga_cons ge_str ga_nil)) (ga_cons ge_bl (ga_cons ge_str (ga_cons ge_str (ga_cons (ge_tup ga_nil) ga_nil)))))))))) (gg_name (i := 2) sc_law.nd rfl (Or.inl rfl))
  (gss_one (gs_if (GW.gt (gw_or (gt_cmp (op_neA hr.units) rs_ne (ge_c (takes_of rfl rfl rfl rfl) C_law_told hr (by decide) (ga_cons (gv 2) ga_nil)) ge_str (nomark _)) (gw_or1 (gt_cmp (op_neA hr.units) rs_ne (ge_c (takes_of rfl rfl rfl rfl) C_law_refused hr (by decide) (ga_cons (ge_lst (ga_cons (gv 2) ga_nil)) ga_nil)) ge_str (nomark _))))) (gss_one (gs_ret ge_bl)) gss_nil)))
  (gss_cons (gs_for (passes_of rfl) rfl (gi_list (ge_op op_addA rs_add (ge_lst (ga_cons ge_int ga_nil)) (ge_sl sl_any ss_cut (gv 0) go_none (go_some ge_int)))) (gg_name (i := 3) sc_law.nd rfl (Or.inl rfl))
  (gss_cons (gs_set (i := 4) sc_law.nd rfl (Or.inr rfl) (ge_c (takes_of rfl rfl rfl rfl) C_law_jar hr (by decide) (ga_cons (gv 3) ga_nil)))
  (gss_cons (gs_set (i := 5) sc_law.nd rfl (Or.inl rfl) (ge_callTy call_tuple_of cs_tup rfl T.b_tuple (by decide +kernel) (ga_cons (GN.ge (gn_lc [("k", 12)] rfl sc_law.nd (gi_range1 rfl T.b_range (ga_cons (ge_c (takes_of rfl rfl rfl rfl) C_law_drawn hr (by decide) (ga_cons (gv 4) (ga_cons ge_int ga_nil))) ga_nil)) (blkOk_by (own := [("k", 12)]) (N := n_law) (sc := defScope s_law) (by decide +kernel)) (by decide) (fun _ _ _ _ _ => (gg_name (i := 12) sc_law.nd rfl (Or.inl rfl))) (fun _ _ _ _ _ => gts_nil) (fun _ _ _ _ _ => (ge_c takes0 C_law_value hr (by decide) (ga_cons (gv 4) ga_nil))))) ga_nil)))
  (gss_cons (gs_set (i := 1) sc_law.nd rfl (Or.inl rfl) (ge_strM PySem.F.slot_str_join PySem.F.type_str_join mt_joinA ms_join ge_str (ga_cons (GN.ge (gn_lc [("value", 2)] rfl sc_law.nd (gi_tup (gv 5)) (blkOk_by (own := [("value", 2)]) (N := n_law) (sc := defScope s_law) (by decide +kernel)) (by decide) (fun _ _ _ _ _ => (gg_name (i := 2) sc_law.nd rfl (Or.inl rfl))) (fun _ _ _ _ _ => gts_nil) (fun _ _ _ _ _ => (ge_c takes0 C_law_code hr (by decide) (ga_cons (gv 2) ga_nil))))) ga_nil)))
  (gss_cons (gs_if (gt_not (gt_val (ge_c (takes_of rfl rfl rfl rfl) C_law_same hr (by decide) (ga_cons (ge_lst (ga_cons (ge_c (takes_of rfl rfl rfl rfl) C_row_code hr (by decide) (ga_cons (gv 5) ga_nil)) (ga_cons (ge_ckx (ks := ["values"]) (takes_of rfl rfl rfl rfl) [0] C_row_code hr (by decide) (fun _ _ _ _ _ _ ws hl => match ws, hl with | [_], _ => rfl) (gk_cons (gv 5) gk_nil)) ga_nil))) (ga_cons (ge_lst (ga_cons (gv 1) (ga_cons (gv 1) ga_nil))) ga_nil))))) (gss_one (gs_ret ge_bl)) gss_nil)
  (gss_cons (gs_if (gt_not (gt_val (ge_c (takes_of rfl rfl rfl rfl) C_law_same hr (by decide) (ga_cons (ge_lst (ga_cons (ge_c (takes_of rfl rfl rfl rfl) C_values_told hr (by decide) (ga_cons (gv 1) ga_nil)) (ga_cons (ge_ckx (ks := ["code"]) (takes_of rfl rfl rfl rfl) [0] C_values_told hr (by decide) (fun _ _ _ _ _ _ ws hl => match ws, hl with | [_], _ => rfl) (gk_cons (ge_c (takes_of rfl rfl rfl rfl) C_row_code hr (by decide) (ga_cons (gv 5) ga_nil)) gk_nil)) ga_nil))) (ga_cons (ge_lst (ga_cons (gv 5) (ga_cons (gv 5) ga_nil))) ga_nil))))) (gss_one (gs_ret ge_bl)) gss_nil)
  (gss_cons (gs_if (gt_cmp (op_neA hr.units) rs_ne (gv 1) (ge_strM PySem.F.slot_str_join PySem.F.type_str_join mt_joinA ms_join ge_str (ga_cons (GN.ge (gn_lc [("value", 2)] rfl sc_law.nd (gi_tup (gv 5)) (blkOk_by (own := [("value", 2)]) (N := n_law) (sc := defScope s_law) (by decide +kernel)) (by decide) (fun _ _ _ _ _ => (gg_name (i := 2) sc_law.nd rfl (Or.inl rfl))) (fun _ _ _ _ _ => gts_nil) (fun _ _ _ _ _ => (ge_c takes0 C_value_code hr (by decide) (ga_cons (gv 2) ga_nil))))) ga_nil)) (nomark _)) (gss_one (gs_ret ge_bl)) gss_nil)
  (gss_cons (gs_for (passes_of rfl) rfl (gi_range1 rfl T.b_range (ga_cons ge_int ga_nil)) (gg_name (i := 6) sc_law.nd rfl (Or.inl rfl))
  (gss_cons (gs_set (i := 7) sc_law.nd rfl (Or.inl rfl) (ge_c (takes_of rfl rfl rfl rfl) C_law_spoilt hr (by decide) (ga_cons (gv 4) (ga_cons (gv 1) ga_nil))))
  (gss_one (gs_if (gt_not (gt_val (ge_c (takes_of rfl rfl rfl rfl) C_law_same hr (by decide) (ga_cons (ge_c (takes_of rfl rfl rfl rfl) C_law_told hr (by decide) (ga_cons (gv 7) ga_nil)) (ga_cons (ge_c (takes_of rfl rfl rfl rfl) C_law_read hr (by decide) (ga_cons (gv 7) ga_nil)) ga_nil))))) (gss_one (gs_ret ge_bl)) gss_nil))))
  (gss_cons (gs_par (i := 8) (j := 9) rfl sc_law.nd rfl rfl (by decide) rfl rfl (ga_cons (ge_c (takes_of rfl rfl rfl rfl) C_law_drawn hr (by decide) (ga_cons (gv 4) (ga_cons (ge_op op_addA rs_add (ge_callB call_len cs_len rfl T.b_len (by decide +kernel) (ga_cons (gv 5) ga_nil)) ge_int) ga_nil))) (ga_cons (ge_c (takes_of rfl rfl rfl rfl) C_law_drawn hr (by decide) (ga_cons (gv 4) (ga_cons ge_int ga_nil))) ga_nil)) rfl)
  (gss_cons (gs_set (i := 10) sc_law.nd rfl (Or.inl rfl) (ge_ix ix_seq rs_ix (ge_lst (ga_cons (ge_op op_pow rs_I ge_int ge_int) (ga_cons (ge_op op_sub rs_J ge_int (ge_op op_pow rs_I ge_int ge_int)) (ga_cons (ge_op op_mulAll rs_mulA ge_str ge_int) (ga_cons ge_str (ga_cons (ge_tup ga_nil) (ga_cons (ge_tup (ga_cons ge_int ga_nil)) (ga_cons (ge_lst ga_nil) (ga_cons (ge_lst (ga_cons ge_int ga_nil)) ga_nil))))))))) (gv 9) (fun _ _ => rfl)))
  (gss_cons (gs_if (GW.gt (gw_or (gt_not (gt_val (ge_c (takes_of rfl rfl rfl rfl) C_law_value_refused hr (by decide) (ga_cons (gv 10) ga_nil)))) (gw_or1 (gt_not (gt_val (ge_c (takes_of rfl rfl rfl rfl) C_law_value_refused hr (by decide) (ga_cons (ge_lst (ga_cons (gv 10) ga_nil)) ga_nil))))))) (gss_one (gs_ret ge_bl)) gss_nil)
  (gss_cons (gs_set (i := 11) sc_law.nd rfl (Or.inl rfl) (ge_ix ix_seq rs_ix (ge_lst (ga_cons (ge_op op_addA rs_add (ge_op op_addA rs_add (ge_sl sl_any ss_cut (gv 5) go_none (go_some (gv 8))) (ge_tup (ga_cons (gv 10) ga_nil))) (ge_sl sl_any ss_cut (gv 5) (go_some (gv 8)) go_none)) (ga_cons (ge_callTy call_list_of cs_list rfl T.b_list (by decide +kernel) (ga_cons (gv 5) ga_nil)) (ga_cons (gv 1) (ga_cons ge_non (ga_cons ge_int (ga_cons ge_bl ga_nil))))))) (ge_callB (call_max2 rfl) cs_2 rfl T.b_max (by decide +kernel) (ga_cons ge_int (ga_cons (ge_op op_sub rs_J (ge_c (takes_of rfl rfl rfl rfl) C_law_drawn hr (by decide) (ga_cons (gv 4) (ga_cons ge_int ga_nil))) ge_int) ga_nil))) (fun _ _ => rfl)))
  (gss_one (gs_if (GW.gt (gw_or (gt_cmp (op_neA hr.units) rs_ne (ge_c (takes_of rfl rfl rfl rfl) C_law_refused hr (by decide) (ga_cons (gv 11) ga_nil)) ge_str (nomark _)) (gw_or1 (gt_not (gt_val (ge_c (takes_of rfl rfl rfl rfl) C_law_same hr (by decide) (ga_cons (ge_c (takes_of rfl rfl rfl rfl) C_row_code hr (by decide) (ga_cons (gv 5) ga_nil)) (ga_cons (gv 1) ga_nil)))))))) (gss_one (gs_ret ge_bl)) gss_nil))))))))))))))
  (gss_one (gs_ret ge_bl))))), rd_law⟩

theorem txt_mk {P : Program} {K : PySem.W.Frag} {h : Heap} {mg : Str → Option Value} (X : K.In h)
  (GN : h.Ns mainGlobals mg)
  {f0 : Addr} {oc0 kV0 dc0 pm0 cd0 ct0 : Value} {od0 an0 : Option Addr} {sl0 : Array (Option Value)}
  (a0 : PySem.W.nsIn K mainGlobals "is_integer" = some (some (.ref f0)))
  (l0 : K.lookup f0 = some ⟨oc0, od0, .func (PySem.W.fnOf "is_integer" "is_integer" (defArgs s_is_integer) (defBody s_is_integer) (defScope s_is_integer) .none kV0 dc0 pm0 an0 cd0 ct0), sl0⟩)
  (c0 : PySem.W.codeIn K cd0 "is_integer" = true) (k0 : PySem.W.keepIn K (.ref f0) = true)
  {f1 : Addr} {oc1 kV1 dc1 pm1 cd1 ct1 : Value} {od1 an1 : Option Addr} {sl1 : Array (Option Value)}
  (a1 : PySem.W.nsIn K mainGlobals "is_text" = some (some (.ref f1)))
  (l1 : K.lookup f1 = some ⟨oc1, od1, .func (PySem.W.fnOf "is_text" "is_text" (defArgs s_is_text) (defBody s_is_text) (defScope s_is_text) .none kV1 dc1 pm1 an1 cd1 ct1), sl1⟩)
  (c1 : PySem.W.codeIn K cd1 "is_text" = true) (k1 : PySem.W.keepIn K (.ref f1) = true)
  {f2 : Addr} {oc2 kV2 dc2 pm2 cd2 ct2 : Value} {od2 an2 : Option Addr} {sl2 : Array (Option Value)}
  (a2 : PySem.W.nsIn K mainGlobals "is_value" = some (some (.ref f2)))
  (l2 : K.lookup f2 = some ⟨oc2, od2, .func (PySem.W.fnOf "is_value" "is_value" (defArgs s_is_value) (defBody s_is_value) (defScope s_is_value) .none kV2 dc2 pm2 an2 cd2 ct2), sl2⟩)
  (c2 : PySem.W.codeIn K cd2 "is_value" = true) (k2 : PySem.W.keepIn K (.ref f2) = true)
  {f3 : Addr} {oc3 kV3 dc3 pm3 cd3 ct3 : Value} {od3 an3 : Option Addr} {sl3 : Array (Option Value)}
  (a3 : PySem.W.nsIn K mainGlobals "text_code" = some (some (.ref f3)))
  (l3 : K.lookup f3 = some ⟨oc3, od3, .func (PySem.W.fnOf "text_code" "text_code" (defArgs s_text_code) (defBody s_text_code) (defScope s_text_code) .none kV3 dc3 pm3 an3 cd3 ct3), sl3⟩)
  (c3 : PySem.W.codeIn K cd3 "text_code" = true) (k3 : PySem.W.keepIn K (.ref f3) = true)
  {f4 : Addr} {oc4 kV4 dc4 pm4 cd4 ct4 : Value} {od4 an4 : Option Addr} {sl4 : Array (Option Value)}
  (a4 : PySem.W.nsIn K mainGlobals "number_code" = some (some (.ref f4)))
  (l4 : K.lookup f4 = some ⟨oc4, od4, .func (PySem.W.fnOf "number_code" "number_code" (defArgs s_number_code) (defBody s_number_code) (defScope s_number_code) .none kV4 dc4 pm4 an4 cd4 ct4), sl4⟩)
  (c4 : PySem.W.codeIn K cd4 "number_code" = true) (k4 : PySem.W.keepIn K (.ref f4) = true)
  {f5 : Addr} {oc5 kV5 dc5 pm5 cd5 ct5 : Value} {od5 an5 : Option Addr} {sl5 : Array (Option Value)}
  (a5 : PySem.W.nsIn K mainGlobals "code_of" = some (some (.ref f5)))
  (l5 : K.lookup f5 = some ⟨oc5, od5, .func (PySem.W.fnOf "code_of" "code_of" (defArgs s_code_of) (defBody s_code_of) (defScope s_code_of) .none kV5 dc5 pm5 an5 cd5 ct5), sl5⟩)
  (c5 : PySem.W.codeIn K cd5 "code_of" = true) (k5 : PySem.W.keepIn K (.ref f5) = true)
  {f6 : Addr} {oc6 kV6 dc6 pm6 cd6 ct6 : Value} {od6 an6 : Option Addr} {sl6 : Array (Option Value)}
  (a6 : PySem.W.nsIn K mainGlobals "value_code" = some (some (.ref f6)))
  (l6 : K.lookup f6 = some ⟨oc6, od6, .func (PySem.W.fnOf "value_code" "value_code" (defArgs s_value_code) (defBody s_value_code) (defScope s_value_code) .none kV6 dc6 pm6 an6 cd6 ct6), sl6⟩)
  (c6 : PySem.W.codeIn K cd6 "value_code" = true) (k6 : PySem.W.keepIn K (.ref f6) = true)
  {f7 : Addr} {oc7 kV7 dc7 pm7 cd7 ct7 : Value} {od7 an7 : Option Addr} {sl7 : Array (Option Value)}
  (a7 : PySem.W.nsIn K mainGlobals "row_code" = some (some (.ref f7)))
  (l7 : K.lookup f7 = some ⟨oc7, od7, .func (PySem.W.fnOf "row_code" "row_code" (defArgs s_row_code) (defBody s_row_code) (defScope s_row_code) .none kV7 dc7 pm7 an7 cd7 ct7), sl7⟩)
  (c7 : PySem.W.codeIn K cd7 "row_code" = true) (k7 : PySem.W.keepIn K (.ref f7) = true)
  {f8 : Addr} {oc8 kV8 dc8 pm8 cd8 ct8 : Value} {od8 an8 : Option Addr} {sl8 : Array (Option Value)}
  (a8 : PySem.W.nsIn K mainGlobals "text_from" = some (some (.ref f8)))
  (l8 : K.lookup f8 = some ⟨oc8, od8, .func (PySem.W.fnOf "text_from" "text_from" (defArgs s_text_from) (defBody s_text_from) (defScope s_text_from) .none kV8 dc8 pm8 an8 cd8 ct8), sl8⟩)
  (c8 : PySem.W.codeIn K cd8 "text_from" = true) (k8 : PySem.W.keepIn K (.ref f8) = true)
  {f9 : Addr} {oc9 kV9 dc9 pm9 cd9 ct9 : Value} {od9 an9 : Option Addr} {sl9 : Array (Option Value)}
  (a9 : PySem.W.nsIn K mainGlobals "number_from" = some (some (.ref f9)))
  (l9 : K.lookup f9 = some ⟨oc9, od9, .func (PySem.W.fnOf "number_from" "number_from" (defArgs s_number_from) (defBody s_number_from) (defScope s_number_from) .none kV9 dc9 pm9 an9 cd9 ct9), sl9⟩)
  (c9 : PySem.W.codeIn K cd9 "number_from" = true) (k9 : PySem.W.keepIn K (.ref f9) = true)
  {f10 : Addr} {oc10 kV10 dc10 pm10 cd10 ct10 : Value} {od10 an10 : Option Addr} {sl10 : Array (Option Value)}
  (a10 : PySem.W.nsIn K mainGlobals "value_from" = some (some (.ref f10)))
  (l10 : K.lookup f10 = some ⟨oc10, od10, .func (PySem.W.fnOf "value_from" "value_from" (defArgs s_value_from) (defBody s_value_from) (defScope s_value_from) .none kV10 dc10 pm10 an10 cd10 ct10), sl10⟩)
  (c10 : PySem.W.codeIn K cd10 "value_from" = true) (k10 : PySem.W.keepIn K (.ref f10) = true)
  {f11 : Addr} {oc11 kV11 dc11 pm11 cd11 ct11 : Value} {od11 an11 : Option Addr} {sl11 : Array (Option Value)}
  (a11 : PySem.W.nsIn K mainGlobals "values_told" = some (some (.ref f11)))
  (l11 : K.lookup f11 = some ⟨oc11, od11, .func (PySem.W.fnOf "values_told" "values_told" (defArgs s_values_told) (defBody s_values_told) (defScope s_values_told) .none kV11 dc11 pm11 an11 cd11 ct11), sl11⟩)
  (c11 : PySem.W.codeIn K cd11 "values_told" = true) (k11 : PySem.W.keepIn K (.ref f11) = true)
  {f12 : Addr} {oc12 kV12 dc12 pm12 cd12 ct12 : Value} {od12 an12 : Option Addr} {sl12 : Array (Option Value)}
  (a12 : PySem.W.nsIn K mainGlobals "_law_jar" = some (some (.ref f12)))
  (l12 : K.lookup f12 = some ⟨oc12, od12, .func (PySem.W.fnOf "_law_jar" "_law_jar" (defArgs s_law_jar) (defBody s_law_jar) (defScope s_law_jar) .none kV12 dc12 pm12 an12 cd12 ct12), sl12⟩)
  (c12 : PySem.W.codeIn K cd12 "_law_jar" = true) (k12 : PySem.W.keepIn K (.ref f12) = true)
  {f13 : Addr} {oc13 kV13 dc13 pm13 cd13 ct13 : Value} {od13 an13 : Option Addr} {sl13 : Array (Option Value)}
  (a13 : PySem.W.nsIn K mainGlobals "_law_drawn" = some (some (.ref f13)))
  (l13 : K.lookup f13 = some ⟨oc13, od13, .func (PySem.W.fnOf "_law_drawn" "_law_drawn" (defArgs s_law_drawn) (defBody s_law_drawn) (defScope s_law_drawn) .none kV13 dc13 pm13 an13 cd13 ct13), sl13⟩)
  (c13 : PySem.W.codeIn K cd13 "_law_drawn" = true) (k13 : PySem.W.keepIn K (.ref f13) = true)
  {f14 : Addr} {oc14 kV14 dc14 pm14 cd14 ct14 : Value} {od14 an14 : Option Addr} {sl14 : Array (Option Value)}
  (a14 : PySem.W.nsIn K mainGlobals "_law_same" = some (some (.ref f14)))
  (l14 : K.lookup f14 = some ⟨oc14, od14, .func (PySem.W.fnOf "_law_same" "_law_same" (defArgs s_law_same) (defBody s_law_same) (defScope s_law_same) .none kV14 dc14 pm14 an14 cd14 ct14), sl14⟩)
  (c14 : PySem.W.codeIn K cd14 "_law_same" = true) (k14 : PySem.W.keepIn K (.ref f14) = true)
  {f15 : Addr} {oc15 kV15 dc15 pm15 cd15 ct15 : Value} {od15 an15 : Option Addr} {sl15 : Array (Option Value)}
  (a15 : PySem.W.nsIn K mainGlobals "_law_signs" = some (some (.ref f15)))
  (l15 : K.lookup f15 = some ⟨oc15, od15, .func (PySem.W.fnOf "_law_signs" "_law_signs" (defArgs s_law_signs) (defBody s_law_signs) (defScope s_law_signs) .none kV15 dc15 pm15 an15 cd15 ct15), sl15⟩)
  (c15 : PySem.W.codeIn K cd15 "_law_signs" = true) (k15 : PySem.W.keepIn K (.ref f15) = true)
  {f16 : Addr} {oc16 kV16 dc16 pm16 cd16 ct16 : Value} {od16 an16 : Option Addr} {sl16 : Array (Option Value)}
  (a16 : PySem.W.nsIn K mainGlobals "_law_code" = some (some (.ref f16)))
  (l16 : K.lookup f16 = some ⟨oc16, od16, .func (PySem.W.fnOf "_law_code" "_law_code" (defArgs s_law_code) (defBody s_law_code) (defScope s_law_code) .none kV16 dc16 pm16 an16 cd16 ct16), sl16⟩)
  (c16 : PySem.W.codeIn K cd16 "_law_code" = true) (k16 : PySem.W.keepIn K (.ref f16) = true)
  {f17 : Addr} {oc17 kV17 dc17 pm17 cd17 ct17 : Value} {od17 an17 : Option Addr} {sl17 : Array (Option Value)}
  (a17 : PySem.W.nsIn K mainGlobals "_law_text" = some (some (.ref f17)))
  (l17 : K.lookup f17 = some ⟨oc17, od17, .func (PySem.W.fnOf "_law_text" "_law_text" (defArgs s_law_text) (defBody s_law_text) (defScope s_law_text) .none kV17 dc17 pm17 an17 cd17 ct17), sl17⟩)
  (c17 : PySem.W.codeIn K cd17 "_law_text" = true) (k17 : PySem.W.keepIn K (.ref f17) = true)
  {f18 : Addr} {oc18 kV18 dc18 pm18 cd18 ct18 : Value} {od18 an18 : Option Addr} {sl18 : Array (Option Value)}
  (a18 : PySem.W.nsIn K mainGlobals "_law_number" = some (some (.ref f18)))
  (l18 : K.lookup f18 = some ⟨oc18, od18, .func (PySem.W.fnOf "_law_number" "_law_number" (defArgs s_law_number) (defBody s_law_number) (defScope s_law_number) .none kV18 dc18 pm18 an18 cd18 ct18), sl18⟩)
  (c18 : PySem.W.codeIn K cd18 "_law_number" = true) (k18 : PySem.W.keepIn K (.ref f18) = true)
  {f19 : Addr} {oc19 kV19 dc19 pm19 cd19 ct19 : Value} {od19 an19 : Option Addr} {sl19 : Array (Option Value)}
  (a19 : PySem.W.nsIn K mainGlobals "_law_value" = some (some (.ref f19)))
  (l19 : K.lookup f19 = some ⟨oc19, od19, .func (PySem.W.fnOf "_law_value" "_law_value" (defArgs s_law_value) (defBody s_law_value) (defScope s_law_value) .none kV19 dc19 pm19 an19 cd19 ct19), sl19⟩)
  (c19 : PySem.W.codeIn K cd19 "_law_value" = true) (k19 : PySem.W.keepIn K (.ref f19) = true)
  {f20 : Addr} {oc20 kV20 dc20 pm20 cd20 ct20 : Value} {od20 an20 : Option Addr} {sl20 : Array (Option Value)}
  (a20 : PySem.W.nsIn K mainGlobals "_law_text_at" = some (some (.ref f20)))
  (l20 : K.lookup f20 = some ⟨oc20, od20, .func (PySem.W.fnOf "_law_text_at" "_law_text_at" (defArgs s_law_text_at) (defBody s_law_text_at) (defScope s_law_text_at) .none kV20 dc20 pm20 an20 cd20 ct20), sl20⟩)
  (c20 : PySem.W.codeIn K cd20 "_law_text_at" = true) (k20 : PySem.W.keepIn K (.ref f20) = true)
  {f21 : Addr} {oc21 kV21 dc21 pm21 cd21 ct21 : Value} {od21 an21 : Option Addr} {sl21 : Array (Option Value)}
  (a21 : PySem.W.nsIn K mainGlobals "_law_number_at" = some (some (.ref f21)))
  (l21 : K.lookup f21 = some ⟨oc21, od21, .func (PySem.W.fnOf "_law_number_at" "_law_number_at" (defArgs s_law_number_at) (defBody s_law_number_at) (defScope s_law_number_at) .none kV21 dc21 pm21 an21 cd21 ct21), sl21⟩)
  (c21 : PySem.W.codeIn K cd21 "_law_number_at" = true) (k21 : PySem.W.keepIn K (.ref f21) = true)
  {f22 : Addr} {oc22 kV22 dc22 pm22 cd22 ct22 : Value} {od22 an22 : Option Addr} {sl22 : Array (Option Value)}
  (a22 : PySem.W.nsIn K mainGlobals "_law_read" = some (some (.ref f22)))
  (l22 : K.lookup f22 = some ⟨oc22, od22, .func (PySem.W.fnOf "_law_read" "_law_read" (defArgs s_law_read) (defBody s_law_read) (defScope s_law_read) .none kV22 dc22 pm22 an22 cd22 ct22), sl22⟩)
  (c22 : PySem.W.codeIn K cd22 "_law_read" = true) (k22 : PySem.W.keepIn K (.ref f22) = true)
  {f23 : Addr} {oc23 kV23 dc23 pm23 cd23 ct23 : Value} {od23 an23 : Option Addr} {sl23 : Array (Option Value)}
  (a23 : PySem.W.nsIn K mainGlobals "_law_told" = some (some (.ref f23)))
  (l23 : K.lookup f23 = some ⟨oc23, od23, .func (PySem.W.fnOf "_law_told" "_law_told" (defArgs s_law_told) (defBody s_law_told) (defScope s_law_told) .none kV23 dc23 pm23 an23 cd23 ct23), sl23⟩)
  (c23 : PySem.W.codeIn K cd23 "_law_told" = true) (k23 : PySem.W.keepIn K (.ref f23) = true)
  {f24 : Addr} {oc24 kV24 dc24 pm24 cd24 ct24 : Value} {od24 an24 : Option Addr} {sl24 : Array (Option Value)}
  (a24 : PySem.W.nsIn K mainGlobals "_law_refused" = some (some (.ref f24)))
  (l24 : K.lookup f24 = some ⟨oc24, od24, .func (PySem.W.fnOf "_law_refused" "_law_refused" (defArgs s_law_refused) (defBody s_law_refused) (defScope s_law_refused) .none kV24 dc24 pm24 an24 cd24 ct24), sl24⟩)
  (c24 : PySem.W.codeIn K cd24 "_law_refused" = true) (k24 : PySem.W.keepIn K (.ref f24) = true)
  {f25 : Addr} {oc25 kV25 dc25 pm25 cd25 ct25 : Value} {od25 an25 : Option Addr} {sl25 : Array (Option Value)}
  (a25 : PySem.W.nsIn K mainGlobals "_law_spoilt" = some (some (.ref f25)))
  (l25 : K.lookup f25 = some ⟨oc25, od25, .func (PySem.W.fnOf "_law_spoilt" "_law_spoilt" (defArgs s_law_spoilt) (defBody s_law_spoilt) (defScope s_law_spoilt) .none kV25 dc25 pm25 an25 cd25 ct25), sl25⟩)
  (c25 : PySem.W.codeIn K cd25 "_law_spoilt" = true) (k25 : PySem.W.keepIn K (.ref f25) = true)
  {f26 : Addr} {oc26 kV26 dc26 pm26 cd26 ct26 : Value} {od26 an26 : Option Addr} {sl26 : Array (Option Value)}
  (a26 : PySem.W.nsIn K mainGlobals "_law_edges" = some (some (.ref f26)))
  (l26 : K.lookup f26 = some ⟨oc26, od26, .func (PySem.W.fnOf "_law_edges" "_law_edges" (defArgs s_law_edges) (defBody s_law_edges) (defScope s_law_edges) .none kV26 dc26 pm26 an26 cd26 ct26), sl26⟩)
  (c26 : PySem.W.codeIn K cd26 "_law_edges" = true) (k26 : PySem.W.keepIn K (.ref f26) = true)
  {f27 : Addr} {oc27 kV27 dc27 pm27 cd27 ct27 : Value} {od27 an27 : Option Addr} {sl27 : Array (Option Value)}
  (a27 : PySem.W.nsIn K mainGlobals "_law_value_refused" = some (some (.ref f27)))
  (l27 : K.lookup f27 = some ⟨oc27, od27, .func (PySem.W.fnOf "_law_value_refused" "_law_value_refused" (defArgs s_law_value_refused) (defBody s_law_value_refused) (defScope s_law_value_refused) .none kV27 dc27 pm27 an27 cd27 ct27), sl27⟩)
  (c27 : PySem.W.codeIn K cd27 "_law_value_refused" = true) (k27 : PySem.W.keepIn K (.ref f27) = true)
  {f28 : Addr} {oc28 kV28 dc28 pm28 cd28 ct28 : Value} {od28 an28 : Option Addr} {sl28 : Array (Option Value)}
  (a28 : PySem.W.nsIn K mainGlobals "law" = some (some (.ref f28)))
  (l28 : K.lookup f28 = some ⟨oc28, od28, .func (PySem.W.fnOf "law" "law" (defArgs s_law) (defBody s_law) (defScope s_law) .none kV28 dc28 pm28 an28 cd28 ct28), sl28⟩)
  (c28 : PySem.W.codeIn K cd28 "law" = true) (k28 : PySem.W.keepIn K (.ref f28) = true)
  (z_abs : PySem.W.nsIn K mainGlobals "abs" = some none)
  (z_all : PySem.W.nsIn K mainGlobals "all" = some none)
  (z_bool : PySem.W.nsIn K mainGlobals "bool" = some none)
  (z_int : PySem.W.nsIn K mainGlobals "int" = some none)
  (z_isinstance : PySem.W.nsIn K mainGlobals "isinstance" = some none)
  (z_len : PySem.W.nsIn K mainGlobals "len" = some none)
  (z_list : PySem.W.nsIn K mainGlobals "list" = some none)
  (z_max : PySem.W.nsIn K mainGlobals "max" = some none)
  (z_range : PySem.W.nsIn K mainGlobals "range" = some none)
  (z_str : PySem.W.nsIn K mainGlobals "str" = some none)
  (z_tuple : PySem.W.nsIn K mainGlobals "tuple" = some none)
  {t_COUNTS : Tok}
  (v_COUNTS : PySem.W.nsIn K mainGlobals "COUNTS" = some (some (.str "ABCDEFGHIJKLMNOPQRSTUVWXYZ[\\]^_" t_COUNTS)))
  {t_DIGITS : Tok}
  (v_DIGITS : PySem.W.nsIn K mainGlobals "DIGITS" = some (some (.str "0123456789" t_DIGITS)))
  {t_END : Tok}
  (v_END : PySem.W.nsIn K mainGlobals "END" = some (some (.str " " t_END)))
  {t_GREATEST_SIGN : Tok}
  (v_GREATEST_SIGN : PySem.W.nsIn K mainGlobals "GREATEST_SIGN" = some (some (.str "~" t_GREATEST_SIGN)))
  {t_LEAST_SIGN : Tok}
  (v_LEAST_SIGN : PySem.W.nsIn K mainGlobals "LEAST_SIGN" = some (some (.str " " t_LEAST_SIGN)))
  {t_MARK : Tok}
  (v_MARK : PySem.W.nsIn K mainGlobals "MARK" = some (some (.str "!" t_MARK)))
  {t_MOST_FIGURES : Tok}
  (v_MOST_FIGURES : PySem.W.nsIn K mainGlobals "MOST_FIGURES" = some (some (.int 30 t_MOST_FIGURES)))
  {t_MOST_INTEGER : Tok}
  (v_MOST_INTEGER : PySem.W.nsIn K mainGlobals "MOST_INTEGER" = some (some (.int 999999999999999999999999999999 t_MOST_INTEGER)))
  {t_MOST_SIGNS : Tok}
  (v_MOST_SIGNS : PySem.W.nsIn K mainGlobals "MOST_SIGNS" = some (some (.int 200 t_MOST_SIGNS)))
  (dk_top : (P.main.scope.names.lookup ("super" : Str)).isSome = false) (o1 : PySem.W.nsIn K mainGlobals "super" = some none) (o2 : PySem.W.nsIn K cStatics "thirdparty.any" = some none)
  {fi_InvalidCode cc_InvalidCode cda_InvalidCode N_InvalidCode : Addr} {oc_InvalidCode kv_InvalidCode dc_InvalidCode pm_InvalidCode ct_InvalidCode : Value} {od_InvalidCode an_InvalidCode dd_InvalidCode : Option Addr} {sl_InvalidCode : Array (Option Value)} {nm_InvalidCode qn_InvalidCode : Str} {bs_InvalidCode bm_InvalidCode sub_InvalidCode : List Value} {sn_InvalidCode : List Str} {ab_InvalidCode : Bool} {col_InvalidCode : Option Bool} {ka_InvalidCode kb_InvalidCode kc_InvalidCode kd_InvalidCode ke_InvalidCode : Option Value} {v1_InvalidCode v2_InvalidCode : Value} {w1_InvalidCode w2_InvalidCode : Option Addr} {vs_InvalidCode : Array Value} {t1_InvalidCode t2_InvalidCode : Array (Option Value)} {file_InvalidCode : Str} {ft_InvalidCode : Tok}
  (p_InvalidCode : PySem.W.nsIn K mainGlobals "InvalidCode" = some (some (.ref a_InvalidCode)))
  (l2_InvalidCode : K.lookup a_InvalidCode = some (excClassObj nm_InvalidCode qn_InvalidCode a_InvalidCode N_InvalidCode bs_InvalidCode bm_InvalidCode true sn_InvalidCode sub_InvalidCode ab_InvalidCode col_InvalidCode dd_InvalidCode ka_InvalidCode kb_InvalidCode kc_InvalidCode kd_InvalidCode ke_InvalidCode "ValueError.__new__"))
  (l7_InvalidCode : PySem.W.findIn K (.ref a_InvalidCode) "__init__" = some (some (.ref fi_InvalidCode)))
  (l9_InvalidCode : K.lookup fi_InvalidCode = some ⟨oc_InvalidCode, od_InvalidCode, .func (PySem.W.fnX "__init__" "InvalidCode.__init__" (defArgs s_InvalidCode) (defBody s_InvalidCode) (defScope s_InvalidCode) [("__class__", cc_InvalidCode)] .none kv_InvalidCode dc_InvalidCode pm_InvalidCode an_InvalidCode (.ref cda_InvalidCode) ct_InvalidCode), sl_InvalidCode⟩)
  (l11_InvalidCode : K.lookup cda_InvalidCode = some ⟨v1_InvalidCode, w1_InvalidCode, .fields vs_InvalidCode, t1_InvalidCode⟩)
  (l13_InvalidCode : K.lookup cc_InvalidCode = some ⟨v2_InvalidCode, w2_InvalidCode, .cell (some (.ref a_InvalidCode)), t2_InvalidCode⟩)
  (rf_InvalidCode : vs_InvalidCode[2]? = some (.str file_InvalidCode ft_InvalidCode))
  (dk_r_InvalidCode : PySem.HandSPX.refsVE bm_InvalidCode = true)
  (dk_p_InvalidCode : ((P.main.file : Str) == file_InvalidCode) = true)
  (l3_InvalidCode : PySem.W.findIn K (.ref a_InvalidCode) "__setattr__" = some (some (.builtin "object.__setattr__")))
  (s_InvalidCode : PySem.W.subIn K (.ref a_InvalidCode) (.type "BaseException") = some true)
  (y_InvalidCode : PySem.W.typeIn K (.ref a_InvalidCode) = some (.type "type"))
  (r_InvalidCode : PySem.W.keepIn K (.ref a_InvalidCode) = true)
  (l8_InvalidCode : PySem.W.typeIn K (.ref fi_InvalidCode) = some (.type "function"))
  (l10_InvalidCode : PySem.W.codeIn K (.ref cda_InvalidCode) "InvalidCode.__init__" = true)
  (ks_InvalidCode : PySem.W.ks_superIn K a_InvalidCode a_InvalidCode "__init__" = some (some (.builtin "ValueError.__init__")))
  (l17_InvalidCode : PySem.W.subIn K (.ref a_InvalidCode) (.type "ValueError") = some true)
  (l18_InvalidCode : PySem.W.mroIn K a_InvalidCode (.ref a_InvalidCode) = some true)
  (kx_InvalidCode : PySem.W.excInitIn K a_InvalidCode [.type "ValueError", .type "Exception", .type "BaseException", .type "object"] "ValueError.__new__" = true)
  (l20_InvalidCode : PySem.W.findIn K (.ref a_InvalidCode) "index" = some none)
  (p_InvalidRow : PySem.W.nsIn K mainGlobals "InvalidRow" = some (some (.ref a_InvalidRow))) (q_InvalidRow : PySem.W.excIn K a_InvalidRow [.type "ValueError", .type "Exception", .type "BaseException", .type "object"] "ValueError.__new__" = true) (r_InvalidRow : PySem.W.keepIn K (.ref a_InvalidRow) = true) (s_InvalidRow : PySem.W.subIn K (.ref a_InvalidRow) (.type "BaseException") = some true) (y_InvalidRow : PySem.W.typeIn K (.ref a_InvalidRow) = some (.type "type"))
  (p_InvalidText : PySem.W.nsIn K mainGlobals "InvalidText" = some (some (.ref a_InvalidText))) (q_InvalidText : PySem.W.excIn K a_InvalidText [.type "ValueError", .type "Exception", .type "BaseException", .type "object"] "ValueError.__new__" = true) (r_InvalidText : PySem.W.keepIn K (.ref a_InvalidText) = true) (s_InvalidText : PySem.W.subIn K (.ref a_InvalidText) (.type "BaseException") = some true) (y_InvalidText : PySem.W.typeIn K (.ref a_InvalidText) = some (.type "type"))
  (p_InvalidValue : PySem.W.nsIn K mainGlobals "InvalidValue" = some (some (.ref a_InvalidValue))) (q_InvalidValue : PySem.W.excIn K a_InvalidValue [.type "ValueError", .type "Exception", .type "BaseException", .type "object"] "ValueError.__new__" = true) (r_InvalidValue : PySem.W.keepIn K (.ref a_InvalidValue) = true) (s_InvalidValue : PySem.W.subIn K (.ref a_InvalidValue) (.type "BaseException") = some true) (y_InvalidValue : PySem.W.typeIn K (.ref a_InvalidValue) = some (.type "type"))
  (p_StoreError : PySem.W.nsIn K mainGlobals "StoreError" = some (some (.ref a_StoreError))) (q_StoreError : PySem.W.excIn K a_StoreError [.type "ValueError", .type "Exception", .type "BaseException", .type "object"] "ValueError.__new__" = true) (r_StoreError : PySem.W.keepIn K (.ref a_StoreError) = true) (s_StoreError : PySem.W.subIn K (.ref a_StoreError) (.type "BaseException") = some true) (y_StoreError : PySem.W.typeIn K (.ref a_StoreError) = some (.type "type"))
  (g1_InvalidCode : PySem.W.findIn K (.ref a_InvalidCode) "__getattribute__" = some (some (.builtin "BaseException.__getattribute__"))) (g2_InvalidCode : PySem.W.findIn K (.ref a_InvalidCode) "__getattr__" = some none)
  (h_InvalidCode : PySem.W.hasDictIn K a_InvalidCode = true)
  (h_InvalidRow : PySem.W.hasDictIn K a_InvalidRow = true)
  (h_InvalidText : PySem.W.hasDictIn K a_InvalidText = true)
  (h_InvalidValue : PySem.W.hasDictIn K a_InvalidValue = true)
  (h_StoreError : PySem.W.hasDictIn K a_StoreError = true)
  (m_InvalidCode_InvalidCode : PySem.W.subIn K (.ref a_InvalidCode) (.ref a_InvalidCode) = some true)
  (m_InvalidCode_InvalidRow : PySem.W.subIn K (.ref a_InvalidCode) (.ref a_InvalidRow) = some false)
  (m_InvalidCode_InvalidText : PySem.W.subIn K (.ref a_InvalidCode) (.ref a_InvalidText) = some false)
  (m_InvalidCode_StoreError : PySem.W.subIn K (.ref a_InvalidCode) (.ref a_StoreError) = some true)
  (m_InvalidRow_InvalidCode : PySem.W.subIn K (.ref a_InvalidRow) (.ref a_InvalidCode) = some false)
  (m_InvalidRow_InvalidRow : PySem.W.subIn K (.ref a_InvalidRow) (.ref a_InvalidRow) = some true)
  (m_InvalidRow_InvalidText : PySem.W.subIn K (.ref a_InvalidRow) (.ref a_InvalidText) = some false)
  (m_InvalidRow_StoreError : PySem.W.subIn K (.ref a_InvalidRow) (.ref a_StoreError) = some true)
  (m_InvalidText_InvalidCode : PySem.W.subIn K (.ref a_InvalidText) (.ref a_InvalidCode) = some false)
  (m_InvalidText_InvalidRow : PySem.W.subIn K (.ref a_InvalidText) (.ref a_InvalidRow) = some false)
  (m_InvalidText_InvalidText : PySem.W.subIn K (.ref a_InvalidText) (.ref a_InvalidText) = some true)
  (m_InvalidText_StoreError : PySem.W.subIn K (.ref a_InvalidText) (.ref a_StoreError) = some true)
  (m_InvalidValue_InvalidCode : PySem.W.subIn K (.ref a_InvalidValue) (.ref a_InvalidCode) = some false)
  (m_InvalidValue_InvalidRow : PySem.W.subIn K (.ref a_InvalidValue) (.ref a_InvalidRow) = some false)
  (m_InvalidValue_InvalidText : PySem.W.subIn K (.ref a_InvalidValue) (.ref a_InvalidText) = some false)
  (m_InvalidValue_StoreError : PySem.W.subIn K (.ref a_InvalidValue) (.ref a_StoreError) = some true)
  (u1_InvalidCode : PySem.W.findIn K (.ref a_InvalidCode) "__getattribute__" = some (some (.builtin "BaseException.__getattribute__")))
  (u2_InvalidCode : PySem.W.findIn K (.ref a_InvalidCode) "__getattr__" = some none)
  (u3_InvalidCode : PySem.W.subIn K (.ref a_InvalidCode) (.type "BaseException") = some true)
  (u4_InvalidCode : PySem.W.hasDictIn K a_InvalidCode = true) (u5_InvalidCode : PySem.W.findIn K (.ref a_InvalidCode) "__class__" = some (some (.builtin "object.__class__")))
  (u8_InvalidCode : PySem.W.mroIn K a_InvalidCode (.type "object") = some true)
  (u1_InvalidRow : PySem.W.findIn K (.ref a_InvalidRow) "__getattribute__" = some (some (.builtin "BaseException.__getattribute__")))
  (u2_InvalidRow : PySem.W.findIn K (.ref a_InvalidRow) "__getattr__" = some none)
  (u3_InvalidRow : PySem.W.subIn K (.ref a_InvalidRow) (.type "BaseException") = some true)
  (u4_InvalidRow : PySem.W.hasDictIn K a_InvalidRow = true) (u5_InvalidRow : PySem.W.findIn K (.ref a_InvalidRow) "__class__" = some (some (.builtin "object.__class__")))
  (u8_InvalidRow : PySem.W.mroIn K a_InvalidRow (.type "object") = some true)
  (u1_InvalidText : PySem.W.findIn K (.ref a_InvalidText) "__getattribute__" = some (some (.builtin "BaseException.__getattribute__")))
  (u2_InvalidText : PySem.W.findIn K (.ref a_InvalidText) "__getattr__" = some none)
  (u3_InvalidText : PySem.W.subIn K (.ref a_InvalidText) (.type "BaseException") = some true)
  (u4_InvalidText : PySem.W.hasDictIn K a_InvalidText = true) (u5_InvalidText : PySem.W.findIn K (.ref a_InvalidText) "__class__" = some (some (.builtin "object.__class__")))
  (u8_InvalidText : PySem.W.mroIn K a_InvalidText (.type "object") = some true)
  (u1_InvalidValue : PySem.W.findIn K (.ref a_InvalidValue) "__getattribute__" = some (some (.builtin "BaseException.__getattribute__")))
  (u2_InvalidValue : PySem.W.findIn K (.ref a_InvalidValue) "__getattr__" = some none)
  (u3_InvalidValue : PySem.W.subIn K (.ref a_InvalidValue) (.type "BaseException") = some true)
  (u4_InvalidValue : PySem.W.hasDictIn K a_InvalidValue = true) (u5_InvalidValue : PySem.W.findIn K (.ref a_InvalidValue) "__class__" = some (some (.builtin "object.__class__")))
  (u8_InvalidValue : PySem.W.mroIn K a_InvalidValue (.type "object") = some true)
  (u6 : PySem.W.specialIn K (.builtin "object.__class__") "__get__" = some (some (.builtin "getset_descriptor.__get__"))) (u7 : PySem.W.takesIn K (.builtin "object.__class__") = some true)
  (v_InvalidCode_InvalidRow : PySem.W.subIn K (.ref a_InvalidCode) (.ref a_InvalidRow) = some false)
  (v_InvalidCode_InvalidValue : PySem.W.subIn K (.ref a_InvalidCode) (.ref a_InvalidValue) = some false)
  (v_InvalidRow_InvalidRow : PySem.W.subIn K (.ref a_InvalidRow) (.ref a_InvalidRow) = some true)
  (v_InvalidRow_InvalidValue : PySem.W.subIn K (.ref a_InvalidRow) (.ref a_InvalidValue) = some false)
  (v_InvalidText_InvalidRow : PySem.W.subIn K (.ref a_InvalidText) (.ref a_InvalidRow) = some false)
  (v_InvalidText_InvalidValue : PySem.W.subIn K (.ref a_InvalidText) (.ref a_InvalidValue) = some false)
  (v_InvalidValue_InvalidRow : PySem.W.subIn K (.ref a_InvalidValue) (.ref a_InvalidRow) = some false)
  (v_InvalidValue_InvalidValue : PySem.W.subIn K (.ref a_InvalidValue) (.ref a_InvalidValue) = some true) : Txt P K mg where
  f_is_integer := def_mk X GN a0 l0 c0 k0 fun _ _ _ _ _ _ us hl => match us, hl with | [_], _ => rfl
  f_is_text := def_mk X GN a1 l1 c1 k1 fun _ _ _ _ _ _ us hl => match us, hl with | [_], _ => rfl
  f_is_value := def_mk X GN a2 l2 c2 k2 fun _ _ _ _ _ _ us hl => match us, hl with | [_], _ => rfl
  f_text_code := def_mk X GN a3 l3 c3 k3 fun _ _ _ _ _ _ us hl => match us, hl with | [_], _ => rfl
  f_number_code := def_mk X GN a4 l4 c4 k4 fun _ _ _ _ _ _ us hl => match us, hl with | [_], _ => rfl
  f_code_of := def_mk X GN a5 l5 c5 k5 fun _ _ _ _ _ _ us hl => match us, hl with | [_], _ => rfl
  f_value_code := def_mk X GN a6 l6 c6 k6 fun _ _ _ _ _ _ us hl => match us, hl with | [_], _ => rfl
  f_row_code := def_mk X GN a7 l7 c7 k7 fun _ _ _ _ _ _ us hl => match us, hl with | [_], _ => rfl
  f_text_from := def_mk X GN a8 l8 c8 k8 fun _ _ _ _ _ _ us hl => match us, hl with | [_, _, _], _ => rfl
  f_number_from := def_mk X GN a9 l9 c9 k9 fun _ _ _ _ _ _ us hl => match us, hl with | [_, _, _], _ => rfl
  f_value_from := def_mk X GN a10 l10 c10 k10 fun _ _ _ _ _ _ us hl => match us, hl with | [_, _], _ => rfl
  f_values_told := def_mk X GN a11 l11 c11 k11 fun _ _ _ _ _ _ us hl => match us, hl with | [_], _ => rfl
  f_law_jar := def_mk X GN a12 l12 c12 k12 fun _ _ _ _ _ _ us hl => match us, hl with | [_], _ => rfl
  f_law_drawn := def_mk X GN a13 l13 c13 k13 fun _ _ _ _ _ _ us hl => match us, hl with | [_, _], _ => rfl
  f_law_same := def_mk X GN a14 l14 c14 k14 fun _ _ _ _ _ _ us hl => match us, hl with | [_, _], _ => rfl
  f_law_signs := def_mk X GN a15 l15 c15 k15 fun _ _ _ _ _ _ us hl => match us, hl with | [], _ => rfl
  f_law_code := def_mk X GN a16 l16 c16 k16 fun _ _ _ _ _ _ us hl => match us, hl with | [_], _ => rfl
  f_law_text := def_mk X GN a17 l17 c17 k17 fun _ _ _ _ _ _ us hl => match us, hl with | [_], _ => rfl
  f_law_number := def_mk X GN a18 l18 c18 k18 fun _ _ _ _ _ _ us hl => match us, hl with | [_], _ => rfl
  f_law_value := def_mk X GN a19 l19 c19 k19 fun _ _ _ _ _ _ us hl => match us, hl with | [_], _ => rfl
  f_law_text_at := def_mk X GN a20 l20 c20 k20 fun _ _ _ _ _ _ us hl => match us, hl with | [_, _], _ => rfl
  f_law_number_at := def_mk X GN a21 l21 c21 k21 fun _ _ _ _ _ _ us hl => match us, hl with | [_, _, _], _ => rfl
  f_law_read := def_mk X GN a22 l22 c22 k22 fun _ _ _ _ _ _ us hl => match us, hl with | [_], _ => rfl
  f_law_told := def_mk X GN a23 l23 c23 k23 fun _ _ _ _ _ _ us hl => match us, hl with | [_], _ => rfl
  f_law_refused := def_mk X GN a24 l24 c24 k24 fun _ _ _ _ _ _ us hl => match us, hl with | [_], _ => rfl
  f_law_spoilt := def_mk X GN a25 l25 c25 k25 fun _ _ _ _ _ _ us hl => match us, hl with | [_, _], _ => rfl
  f_law_edges := def_mk X GN a26 l26 c26 k26 fun _ _ _ _ _ _ us hl => match us, hl with | [], _ => rfl
  f_law_value_refused := def_mk X GN a27 l27 c27 k27 fun _ _ _ _ _ _ us hl => match us, hl with | [_], _ => rfl
  f_law := def_mk X GN a28 l28 c28 k28 fun _ _ _ _ _ _ us hl => match us, hl with | [_], _ => rfl
  b_abs := PySem.W.mg_none_of X GN z_abs
  b_all := PySem.W.mg_none_of X GN z_all
  b_bool := PySem.W.mg_none_of X GN z_bool
  b_int := PySem.W.mg_none_of X GN z_int
  b_isinstance := PySem.W.mg_none_of X GN z_isinstance
  b_len := PySem.W.mg_none_of X GN z_len
  b_list := PySem.W.mg_none_of X GN z_list
  b_max := PySem.W.mg_none_of X GN z_max
  b_range := PySem.W.mg_none_of X GN z_range
  b_str := PySem.W.mg_none_of X GN z_str
  b_tuple := PySem.W.mg_none_of X GN z_tuple
  c_COUNTS := ⟨_, PySem.W.mg_of X GN v_COUNTS, ⟨_, rfl⟩⟩
  c_DIGITS := ⟨_, PySem.W.mg_of X GN v_DIGITS, ⟨_, rfl⟩⟩
  c_END := ⟨_, PySem.W.mg_of X GN v_END, ⟨_, rfl⟩⟩
  c_GREATEST_SIGN := ⟨_, PySem.W.mg_of X GN v_GREATEST_SIGN, ⟨_, rfl⟩⟩
  c_LEAST_SIGN := ⟨_, PySem.W.mg_of X GN v_LEAST_SIGN, ⟨_, rfl⟩⟩
  c_MARK := ⟨_, PySem.W.mg_of X GN v_MARK, ⟨_, rfl⟩⟩
  c_MOST_FIGURES := ⟨_, PySem.W.mg_of X GN v_MOST_FIGURES, ⟨_, rfl⟩⟩
  c_MOST_INTEGER := ⟨_, PySem.W.mg_of X GN v_MOST_INTEGER, ⟨_, rfl⟩⟩
  c_MOST_SIGNS := ⟨_, PySem.W.mg_of X GN v_MOST_SIGNS, ⟨_, rfl⟩⟩
  xf_InvalidCode := excF_mk su_InvalidCode dk_top X GN p_InvalidCode l2_InvalidCode l7_InvalidCode l9_InvalidCode l11_InvalidCode l13_InvalidCode rf_InvalidCode dk_r_InvalidCode dk_p_InvalidCode l3_InvalidCode s_InvalidCode y_InvalidCode r_InvalidCode l8_InvalidCode l10_InvalidCode o1 o2 ks_InvalidCode l17_InvalidCode l18_InvalidCode kx_InvalidCode l20_InvalidCode
  x_InvalidRow := ⟨PySem.W.mg_of X GN p_InvalidRow, q_InvalidRow, r_InvalidRow, s_InvalidRow, y_InvalidRow⟩
  x_InvalidText := ⟨PySem.W.mg_of X GN p_InvalidText, q_InvalidText, r_InvalidText, s_InvalidText, y_InvalidText⟩
  x_InvalidValue := ⟨PySem.W.mg_of X GN p_InvalidValue, q_InvalidValue, r_InvalidValue, s_InvalidValue, y_InvalidValue⟩
  x_StoreError := ⟨PySem.W.mg_of X GN p_StoreError, q_StoreError, r_StoreError, s_StoreError, y_StoreError⟩
  xa_InvalidCode_index := ⟨⟨g1_InvalidCode, g2_InvalidCode, s_InvalidCode, h_InvalidCode⟩, l20_InvalidCode⟩
  m_InvalidCode_InvalidCode := PySem.W.exm_ref s_InvalidCode h_InvalidCode y_InvalidCode m_InvalidCode_InvalidCode
  m_InvalidCode_InvalidRow := PySem.W.exm_ref s_InvalidRow h_InvalidRow y_InvalidRow m_InvalidCode_InvalidRow
  m_InvalidCode_InvalidText := PySem.W.exm_ref s_InvalidText h_InvalidText y_InvalidText m_InvalidCode_InvalidText
  m_InvalidCode_StoreError := PySem.W.exm_ref s_StoreError h_StoreError y_StoreError m_InvalidCode_StoreError
  m_InvalidRow_InvalidCode := PySem.W.exm_ref s_InvalidCode h_InvalidCode y_InvalidCode m_InvalidRow_InvalidCode
  m_InvalidRow_InvalidRow := PySem.W.exm_ref s_InvalidRow h_InvalidRow y_InvalidRow m_InvalidRow_InvalidRow
  m_InvalidRow_InvalidText := PySem.W.exm_ref s_InvalidText h_InvalidText y_InvalidText m_InvalidRow_InvalidText
  m_InvalidRow_StoreError := PySem.W.exm_ref s_StoreError h_StoreError y_StoreError m_InvalidRow_StoreError
  m_InvalidText_InvalidCode := PySem.W.exm_ref s_InvalidCode h_InvalidCode y_InvalidCode m_InvalidText_InvalidCode
  m_InvalidText_InvalidRow := PySem.W.exm_ref s_InvalidRow h_InvalidRow y_InvalidRow m_InvalidText_InvalidRow
  m_InvalidText_InvalidText := PySem.W.exm_ref s_InvalidText h_InvalidText y_InvalidText m_InvalidText_InvalidText
  m_InvalidText_StoreError := PySem.W.exm_ref s_StoreError h_StoreError y_StoreError m_InvalidText_StoreError
  m_InvalidValue_InvalidCode := PySem.W.exm_ref s_InvalidCode h_InvalidCode y_InvalidCode m_InvalidValue_InvalidCode
  m_InvalidValue_InvalidRow := PySem.W.exm_ref s_InvalidRow h_InvalidRow y_InvalidRow m_InvalidValue_InvalidRow
  m_InvalidValue_InvalidText := PySem.W.exm_ref s_InvalidText h_InvalidText y_InvalidText m_InvalidValue_InvalidText
  m_InvalidValue_StoreError := PySem.W.exm_ref s_StoreError h_StoreError y_StoreError m_InvalidValue_StoreError
  i_InvalidCode_InvalidRow := ⟨⟨u1_InvalidCode, u2_InvalidCode, u3_InvalidCode, u4_InvalidCode, u5_InvalidCode, u6, u7, u8_InvalidCode⟩, kit_ref (by decide) h_InvalidRow y_InvalidRow v_InvalidCode_InvalidRow⟩
  i_InvalidCode_InvalidValue := ⟨⟨u1_InvalidCode, u2_InvalidCode, u3_InvalidCode, u4_InvalidCode, u5_InvalidCode, u6, u7, u8_InvalidCode⟩, kit_ref (by decide) h_InvalidValue y_InvalidValue v_InvalidCode_InvalidValue⟩
  i_InvalidRow_InvalidRow := ⟨⟨u1_InvalidRow, u2_InvalidRow, u3_InvalidRow, u4_InvalidRow, u5_InvalidRow, u6, u7, u8_InvalidRow⟩, kit_self⟩
  i_InvalidRow_InvalidValue := ⟨⟨u1_InvalidRow, u2_InvalidRow, u3_InvalidRow, u4_InvalidRow, u5_InvalidRow, u6, u7, u8_InvalidRow⟩, kit_ref (by decide) h_InvalidValue y_InvalidValue v_InvalidRow_InvalidValue⟩
  i_InvalidText_InvalidRow := ⟨⟨u1_InvalidText, u2_InvalidText, u3_InvalidText, u4_InvalidText, u5_InvalidText, u6, u7, u8_InvalidText⟩, kit_ref (by decide) h_InvalidRow y_InvalidRow v_InvalidText_InvalidRow⟩
  i_InvalidText_InvalidValue := ⟨⟨u1_InvalidText, u2_InvalidText, u3_InvalidText, u4_InvalidText, u5_InvalidText, u6, u7, u8_InvalidText⟩, kit_ref (by decide) h_InvalidValue y_InvalidValue v_InvalidText_InvalidValue⟩
  i_InvalidValue_InvalidRow := ⟨⟨u1_InvalidValue, u2_InvalidValue, u3_InvalidValue, u4_InvalidValue, u5_InvalidValue, u6, u7, u8_InvalidValue⟩, kit_ref (by decide) h_InvalidRow y_InvalidRow v_InvalidValue_InvalidRow⟩
  i_InvalidValue_InvalidValue := ⟨⟨u1_InvalidValue, u2_InvalidValue, u3_InvalidValue, u4_InvalidValue, u5_InvalidValue, u6, u7, u8_InvalidValue⟩, kit_self⟩

theorem law_cal (T : Txt P K mg) : Cal P w K mg base 7 "law" s_law ["script"] sp_law := by
  have C_is_integer : Cal P w K mg base 1 "is_integer" s_is_integer ["value"] sp_is_integer := ok_is_integer T 
  have C_is_text : Cal P w K mg base 1 "is_text" s_is_text ["value"] sp_is_text := ok_is_text T 
  have C_is_value : Cal P w K mg base 2 "is_value" s_is_value ["value"] sp_is_value := ok_is_value T C_is_integer C_is_text
  have C_text_code : Cal P w K mg base 1 "text_code" s_text_code ["text"] sp_text_code := ok_text_code T 
  have C_number_code : Cal P w K mg base 1 "number_code" s_number_code ["number"] sp_number_code := ok_number_code T 
  have C_code_of : Cal P w K mg base 2 "code_of" s_code_of ["value"] sp_code_of := ok_code_of T C_text_code C_number_code
  have C_value_code : Cal P w K mg base 3 "value_code" s_value_code ["value"] sp_value_code := ok_value_code T C_is_value C_code_of
  have C_row_code : Cal P w K mg base 3 "row_code" s_row_code ["values"] sp_row_code := ok_row_code T C_is_value C_code_of
  have C_text_from : Cal P w K mg base 3 "text_from" s_text_from ["code", "at", "most"] sp_text_from := ok_text_from T 
  have C_number_from : Cal P w K mg base 3 "number_from" s_number_from ["code", "at", "below"] sp_number_from := ok_number_from T 
  have C_value_from : Cal P w K mg base 4 "value_from" s_value_from ["code", "at"] sp_value_from := ok_value_from T C_text_from C_number_from
  have C_values_told : Cal P w K mg base 5 "values_told" s_values_told ["code"] sp_values_told := ok_values_told T C_is_text C_value_from
  have C_law_jar : Cal P w K mg base 1 "_law_jar" s_law_jar ["cell"] sp_law_jar := ok_law_jar T 
  have C_law_drawn : Cal P w K mg base 1 "_law_drawn" s_law_drawn ["jar", "many"] sp_law_drawn := ok_law_drawn T 
  have C_law_same : Cal P w K mg base 5 "_law_same" s_law_same ["found", "due"] sp_law_same := ok_law_same T 
  have C_law_signs : Cal P w K mg base 1 "_law_signs" s_law_signs [] sp_law_signs := ok_law_signs T 
  have C_law_code : Cal P w K mg base 1 "_law_code" s_law_code ["value"] sp_law_code := ok_law_code T 
  have C_law_text : Cal P w K mg base 2 "_law_text" s_law_text ["jar"] sp_law_text := ok_law_text T C_law_drawn C_law_signs
  have C_law_number : Cal P w K mg base 2 "_law_number" s_law_number ["jar"] sp_law_number := ok_law_number T C_law_drawn
  have C_law_value : Cal P w K mg base 3 "_law_value" s_law_value ["jar"] sp_law_value := ok_law_value T C_law_drawn C_law_number C_law_text
  have C_law_text_at : Cal P w K mg base 1 "_law_text_at" s_law_text_at ["code", "at"] sp_law_text_at := ok_law_text_at T 
  have C_law_number_at : Cal P w K mg base 1 "_law_number_at" s_law_number_at ["code", "at", "below"] sp_law_number_at := ok_law_number_at T 
  have C_law_read : Cal P w K mg base 2 "_law_read" s_law_read ["code"] sp_law_read := ok_law_read T C_law_text_at C_law_number_at
  have C_law_told : Cal P w K mg base 6 "_law_told" s_law_told ["code"] sp_law_told := ok_law_told T C_values_told
  have C_law_refused : Cal P w K mg base 4 "_law_refused" s_law_refused ["values"] sp_law_refused := ok_law_refused T C_row_code
  have C_law_spoilt : Cal P w K mg base 2 "_law_spoilt" s_law_spoilt ["jar", "code"] sp_law_spoilt := ok_law_spoilt T C_law_drawn
  have C_law_edges : Cal P w K mg base 1 "_law_edges" s_law_edges [] sp_law_edges := ok_law_edges T 
  have C_law_value_refused : Cal P w K mg base 4 "_law_value_refused" s_law_value_refused ["value"] sp_law_value_refused := ok_law_value_refused T C_value_code
  have C_law : Cal P w K mg base 7 "law" s_law ["script"] sp_law := ok_law T C_law_edges C_law_same C_law_read C_law_told C_law_refused C_law_jar C_law_drawn C_law_value C_law_code C_row_code C_values_told C_value_code C_law_spoilt C_law_value_refused
  exact C_law
theorem all_mk {P : Program} {w : World} {K : PySem.W.Frag} {h : Heap} {mg : Str → Option Value} {fa : Addr} (hm : mg "law" = some (.ref fa)) (X : K.In h)
  (GN : h.Ns mainGlobals mg)
  {f0 : Addr} {oc0 kV0 dc0 pm0 cd0 ct0 : Value} {od0 an0 : Option Addr} {sl0 : Array (Option Value)}
  (a0 : PySem.W.nsIn K mainGlobals "is_integer" = some (some (.ref f0)))
  (l0 : K.lookup f0 = some ⟨oc0, od0, .func (PySem.W.fnOf "is_integer" "is_integer" (defArgs s_is_integer) (defBody s_is_integer) (defScope s_is_integer) .none kV0 dc0 pm0 an0 cd0 ct0), sl0⟩)
  (c0 : PySem.W.codeIn K cd0 "is_integer" = true) (k0 : PySem.W.keepIn K (.ref f0) = true)
  {f1 : Addr} {oc1 kV1 dc1 pm1 cd1 ct1 : Value} {od1 an1 : Option Addr} {sl1 : Array (Option Value)}
  (a1 : PySem.W.nsIn K mainGlobals "is_text" = some (some (.ref f1)))
  (l1 : K.lookup f1 = some ⟨oc1, od1, .func (PySem.W.fnOf "is_text" "is_text" (defArgs s_is_text) (defBody s_is_text) (defScope s_is_text) .none kV1 dc1 pm1 an1 cd1 ct1), sl1⟩)
  (c1 : PySem.W.codeIn K cd1 "is_text" = true) (k1 : PySem.W.keepIn K (.ref f1) = true)
  {f2 : Addr} {oc2 kV2 dc2 pm2 cd2 ct2 : Value} {od2 an2 : Option Addr} {sl2 : Array (Option Value)}
  (a2 : PySem.W.nsIn K mainGlobals "is_value" = some (some (.ref f2)))
  (l2 : K.lookup f2 = some ⟨oc2, od2, .func (PySem.W.fnOf "is_value" "is_value" (defArgs s_is_value) (defBody s_is_value) (defScope s_is_value) .none kV2 dc2 pm2 an2 cd2 ct2), sl2⟩)
  (c2 : PySem.W.codeIn K cd2 "is_value" = true) (k2 : PySem.W.keepIn K (.ref f2) = true)
  {f3 : Addr} {oc3 kV3 dc3 pm3 cd3 ct3 : Value} {od3 an3 : Option Addr} {sl3 : Array (Option Value)}
  (a3 : PySem.W.nsIn K mainGlobals "text_code" = some (some (.ref f3)))
  (l3 : K.lookup f3 = some ⟨oc3, od3, .func (PySem.W.fnOf "text_code" "text_code" (defArgs s_text_code) (defBody s_text_code) (defScope s_text_code) .none kV3 dc3 pm3 an3 cd3 ct3), sl3⟩)
  (c3 : PySem.W.codeIn K cd3 "text_code" = true) (k3 : PySem.W.keepIn K (.ref f3) = true)
  {f4 : Addr} {oc4 kV4 dc4 pm4 cd4 ct4 : Value} {od4 an4 : Option Addr} {sl4 : Array (Option Value)}
  (a4 : PySem.W.nsIn K mainGlobals "number_code" = some (some (.ref f4)))
  (l4 : K.lookup f4 = some ⟨oc4, od4, .func (PySem.W.fnOf "number_code" "number_code" (defArgs s_number_code) (defBody s_number_code) (defScope s_number_code) .none kV4 dc4 pm4 an4 cd4 ct4), sl4⟩)
  (c4 : PySem.W.codeIn K cd4 "number_code" = true) (k4 : PySem.W.keepIn K (.ref f4) = true)
  {f5 : Addr} {oc5 kV5 dc5 pm5 cd5 ct5 : Value} {od5 an5 : Option Addr} {sl5 : Array (Option Value)}
  (a5 : PySem.W.nsIn K mainGlobals "code_of" = some (some (.ref f5)))
  (l5 : K.lookup f5 = some ⟨oc5, od5, .func (PySem.W.fnOf "code_of" "code_of" (defArgs s_code_of) (defBody s_code_of) (defScope s_code_of) .none kV5 dc5 pm5 an5 cd5 ct5), sl5⟩)
  (c5 : PySem.W.codeIn K cd5 "code_of" = true) (k5 : PySem.W.keepIn K (.ref f5) = true)
  {f6 : Addr} {oc6 kV6 dc6 pm6 cd6 ct6 : Value} {od6 an6 : Option Addr} {sl6 : Array (Option Value)}
  (a6 : PySem.W.nsIn K mainGlobals "value_code" = some (some (.ref f6)))
  (l6 : K.lookup f6 = some ⟨oc6, od6, .func (PySem.W.fnOf "value_code" "value_code" (defArgs s_value_code) (defBody s_value_code) (defScope s_value_code) .none kV6 dc6 pm6 an6 cd6 ct6), sl6⟩)
  (c6 : PySem.W.codeIn K cd6 "value_code" = true) (k6 : PySem.W.keepIn K (.ref f6) = true)
  {f7 : Addr} {oc7 kV7 dc7 pm7 cd7 ct7 : Value} {od7 an7 : Option Addr} {sl7 : Array (Option Value)}
  (a7 : PySem.W.nsIn K mainGlobals "row_code" = some (some (.ref f7)))
  (l7 : K.lookup f7 = some ⟨oc7, od7, .func (PySem.W.fnOf "row_code" "row_code" (defArgs s_row_code) (defBody s_row_code) (defScope s_row_code) .none kV7 dc7 pm7 an7 cd7 ct7), sl7⟩)
  (c7 : PySem.W.codeIn K cd7 "row_code" = true) (k7 : PySem.W.keepIn K (.ref f7) = true)
  {f8 : Addr} {oc8 kV8 dc8 pm8 cd8 ct8 : Value} {od8 an8 : Option Addr} {sl8 : Array (Option Value)}
  (a8 : PySem.W.nsIn K mainGlobals "text_from" = some (some (.ref f8)))
  (l8 : K.lookup f8 = some ⟨oc8, od8, .func (PySem.W.fnOf "text_from" "text_from" (defArgs s_text_from) (defBody s_text_from) (defScope s_text_from) .none kV8 dc8 pm8 an8 cd8 ct8), sl8⟩)
  (c8 : PySem.W.codeIn K cd8 "text_from" = true) (k8 : PySem.W.keepIn K (.ref f8) = true)
  {f9 : Addr} {oc9 kV9 dc9 pm9 cd9 ct9 : Value} {od9 an9 : Option Addr} {sl9 : Array (Option Value)}
  (a9 : PySem.W.nsIn K mainGlobals "number_from" = some (some (.ref f9)))
  (l9 : K.lookup f9 = some ⟨oc9, od9, .func (PySem.W.fnOf "number_from" "number_from" (defArgs s_number_from) (defBody s_number_from) (defScope s_number_from) .none kV9 dc9 pm9 an9 cd9 ct9), sl9⟩)
  (c9 : PySem.W.codeIn K cd9 "number_from" = true) (k9 : PySem.W.keepIn K (.ref f9) = true)
  {f10 : Addr} {oc10 kV10 dc10 pm10 cd10 ct10 : Value} {od10 an10 : Option Addr} {sl10 : Array (Option Value)}
  (a10 : PySem.W.nsIn K mainGlobals "value_from" = some (some (.ref f10)))
  (l10 : K.lookup f10 = some ⟨oc10, od10, .func (PySem.W.fnOf "value_from" "value_from" (defArgs s_value_from) (defBody s_value_from) (defScope s_value_from) .none kV10 dc10 pm10 an10 cd10 ct10), sl10⟩)
  (c10 : PySem.W.codeIn K cd10 "value_from" = true) (k10 : PySem.W.keepIn K (.ref f10) = true)
  {f11 : Addr} {oc11 kV11 dc11 pm11 cd11 ct11 : Value} {od11 an11 : Option Addr} {sl11 : Array (Option Value)}
  (a11 : PySem.W.nsIn K mainGlobals "values_told" = some (some (.ref f11)))
  (l11 : K.lookup f11 = some ⟨oc11, od11, .func (PySem.W.fnOf "values_told" "values_told" (defArgs s_values_told) (defBody s_values_told) (defScope s_values_told) .none kV11 dc11 pm11 an11 cd11 ct11), sl11⟩)
  (c11 : PySem.W.codeIn K cd11 "values_told" = true) (k11 : PySem.W.keepIn K (.ref f11) = true)
  {f12 : Addr} {oc12 kV12 dc12 pm12 cd12 ct12 : Value} {od12 an12 : Option Addr} {sl12 : Array (Option Value)}
  (a12 : PySem.W.nsIn K mainGlobals "_law_jar" = some (some (.ref f12)))
  (l12 : K.lookup f12 = some ⟨oc12, od12, .func (PySem.W.fnOf "_law_jar" "_law_jar" (defArgs s_law_jar) (defBody s_law_jar) (defScope s_law_jar) .none kV12 dc12 pm12 an12 cd12 ct12), sl12⟩)
  (c12 : PySem.W.codeIn K cd12 "_law_jar" = true) (k12 : PySem.W.keepIn K (.ref f12) = true)
  {f13 : Addr} {oc13 kV13 dc13 pm13 cd13 ct13 : Value} {od13 an13 : Option Addr} {sl13 : Array (Option Value)}
  (a13 : PySem.W.nsIn K mainGlobals "_law_drawn" = some (some (.ref f13)))
  (l13 : K.lookup f13 = some ⟨oc13, od13, .func (PySem.W.fnOf "_law_drawn" "_law_drawn" (defArgs s_law_drawn) (defBody s_law_drawn) (defScope s_law_drawn) .none kV13 dc13 pm13 an13 cd13 ct13), sl13⟩)
  (c13 : PySem.W.codeIn K cd13 "_law_drawn" = true) (k13 : PySem.W.keepIn K (.ref f13) = true)
  {f14 : Addr} {oc14 kV14 dc14 pm14 cd14 ct14 : Value} {od14 an14 : Option Addr} {sl14 : Array (Option Value)}
  (a14 : PySem.W.nsIn K mainGlobals "_law_same" = some (some (.ref f14)))
  (l14 : K.lookup f14 = some ⟨oc14, od14, .func (PySem.W.fnOf "_law_same" "_law_same" (defArgs s_law_same) (defBody s_law_same) (defScope s_law_same) .none kV14 dc14 pm14 an14 cd14 ct14), sl14⟩)
  (c14 : PySem.W.codeIn K cd14 "_law_same" = true) (k14 : PySem.W.keepIn K (.ref f14) = true)
  {f15 : Addr} {oc15 kV15 dc15 pm15 cd15 ct15 : Value} {od15 an15 : Option Addr} {sl15 : Array (Option Value)}
  (a15 : PySem.W.nsIn K mainGlobals "_law_signs" = some (some (.ref f15)))
  (l15 : K.lookup f15 = some ⟨oc15, od15, .func (PySem.W.fnOf "_law_signs" "_law_signs" (defArgs s_law_signs) (defBody s_law_signs) (defScope s_law_signs) .none kV15 dc15 pm15 an15 cd15 ct15), sl15⟩)
  (c15 : PySem.W.codeIn K cd15 "_law_signs" = true) (k15 : PySem.W.keepIn K (.ref f15) = true)
  {f16 : Addr} {oc16 kV16 dc16 pm16 cd16 ct16 : Value} {od16 an16 : Option Addr} {sl16 : Array (Option Value)}
  (a16 : PySem.W.nsIn K mainGlobals "_law_code" = some (some (.ref f16)))
  (l16 : K.lookup f16 = some ⟨oc16, od16, .func (PySem.W.fnOf "_law_code" "_law_code" (defArgs s_law_code) (defBody s_law_code) (defScope s_law_code) .none kV16 dc16 pm16 an16 cd16 ct16), sl16⟩)
  (c16 : PySem.W.codeIn K cd16 "_law_code" = true) (k16 : PySem.W.keepIn K (.ref f16) = true)
  {f17 : Addr} {oc17 kV17 dc17 pm17 cd17 ct17 : Value} {od17 an17 : Option Addr} {sl17 : Array (Option Value)}
  (a17 : PySem.W.nsIn K mainGlobals "_law_text" = some (some (.ref f17)))
  (l17 : K.lookup f17 = some ⟨oc17, od17, .func (PySem.W.fnOf "_law_text" "_law_text" (defArgs s_law_text) (defBody s_law_text) (defScope s_law_text) .none kV17 dc17 pm17 an17 cd17 ct17), sl17⟩)
  (c17 : PySem.W.codeIn K cd17 "_law_text" = true) (k17 : PySem.W.keepIn K (.ref f17) = true)
  {f18 : Addr} {oc18 kV18 dc18 pm18 cd18 ct18 : Value} {od18 an18 : Option Addr} {sl18 : Array (Option Value)}
  (a18 : PySem.W.nsIn K mainGlobals "_law_number" = some (some (.ref f18)))
  (l18 : K.lookup f18 = some ⟨oc18, od18, .func (PySem.W.fnOf "_law_number" "_law_number" (defArgs s_law_number) (defBody s_law_number) (defScope s_law_number) .none kV18 dc18 pm18 an18 cd18 ct18), sl18⟩)
  (c18 : PySem.W.codeIn K cd18 "_law_number" = true) (k18 : PySem.W.keepIn K (.ref f18) = true)
  {f19 : Addr} {oc19 kV19 dc19 pm19 cd19 ct19 : Value} {od19 an19 : Option Addr} {sl19 : Array (Option Value)}
  (a19 : PySem.W.nsIn K mainGlobals "_law_value" = some (some (.ref f19)))
  (l19 : K.lookup f19 = some ⟨oc19, od19, .func (PySem.W.fnOf "_law_value" "_law_value" (defArgs s_law_value) (defBody s_law_value) (defScope s_law_value) .none kV19 dc19 pm19 an19 cd19 ct19), sl19⟩)
  (c19 : PySem.W.codeIn K cd19 "_law_value" = true) (k19 : PySem.W.keepIn K (.ref f19) = true)
  {f20 : Addr} {oc20 kV20 dc20 pm20 cd20 ct20 : Value} {od20 an20 : Option Addr} {sl20 : Array (Option Value)}
  (a20 : PySem.W.nsIn K mainGlobals "_law_text_at" = some (some (.ref f20)))
  (l20 : K.lookup f20 = some ⟨oc20, od20, .func (PySem.W.fnOf "_law_text_at" "_law_text_at" (defArgs s_law_text_at) (defBody s_law_text_at) (defScope s_law_text_at) .none kV20 dc20 pm20 an20 cd20 ct20), sl20⟩)
  (c20 : PySem.W.codeIn K cd20 "_law_text_at" = true) (k20 : PySem.W.keepIn K (.ref f20) = true)
  {f21 : Addr} {oc21 kV21 dc21 pm21 cd21 ct21 : Value} {od21 an21 : Option Addr} {sl21 : Array (Option Value)}
  (a21 : PySem.W.nsIn K mainGlobals "_law_number_at" = some (some (.ref f21)))
  (l21 : K.lookup f21 = some ⟨oc21, od21, .func (PySem.W.fnOf "_law_number_at" "_law_number_at" (defArgs s_law_number_at) (defBody s_law_number_at) (defScope s_law_number_at) .none kV21 dc21 pm21 an21 cd21 ct21), sl21⟩)
  (c21 : PySem.W.codeIn K cd21 "_law_number_at" = true) (k21 : PySem.W.keepIn K (.ref f21) = true)
  {f22 : Addr} {oc22 kV22 dc22 pm22 cd22 ct22 : Value} {od22 an22 : Option Addr} {sl22 : Array (Option Value)}
  (a22 : PySem.W.nsIn K mainGlobals "_law_read" = some (some (.ref f22)))
  (l22 : K.lookup f22 = some ⟨oc22, od22, .func (PySem.W.fnOf "_law_read" "_law_read" (defArgs s_law_read) (defBody s_law_read) (defScope s_law_read) .none kV22 dc22 pm22 an22 cd22 ct22), sl22⟩)
  (c22 : PySem.W.codeIn K cd22 "_law_read" = true) (k22 : PySem.W.keepIn K (.ref f22) = true)
  {f23 : Addr} {oc23 kV23 dc23 pm23 cd23 ct23 : Value} {od23 an23 : Option Addr} {sl23 : Array (Option Value)}
  (a23 : PySem.W.nsIn K mainGlobals "_law_told" = some (some (.ref f23)))
  (l23 : K.lookup f23 = some ⟨oc23, od23, .func (PySem.W.fnOf "_law_told" "_law_told" (defArgs s_law_told) (defBody s_law_told) (defScope s_law_told) .none kV23 dc23 pm23 an23 cd23 ct23), sl23⟩)
  (c23 : PySem.W.codeIn K cd23 "_law_told" = true) (k23 : PySem.W.keepIn K (.ref f23) = true)
  {f24 : Addr} {oc24 kV24 dc24 pm24 cd24 ct24 : Value} {od24 an24 : Option Addr} {sl24 : Array (Option Value)}
  (a24 : PySem.W.nsIn K mainGlobals "_law_refused" = some (some (.ref f24)))
  (l24 : K.lookup f24 = some ⟨oc24, od24, .func (PySem.W.fnOf "_law_refused" "_law_refused" (defArgs s_law_refused) (defBody s_law_refused) (defScope s_law_refused) .none kV24 dc24 pm24 an24 cd24 ct24), sl24⟩)
  (c24 : PySem.W.codeIn K cd24 "_law_refused" = true) (k24 : PySem.W.keepIn K (.ref f24) = true)
  {f25 : Addr} {oc25 kV25 dc25 pm25 cd25 ct25 : Value} {od25 an25 : Option Addr} {sl25 : Array (Option Value)}
  (a25 : PySem.W.nsIn K mainGlobals "_law_spoilt" = some (some (.ref f25)))
  (l25 : K.lookup f25 = some ⟨oc25, od25, .func (PySem.W.fnOf "_law_spoilt" "_law_spoilt" (defArgs s_law_spoilt) (defBody s_law_spoilt) (defScope s_law_spoilt) .none kV25 dc25 pm25 an25 cd25 ct25), sl25⟩)
  (c25 : PySem.W.codeIn K cd25 "_law_spoilt" = true) (k25 : PySem.W.keepIn K (.ref f25) = true)
  {f26 : Addr} {oc26 kV26 dc26 pm26 cd26 ct26 : Value} {od26 an26 : Option Addr} {sl26 : Array (Option Value)}
  (a26 : PySem.W.nsIn K mainGlobals "_law_edges" = some (some (.ref f26)))
  (l26 : K.lookup f26 = some ⟨oc26, od26, .func (PySem.W.fnOf "_law_edges" "_law_edges" (defArgs s_law_edges) (defBody s_law_edges) (defScope s_law_edges) .none kV26 dc26 pm26 an26 cd26 ct26), sl26⟩)
  (c26 : PySem.W.codeIn K cd26 "_law_edges" = true) (k26 : PySem.W.keepIn K (.ref f26) = true)
  {f27 : Addr} {oc27 kV27 dc27 pm27 cd27 ct27 : Value} {od27 an27 : Option Addr} {sl27 : Array (Option Value)}
  (a27 : PySem.W.nsIn K mainGlobals "_law_value_refused" = some (some (.ref f27)))
  (l27 : K.lookup f27 = some ⟨oc27, od27, .func (PySem.W.fnOf "_law_value_refused" "_law_value_refused" (defArgs s_law_value_refused) (defBody s_law_value_refused) (defScope s_law_value_refused) .none kV27 dc27 pm27 an27 cd27 ct27), sl27⟩)
  (c27 : PySem.W.codeIn K cd27 "_law_value_refused" = true) (k27 : PySem.W.keepIn K (.ref f27) = true)
  {f28 : Addr} {oc28 kV28 dc28 pm28 cd28 ct28 : Value} {od28 an28 : Option Addr} {sl28 : Array (Option Value)}
  (a28 : PySem.W.nsIn K mainGlobals "law" = some (some (.ref f28)))
  (l28 : K.lookup f28 = some ⟨oc28, od28, .func (PySem.W.fnOf "law" "law" (defArgs s_law) (defBody s_law) (defScope s_law) .none kV28 dc28 pm28 an28 cd28 ct28), sl28⟩)
  (c28 : PySem.W.codeIn K cd28 "law" = true) (k28 : PySem.W.keepIn K (.ref f28) = true)
  (z_abs : PySem.W.nsIn K mainGlobals "abs" = some none)
  (z_all : PySem.W.nsIn K mainGlobals "all" = some none)
  (z_bool : PySem.W.nsIn K mainGlobals "bool" = some none)
  (z_int : PySem.W.nsIn K mainGlobals "int" = some none)
  (z_isinstance : PySem.W.nsIn K mainGlobals "isinstance" = some none)
  (z_len : PySem.W.nsIn K mainGlobals "len" = some none)
  (z_list : PySem.W.nsIn K mainGlobals "list" = some none)
  (z_max : PySem.W.nsIn K mainGlobals "max" = some none)
  (z_range : PySem.W.nsIn K mainGlobals "range" = some none)
  (z_str : PySem.W.nsIn K mainGlobals "str" = some none)
  (z_tuple : PySem.W.nsIn K mainGlobals "tuple" = some none)
  {t_COUNTS : Tok}
  (v_COUNTS : PySem.W.nsIn K mainGlobals "COUNTS" = some (some (.str "ABCDEFGHIJKLMNOPQRSTUVWXYZ[\\]^_" t_COUNTS)))
  {t_DIGITS : Tok}
  (v_DIGITS : PySem.W.nsIn K mainGlobals "DIGITS" = some (some (.str "0123456789" t_DIGITS)))
  {t_END : Tok}
  (v_END : PySem.W.nsIn K mainGlobals "END" = some (some (.str " " t_END)))
  {t_GREATEST_SIGN : Tok}
  (v_GREATEST_SIGN : PySem.W.nsIn K mainGlobals "GREATEST_SIGN" = some (some (.str "~" t_GREATEST_SIGN)))
  {t_LEAST_SIGN : Tok}
  (v_LEAST_SIGN : PySem.W.nsIn K mainGlobals "LEAST_SIGN" = some (some (.str " " t_LEAST_SIGN)))
  {t_MARK : Tok}
  (v_MARK : PySem.W.nsIn K mainGlobals "MARK" = some (some (.str "!" t_MARK)))
  {t_MOST_FIGURES : Tok}
  (v_MOST_FIGURES : PySem.W.nsIn K mainGlobals "MOST_FIGURES" = some (some (.int 30 t_MOST_FIGURES)))
  {t_MOST_INTEGER : Tok}
  (v_MOST_INTEGER : PySem.W.nsIn K mainGlobals "MOST_INTEGER" = some (some (.int 999999999999999999999999999999 t_MOST_INTEGER)))
  {t_MOST_SIGNS : Tok}
  (v_MOST_SIGNS : PySem.W.nsIn K mainGlobals "MOST_SIGNS" = some (some (.int 200 t_MOST_SIGNS)))
  (dk_top : (P.main.scope.names.lookup ("super" : Str)).isSome = false) (o1 : PySem.W.nsIn K mainGlobals "super" = some none) (o2 : PySem.W.nsIn K cStatics "thirdparty.any" = some none)
  {fi_InvalidCode cc_InvalidCode cda_InvalidCode N_InvalidCode : Addr} {oc_InvalidCode kv_InvalidCode dc_InvalidCode pm_InvalidCode ct_InvalidCode : Value} {od_InvalidCode an_InvalidCode dd_InvalidCode : Option Addr} {sl_InvalidCode : Array (Option Value)} {nm_InvalidCode qn_InvalidCode : Str} {bs_InvalidCode bm_InvalidCode sub_InvalidCode : List Value} {sn_InvalidCode : List Str} {ab_InvalidCode : Bool} {col_InvalidCode : Option Bool} {ka_InvalidCode kb_InvalidCode kc_InvalidCode kd_InvalidCode ke_InvalidCode : Option Value} {v1_InvalidCode v2_InvalidCode : Value} {w1_InvalidCode w2_InvalidCode : Option Addr} {vs_InvalidCode : Array Value} {t1_InvalidCode t2_InvalidCode : Array (Option Value)} {file_InvalidCode : Str} {ft_InvalidCode : Tok}
  (p_InvalidCode : PySem.W.nsIn K mainGlobals "InvalidCode" = some (some (.ref a_InvalidCode)))
  (l2_InvalidCode : K.lookup a_InvalidCode = some (excClassObj nm_InvalidCode qn_InvalidCode a_InvalidCode N_InvalidCode bs_InvalidCode bm_InvalidCode true sn_InvalidCode sub_InvalidCode ab_InvalidCode col_InvalidCode dd_InvalidCode ka_InvalidCode kb_InvalidCode kc_InvalidCode kd_InvalidCode ke_InvalidCode "ValueError.__new__"))
  (l7_InvalidCode : PySem.W.findIn K (.ref a_InvalidCode) "__init__" = some (some (.ref fi_InvalidCode)))
  (l9_InvalidCode : K.lookup fi_InvalidCode = some ⟨oc_InvalidCode, od_InvalidCode, .func (PySem.W.fnX "__init__" "InvalidCode.__init__" (defArgs s_InvalidCode) (defBody s_InvalidCode) (defScope s_InvalidCode) [("__class__", cc_InvalidCode)] .none kv_InvalidCode dc_InvalidCode pm_InvalidCode an_InvalidCode (.ref cda_InvalidCode) ct_InvalidCode), sl_InvalidCode⟩)
  (l11_InvalidCode : K.lookup cda_InvalidCode = some ⟨v1_InvalidCode, w1_InvalidCode, .fields vs_InvalidCode, t1_InvalidCode⟩)
  (l13_InvalidCode : K.lookup cc_InvalidCode = some ⟨v2_InvalidCode, w2_InvalidCode, .cell (some (.ref a_InvalidCode)), t2_InvalidCode⟩)
  (rf_InvalidCode : vs_InvalidCode[2]? = some (.str file_InvalidCode ft_InvalidCode))
  (dk_r_InvalidCode : PySem.HandSPX.refsVE bm_InvalidCode = true)
  (dk_p_InvalidCode : ((P.main.file : Str) == file_InvalidCode) = true)
  (l3_InvalidCode : PySem.W.findIn K (.ref a_InvalidCode) "__setattr__" = some (some (.builtin "object.__setattr__")))
  (s_InvalidCode : PySem.W.subIn K (.ref a_InvalidCode) (.type "BaseException") = some true)
  (y_InvalidCode : PySem.W.typeIn K (.ref a_InvalidCode) = some (.type "type"))
  (r_InvalidCode : PySem.W.keepIn K (.ref a_InvalidCode) = true)
  (l8_InvalidCode : PySem.W.typeIn K (.ref fi_InvalidCode) = some (.type "function"))
  (l10_InvalidCode : PySem.W.codeIn K (.ref cda_InvalidCode) "InvalidCode.__init__" = true)
  (ks_InvalidCode : PySem.W.ks_superIn K a_InvalidCode a_InvalidCode "__init__" = some (some (.builtin "ValueError.__init__")))
  (l17_InvalidCode : PySem.W.subIn K (.ref a_InvalidCode) (.type "ValueError") = some true)
  (l18_InvalidCode : PySem.W.mroIn K a_InvalidCode (.ref a_InvalidCode) = some true)
  (kx_InvalidCode : PySem.W.excInitIn K a_InvalidCode [.type "ValueError", .type "Exception", .type "BaseException", .type "object"] "ValueError.__new__" = true)
  (l20_InvalidCode : PySem.W.findIn K (.ref a_InvalidCode) "index" = some none)
  (p_InvalidRow : PySem.W.nsIn K mainGlobals "InvalidRow" = some (some (.ref a_InvalidRow))) (q_InvalidRow : PySem.W.excIn K a_InvalidRow [.type "ValueError", .type "Exception", .type "BaseException", .type "object"] "ValueError.__new__" = true) (r_InvalidRow : PySem.W.keepIn K (.ref a_InvalidRow) = true) (s_InvalidRow : PySem.W.subIn K (.ref a_InvalidRow) (.type "BaseException") = some true) (y_InvalidRow : PySem.W.typeIn K (.ref a_InvalidRow) = some (.type "type"))
  (p_InvalidText : PySem.W.nsIn K mainGlobals "InvalidText" = some (some (.ref a_InvalidText))) (q_InvalidText : PySem.W.excIn K a_InvalidText [.type "ValueError", .type "Exception", .type "BaseException", .type "object"] "ValueError.__new__" = true) (r_InvalidText : PySem.W.keepIn K (.ref a_InvalidText) = true) (s_InvalidText : PySem.W.subIn K (.ref a_InvalidText) (.type "BaseException") = some true) (y_InvalidText : PySem.W.typeIn K (.ref a_InvalidText) = some (.type "type"))
  (p_InvalidValue : PySem.W.nsIn K mainGlobals "InvalidValue" = some (some (.ref a_InvalidValue))) (q_InvalidValue : PySem.W.excIn K a_InvalidValue [.type "ValueError", .type "Exception", .type "BaseException", .type "object"] "ValueError.__new__" = true) (r_InvalidValue : PySem.W.keepIn K (.ref a_InvalidValue) = true) (s_InvalidValue : PySem.W.subIn K (.ref a_InvalidValue) (.type "BaseException") = some true) (y_InvalidValue : PySem.W.typeIn K (.ref a_InvalidValue) = some (.type "type"))
  (p_StoreError : PySem.W.nsIn K mainGlobals "StoreError" = some (some (.ref a_StoreError))) (q_StoreError : PySem.W.excIn K a_StoreError [.type "ValueError", .type "Exception", .type "BaseException", .type "object"] "ValueError.__new__" = true) (r_StoreError : PySem.W.keepIn K (.ref a_StoreError) = true) (s_StoreError : PySem.W.subIn K (.ref a_StoreError) (.type "BaseException") = some true) (y_StoreError : PySem.W.typeIn K (.ref a_StoreError) = some (.type "type"))
  (g1_InvalidCode : PySem.W.findIn K (.ref a_InvalidCode) "__getattribute__" = some (some (.builtin "BaseException.__getattribute__"))) (g2_InvalidCode : PySem.W.findIn K (.ref a_InvalidCode) "__getattr__" = some none)
  (h_InvalidCode : PySem.W.hasDictIn K a_InvalidCode = true)
  (h_InvalidRow : PySem.W.hasDictIn K a_InvalidRow = true)
  (h_InvalidText : PySem.W.hasDictIn K a_InvalidText = true)
  (h_InvalidValue : PySem.W.hasDictIn K a_InvalidValue = true)
  (h_StoreError : PySem.W.hasDictIn K a_StoreError = true)
  (m_InvalidCode_InvalidCode : PySem.W.subIn K (.ref a_InvalidCode) (.ref a_InvalidCode) = some true)
  (m_InvalidCode_InvalidRow : PySem.W.subIn K (.ref a_InvalidCode) (.ref a_InvalidRow) = some false)
  (m_InvalidCode_InvalidText : PySem.W.subIn K (.ref a_InvalidCode) (.ref a_InvalidText) = some false)
  (m_InvalidCode_StoreError : PySem.W.subIn K (.ref a_InvalidCode) (.ref a_StoreError) = some true)
  (m_InvalidRow_InvalidCode : PySem.W.subIn K (.ref a_InvalidRow) (.ref a_InvalidCode) = some false)
  (m_InvalidRow_InvalidRow : PySem.W.subIn K (.ref a_InvalidRow) (.ref a_InvalidRow) = some true)
  (m_InvalidRow_InvalidText : PySem.W.subIn K (.ref a_InvalidRow) (.ref a_InvalidText) = some false)
  (m_InvalidRow_StoreError : PySem.W.subIn K (.ref a_InvalidRow) (.ref a_StoreError) = some true)
  (m_InvalidText_InvalidCode : PySem.W.subIn K (.ref a_InvalidText) (.ref a_InvalidCode) = some false)
  (m_InvalidText_InvalidRow : PySem.W.subIn K (.ref a_InvalidText) (.ref a_InvalidRow) = some false)
  (m_InvalidText_InvalidText : PySem.W.subIn K (.ref a_InvalidText) (.ref a_InvalidText) = some true)
  (m_InvalidText_StoreError : PySem.W.subIn K (.ref a_InvalidText) (.ref a_StoreError) = some true)
  (m_InvalidValue_InvalidCode : PySem.W.subIn K (.ref a_InvalidValue) (.ref a_InvalidCode) = some false)
  (m_InvalidValue_InvalidRow : PySem.W.subIn K (.ref a_InvalidValue) (.ref a_InvalidRow) = some false)
  (m_InvalidValue_InvalidText : PySem.W.subIn K (.ref a_InvalidValue) (.ref a_InvalidText) = some false)
  (m_InvalidValue_StoreError : PySem.W.subIn K (.ref a_InvalidValue) (.ref a_StoreError) = some true)
  (u1_InvalidCode : PySem.W.findIn K (.ref a_InvalidCode) "__getattribute__" = some (some (.builtin "BaseException.__getattribute__")))
  (u2_InvalidCode : PySem.W.findIn K (.ref a_InvalidCode) "__getattr__" = some none)
  (u3_InvalidCode : PySem.W.subIn K (.ref a_InvalidCode) (.type "BaseException") = some true)
  (u4_InvalidCode : PySem.W.hasDictIn K a_InvalidCode = true) (u5_InvalidCode : PySem.W.findIn K (.ref a_InvalidCode) "__class__" = some (some (.builtin "object.__class__")))
  (u8_InvalidCode : PySem.W.mroIn K a_InvalidCode (.type "object") = some true)
  (u1_InvalidRow : PySem.W.findIn K (.ref a_InvalidRow) "__getattribute__" = some (some (.builtin "BaseException.__getattribute__")))
  (u2_InvalidRow : PySem.W.findIn K (.ref a_InvalidRow) "__getattr__" = some none)
  (u3_InvalidRow : PySem.W.subIn K (.ref a_InvalidRow) (.type "BaseException") = some true)
  (u4_InvalidRow : PySem.W.hasDictIn K a_InvalidRow = true) (u5_InvalidRow : PySem.W.findIn K (.ref a_InvalidRow) "__class__" = some (some (.builtin "object.__class__")))
  (u8_InvalidRow : PySem.W.mroIn K a_InvalidRow (.type "object") = some true)
  (u1_InvalidText : PySem.W.findIn K (.ref a_InvalidText) "__getattribute__" = some (some (.builtin "BaseException.__getattribute__")))
  (u2_InvalidText : PySem.W.findIn K (.ref a_InvalidText) "__getattr__" = some none)
  (u3_InvalidText : PySem.W.subIn K (.ref a_InvalidText) (.type "BaseException") = some true)
  (u4_InvalidText : PySem.W.hasDictIn K a_InvalidText = true) (u5_InvalidText : PySem.W.findIn K (.ref a_InvalidText) "__class__" = some (some (.builtin "object.__class__")))
  (u8_InvalidText : PySem.W.mroIn K a_InvalidText (.type "object") = some true)
  (u1_InvalidValue : PySem.W.findIn K (.ref a_InvalidValue) "__getattribute__" = some (some (.builtin "BaseException.__getattribute__")))
  (u2_InvalidValue : PySem.W.findIn K (.ref a_InvalidValue) "__getattr__" = some none)
  (u3_InvalidValue : PySem.W.subIn K (.ref a_InvalidValue) (.type "BaseException") = some true)
  (u4_InvalidValue : PySem.W.hasDictIn K a_InvalidValue = true) (u5_InvalidValue : PySem.W.findIn K (.ref a_InvalidValue) "__class__" = some (some (.builtin "object.__class__")))
  (u8_InvalidValue : PySem.W.mroIn K a_InvalidValue (.type "object") = some true)
  (u6 : PySem.W.specialIn K (.builtin "object.__class__") "__get__" = some (some (.builtin "getset_descriptor.__get__"))) (u7 : PySem.W.takesIn K (.builtin "object.__class__") = some true)
  (v_InvalidCode_InvalidRow : PySem.W.subIn K (.ref a_InvalidCode) (.ref a_InvalidRow) = some false)
  (v_InvalidCode_InvalidValue : PySem.W.subIn K (.ref a_InvalidCode) (.ref a_InvalidValue) = some false)
  (v_InvalidRow_InvalidRow : PySem.W.subIn K (.ref a_InvalidRow) (.ref a_InvalidRow) = some true)
  (v_InvalidRow_InvalidValue : PySem.W.subIn K (.ref a_InvalidRow) (.ref a_InvalidValue) = some false)
  (v_InvalidText_InvalidRow : PySem.W.subIn K (.ref a_InvalidText) (.ref a_InvalidRow) = some false)
  (v_InvalidText_InvalidValue : PySem.W.subIn K (.ref a_InvalidText) (.ref a_InvalidValue) = some false)
  (v_InvalidValue_InvalidRow : PySem.W.subIn K (.ref a_InvalidValue) (.ref a_InvalidRow) = some false)
  (v_InvalidValue_InvalidValue : PySem.W.subIn K (.ref a_InvalidValue) (.ref a_InvalidValue) = some true) :
  ∃ fd : FuncData, (∀ (s : Shared) (u : Value), BindsTo s fd ⟨[u], []⟩ [("script", u)]) ∧ ∀ base : Heap, K.In base → base.Ns mainGlobals mg → FnG P w K mg base 7 fa fd ["script"] (toSp K 1 sp_law) := by
  have T : Txt P K mg := txt_mk X GN a0 l0 c0 k0 a1 l1 c1 k1 a2 l2 c2 k2 a3 l3 c3 k3 a4 l4 c4 k4 a5 l5 c5 k5 a6 l6 c6 k6 a7 l7 c7 k7 a8 l8 c8 k8 a9 l9 c9 k9 a10 l10 c10 k10 a11 l11 c11 k11 a12 l12 c12 k12 a13 l13 c13 k13 a14 l14 c14 k14 a15 l15 c15 k15 a16 l16 c16 k16 a17 l17 c17 k17 a18 l18 c18 k18 a19 l19 c19 k19 a20 l20 c20 k20 a21 l21 c21 k21 a22 l22 c22 k22 a23 l23 c23 k23 a24 l24 c24 k24 a25 l25 c25 k25 a26 l26 c26 k26 a27 l27 c27 k27 a28 l28 c28 k28 z_abs z_all z_bool z_int z_isinstance z_len z_list z_max z_range z_str z_tuple v_COUNTS v_DIGITS v_END v_GREATEST_SIGN v_LEAST_SIGN v_MARK v_MOST_FIGURES v_MOST_INTEGER v_MOST_SIGNS dk_top o1 o2 p_InvalidCode l2_InvalidCode l7_InvalidCode l9_InvalidCode l11_InvalidCode l13_InvalidCode rf_InvalidCode dk_r_InvalidCode dk_p_InvalidCode l3_InvalidCode s_InvalidCode y_InvalidCode r_InvalidCode l8_InvalidCode l10_InvalidCode ks_InvalidCode l17_InvalidCode l18_InvalidCode kx_InvalidCode l20_InvalidCode p_InvalidRow q_InvalidRow r_InvalidRow s_InvalidRow y_InvalidRow p_InvalidText q_InvalidText r_InvalidText s_InvalidText y_InvalidText p_InvalidValue q_InvalidValue r_InvalidValue s_InvalidValue y_InvalidValue p_StoreError q_StoreError r_StoreError s_StoreError y_StoreError g1_InvalidCode g2_InvalidCode h_InvalidCode h_InvalidRow h_InvalidText h_InvalidValue h_StoreError m_InvalidCode_InvalidCode m_InvalidCode_InvalidRow m_InvalidCode_InvalidText m_InvalidCode_StoreError m_InvalidRow_InvalidCode m_InvalidRow_InvalidRow m_InvalidRow_InvalidText m_InvalidRow_StoreError m_InvalidText_InvalidCode m_InvalidText_InvalidRow m_InvalidText_InvalidText m_InvalidText_StoreError m_InvalidValue_InvalidCode m_InvalidValue_InvalidRow m_InvalidValue_InvalidText m_InvalidValue_StoreError u1_InvalidCode u2_InvalidCode u3_InvalidCode u4_InvalidCode u5_InvalidCode u8_InvalidCode u1_InvalidRow u2_InvalidRow u3_InvalidRow u4_InvalidRow u5_InvalidRow u8_InvalidRow u1_InvalidText u2_InvalidText u3_InvalidText u4_InvalidText u5_InvalidText u8_InvalidText u1_InvalidValue u2_InvalidValue u3_InvalidValue u4_InvalidValue u5_InvalidValue u8_InvalidValue u6 u7 v_InvalidCode_InvalidRow v_InvalidCode_InvalidValue v_InvalidRow_InvalidRow v_InvalidRow_InvalidValue v_InvalidText_InvalidRow v_InvalidText_InvalidValue v_InvalidValue_InvalidRow v_InvalidValue_InvalidValue
  obtain ⟨fd, hb, hF⟩ := law_fn (P := P) (w := w) T.f_law (fun _ _ _ _ _ _ _ => rfl) (fun base => law_cal T) hm
  exact ⟨fd, hb, fun base _ _ => hF base⟩

end K12

open PySem PySem.W PyProof.Rows in
set_option maxRecDepth 100000 in
set_option maxHeartbeats 0 in
theorem PySem.Challenge.cw_heldlevels_k12_codes_told_holds : PySem.Challenge.rw_heldlevels_k12_codes_told.Holds := by
  w_on; o_law; k_head; (case hw => w_witness2)
  k_fill
  refine G.walkX (n := 63) (k := 7) (x := "script") (sp := fun w => G.toSp _ 1 G.spTrue) (by decide +kernel) (by decide) rfl ⟨⟨rfl, by decide, by decide⟩, rfl⟩ (fun w h Y => PySem.W.kIn_of Y) ?F (fun w H a ns h1 h2 _ hS => G.toSp_true h1 h2 hS)
  case F =>
    intro w mg fa h XP KX GN hmg
    refine' K12.all_mk hmg KX GN ?a0 ?l0 ?c0 ?k0 ?a1 ?l1 ?c1 ?k1 ?a2 ?l2 ?c2 ?k2 ?a3 ?l3 ?c3 ?k3 ?a4 ?l4 ?c4 ?k4 ?a5 ?l5 ?c5 ?k5 ?a6 ?l6 ?c6 ?k6 ?a7 ?l7 ?c7 ?k7 ?a8 ?l8 ?c8 ?k8 ?a9 ?l9 ?c9 ?k9 ?a10 ?l10 ?c10 ?k10 ?a11 ?l11 ?c11 ?k11 ?a12 ?l12 ?c12 ?k12 ?a13 ?l13 ?c13 ?k13 ?a14 ?l14 ?c14 ?k14 ?a15 ?l15 ?c15 ?k15 ?a16 ?l16 ?c16 ?k16 ?a17 ?l17 ?c17 ?k17 ?a18 ?l18 ?c18 ?k18 ?a19 ?l19 ?c19 ?k19 ?a20 ?l20 ?c20 ?k20 ?a21 ?l21 ?c21 ?k21 ?a22 ?l22 ?c22 ?k22 ?a23 ?l23 ?c23 ?k23 ?a24 ?l24 ?c24 ?k24 ?a25 ?l25 ?c25 ?k25 ?a26 ?l26 ?c26 ?k26 ?a27 ?l27 ?c27 ?k27 ?a28 ?l28 ?c28 ?k28 ?z_abs ?z_all ?z_bool ?z_int ?z_isinstance ?z_len ?z_list ?z_max ?z_range ?z_str ?z_tuple ?v_COUNTS ?v_DIGITS ?v_END ?v_GREATEST_SIGN ?v_LEAST_SIGN ?v_MARK ?v_MOST_FIGURES ?v_MOST_INTEGER ?v_MOST_SIGNS ?dk_top ?o1 ?o2 ?p_InvalidCode ?l2_InvalidCode ?l7_InvalidCode ?l9_InvalidCode ?l11_InvalidCode ?l13_InvalidCode ?rf_InvalidCode ?dk_r_InvalidCode ?dk_p_InvalidCode ?l3_InvalidCode ?s_InvalidCode ?y_InvalidCode ?r_InvalidCode ?l8_InvalidCode ?l10_InvalidCode ?ks_InvalidCode ?l17_InvalidCode ?l18_InvalidCode ?kx_InvalidCode ?l20_InvalidCode ?p_InvalidRow ?q_InvalidRow ?r_InvalidRow ?s_InvalidRow ?y_InvalidRow ?p_InvalidText ?q_InvalidText ?r_InvalidText ?s_InvalidText ?y_InvalidText ?p_InvalidValue ?q_InvalidValue ?r_InvalidValue ?s_InvalidValue ?y_InvalidValue ?p_StoreError ?q_StoreError ?r_StoreError ?s_StoreError ?y_StoreError ?g1_InvalidCode ?g2_InvalidCode ?h_InvalidCode ?h_InvalidRow ?h_InvalidText ?h_InvalidValue ?h_StoreError ?m_InvalidCode_InvalidCode ?m_InvalidCode_InvalidRow ?m_InvalidCode_InvalidText ?m_InvalidCode_StoreError ?m_InvalidRow_InvalidCode ?m_InvalidRow_InvalidRow ?m_InvalidRow_InvalidText ?m_InvalidRow_StoreError ?m_InvalidText_InvalidCode ?m_InvalidText_InvalidRow ?m_InvalidText_InvalidText ?m_InvalidText_StoreError ?m_InvalidValue_InvalidCode ?m_InvalidValue_InvalidRow ?m_InvalidValue_InvalidText ?m_InvalidValue_StoreError ?u1_InvalidCode ?u2_InvalidCode ?u3_InvalidCode ?u4_InvalidCode ?u5_InvalidCode ?u8_InvalidCode ?u1_InvalidRow ?u2_InvalidRow ?u3_InvalidRow ?u4_InvalidRow ?u5_InvalidRow ?u8_InvalidRow ?u1_InvalidText ?u2_InvalidText ?u3_InvalidText ?u4_InvalidText ?u5_InvalidText ?u8_InvalidText ?u1_InvalidValue ?u2_InvalidValue ?u3_InvalidValue ?u4_InvalidValue ?u5_InvalidValue ?u8_InvalidValue ?u6 ?u7 ?v_InvalidCode_InvalidRow ?v_InvalidCode_InvalidValue ?v_InvalidRow_InvalidRow ?v_InvalidRow_InvalidValue ?v_InvalidText_InvalidRow ?v_InvalidText_InvalidValue ?v_InvalidValue_InvalidRow ?v_InvalidValue_InvalidValue
    (case a0 => k_is)
    (case l0 => k_is)
    (case c0 => k_is)
    (case k0 => k_is)
    (case a1 => k_is)
    (case l1 => k_is)
    (case c1 => k_is)
    (case k1 => k_is)
    (case a2 => k_is)
    (case l2 => k_is)
    (case c2 => k_is)
    (case k2 => k_is)
    (case a3 => k_is)
    (case l3 => k_is)
    (case c3 => k_is)
    (case k3 => k_is)
    (case a4 => k_is)
    (case l4 => k_is)
    (case c4 => k_is)
    (case k4 => k_is)
    (case a5 => k_is)
    (case l5 => k_is)
    (case c5 => k_is)
    (case k5 => k_is)
    (case a6 => k_is)
    (case l6 => k_is)
    (case c6 => k_is)
    (case k6 => k_is)
    (case a7 => k_is)
    (case l7 => k_is)
    (case c7 => k_is)
    (case k7 => k_is)
    (case a8 => k_is)
    (case l8 => k_is)
    (case c8 => k_is)
    (case k8 => k_is)
    (case a9 => k_is)
    (case l9 => k_is)
    (case c9 => k_is)
    (case k9 => k_is)
    (case a10 => k_is)
    (case l10 => k_is)
    (case c10 => k_is)
    (case k10 => k_is)
    (case a11 => k_is)
    (case l11 => k_is)
    (case c11 => k_is)
    (case k11 => k_is)
    (case a12 => k_is)
    (case l12 => k_is)
    (case c12 => k_is)
    (case k12 => k_is)
    (case a13 => k_is)
    (case l13 => k_is)
    (case c13 => k_is)
    (case k13 => k_is)
    (case a14 => k_is)
    (case l14 => k_is)
    (case c14 => k_is)
    (case k14 => k_is)
    (case a15 => k_is)
    (case l15 => k_is)
    (case c15 => k_is)
    (case k15 => k_is)
    (case a16 => k_is)
    (case l16 => k_is)
    (case c16 => k_is)
    (case k16 => k_is)
    (case a17 => k_is)
    (case l17 => k_is)
    (case c17 => k_is)
    (case k17 => k_is)
    (case a18 => k_is)
    (case l18 => k_is)
    (case c18 => k_is)
    (case k18 => k_is)
    (case a19 => k_is)
    (case l19 => k_is)
    (case c19 => k_is)
    (case k19 => k_is)
    (case a20 => k_is)
    (case l20 => k_is)
    (case c20 => k_is)
    (case k20 => k_is)
    (case a21 => k_is)
    (case l21 => k_is)
    (case c21 => k_is)
    (case k21 => k_is)
    (case a22 => k_is)
    (case l22 => k_is)
    (case c22 => k_is)
    (case k22 => k_is)
    (case a23 => k_is)
    (case l23 => k_is)
    (case c23 => k_is)
    (case k23 => k_is)
    (case a24 => k_is)
    (case l24 => k_is)
    (case c24 => k_is)
    (case k24 => k_is)
    (case a25 => k_is)
    (case l25 => k_is)
    (case c25 => k_is)
    (case k25 => k_is)
    (case a26 => k_is)
    (case l26 => k_is)
    (case c26 => k_is)
    (case k26 => k_is)
    (case a27 => k_is)
    (case l27 => k_is)
    (case c27 => k_is)
    (case k27 => k_is)
    (case a28 => k_is)
    (case l28 => k_is)
    (case c28 => k_is)
    (case k28 => k_is)
    (case z_abs => k_is)
    (case z_all => k_is)
    (case z_bool => k_is)
    (case z_int => k_is)
    (case z_isinstance => k_is)
    (case z_len => k_is)
    (case z_list => k_is)
    (case z_max => k_is)
    (case z_range => k_is)
    (case z_str => k_is)
    (case z_tuple => k_is)
    (case v_COUNTS => k_is)
    (case v_DIGITS => k_is)
    (case v_END => k_is)
    (case v_GREATEST_SIGN => k_is)
    (case v_LEAST_SIGN => k_is)
    (case v_MARK => k_is)
    (case v_MOST_FIGURES => k_is)
    (case v_MOST_INTEGER => k_is)
    (case v_MOST_SIGNS => k_is)
    (case dk_top => decide +kernel)
    (case o1 => k_is)
    (case o2 => k_is)
    (case p_InvalidCode => k_is)
    (case l2_InvalidCode => k_is)
    (case l7_InvalidCode => k_is)
    (case l9_InvalidCode => k_is)
    (case l11_InvalidCode => k_is)
    (case l13_InvalidCode => k_is)
    (case rf_InvalidCode => rfl)
    (case dk_r_InvalidCode => decide +kernel)
    (case dk_p_InvalidCode => decide +kernel)
    (case l3_InvalidCode => k_is)
    (case s_InvalidCode => k_is)
    (case y_InvalidCode => k_is)
    (case r_InvalidCode => k_is)
    (case l8_InvalidCode => k_is)
    (case l10_InvalidCode => k_is)
    (case ks_InvalidCode => ks_is)
    (case l17_InvalidCode => k_is)
    (case l18_InvalidCode => k_is)
    (case kx_InvalidCode => kx_is)
    (case l20_InvalidCode => k_is)
    (case p_InvalidRow => k_is)
    (case q_InvalidRow => k_exc)
    (case r_InvalidRow => k_is)
    (case s_InvalidRow => k_is)
    (case y_InvalidRow => k_is)
    (case p_InvalidText => k_is)
    (case q_InvalidText => k_exc)
    (case r_InvalidText => k_is)
    (case s_InvalidText => k_is)
    (case y_InvalidText => k_is)
    (case p_InvalidValue => k_is)
    (case q_InvalidValue => k_exc)
    (case r_InvalidValue => k_is)
    (case s_InvalidValue => k_is)
    (case y_InvalidValue => k_is)
    (case p_StoreError => k_is)
    (case q_StoreError => k_exc)
    (case r_StoreError => k_is)
    (case s_StoreError => k_is)
    (case y_StoreError => k_is)
    (case g1_InvalidCode => k_is)
    (case g2_InvalidCode => k_is)
    (case h_InvalidCode => k_is)
    (case h_InvalidRow => k_is)
    (case h_InvalidText => k_is)
    (case h_InvalidValue => k_is)
    (case h_StoreError => k_is)
    (case m_InvalidCode_InvalidCode => k_is)
    (case m_InvalidCode_InvalidRow => k_is)
    (case m_InvalidCode_InvalidText => k_is)
    (case m_InvalidCode_StoreError => k_is)
    (case m_InvalidRow_InvalidCode => k_is)
    (case m_InvalidRow_InvalidRow => k_is)
    (case m_InvalidRow_InvalidText => k_is)
    (case m_InvalidRow_StoreError => k_is)
    (case m_InvalidText_InvalidCode => k_is)
    (case m_InvalidText_InvalidRow => k_is)
    (case m_InvalidText_InvalidText => k_is)
    (case m_InvalidText_StoreError => k_is)
    (case m_InvalidValue_InvalidCode => k_is)
    (case m_InvalidValue_InvalidRow => k_is)
    (case m_InvalidValue_InvalidText => k_is)
    (case m_InvalidValue_StoreError => k_is)
    (case u1_InvalidCode => k_is)
    (case u2_InvalidCode => k_is)
    (case u3_InvalidCode => k_is)
    (case u4_InvalidCode => k_is)
    (case u5_InvalidCode => k_is)
    (case u8_InvalidCode => k_is)
    (case u1_InvalidRow => k_is)
    (case u2_InvalidRow => k_is)
    (case u3_InvalidRow => k_is)
    (case u4_InvalidRow => k_is)
    (case u5_InvalidRow => k_is)
    (case u8_InvalidRow => k_is)
    (case u1_InvalidText => k_is)
    (case u2_InvalidText => k_is)
    (case u3_InvalidText => k_is)
    (case u4_InvalidText => k_is)
    (case u5_InvalidText => k_is)
    (case u8_InvalidText => k_is)
    (case u1_InvalidValue => k_is)
    (case u2_InvalidValue => k_is)
    (case u3_InvalidValue => k_is)
    (case u4_InvalidValue => k_is)
    (case u5_InvalidValue => k_is)
    (case u8_InvalidValue => k_is)
    (case u6 => k_is)
    (case u7 => k_is)
    (case v_InvalidCode_InvalidRow => k_is)
    (case v_InvalidCode_InvalidValue => k_is)
    (case v_InvalidRow_InvalidRow => k_is)
    (case v_InvalidRow_InvalidValue => k_is)
    (case v_InvalidText_InvalidRow => k_is)
    (case v_InvalidText_InvalidValue => k_is)
    (case v_InvalidValue_InvalidRow => k_is)
    (case v_InvalidValue_InvalidValue => k_is)
#print axioms PySem.Challenge.cw_heldlevels_k12_codes_told_holds
