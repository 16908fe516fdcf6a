import PyProof.Rows.All
import Wide.All
import OpenK.AllK
import Wide.FinOn
import HandS.ForMost
import HandS.ForExc
import HandS.Wide
import KE.KeyNested
import HandS.IsInst
import HandS.StrMore
import HandS.TupAny
import PyProof.StrOps2
import PyProof.Rows.StrPadFill
import HandS.EndBits
import KE.IntTextLaws
import HandS.More
import HandS.Style
import HandS.List
import KE.KRevSl
import PyProof.ReprLen
import HandS.TryMany
import PyProof.ExcBaseAll.ValueError
import HandS.Sort
import KE.KSortTupG
import KE.KDictPairs
import HandS.ExcIs
import HandS.ExcField
import KE.KExcIs
import HandS.SetKeys
import HandS.Strs
import PyProof.WalksMore
import PyProof.Rows.RuleB_bool
import HandS.Property
import KE.SortKeyed
import HandS.SortKw
import KE.DataCmp
import HandS.Keys
import HandS.ExcInit
import KE.KExcSuper
import KE.KExcLine
import HandS.Zip
import HandS.Replace
import HandS.ReplaceLit
import HandS.TupMul
import KE.DataMinMax
import PyProof.Rows.SortShellAny
import KE.KDictKeyed
import KE.GoesEnum
import HandS.SetFor
import HandS.DictComp
import KE.KDictCopyH
import KE.KDictSum
import PyProof.TupleOfGen
import HandS.TupLen
import PyProof.TupleOfSeq
import HandS.Codes
import PyProof.Rows.StrCase
import KE.SortData
import PySem.Challenge.RW_heldlevels_k54_faults_of_orders
set_option Elab.async false
set_option linter.all false
set_option maxRecDepth 100000
set_option maxHeartbeats 4000000
namespace G
open PySem PySem.Spec L2
/-- the fragment, and the world it stands in -/
structure KF where
  k : PySem.W.Frag
  w : World
instance : Coe KF PySem.W.Frag := ⟨KF.k⟩
abbrev kf (X : Cx) : KF := ⟨X.K, X.w⟩
/-- plain data: a flat value, a tuple, a list that nobody changes any more -/
inductive D where
  | v (x : V)
  | tup (ds : List D)
  | lst (ds : List D)
  /-- the script -/
  | scr (ns : List Int)
  /-- a dict that nobody changes any more: its keys, their values -/
  | dct (ks : List Key) (ds : List D)
  /-- a tuple of which it is known that it has no dict -/
  | tpf (ds : List D)
  /-- a caught exception: its class, the names of its fields (none: it has no dict), their values -/
  | exc (c : Value) (ks : Option (List Str)) (ds : List D)
  /-- a dict that nobody changes any more, whose keys are tuples -/
  | dtt (ks ds : List D)
mutual
def nkD : D → Option NestedKey
  | .v .non => some .none
  | .v (.int i) => some (.num i)
  | .v (.str s) => some (.text s)
  | .tup ds => match nksD ds with | some ks => some (.tup ks) | none => none
  | _ => none
def nksD : List D → Option (List NestedKey)
  | [] => some []
  | d :: ds => match nkD d, nksD ds with | some k, some ks => some (k :: ks) | _, _ => none
end
structure NkOk (ks : List D) (nks : List NestedKey) : Prop where
  keys : nksD ks = some nks
  nd : nks.Nodup
  dep : ∀ k ∈ nks, k.depth ≤ 8
abbrev NRow := NestedKey × Addr × V
/-- a dict of tuple keys at a, as its one object tells it -/
def ndP (w : World) (a : Addr) (rows : List NRow) : Heap → Prop := fun h => rows.length ≤ sizeLine ∧ (a == sysModules) = false ∧ ∃ o es ep, ∃ xs : List (NestedKey × Addr × Value), h.get? a = some o ∧ o.ExactDict ∧ o.data = .dict es ep ∧
  Paired (fun (p : NRow) (q : NestedKey × Addr × Value) => p.1 = q.1 ∧ p.2.1 = q.2.1 ∧ RelV p.2.2 q.2.2) rows xs ∧ es.toList = xs.map fun x => (⟨x.1.hash w, .ref x.2.1, x.2.2⟩ : DictEntry)
def ndO (w : World) (a : Addr) (rows : List NRow) : HO := .ext (ndP w a rows)
abbrev Reg := Addr → Prop
/-- an object that may change -/
inductive MO where
  | lst (ds : List D)
  | ins (C dx : Addr) (fs : List (Str × D))
  | dK (kvs : List (Key × D))
  | dN (kvs : List (D × D))
  /-- .. that nobody changes any more -/
  | dL (kvs : List (D × D))
abbrev Wd := Addr → Option MO
/-- what a slot of the frame holds: shared data, or a list of its own -/
inductive Sl where
  | sh (d : D)
  | om (o : MO)
abbrev Sl.ol (ds : List D) : Sl := .om (.lst ds)
abbrev Env := List (Option Sl)
abbrev D.int (i : Int) : D := .v (.int i)
abbrev D.str (s : Str) : D := .v (.str s)
abbrev D.bl (b : Bool) : D := .v (.bl b)
abbrev D.non : D := .v .non
abbrev D.ref (a : Addr) : D := .v (.ref a)
def emp : Hp := fun _ => none
def ImL (S : Reg) (H : Hp) (a : Addr) (xs : List V) : Prop := H a = some (.lst xs) ∧ ¬ S a
def ImS (K : KF) (S : Reg) (H : Hp) (a : Addr) (xs : List V) : Prop := (Rd H a (.lst xs) ∧ ¬ S a) ∨ SqL K emp a xs
def ImT (K : KF) (S : Reg) (H : Hp) (a : Addr) (xs : List V) : Prop := (H a = some (.tup xs) ∧ ¬ S a) ∨ SqT K emp a xs ∨ ∃ o, H a = some (.frz o (.tup xs)) ∧ ¬ S a
/-- an exception object of the class c, its dict, as it stands -/
def ExH (c : Value) (od : Option Addr) (a : Addr) : HO := .ext fun h => ∃ (oe : Obj) (vs : Array Value), h.get? a = some oe ∧ Zc c od oe ∧ oe.data = .fields vs
def XdAt (S : Reg) (H : Hp) (od : Option Addr) (n : Nat) (xs : List V) : Option (List Str) → Prop
  | none => od = none
  | some ks => ∃ d, od = some d ∧ (H d = some (.xd (ks.zip xs)) ∧ ¬ S d) ∧ ks.length = n
mutual
def Rep (K : KF) (S : Reg) (H : Hp) : D → V → Prop
  | .v x, y => y = x
  | .tup ds, y => ∃ a xs, y = .ref a ∧ ImT K S H a xs ∧ Reps K S H ds xs
  | .lst ds, y => ∃ a xs, y = .ref a ∧ ImL S H a xs ∧ Reps K S H ds xs
  | .scr ns, y => ∃ a, y = .ref a ∧ ImS K S H a (ns.map V.int)
  | .dct ks ds, y => ∃ a xs, y = .ref a ∧ (H a = some (.dK (ks.zip xs)) ∧ ¬ S a) ∧ ks.length = ds.length ∧ Reps K S H ds xs
  | .tpf ds, y => ∃ a xs o, y = .ref a ∧ (H a = some (.frz o (.tup xs)) ∧ ¬ S a) ∧ o.dict = none ∧ Reps K S H ds xs
  | .exc c ks ds, y => ∃ a od xs, y = .ref a ∧ (H a = some (ExH c od a) ∧ ¬ S a) ∧ XdAt S H od ds.length xs ks ∧ Reps K S H ds xs
  | .dtt ks ds, y => ∃ a o nks bs xs, y = .ref a ∧ (H a = some (.frz o (ndO K.w a (nks.zip (List.zip bs xs)))) ∧ ¬ S a) ∧ (ks.length = ds.length ∧ NkOk ks nks) ∧ Reps K S H ks (bs.map V.ref) ∧ Reps K S H ds xs
def Reps (K : KF) (S : Reg) (H : Hp) : List D → List V → Prop
  | [], xs => xs = []
  | d :: ds, xs => ∃ x r, xs = x :: r ∧ Rep K S H d x ∧ Reps K S H ds r
end
/-- from one moment to a later one: F is not touched, what is no region of change stands -/
structure Stp (F : Reg) (S : Reg) (H : Hp) (S' : Reg) (H' : Hp) : Prop where
  keep : ∀ a o, ¬ S a → H a = some o → H' a = some o
  new : ∀ a, S' a → ¬ S a → H a = none
  dom : ∀ a, H' a = none → H a = none
  frn : ∀ a, F a → H' a = H a
theorem Stp.refl {F S : Reg} {H : Hp} : Stp F S H S H := ⟨fun _ _ _ e => e, fun _ a b => absurd a b, fun _ e => e, fun _ _ => rfl⟩
theorem Stp.trans {F S S1 S2 : Reg} {H H1 H2 : Hp} (a : Stp F S H S1 H1) (b : Stp F S1 H1 S2 H2) : Stp F S H S2 H2 where
  keep := fun x o hs e => by
    have e1 := a.keep x o hs e
    refine b.keep x o (fun hs1 => ?_) e1
    have := a.new x hs1 hs
    rw [this] at e; cases e
  new := fun x h2 hs => by
    by_cases h1 : S1 x
    · exact a.new x h1 hs
    · exact a.dom x (b.new x h2 h1)
  dom := fun x e => a.dom x (b.dom x e)
  frn := fun x hx => (b.frn x hx).trans (a.frn x hx)
theorem Stp.mono {F F' S S' : Reg} {H H' : Hp} (a : Stp F S H S' H') (h : ∀ x, F' x → F x) : Stp F' S H S' H' := ⟨a.keep, a.new, a.dom, fun x hx => a.frn x (h x hx)⟩
theorem Stp.rd {F S S' : Reg} {H H' : Hp} {a : Addr} {u : HO} (e : Stp F S H S' H') (h : Rd H a u ∧ ¬ S a) : Rd H' a u ∧ ¬ S' a := by
  obtain ⟨h, hs⟩ := h
  have hn : H a ≠ none := by
    rcases h with h | ⟨o, h⟩ <;> rw [h] <;> simp
  refine ⟨?_, fun hs' => hn (e.new a hs' hs)⟩
  rcases h with h | ⟨o, h⟩
  · exact .inl (e.keep a _ hs h)
  · exact .inr ⟨o, e.keep a _ hs h⟩
theorem Stp.imS {K : KF} {F S S' : Reg} {H H' : Hp} {a : Addr} {xs : List V} (e : Stp F S H S' H') (h : ImS K S H a xs) : ImS K S' H' a xs := by
  rcases h with h | h
  · exact .inl (e.rd h)
  · exact .inr h
theorem Stp.imL {F S S' : Reg} {H H' : Hp} {a : Addr} {xs : List V} (e : Stp F S H S' H') (h : ImL S H a xs) : ImL S' H' a xs :=
  ⟨e.keep a _ h.2 h.1, fun hs' => by
    have := e.new a hs' h.2
    rw [h.1] at this; cases this⟩
theorem Stp.has {F S S' : Reg} {H H' : Hp} {a : Addr} {o : HO} (e : Stp F S H S' H') (h : H a = some o ∧ ¬ S a) : H' a = some o ∧ ¬ S' a :=
  ⟨e.keep a _ h.2 h.1, fun hs' => by
    have := e.new a hs' h.2
    rw [h.1] at this; cases this⟩
theorem Stp.imT {K : KF} {F S S' : Reg} {H H' : Hp} {a : Addr} {xs : List V} (e : Stp F S H S' H') (h : ImT K S H a xs) : ImT K S' H' a xs := by
  rcases h with ⟨h, hs⟩ | h | ⟨o, h⟩
  · refine .inl ⟨e.keep a _ hs h, fun hs' => ?_⟩
    have := e.new a hs' hs
    rw [h] at this; cases this
  · exact .inr (.inl h)
  · exact .inr (.inr ⟨o, e.has h⟩)
theorem Stp.xd {F S S' : Reg} {H H' : Hp} {od : Option Addr} {n : Nat} {xs : List V} (e : Stp F S H S' H') : ∀ {ks : Option (List Str)}, XdAt S H od n xs ks → XdAt S' H' od n xs ks
  | none, h => h
  | some ks, ⟨d, h1, h2, h3⟩ => ⟨d, h1, e.has h2, h3⟩
mutual
theorem Rep.up {K : KF} {F S S' : Reg} {H H' : Hp} (e : Stp F S H S' H') : ∀ {d : D} {v : V}, Rep K S H d v → Rep K S' H' d v
  | .v _, _, h => by simp only [Rep] at h ⊢; exact h
  | .tup ds, v, h => by
    simp only [Rep] at h ⊢
    obtain ⟨a, xs, e1, h1, h2⟩ := h
    exact ⟨a, xs, e1, e.imT h1, Reps.up e h2⟩
  | .lst ds, v, h => by
    simp only [Rep] at h ⊢
    obtain ⟨a, xs, e1, h1, h2⟩ := h
    exact ⟨a, xs, e1, e.imL h1, Reps.up e h2⟩
  | .scr ns, v, h => by
    simp only [Rep] at h ⊢
    obtain ⟨a, e1, h1⟩ := h
    exact ⟨a, e1, e.imS h1⟩
  | .dct ks ds, v, h => by
    simp only [Rep] at h ⊢
    obtain ⟨a, xs, e1, ⟨h1, hs⟩, hl, h2⟩ := h
    refine ⟨a, xs, e1, ⟨e.keep a _ hs h1, fun hs' => ?_⟩, hl, Reps.up e h2⟩
    have := e.new a hs' hs
    rw [h1] at this; cases this
  | .tpf ds, v, h => by
    simp only [Rep] at h ⊢
    obtain ⟨a, xs, o, e1, h0, h1, h2⟩ := h
    exact ⟨a, xs, o, e1, e.has h0, h1, Reps.up e h2⟩
  | .exc c ks ds, v, h => by
    simp only [Rep] at h ⊢
    obtain ⟨a, od, xs, e1, h0, h1, h2⟩ := h
    exact ⟨a, od, xs, e1, e.has h0, e.xd h1, Reps.up e h2⟩
  | .dtt ks ds, v, h => by
    simp only [Rep] at h ⊢
    obtain ⟨a, o, nks, bs, xs, e1, h0, h1, h2, h3⟩ := h
    exact ⟨a, o, nks, bs, xs, e1, e.has h0, h1, Reps.up e h2, Reps.up e h3⟩
theorem Reps.up {K : KF} {F S S' : Reg} {H H' : Hp} (e : Stp F S H S' H') : ∀ {ds : List D} {vs : List V}, Reps K S H ds vs → Reps K S' H' ds vs
  | [], _, h => by simp only [Reps] at h ⊢; exact h
  | d :: ds, vs, h => by
    simp only [Reps] at h ⊢
    obtain ⟨x, r, e1, h1, h2⟩ := h
    exact ⟨x, r, e1, Rep.up e h1, Reps.up e h2⟩
end
theorem emp_l {K : PySem.W.Frag} {H : Hp} {a : Addr} {xs : List V} (h : SqL K emp a xs) : SqL K H a xs := by
  rcases h with (h | ⟨_, h⟩) | h
  · cases h
  · cases h
  · exact .inr h
theorem emp_t {K : PySem.W.Frag} {H : Hp} {a : Addr} {xs : List V} (h : SqT K emp a xs) : SqT K H a xs := by
  rcases h with (h | ⟨_, h⟩) | h
  · cases h
  · cases h
  · exact .inr h
theorem ImS.sq {K : KF} {S : Reg} {H : Hp} {a : Addr} {xs : List V} (h : ImS K S H a xs) : SqL K H a xs := by
  rcases h with h | h
  · exact .inl h.1
  · exact emp_l h
theorem ImL.sq {K : PySem.W.Frag} {S : Reg} {H : Hp} {a : Addr} {xs : List V} (h : ImL S H a xs) : SqL K H a xs := SqL.of h.1
theorem ImT.sq {K : KF} {S : Reg} {H : Hp} {a : Addr} {xs : List V} (h : ImT K S H a xs) : SqT K H a xs := by
  rcases h with h | h | ⟨o, h⟩
  · exact SqT.of h.1
  · exact emp_t h
  · exact .inl (.inr ⟨o, h.1⟩)
section
variable {K : KF} {S : Reg} {H : Hp} {d : D} {ds : List D} {v : V} {vs : List V}
theorem Rep.v_iff {x : V} : Rep K S H (.v x) v ↔ v = x := by simp only [Rep]
theorem Rep.tup_iff : Rep K S H (.tup ds) v ↔ ∃ a xs, v = .ref a ∧ ImT K S H a xs ∧ Reps K S H ds xs := by simp only [Rep]
theorem Rep.lst_iff : Rep K S H (.lst ds) v ↔ ∃ a xs, v = .ref a ∧ ImL S H a xs ∧ Reps K S H ds xs := by simp only [Rep]
theorem Rep.scr_iff {ns : List Int} : Rep K S H (.scr ns) v ↔ ∃ a, v = .ref a ∧ ImS K S H a (ns.map V.int) := by simp only [Rep]
theorem Rep.dct_iff {ks : List Key} : Rep K S H (.dct ks ds) v ↔ ∃ a xs, v = .ref a ∧ (H a = some (.dK (ks.zip xs)) ∧ ¬ S a) ∧ ks.length = ds.length ∧ Reps K S H ds xs := by simp only [Rep]
theorem Rep.tpf_iff : Rep K S H (.tpf ds) v ↔ ∃ a xs o, v = .ref a ∧ (H a = some (.frz o (.tup xs)) ∧ ¬ S a) ∧ o.dict = none ∧ Reps K S H ds xs := by simp only [Rep]
theorem Rep.exc_iff {c : Value} {ks : Option (List Str)} : Rep K S H (.exc c ks ds) v ↔ ∃ a od xs, v = .ref a ∧ (H a = some (ExH c od a) ∧ ¬ S a) ∧ XdAt S H od ds.length xs ks ∧ Reps K S H ds xs := by simp only [Rep]
theorem Rep.dtt_iff {ks : List D} : Rep K S H (.dtt ks ds) v ↔ ∃ a o nks bs xs, v = .ref a ∧ (H a = some (.frz o (ndO K.w a (nks.zip (List.zip bs xs)))) ∧ ¬ S a) ∧ (ks.length = ds.length ∧ NkOk ks nks) ∧ Reps K S H ks (bs.map V.ref) ∧ Reps K S H ds xs := by simp only [Rep]
theorem Reps.nil_iff : Reps K S H [] vs ↔ vs = [] := by simp only [Reps]
theorem Reps.cons_iff : Reps K S H (d :: ds) vs ↔ ∃ x r, vs = x :: r ∧ Rep K S H d x ∧ Reps K S H ds r := by simp only [Reps]
theorem Reps.nil : Reps K S H [] [] := Reps.nil_iff.mpr rfl
theorem Reps.cons (h : Rep K S H d v) (r : Reps K S H ds vs) : Reps K S H (d :: ds) (v :: vs) := Reps.cons_iff.mpr ⟨_, _, rfl, h, r⟩
theorem Reps.length : ∀ {ds : List D} {vs : List V}, Reps K S H ds vs → vs.length = ds.length
  | [], vs, h => by rw [Reps.nil_iff.mp h] <;> rfl
  | d :: ds, vs, h => by
    obtain ⟨x, r, rfl, _, h2⟩ := Reps.cons_iff.mp h
    simp [Reps.length h2]
theorem Reps.append : ∀ {ds es : List D} {vs ws : List V}, Reps K S H ds vs → Reps K S H es ws → Reps K S H (ds ++ es) (vs ++ ws)
  | [], _, _, _, h, h2 => by rw [Reps.nil_iff.mp h]; exact h2
  | d :: ds, _, _, _, h, h2 => by
    obtain ⟨x, r, rfl, h1, h3⟩ := Reps.cons_iff.mp h
    exact Reps.cons h1 (Reps.append h3 h2)
theorem Reps.get : ∀ {ds : List D} {vs : List V} {i : Nat} {d : D}, Reps K S H ds vs → ds[i]? = some d → ∃ v, vs[i]? = some v ∧ Rep K S H d v
  | [], _, i, _, _, e => by simp at e
  | d :: ds, _, 0, d', h, e => by
    obtain ⟨x, r, rfl, h1, _⟩ := Reps.cons_iff.mp h
    simp at e; subst e
    exact ⟨x, rfl, h1⟩
  | d :: ds, _, i + 1, d', h, e => by
    obtain ⟨x, r, rfl, _, h2⟩ := Reps.cons_iff.mp h
    obtain ⟨v, e1, h3⟩ := Reps.get (i := i) h2 (by simpa using e)
    exact ⟨v, by simpa using e1, h3⟩
theorem Reps.get' : ∀ {ds : List D} {vs : List V} {i : Nat} {v : V}, Reps K S H ds vs → vs[i]? = some v → ∃ d, ds[i]? = some d ∧ Rep K S H d v := fun {ds vs i v} h e => by
  have hl := h.length
  have hi : i < vs.length := (List.getElem?_eq_some_iff.mp e).1
  have hd : ds[i]? = some ds[i] := List.getElem?_eq_getElem (by omega)
  obtain ⟨v', e1, h1⟩ := h.get hd
  rw [e] at e1; cases e1
  exact ⟨_, hd, h1⟩
theorem Reps.take (n : Nat) : ∀ {ds : List D} {vs : List V}, Reps K S H ds vs → Reps K S H (ds.take n) (vs.take n) := by
  induction n with
  | zero => intro ds vs _; exact Reps.nil
  | succ n ih =>
    intro ds vs h
    cases ds with
    | nil => rw [Reps.nil_iff.mp h]; exact Reps.nil
    | cons d ds =>
      obtain ⟨x, r, rfl, h1, h2⟩ := Reps.cons_iff.mp h
      exact Reps.cons h1 (ih h2)
theorem Reps.drop (n : Nat) : ∀ {ds : List D} {vs : List V}, Reps K S H ds vs → Reps K S H (ds.drop n) (vs.drop n) := by
  induction n with
  | zero => intro ds vs h; exact h
  | succ n ih =>
    intro ds vs h
    cases ds with
    | nil => rw [Reps.nil_iff.mp h]; exact Reps.nil
    | cons d ds =>
      obtain ⟨x, r, rfl, h1, h2⟩ := Reps.cons_iff.mp h
      exact ih h2
theorem Reps.set {d : D} {v : V} (hd : Rep K S H d v) : ∀ (n : Nat) {ds : List D} {vs : List V}, Reps K S H ds vs → Reps K S H (ds.set n d) (vs.set n v)
  | n, [], _, h => by rw [Reps.nil_iff.mp h]; exact Reps.nil
  | 0, d' :: ds, _, h => by
    obtain ⟨x, r, rfl, h1, h2⟩ := Reps.cons_iff.mp h
    exact Reps.cons hd h2
  | n + 1, d' :: ds, _, h => by
    obtain ⟨x, r, rfl, h1, h2⟩ := Reps.cons_iff.mp h
    exact Reps.cons h1 (Reps.set hd n h2)
theorem Reps.map_v (xs : List V) : Reps K S H (xs.map D.v) xs := by
  induction xs with
  | nil => exact Reps.nil
  | cons x xs ih => exact Reps.cons (Rep.v_iff.mpr rfl) ih
theorem Reps.of_map_v : ∀ {xs vs : List V}, Reps K S H (xs.map D.v) vs → vs = xs
  | [], vs, h => Reps.nil_iff.mp h
  | x :: xs, vs, h => by
    obtain ⟨y, r, rfl, h1, h2⟩ := Reps.cons_iff.mp h
    rw [Rep.v_iff.mp h1, Reps.of_map_v h2]
end
def MRep (K : KF) (S : Reg) (H : Hp) (p : Addr) : MO → Prop
  | .lst ds => ∃ xs, H p = some (.lst xs) ∧ Reps K S H ds xs
  | .ins C dx fs => ∃ vs, H p = some (.ins C dx vs) ∧ vs.map (·.1) = fs.map (·.1) ∧ Reps K S H (fs.map (·.2)) (vs.map (·.2))
  | .dK kvs => ∃ vs, H p = some (.dK vs) ∧ vs.map (·.1) = kvs.map (·.1) ∧ Reps K S H (kvs.map (·.2)) (vs.map (·.2))
  | .dN kvs => ∃ nks bs xs, H p = some (ndO K.w p (nks.zip (List.zip bs xs))) ∧ NkOk (kvs.map (·.1)) nks ∧ Reps K S H (kvs.map (·.1)) (bs.map V.ref) ∧ Reps K S H (kvs.map (·.2)) xs
  | .dL kvs => ∃ o nks bs xs, H p = some (.frz o (ndO K.w p (nks.zip (List.zip bs xs)))) ∧ NkOk (kvs.map (·.1)) nks ∧ Reps K S H (kvs.map (·.1)) (bs.map V.ref) ∧ Reps K S H (kvs.map (·.2)) xs
/-- without the frame -/
structure Cb (K : KF) (F S : Reg) (H : Hp) (W : Wd) : Prop where
  sd : ∀ a, S a → H a ≠ none
  fs : ∀ a, F a → S a
  w : ∀ p o, W p = some o → S p ∧ ¬ F p ∧ MRep K S H p o
def Own (σ : St) (ρ : Env) (i : Nat) (p : Addr) : Prop := ∃ o, ρ[i]? = some (some (.om o)) ∧ σ[i]? = some (some (.ref p))
def OwnSet (σ : St) (ρ : Env) : Reg := fun p => ∃ i, Own σ ρ i p
structure Cf (K : KF) (F S : Reg) (H : Hp) (σ : St) (ρ : Env) (W : Wd) : Prop where
  cb : Cb K F S H W
  len : σ.length = ρ.length
  sh : ∀ (i : Nat) d, ρ[i]? = some (some (.sh d)) → ∃ v, σ[i]? = some (some v) ∧ Rep K S H d v
  om : ∀ (i : Nat) o, ρ[i]? = some (some (.om o)) → ∃ p, σ[i]? = some (some (.ref p)) ∧ MRep K S H p o ∧ S p ∧ ¬ F p ∧ W p = none
  dis : ∀ i j p, Own σ ρ i p → Own σ ρ j p → i = j
theorem MRep.up {K : KF} {F S S' : Reg} {H H' : Hp} (e : Stp F S H S' H') {p : Addr} {o : MO} (hp : H' p = H p) (h : MRep K S H p o) : MRep K S' H' p o := by
  cases o with
  | lst ds => obtain ⟨xs, h1, h2⟩ := h; exact ⟨xs, hp.trans h1, h2.up e⟩
  | ins C dx fs => obtain ⟨xs, h1, h2, h3⟩ := h; exact ⟨xs, hp.trans h1, h2, h3.up e⟩
  | dK fs => obtain ⟨xs, h1, h2, h3⟩ := h; exact ⟨xs, hp.trans h1, h2, h3.up e⟩
  | dN fs => obtain ⟨nks, bs, xs, h1, h2, h3, h4⟩ := h; exact ⟨nks, bs, xs, hp.trans h1, h2, h3.up e, h4.up e⟩
  | dL fs => obtain ⟨o, nks, bs, xs, h1, h2, h3, h4⟩ := h; exact ⟨o, nks, bs, xs, hp.trans h1, h2, h3.up e, h4.up e⟩
section
variable {K : KF} {F S S' : Reg} {H H' : Hp} {σ : St} {ρ : Env} {W W' : Wd}
/-- the heap has grown alone -/
theorem stp_same (c : Cb K F S H W) (e : Same H H') : Stp F S H S H' where
  keep := fun a o _ h => e a o h
  new := fun a h1 h2 => absurd h1 h2
  dom := fun a h => by
    cases q : H a with
    | none => rfl
    | some o => rw [e a o q] at h; cases h
  frn := fun a hf => by
    cases q : H a with
    | none => exact absurd q (c.sd a (c.fs a hf))
    | some o => exact e a o q
theorem Cb.same (c : Cb K F S H W) (e : Same H H') : Cb K F S H' W where
  sd := fun a hs q => c.sd a hs ((stp_same c e).dom a q)
  fs := c.fs
  w := fun p o hw => by
    obtain ⟨h1, h2, h3⟩ := c.w p o hw
    refine ⟨h1, h2, h3.up (stp_same c e) ?_⟩
    cases q : H p with
    | none => exact absurd q (c.sd p h1)
    | some o => exact e p o q
theorem Cf.same (c : Cf K F S H σ ρ W) (e : Same H H') : Cf K F S H' σ ρ W where
  cb := c.cb.same e
  len := c.len
  sh := fun i d h => by
    obtain ⟨v, h1, h2⟩ := c.sh i d h
    exact ⟨v, h1, h2.up (stp_same c.cb e)⟩
  om := fun i o h => by
    obtain ⟨p, h1, h2, h4⟩ := c.om i o h
    refine ⟨p, h1, h2.up (stp_same c.cb e) ?_, h4⟩
    cases q : H p with
    | none => exact absurd q (c.cb.sd p h4.1)
    | some o => exact e p o q
  dis := c.dis
/-- what a callee sees: the frame's own lists are foreign to it -/
theorem Cf.below (c : Cf K F S H σ ρ W) : Cb K (fun a => F a ∨ OwnSet σ ρ a) S H W where
  sd := c.cb.sd
  fs := fun a h => by
    rcases h with h | ⟨i, ds, h1, h2⟩
    · exact c.cb.fs a h
    · obtain ⟨p, e1, _, hs, _⟩ := c.om i ds h1
      rw [h2] at e1; cases e1; exact hs
  w := fun p o hw => by
    obtain ⟨h1, h2, h3⟩ := c.cb.w p o hw
    refine ⟨h1, fun h => ?_, h3⟩
    rcases h with h | ⟨i, ds, q1, q2⟩
    · exact h2 h
    · obtain ⟨p', e1, _, _, _, hw'⟩ := c.om i ds q1
      rw [q2] at e1; cases e1
      rw [hw] at hw'; cases hw'
theorem Cf.back (c : Cf K F S H σ ρ W) (e : Stp (fun a => F a ∨ OwnSet σ ρ a) S H S' H') (b : Cb K (fun a => F a ∨ OwnSet σ ρ a) S' H' W') : Cf K F S' H' σ ρ W' where
  cb := ⟨b.sd, fun a h => b.fs a (.inl h), fun p o hw => by
    obtain ⟨h1, h2, h3⟩ := b.w p o hw
    exact ⟨h1, fun h => h2 (.inl h), h3⟩⟩
  len := c.len
  sh := fun i d h => by
    obtain ⟨v, h1, h2⟩ := c.sh i d h
    exact ⟨v, h1, h2.up e⟩
  om := fun i ds h => by
    obtain ⟨p, h1, h2, h4, h5, h6⟩ := c.om i ds h
    have ho : OwnSet σ ρ p := ⟨i, ds, h, h1⟩
    refine ⟨p, h1, h2.up e (e.frn p (.inr ho)), b.fs p (.inr ho), h5, ?_⟩
    cases q : W' p with
    | none => rfl
    | some o => exact absurd (.inr ho) (b.w p o q).2.1
  dis := c.dis
end
abbrev KD := D → Env → Wd → Prop
abbrev KB := Bool → Env → Wd → Prop
abbrev KL := List D → Env → Wd → Prop
/-- a wish about exceptions: the class, its fields -/
abbrev KX := Value → Option (List (Str × D)) → Env → Wd → Prop
abbrev TD := Env → Wd → KD → KX → Prop
abbrev TB := Env → Wd → KB → KX → Prop
abbrev TL := Env → Wd → KL → KX → Prop
def XRep (K : KF) (S : Reg) (H : Hp) : Option (List (Str × D)) → Option Addr → Prop
  | none, d => d = none
  | some fs, d => ∃ a vs, d = some a ∧ H a = some (.xd vs) ∧ ¬ S a ∧ vs.map (·.1) = fs.map (·.1) ∧ Reps K S H (fs.map (·.2)) (vs.map (·.2))
/-- how a wish of exceptions over data lies in one over the heap -/
def LkX (K : KF) (F S : Reg) (H : Hp) (Wx : WX) (Qx : KX) : Prop :=
  ∀ S' H' σ' ρ' W' cls x od, Stp F S H S' H' → Cf K F S' H' σ' ρ' W' → XRep K S' H' x od → Qx cls x ρ' W' → Wx cls od σ' H'
theorem LkX.up {K : KF} {F S S1 : Reg} {H H1 : Hp} {Wx : WX} {Qx : KX} (h : LkX K F S H Wx Qx) (e : Stp F S H S1 H1) : LkX K F S1 H1 Wx Qx :=
  fun S' H' σ' ρ' W' cls x od e' c xr q => h S' H' σ' ρ' W' cls x od (e.trans e') c xr q
def EndE (K : KF) (F S : Reg) (H : Hp) (σ : St) (Q : KD) (R : VK) : Prop :=
  ∀ S' H' ρ' W' d v, Stp F S H S' H' → Cf K F S' H' σ ρ' W' → Rep K S' H' d v → Q d ρ' W' → R v H'
def EndB (K : KF) (F S : Reg) (H : Hp) (σ : St) (Q : KB) (R : Bool → Hp → Prop) : Prop :=
  ∀ S' H' ρ' W' b, Stp F S H S' H' → Cf K F S' H' σ ρ' W' → Q b ρ' W' → R b H'
def EndL (K : KF) (F S : Reg) (H : Hp) (σ : St) (Q : KL) (R : List V → Hp → Prop) : Prop :=
  ∀ S' H' ρ' W' ds vs, Stp F S H S' H' → Cf K F S' H' σ ρ' W' → Reps K S' H' ds vs → Q ds ρ' W' → R vs H'
def Snd (K : KF) (Wx : WX) (te : TE) (f : TD) : Prop :=
  ∀ F S H σ ρ W Q Qx R, Cf K F S H σ ρ W → f ρ W Q Qx → LkX K F S H Wx Qx → EndE K F S H σ Q R → te σ H R
def SndB (K : KF) (Wx : WX) (te : TT) (f : TB) : Prop :=
  ∀ F S H σ ρ W Q Qx R, Cf K F S H σ ρ W → f ρ W Q Qx → LkX K F S H Wx Qx → EndB K F S H σ Q R → te σ H R
def SndL (K : KF) (Wx : WX) (te : TA) (f : TL) : Prop :=
  ∀ F S H σ ρ W Q Qx R, Cf K F S H σ ρ W → f ρ W Q Qx → LkX K F S H Wx Qx → EndL K F S H σ Q R → te σ H R
def GE (X : Cx) (Wx : WX) (e : Expr) (f : TD) : Prop := ∃ te, PE X e te ∧ Snd (kf X) Wx te f
def GT (X : Cx) (Wx : WX) (e : Expr) (f : TB) : Prop := ∃ te, PT X e te ∧ SndB (kf X) Wx te f
def GW (X : Cx) (Wx : WX) (e : Expr) (f : TB) : Prop := ∃ te, PW X e te ∧ SndB (kf X) Wx te f
def GA (X : Cx) (Wx : WX) (es : List Expr) (f : TL) : Prop := ∃ te, PA X es te ∧ SndL (kf X) Wx te f
section
variable {X : Cx} {Wx : WX} {a b c e : Expr} {es : List Expr} {f g h : TD} {fb gb : TB} {fl : TL} {pos : Pos}
def dVar (i : Nat) : TD := fun ρ W Q _ => match ρ[i]? with
  | some (some (.sh d)) => Q d ρ W
  | _ => False
theorem gv (i : Nat) {x : Str} {pos : Pos} (hN : X.N[i]? = some x := by rfl) (hv : Vis X.env.scope x := by first | exact Or.inl rfl | exact Or.inr (Or.inl rfl) | exact Or.inr (Or.inr rfl)) (hd : (x == ("__debug__" : Str)) = false := by decide)
    (hcd : (x == ("__classdict__" : Str)) = false := by decide) : GE X Wx (.Name x pos) (dVar i) := by
  refine ⟨_, pe_var hN hv hd hcd, fun F S H σ ρ W Q Qx R cf hf _ hE => ?_⟩
  unfold dVar at hf
  split at hf
  · rename_i d e
    obtain ⟨v, e1, h1⟩ := cf.sh i d e
    exact ⟨v, e1, hE S H ρ W d v .refl cf h1 hf⟩
  · exact hf.elim
def dC (x : V) : TD := fun ρ W Q _ => Q (.v x) ρ W
theorem snd_c {K : KF} {x : V} : Snd K Wx (tC x) (dC x) := fun F S H σ ρ W Q Qx R cf hf _ hE => hE S H ρ W (.v x) x .refl cf (Rep.v_iff.mpr rfl) hf
theorem ge_int {i j pos} : GE X Wx (.Constant (.int i) j pos) (dC (.int i)) := ⟨_, pe_int, snd_c⟩
theorem ge_bl {i j pos} : GE X Wx (.Constant (.bool i) j pos) (dC (.bl i)) := ⟨_, pe_bl, snd_c⟩
theorem ge_non {j pos} : GE X Wx (.Constant .none j pos) (dC .non) := ⟨_, pe_non, snd_c⟩
theorem ge_str {x j pos} : GE X Wx (.Constant (.str x) j pos) (dC (.str x)) := ⟨_, pe_str, snd_c⟩
theorem ge_glob {x : Str} {v : V} {u : Value} {pos : Pos} (hg : Gl X x) (hm : X.mg x = some u) (r : RelV v u) (hd : (x == ("__debug__" : Str)) = false := by decide) : GE X Wx (.Name x pos) (dC v) := ⟨_, pe_glob hg hm r hd, snd_c⟩
/-- a two-place rule over data: pure, the heap grows alone -/
def RSnd (K : KF) (r : R2) (g : D → D → (D → Prop) → Prop) : Prop :=
  ∀ F S H W d e x y (P : D → Prop) (R : VK), Cb K F S H W → Rep K S H d x → Rep K S H e y → g d e P → (∀ d' v H', Same H H' → Rep K S H' d' v → P d' → R v H') → r x y H R
def dOp (g : D → D → (D → Prop) → Prop) (fa fb : TD) : TD := fun ρ W Q Qx => fa ρ W (fun d ρ1 W1 => fb ρ1 W1 (fun e ρ2 W2 => g d e fun z => Q z ρ2 W2) Qx) Qx
theorem snd_op {K : KF} {r : R2} {k : D → D → (D → Prop) → Prop} {ta tb : TE} (hr : RSnd K r k) (ha : Snd K Wx ta f) (hb : Snd K Wx tb g) : Snd K Wx (tOp r ta tb) (dOp k f g) := by
  intro F S H σ ρ W Q Qx R cf hf hx hE
  refine ha F S H σ ρ W _ Qx _ cf hf hx fun S1 H1 ρ1 W1 d v e1 c1 r1 q1 => ?_
  refine hb F S1 H1 σ ρ1 W1 _ Qx _ c1 q1 (hx.up e1) fun S2 H2 ρ2 W2 d2 v2 e2 c2 r2 q2 => ?_
  refine hr F S2 H2 W2 d d2 v v2 _ _ c2.cb (r1.up e2) r2 q2 fun d3 v3 H3 s3 r3 q3 => ?_
  exact hE S2 H3 ρ2 W2 d3 v3 ((e1.trans e2).trans (stp_same c2.cb s3)) (c2.same s3) r3 q3
theorem ge_op {op : Operator} {r : R2} {k : D → D → (D → Prop) → Prop} (ho : OpR X (binaryOp op) r) (hr : RSnd (kf X) r k) (ha : GE X Wx a f) (hb : GE X Wx b g) : GE X Wx (.BinOp a op b pos) (dOp k f g) := by
  obtain ⟨ta, pa, sa⟩ := ha
  obtain ⟨tb, pb, sb⟩ := hb
  exact ⟨_, pe_op ho pa pb, snd_op hr sa sb⟩
theorem ge_cmp {op : CmpOp} {r : R2} {k : D → D → (D → Prop) → Prop} (ho : OpR X (compareOp op) r) (hr : RSnd (kf X) r k) (ha : GE X Wx a f) (hb : GE X Wx b g) (hm : behindInMarks op b = false) : GE X Wx (.Compare a [op] [b] pos) (dOp k f g) := by
  obtain ⟨ta, pa, sa⟩ := ha
  obtain ⟨tb, pb, sb⟩ := hb
  exact ⟨_, pe_cmpR ho pa pb hm, snd_op hr sa sb⟩
/-- an expression whose value is a Boolean, as a test -/
def dBool (f : TD) : TB := fun ρ W Q Qx => f ρ W (fun d ρ' W' => match d with | .v (.bl b) => Q b ρ' W' | _ => False) Qx
theorem snd_tB {K : KF} {te : TE} (ha : Snd K Wx te f) : SndB K Wx (tB te) (dBool f) := by
  intro F S H σ ρ W Q Qx R cf hf hx hE
  refine ha F S H σ ρ W _ Qx _ cf hf hx fun S1 H1 ρ1 W1 d v e1 c1 r1 q1 => ?_
  split at q1
  · rename_i b
    rw [Rep.v_iff] at r1
    exact ⟨b, r1, hE S1 H1 ρ1 W1 b e1 c1 q1⟩
  · exact q1.elim
theorem gt_val (ha : GE X Wx e f) (he : ∀ whole, isTrue e X.env whole = (do let v ← whole; standAt e.pos; holding [v] (truthy v)) := by intro _; rfl) : GT X Wx e (dBool f) := by
  obtain ⟨ta, pa, sa⟩ := ha
  exact ⟨_, pt_val pa he, snd_tB sa⟩
theorem gt_cmp {op : CmpOp} {r : R2} {k : D → D → (D → Prop) → Prop} (ho : OpR X (compareOp op) r) (hr : RSnd (kf X) r k) (ha : GE X Wx a f) (hb : GE X Wx b g) (hm : behindInMarks op b = false) : GT X Wx (.Compare a [op] [b] pos) (dBool (dOp k f g)) := by
  obtain ⟨ta, pa, sa⟩ := ha
  obtain ⟨tb, pb, sb⟩ := hb
  exact ⟨_, pt_cmpR ho pa pb hm, snd_tB (snd_op hr sa sb)⟩
/-- a < b < c -/
def dChain (k k' : D → D → (D → Prop) → Prop) (fa fb fc : TD) : TD := fun ρ W Q Qx => fa ρ W (fun d ρ1 W1 => fb ρ1 W1 (fun e ρ2 W2 => k d e fun z =>
  match z with | .v (.bl true) => fc ρ2 W2 (fun c ρ3 W3 => k' e c fun z' => Q z' ρ3 W3) Qx | .v (.bl false) => Q (.bl false) ρ2 W2 | _ => False) Qx) Qx
theorem snd_chain {K : KF} {r r' : R2} {k k' : D → D → (D → Prop) → Prop} {ta tb tc : TE} (hr : RSnd K r k) (hr' : RSnd K r' k') (ha : Snd K Wx ta f) (hb : Snd K Wx tb g) (hc : Snd K Wx tc h) : Snd K Wx (tChain r r' ta tb tc) (dChain k k' f g h) := by
  intro F S H σ ρ W Q Qx R cf hf hx hE
  refine ha F S H σ ρ W _ Qx _ cf hf hx fun S1 H1 ρ1 W1 d v e1 c1 r1 q1 => ?_
  refine hb F S1 H1 σ ρ1 W1 _ Qx _ c1 q1 (hx.up e1) fun S2 H2 ρ2 W2 d2 v2 e2 c2 r2 q2 => ?_
  refine hr F S2 H2 W2 d d2 v v2 _ _ c2.cb (r1.up e2) r2 q2 fun d3 v3 H3 s3 r3 q3 => ?_
  have e3 := (e1.trans e2).trans (stp_same c2.cb s3)
  split at q3
  · rw [Rep.v_iff] at r3
    refine ⟨true, r3, ?_⟩
    show tc σ H3 _
    refine hc F S2 H3 σ ρ2 W2 _ Qx _ (c2.same s3) q3 (hx.up e3) fun S4 H4 ρ4 W4 d4 v4 e4 c4 r4 q4 => ?_
    refine hr' F S4 H4 W4 d2 d4 v2 v4 _ _ c4.cb ((r2.up (stp_same c2.cb s3)).up e4) r4 q4 fun d5 v5 H5 s5 r5 q5 => ?_
    exact hE S4 H5 ρ4 W4 d5 v5 ((e3.trans e4).trans (stp_same c4.cb s5)) (c4.same s5) r5 q5
  · rw [Rep.v_iff] at r3
    refine ⟨false, r3, ?_⟩
    show R (.bl false) H3
    exact hE S2 H3 ρ2 W2 (.bl false) _ e3 (c2.same s3) (Rep.v_iff.mpr rfl) q3
  · exact q3.elim
theorem ge_chain {op op' : CmpOp} {r r' : R2} {k k' : D → D → (D → Prop) → Prop} (ho : OpR X (compareOp op) r) (ho' : OpR X (compareOp op') r') (hr : RSnd (kf X) r k) (hr' : RSnd (kf X) r' k') (ha : GE X Wx a f) (hb : GE X Wx b g) (hc : GE X Wx c h)
    (hm : lastMarks [op, op'] [b, c] = false := by with_unfolding_all rfl) : GE X Wx (.Compare a [op, op'] [b, c] pos) (dChain k k' f g h) := by
  obtain ⟨ta, pa, sa⟩ := ha
  obtain ⟨tb, pb, sb⟩ := hb
  obtain ⟨tc, pc, sc⟩ := hc
  exact ⟨_, pe_chain ho ho' pa pb pc hm, snd_chain hr hr' sa sb sc⟩
def dNotB (f : TB) : TB := fun ρ W Q Qx => f ρ W (fun b ρ' W' => Q (!b) ρ' W') Qx
theorem gt_not (ha : GT X Wx a fb) : GT X Wx (.UnaryOp .Not a pos) (dNotB fb) := by
  obtain ⟨ta, pa, sa⟩ := ha
  refine ⟨_, pt_not pa, fun F S H σ ρ W Q Qx R cf hf hx hE => ?_⟩
  exact sa F S H σ ρ W _ Qx _ cf hf hx fun S1 H1 ρ1 W1 b e1 c1 q1 => hE S1 H1 ρ1 W1 _ e1 c1 q1
def dAndB (f g : TB) : TB := fun ρ W Q Qx => f ρ W (fun b ρ' W' => if b = true then g ρ' W' Q Qx else Q false ρ' W') Qx
def dOrB (f g : TB) : TB := fun ρ W Q Qx => f ρ W (fun b ρ' W' => if b = true then Q true ρ' W' else g ρ' W' Q Qx) Qx
theorem gw_and1 (ha : GT X Wx a fb) : GW X Wx (.BoolOp .And [a] pos) fb := by
  obtain ⟨ta, pa, sa⟩ := ha
  exact ⟨_, pw_and1 pa, sa⟩
theorem gw_or1 (ha : GT X Wx a fb) : GW X Wx (.BoolOp .Or [a] pos) fb := by
  obtain ⟨ta, pa, sa⟩ := ha
  exact ⟨_, pw_or1 pa, sa⟩
theorem snd_and {K : KF} {t u : TT} (ha : SndB K Wx t fb) (hb : SndB K Wx u gb) : SndB K Wx (tAnd t u) (dAndB fb gb) := by
  intro F S H σ ρ W Q Qx R cf hf hx hE
  refine ha F S H σ ρ W _ Qx _ cf hf hx fun S1 H1 ρ1 W1 b e1 c1 q1 => ?_
  cases b with
  | true => exact hb F S1 H1 σ ρ1 W1 Q Qx R c1 q1 (hx.up e1) fun S2 H2 ρ2 W2 b e2 c2 q2 => hE S2 H2 ρ2 W2 b (e1.trans e2) c2 q2
  | false => exact hE S1 H1 ρ1 W1 false e1 c1 q1
theorem snd_or {K : KF} {t u : TT} (ha : SndB K Wx t fb) (hb : SndB K Wx u gb) : SndB K Wx (tOr t u) (dOrB fb gb) := by
  intro F S H σ ρ W Q Qx R cf hf hx hE
  refine ha F S H σ ρ W _ Qx _ cf hf hx fun S1 H1 ρ1 W1 b e1 c1 q1 => ?_
  cases b with
  | false => exact hb F S1 H1 σ ρ1 W1 Q Qx R c1 q1 (hx.up e1) fun S2 H2 ρ2 W2 b e2 c2 q2 => hE S2 H2 ρ2 W2 b (e1.trans e2) c2 q2
  | true => exact hE S1 H1 ρ1 W1 true e1 c1 q1
theorem gw_and {rest : List Expr} (ha : GT X Wx a fb) (hb : GW X Wx (.BoolOp .And (b :: rest) pos) gb) : GW X Wx (.BoolOp .And (a :: b :: rest) pos) (dAndB fb gb) := by
  obtain ⟨ta, pa, sa⟩ := ha
  obtain ⟨tb, pb, sb⟩ := hb
  exact ⟨_, pw_and pa pb, snd_and sa sb⟩
theorem gw_or {rest : List Expr} (ha : GT X Wx a fb) (hb : GW X Wx (.BoolOp .Or (b :: rest) pos) gb) : GW X Wx (.BoolOp .Or (a :: b :: rest) pos) (dOrB fb gb) := by
  obtain ⟨ta, pa, sa⟩ := ha
  obtain ⟨tb, pb, sb⟩ := hb
  exact ⟨_, pw_or pa pb, snd_or sa sb⟩
theorem GW.gt (h : GW X Wx a fb) : GT X Wx a fb := by
  obtain ⟨ta, pa, sa⟩ := h
  exact ⟨_, pa.pt, sa⟩
/-- .. as values -/
def dAnd (f g : TD) : TD := fun ρ W Q Qx => f ρ W (fun d ρ' W' => match d with | .v (.bl true) => g ρ' W' Q Qx | .v (.bl false) => Q (.bl false) ρ' W' | _ => False) Qx
def dOr (f g : TD) : TD := fun ρ W Q Qx => f ρ W (fun d ρ' W' => match d with | .v (.bl true) => Q (.bl true) ρ' W' | .v (.bl false) => g ρ' W' Q Qx | _ => False) Qx
def dNot (f : TD) : TD := fun ρ W Q Qx => f ρ W (fun d ρ' W' => match d with | .v (.bl b) => Q (.bl (!b)) ρ' W' | _ => False) Qx
theorem ge_one {op} (ha : GE X Wx a f) : GE X Wx (.BoolOp op [a] pos) f := by
  obtain ⟨ta, pa, sa⟩ := ha
  exact ⟨_, pe_one pa, sa⟩
theorem ge_and {rest : List Expr} (ha : GE X Wx a f) (hb : GE X Wx (.BoolOp .And (b :: rest) pos) g) : GE X Wx (.BoolOp .And (a :: b :: rest) pos) (dAnd f g) := by
  obtain ⟨ta, pa, sa⟩ := ha
  obtain ⟨tb, pb, sb⟩ := hb
  refine ⟨_, pe_and pa pb, fun F S H σ ρ W Q Qx R cf hf hx hE => ?_⟩
  refine sa F S H σ ρ W _ Qx _ cf hf hx fun S1 H1 ρ1 W1 d v e1 c1 r1 q1 => ?_
  split at q1
  · exact ⟨true, Rep.v_iff.mp r1, sb F S1 H1 σ ρ1 W1 Q Qx R c1 q1 (hx.up e1) fun S2 H2 ρ2 W2 d2 v2 e2 c2 r2 q2 => hE S2 H2 ρ2 W2 d2 v2 (e1.trans e2) c2 r2 q2⟩
  · exact ⟨false, Rep.v_iff.mp r1, hE S1 H1 ρ1 W1 _ _ e1 c1 (Rep.v_iff.mpr rfl) q1⟩
  · exact q1.elim
theorem ge_or {rest : List Expr} (ha : GE X Wx a f) (hb : GE X Wx (.BoolOp .Or (b :: rest) pos) g) : GE X Wx (.BoolOp .Or (a :: b :: rest) pos) (dOr f g) := by
  obtain ⟨ta, pa, sa⟩ := ha
  obtain ⟨tb, pb, sb⟩ := hb
  refine ⟨_, pe_or pa pb, fun F S H σ ρ W Q Qx R cf hf hx hE => ?_⟩
  refine sa F S H σ ρ W _ Qx _ cf hf hx fun S1 H1 ρ1 W1 d v e1 c1 r1 q1 => ?_
  split at q1
  · exact ⟨true, Rep.v_iff.mp r1, hE S1 H1 ρ1 W1 _ _ e1 c1 (Rep.v_iff.mpr rfl) q1⟩
  · exact ⟨false, Rep.v_iff.mp r1, sb F S1 H1 σ ρ1 W1 Q Qx R c1 q1 (hx.up e1) fun S2 H2 ρ2 W2 d2 v2 e2 c2 r2 q2 => hE S2 H2 ρ2 W2 d2 v2 (e1.trans e2) c2 r2 q2⟩
  · exact q1.elim
theorem ge_not (ha : GE X Wx a f) : GE X Wx (.UnaryOp .Not a pos) (dNot f) := by
  obtain ⟨ta, pa, sa⟩ := ha
  refine ⟨_, pe_not pa, fun F S H σ ρ W Q Qx R cf hf hx hE => ?_⟩
  refine sa F S H σ ρ W _ Qx _ cf hf hx fun S1 H1 ρ1 W1 d v e1 c1 r1 q1 => ?_
  split at q1
  · rename_i b
    exact ⟨b, Rep.v_iff.mp r1, hE S1 H1 ρ1 W1 _ _ e1 c1 (Rep.v_iff.mpr rfl) q1⟩
  · exact q1.elim
def dIf (t : TB) (f g : TD) : TD := fun ρ W Q Qx => t ρ W (fun b ρ' W' => if b = true then f ρ' W' Q Qx else g ρ' W' Q Qx) Qx
theorem ge_if (hc : GT X Wx c fb) (ha : GE X Wx a f) (hb : GE X Wx b g) : GE X Wx (.IfExp c a b pos) (dIf fb f g) := by
  obtain ⟨tc, pc, sc⟩ := hc
  obtain ⟨ta, pa, sa⟩ := ha
  obtain ⟨tb, pb, sb⟩ := hb
  refine ⟨_, pe_ifExp pc pa pb, fun F S H σ ρ W Q Qx R cf hf hx hE => ?_⟩
  refine sc F S H σ ρ W _ Qx _ cf hf hx fun S1 H1 ρ1 W1 k e1 c1 q1 => ?_
  cases k with
  | true => exact sa F S1 H1 σ ρ1 W1 Q Qx R c1 q1 (hx.up e1) fun S2 H2 ρ2 W2 d2 v2 e2 c2 r2 q2 => hE S2 H2 ρ2 W2 d2 v2 (e1.trans e2) c2 r2 q2
  | false => exact sb F S1 H1 σ ρ1 W1 Q Qx R c1 q1 (hx.up e1) fun S2 H2 ρ2 W2 d2 v2 e2 c2 r2 q2 => hE S2 H2 ρ2 W2 d2 v2 (e1.trans e2) c2 r2 q2
def dNil : TL := fun ρ W Q _ => Q [] ρ W
def dCons (f : TD) (g : TL) : TL := fun ρ W Q Qx => f ρ W (fun d ρ1 W1 => g ρ1 W1 (fun ds ρ2 W2 => Q (d :: ds) ρ2 W2) Qx) Qx
theorem ga_nil : GA X Wx [] dNil := ⟨_, pa_nil, fun F S H σ ρ W Q Qx R cf hf hx hE => hE S H ρ W [] [] .refl cf Reps.nil hf⟩
theorem snd_cons {K : KF} {te : TE} {ta : TA} (he : Snd K Wx te f) (ha : SndL K Wx ta fl) : SndL K Wx (tCons te ta) (dCons f fl) := by
  intro F S H σ ρ W Q Qx R cf hf hx hE
  refine he F S H σ ρ W _ Qx _ cf hf hx fun S1 H1 ρ1 W1 d v e1 c1 r1 q1 => ?_
  refine ha F S1 H1 σ ρ1 W1 _ Qx _ c1 q1 (hx.up e1) fun S2 H2 ρ2 W2 ds vs e2 c2 r2 q2 => ?_
  exact hE S2 H2 ρ2 W2 _ _ (e1.trans e2) c2 (Reps.cons (r1.up e2) r2) q2
theorem ga_cons (he : GE X Wx e f) (ha : GA X Wx es fl) (hs : starEach (e :: es) X.env = (false, eval e X.env) :: starEach es X.env := by rfl) : GA X Wx (e :: es) (dCons f fl) := by
  obtain ⟨te, pe, se⟩ := he
  obtain ⟨ta, pa, sa⟩ := ha
  exact ⟨_, pa_cons pe pa hs, snd_cons se sa⟩
theorem same_new {H : Hp} {p : Addr} {o : HO} (h : H p = none) : Same H (upd H p o) := fun b u e => by
  rw [upd_ne (ne_of_none e h)]; exact e
def dTup (fl : TL) : TD := fun ρ W Q Qx => fl ρ W (fun ds ρ' W' => ds.length ≤ sizeLine ∧ Q (.tup ds) ρ' W') Qx
def dLst (fl : TL) : TD := fun ρ W Q Qx => fl ρ W (fun ds ρ' W' => ds.length ≤ sizeLine ∧ Q (.lst ds) ρ' W') Qx
theorem not_s {K : KF} {F S : Reg} {H : Hp} {W : Wd} {p : Addr} (c : Cb K F S H W) (h : H p = none) : ¬ S p := fun hs => c.sd p hs h
theorem rep_newT {K : KF} {F S : Reg} {H : Hp} {W : Wd} {p : Addr} {ds : List D} {vs : List V} (c : Cb K F S H W) (h : H p = none) (r : Reps K S H ds vs) : Rep K S (upd H p (.tup vs)) (.tup ds) (.ref p) :=
  Rep.tup_iff.mpr ⟨p, vs, rfl, .inl ⟨upd_same, not_s c h⟩, r.up (stp_same c (same_new h))⟩
theorem rep_newL {K : KF} {F S : Reg} {H : Hp} {W : Wd} {p : Addr} {ds : List D} {vs : List V} (c : Cb K F S H W) (h : H p = none) (r : Reps K S H ds vs) : Rep K S (upd H p (.lst vs)) (.lst ds) (.ref p) :=
  Rep.lst_iff.mpr ⟨p, vs, rfl, ⟨upd_same, not_s c h⟩, r.up (stp_same c (same_new h))⟩
theorem ge_tup {x1} (ha : GA X Wx es fl) : GE X Wx (.Tuple es x1 pos) (dTup fl) := by
  obtain ⟨ta, pa, sa⟩ := ha
  refine ⟨_, pe_tup pa, fun F S H σ ρ W Q Qx R cf hf hx hE => ?_⟩
  refine sa F S H σ ρ W _ Qx _ cf hf hx fun S1 H1 ρ1 W1 ds vs e1 c1 r1 q1 => ?_
  refine ⟨by rw [r1.length]; exact q1.1, fun p hp => ?_⟩
  exact hE S1 _ ρ1 W1 _ _ (e1.trans (stp_same c1.cb (same_new hp))) (c1.same (same_new hp)) (rep_newT c1.cb hp r1) q1.2
theorem ge_lst (ha : GA X Wx es fl) : GE X Wx (.List es pos) (dLst fl) := by
  obtain ⟨ta, pa, sa⟩ := ha
  refine ⟨_, pe_lst pa, fun F S H σ ρ W Q Qx R cf hf hx hE => ?_⟩
  refine sa F S H σ ρ W _ Qx _ cf hf hx fun S1 H1 ρ1 W1 ds vs e1 c1 r1 q1 => ?_
  refine ⟨by rw [r1.length]; exact q1.1, fun p hp => ?_⟩
  exact hE S1 _ ρ1 W1 _ _ (e1.trans (stp_same c1.cb (same_new hp))) (c1.same (same_new hp)) (rep_newL c1.cb hp r1) q1.2
def CSnd (K : KF) (r : List V → Hp → VK → Prop) (g : List D → (D → Prop) → Prop) : Prop :=
  ∀ F S H W ds xs (P : D → Prop) (R : VK), Cb K F S H W → Reps K S H ds xs → g ds P → (∀ d' v H', Same H H' → Rep K S H' d' v → P d' → R v H') → r xs H R
def dCB (g : List D → (D → Prop) → Prop) (fl : TL) : TD := fun ρ W Q Qx => fl ρ W (fun ds ρ' W' => g ds fun z => Q z ρ' W') Qx
theorem snd_cb {K : KF} {r : List V → Hp → VK → Prop} {k : List D → (D → Prop) → Prop} {ta : TA} (hr : CSnd K r k) (ha : SndL K Wx ta fl) : Snd K Wx (tCB r ta) (dCB k fl) := by
  intro F S H σ ρ W Q Qx R cf hf hx hE
  refine ha F S H σ ρ W _ Qx _ cf hf hx fun S1 H1 ρ1 W1 ds vs e1 c1 r1 q1 => ?_
  refine hr F S1 H1 W1 ds vs _ _ c1.cb r1 q1 fun d3 v3 H3 s3 r3 q3 => ?_
  exact hE S1 H3 ρ1 W1 d3 v3 (e1.trans (stp_same c1.cb s3)) (c1.same s3) r3 q3
theorem ge_callB {x : Str} {id : String} {p : Pos} {r : List V → Hp → VK → Prop} {k : List D → (D → Prop) → Prop} (hc : CallR X (.builtin id) r) (hr : CSnd (kf X) r k) (hg : Gl X x) (hm : X.mg x = none) (hv : bootBuiltins x = some (.builtin id)) (ha : GA X Wx (e :: es) fl) (hn : x ≠ "__name__" := by decide) (hdb : (x == ("__debug__" : Str)) = false := by decide)
    (he : starEach (e :: es) X.env = (false, eval e X.env) :: starEach es X.env := by rfl) (hpl : (backTo pos (starEach es X.env)).any (·.1) = false := by rfl) : GE X Wx (.Call (.Name x p) (e :: es) [] pos) (dCB k fl) := by
  obtain ⟨ta, pa, sa⟩ := ha
  exact ⟨_, pe_callB hc hg hm hv pa hn hdb he hpl, snd_cb hr sa⟩
theorem ge_callTy {x : Str} {id : String} {p : Pos} {r : List V → Hp → VK → Prop} {k : List D → (D → Prop) → Prop} (hc : CallR X (.type id) r) (hr : CSnd (kf X) r k) (hg : Gl X x) (hm : X.mg x = none) (hv : bootBuiltins x = some (.type id)) (ha : GA X Wx (e :: es) fl) (hn : x ≠ "__name__" := by decide) (hdb : (x == ("__debug__" : Str)) = false := by decide)
    (he : starEach (e :: es) X.env = (false, eval e X.env) :: starEach es X.env := by rfl) (hpl : (backTo pos (starEach es X.env)).any (·.1) = false := by rfl) : GE X Wx (.Call (.Name x p) (e :: es) [] pos) (dCB k fl) := by
  obtain ⟨ta, pa, sa⟩ := ha
  exact ⟨_, pe_callTy hc hg hm hv pa hn hdb he hpl, snd_cb hr sa⟩
end
end G
namespace G
open PySem PySem.Spec L2
abbrev KS := Env → Wd → Prop
structure EndsD where
  nx : KS
  rt : D → Wd → Prop
  bk : KS := fun _ _ => False
  ct : KS := fun _ _ => False
  ex : KX := fun _ _ _ _ => False
abbrev TSD := EndsD → Env → Wd → Prop
structure Lnk (K : KF) (Wx : WX) (F S : Reg) (H : Hp) (De : EndsD) (Dh : Ends) : Prop where
  nx : ∀ S' H' σ' ρ' W', Stp F S H S' H' → Cf K F S' H' σ' ρ' W' → De.nx ρ' W' → Dh.nx σ' H'
  rt : ∀ S' H' σ' ρ' W' d v, Stp F S H S' H' → Cf K F S' H' σ' ρ' W' → Rep K S' H' d v → De.rt d W' → Dh.rt v H'
  bk : ∀ S' H' σ' ρ' W', Stp F S H S' H' → Cf K F S' H' σ' ρ' W' → De.bk ρ' W' → Dh.bk σ' H'
  ct : ∀ S' H' σ' ρ' W', Stp F S H S' H' → Cf K F S' H' σ' ρ' W' → De.ct ρ' W' → Dh.ct σ' H'
  ex : LkX K F S H Wx De.ex
theorem Lnk.up {K : KF} {Wx : WX} {F S S1 : Reg} {H H1 : Hp} {De : EndsD} {Dh : Ends} (l : Lnk K Wx F S H De Dh) (e : Stp F S H S1 H1) : Lnk K Wx F S1 H1 De Dh where
  nx := fun S' H' σ' ρ' W' e' c q => l.nx S' H' σ' ρ' W' (e.trans e') c q
  rt := fun S' H' σ' ρ' W' d v e' c r q => l.rt S' H' σ' ρ' W' d v (e.trans e') c r q
  bk := fun S' H' σ' ρ' W' e' c q => l.bk S' H' σ' ρ' W' (e.trans e') c q
  ct := fun S' H' σ' ρ' W' e' c q => l.ct S' H' σ' ρ' W' (e.trans e') c q
  ex := l.ex.up e
def SndS (K : KF) (Wx : WX) (t : TS) (f : TSD) : Prop :=
  ∀ F S H σ ρ W De Dh, Cf K F S H σ ρ W → f De ρ W → Lnk K Wx F S H De Dh → t Dh σ H
def GS (X : Cx) (Wx : WX) (st : Stmt) (f : TSD) : Prop := ∃ t, PS X st t ∧ SndS (kf X) Wx t f
def GSs (X : Cx) (Wx : WX) (st : List Stmt) (f : TSD) : Prop := ∃ t, PSs X st t ∧ SndS (kf X) Wx t f
section
variable {X : Cx} {Wx : WX} {st : Stmt} {rest : List Stmt} {f g : TSD} {e : Expr} {fe : TD} {pos : Pos}
def dNext : TSD := fun De ρ W => De.nx ρ W
def dSeq (f g : TSD) : TSD := fun De ρ W => f { De with nx := g De } ρ W
theorem gss_nil : GSs X Wx [] dNext := ⟨_, pss_nil, fun F S H σ ρ W De Dh cf hf l => l.nx S H σ ρ W .refl cf hf⟩
theorem snd_seq {K : KF} {t u : TS} (ha : SndS K Wx t f) (hb : SndS K Wx u g) : SndS K Wx (tSeq t u) (dSeq f g) := fun F S H σ ρ W De Dh cf hf l =>
  ha F S H σ ρ W { De with nx := g De } { Dh with nx := u Dh } cf hf ⟨fun S' H' σ' ρ' W' e' c q => hb F S' H' σ' ρ' W' De Dh c q (l.up e'), l.rt, l.bk, l.ct, l.ex⟩
theorem gss_cons (h1 : GS X Wx st f) (h2 : GSs X Wx rest g) : GSs X Wx (st :: rest) (dSeq f g) := by
  obtain ⟨ta, pa, sa⟩ := h1
  obtain ⟨tb, pb, sb⟩ := h2
  exact ⟨_, pss_cons pa pb, snd_seq sa sb⟩
theorem gss_one (h1 : GS X Wx st f) : GSs X Wx [st] f := by
  obtain ⟨ta, pa, sa⟩ := h1
  exact ⟨_, pss_one pa, sa⟩
def dNever : TSD := fun _ _ _ => False
theorem gs_never : GS X Wx st dNever := ⟨_, ps_never, fun F S H σ ρ W De Dh cf hf l => hf.elim⟩
def dCont : TSD := fun De ρ W => De.ct ρ W
theorem gs_cont : GS X Wx (.Continue pos) dCont := ⟨_, ps_continue, fun F S H σ ρ W De Dh cf hf l => l.ct S H σ ρ W .refl cf hf⟩
def dDrop (fe : TD) : TSD := fun De ρ W => fe ρ W (fun _ ρ' W' => De.nx ρ' W') De.ex
theorem gs_expr (he : GE X Wx e fe) (hs : swapsWith e none pos.line X.env = pure false := by rfl) : GS X Wx (.Expr e pos) (dDrop fe) := by
  obtain ⟨te, pe, se⟩ := he
  exact ⟨_, ps_expr pe hs, fun F S H σ ρ W De Dh cf hf l => se F S H σ ρ W _ De.ex _ cf hf l.ex fun S' H' ρ' W' d v e' c r q => l.nx S' H' σ ρ' W' e' c q⟩
def dRet (fe : TD) : TSD := fun De ρ W => fe ρ W (fun d _ W' => De.rt d W') De.ex
theorem gs_ret (he : GE X Wx e fe) : GS X Wx (.Return (some e) pos) (dRet fe) := by
  obtain ⟨te, pe, se⟩ := he
  exact ⟨_, ps_ret pe, fun F S H σ ρ W De Dh cf hf l => se F S H σ ρ W _ De.ex _ cf hf l.ex fun S' H' ρ' W' d v e' c r q => l.rt S' H' σ ρ' W' d v e' c r q⟩
def dIfS (t : TB) (f g : TSD) : TSD := fun De ρ W => t ρ W (fun b ρ' W' => if b = true then f De ρ' W' else g De ρ' W') De.ex
theorem gs_if {c : Expr} {a b : List Stmt} {fc : TB} (hc : GT X Wx c fc) (ha : GSs X Wx a f) (hb : GSs X Wx b g) : GS X Wx (.If c a b pos) (dIfS fc f g) := by
  obtain ⟨tc, pc, sc⟩ := hc
  obtain ⟨ta, pa, sa⟩ := ha
  obtain ⟨tb, pb, sb⟩ := hb
  refine ⟨_, ps_if pc pa pb, fun F S H σ ρ W De Dh cf hf l => ?_⟩
  refine sc F S H σ ρ W _ De.ex _ cf hf l.ex fun S' H' ρ' W' b e' c q => ?_
  cases b with
  | true => exact sa F S' H' σ ρ' W' De Dh c q (l.up e')
  | false => exact sb F S' H' σ ρ' W' De Dh c q (l.up e')
abbrev TGD := D → Env → Wd → KS → Prop
abbrev TGLD := List D → Env → Wd → KS → Prop
/-- other slots than these are as they were -/
def Off {α : Type} (ts : List Nat) (l l' : List α) : Prop := l'.length = l.length ∧ ∀ j, j ∉ ts → l'[j]? = l[j]?
theorem Off.refl {α : Type} {ts : List Nat} {l : List α} : Off ts l l := ⟨rfl, fun _ _ => rfl⟩
theorem Off.set {α : Type} {l : List α} {i : Nat} {x : α} : Off [i] l (l.set i x) := ⟨by simp, fun j hj => by rw [List.getElem?_set_ne (by simpa [eq_comm] using hj)]⟩
theorem Off.trans {α : Type} {ts us : List Nat} {l l' l'' : List α} (a : Off ts l l') (b : Off us l' l'') : Off (ts ++ us) l l'' := ⟨b.1.trans a.1, fun j hj => by
  rw [List.mem_append, not_or] at hj
  exact (b.2 j hj.2).trans (a.2 j hj.1)⟩
def SndG (K : KF) (t : TG) (g : TGD) (ts : List Nat) : Prop :=
  ∀ F S H σ ρ W d v (P : KS) (R : St → Hp → Prop), Cf K F S H σ ρ W → Rep K S H d v → g d ρ W P → (∀ S' H' σ' ρ' W', Stp F S H S' H' → Cf K F S' H' σ' ρ' W' → Off ts σ σ' → Off ts ρ ρ' → P ρ' W' → R σ' H') → t v σ H R
def SndGL (K : KF) (t : TGs) (g : TGLD) (ts : List Nat) : Prop :=
  ∀ F S H σ ρ W ds vs (P : KS) (R : St → Hp → Prop), Cf K F S H σ ρ W → Reps K S H ds vs → g ds ρ W P → (∀ S' H' σ' ρ' W', Stp F S H S' H' → Cf K F S' H' σ' ρ' W' → Off ts σ σ' → Off ts ρ ρ' → P ρ' W' → R σ' H') → t vs σ H R
def GG (X : Cx) (target : Expr) (g : TGD) (us : List Nat) : Prop := ∃ t, PG X target t ∧ SndG (kf X) t g us
def GGs (X : Cx) (ts : List Expr) (g : TGLD) (us : List Nat) : Prop := ∃ t, PGs X ts t ∧ SndGL (kf X) t g us
end
/-- shared data into a slot -/
theorem Cf.setSh {K : KF} {F S : Reg} {H : Hp} {σ : St} {ρ : Env} {W : Wd} (c : Cf K F S H σ ρ W) (i : Nat) {d : D} {v : V} (r : Rep K S H d v) : Cf K F S H (σ.set i (some v)) (ρ.set i (some (.sh d))) W where
  cb := c.cb
  len := by simp [c.len]
  sh := fun j d' h => by
    by_cases hj : i = j
    · subst hj
      have hl : i < ρ.length := by
        have := (List.getElem?_eq_some_iff.mp h).1
        simpa using this
      rw [List.getElem?_set_self hl] at h
      cases h
      exact ⟨v, by rw [List.getElem?_set_self (by rw [c.len]; exact hl)], r⟩
    · rw [List.getElem?_set_ne hj] at h
      obtain ⟨w, h1, h2⟩ := c.sh j d' h
      exact ⟨w, by rw [List.getElem?_set_ne hj]; exact h1, h2⟩
  om := fun j ds h => by
    by_cases hj : i = j
    · subst hj
      have hl : i < ρ.length := by
        have := (List.getElem?_eq_some_iff.mp h).1
        simpa using this
      rw [List.getElem?_set_self hl] at h
      cases h
    · rw [List.getElem?_set_ne hj] at h
      obtain ⟨p, h1, h2⟩ := c.om j ds h
      exact ⟨p, by rw [List.getElem?_set_ne hj]; exact h1, h2⟩
  dis := fun j k p h1 h2 => by
    have go : ∀ j, Own (σ.set i (some v)) (ρ.set i (some (.sh d))) j p → Own σ ρ j p := fun j ⟨ds, q1, q2⟩ => by
      by_cases hj : i = j
      · subst hj
        have hl : i < ρ.length := by
          have := (List.getElem?_eq_some_iff.mp q1).1
          simpa using this
        rw [List.getElem?_set_self hl] at q1
        cases q1
      · rw [List.getElem?_set_ne hj] at q1 q2
        exact ⟨ds, q1, q2⟩
    exact c.dis j k p (go j h1) (go k h2)
section
variable {X : Cx} {Wx : WX} {st : Stmt} {rest : List Stmt} {f g : TSD} {e : Expr} {fe : TD} {pos : Pos}
def gdName (i : Nat) : TGD := fun d ρ W P => P (ρ.set i (some (.sh d))) W
theorem snd_gName {K : KF} {i : Nat} : SndG K (gName i) (gdName i) [i] := fun F S H σ ρ W d v P R cf r hp k => k S H _ _ W .refl (cf.setSh i r) .set .set hp
theorem gg_name {i : Nat} {x : Str} (hN : X.N.Nodup) (hi : X.N[i]? = some x) (hx : Loc X.env.scope x) (hf : X.fn x = true ∨ X.env.scope.names.lookup x = some .local := by first | exact .inl rfl | exact .inr rfl | assumption) : GG X (.Name x pos) (gdName i) [i] :=
  ⟨_, pg_name hN hi hx hf, snd_gName⟩
def gdNil : TGLD := fun ds ρ W P => match ds with | [] => P ρ W | _ => False
def gdCons (g : TGD) (h : TGLD) : TGLD := fun ds ρ W P => match ds with | d :: r => g d ρ W (fun ρ' W' => h r ρ' W' P) | _ => False
theorem ggs_nil : GGs X [] gdNil [] := ⟨_, pgs_nil, fun F S H σ ρ W ds vs P R cf r hp k => by
  unfold gdNil at hp
  split at hp
  · exact ⟨Reps.nil_iff.mp r, k S H _ _ W .refl cf .refl .refl hp⟩
  · exact hp.elim⟩
theorem ggs_cons {es : List Expr} {g : TGD} {h : TGLD} {ts us : List Nat} (h1 : GG X e g ts) (h2 : GGs X es h us) (hs : (assignEach (e :: es) X.env).map (·.2) = assign e X.env :: (assignEach es X.env).map (·.2) := by rfl) : GGs X (e :: es) (gdCons g h) (ts ++ us) := by
  obtain ⟨ta, pa, sa⟩ := h1
  obtain ⟨tb, pb, sb⟩ := h2
  refine ⟨_, pgs_cons pa pb hs, fun F S H σ ρ W ds vs P R cf r hp k => ?_⟩
  unfold gdCons at hp
  split at hp
  · rename_i d rd
    obtain ⟨x, rx, rfl, r1, r2⟩ := Reps.cons_iff.mp r
    refine ⟨x, rx, rfl, ?_⟩
    refine sa F S H σ ρ W d x _ _ cf r1 hp fun S' H' σ' ρ' W' e' c o1 o2 q => ?_
    exact sb F S' H' σ' ρ' W' rd rx P R c (r2.up e') q fun S2 H2 σ2 ρ2 W2 e2 c2 o3 o4 q2 => k S2 H2 σ2 ρ2 W2 (e'.trans e2) c2 (o1.trans o3) (o2.trans o4) q2
  · exact hp.elim
def gdTup (n : Nat) (g : TGLD) : TGD := fun d ρ W P => match d with | .tup ds => ds.length = n ∧ g ds ρ W P | _ => False
theorem gg_tup {es : List Expr} {k : Nat} {g : TGLD} {n : Nat} {ts : List Nat} (hc : X.calm = true) (h : GGs X es g ts) (hn : (assignEach es X.env).length = n := by rfl) (hst : (assignEach es X.env).findIdx? (·.1) = none := by rfl) : GG X (.Tuple es k pos) (gdTup n g) ts := by
  obtain ⟨ta, pa, sa⟩ := h
  refine ⟨_, pg_tup hc pa hn hst, fun F S H σ ρ W d v P R cf r hp k => ?_⟩
  unfold gdTup at hp
  split at hp
  · rename_i ds
    obtain ⟨a, xs, rfl, h1, h2⟩ := Rep.tup_iff.mp r
    exact ⟨a, xs, rfl, h1.sq, by rw [h2.length]; exact hp.1, sa F S H σ ρ W ds xs P R cf h2 hp.2 k⟩
  · exact hp.elim
/-- target = e -/
def dAsg (fe : TD) (g : TGD) : TSD := fun De ρ W => fe ρ W (fun d ρ' W' => g d ρ' W' De.nx) De.ex
theorem snd_asg {K : KF} {te : TE} {t : TG} {g : TGD} {ts : List Nat} (se : Snd K Wx te fe) (sg : SndG K t g ts) : SndS K Wx (tAsg te t) (dAsg fe g) := fun F S H σ ρ W De Dh cf hf l =>
  se F S H σ ρ W _ De.ex _ cf hf l.ex fun S' H' ρ' W' d v e' c r q => sg F S' H' σ ρ' W' d v _ _ c r q fun S2 H2 σ2 ρ2 W2 e2 c2 _ _ q2 => l.nx S2 H2 σ2 ρ2 W2 (e'.trans e2) c2 q2
theorem gs_asg {tg : Expr} {g : TGD} {ts : List Nat} (he : GE X Wx e fe) (hg : GG X tg g ts) (hs : swapsWithSole [tg] e pos.line X.env = pure false := by rfl) (hw : swappedStores [tg] e X.env = pure none := by rfl) (h1 : (assignEach [tg] X.env).map (·.2) = [assign tg X.env] := by rfl) : GS X Wx (.Assign [tg] e pos) (dAsg fe g) := by
  obtain ⟨te, pe, se⟩ := he
  obtain ⟨tg', pg, sg⟩ := hg
  exact ⟨_, ps_asg pe pg hs hw h1, snd_asg se sg⟩
theorem gs_set {i : Nat} {x : Str} {pos' : Pos} (hN : X.N.Nodup) (hi : X.N[i]? = some x) (hx : Loc X.env.scope x) (he : GE X Wx e fe) (hs : swapsWith e (some (.Name x pos')) pos.line X.env = pure false := by rfl) (hf : X.fn x = true ∨ X.env.scope.names.lookup x = some .local := by first | exact .inl rfl | exact .inr rfl | assumption) :
    GS X Wx (.Assign [.Name x pos'] e pos) (dAsg fe (gdName i)) := by
  obtain ⟨te, pe, se⟩ := he
  exact ⟨_, ps_set hN hi hx pe hs hf, snd_asg se snd_gName⟩
end
theorem own_set {σ : St} {ρ : Env} {i j : Nat} {v : Option V} {d : Option Sl} {p : Addr} (h : Own (σ.set i v) (ρ.set i d) j p) : i = j ∨ Own σ ρ j p := by
  by_cases hj : i = j
  · exact .inl hj
  · obtain ⟨ds, q1, q2⟩ := h
    rw [List.getElem?_set_ne hj] at q1 q2
    exact .inr ⟨ds, q1, q2⟩
/-- a fresh list into a slot -/
theorem Cf.newOm {K : KF} {F S : Reg} {H : Hp} {σ : St} {ρ : Env} {W : Wd} (c : Cf K F S H σ ρ W) (i : Nat) {p : Addr} {u : HO} {o : MO} (hp : H p = none) (r : ∀ S' H', Stp F S H S' H' → H' p = some u → MRep K S' H' p o) :
    Stp F S H (fun a => S a ∨ a = p) (upd H p u) ∧ Cf K F (fun a => S a ∨ a = p) (upd H p u) (σ.set i (some (.ref p))) (ρ.set i (some (.om o))) W := by
  have st : Stp F S H (fun a => S a ∨ a = p) (upd H p u) :=
    ⟨fun a o _ h => same_new hp a o h, fun a h1 h2 => by
      rcases h1 with h1 | h1
      · exact absurd h1 h2
      · rw [h1]; exact hp, fun a h => by
      by_cases ha : a = p
      · rw [ha]; exact hp
      · rw [upd_ne ha] at h; exact h, fun a hf => by
      have : a ≠ p := fun q => by
        rw [q] at hf
        exact c.cb.sd p (c.cb.fs p hf) hp
      rw [upd_ne this]⟩
  have np : ∀ a, S a → a ≠ p := fun a hs q => c.cb.sd a hs (by rw [q]; exact hp)
  refine ⟨st, ⟨fun a h => ?_, fun a h => .inl (c.cb.fs a h), fun q o hw => ?_⟩, by simp [c.len], fun j d' h => ?_, fun j ds' h => ?_, fun j k q h1 h2 => ?_⟩
  · rcases h with h | h
    · rw [upd_ne (np a h)]; exact c.cb.sd a h
    · rw [h, upd_same]; simp
  · obtain ⟨h1, h2, h3⟩ := c.cb.w q o hw
    exact ⟨.inl h1, h2, h3.up st (upd_ne (np q h1))⟩
  · by_cases hj : i = j
    · subst hj
      have hl : i < ρ.length := by
        have := (List.getElem?_eq_some_iff.mp h).1
        simpa using this
      rw [List.getElem?_set_self hl] at h
      cases h
    · rw [List.getElem?_set_ne hj] at h
      obtain ⟨w, h1, h2⟩ := c.sh j d' h
      exact ⟨w, by rw [List.getElem?_set_ne hj]; exact h1, h2.up st⟩
  · by_cases hj : i = j
    · subst hj
      have hl : i < ρ.length := by
        have := (List.getElem?_eq_some_iff.mp h).1
        simpa using this
      rw [List.getElem?_set_self hl] at h
      cases h
      refine ⟨p, by rw [List.getElem?_set_self (by rw [c.len]; exact hl)], r _ _ st upd_same, .inr rfl, fun hf => c.cb.sd p (c.cb.fs p hf) hp, ?_⟩
      cases q : W p with
      | none => rfl
      | some o => exact absurd hp (c.cb.sd p (c.cb.w p o q).1)
    · rw [List.getElem?_set_ne hj] at h
      obtain ⟨q, h1, h3, h4, h5⟩ := c.om j ds' h
      exact ⟨q, by rw [List.getElem?_set_ne hj]; exact h1, h3.up st (upd_ne (np q h4)), .inl h4, h5⟩
  · have own_s : ∀ j, Own σ ρ j q → S q := fun j ⟨ds, q1, q2⟩ => by
      obtain ⟨p', e1, _, hs, _⟩ := c.om j ds q1
      rw [q2] at e1; cases e1; exact hs
    have at_i : ∀ {j}, i = j → Own (σ.set i (some (.ref p))) (ρ.set i (some (.om o))) j q → q = p := fun {j} e ⟨ds', q1, q2⟩ => by
      subst e
      have hl : i < σ.length := by
        have := (List.getElem?_eq_some_iff.mp q2).1
        simpa using this
      rw [List.getElem?_set_self hl] at q2
      cases q2; rfl
    rcases own_set h1 with e1 | o1
    · rcases own_set h2 with e2 | o2
      · exact e1.symm.trans e2
      · exact absurd (at_i e1 h1) (np q (own_s k o2))
    · rcases own_set h2 with e2 | o2
      · exact absurd (at_i e2 h2) (np q (own_s j o1))
      · exact c.dis j k q o1 o2
/-- the own list's content changes -/
theorem Cf.chOm {K : KF} {F S : Reg} {H : Hp} {σ : St} {ρ : Env} {W : Wd} (c : Cf K F S H σ ρ W) {i : Nat} {p : Addr} {u : HO} {o1 o0 : MO} (h0 : ρ[i]? = some (some (.om o0))) (hp : σ[i]? = some (some (.ref p))) (r : ∀ S' H', Stp (fun _ => False) S H S' H' → H' p = some u → MRep K S' H' p o1) :
    Stp F S H S (upd H p u) ∧ Cf K F S (upd H p u) σ (ρ.set i (some (.om o1))) W := by
  obtain ⟨p', e1, r0, hs, hf, hw⟩ := c.om i o0 h0
  rw [hp] at e1; cases e1
  have st0 : Stp (fun _ => False) S H S (upd H p u) :=
    ⟨fun a o h e => by
      have : a ≠ p := fun q => h (q ▸ hs)
      rw [upd_ne this]; exact e, fun a h1 h2 => absurd h1 h2, fun a h => by
      by_cases ha : a = p
      · rw [ha, upd_same] at h; cases h
      · rw [upd_ne ha] at h; exact h, fun a h => h.elim⟩
  have st : Stp F S H S (upd H p u) :=
    ⟨fun a o h e => by
      have : a ≠ p := fun q => h (q ▸ hs)
      rw [upd_ne this]; exact e, fun a h1 h2 => absurd h1 h2, fun a h => by
      by_cases ha : a = p
      · rw [ha, upd_same] at h; cases h
      · rw [upd_ne ha] at h; exact h, fun a h => by
      have : a ≠ p := fun q => hf (q ▸ h)
      rw [upd_ne this]⟩
  have hl : i < ρ.length := (List.getElem?_eq_some_iff.mp h0).1
  refine ⟨st, ⟨fun a h => ?_, c.cb.fs, fun q o hq => ?_⟩, by simp [c.len], fun j d' h => ?_, fun j ds' h => ?_, fun j k q h1 h2 => ?_⟩
  · intro q; exact c.cb.sd a h (st.dom a q)
  · obtain ⟨h1, h2, h3⟩ := c.cb.w q o hq
    have : q ≠ p := fun z => by rw [z, hw] at hq; cases hq
    exact ⟨h1, h2, h3.up st (upd_ne this)⟩
  · by_cases hj : i = j
    · subst hj
      rw [List.getElem?_set_self hl] at h
      cases h
    · rw [List.getElem?_set_ne hj] at h
      obtain ⟨w, h1, h2⟩ := c.sh j d' h
      exact ⟨w, h1, h2.up st⟩
  · by_cases hj : i = j
    · subst hj
      rw [List.getElem?_set_self hl] at h
      cases h
      exact ⟨p, hp, r _ _ st0 upd_same, hs, hf, hw⟩
    · rw [List.getElem?_set_ne hj] at h
      obtain ⟨q, h1, h3, h4, h5⟩ := c.om j ds' h
      have : q ≠ p := fun z => hj (c.dis i j p ⟨o0, h0, hp⟩ ⟨ds', h, z ▸ h1⟩)
      exact ⟨q, h1, h3.up st (upd_ne this), h4, h5⟩
  · have go : ∀ j, Own σ (ρ.set i (some (.om o1))) j q → Own σ ρ j q := fun j ⟨ds', q1, q2⟩ => by
      by_cases hj : i = j
      · subst hj
        exact ⟨o0, h0, q2⟩
      · rw [List.getElem?_set_ne hj] at q1
        exact ⟨ds', q1, q2⟩
    exact c.dis j k q (go j h1) (go k h2)
theorem Cf.ol {K : KF} {F S : Reg} {H : Hp} {σ : St} {ρ : Env} {W : Wd} (c : Cf K F S H σ ρ W) (i : Nat) (ds : List D) (h0 : ρ[i]? = some (some (.ol ds))) : ∃ p xs, σ[i]? = some (some (.ref p)) ∧ H p = some (.lst xs) ∧ Reps K S H ds xs ∧ S p ∧ ¬ F p ∧ W p = none := by
  obtain ⟨p, h1, ⟨xs, h2, h3⟩, h4⟩ := c.om i _ h0
  exact ⟨p, xs, h1, h2, h3, h4⟩
theorem Cf.newOl {K : KF} {F S : Reg} {H : Hp} {σ : St} {ρ : Env} {W : Wd} (c : Cf K F S H σ ρ W) (i : Nat) {p : Addr} {xs : List V} {ds : List D} (hp : H p = none) (r : Reps K S H ds xs) :
    Stp F S H (fun a => S a ∨ a = p) (upd H p (.lst xs)) ∧ Cf K F (fun a => S a ∨ a = p) (upd H p (.lst xs)) (σ.set i (some (.ref p))) (ρ.set i (some (.ol ds))) W :=
  c.newOm i hp fun S' H' e h => ⟨xs, h, r.up e⟩
theorem Cf.chOl {K : KF} {F S : Reg} {H : Hp} {σ : St} {ρ : Env} {W : Wd} (c : Cf K F S H σ ρ W) {i : Nat} {p : Addr} {ds : List D} {xs : List V} {o0 : MO} (h0 : ρ[i]? = some (some (.om o0))) (hp : σ[i]? = some (some (.ref p))) (r : Reps K S H ds xs) :
    Stp F S H S (upd H p (.lst xs)) ∧ Cf K F S (upd H p (.lst xs)) σ (ρ.set i (some (.ol ds))) W :=
  c.chOm h0 hp fun S' H' e h => ⟨xs, h, r.up e⟩
/-- nobody changes it any more -/
theorem Cf.freezeM {K : KF} {F S : Reg} {H : Hp} {σ : St} {ρ : Env} {W : Wd} (c : Cf K F S H σ ρ W) {i : Nat} {o : MO} {d : D} (h0 : ρ[i]? = some (some (.om o))) (hd : ∀ p S', Stp F S H S' H → ¬ S' p → MRep K S' H p o → Rep K S' H d (.ref p)) :
    ∃ S', Stp F S H S' H ∧ Cf K F S' H σ (ρ.set i (some (.sh d))) W := by
  obtain ⟨p, hp, r0, hs, hf, hw⟩ := c.om i o h0
  have st : Stp F S H (fun a => S a ∧ a ≠ p) H := ⟨fun a o _ e => e, fun a h1 h2 => absurd h1.1 h2, fun a h => h, fun a _ => rfl⟩
  have hl : i < ρ.length := (List.getElem?_eq_some_iff.mp h0).1
  refine ⟨_, st, ⟨fun a h => c.cb.sd a h.1, fun a h => ⟨c.cb.fs a h, fun z => hf (z ▸ h)⟩, fun q o hq => ?_⟩, by simp [c.len], fun j d' h => ?_, fun j ds' h => ?_, fun j k q h1 h2 => ?_⟩
  · obtain ⟨h1, h2, h3⟩ := c.cb.w q o hq
    exact ⟨⟨h1, fun z => by rw [z, hw] at hq; cases hq⟩, h2, h3.up st rfl⟩
  · by_cases hj : i = j
    · subst hj
      rw [List.getElem?_set_self hl] at h
      cases h
      exact ⟨_, hp, hd p _ st (fun z => z.2 rfl) (r0.up st rfl)⟩
    · rw [List.getElem?_set_ne hj] at h
      obtain ⟨w, h1, h2⟩ := c.sh j d' h
      exact ⟨w, h1, h2.up st⟩
  · by_cases hj : i = j
    · subst hj
      rw [List.getElem?_set_self hl] at h
      cases h
    · rw [List.getElem?_set_ne hj] at h
      obtain ⟨q, h1, h3, h4, h5⟩ := c.om j ds' h
      exact ⟨q, h1, h3.up st rfl, ⟨h4, fun z => hj (c.dis i j p ⟨o, h0, hp⟩ ⟨ds', h, z ▸ h1⟩)⟩, h5⟩
  · have go : ∀ j, Own σ (ρ.set i (some (.sh d))) j q → Own σ ρ j q := fun j ⟨ds', q1, q2⟩ => by
      by_cases hj : i = j
      · subst hj
        rw [List.getElem?_set_self hl] at q1
        cases q1
      · rw [List.getElem?_set_ne hj] at q1
        exact ⟨ds', q1, q2⟩
    exact c.dis j k q (go j h1) (go k h2)
theorem Cf.freeze {K : KF} {F S : Reg} {H : Hp} {σ : St} {ρ : Env} {W : Wd} (c : Cf K F S H σ ρ W) {i : Nat} {ds : List D} (h0 : ρ[i]? = some (some (.ol ds))) :
    ∃ S', Stp F S H S' H ∧ Cf K F S' H σ (ρ.set i (some (.sh (.lst ds)))) W :=
  c.freezeM h0 fun p S' _ hn ⟨xs, h1, h2⟩ => Rep.lst_iff.mpr ⟨p, xs, rfl, ⟨h1, hn⟩, h2⟩
/-- an expression that makes a new list, last of all -/
def EndN (K : KF) (F S : Reg) (H : Hp) (σ : St) (Q : KL) (R : VK) : Prop :=
  ∀ S' H' ρ' W' ds xs p, Stp F S H S' H' → Cf K F S' H' σ ρ' W' → Reps K S' H' ds xs → H' p = none → Q ds ρ' W' → R (.ref p) (upd H' p (.lst xs))
def SndN (K : KF) (Wx : WX) (te : TE) (f : TL) : Prop :=
  ∀ F S H σ ρ W Q Qx R, Cf K F S H σ ρ W → f ρ W Q Qx → LkX K F S H Wx Qx → EndN K F S H σ Q R → te σ H R
def GN (X : Cx) (Wx : WX) (e : Expr) (f : TL) : Prop := ∃ te, PE X e te ∧ SndN (kf X) Wx te f
section
variable {X : Cx} {Wx : WX} {st : Stmt} {rest : List Stmt} {f g : TSD} {e : Expr} {es : List Expr} {fe : TD} {fl : TL} {pos : Pos}
def dFresh (fl : TL) : TD := fun ρ W Q Qx => fl ρ W (fun ds ρ' W' => Q (.lst ds) ρ' W') Qx
theorem snd_fresh {K : KF} {te : TE} (se : SndN K Wx te fl) : Snd K Wx te (dFresh fl) := by
  intro F S H σ ρ W Q Qx R cf hf hx hE
  refine se F S H σ ρ W _ Qx _ cf hf hx fun S1 H1 ρ1 W1 ds xs p e1 c1 r1 hp q1 => ?_
  exact hE S1 _ ρ1 W1 _ _ (e1.trans (stp_same c1.cb (same_new hp))) (c1.same (same_new hp)) (rep_newL c1.cb hp r1) q1
theorem GN.ge (h : GN X Wx e fl) : GE X Wx e (dFresh fl) := by
  obtain ⟨te, pe, se⟩ := h
  exact ⟨_, pe, snd_fresh se⟩
def dLstN (fl : TL) : TL := fun ρ W Q Qx => fl ρ W (fun ds ρ' W' => ds.length ≤ sizeLine ∧ Q ds ρ' W') Qx
theorem gn_lst (ha : GA X Wx es fl) : GN X Wx (.List es pos) (dLstN fl) := by
  obtain ⟨ta, pa, sa⟩ := ha
  refine ⟨_, pe_lst pa, fun F S H σ ρ W Q Qx R cf hf hx hE => ?_⟩
  refine sa F S H σ ρ W _ Qx _ cf hf hx fun S1 H1 ρ1 W1 ds vs e1 c1 r1 q1 => ?_
  exact ⟨by rw [r1.length]; exact q1.1, fun p hp => hE S1 H1 ρ1 W1 ds vs p e1 c1 r1 hp q1.2⟩
/-- x = [..], the list the frame's own -/
def dAsgO (i : Nat) (fl : TL) : TSD := fun De ρ W => fl ρ W (fun ds ρ' W' => De.nx (ρ'.set i (some (.ol ds))) W') De.ex
theorem snd_asgO {K : KF} {te : TE} {i : Nat} (se : SndN K Wx te fl) : SndS K Wx (tAsg te (gName i)) (dAsgO i fl) := fun F S H σ ρ W De Dh cf hf l => by
  refine se F S H σ ρ W _ De.ex _ cf hf l.ex fun S' H' ρ' W' ds xs p e' c r hp q => ?_
  obtain ⟨st, c2⟩ := c.newOl i hp r
  exact l.nx _ _ _ _ W' (e'.trans st) c2 q
theorem gs_setO {i : Nat} {x : Str} {pos' : Pos} (hN : X.N.Nodup) (hi : X.N[i]? = some x) (hx : Loc X.env.scope x) (he : GN X Wx e fl) (hs : swapsWith e (some (.Name x pos')) pos.line X.env = pure false := by rfl) (hf : X.fn x = true ∨ X.env.scope.names.lookup x = some .local := by first | exact .inl rfl | exact .inr rfl | assumption) :
    GS X Wx (.Assign [.Name x pos'] e pos) (dAsgO i fl) := by
  obtain ⟨te, pe, se⟩ := he
  exact ⟨_, ps_set hN hi hx pe hs hf, snd_asgO se⟩
/-- x.append(e) -/
def dApp0 (i : Nat) (ρ : Env) : Prop := ∃ ds, ρ[i]? = some (some (.ol ds))
def dApp (i : Nat) (fe : TD) : TSD := fun De ρ W => dApp0 i ρ ∧ fe ρ W (fun d ρ' W' => match ρ'[i]? with
  | some (some (.ol ds)) => ds.length < sizeLine ∧ De.nx (ρ'.set i (some (.ol (ds ++ [d])))) W'
  | _ => False) De.ex
theorem gs_app {i : Nat} {x : Str} {px apos cpos : Pos} (he : GE X Wx e fe) (hN : X.N[i]? = some x := by rfl) (hv : Vis X.env.scope x := by first | exact Or.inl rfl | exact Or.inr (Or.inl rfl) | exact Or.inr (Or.inr rfl)) (hd : (x == ("__debug__" : Str)) = false := by decide) (hcd : (x == ("__classdict__" : Str)) = false := by decide)
    (hbase : attributeBase (.Name x px) "append" X.env (eval (.Name x px) X.env) = eval (.Name x px) X.env := by rfl)
    (hfew : ((backTo cpos (starEach (e :: []) X.env)).all (fun x => !x.1) && (backToKw cpos (keywordEach [] X.env)).all (fun x => x.1.isSome) && decide ((e :: ([] : List Expr)).length + ([] : List Keyword).length + (if ([] : List Keyword).isEmpty then 0 else 1) < 30)) = true := by rfl)
    (hline : (apos.endLine == cpos.line) = true := by rfl) (hse : starEach (e :: []) X.env = (false, eval e X.env) :: starEach [] X.env := by rfl) (hplain : (backTo cpos (starEach [] X.env)).any (·.1) = false := by rfl)
    (hs : swapsWith (.Call (.Attribute (.Name x px) "append" apos) [e] [] cpos) none pos.line X.env = pure false := by rfl) :
    GS X Wx (.Expr (.Call (.Attribute (.Name x px) "append" apos) [e] [] cpos) pos) (dApp i fe) := by
  obtain ⟨te, pe, se⟩ := he
  refine ⟨_, ps_expr (pe_bm PySem.F.plainAttrs_list PySem.F.slot_list_append PySem.F.type_list_append mt_append (pe_var hN hv hd hcd) (pa_cons pe pa_nil hse) hbase hfew hline hse hplain) hs, fun F S H σ ρ W De Dh cf hf l => ?_⟩
  have pre : ∃ p xs, σ[i]? = some (some (.ref p)) ∧ H p = some (.lst xs) := by
    unfold dApp0 at hf
    obtain ⟨⟨ds, h0⟩, hf⟩ := hf
    obtain ⟨p, xs, h1, h2, _⟩ := cf.ol i ds h0
    exact ⟨p, xs, h1, h2⟩
  obtain ⟨p, xs, hp, hH⟩ := pre
  refine ⟨_, hp, .inl ⟨rfl, xs, SqL.of hH⟩, ?_⟩
  refine se F S H σ ρ W _ De.ex _ cf hf.2 l.ex fun S' H' ρ' W' d v e' c r q => ?_
  split at q
  · rename_i ds1 h1
    obtain ⟨p', xs1, e1, h2, h3, _⟩ := c.ol i ds1 h1
    rw [hp] at e1; cases e1
    refine ⟨p, xs1, v, rfl, rfl, h2, by rw [h3.length]; exact q.1, ?_⟩
    obtain ⟨st, c2⟩ := c.chOl h1 hp (h3.append (Reps.cons r Reps.nil))
    exact l.nx _ _ _ _ W' (e'.trans st) c2 q.2
  · exact q.elim
end
section
variable {X : Cx} {Wx : WX} {st : Stmt} {rest : List Stmt} {f g : TSD} {e o : Expr} {es : List Expr} {fe fo : TD} {fl : TL} {pos : Pos}
/-- nobody changes the list of slot i from here on -/
def dFrz (i : Nat) (f : TSD) : TSD := fun De ρ W => match ρ[i]? with
  | some (some (.ol ds)) => f De (ρ.set i (some (.sh (.lst ds)))) W
  | _ => f De ρ W
theorem gss_frz (i : Nat) (h : GSs X Wx rest f) : GSs X Wx rest (dFrz i f) := by
  obtain ⟨t, p, s⟩ := h
  refine ⟨t, p, fun F S H σ ρ W De Dh cf hf l => ?_⟩
  unfold dFrz at hf
  split at hf
  · rename_i ds h0
    obtain ⟨S', st, c2⟩ := cf.freeze h0
    exact s F S' H σ _ W De Dh c2 hf (l.up st)
  · exact s F S H σ ρ W De Dh cf hf l
/-- a method of a text -/
def MSnd (K : KF) (r : V → List V → Hp → VK → Prop) (g : D → List D → (D → Prop) → Prop) : Prop :=
  ∀ F S H W d ds x xs (P : D → Prop) (R : VK), Cb K F S H W → Rep K S H d x → Reps K S H ds xs → g d ds P → (∀ d' v H', Same H H' → Rep K S H' d' v → P d' → R v H') → r x xs H R
def dM (k : D → List D → (D → Prop) → Prop) (fo : TD) (fl : TL) : TD := fun ρ W Q Qx => fo ρ W (fun d ρ1 W1 => (∃ s, d = .str s) ∧ fl ρ1 W1 (fun ds ρ2 W2 => k d ds fun z => Q z ρ2 W2) Qx) Qx
theorem ge_strM {name : Str} {id : String} {apos cpos : Pos} {r : V → List V → Hp → VK → Prop} {k : D → List D → (D → Prop) → Prop} (slot : Slot "str" name id) (hty : typeOf (.builtin id) = pure (.type "method_descriptor")) (hm : MtR X id r) (hr : MSnd (kf X) r k) (ho : GE X Wx o fo) (ha : GA X Wx (e :: es) fl)
    (hbase : attributeBase o name X.env (eval o X.env) = eval o X.env := by rfl)
    (hfew : ((backTo cpos (starEach (e :: es) X.env)).all (fun x => !x.1) && (backToKw cpos (keywordEach [] X.env)).all (fun x => x.1.isSome) && decide ((e :: es).length + ([] : List Keyword).length + (if ([] : List Keyword).isEmpty then 0 else 1) < 30)) = true := by rfl)
    (hline : (apos.endLine == cpos.line) = true := by rfl) (hs : starEach (e :: es) X.env = (false, eval e X.env) :: starEach es X.env := by rfl) (hplain : (backTo cpos (starEach es X.env)).any (·.1) = false := by rfl) :
    GE X Wx (.Call (.Attribute o name apos) (e :: es) [] cpos) (dM k fo fl) := by
  obtain ⟨ta, pa, sa⟩ := ha
  obtain ⟨to, po, so⟩ := ho
  refine ⟨_, pe_bm PySem.F.plainAttrs_str slot hty hm po pa hbase hfew hline hs hplain, fun F S H σ ρ W Q Qx R cf hf hx hE => ?_⟩
  refine so F S H σ ρ W _ Qx _ cf hf hx fun S1 H1 ρ1 W1 d v e1 c1 r1 q1 => ?_
  obtain ⟨⟨s, rfl⟩, q1⟩ := q1
  cases Rep.v_iff.mp r1
  refine ⟨rfl, ?_⟩
  refine sa F S1 H1 σ ρ1 W1 _ Qx _ c1 q1 (hx.up e1) fun S2 H2 ρ2 W2 ds vs e2 c2 r2 q2 => ?_
  refine hr F S2 H2 W2 _ ds _ vs _ _ c2.cb (r1.up e2) r2 q2 fun d3 v3 H3 s3 r3 q3 => ?_
  exact hE S2 H3 ρ2 W2 d3 v3 ((e1.trans e2).trans (stp_same c2.cb s3)) (c2.same s3) r3 q3
/-- a subscript -/
theorem ge_ix {a b : Expr} {fa fb : TD} {r : R2} {k : D → D → (D → Prop) → Prop} (hr : IxR X r) (hk : RSnd (kf X) r k) (ha : GE X Wx a fa) (hb : GE X Wx b fb) (hs : PlainIx b) : GE X Wx (.Subscript a b pos) (dOp k fa fb) := by
  obtain ⟨ta, pa, sa⟩ := ha
  obtain ⟨tb, pb, sb⟩ := hb
  exact ⟨_, pe_ix hr pa pb hs, snd_op hk sa sb⟩
/-- a slice -/
abbrev TOD := Env → Wd → (Option Int → Env → Wd → Prop) → KX → Prop
def SndO (K : KF) (Wx : WX) (te : TO) (f : TOD) : Prop :=
  ∀ F S H σ ρ W (Q : Option Int → Env → Wd → Prop) Qx (R : Option Int → Hp → Prop), Cf K F S H σ ρ W → f ρ W Q Qx → LkX K F S H Wx Qx → (∀ S' H' ρ' W' o, Stp F S H S' H' → Cf K F S' H' σ ρ' W' → Q o ρ' W' → R o H') → te σ H R
def GO (X : Cx) (Wx : WX) (e : Option Expr) (f : TOD) : Prop := ∃ te, PO X e te ∧ SndO (kf X) Wx te f
def dNoP : TOD := fun ρ W Q _ => Q none ρ W
def dPart (fe : TD) : TOD := fun ρ W Q Qx => fe ρ W (fun d ρ' W' => match d with | .v (.int i) => Q (some i) ρ' W' | _ => False) Qx
theorem go_none : GO X Wx none dNoP := ⟨_, po_none, fun F S H σ ρ W Q Qx R cf hf hx hE => hE S H ρ W none .refl cf hf⟩
theorem go_some (he : GE X Wx e fe) : GO X Wx (some e) (dPart fe) := by
  obtain ⟨te, pe, se⟩ := he
  refine ⟨_, po_some pe, fun F S H σ ρ W Q Qx R cf hf hx hE => ?_⟩
  refine se F S H σ ρ W _ Qx _ cf hf hx fun S1 H1 ρ1 W1 d v e1 c1 r1 q1 => ?_
  split at q1
  · rename_i i
    exact ⟨i, Rep.v_iff.mp r1, hE S1 H1 ρ1 W1 _ e1 c1 q1⟩
  · exact q1.elim
def SlSnd (K : KF) (r : V → Option Int → Option Int → Hp → VK → Prop) (g : D → Option Int → Option Int → (D → Prop) → Prop) : Prop :=
  ∀ F S H W d x lo hi (P : D → Prop) (R : VK), Cb K F S H W → Rep K S H d x → g d lo hi P → (∀ d' v H', Same H H' → Rep K S H' d' v → P d' → R v H') → r x lo hi H R
def dSl (k : D → Option Int → Option Int → (D → Prop) → Prop) (fe : TD) (fl fh : TOD) : TD := fun ρ W Q Qx => fe ρ W (fun d ρ1 W1 => fl ρ1 W1 (fun lo ρ2 W2 => fh ρ2 W2 (fun hi ρ3 W3 => k d lo hi fun z => Q z ρ3 W3) Qx) Qx) Qx
theorem ge_sl {lo hi : Option Expr} {p2 : Pos} {flo fhi : TOD} {r : V → Option Int → Option Int → Hp → VK → Prop} {k : D → Option Int → Option Int → (D → Prop) → Prop} (hr : SlR X r) (hk : SlSnd (kf X) r k) (he : GE X Wx e fe) (hl : GO X Wx lo flo) (hu : GO X Wx hi fhi) :
    GE X Wx (.Subscript e (.Slice lo hi none p2) pos) (dSl k fe flo fhi) := by
  obtain ⟨te, pe, se⟩ := he
  obtain ⟨tl, pl, sl⟩ := hl
  obtain ⟨tu, pu, su⟩ := hu
  refine ⟨_, pe_slice hr pe pl pu, fun F S H σ ρ W Q Qx R cf hf hx hE => ?_⟩
  refine se F S H σ ρ W _ Qx _ cf hf hx fun S1 H1 ρ1 W1 d v e1 c1 r1 q1 => ?_
  refine sl F S1 H1 σ ρ1 W1 _ Qx _ c1 q1 (hx.up e1) fun S2 H2 ρ2 W2 o2 e2 c2 q2 => ?_
  refine su F S2 H2 σ ρ2 W2 _ Qx _ c2 q2 (hx.up (e1.trans e2)) fun S3 H3 ρ3 W3 o3 e3 c3 q3 => ?_
  refine hk F S3 H3 W3 d v o2 o3 _ _ c3.cb ((r1.up e2).up e3) q3 fun d4 v4 H4 s4 r4 q4 => ?_
  exact hE S3 H4 ρ3 W3 d4 v4 (((e1.trans e2).trans e3).trans (stp_same c3.cb s4)) (c3.same s4) r4 q4
/-- a promise over data -/
abbrev KDW := D → Wd → Prop
abbrev KXW := Value → Option (List (Str × D)) → Wd → Prop
abbrev SpD := List D → Wd → KDW → KXW → Prop
def toSp (K : KF) (n : Nat) (sp : SpD) : Sp := fun vs H Q E => ∃ F S W ds Qd Qx, Cb K F S H W ∧ Reps K S H ds vs ∧ ds.length = n ∧ sp ds W Qd Qx ∧
  (∀ S' H' W' d v, Stp F S H S' H' → Cb K F S' H' W' → Rep K S' H' d v → Qd d W' → Q v H') ∧
  (∀ S' H' W' cls x od, Stp F S H S' H' → Cb K F S' H' W' → XRep K S' H' x od → Qx cls x W' → E cls od H')
/-- room for k calls, and no object is being shown -/
structure Rm (k : Nat) (A : Around) : Prop extends Room k A where
  gd : A.guards = some []
theorem Rm.less {j k : Nat} {A : Around} (r : Rm k A) (h : j ≤ k) : Rm j A := ⟨r.toRoom.mono h, r.gd⟩
/-- the kit's FnOk, but only where Rm holds -/
structure FnG (P : Program) (w : World) (K : PySem.W.Frag) (mg : Str → Option Value) (base : Heap) (k : Nat) (f : Addr) (fd : FuncData) (ps : List Str) (sp : Sp) : Prop where
  many : ∀ {vs H Q E}, sp vs H Q E → vs.length = ps.length
  go : ∀ {A : Around} {outer : List PySem.Env} {s : Shared} {H : Hp} {args : Args} {us : List Value} {vs : List V} {Q : VK} {E : XK}, Rm k A → Env0 P w K mg base A outer s H → BindsTo s fd args (ps.zip us) → Vals vs us → sp vs H Q E →
    codeAny (model P w) A (.call (.ref f) args) (CR (L2.CX P w) outer P w H s Q E) s
theorem FnG.mono {P : Program} {w : World} {K : PySem.W.Frag} {mg : Str → Option Value} {base : Heap} {j k : Nat} {f : Addr} {fd : FuncData} {ps : List Str} {sp : Sp} (F : FnG P w K mg base j f fd ps sp) (h : j ≤ k) : FnG P w K mg base k f fd ps sp :=
  ⟨F.many, fun r => F.go (r.less h)⟩
theorem FnG.imp {P : Program} {w : World} {K : PySem.W.Frag} {mg : Str → Option Value} {base : Heap} {k : Nat} {f : Addr} {fd : FuncData} {ps : List Str} {sp sp' : Sp} (F : FnG P w K mg base k f fd ps sp) (h : ∀ {vs H Q E}, sp' vs H Q E → sp vs H Q E) :
    FnG P w K mg base k f fd ps sp' := ⟨fun q => F.many (h q), fun r e b v q => F.go r e b v (h q)⟩
/-- the end of a call within a body -/
theorem end_call {X : Cx} {pins : List (Addr × Obj)} {σ : St} {H : Hp} {s : Shared} {Q : VK} {E : XK} (I : Inv X pins σ H s) (hx : ∀ e s', L2.CX X.prog X.w X.stack H s E e s' → X.xe e s') {c : Code} (h : codeAny (model X.prog X.w) X.A c (CR (L2.CX X.prog X.w) X.stack X.prog X.w H s Q E) s) :
    codeAny (model X.prog X.w) X.A c (fun r s' => match r with | .ok (.ret u) => EP X pins σ Q u s' | .ok _ => False | .error e => X.xe e s') s := by
  refine codeAny_mono h fun r s' q => ?_
  match r, q with
  | .error e, q => exact hx e s' q
  | .ok (.ret u), q => exact I.after q
  | .ok .next, q => exact q.elim
  | .ok .brk, q => exact q.elim
  | .ok .cont, q => exact q.elim
/-- a def by its body, where no repr is under way -/
theorem fng_of {P : Program} {w : World} {K : PySem.W.Frag} {mg : Str → Option Value} {base : Heap} {k : Nat} {x qual : Str} {st : Stmt} {f : Addr} {fd : FuncData} {N ps : List Str} {sp : Sp} (F : Fun K x qual st f fd) (S : FnScope N ps (defScope st)) (hl : ∀ {vs H Q E}, sp vs H Q E → vs.length = ps.length)
    (hb : ∀ (cdv : Value) (A : Around) (outer : List PySem.Env) (s : Shared) (H : Hp) (vs : List V) (Q : VK) (E : XK), Rm k (A.deeper (PyProof.Rows.envOfC qual (defScope st) s.heap.objs.size f cdv)) → sp vs H Q E →
      ∃ t, PSs (cxOf (L2.CX P w) P w K mg base N qual (defScope st) f cdv A outer s H E) (defBody st) t ∧ t { nx := fun _ H' => Q .non H', rt := Q } (L2.start N vs) H) : FnG P w K mg base (k + 1) f fd ps sp := by
  obtain ⟨oc, od, kV, doc, pm, an, cdv, ct, osl, efd, atK, isC⟩ := F.ex
  subst efd
  refine ⟨hl, ?_⟩
  intro A outer s H args us vs Q E rm env bnd rel hsp
  have stay : ∀ b o, base.get? b = some o → s.heap.get? b = some o := fun b o e => (env.bs b o e).1
  have inK : K.In s.heap := env.mod.kin.keeps stay
  have par : ∀ y ∈ ps.zip us, (defScope st).names.lookup y.1 = some .local ∨ ((defScope st).names.lookup y.1 = some .cell ∧ ((cellsFrom (s.heap.objs.size + 1) (defScope st).names []).lookup y.1).isSome = true) := by
    rintro ⟨n, v⟩ hy
    refine (S.par n (List.of_mem_zip hy).1).imp id fun q => ⟨q, PySem.W.cellsFrom_some _ _ _ (.inl q)⟩
  refine codeAny_call_function rm.toRoom.depth (inK _ _ atK) rfl S.co S.gen rfl (PySem.W.codeRec_of inK isC) (bnd _ _ _ _ ?_)
  refine wpAny_newFunctionEnv_cells S.kind par ?_
  rintro env' rfl s1 inC
  refine ⟨(env.mod.nolimit.keeps stay).keeps inC.toInCall.keep, codeAny_func ?_⟩
  obtain ⟨t, pt, qt⟩ := hb cdv A outer s H vs Q E ⟨rm.toRoom.deeper _, rm.gd⟩ hsp
  have I := inv_start (CX := L2.CX P w) (E := E) S rm.toRoom.hd env (hl hsp) rel inC
  refine wpAny_mono (pt.run [] s1 (L2.start N vs) H _ I qt) (fun fl s' q => ?_) (fun _ _ q => q)
  match fl, q with
  | .ret u, ⟨v, _, H', J, rv, q⟩ => exact ⟨v, H', J.os, J.bare, J.base, J.hok, rv, q⟩
  | .next, ⟨_, H', J, q⟩ => exact ⟨V.non, H', J.os, J.bare, J.base, J.hok, rfl, q⟩
  | .brk, ⟨_, _, _, q⟩ => exact q.elim
  | .cont, ⟨_, _, _, q⟩ => exact q.elim
section
variable {X : Cx} {Wx : WX} {k : Nat} {f : Addr} {fd : FuncData} {ps : List Str} {sp : Sp}
theorem pe_callG {x : Str} {e : Expr} {es : List Expr} {E : St → XK} {t : TA} {p pos : Pos} (F : FnG X.prog X.w X.K X.mg X.base k f fd ps sp) (hr : Rm k X.A) (hg : Gl X x) (hm : X.mg x = some (.ref f)) (hk : PySem.W.keepIn X.K (.ref f) = true) (hb : Binds X.K fd ps [])
    (hx : ∀ σ, PassesAt (L2.CX X.prog X.w) X σ (E σ)) (ha : PA X (e :: es) t) (hdb : (x == ("__debug__" : Str)) = false) (he : starEach (e :: es) X.env = (false, eval e X.env) :: starEach es X.env) (hpl : (backTo pos (starEach es X.env)).any (·.1) = false) :
    PE X (.Call (.Name x p) (e :: es) [] pos) (tCallS sp E t) := by
  constructor
  intro pins s σ H Q I h
  refine wpAny_Call_Name_kw (ld_glob I hg hm (PySem.W.callWith_K (h₀ := X.base) I.ok.mod.kin hk (thn (ha.run pos pins s σ H _ I h) ?_) he hpl) hdb)
  rintro us s1 ⟨vs, H1, I1, rel, q⟩
  refine ⟨I1.kIn, ?_⟩
  have b := hb s1 us I1.kIn (by rw [List.append_nil, ← rel.length]; exact F.many q)
  rw [List.append_nil] at b
  refine wpAny_call (codeAny_mono (end_call (pins := pins) I1 (fun e s' z => hx σ pins H1 s1 e s' I1 z) (F.go hr I1.env0 b rel q)) fun r s' z => ?_)
  match r, z with
  | .error e, z => exact z
  | .ok (.ret u), z => exact z
  | .ok .next, z => exact z.elim
  | .ok .brk, z => exact z.elim
  | .ok .cont, z => exact z.elim
end
def dCall (sp : SpD) (n : Nat) (fl : TL) : TD := fun ρ W Q Qx => fl ρ W (fun ds ρ' W' => ds.length = n ∧ sp ds W' (fun d W2 => Q d ρ' W2) (fun cls x W2 => Qx cls x ρ' W2)) Qx
theorem snd_call {K : KF} {n : Nat} {sp : SpD} {ta : TA} (ha : SndL K Wx ta fl) : Snd K Wx (tCallS (toSp K n sp) (WE Wx) ta) (dCall sp n fl) := by
  intro F S H σ ρ W Q Qx R cf hf hx hE
  refine ha F S H σ ρ W _ Qx _ cf hf hx fun S1 H1 ρ1 W1 ds vs e1 c1 r1 q1 => ?_
  refine ⟨_, S1, W1, ds, _, _, c1.below, r1, q1.1, q1.2, fun S' H' W' d v e' b r q => ?_, fun S' H' W' cls x od e' b xr q => ?_⟩
  · exact hE S' H' ρ1 W' d v (e1.trans (e'.mono fun _ h => .inl h)) (c1.back e' b) r q
  · exact hx S' H' σ ρ1 W' cls x od (e1.trans (e'.mono fun _ h => .inl h)) (c1.back e' b) xr q
theorem ge_call {f : Addr} {fd : FuncData} {ps : List Str} {k n : Nat} {sp : SpD} {x : Str} {p : Pos} (tk : Takes X Wx) (GF : FnG X.prog X.w X.K X.mg X.base k f fd ps (toSp (kf X) n sp)) (hr : Rm k X.A) (hg : Gl X x) (hm : X.mg x = some (.ref f)) (hk : PySem.W.keepIn X.K (.ref f) = true) (hb : Binds X.K fd ps [])
    (ha : GA X Wx (e :: es) fl) (hdb : (x == ("__debug__" : Str)) = false := by decide) (he : starEach (e :: es) X.env = (false, eval e X.env) :: starEach es X.env := by rfl) (hpl : (backTo pos (starEach es X.env)).any (·.1) = false := by rfl) :
    GE X Wx (.Call (.Name x p) (e :: es) [] pos) (dCall sp n fl) := by
  obtain ⟨ta, pa, sa⟩ := ha
  exact ⟨_, pe_callG GF hr hg hm hk hb (fun σ => passAt tk σ) pa hdb he hpl, snd_call sa⟩
end
/-- THE RULE for a def -/
theorem okD {P : Program} {w : World} {K : PySem.W.Frag} {mg : Str → Option Value} {base : Heap} {x qual : Str} {st : Stmt} {f : Addr} {fd : FuncData} {N ps : List Str} {k : Nat} {sp : SpD} (F : Fun K x qual st f fd) (Sc : FnScope N ps (defScope st))
    (hbody : ∀ (cdv : Value) (A : Around) (outer : List PySem.Env) (s : Shared) (H : Hp) (E : XK), Rm k (A.deeper (PyProof.Rows.envOfC qual (defScope st) s.heap.objs.size f cdv)) →
      ∃ g, GSs (cxOf (L2.CX P w) P w K mg base N qual (defScope st) f cdv A outer s H E) (fun cls d _ H => E cls d H) (defBody st) g ∧
        ∀ ds W Qd Qx, ds.length = ps.length → sp ds W Qd Qx → g { nx := fun _ W' => Qd .non W', rt := Qd, ex := fun cls x _ W' => Qx cls x W' } (ds.map (fun d => some (Sl.sh d)) ++ List.replicate (N.length - ds.length) none) W) :
    FnG P w K mg base (k + 1) f fd ps (toSp ⟨K, w⟩ ps.length sp) := by
  refine fng_of F Sc (fun {vs H Q E} h => ?_) (fun cdv A outer s H vs Q E hr h => ?_)
  · obtain ⟨_, _, _, ds, _, _, _, h1, h2, _⟩ := h
    rw [h1.length, h2]
  · obtain ⟨g, ⟨t, pt, sg⟩, hg⟩ := hbody cdv A outer s H E hr
    obtain ⟨Fr, S, W, ds, Qd, Qx, cb, rs, hl, hsp, hQ, hE⟩ := h
    refine ⟨t, pt, ?_⟩
    have hvl : vs.length = ps.length := by rw [rs.length, hl]
    refine sg Fr S H (L2.start N vs) _ W _ _ ?_ (hg ds W Qd Qx hl hsp) ?_
    · have shp : ∀ (i : Nat) (sl : Sl), (ds.map (fun d => some (Sl.sh d)) ++ List.replicate (N.length - ds.length) none)[i]? = some (some sl) → ∃ d, ds[i]? = some d ∧ sl = .sh d := fun i sl h => by
        rw [List.getElem?_append] at h
        split at h
        · rename_i hi
          rw [List.getElem?_map] at h
          cases e : ds[i]? with
          | none => rw [e] at h; cases h
          | some d => rw [e] at h; cases h; exact ⟨d, rfl, rfl⟩
        · rw [List.getElem?_replicate] at h
          split at h <;> cases h
      refine ⟨cb, ?_, fun i d h => ?_, fun i ds' h => ?_, fun i j p h1 h2 => ?_⟩
      · unfold L2.start
        simp [rs.length]
      · obtain ⟨d', e1, e2⟩ := shp i _ h
        cases e2
        obtain ⟨v, e3, r⟩ := rs.get e1
        refine ⟨v, ?_, r⟩
        unfold L2.start
        have hi : i < vs.length := (List.getElem?_eq_some_iff.mp e3).1
        rw [List.getElem?_append_left (by simpa using hi), List.getElem?_map, e3]
        rfl
      · obtain ⟨d', e1, e2⟩ := shp i _ h
        cases e2
      · obtain ⟨ds', h1, _⟩ := h1
        obtain ⟨d', e1, e2⟩ := shp i _ h1
        cases e2
    · exact ⟨fun S' H' σ' ρ' W' e c q => hQ S' H' W' _ _ e c.cb (Rep.v_iff.mpr rfl) q, fun S' H' σ' ρ' W' d v e c r q => hQ S' H' W' d v e c.cb r q,
        fun S' H' σ' ρ' W' e c q => q.elim, fun S' H' σ' ρ' W' e c q => q.elim, fun S' H' σ' ρ' W' cls x od e c xr q => hE S' H' W' cls x od e c.cb xr q⟩
/-- a weaker promise -/
theorem toSp_imp {K : KF} {n : Nat} {sp sp' : SpD} (h : ∀ ds W Q Qx, sp' ds W Q Qx → sp ds W Q Qx) : ∀ vs H Q E, toSp K n sp' vs H Q E → toSp K n sp vs H Q E := fun vs H Q E ⟨F, S, W, ds, Qd, Qx, a, b, c, d, e, f⟩ => ⟨F, S, W, ds, Qd, Qx, a, b, c, h _ _ _ _ d, e, f⟩
end G
namespace G
open PySem PySem.Spec L2
/-- J yields the data ds, whatever happens outside of them meanwhile -/
def ItOk (K : KF) (F S : Reg) (H : Hp) (J : It) (ds : List D) : Prop :=
  ∀ S' H', Stp F S H S' H' → (∀ (i : Nat) d, ds[i]? = some d → J.go i H' ∧ ∀ x H3, J.yld i H' x H3 → Same H' H3 ∧ ((∀ a, S' a → H' a ≠ none) → Rep K S' H3 d x)) ∧ J.stop ds.length H'
theorem ItOk.up {K : KF} {F S S1 : Reg} {H H1 : Hp} {J : It} {ds : List D} (h : ItOk K F S H J ds) (e : Stp F S H S1 H1) : ItOk K F S1 H1 J ds := fun S' H' e' => h S' H' (e.trans e')
abbrev TID := Env → Wd → KL → KX → Prop
def SndI (K : KF) (Wx : WX) (wi : TI) (f : TID) : Prop :=
  ∀ F S H σ ρ W Q Qx (R : It → Hp → Prop), Cf K F S H σ ρ W → f ρ W Q Qx → LkX K F S H Wx Qx → (∀ S' H' ρ' W' ds J, Stp F S H S' H' → Cf K F S' H' σ ρ' W' → ItOk K (fun _ => False) S' H' J ds → Q ds ρ' W' → R J H') → wi σ H R
def GI (X : Cx) (Wx : WX) (tg iter : Expr) (f : TID) : Prop := ∃ wi, PI X tg iter wi ∧ SndI (kf X) Wx wi f
section
variable {X : Cx} {Wx : WX} {e tg a b c : Expr} {es : List Expr} {fe : TD} {fl : TL} {p pos : Pos}
theorem itok_l {K : KF} {F S : Reg} {H : Hp} {a : Addr} {xs : List V} {ds : List D} (h : ImL S H a xs) (r : Reps K S H ds xs) : ItOk K F S H (Itl K a) ds := fun S' H' e => by
  have h' : SqL K H' a xs := (e.imL h).sq
  have r' := r.up e
  refine ⟨fun i d hd => ?_, ⟨xs, h', by rw [r'.length]; exact Nat.le_refl _⟩⟩
  obtain ⟨v, hv, rv⟩ := r'.get hd
  exact ⟨⟨xs, v, h', hv⟩, fun x H3 ⟨e3, y⟩ => by
    subst e3
    have := y xs h'
    rw [hv] at this; cases this
    exact ⟨Same.refl _, fun _ => rv⟩⟩
theorem itok_t {K : KF} {F S : Reg} {H : Hp} {a : Addr} {xs : List V} {ds : List D} (h : ImT K S H a xs) (r : Reps K S H ds xs) : ItOk K F S H (Itt K a) ds := fun S' H' e => by
  have h' := (e.imT h).sq
  have r' := r.up e
  refine ⟨fun i d hd => ?_, ⟨xs, h', by rw [r'.length]; exact Nat.le_refl _⟩⟩
  obtain ⟨v, hv, rv⟩ := r'.get hd
  exact ⟨⟨xs, v, h', hv⟩, fun x H3 ⟨e3, y⟩ => by
    subst e3
    have := y xs h'
    rw [hv] at this; cases this
    exact ⟨Same.refl _, fun _ => rv⟩⟩
def iSeq (fe : TD) : TID := fun ρ W Q Qx => fe ρ W (fun d ρ' W' => match d with | .lst ds => Q ds ρ' W' | _ => False) Qx
def iTupD (fe : TD) : TID := fun ρ W Q Qx => fe ρ W (fun d ρ' W' => match d with | .tup ds => Q ds ρ' W' | _ => False) Qx
theorem gi_list (he : GE X Wx e fe) : GI X Wx tg e (iSeq fe) := by
  obtain ⟨te, pe, se⟩ := he
  refine ⟨_, pi_list pe, fun F S H σ ρ W Q Qx R cf hf hx hE => ?_⟩
  refine se F S H σ ρ W _ Qx _ cf hf hx fun S1 H1 ρ1 W1 d v e1 c1 r1 q1 => ?_
  split at q1
  · rename_i ds
    obtain ⟨a, xs, rfl, h1, h2⟩ := Rep.lst_iff.mp r1
    exact ⟨a, rfl, ⟨xs, h1.sq⟩, hE S1 H1 ρ1 W1 ds _ e1 c1 (itok_l h1 h2) q1⟩
  · exact q1.elim
theorem gi_tup (he : GE X Wx e fe) : GI X Wx tg e (iTupD fe) := by
  obtain ⟨te, pe, se⟩ := he
  refine ⟨_, pi_tup pe, fun F S H σ ρ W Q Qx R cf hf hx hE => ?_⟩
  refine se F S H σ ρ W _ Qx _ cf hf hx fun S1 H1 ρ1 W1 d v e1 c1 r1 q1 => ?_
  split at q1
  · rename_i ds
    obtain ⟨a, xs, rfl, h1, h2⟩ := Rep.tup_iff.mp r1
    exact ⟨a, rfl, ⟨xs, h1.sq⟩, hE S1 H1 ρ1 W1 ds _ e1 c1 (itok_t h1 h2) q1⟩
  · exact q1.elim
/-- the signs of a text -/
def signs (s : Str) : List D := s.cps.toList.map fun c => D.str ⟨#[c]⟩
def iStrD (fe : TD) : TID := fun ρ W Q Qx => fe ρ W (fun d ρ' W' => match d with | .v (.str s) => Q (signs s) ρ' W' | _ => False) Qx
theorem gi_str (he : GE X Wx e fe) : GI X Wx tg e (iStrD fe) := by
  obtain ⟨te, pe, se⟩ := he
  refine ⟨_, pi_str pe, fun F S H σ ρ W Q Qx R cf hf hx hE => ?_⟩
  refine se F S H σ ρ W _ Qx _ cf hf hx fun S1 H1 ρ1 W1 d v e1 c1 r1 q1 => ?_
  split at q1
  · rename_i s
    cases Rep.v_iff.mp r1
    refine ⟨s, rfl, hE S1 H1 ρ1 W1 _ _ e1 c1 (fun S' H' e' => ⟨fun i d hd => ?_, ?_⟩) q1⟩
    · unfold signs at hd
      rw [List.getElem?_map] at hd
      cases hc : s.cps.toList[i]? with
      | none => rw [hc] at hd; cases hd
      | some c =>
        rw [hc] at hd; cases hd
        have hi : i < s.cps.size := by
          have := (List.getElem?_eq_some_iff.mp hc).1
          simpa using this
        refine ⟨hi, fun x H3 ⟨e3, c', h1, h2⟩ => ?_⟩
        subst e3 h2
        have : c' = c := by
          rw [← Array.getElem?_toList] at h1
          rw [hc] at h1; cases h1; rfl
        subst this
        exact ⟨Same.refl _, fun _ => Rep.v_iff.mpr rfl⟩
    · show s.cps.size ≤ (signs s).length
      unfold signs
      simp
  · exact q1.elim
/-- lo, lo + 1, .. -/
def rng (lo : Int) (n : Nat) : List D := (List.range n).map fun (i : Nat) => D.int (lo + (i : Int))
theorem rng_length {lo : Int} {n : Nat} : (rng lo n).length = n := by unfold rng; simp
theorem itok_r {K : KF} {F S : Reg} {H : Hp} {lo : Int} {n : Nat} : ItOk K F S H (Itr lo n) (rng lo n) := fun S' H' e => by
  refine ⟨fun i d hd => ?_, ?_⟩
  · unfold rng at hd
    rw [List.getElem?_map] at hd
    cases hc : (List.range n)[i]? with
    | none => rw [hc] at hd; cases hd
    | some c =>
      rw [hc] at hd; cases hd
      rw [List.getElem?_eq_some_iff] at hc
      obtain ⟨hi, e1⟩ := hc
      rw [List.getElem_range] at e1
      subst e1
      refine ⟨(show i < n by simpa using hi), fun x H3 ⟨e3, h2⟩ => ?_⟩
      subst e3 h2
      exact ⟨Same.refl _, fun _ => Rep.v_iff.mpr rfl⟩
  · show n ≤ _
    rw [rng_length]; exact Nat.le_refl _
def iRngD1 (fl : TL) : TID := fun ρ W Q Qx => fl ρ W (fun ds ρ' W' => match ds with | [.v (.int j)] => -(2 ^ 62) ≤ j ∧ j < 2 ^ 62 ∧ Q (rng 0 j.toNat) ρ' W' | _ => False) Qx
theorem gi_range1 (hg : Gl X "range") (hm : X.mg "range" = none) (ha : GA X Wx [a] fl) (hs : starEach [a] X.env = [(false, eval a X.env)] := by rfl) : GI X Wx tg (.Call (.Name "range" p) [a] [] pos) (iRngD1 fl) := by
  obtain ⟨ta, pa, sa⟩ := ha
  refine ⟨_, pi_range1 hg hm pa hs, fun F S H σ ρ W Q Qx R cf hf hx hE => ?_⟩
  refine sa F S H σ ρ W _ Qx _ cf hf hx fun S1 H1 ρ1 W1 ds vs e1 c1 r1 q1 => ?_
  split at q1
  · rename_i j
    obtain ⟨v, r, rfl, h1, h2⟩ := Reps.cons_iff.mp r1
    cases Rep.v_iff.mp h1
    rw [Reps.nil_iff.mp h2]
    exact ⟨j, rfl, q1.1, q1.2.1, hE S1 H1 ρ1 W1 _ _ e1 c1 itok_r q1.2.2⟩
  · exact q1.elim
end
section
variable {X : Cx} {Wx : WX} {st : Stmt} {f g : TSD} {e tg iter : Expr} {fi : TID} {gd : TGD} {pos : Pos}
/-- I: what holds ahead of the i-th turn -/
@[irreducible] def dFor (fi : TID) (gd : TGD) (fb : TSD) : TSD := fun De ρ W => fi ρ W (fun ds ρ0 W0 => ∃ I : Nat → Env → Wd → Prop, I 0 ρ0 W0 ∧
  (∀ (i : Nat) d ρ W, ds[i]? = some d → I i ρ W → gd d ρ W fun ρ' W' => fb { De with nx := I (i + 1), ct := I (i + 1), bk := De.nx } ρ' W') ∧ ∀ ρ W, I ds.length ρ W → De.nx ρ W) De.ex
theorem gs_for {body : List Stmt} (hp : PassesOwn (model X.prog X.w) X.A X.env X.xe) (hc : X.calm = true) {ts : List Nat} (hi : GI X Wx tg iter fi) (hg : GG X tg gd ts) (hb : GSs X Wx body f)
    (hs : ∀ x, foldedSetIterable iter X.env x = pure x := by intro _; rfl) : GS X Wx (.For tg iter body [] pos) (dFor fi gd f) := by
  obtain ⟨wi, pi, si⟩ := hi
  obtain ⟨tgt, pg, sg⟩ := hg
  obtain ⟨tb, pb, sb⟩ := hb
  refine ⟨_, ps_for hp hc pi pg pb hs, fun F S H σ ρ W De Dh cf hf l => ?_⟩
  unfold dFor at hf
  refine si F S H σ ρ W _ De.ex _ cf hf l.ex fun S1 H1 ρ1 W1 ds J e1 c1 ok q1 => ?_
  obtain ⟨I, h0, hturn, hend⟩ := q1
  let Inv' : Nat → L2.St → Hp → Prop := fun i σ' H' => ∃ S' ρ' W', Stp F S1 H1 S' H' ∧ Cf (kf X) F S' H' σ' ρ' W' ∧ I i ρ' W'
  refine ⟨fun i m σ' H' => m = ds.length - i ∧ i ≤ ds.length ∧ Inv' i σ' H', ⟨ds.length, by simp, Nat.zero_le _, S1, ρ1, W1, .refl, c1, h0⟩, ?_⟩
  rintro i m σ2 H2 ⟨rfl, hi, S2, ρ2, W2, e2, c2, q2⟩
  obtain ⟨okg, oks⟩ := ok S2 H2 (e2.mono fun _ z => z.elim)
  by_cases hlt : i < ds.length
  · have hd : ds[i]? = some ds[i] := List.getElem?_eq_getElem hlt
    obtain ⟨hgo, hy⟩ := okg i _ hd
    refine .inr ⟨hgo, Inv' (i + 1), fun σ' H' p' => ⟨_, by omega, rfl, hlt, p'⟩, fun x H3 y => ?_⟩
    obtain ⟨s3, r3⟩ := hy x H3 y
    refine sg F S2 H3 σ2 ρ2 W2 _ x _ _ (c2.same s3) (r3 c2.cb.sd) (hturn i _ ρ2 W2 hd q2) fun S4 H4 σ4 ρ4 W4 e4 c4 _ _ q4 => ?_
    have e34 := (e2.trans (stp_same c2.cb s3)).trans e4
    refine sb F S4 H4 σ4 ρ4 W4 _ _ c4 q4 ⟨fun S' H' σ' ρ' W' e' c q => ⟨S', ρ', W', e34.trans e', c, q⟩, fun S' H' σ' ρ' W' d v e' c r q => l.rt S' H' σ' ρ' W' d v ((e1.trans e34).trans e') c r q,
      fun S' H' σ' ρ' W' e' c q => l.nx S' H' σ' ρ' W' ((e1.trans e34).trans e') c q, fun S' H' σ' ρ' W' e' c q => ⟨S', ρ', W', e34.trans e', c, q⟩, (l.ex.up e1).up e34⟩
  · have e : i = ds.length := by omega
    subst e
    exact .inl ⟨oks, l.nx S2 H2 σ2 ρ2 W2 (e1.trans e2) c2 (hend ρ2 W2 q2)⟩
/-- while: I with its measure -/
@[irreducible] def dWhile (fc : TB) (fb : TSD) : TSD := fun De ρ W => ∃ I : Nat → Env → Wd → Prop, (∃ m, I m ρ W) ∧ ∀ m ρ W, I m ρ W → fc ρ W (fun b ρ' W' => if b = true then
  fb { De with nx := fun ρ2 W2 => ∃ m', m' < m ∧ I m' ρ2 W2, ct := fun ρ2 W2 => ∃ m', m' < m ∧ I m' ρ2 W2, bk := De.nx } ρ' W' else De.nx ρ' W') De.ex
theorem gs_while {c : Expr} {body : List Stmt} {fc : TB} (hp : PassesOwn (model X.prog X.w) X.A X.env X.xe) (hc : GT X Wx c fc) (hb : GSs X Wx body f) : GS X Wx (.While c body [] pos) (dWhile fc f) := by
  obtain ⟨tc, pc, sc⟩ := hc
  obtain ⟨tb, pb, sb⟩ := hb
  refine ⟨_, ps_while hp pc pb, fun F S H σ ρ W De Dh cf hf l => ?_⟩
  unfold dWhile at hf
  obtain ⟨I, ⟨m0, h0⟩, hturn⟩ := hf
  let Inv' : Nat → L2.St → Hp → Prop := fun m σ' H' => ∃ S' ρ' W', Stp F S H S' H' ∧ Cf (kf X) F S' H' σ' ρ' W' ∧ I m ρ' W'
  refine ⟨Inv', ⟨m0, S, ρ, W, .refl, cf, h0⟩, ?_⟩
  rintro m σ1 H1 ⟨S1, ρ1, W1, e1, c1, q1⟩
  refine sc F S1 H1 σ1 ρ1 W1 _ De.ex _ c1 (hturn m ρ1 W1 q1) (l.ex.up e1) fun S2 H2 ρ2 W2 b e2 c2 q2 => ?_
  cases b with
  | true =>
    refine ⟨fun σ' H' => ∃ m', m' < m ∧ Inv' m' σ' H', fun _ _ h => h, ?_⟩
    have e12 := e1.trans e2
    exact sb F S2 H2 σ1 ρ2 W2 _ _ c2 q2 ⟨fun S' H' σ' ρ' W' e' c ⟨m', hm, q⟩ => ⟨m', hm, S', ρ', W', e12.trans e', c, q⟩, fun S' H' σ' ρ' W' d v e' c r q => l.rt S' H' σ' ρ' W' d v (e12.trans e') c r q,
      fun S' H' σ' ρ' W' e' c q => l.nx S' H' σ' ρ' W' (e12.trans e') c q, fun S' H' σ' ρ' W' e' c ⟨m', hm, q⟩ => ⟨m', hm, S', ρ', W', e12.trans e', c, q⟩, l.ex.up e12⟩
  | false => exact l.nx S2 H2 σ1 ρ2 W2 (e1.trans e2) c2 q2
end
def wipeD (ρ : Env) : List Nat → Env
  | [] => ρ
  | v :: vs => (wipeD ρ vs).set v none
def noOwn (ρ : Env) (vs : List Nat) : Prop := ∀ i ∈ vs, ∀ o, ρ[i]? ≠ some (some (.om o))
theorem Cf.setNone {K : KF} {F S : Reg} {H : Hp} {σ : St} {ρ : Env} {W : Wd} (c : Cf K F S H σ ρ W) (i : Nat) : Cf K F S H (σ.set i none) (ρ.set i none) W where
  cb := c.cb
  len := by simp [c.len]
  sh := fun j d' h => by
    by_cases hj : i = j
    · subst hj
      have hl : i < ρ.length := by
        have := (List.getElem?_eq_some_iff.mp h).1
        simpa using this
      rw [List.getElem?_set_self hl] at h
      cases h
    · rw [List.getElem?_set_ne hj] at h
      obtain ⟨w, h1, h2⟩ := c.sh j d' h
      exact ⟨w, by rw [List.getElem?_set_ne hj]; exact h1, h2⟩
  om := fun j ds h => by
    by_cases hj : i = j
    · subst hj
      have hl : i < ρ.length := by
        have := (List.getElem?_eq_some_iff.mp h).1
        simpa using this
      rw [List.getElem?_set_self hl] at h
      cases h
    · rw [List.getElem?_set_ne hj] at h
      obtain ⟨p, h1, h2⟩ := c.om j ds h
      exact ⟨p, by rw [List.getElem?_set_ne hj]; exact h1, h2⟩
  dis := fun j k p h1 h2 => by
    have go : ∀ j, Own (σ.set i none) (ρ.set i none) j p → Own σ ρ j p := fun j ⟨ds, q1, q2⟩ => by
      by_cases hj : i = j
      · subst hj
        have hl : i < ρ.length := by
          have := (List.getElem?_eq_some_iff.mp q1).1
          simpa using this
        rw [List.getElem?_set_self hl] at q1
        cases q1
      · rw [List.getElem?_set_ne hj] at q1 q2
        exact ⟨ds, q1, q2⟩
    exact c.dis j k p (go j h1) (go k h2)
theorem Cf.wiped {K : KF} {F S : Reg} {H : Hp} {σ : St} {ρ : Env} {W : Wd} (c : Cf K F S H σ ρ W) : ∀ vs : List Nat, Cf K F S H (wipe σ vs) (wipeD ρ vs) W
  | [] => c
  | v :: vs => by unfold wipe wipeD; exact (c.wiped vs).setNone v
/-- tests of a comprehension -/
def GTs (X : Cx) (Wx : WX) (ifs : List Expr) (f : TB) : Prop := ∃ te, PTs X ifs te ∧ SndB (kf X) Wx te f
def dYes : TB := fun ρ W Q _ => Q true ρ W
section
variable {X : Cx} {Wx : WX} {c e : Expr} {fb : TB}
theorem gts_nil : GTs X Wx [] dYes := ⟨_, pts_nil, fun F S H σ ρ W Q Qx R cf hf hx hE => hE S H ρ W true .refl cf hf⟩
theorem gts_one (h : GT X Wx c fb) : GTs X Wx [c] fb := by
  obtain ⟨t, p, s⟩ := h
  exact ⟨_, pts_one p, s⟩
end
/-- W0: within a block nothing may be raised -/
abbrev WX0 : WX := fun _ _ _ _ => False
def canE (K : KF) (Wx : WX) (f : TD) : TE := fun σ H R => ∃ F S ρ W Q Qx, Cf K F S H σ ρ W ∧ f ρ W Q Qx ∧ LkX K F S H Wx Qx ∧ EndE K F S H σ Q R
def canB (K : KF) (Wx : WX) (f : TB) : TT := fun σ H R => ∃ F S ρ W Q Qx, Cf K F S H σ ρ W ∧ f ρ W Q Qx ∧ LkX K F S H Wx Qx ∧ EndB K F S H σ Q R
def canG (K : KF) (ts : List Nat) (g : TGD) : TG := fun v σ H R => ∃ F S ρ W d P, Cf K F S H σ ρ W ∧ Rep K S H d v ∧ g d ρ W P ∧
  ∀ S' H' σ' ρ' W', Stp F S H S' H' → Cf K F S' H' σ' ρ' W' → Off ts σ σ' → Off ts ρ ρ' → P ρ' W' → R σ' H'
section
variable {X : Cx} {Wx : WX} {c e tg : Expr} {ifs : List Expr} {f : TD} {fb : TB} {g : TGD} {ts : List Nat}
theorem GE.can (h : GE X Wx e f) : PE X e (canE (kf X) Wx f) := by
  obtain ⟨te, pe, se⟩ := h
  exact ⟨fun pins s σ H Q I ⟨F, S, ρ, W, Qd, Qx, cf, hf, hx, hE⟩ => pe.run pins s σ H Q I (se F S H σ ρ W Qd Qx Q cf hf hx hE)⟩
theorem GTs.can (h : GTs X Wx ifs fb) : PTs X ifs (canB (kf X) Wx fb) := by
  obtain ⟨te, pe, se⟩ := h
  exact ⟨fun pins s σ H Q I ⟨F, S, ρ, W, Qd, Qx, cf, hf, hx, hE⟩ => pe.run pins s σ H Q I (se F S H σ ρ W Qd Qx Q cf hf hx hE)⟩
theorem GG.can (h : GG X tg g ts) : PG X tg (canG (kf X) ts g) := by
  obtain ⟨te, pe, se⟩ := h
  exact ⟨fun pins s σ H v u Q I r ⟨F, S, ρ, W, d, P, cf, rd, hg, hE⟩ => pe.run pins s σ H v u Q I r (se F S H σ ρ W d v P Q cf rd hg hE)⟩
end
/-- the heap without p -/
def del (H : Hp) (p : Addr) : Hp := fun a => if a = p then none else H a
theorem del_ne {H : Hp} {a p : Addr} (h : a ≠ p) : del H p a = H a := if_neg h
theorem del_same {H : Hp} {p : Addr} : del H p p = none := if_pos rfl
theorem upd_del {H : Hp} {p : Addr} {o : HO} (h : H p = some o) : upd (del H p) p o = H := by
  funext a
  by_cases ha : a = p
  · rw [ha, upd_same, h]
  · rw [upd_ne ha, del_ne ha]
abbrev Add (S : Reg) (p : Addr) : Reg := fun a => S a ∨ a = p
abbrev Rem (S : Reg) (p : Addr) : Reg := fun a => S a ∧ a ≠ p
mutual
theorem Rep.del {K : KF} {S : Reg} {H : Hp} {p : Addr} (hp : S p) : ∀ {d : D} {v : V}, Rep K S H d v → Rep K (Rem S p) (del H p) d v
  | .v _, _, h => by simp only [Rep] at h ⊢; exact h
  | .tup ds, v, h => by
    simp only [Rep] at h ⊢
    obtain ⟨a, xs, e1, h1, h2⟩ := h
    refine ⟨a, xs, e1, ?_, Reps.del hp h2⟩
    rcases h1 with ⟨h1, hs⟩ | h1 | ⟨o, h1, hs⟩
    · have na : a ≠ p := fun q => hs (q ▸ hp)
      exact .inl ⟨by rw [del_ne na]; exact h1, fun z => hs z.1⟩
    · exact .inr (.inl h1)
    · have na : a ≠ p := fun q => hs (q ▸ hp)
      exact .inr (.inr ⟨o, by rw [del_ne na]; exact h1, fun z => hs z.1⟩)
  | .lst ds, v, h => by
    simp only [Rep] at h ⊢
    obtain ⟨a, xs, e1, ⟨h1, hs⟩, h2⟩ := h
    have na : a ≠ p := fun q => hs (q ▸ hp)
    exact ⟨a, xs, e1, ⟨by rw [del_ne na]; exact h1, fun z => hs z.1⟩, Reps.del hp h2⟩
  | .scr ns, v, h => by
    simp only [Rep] at h ⊢
    obtain ⟨a, e1, h1⟩ := h
    refine ⟨a, e1, ?_⟩
    rcases h1 with ⟨h1, hs⟩ | h1
    · have na : a ≠ p := fun q => hs (q ▸ hp)
      refine .inl ⟨?_, fun z => hs z.1⟩
      rcases h1 with h1 | ⟨o, h1⟩
      · exact .inl (by rw [del_ne na]; exact h1)
      · exact .inr ⟨o, by rw [del_ne na]; exact h1⟩
    · exact .inr h1
  | .dct ks ds, v, h => by
    simp only [Rep] at h ⊢
    obtain ⟨a, xs, e1, ⟨h1, hs⟩, hl, h2⟩ := h
    have na : a ≠ p := fun q => hs (q ▸ hp)
    exact ⟨a, xs, e1, ⟨by rw [del_ne na]; exact h1, fun z => hs z.1⟩, hl, Reps.del hp h2⟩
  | .tpf ds, v, h => by
    simp only [Rep] at h ⊢
    obtain ⟨a, xs, o, e1, ⟨h0, hs⟩, h1, h2⟩ := h
    have na : a ≠ p := fun q => hs (q ▸ hp)
    exact ⟨a, xs, o, e1, ⟨by rw [del_ne na]; exact h0, fun z => hs z.1⟩, h1, Reps.del hp h2⟩
  | .exc c ks ds, v, h => by
    simp only [Rep] at h ⊢
    obtain ⟨a, od, xs, e1, ⟨h0, hs⟩, h1, h2⟩ := h
    have na : a ≠ p := fun q => hs (q ▸ hp)
    refine ⟨a, od, xs, e1, ⟨by rw [del_ne na]; exact h0, fun z => hs z.1⟩, ?_, Reps.del hp h2⟩
    cases ks with
    | none => exact h1
    | some ks =>
      obtain ⟨d, q1, ⟨q2, q3⟩, q4⟩ := h1
      have nd : d ≠ p := fun q => q3 (q ▸ hp)
      exact ⟨d, q1, ⟨by rw [del_ne nd]; exact q2, fun z => q3 z.1⟩, q4⟩
  | .dtt ks ds, v, h => by
    simp only [Rep] at h ⊢
    obtain ⟨a, o, nks, bs, xs, e1, ⟨h0, hs⟩, h1, h2, h3⟩ := h
    have na : a ≠ p := fun q => hs (q ▸ hp)
    exact ⟨a, o, nks, bs, xs, e1, ⟨by rw [del_ne na]; exact h0, fun z => hs z.1⟩, h1, Reps.del hp h2, Reps.del hp h3⟩
theorem Reps.del {K : KF} {S : Reg} {H : Hp} {p : Addr} (hp : S p) : ∀ {ds : List D} {vs : List V}, Reps K S H ds vs → Reps K (Rem S p) (del H p) ds vs
  | [], _, h => by simp only [Reps] at h ⊢; exact h
  | d :: ds, vs, h => by
    simp only [Reps] at h ⊢
    obtain ⟨x, r, e1, h1, h2⟩ := h
    exact ⟨x, r, e1, Rep.del hp h1, Reps.del hp h2⟩
end
section
variable {K : KF} {F S S' : Reg} {H H' : Hp} {σ σ2 : St} {ρ ρ2 : Env} {W W' : Wd}
/-- a foreign object comes -/
theorem Cf.alien (c : Cf K F S H σ ρ W) {p : Addr} {o : HO} (hp : H p = none) : Stp F S H (Add S p) (upd H p o) ∧ Cf K (Add F p) (Add S p) (upd H p o) σ ρ W := by
  have np : ∀ a, S a → a ≠ p := fun a hs q => c.cb.sd a hs (by rw [q]; exact hp)
  have st : Stp F S H (Add S p) (upd H p o) :=
    ⟨fun a u _ h => same_new hp a u h, fun a h1 h2 => by
      rcases h1 with h1 | h1
      · exact absurd h1 h2
      · rw [h1]; exact hp, fun a h => by
      by_cases ha : a = p
      · rw [ha]; exact hp
      · rw [upd_ne ha] at h; exact h, fun a hf => upd_ne (np a (c.cb.fs a hf))⟩
  refine ⟨st, ⟨fun a h => ?_, fun a h => ?_, fun q u hw => ?_⟩, c.len, fun j d' h => ?_, fun j ds' h => ?_, c.dis⟩
  · rcases h with h | h
    · rw [upd_ne (np a h)]; exact c.cb.sd a h
    · rw [h, upd_same]; simp
  · rcases h with h | h
    · exact .inl (c.cb.fs a h)
    · exact .inr h
  · obtain ⟨h1, h2, h3⟩ := c.cb.w q u hw
    exact ⟨.inl h1, fun z => z.elim h2 (np q h1), h3.up st (upd_ne (np q h1))⟩
  · obtain ⟨w, h1, h2⟩ := c.sh j d' h
    exact ⟨w, h1, h2.up st⟩
  · obtain ⟨q, h1, h3, h4, h5, h6⟩ := c.om j ds' h
    exact ⟨q, h1, h3.up st (upd_ne (np q h4)), .inl h4, fun z => z.elim h5 (np q h4), h6⟩
/-- it changes -/
theorem Cf.alienCh (c : Cf K (Add F p) S H σ ρ W) {o : HO} : Stp F (Rem S p) (del H p) (Rem S p) (del H p) ∧ Cf K (Add F p) S (upd H p o) σ ρ W := by
  have sp : S p := c.cb.fs p (.inr rfl)
  have hn := c.cb.sd p sp
  refine ⟨.refl, ⟨fun a h => ?_, c.cb.fs, fun q u hw => ?_⟩, c.len, fun j d' h => ?_, fun j ds' h => ?_, c.dis⟩
  · by_cases ha : a = p
    · rw [ha, upd_same]; simp
    · rw [upd_ne ha]; exact c.cb.sd a h
  all_goals
    have st : Stp (fun _ => False) S H S (upd H p o) := ⟨fun a u h e => by
      have : a ≠ p := fun q => h (q ▸ sp)
      rw [upd_ne this]; exact e, fun a h1 h2 => absurd h1 h2, fun a h => by
      by_cases ha : a = p
      · rw [ha, upd_same] at h; cases h
      · rw [upd_ne ha] at h; exact h, fun a h => h.elim⟩
  · obtain ⟨h1, h2, h3⟩ := c.cb.w q u hw
    exact ⟨h1, h2, h3.up st (upd_ne fun z => h2 (.inr z))⟩
  · obtain ⟨w, h1, h2⟩ := c.sh j d' h
    exact ⟨w, h1, h2.up st⟩
  · obtain ⟨q, h1, h3, h4, h5, h6⟩ := c.om j ds' h
    exact ⟨q, h1, h3.up st (upd_ne fun z => h5 (.inr z)), h4, h5, h6⟩
theorem MRep.del {p q : Addr} {o : MO} (h : MRep K S H q o) (nq : q ≠ p) (sp : S p) : MRep K (Rem S p) (del H p) q o := by
  cases o with
  | lst ds => obtain ⟨xs, h4, h5⟩ := h; exact ⟨xs, (del_ne nq).trans h4, h5.del sp⟩
  | ins C dx fs => obtain ⟨xs, h4, h5, h6⟩ := h; exact ⟨xs, (del_ne nq).trans h4, h5, h6.del sp⟩
  | dK kvs => obtain ⟨xs, h4, h5, h6⟩ := h; exact ⟨xs, (del_ne nq).trans h4, h5, h6.del sp⟩
  | dN kvs => obtain ⟨nks, bs, xs, h4, h5, h6, h7⟩ := h; exact ⟨nks, bs, xs, (del_ne nq).trans h4, h5, h6.del sp, h7.del sp⟩
  | dL kvs => obtain ⟨o, nks, bs, xs, h4, h5, h6, h7⟩ := h; exact ⟨o, nks, bs, xs, (del_ne nq).trans h4, h5, h6.del sp, h7.del sp⟩
/-- it goes -/
theorem Cf.unalien {p : Addr} (c : Cf K (Add F p) S H σ ρ W) (hF : ¬ F p) : Cf K F (Rem S p) (del H p) σ ρ W := by
  have sp : S p := c.cb.fs p (.inr rfl)
  refine ⟨⟨fun a h => by rw [del_ne h.2]; exact c.cb.sd a h.1, fun a h => ⟨c.cb.fs a (.inl h), fun z => hF (z ▸ h)⟩, fun q u hw => ?_⟩, c.len, fun j d' h => ?_, fun j ds' h => ?_, c.dis⟩
  · obtain ⟨h1, h2, h3⟩ := c.cb.w q u hw
    have nq : q ≠ p := fun z => h2 (.inr z)
    refine ⟨⟨h1, nq⟩, fun z => h2 (.inl z), ?_⟩
    exact h3.del nq sp
  · obtain ⟨w, h1, h2⟩ := c.sh j d' h
    exact ⟨w, h1, h2.del sp⟩
  · obtain ⟨q, h1, h3, h4, h5, h6⟩ := c.om j ds' h
    have nq : q ≠ p := fun z => h5 (.inr z)
    exact ⟨q, h1, h3.del nq sp, ⟨h4, nq⟩, fun z => h5 (.inl z), h6⟩
theorem Off.get {α : Type} {ts : List Nat} {l l' : List α} (h : Off ts l l') {j : Nat} (hj : j ∉ ts) : l'[j]? = l[j]? := h.2 j hj
/-- the slots are as before -/
theorem Cf.restore {F0 : Reg} (c0 : Cf K F S H σ ρ W) (e : Stp F0 S H S' H') (c : Cf K F S' H' σ2 ρ2 W') {vs : List Nat} (o1 : ∀ j, j ∉ vs → σ2[j]? = σ[j]?) (o2 : ∀ j, j ∉ vs → ρ2[j]? = ρ[j]?) (hn : noOwn ρ vs) : Cf K F S' H' σ ρ W' where
  cb := c.cb
  len := c0.len
  sh := fun i d h => by
    obtain ⟨v, h1, h2⟩ := c0.sh i d h
    exact ⟨v, h1, h2.up e⟩
  om := fun i ds h => by
    have hi : i ∉ vs := fun z => hn i z ds h
    obtain ⟨q, h1, h2⟩ := c.om i ds ((o2 i hi).trans h)
    exact ⟨q, (o1 i hi).symm.trans h1, h2⟩
  dis := c0.dis
end
theorem wipe_off (σ : St) : ∀ (vs : List Nat) (j : Nat), j ∉ vs → (wipe σ vs)[j]? = σ[j]?
  | [], _, _ => rfl
  | v :: vs, j, h => by
    unfold wipe
    rw [List.getElem?_set_ne (fun e => h (by simp [e]))]
    exact wipe_off σ vs j fun z => h (by simp [z])
theorem wipeD_off (σ : Env) : ∀ (vs : List Nat) (j : Nat), j ∉ vs → (wipeD σ vs)[j]? = σ[j]?
  | [], _, _ => rfl
  | v :: vs, j, h => by
    unfold wipeD
    rw [List.getElem?_set_ne (fun e => h (by simp [e]))]
    exact wipeD_off σ vs j fun z => h (by simp [z])
theorem wipe_on (σ : St) : ∀ (vs : List Nat) (j : Nat), j ∈ vs → j < σ.length → (wipe σ vs)[j]? = some none
  | v :: vs, j, h, hl => by
    unfold wipe
    by_cases e : v = j
    · subst e
      rw [List.getElem?_set_self (by rw [wipe_length]; exact hl)]
    · rw [List.getElem?_set_ne e]
      exact wipe_on σ vs j (by simpa [Ne.symm e] using h) hl
theorem wipe_eq {σ σ2 : St} {vs : List Nat} (hl : σ2.length = σ.length) (h : ∀ j, j ∉ vs → σ2[j]? = σ[j]?) : wipe σ2 vs = wipe σ vs := by
  refine List.ext_getElem? fun j => ?_
  by_cases hj : j ∈ vs
  · by_cases hb : j < σ.length
    · rw [wipe_on σ vs j hj hb, wipe_on σ2 vs j hj (by rw [hl]; exact hb)]
    · rw [List.getElem?_eq_none (by rw [wipe_length, hl]; omega), List.getElem?_eq_none (by rw [wipe_length]; omega)]
  · rw [wipe_off σ2 vs j hj, wipe_off σ vs j hj, h j hj]
/-- I: what holds of the list so far and the state ahead of the i-th turn; the slots are as they were -/
@[irreducible] def dLc (fi : TID) (gd : TGD) (ft : TB) (fe : TD) (vs : List Nat) : TL := fun ρ W Q Qx => noOwn ρ vs ∧ fi ρ W (fun ds ρ0 W0 => ρ0 = ρ ∧ ds.length ≤ sizeLine ∧ ∃ I : Nat → List D → Wd → Prop, I 0 [] W0 ∧
  (∀ (i : Nat) d acc W, ds[i]? = some d → acc.length ≤ i → I i acc W → gd d (wipeD ρ vs) W fun ρ1 W1 => ft ρ1 W1 (fun b ρ2 W2 => ρ2 = ρ1 ∧ if b = true then
    fe ρ1 W2 (fun y ρ3 W3 => ρ3 = ρ1 ∧ I (i + 1) (acc ++ [y]) W3) (fun _ _ _ _ => False) else I (i + 1) acc W2) (fun _ _ _ _ => False)) ∧ ∀ acc W, acc.length ≤ ds.length → I ds.length acc W → Q acc ρ W) Qx
theorem lkx_none {K : KF} {F S : Reg} {H : Hp} {Wx : WX} : LkX K F S H Wx (fun _ _ _ _ => False) := fun _ _ _ _ _ _ _ _ _ _ _ q => q.elim
theorem snd_lc {K : KF} {Wx : WX} {wi : TI} {fi : TID} {gd : TGD} {ft : TB} {fe : TD} {vs ts : List Nat} (hts : ∀ j ∈ ts, j ∈ vs) (si : SndI K Wx wi fi) : SndN K Wx (tLc wi (canG K ts gd) (canB K WX0 ft) (canE K WX0 fe) vs) (dLc fi gd ft fe vs) := by
  intro F S H σ ρ W Q Qx R cf hf hx hE
  unfold dLc at hf
  obtain ⟨hno, hf⟩ := hf
  refine si F S H σ ρ W _ Qx _ cf hf hx fun S1 H1 ρ1 W1 ds J e1 c1 ok q1 => ?_
  obtain ⟨rfl, hlen, I, h0, hturn, hend⟩ := q1
  intro p hp
  have nF : ¬ F p := fun z => c1.cb.sd p (c1.cb.fs p z) hp
  have nS : ¬ S1 p := fun z => c1.cb.sd p z hp
  obtain ⟨ea, ca⟩ := c1.alien (o := .lst []) hp
  let Iv : Nat → Hp → Prop := fun i H' => ∃ S' W' acc xs, Stp F S1 H1 S' H' ∧ Cf K (Add F p) S' H' σ ρ1 W' ∧ Reps K S' H' acc xs ∧ H' p = some (.lst xs) ∧ acc.length ≤ i ∧ I i acc W'
  refine ⟨fun i m H' => m = ds.length - i ∧ i ≤ ds.length ∧ Iv i H', ⟨ds.length, by simp, Nat.zero_le _, Add S1 p, W1, [], [], ea, ca, Reps.nil, upd_same, Nat.le_refl _, h0⟩, ?_⟩
  rintro i m H2 ⟨rfl, hi, S2, W2, acc, xs, e2, c2, r2, hp2, hacc, q2⟩
  have nFp : Stp F S1 H1 S2 H2 := e2
  obtain ⟨okg, oks⟩ := ok S2 H2 (e2.mono fun _ z => z.elim)
  by_cases hlt : i < ds.length
  · have hd : ds[i]? = some ds[i] := List.getElem?_eq_getElem hlt
    obtain ⟨hgo, hy⟩ := okg i _ hd
    refine .inr ⟨hgo, Iv (i + 1), fun H' p' => ⟨_, by omega, rfl, hlt, p'⟩, fun x H3 y => ?_⟩
    obtain ⟨s3, r3⟩ := hy x H3 y
    have e3 : Stp F S2 H2 S2 H3 := (stp_same c2.cb s3).mono fun _ h => .inl h
    refine ⟨Add F p, S2, wipeD ρ1 vs, W2, ds[i], _, (c2.same s3).wiped vs, r3 c2.cb.sd, hturn i _ acc W2 hd hacc q2, fun S4 H4 σ4 ρ4 W4 e4 c4 o1 o2 q4 => ?_⟩
    have off1 : ∀ j, j ∉ vs → σ4[j]? = σ[j]? := fun j hj => (o1.2 j fun z => hj (hts j z)).trans (wipe_off σ vs j hj)
    have off2 : ∀ j, j ∉ vs → ρ4[j]? = ρ1[j]? := fun j hj => (o2.2 j fun z => hj (hts j z)).trans (wipeD_off ρ1 vs j hj)
    refine ⟨wipe_eq (by rw [o1.1, wipe_length]) off1, ?_⟩
    refine ⟨Add F p, S4, ρ4, W4, _, _, c4, q4, lkx_none, fun S5 H5 ρ5 W5 b e5 c5 q5 => ?_⟩
    obtain ⟨rfl, q5⟩ := q5
    have e45 := (e4.mono (F' := F) fun _ h => .inl h).trans (e5.mono (F' := F) fun _ h => .inl h)
    have e35 := e3.trans e45
    have r5 := r2.up e35
    have hp5 : H5 p = some (.lst xs) := (e5.frn p (.inr rfl)).trans ((e4.frn p (.inr rfl)).trans (s3 p _ hp2))
    have full : Stp (Add F p) S2 H2 S5 H5 := (stp_same c2.cb s3).trans (e4.trans e5)
    cases b with
    | true =>
      refine ⟨Add F p, S5, ρ5, W5, _, _, c5, q5, lkx_none, fun S6 H6 ρ6 W6 y' v6 e6 c6 r6 q6 => ?_⟩
      obtain ⟨rfl, q6⟩ := q6
      have hp6 : H6 p = some (.lst xs) := (e6.frn p (.inr rfl)).trans hp5
      refine ⟨xs, hp6, by rw [r2.length]; omega, ?_⟩
      have c7 := c2.restore (full.trans e6) c6 off1 off2 hno
      have sp : S6 p := c7.cb.fs p (.inr rfl)
      have e67 : Stp F S6 H6 S6 (upd H6 p (.lst (xs ++ [v6]))) := ⟨fun a u h e => by
        have : a ≠ p := fun q => h (q ▸ sp)
        rw [upd_ne this]; exact e, fun a h1 h2 => absurd h1 h2, fun a h => by
        by_cases ha : a = p
        · rw [ha, upd_same] at h; cases h
        · rw [upd_ne ha] at h; exact h, fun a h => upd_ne fun z => nF (z ▸ h)⟩
      have e6' := e6.mono (F' := F) fun _ h => .inl h
      refine ⟨S6, W6, acc ++ [y'], xs ++ [v6], ((e2.trans e35).trans e6').trans e67, c7.alienCh.2, ((r5.up e6').append (Reps.cons r6 Reps.nil)).up e67, upd_same, by simp; omega, q6⟩
    | false =>
      have c7 := c2.restore full c5 off1 off2 hno
      exact ⟨S5, W5, acc, xs, e2.trans e35, c7, r5, hp5, by omega, q5⟩
  · have e : i = ds.length := by omega
    subst e
    refine .inl ⟨oks, ?_⟩
    have sp : S2 p := c2.cb.fs p (.inr rfl)
    have := hE (Rem S2 p) (del H2 p) ρ1 W2 acc xs p (e1.trans ⟨fun a o h1 h2 => ?_, fun a h1 h2 => e2.new a h1.1 h2, fun a h => ?_, fun a h => ?_⟩) (c2.unalien nF) (r2.del sp) del_same (hend acc W2 hacc q2)
    · rw [upd_del hp2] at this; exact this
    · have : a ≠ p := fun z => by rw [z, hp] at h2; cases h2
      rw [del_ne this]; exact e2.keep a o h1 h2
    · by_cases ha : a = p
      · rw [ha]; exact hp
      · rw [del_ne ha] at h; exact e2.dom a h
    · rw [del_ne (fun (z : a = p) => nF (z ▸ h))]; exact e2.frn a h
section
variable {X : Cx} {Wx : WX} {elt tg iter : Expr} {ifs : List Expr} {scope : Scope} {own : List (Str × Nat)} {pos : Pos} {fi : TID} {gd : TGD} {ft : TB} {fe : TD} {ts : List Nat}
theorem gn_lc (own : List (Str × Nat)) (hc : X.calm = true) (hN : X.N.Nodup) (hi : GI X Wx tg iter fi) (ok : BlkOk X.N X.env.scope scope own) (hts : ∀ j ∈ ts, j ∈ own.map (·.2))
    (hg : ∀ (s : Shared) (H : Hp) (C : Addr) (cl : List (Str × Addr)) (fp : List Addr), GG (X.blk s H scope (PySem.compEnvC scope cl C X.env) fp) tg gd ts) (ht : ∀ (s : Shared) (H : Hp) (C : Addr) (cl : List (Str × Addr)) (fp : List Addr), GTs (X.blk s H scope (PySem.compEnvC scope cl C X.env) fp) WX0 ifs ft)
    (he : ∀ (s : Shared) (H : Hp) (C : Addr) (cl : List (Str × Addr)) (fp : List Addr), GE (X.blk s H scope (PySem.compEnvC scope cl C X.env) fp) WX0 elt fe) (hs : ∀ x, foldedSetIterable iter X.env x = pure x := by intro _; rfl) :
    GN X Wx (.ListComp elt [⟨tg, iter, ifs, 0⟩] scope pos) (dLc fi gd ft fe (own.map (·.2))) := by
  obtain ⟨wi, pi, si⟩ := hi
  exact ⟨_, pe_lc hc hN pi ok (fun s H C cl fp => (hg s H C cl fp).can) (fun s H C cl fp => (ht s H C cl fp).can) (fun s H C cl fp => (he s H C cl fp).can) hs, snd_lc hts si⟩
end
end G
namespace G
open PySem PySem.Spec L2
mutual
def D.py : D → PyData
  | .v .non => .none
  | .v (.bl b) => .bool b
  | .v (.int i) => .int i
  | .v (.str s) => .str s
  | .v _ => .dict []
  | .tup ds => .tuple (pys ds)
  | .lst ds => .list (pys ds)
  | .scr ns => .list (ns.map PyData.int)
  | .dct _ _ => .dict []
  | .exc _ _ _ => .dict []
  | .dtt _ _ => .dict []
  | .tpf _ => .dict []
def pys : List D → List PyData
  | [] => []
  | d :: ds => D.py d :: pys ds
end
mutual
/-- None, truths, ints, texts and what is made of them, n deep at most -/
def D.good : Nat → D → Bool
  | _, .v .non => true
  | _, .v (.bl _) => true
  | _, .v (.int _) => true
  | _, .v (.str s) => PyData.strOk s
  | _, .v _ => false
  | 0, _ => false
  | n + 1, .tup ds => goods n ds
  | n + 1, .lst ds => goods n ds
  | _ + 1, .scr _ => true
  | _ + 1, .dct _ _ => false
  | _ + 1, .exc _ _ _ => false
  | _ + 1, .dtt _ _ => false
  | _ + 1, .tpf _ => false
def goods : Nat → List D → Bool
  | _, [] => true
  | n, d :: ds => D.good n d && goods n ds
end
section
variable {K : KF} {S : Reg} {H : Hp}
mutual
theorem dp_of : ∀ {n : Nat} {d : D} {v : V}, D.good n d = true → Rep K S H d v → Dp K H v d.py
  | _, .v .non, v, _, h => by rw [Rep.v_iff.mp h]; simp only [D.py]; exact .non
  | _, .v (.bl b), v, _, h => by rw [Rep.v_iff.mp h]; simp only [D.py]; exact .bl b
  | _, .v (.int b), v, _, h => by rw [Rep.v_iff.mp h]; simp only [D.py]; exact .int b
  | _, .v (.str b), v, _, h => by rw [Rep.v_iff.mp h]; simp only [D.py]; exact .str b
  | _, .v (.byt _), _, h, _ => by simp [D.good] at h
  | _, .v (.flt _), _, h, _ => by simp [D.good] at h
  | _, .v (.ref _), _, h, _ => by simp [D.good] at h
  | _, .v (.ty _), _, h, _ => by simp [D.good] at h
  | 0, .tup _, _, h, _ => by simp [D.good] at h
  | 0, .lst _, _, h, _ => by simp [D.good] at h
  | 0, .scr _, _, h, _ => by simp [D.good] at h
  | 0, .dct _ _, _, h, _ => by simp [D.good] at h
  | _ + 1, .dct _ _, _, h, _ => by simp [D.good] at h
  | 0, .exc _ _ _, _, h, _ => by simp [D.good] at h
  | _ + 1, .exc _ _ _, _, h, _ => by simp [D.good] at h
  | 0, .dtt _ _, _, h, _ => by simp [D.good] at h
  | _ + 1, .dtt _ _, _, h, _ => by simp [D.good] at h
  | 0, .tpf _, _, h, _ => by simp [D.good] at h
  | _ + 1, .tpf _, _, h, _ => by simp [D.good] at h
  | n + 1, .tup ds, v, g, h => by
    obtain ⟨a, xs, rfl, h1, h2⟩ := Rep.tup_iff.mp h
    simp only [D.py]
    exact .tup h1.sq (dps_of (by simpa [D.good] using g) h2)
  | n + 1, .lst ds, v, g, h => by
    obtain ⟨a, xs, rfl, h1, h2⟩ := Rep.lst_iff.mp h
    simp only [D.py]
    exact .lst h1.sq (dps_of (by simpa [D.good] using g) h2)
  | n + 1, .scr ns, v, g, h => by
    obtain ⟨a, rfl, h1⟩ := Rep.scr_iff.mp h
    simp only [D.py]
    refine .lst h1.sq ?_
    clear h h1
    induction ns with
    | nil => exact .nil
    | cons n ns ih => exact .cons (.int n) (ih (by simpa [D.good] using g))
theorem dps_of : ∀ {n : Nat} {ds : List D} {vs : List V}, goods n ds = true → Reps K S H ds vs → DpAll K H vs (pys ds)
  | _, [], _, _, h => by rw [Reps.nil_iff.mp h]; simp only [pys]; exact .nil
  | n, d :: ds, vs, g, h => by
    obtain ⟨x, r, rfl, h1, h2⟩ := Reps.cons_iff.mp h
    simp only [goods, Bool.and_eq_true] at g
    simp only [pys]
    exact .cons (dp_of g.1 h1) (dps_of g.2 h2)
end
end
mutual
theorem lay_of : ∀ {n : Nat} {d : D}, D.good n d = true → d.py.canLay0 = true ∧ d.py.depth ≤ n
  | _, .v .non, _ => by simp [D.py, PyData.canLay0, PyData.depth]
  | _, .v (.bl b), _ => by simp [D.py, PyData.canLay0, PyData.depth]
  | _, .v (.int b), _ => by simp [D.py, PyData.canLay0, PyData.depth]
  | _, .v (.str b), h => by
    simp only [D.good] at h
    simp [D.py, PyData.canLay0, PyData.depth, h]
  | _, .v (.byt _), h => by simp [D.good] at h
  | _, .v (.flt _), h => by simp [D.good] at h
  | _, .v (.ref _), h => by simp [D.good] at h
  | _, .v (.ty _), h => by simp [D.good] at h
  | 0, .tup _, h => by simp [D.good] at h
  | 0, .lst _, h => by simp [D.good] at h
  | 0, .scr _, h => by simp [D.good] at h
  | 0, .dct _ _, h => by simp [D.good] at h
  | _ + 1, .dct _ _, h => by simp [D.good] at h
  | 0, .exc _ _ _, h => by simp [D.good] at h
  | _ + 1, .exc _ _ _, h => by simp [D.good] at h
  | 0, .dtt _ _, h => by simp [D.good] at h
  | _ + 1, .dtt _ _, h => by simp [D.good] at h
  | 0, .tpf _, h => by simp [D.good] at h
  | _ + 1, .tpf _, h => by simp [D.good] at h
  | n + 1, .tup ds, g => by
    have := lays_of (n := n) (ds := ds) (by simpa [D.good] using g)
    simp only [D.py, PyData.canLay0, PyData.depth]
    exact ⟨this.1, by omega⟩
  | n + 1, .lst ds, g => by
    have := lays_of (n := n) (ds := ds) (by simpa [D.good] using g)
    simp only [D.py, PyData.canLay0, PyData.depth]
    exact ⟨this.1, by omega⟩
  | n + 1, .scr ns, g => by
    simp only [D.py, PyData.canLay0, PyData.depth]
    have : PyData.canLayAll0 (ns.map PyData.int) = true ∧ PyData.depthAll (ns.map PyData.int) = 0 := by
      clear g
      induction ns with
      | nil => simp [PyData.canLayAll0, PyData.depthAll]
      | cons a r ih => simp [PyData.canLayAll0, PyData.depthAll, PyData.canLay0, PyData.depth, ih]
    exact ⟨this.1, by omega⟩
theorem lays_of : ∀ {n : Nat} {ds : List D}, goods n ds = true → PyData.canLayAll0 (pys ds) = true ∧ PyData.depthAll (pys ds) ≤ n
  | _, [], _ => by simp [pys, PyData.canLayAll0, PyData.depthAll]
  | n, d :: ds, g => by
    simp only [goods, Bool.and_eq_true] at g
    have h1 := lay_of g.1
    have h2 := lays_of g.2
    simp only [pys, PyData.canLayAll0, PyData.depthAll, Bool.and_eq_true]
    exact ⟨⟨h1.1, h2.1⟩, by omega⟩
end
theorem shaped_of {d : D} (g : D.good 64 d = true) : SeqAt.shaped d.py = true := by
  have := lay_of g
  unfold SeqAt.shaped
  simp [this.1, this.2]
def eqD (d e : D) : Bool := PyData.eqv d.py e.py
def dEqN : D → D → (D → Prop) → Prop := fun d e Q => D.good 64 d = true ∧ D.good 64 e = true ∧ Q (.bl (eqD d e))
def dNeN : D → D → (D → Prop) → Prop := fun d e Q => D.good 64 d = true ∧ D.good 64 e = true ∧ Q (.bl (!eqD d e))
def dEqS : D → D → (D → Prop) → Prop := fun d e Q => match d, e with | .v x, .v y => scal x y = true ∧ Q (.bl (decide (x = y))) | _, _ => False
def dNeS : D → D → (D → Prop) → Prop := fun d e Q => match d, e with | .v x, .v y => scal x y = true ∧ Q (.bl (!decide (x = y))) | _, _ => False
/-- == of flat values by worth, of others by their data -/
@[irreducible] def dEq : D → D → (D → Prop) → Prop := fun d e Q => match d, e with | .v x, .v y => (if scal x y = true then Q (.bl (decide (x = y))) else dEqN (.v x) (.v y) Q) | d, e => dEqN d e Q
@[irreducible] def dNe : D → D → (D → Prop) → Prop := fun d e Q => match d, e with | .v x, .v y => (if scal x y = true then Q (.bl (!decide (x = y))) else dNeN (.v x) (.v y) Q) | d, e => dNeN d e Q
section
variable {K : KF}
theorem rs_eqN : RSnd K (rEqD K) dEqN := fun F S H W d e x y P R cb rd re hp k =>
  ⟨_, _, dp_of hp.1 rd, dp_of hp.2.1 re, shaped_of hp.1, shaped_of hp.2.1, k _ _ H (Same.refl H) (Rep.v_iff.mpr rfl) hp.2.2⟩
theorem rs_neN : RSnd K (rNeD K) dNeN := fun F S H W d e x y P R cb rd re hp k =>
  ⟨_, _, dp_of hp.1 rd, dp_of hp.2.1 re, shaped_of hp.1, shaped_of hp.2.1, k _ _ H (Same.refl H) (Rep.v_iff.mpr rfl) hp.2.2⟩
theorem rs_eqS : RSnd K rEq dEqS := fun F S H W d e x y P R cb rd re hp k => by
  unfold dEqS at hp
  split at hp
  · rw [Rep.v_iff] at rd re
    subst rd re
    exact ⟨hp.1, k _ _ H (Same.refl H) (Rep.v_iff.mpr rfl) hp.2⟩
  · exact hp.elim
theorem rs_neS : RSnd K rNe dNeS := fun F S H W d e x y P R cb rd re hp k => by
  unfold dNeS at hp
  split at hp
  · rw [Rep.v_iff] at rd re
    subst rd re
    exact ⟨hp.1, k _ _ H (Same.refl H) (Rep.v_iff.mpr rfl) hp.2⟩
  · exact hp.elim
theorem rs_or {r r' : R2} {g g' : D → D → (D → Prop) → Prop} (h : RSnd K r g) (h' : RSnd K r' g') : RSnd K (fun x y H Q => r x y H Q ∨ r' x y H Q) (fun d e Q => g d e Q ∨ g' d e Q) := fun F S H W d e x y P R cb rd re hp k => by
  rcases hp with hp | hp
  · exact .inl (h F S H W d e x y P R cb rd re hp k)
  · exact .inr (h' F S H W d e x y P R cb rd re hp k)
theorem rs_imp {r : R2} {g g' : D → D → (D → Prop) → Prop} (h : RSnd K r g) (hg : ∀ d e Q, g' d e Q → g d e Q) : RSnd K r g' := fun F S H W d e x y P R cb rd re hp k => h F S H W d e x y P R cb rd re (hg d e P hp) k
theorem rs_eq : RSnd K (fun x y H Q => rEq x y H Q ∨ rEqD K x y H Q) dEq := rs_imp (rs_or rs_eqS rs_eqN) fun d e Q h => by
  unfold dEq at h
  split at h
  · split at h
    · rename_i c
      exact .inl ⟨c, h⟩
    · exact .inr h
  · exact .inr h
theorem rs_ne : RSnd K (fun x y H Q => rNe x y H Q ∨ rNeD K x y H Q) dNe := rs_imp (rs_or rs_neS rs_neN) fun d e Q h => by
  unfold dNe at h
  split at h
  · split at h
    · rename_i c
      exact .inl ⟨c, h⟩
    · exact .inr h
  · exact .inr h
theorem op_eqA {X : Cx} (hu : X.A.units + 64 < cLine) : OpR X (compareOp .Eq) (fun x y H Q => rEq x y H Q ∨ rEqD X.K x y H Q) := op_eq.or (op_eqD hu)
theorem op_neA {X : Cx} (hu : X.A.units + 64 < cLine) : OpR X (compareOp .NotEq) (fun x y H Q => rNe x y H Q ∨ rNeD X.K x y H Q) := op_ne.or (op_neD hu)
/-- two ints in, a value out -/
def d2I (C : Int → Int → Prop) (g : Int → Int → V) : D → D → (D → Prop) → Prop := fun d e Q => match d, e with | .v (.int i), .v (.int j) => C i j ∧ Q (.v (g i j)) | _, _ => False
theorem rs_I {C : Int → Int → Prop} {g : Int → Int → V} : RSnd K (rI C g) (d2I C g) := fun F S H W d e x y P R cb rd re hp k => by
  unfold d2I at hp
  split at hp
  · rename_i i j
    rw [Rep.v_iff] at rd re
    exact ⟨i, j, rd, re, hp.1, k _ _ H (Same.refl H) (Rep.v_iff.mpr rfl) hp.2⟩
  · exact hp.elim
def d2J (g : Int → Int → V) : D → D → (D → Prop) → Prop := fun d e Q => match d, e with | .v (.int i), .v (.int j) => Q (.v (g i j)) | _, _ => False
theorem rs_J {g : Int → Int → V} : RSnd K (rI0 g) (d2J g) := fun F S H W d e x y P R cb rd re hp k => by
  unfold d2J at hp
  split at hp
  · rename_i i j
    rw [Rep.v_iff] at rd re
    exact ⟨i, j, rd, re, k _ _ H (Same.refl H) (Rep.v_iff.mpr rfl) hp⟩
  · exact hp.elim
/-- two texts in -/
def d2S (g : Str → Str → V) : D → D → (D → Prop) → Prop := fun d e Q => match d, e with | .v (.str i), .v (.str j) => Q (.v (g i j)) | _, _ => False
theorem rs_S {g : Str → Str → V} : RSnd K (fun x y H Q => ∃ i j, x = .str i ∧ y = .str j ∧ Q (g i j) H) (d2S g) := fun F S H W d e x y P R cb rd re hp k => by
  unfold d2S at hp
  split at hp
  · rename_i i j
    rw [Rep.v_iff] at rd re
    exact ⟨i, j, rd, re, k _ _ H (Same.refl H) (Rep.v_iff.mpr rfl) hp⟩
  · exact hp.elim
def rAddS : R2 := fun x y H Q => ∃ i j, x = .str i ∧ y = .str j ∧ i.length + j.length ≤ sizeLine ∧ Q (.str (i ++ j)) H
def dAddS : D → D → (D → Prop) → Prop := fun d e Q => match d, e with | .v (.str i), .v (.str j) => i.length + j.length ≤ sizeLine ∧ Q (.str (i ++ j)) | _, _ => False
theorem rs_addS : RSnd K rAddS dAddS := fun F S H W d e x y P R cb rd re hp k => by
  unfold dAddS at hp
  split at hp
  · rename_i i j
    rw [Rep.v_iff] at rd re
    exact ⟨i, j, rd, re, hp.1, k _ _ H (Same.refl H) (Rep.v_iff.mpr rfl) hp.2⟩
  · exact hp.elim
def dAddL : D → D → (D → Prop) → Prop := fun d e Q => match d, e with | .lst i, .lst j => i.length + j.length ≤ sizeLine ∧ Q (.lst (i ++ j)) | _, _ => False
theorem rs_addL : RSnd K rCat dAddL := fun F S H W d e x y P R cb rd re hp k => by
  unfold dAddL at hp
  split at hp
  · rename_i i j
    obtain ⟨a, xs, rfl, h1, h2⟩ := Rep.lst_iff.mp rd
    obtain ⟨b, ys, rfl, h3, h4⟩ := Rep.lst_iff.mp re
    exact ⟨a, b, xs, ys, rfl, rfl, h1.1, h3.1, by rw [h2.length, h4.length]; exact hp.1, fun p hn => k _ _ _ (same_new hn) (rep_newL cb hn (h2.append h4)) hp.2⟩
  · exact hp.elim
def dAddT : D → D → (D → Prop) → Prop := fun d e Q => match d, e with | .tup i, .tup j => i.length + j.length ≤ sizeLine ∧ Q (.tup (i ++ j)) | _, _ => False
theorem rs_addT : RSnd K (rCatA K) dAddT := fun F S H W d e x y P R cb rd re hp k => by
  unfold dAddT at hp
  split at hp
  · rename_i i j
    obtain ⟨a, xs, rfl, h1, h2⟩ := Rep.tup_iff.mp rd
    obtain ⟨b, ys, rfl, h3, h4⟩ := Rep.tup_iff.mp re
    refine ⟨a, b, xs, ys, rfl, rfl, h1.sq, h3.sq, by rw [h2.length, h4.length]; exact hp.1, fun e1 => ?_, fun _ e1 => ?_, fun _ _ p hn => k _ _ _ (same_new hn) (rep_newT cb hn (h2.append h4)) hp.2⟩
    · refine k _ _ H (Same.refl H) ?_ hp.2
      have := h2.length
      rw [e1] at this
      have e0 : i = [] := List.eq_nil_of_length_eq_zero this.symm
      rw [e0]
      exact re
    · refine k _ _ H (Same.refl H) ?_ hp.2
      have := h4.length
      rw [e1] at this
      have e0 : j = [] := List.eq_nil_of_length_eq_zero this.symm
      rw [e0, List.append_nil]
      exact rd
  · exact hp.elim
def dAdd : D → D → (D → Prop) → Prop := fun d e Q => match d, e with
  | .v (.int i), .v (.int j) => Q (.int (i + j))
  | .v (.str i), .v (.str j) => i.length + j.length ≤ sizeLine ∧ Q (.str (i ++ j))
  | .lst i, .lst j => i.length + j.length ≤ sizeLine ∧ Q (.lst (i ++ j))
  | .tup i, .tup j => i.length + j.length ≤ sizeLine ∧ Q (.tup (i ++ j))
  | _, _ => False
def rAddA (K : KF) : R2 := fun x y H Q => rI0 (fun i j => .int (i + j)) x y H Q ∨ (rAddS x y H Q ∨ (rCat x y H Q ∨ rCatA K x y H Q))
theorem rs_add : RSnd K (rAddA K) dAdd := rs_imp (rs_or (rs_J (g := fun i j => .int (i + j))) (rs_or rs_addS (rs_or rs_addL rs_addT))) fun d e Q h => by
  unfold dAdd at h
  split at h
  · exact .inl h
  · exact .inr (.inl h)
  · exact .inr (.inr (.inl h))
  · exact .inr (.inr (.inr h))
  · exact h.elim
theorem op_addA {X : Cx} : OpR X (binaryOp .Add) (rAddA (kf X)) := op_add.or (OpR.or (r := rAddS) op_add_str (op_cat.or op_catA))
/-- two factors of together less than 2 ^ 26 bits -/
def CMulX (i j : Int) : Prop := i.natAbs.log2 + j.natAbs.log2 < 60000000
theorem CMulX.ok {i j : Int} (h : CMulX i j) : PySem.IntMulOk i j := by
  have b : ∀ x : Int, Builtin.Int.intBits x ≤ x.natAbs.log2 + 1 := fun x => by
    unfold Builtin.Int.intBits
    split <;> omega
  have h1 := b i
  have h2 := b j
  have h3 : i.natAbs.log2 + j.natAbs.log2 < 60000000 := h
  have e : bitsLine = 134217728 := by decide
  unfold PySem.IntMulOk
  intro z
  rw [Bool.and_eq_true] at z
  have z2 := z.2
  unfold Builtin.Int.intTooBig at z2
  have z3 := of_decide_eq_true z2
  rw [e] at z3
  omega
theorem op_mulX {X : Cx} : OpR X (binaryOp .Mult) (rI CMulX fun i j => .int (i * j)) := opI fun _ _ _ _ _ _ _ hc q => PyProof.Rows.mul_int q (CMulX.ok hc)
/-- a text again and again -/
def dMul : D → D → (D → Prop) → Prop := fun d e Q => match d, e with
  | .v (.int i), .v (.int j) => CMulX i j ∧ Q (.int (i * j))
  | .lst i, .v (.int j) => -(2 ^ 63) ≤ j ∧ j < 2 ^ 63 ∧ i.length * j.toNat ≤ sizeLine ∧ Q (.lst (List.replicate j.toNat i).flatten)
  | _, _ => False
def dRepL : D → D → (D → Prop) → Prop := fun d e Q => match d, e with
  | .lst i, .v (.int j) => -(2 ^ 63) ≤ j ∧ j < 2 ^ 63 ∧ i.length * j.toNat ≤ sizeLine ∧ Q (.lst (List.replicate j.toNat i).flatten)
  | _, _ => False
theorem Reps.rep {S : Reg} {H : Hp} {ds : List D} {vs : List V} (h : Reps K S H ds vs) : ∀ n : Nat, Reps K S H (List.replicate n ds).flatten (List.replicate n vs).flatten
  | 0 => Reps.nil
  | n + 1 => by
    rw [List.replicate_succ, List.replicate_succ, List.flatten_cons, List.flatten_cons]
    exact h.append (Reps.rep h n)
theorem rs_repL : RSnd K rRep dRepL := fun F S H W d e x y P R cb rd re hp k => by
  unfold dRepL at hp
  split at hp
  · rename_i i j
    obtain ⟨a, xs, rfl, h1, h2⟩ := Rep.lst_iff.mp rd
    rw [Rep.v_iff] at re
    exact ⟨a, j, xs, rfl, re, h1.1, hp.1, hp.2.1, by rw [h2.length]; exact hp.2.2.1, fun p hn => k _ _ _ (same_new hn) (rep_newL cb hn (h2.rep _)) hp.2.2.2⟩
  · exact hp.elim
theorem rs_mul : RSnd K (fun x y H Q => rI CMulX (fun i j => .int (i * j)) x y H Q ∨ rRep x y H Q) dMul := rs_imp (rs_or rs_I rs_repL) fun d e Q h => by
  unfold dMul at h
  split at h
  · exact .inl h
  · exact .inr h
  · exact h.elim
theorem op_mulA {X : Cx} : OpR X (binaryOp .Mult) (fun x y H Q => rI CMulX (fun i j => .int (i * j)) x y H Q ∨ rRep x y H Q) := op_mulX.or op_rep
def dIx : D → D → (D → Prop) → Prop := fun d e Q => match d, e with
  | .lst ds, .v (.int i) => ∃ z, atI ds i = some z ∧ Q z
  | .tup ds, .v (.int i) => ∃ z, atI ds i = some z ∧ Q z
  | .v (.str s), .v (.int i) => s.length ≤ sizeLine ∧ ∃ c, atI s.cps.toList i = some c ∧ Q (.str ⟨#[c]⟩)
  | .scr ns, .v (.int i) => ∃ z, atI ns i = some z ∧ Q (.int z)
  | _, _ => False
theorem reps_at {S : Reg} {H : Hp} {ds : List D} {vs : List V} {i : Int} {z : D} (r : Reps K S H ds vs) (h : atI ds i = some z) : ∃ v, atI vs i = some v ∧ Rep K S H z v := by
  unfold atI at h ⊢
  rw [r.length]
  cases e : ixN ds.length i with
  | none => rw [e] at h; cases h
  | some j =>
    rw [e] at h
    obtain ⟨v, h1, h2⟩ := r.get (i := j) h
    exact ⟨v, h1, h2⟩
theorem rs_ix : RSnd K (rIx K) dIx := fun F S H W d e x y P R cb rd re hp k => by
  unfold dIx at hp
  split at hp
  · rename_i ds i
    obtain ⟨z, hz, hp⟩ := hp
    obtain ⟨a, xs, rfl, h1, h2⟩ := Rep.lst_iff.mp rd
    rw [Rep.v_iff] at re
    obtain ⟨v, h3, h4⟩ := reps_at h2 hz
    exact .inl ⟨a, xs, i, v, rfl, re, h1.sq, h3, k _ _ H (Same.refl H) h4 hp⟩
  · rename_i ds i
    obtain ⟨z, hz, hp⟩ := hp
    obtain ⟨a, xs, rfl, h1, h2⟩ := Rep.tup_iff.mp rd
    rw [Rep.v_iff] at re
    obtain ⟨v, h3, h4⟩ := reps_at h2 hz
    exact .inr (.inl ⟨a, xs, i, v, rfl, re, h1.sq, h3, k _ _ H (Same.refl H) h4 hp⟩)
  · rename_i s i
    obtain ⟨hl, c, hc, hp⟩ := hp
    rw [Rep.v_iff] at rd re
    exact .inr (.inr ⟨s, i, c, rd, re, hl, hc, k _ _ H (Same.refl H) (Rep.v_iff.mpr rfl) hp⟩)
  · rename_i ns i
    obtain ⟨z, hz, hp⟩ := hp
    obtain ⟨a, rfl, h1⟩ := Rep.scr_iff.mp rd
    rw [Rep.v_iff] at re
    refine .inl ⟨a, _, i, .int z, rfl, re, h1.sq, ?_, k _ _ H (Same.refl H) (Rep.v_iff.mpr rfl) hp⟩
    unfold atI at hz ⊢
    rw [List.length_map]
    cases e : ixN ns.length i with
    | none => rw [e] at hz; cases hz
    | some j =>
      rw [e] at hz
      show (ns.map V.int)[j]? = _
      have hz' : ns[j]? = some z := hz
      rw [List.getElem?_map, hz']; rfl
  · exact hp.elim
def cutD (ds : List D) (lo hi : Option Int) : List D := (ds.drop (HT.sIx ds.length 0 lo)).take (HT.sIx ds.length ds.length hi - HT.sIx ds.length 0 lo)
def dCut : D → Option Int → Option Int → (D → Prop) → Prop := fun d lo hi Q => match d with
  | .lst ds => Q (.lst (cutD ds lo hi))
  | .tup ds => Q (.tup (cutD ds lo hi))
  | .v (.str s) => s.length ≤ sizeLine ∧ Q (.str (cutS s lo hi))
  | .scr ns => Q (.lst ((ns.drop (HT.sIx ns.length 0 lo)).take (HT.sIx ns.length ns.length hi - HT.sIx ns.length 0 lo) |>.map D.int))
  | _ => False
def rSlAny (K : KF) : V → Option Int → Option Int → Hp → VK → Prop := fun x lo hi H Q => rSlL K x lo hi H Q ∨ (rSlA K x lo hi H Q ∨ rSlS x lo hi H Q)
theorem sl_any {X : Cx} : SlR X (rSlAny (kf X)) := sl_list.or (sl_tupA.or sl_str)
theorem reps_cut {S : Reg} {H : Hp} {ds : List D} {vs : List V} (r : Reps K S H ds vs) (lo hi : Option Int) : Reps K S H (cutD ds lo hi) (cutV vs lo hi) := by
  unfold cutD cutV
  rw [r.length]
  exact (r.drop _).take _
theorem ss_cut : SlSnd K (rSlAny K) dCut := fun F S H W d x lo hi P R cb rd hp k => by
  unfold dCut at hp
  split at hp
  · rename_i ds
    obtain ⟨a, xs, rfl, h1, h2⟩ := Rep.lst_iff.mp rd
    exact .inl ⟨a, xs, rfl, h1.sq, fun p hn => k _ _ _ (same_new hn) (rep_newL cb hn (reps_cut h2 lo hi)) hp⟩
  · rename_i ds
    obtain ⟨a, xs, rfl, h1, h2⟩ := Rep.tup_iff.mp rd
    refine .inr (.inl ⟨a, xs, rfl, h1.sq, fun hw => k _ _ H (Same.refl H) ?_ hp, fun _ p hn => k _ _ _ (same_new hn) (rep_newT cb hn (reps_cut h2 lo hi)) hp⟩)
    have : cutD ds lo hi = ds := by
      unfold cutD
      rw [h2.length] at hw
      rw [hw.1, hw.2, List.drop_zero, Nat.sub_zero, List.take_length]
    rw [this]; exact rd
  · rename_i s
    rw [Rep.v_iff] at rd
    exact .inr (.inr ⟨s, rd, hp.1, k _ _ H (Same.refl H) (Rep.v_iff.mpr rfl) hp.2⟩)
  · rename_i ns
    obtain ⟨a, rfl, h1⟩ := Rep.scr_iff.mp rd
    refine .inl ⟨a, _, rfl, h1.sq, fun p hn => k _ _ _ (same_new hn) ?_ hp⟩
    have e : cutV (ns.map V.int) lo hi = ((ns.drop (HT.sIx ns.length 0 lo)).take (HT.sIx ns.length ns.length hi - HT.sIx ns.length 0 lo)).map V.int := by
      unfold cutV
      rw [List.length_map, ← List.map_drop, ← List.map_take]
    rw [e]
    refine rep_newL cb hn ?_
    have := Reps.map_v (K := K) (S := S) (H := H) (((ns.drop (HT.sIx ns.length 0 lo)).take (HT.sIx ns.length ns.length hi - HT.sIx ns.length 0 lo)).map V.int)
    rw [List.map_map] at this
    exact this
  · exact hp.elim
end
end G
namespace G
open PySem PySem.Spec L2
def repS (s : Str) (n : Int) : Str := ⟨(List.replicate n.toNat s.cps.toList).flatten.toArray⟩
theorem foldl_app (a : Array Nat) : ∀ (k : Nat) (acc : Array Nat), (List.replicate k a).foldl (· ++ ·) acc = acc ++ (List.replicate k a.toList).flatten.toArray
  | 0, acc => by simp
  | k + 1, acc => by
    rw [List.replicate_succ, List.foldl_cons, foldl_app a k, List.replicate_succ, List.flatten_cons]
    apply Array.ext'
    simp
def rRepS : R2 := fun x y H Q => ∃ s n, x = .str s ∧ y = .int n ∧ -(2 ^ 63) ≤ n ∧ n < 2 ^ 63 ∧ s.length * n.toNat ≤ sizeLine ∧ Q (.str (repS s n)) H
theorem op_repS {X : Cx} : OpR X (binaryOp .Mult) rRepS := by
  intro pins s σ H x y v u Q I rx ry h
  obtain ⟨a, n, rfl, rfl, h1, h2, h3, q⟩ := h
  obtain ⟨t, rfl⟩ := rx
  obtain ⟨t', rfl⟩ := ry
  have hr : (decide (n < -(2 ^ 63 : Int)) || decide (n ≥ 2 ^ 63)) = false := by
    rw [decide_eq_false (by omega), decide_eq_false (by omega)]; rfl
  have done : ∀ (z : Str) (tk : Tok) (k : Nat), z = repS a n → EP X pins σ Q (.str z tk) { s with toks := k } := fun z tk k e => by
    subst e
    exact ⟨.str _, H, I.tok _, ⟨_, rfl⟩, q⟩
  have hl : ¬ n < 1 → (n == 1 || a.length == 0) = false → Builtin.Str.tooLong (a.length * n.toNat) = false := fun _ _ => by
    unfold Builtin.Str.tooLong
    exact decide_eq_false (by omega)
  refine PySem.P.mul_str hr (fun h4 h5 => ?_) hl ?_
  · have hs : (sizeLine : Nat) = 16777216 := sizeLine_eq
    have hb : (a.length : Int) * n ≤ 16777216 := by
      have : ((a.length * n.toNat : Nat) : Int) ≤ 16777216 := by omega
      rw [Int.natCast_mul, Int.toNat_of_nonneg (by omega)] at this
      exact this
    intro h6
    have h7 : (2 ^ 63 - 1) / n < (a.length : Int) := h6
    have h8 : (2 ^ 63 - 1 : Int) < a.length * n := (Int.ediv_lt_iff_lt_mul (by omega)).mp h7
    omega
  · split
    · rename_i h4
      refine ⟨by decide, done _ _ _ ?_⟩
      unfold repS
      have : n.toNat = 0 := by omega
      rw [this]; rfl
    · rename_i h4
      split
      · rename_i h5
        show EP X pins σ Q (.str a t) s
        refine ⟨.str a, H, I, ⟨t, rfl⟩, ?_⟩
        have : repS a n = a := by
          unfold repS
          rw [Bool.or_eq_true] at h5
          rcases h5 with h5 | h5
          · have e : n = 1 := by simpa using h5
            subst e
            simp
          · have e : a.cps.toList = [] := by
              have : a.length = 0 := by simpa using h5
              unfold Str.length at this
              exact List.eq_nil_of_length_eq_zero (by simpa using this)
            rw [e]
            have : (List.replicate n.toNat ([] : List Nat)).flatten = [] := by simp
            rw [this]
            cases a with
            | mk c => simp at e; simp [e]
        rw [this] at q
        exact q
      · refine ⟨?_, done _ _ _ ?_⟩
        · show (List.foldl (· ++ ·) #[] (List.replicate n.toNat a.cps)).size ≤ sizeLine
          rw [foldl_app]
          have e : (#[] ++ (List.replicate n.toNat a.cps.toList).flatten.toArray).size = n.toNat * a.length := by
            simp [List.length_flatten, Str.length]
          rw [e, Nat.mul_comm]
          exact h3
        · unfold repS
          rw [foldl_app]; simp
section
variable {K : KF}
def dRepS : D → D → (D → Prop) → Prop := fun d e Q => match d, e with
  | .v (.str s), .v (.int n) => -(2 ^ 63) ≤ n ∧ n < 2 ^ 63 ∧ s.length * n.toNat ≤ sizeLine ∧ Q (.str (repS s n))
  | _, _ => False
theorem rs_repS : RSnd K rRepS dRepS := fun F S H W d e x y P R cb rd re hp k => by
  unfold dRepS at hp
  split at hp
  · rename_i i j
    rw [Rep.v_iff] at rd re
    exact ⟨i, j, rd, re, hp.1, hp.2.1, hp.2.2.1, k _ _ H (Same.refl H) (Rep.v_iff.mpr rfl) hp.2.2.2⟩
  · exact hp.elim
/-- one value in -/
theorem reps1 {S : Reg} {H : Hp} {d : D} {xs : List V} (r : Reps K S H [d] xs) : ∃ x, xs = [x] ∧ Rep K S H d x := by
  obtain ⟨x, r', rfl, h1, h2⟩ := Reps.cons_iff.mp r
  rw [Reps.nil_iff.mp h2]
  exact ⟨x, rfl, h1⟩
theorem reps2 {S : Reg} {H : Hp} {d e : D} {xs : List V} (r : Reps K S H [d, e] xs) : ∃ x y, xs = [x, y] ∧ Rep K S H d x ∧ Rep K S H e y := by
  obtain ⟨x, r', rfl, h1, h2⟩ := Reps.cons_iff.mp r
  obtain ⟨y, rfl, h3⟩ := reps1 h2
  exact ⟨x, y, rfl, h1, h3⟩
def dLen : List D → (D → Prop) → Prop := fun ds Q => match ds with
  | [.v (.str s)] => s.length ≤ sizeLine ∧ Q (.int s.length)
  | [.lst xs] => Q (.int xs.length)
  | [.tup xs] => Q (.int xs.length)
  | [.scr xs] => Q (.int xs.length)
  | _ => False
theorem cs_len : CSnd K (fun xs H Q => ∃ x n, xs = [x] ∧ LenV K x H n ∧ Q (.int (n : Nat)) H) dLen := fun F S H W ds xs P R cb rd hp k => by
  unfold dLen at hp
  split at hp
  · obtain ⟨x, rfl, h⟩ := reps1 rd
    cases Rep.v_iff.mp h
    exact ⟨_, _, rfl, ⟨hp.1, rfl⟩, k _ _ H (Same.refl H) (Rep.v_iff.mpr rfl) hp.2⟩
  · obtain ⟨x, rfl, h⟩ := reps1 rd
    obtain ⟨a, ys, rfl, h1, h2⟩ := Rep.lst_iff.mp h
    exact ⟨_, _, rfl, .inl ⟨ys, h1.sq, rfl⟩, k _ _ H (Same.refl H) (Rep.v_iff.mpr (by rw [h2.length])) hp⟩
  · obtain ⟨x, rfl, h⟩ := reps1 rd
    obtain ⟨a, ys, rfl, h1, h2⟩ := Rep.tup_iff.mp h
    exact ⟨_, _, rfl, .inr ⟨ys, h1.sq, rfl⟩, k _ _ H (Same.refl H) (Rep.v_iff.mpr (by rw [h2.length])) hp⟩
  · obtain ⟨x, rfl, h⟩ := reps1 rd
    obtain ⟨a, rfl, h1⟩ := Rep.scr_iff.mp h
    exact ⟨_, _, rfl, .inl ⟨_, h1.sq, rfl⟩, k _ _ H (Same.refl H) (Rep.v_iff.mpr (by simp)) hp⟩
  · exact hp.elim
def dIntC : List D → (D → Prop) → Prop := fun ds Q => match ds with
  | [.v (.int i)] => Q (.int i)
  | [.v (.bl b)] => Q (.int (if b then 1 else 0))
  | [.v (.str s)] => s.length ≤ 640 ∧ ∃ n, PySem.intText? s = some n ∧ Q (.int n)
  | _ => False
theorem cs_int : CSnd K (fun xs H Q => ((∃ i, xs = [.int i] ∧ Q (.int i) H) ∨ ∃ k, xs = [.bl k] ∧ Q (.int (if k then 1 else 0)) H) ∨ ∃ a n, xs = [.str a] ∧ PySem.intText? a = some n ∧ a.length ≤ 640 ∧ Q (.int n) H) dIntC := fun F S H W ds xs P R cb rd hp k => by
  unfold dIntC at hp
  split at hp
  · obtain ⟨x, rfl, h⟩ := reps1 rd
    cases Rep.v_iff.mp h
    exact .inl (.inl ⟨_, rfl, k _ _ H (Same.refl H) (Rep.v_iff.mpr rfl) hp⟩)
  · obtain ⟨x, rfl, h⟩ := reps1 rd
    cases Rep.v_iff.mp h
    exact .inl (.inr ⟨_, rfl, k _ _ H (Same.refl H) (Rep.v_iff.mpr rfl) hp⟩)
  · obtain ⟨x, rfl, h⟩ := reps1 rd
    cases Rep.v_iff.mp h
    obtain ⟨hl, n, hn, hp⟩ := hp
    exact .inr ⟨_, n, rfl, hn, hl, k _ _ H (Same.refl H) (Rep.v_iff.mpr rfl) hp⟩
  · exact hp.elim
theorem call_intA {X : Cx} : CallR X (.type "int") (fun xs H Q => ((∃ i, xs = [.int i] ∧ Q (.int i) H) ∨ ∃ k, xs = [.bl k] ∧ Q (.int (if k then 1 else 0)) H) ∨ ∃ a n, xs = [.str a] ∧ PySem.intText? a = some n ∧ a.length ≤ 640 ∧ Q (.int n) H) := CallR.or call_int1 call_int_str
/-- all, any of a list of truths -/
def blsOf : List D → Option (List Bool)
  | [] => some []
  | .v (.bl b) :: r => (blsOf r).map (b :: ·)
  | _ => none
theorem reps_bls {S : Reg} {H : Hp} : ∀ {ds : List D} {bs : List Bool} {vs : List V}, blsOf ds = some bs → Reps K S H ds vs → vs = bs.map V.bl
  | [], bs, vs, h, r => by
    cases h
    exact Reps.nil_iff.mp r
  | .v (.bl b) :: ds, bs, vs, h, r => by
    unfold blsOf at h
    obtain ⟨x, r', rfl, h1, h2⟩ := Reps.cons_iff.mp r
    cases hb : blsOf ds with
    | none => rw [hb] at h; cases h
    | some bs' =>
      rw [hb] at h; cases h
      cases Rep.v_iff.mp h1
      rw [reps_bls hb h2]; rfl
  | .v .non :: _, _, _, h, _ => by simp [blsOf] at h
  | .v (.int _) :: _, _, _, h, _ => by simp [blsOf] at h
  | .v (.str _) :: _, _, _, h, _ => by simp [blsOf] at h
  | .v (.byt _) :: _, _, _, h, _ => by simp [blsOf] at h
  | .v (.flt _) :: _, _, _, h, _ => by simp [blsOf] at h
  | .v (.ref _) :: _, _, _, h, _ => by simp [blsOf] at h
  | .v (.ty _) :: _, _, _, h, _ => by simp [blsOf] at h
  | .tup _ :: _, _, _, h, _ => by simp [blsOf] at h
  | .lst _ :: _, _, _, h, _ => by simp [blsOf] at h
  | .scr _ :: _, _, _, h, _ => by simp [blsOf] at h
def dAll : List D → (D → Prop) → Prop := fun ds Q => match ds with
  | [.lst xs] => ∃ bs, blsOf xs = some bs ∧ Q (.bl (bs.all id))
  | _ => False
def dAny : List D → (D → Prop) → Prop := fun ds Q => match ds with
  | [.lst xs] => ∃ bs, blsOf xs = some bs ∧ Q (.bl (bs.any id))
  | _ => False
theorem cs_all : CSnd K (rAll K) dAll := fun F S H W ds xs P R cb rd hp k => by
  unfold dAll at hp
  split at hp
  · obtain ⟨x, rfl, h⟩ := reps1 rd
    obtain ⟨a, ys, rfl, h1, h2⟩ := Rep.lst_iff.mp h
    obtain ⟨bs, hb, hp⟩ := hp
    rw [reps_bls hb h2] at h1
    exact ⟨a, bs, rfl, h1.sq, k _ _ H (Same.refl H) (Rep.v_iff.mpr rfl) hp⟩
  · exact hp.elim
theorem cs_any : CSnd K (rAny K) dAny := fun F S H W ds xs P R cb rd hp k => by
  unfold dAny at hp
  split at hp
  · obtain ⟨x, rfl, h⟩ := reps1 rd
    obtain ⟨a, ys, rfl, h1, h2⟩ := Rep.lst_iff.mp h
    obtain ⟨bs, hb, hp⟩ := hp
    rw [reps_bls hb h2] at h1
    exact ⟨a, bs, rfl, h1.sq, k _ _ H (Same.refl H) (Rep.v_iff.mpr rfl) hp⟩
  · exact hp.elim
/-- ints of a list -/
def intsOf : List D → Option (List Int)
  | [] => some []
  | .v (.int b) :: r => (intsOf r).map (b :: ·)
  | _ => none
theorem reps_ints {S : Reg} {H : Hp} : ∀ {ds : List D} {bs : List Int} {vs : List V}, intsOf ds = some bs → Reps K S H ds vs → vs = bs.map V.int
  | [], bs, vs, h, r => by
    cases h
    exact Reps.nil_iff.mp r
  | .v (.int b) :: ds, bs, vs, h, r => by
    unfold intsOf at h
    obtain ⟨x, r', rfl, h1, h2⟩ := Reps.cons_iff.mp r
    cases hb : intsOf ds with
    | none => rw [hb] at h; cases h
    | some bs' =>
      rw [hb] at h; cases h
      cases Rep.v_iff.mp h1
      rw [reps_ints hb h2]; rfl
  | .v .non :: _, _, _, h, _ => by simp [intsOf] at h
  | .v (.bl _) :: _, _, _, h, _ => by simp [intsOf] at h
  | .v (.str _) :: _, _, _, h, _ => by simp [intsOf] at h
  | .v (.byt _) :: _, _, _, h, _ => by simp [intsOf] at h
  | .v (.flt _) :: _, _, _, h, _ => by simp [intsOf] at h
  | .v (.ref _) :: _, _, _, h, _ => by simp [intsOf] at h
  | .v (.ty _) :: _, _, _, h, _ => by simp [intsOf] at h
  | .tup _ :: _, _, _, h, _ => by simp [intsOf] at h
  | .lst _ :: _, _, _, h, _ => by simp [intsOf] at h
  | .scr _ :: _, _, _, h, _ => by simp [intsOf] at h
theorem intsOf_map (bs : List Int) : intsOf (bs.map D.int) = some bs := by
  induction bs with
  | nil => rfl
  | cons b r ih => simp [intsOf, ih]
/-- tuple(xs), list(xs) -/
def dTupC : List D → (D → Prop) → Prop := fun ds Q => match ds with
  | [.lst xs] => Q (.tup xs)
  | [.tup xs] => Q (.tup xs)
  | _ => False
theorem cs_tup : CSnd K (fun xs H Q => ∃ p ys, xs = [.ref p] ∧ ((SqL K H p ys ∧ ∀ l, H l = none → Q (.ref l) (upd H l (.tup ys))) ∨ (SqT K H p ys ∧ Q (.ref p) H))) dTupC := fun F S H W ds xs P R cb rd hp k => by
  unfold dTupC at hp
  split at hp
  · obtain ⟨x, rfl, h⟩ := reps1 rd
    obtain ⟨a, ys, rfl, h1, h2⟩ := Rep.lst_iff.mp h
    exact ⟨a, ys, rfl, .inl ⟨h1.sq, fun p hn => k _ _ _ (same_new hn) (rep_newT cb hn h2) hp⟩⟩
  · obtain ⟨x, rfl, h⟩ := reps1 rd
    obtain ⟨a, ys, rfl, h1, h2⟩ := Rep.tup_iff.mp h
    exact ⟨a, ys, rfl, .inr ⟨h1.sq, k _ _ H (Same.refl H) h hp⟩⟩
  · exact hp.elim
def dListC : List D → (D → Prop) → Prop := fun ds Q => match ds with
  | [.lst xs] => Q (.lst xs)
  | [.tup xs] => Q (.lst xs)
  | [.scr ns] => Q (.lst (ns.map D.int))
  | _ => False
theorem cs_list : CSnd K (fun xs H Q => ∃ p ys, xs = [.ref p] ∧ (SqL K H p ys ∨ SqT K H p ys) ∧ ∀ l, H l = none → Q (.ref l) (upd H l (.lst ys))) dListC := fun F S H W ds xs P R cb rd hp k => by
  unfold dListC at hp
  split at hp
  · obtain ⟨x, rfl, h⟩ := reps1 rd
    obtain ⟨a, ys, rfl, h1, h2⟩ := Rep.lst_iff.mp h
    exact ⟨a, ys, rfl, .inl h1.sq, fun p hn => k _ _ _ (same_new hn) (rep_newL cb hn h2) hp⟩
  · obtain ⟨x, rfl, h⟩ := reps1 rd
    obtain ⟨a, ys, rfl, h1, h2⟩ := Rep.tup_iff.mp h
    exact ⟨a, ys, rfl, .inr h1.sq, fun p hn => k _ _ _ (same_new hn) (rep_newL cb hn h2) hp⟩
  · rename_i ns
    obtain ⟨x, rfl, h⟩ := reps1 rd
    obtain ⟨a, rfl, h1⟩ := Rep.scr_iff.mp h
    refine ⟨a, _, rfl, .inl h1.sq, fun p hn => k _ _ _ (same_new hn) (rep_newL cb hn ?_) hp⟩
    have := Reps.map_v (K := K) (S := S) (H := H) (ns.map V.int)
    rw [List.map_map] at this
    exact this
  · exact hp.elim
def tyD : D → Option String
  | .v .non => some "NoneType"
  | .v (.bl _) => some "bool"
  | .v (.int _) => some "int"
  | .v (.str _) => some "str"
  | .v _ => none
  | .tup _ => some "tuple"
  | .lst _ => some "list"
  | .scr _ => none
  | .dct _ _ => some "dict"
  | .exc _ _ _ => none
  | .dtt _ _ => none
  | .tpf _ => none
theorem tyx_of {S : Reg} {H : Hp} {d : D} {x : V} {t : String} (h : Rep K S H d x) (e : tyD d = some t) : TyX K H x (.type t) := by
  cases d with
  | v y =>
    have hx := Rep.v_iff.mp h
    subst hx
    cases x <;> simp only [tyD, Option.some.injEq] at e <;> first | (subst e; exact .base (by constructor)) | cases e
  | tup ds =>
    obtain ⟨a, xs, rfl, h1, _⟩ := Rep.tup_iff.mp h
    simp only [tyD, Option.some.injEq] at e
    subst e
    rcases h1 with ⟨h1, _⟩ | h1 | ⟨o, h1, _⟩
    · exact .base (.tup h1)
    · rcases h1 with (h1 | ⟨_, h1⟩) | ⟨o, its, n, h1, h2, _⟩
      · cases h1
      · cases h1
      · exact .kTuple h1 h2
    · exact .fTuple h1
  | lst ds =>
    obtain ⟨a, xs, rfl, h1, _⟩ := Rep.lst_iff.mp h
    simp only [tyD, Option.some.injEq] at e
    subst e
    exact .base (.lst h1.1)
  | scr ns => simp [tyD] at e
  | dct ks ds =>
    obtain ⟨a, xs, rfl, ⟨h1, _⟩, _⟩ := Rep.dct_iff.mp h
    simp only [tyD, Option.some.injEq] at e
    subst e
    exact .base (.dK h1)
  | exc c ks ds => simp [tyD] at e
  | dtt ks ds => simp [tyD] at e
  | tpf ds => simp [tyD] at e
def dIsi : List D → (D → Prop) → Prop := fun ds Q => match ds with
  | [d, .v (.ty c)] => ∃ t b, tyD d = some t ∧ kitB t c = some b ∧ Q (.bl b)
  | _ => False
theorem cs_isi : CSnd K (rIsi K) dIsi := fun F S H W ds xs P R cb rd hp k => by
  unfold dIsi at hp
  split at hp
  · rename_i d c
    obtain ⟨x, y, rfl, h1, h2⟩ := reps2 rd
    cases Rep.v_iff.mp h2
    obtain ⟨t, b, e1, e2, hp⟩ := hp
    exact ⟨x, _, _, _, b, rfl, .ty c, tyx_of h1 e1, kit_ty e2, k _ _ H (Same.refl H) (Rep.v_iff.mpr rfl) hp⟩
  · exact hp.elim
/-- texts of a list -/
def strsOf : List D → Option (List Str)
  | [] => some []
  | .v (.str b) :: r => (strsOf r).map (b :: ·)
  | _ => none
theorem reps_strs {S : Reg} {H : Hp} : ∀ {ds : List D} {bs : List Str} {vs : List V}, strsOf ds = some bs → Reps K S H ds vs → vs = bs.map V.str
  | [], bs, vs, h, r => by
    cases h
    exact Reps.nil_iff.mp r
  | .v (.str b) :: ds, bs, vs, h, r => by
    unfold strsOf at h
    obtain ⟨x, r', rfl, h1, h2⟩ := Reps.cons_iff.mp r
    cases hb : strsOf ds with
    | none => rw [hb] at h; cases h
    | some bs' =>
      rw [hb] at h; cases h
      cases Rep.v_iff.mp h1
      rw [reps_strs hb h2]; rfl
  | .v .non :: _, _, _, h, _ => by simp [strsOf] at h
  | .v (.bl _) :: _, _, _, h, _ => by simp [strsOf] at h
  | .v (.int _) :: _, _, _, h, _ => by simp [strsOf] at h
  | .v (.byt _) :: _, _, _, h, _ => by simp [strsOf] at h
  | .v (.flt _) :: _, _, _, h, _ => by simp [strsOf] at h
  | .v (.ref _) :: _, _, _, h, _ => by simp [strsOf] at h
  | .v (.ty _) :: _, _, _, h, _ => by simp [strsOf] at h
  | .tup _ :: _, _, _, h, _ => by simp [strsOf] at h
  | .lst _ :: _, _, _, h, _ => by simp [strsOf] at h
  | .scr _ :: _, _, _, h, _ => by simp [strsOf] at h
theorem strsOf_map (bs : List Str) : strsOf (bs.map D.str) = some bs := by
  induction bs with
  | nil => rfl
  | cons b r ih => simp [strsOf, ih]
def rJoin (K : KF) : V → List V → Hp → VK → Prop := fun x xs H Q => ∃ a p, ∃ ys : List Str, x = .str a ∧ xs = [.ref p] ∧ (SqL K H p (ys.map V.str) ∨ SqT K H p (ys.map V.str)) ∧
  (ys.map (·.length)).sum + ys.length * a.length ≤ 16777216 ∧ Q (.str (Txt.join a ys)) H
theorem mt_joinA {X : Cx} : MtR X "str.join" (rJoin (kf X)) := mt_join
def dJoin : D → List D → (D → Prop) → Prop := fun d ds Q => match d, ds with
  | .v (.str a), [.lst xs] => ∃ ys, strsOf xs = some ys ∧ (ys.map (·.length)).sum + ys.length * a.length ≤ 16777216 ∧ Q (.str (Txt.join a ys))
  | .v (.str a), [.tup xs] => ∃ ys, strsOf xs = some ys ∧ (ys.map (·.length)).sum + ys.length * a.length ≤ 16777216 ∧ Q (.str (Txt.join a ys))
  | _, _ => False
theorem ms_join : MSnd K (rJoin K) dJoin := fun F S H W d ds x xs P R cb rd re hp k => by
  unfold dJoin at hp
  split at hp
  · obtain ⟨y, rfl, h⟩ := reps1 re
    cases Rep.v_iff.mp rd
    obtain ⟨ys, h1, h2, hp⟩ := hp
    obtain ⟨p, zs, rfl, h3, h4⟩ := Rep.lst_iff.mp h
    rw [reps_strs h1 h4] at h3
    exact ⟨_, p, ys, rfl, rfl, .inl h3.sq, h2, k _ _ H (Same.refl H) (Rep.v_iff.mpr rfl) hp⟩
  · obtain ⟨y, rfl, h⟩ := reps1 re
    cases Rep.v_iff.mp rd
    obtain ⟨ys, h1, h2, hp⟩ := hp
    obtain ⟨p, zs, rfl, h3, h4⟩ := Rep.tup_iff.mp h
    rw [reps_strs h1 h4] at h3
    exact ⟨_, p, ys, rfl, rfl, .inr h3.sq, h2, k _ _ H (Same.refl H) (Rep.v_iff.mpr rfl) hp⟩
  · exact hp.elim
def flatOf : List D → Option (List V)
  | [] => some []
  | .v x :: r => (flatOf r).map (x :: ·)
  | _ => none
theorem reps_flat {S : Reg} {H : Hp} : ∀ {ds : List D} {bs : List V} {vs : List V}, flatOf ds = some bs → Reps K S H ds vs → vs = bs
  | [], bs, vs, h, r => by
    cases h
    exact Reps.nil_iff.mp r
  | .v b :: ds, bs, vs, h, r => by
    unfold flatOf at h
    obtain ⟨x, r', rfl, h1, h2⟩ := Reps.cons_iff.mp r
    cases hb : flatOf ds with
    | none => rw [hb] at h; cases h
    | some bs' =>
      rw [hb] at h; cases h
      cases Rep.v_iff.mp h1
      rw [reps_flat hb h2]
  | .tup _ :: _, _, _, h, _ => by simp [flatOf] at h
  | .lst _ :: _, _, _, h, _ => by simp [flatOf] at h
  | .scr _ :: _, _, _, h, _ => by simp [flatOf] at h
def inS (a b : Str) : Bool := !(Builtin.Str.occurrences b a 0 b.length 1).isEmpty
def dIn (neg : Bool) : D → D → (D → Prop) → Prop := fun d e Q => match d, e with
  | .v (.str a), .v (.str b) => Q (.bl (if neg then !inS a b else inS a b))
  | .v x, .lst ys => ∃ vs, flatOf ys = some vs ∧ flatV x = true ∧ vs.all flatV = true ∧ Q (.bl (if neg then !inV x vs else inV x vs))
  | .v x, .tup ys => ∃ vs, flatOf ys = some vs ∧ flatV x = true ∧ vs.all flatV = true ∧ Q (.bl (if neg then !inV x vs else inV x vs))
  | _, _ => False
def rInA (K : KF) (neg : Bool) : R2 := fun x y H Q => (∃ i j, x = .str i ∧ y = .str j ∧ Q (.bl (if neg then !inS i j else inS i j)) H) ∨ rIn K neg x y H Q
theorem rs_in {neg : Bool} : RSnd K (rInA K neg) (dIn neg) := fun F S H W d e x y P R cb rd re hp k => by
  unfold dIn at hp
  split at hp
  · rw [Rep.v_iff] at rd re
    exact .inl ⟨_, _, rd, re, k _ _ H (Same.refl H) (Rep.v_iff.mpr rfl) hp⟩
  · obtain ⟨vs, h1, h2, h3, hp⟩ := hp
    obtain ⟨p, zs, rfl, h4, h5⟩ := Rep.lst_iff.mp re
    cases Rep.v_iff.mp rd
    rw [reps_flat h1 h5] at h4
    exact .inr ⟨p, vs, rfl, .inl h4.sq, h2, h3, k _ _ H (Same.refl H) (Rep.v_iff.mpr rfl) hp⟩
  · obtain ⟨vs, h1, h2, h3, hp⟩ := hp
    obtain ⟨p, zs, rfl, h4, h5⟩ := Rep.tup_iff.mp re
    cases Rep.v_iff.mp rd
    rw [reps_flat h1 h5] at h4
    exact .inr ⟨p, vs, rfl, .inr h4.sq, h2, h3, k _ _ H (Same.refl H) (Rep.v_iff.mpr rfl) hp⟩
  · exact hp.elim
theorem op_inA {X : Cx} : OpR X (compareOp .In) (rInA (kf X) false) := OpR.or (r := fun x y H Q => ∃ i j, x = .str i ∧ y = .str j ∧ Q (.bl (inS i j)) H) op_in_str op_in_seq
theorem op_niA {X : Cx} : OpR X (compareOp .NotIn) (rInA (kf X) true) := OpR.or (r := fun x y H Q => ∃ i j, x = .str i ∧ y = .str j ∧ Q (.bl (!inS i j)) H) op_notin_str op_notIn_seq
end
end G
namespace G
open PySem PySem.Spec L2
def updW (W : Wd) (p : Addr) (o : MO) : Wd := fun q => if q = p then some o else W q
theorem updW_same {W : Wd} {p : Addr} {o : MO} : updW W p o p = some o := if_pos rfl
theorem updW_ne {W : Wd} {p q : Addr} {o : MO} (h : q ≠ p) : updW W p o q = W q := if_neg h
section
variable {K : KF} {F S : Reg} {H : Hp} {σ : St} {ρ : Env} {W : Wd}
/-- a changeable object changes -/
theorem Cf.chW (c : Cf K F S H σ ρ W) {p : Addr} {o0 o : MO} {u : HO} (hw : W p = some o0) (ho : ∀ S' H', Stp (fun _ => False) S H S' H' → H' p = some u → MRep K S' H' p o) : Stp F S H S (upd H p u) ∧ Cf K F S (upd H p u) σ ρ (updW W p o) := by
  obtain ⟨sp, nf, _⟩ := c.cb.w p o0 hw
  have st : ∀ F', (∀ a, F' a → a ≠ p) → Stp F' S H S (upd H p u) := fun F' hF => ⟨fun a v h e => by
      have : a ≠ p := fun q => h (q ▸ sp)
      rw [upd_ne this]; exact e, fun a h1 h2 => absurd h1 h2, fun a h => by
      by_cases ha : a = p
      · rw [ha, upd_same] at h; cases h
      · rw [upd_ne ha] at h; exact h, fun a h => upd_ne (hF a h)⟩
  have st1 := st F fun a h z => nf (z ▸ h)
  refine ⟨st1, ⟨fun a h => ?_, c.cb.fs, fun q o' hq => ?_⟩, c.len, fun j d' h => ?_, fun j ds' h => ?_, c.dis⟩
  · intro q; exact c.cb.sd a h (st1.dom a q)
  · by_cases hp : q = p
    · subst hp
      rw [updW_same] at hq
      cases hq
      exact ⟨sp, nf, ho _ _ (st _ fun _ h => h.elim) upd_same⟩
    · rw [updW_ne hp] at hq
      obtain ⟨h1, h2, h3⟩ := c.cb.w q o' hq
      exact ⟨h1, h2, h3.up st1 (upd_ne hp)⟩
  · obtain ⟨w, h1, h2⟩ := c.sh j d' h
    exact ⟨w, h1, h2.up st1⟩
  · obtain ⟨q, h1, h3, h4, h5, h6⟩ := c.om j ds' h
    have hp : q ≠ p := fun z => by rw [z, hw] at h6; cases h6
    exact ⟨q, h1, h3.up st1 (upd_ne hp), h4, h5, by rw [updW_ne hp]; exact h6⟩
/-- a new changeable list -/
theorem Cf.newW (c : Cf K F S H σ ρ W) {p : Addr} {xs : List V} {ds : List D} (hp : H p = none) (r : Reps K S H ds xs) :
    W p = none ∧ Stp F S H (Add S p) (upd H p (.lst xs)) ∧ Cf K F (Add S p) (upd H p (.lst xs)) σ ρ (updW W p (.lst ds)) := by
  have hw : W p = none := by
    cases q : W p with
    | none => rfl
    | some o => exact absurd hp (c.cb.sd p (c.cb.w p o q).1)
  have np : ∀ a, S a → a ≠ p := fun a hs q => c.cb.sd a hs (by rw [q]; exact hp)
  have st : Stp F S H (Add S p) (upd H p (.lst xs)) := (c.alien (o := .lst xs) hp).1
  refine ⟨hw, st, ⟨fun a h => ?_, fun a h => .inl (c.cb.fs a h), fun q o' hq => ?_⟩, c.len, fun j d' h => ?_, fun j ds' h => ?_, c.dis⟩
  · rcases h with h | h
    · rw [upd_ne (np a h)]; exact c.cb.sd a h
    · rw [h, upd_same]; simp
  · by_cases hq' : q = p
    · subst hq'
      rw [updW_same] at hq
      cases hq
      exact ⟨.inr rfl, fun hf => c.cb.sd _ (c.cb.fs _ hf) hp, xs, upd_same, r.up st⟩
    · rw [updW_ne hq'] at hq
      obtain ⟨h1, h2, h3⟩ := c.cb.w q o' hq
      exact ⟨.inl h1, h2, h3.up st (upd_ne hq')⟩
  · obtain ⟨w, h1, h2⟩ := c.sh j d' h
    exact ⟨w, h1, h2.up st⟩
  · obtain ⟨q, h1, h3, h4, h5, h6⟩ := c.om j ds' h
    have hq : q ≠ p := np q h4
    exact ⟨q, h1, h3.up st (upd_ne hq), .inl h4, h5, by rw [updW_ne hq]; exact h6⟩
end
section
variable {X : Cx} {Wx : WX} {st : Stmt} {rest : List Stmt} {f g : TSD} {e o a b c i : Expr} {es : List Expr} {fe fo fa fb fc : TD} {fl : TL} {pos : Pos}
/-- return [..], a list that its owner may change -/
def dRetW (fl : TL) : TSD := fun De ρ W => fl ρ W (fun ds _ W' => ∀ p, W' p = none → De.rt (.ref p) (updW W' p (.lst ds))) De.ex
theorem gs_retW (he : GN X Wx e fl) : GS X Wx (.Return (some e) pos) (dRetW fl) := by
  obtain ⟨te, pe, se⟩ := he
  refine ⟨_, ps_ret pe, fun F S H σ ρ W De Dh cf hf l => ?_⟩
  refine se F S H σ ρ W _ De.ex _ cf hf l.ex fun S' H' ρ' W' ds xs p e' c r hp q => ?_
  obtain ⟨hw, st, c2⟩ := c.newW hp r
  exact l.rt _ _ σ ρ' _ _ _ (e'.trans st) c2 (Rep.v_iff.mpr rfl) (q p hw)
/-- p[i] of a changeable list -/
def dIxW (fa fb : TD) : TD := fun ρ W Q Qx => fa ρ W (fun d ρ1 W1 => fb ρ1 W1 (fun e ρ2 W2 => match d, e with
  | .v (.ref p), .v (.int i) => ∃ ds z, W2 p = some (.lst ds) ∧ atI ds i = some z ∧ Q z ρ2 W2
  | _, _ => False) Qx) Qx
theorem ge_ixW (ha : GE X Wx a fa) (hb : GE X Wx b fb) (hs : PlainIx b) : GE X Wx (.Subscript a b pos) (dIxW fa fb) := by
  obtain ⟨ta, pa, sa⟩ := ha
  obtain ⟨tb, pb, sb⟩ := hb
  refine ⟨_, pe_ix ix_list pa pb hs, fun F S H σ ρ W Q Qx R cf hf hx hE => ?_⟩
  refine sa F S H σ ρ W _ Qx _ cf hf hx fun S1 H1 ρ1 W1 d v e1 c1 r1 q1 => ?_
  refine sb F S1 H1 σ ρ1 W1 _ Qx _ c1 q1 (hx.up e1) fun S2 H2 ρ2 W2 d2 v2 e2 c2 r2 q2 => ?_
  split at q2
  · rename_i p i
    obtain ⟨ds, z, hw, hz, q⟩ := q2
    obtain ⟨_, _, xs, h1, h2⟩ := c2.cb.w p _ hw
    obtain ⟨w, h3, h4⟩ := reps_at h2 hz
    exact ⟨p, xs, i, w, Rep.v_iff.mp r1, Rep.v_iff.mp r2, SqL.of h1, h3, hE S2 H2 ρ2 W2 z w (e1.trans e2) c2 h4 q⟩
  · exact q2.elim
/-- p[i] = e -/
def dSetW (fe fo fi : TD) : TSD := fun De ρ W => fe ρ W (fun d ρ1 W1 => fo ρ1 W1 (fun x ρ2 W2 => fi ρ2 W2 (fun y ρ3 W3 => match x, y with
  | .v (.ref p), .v (.int k) => ∃ ds j, W3 p = some (.lst ds) ∧ ixN ds.length k = some j ∧ De.nx ρ3 (updW W3 p (.lst (ds.set j d)))
  | _, _ => False) De.ex) De.ex) De.ex
theorem gs_setW {fi : TD} {tpos : Pos} (he : GE X Wx e fe) (ho : GE X Wx o fo) (hi : GE X Wx i fi) (ha : ∀ v, assign (.Subscript o i tpos) X.env v = (do
      let ov ← holding [v] (eval o X.env)
      let iv ← holding [v, ov] (eval i X.env)
      standAt tpos
      holding [v, ov, iv] (setItem ov iv v)
      release [v, ov, iv] []) := by intro _; rfl) (hs : swapsWithSole [.Subscript o i tpos] e pos.line X.env = pure false := by rfl) (hw : swappedStores [.Subscript o i tpos] e X.env = pure none := by rfl) (h1 : (assignEach [.Subscript o i tpos] X.env).map (·.2) = [assign (.Subscript o i tpos) X.env] := by rfl) :
    GS X Wx (.Assign [.Subscript o i tpos] e pos) (dSetW fe fo fi) := by
  obtain ⟨te, pe, se⟩ := he
  obtain ⟨to, po, so⟩ := ho
  obtain ⟨ti, pi, si⟩ := hi
  refine ⟨_, ps_asg pe (pg_sub po pi set_list ha) hs hw h1, fun F S H σ ρ W De Dh cf hf l => ?_⟩
  refine se F S H σ ρ W _ De.ex _ cf hf l.ex fun S1 H1 ρ1 W1 d v e1 c1 r1 q1 => ?_
  refine so F S1 H1 σ ρ1 W1 _ De.ex _ c1 q1 (l.ex.up e1) fun S2 H2 ρ2 W2 d2 v2 e2 c2 r2 q2 => ?_
  refine si F S2 H2 σ ρ2 W2 _ De.ex _ c2 q2 (l.ex.up (e1.trans e2)) fun S3 H3 ρ3 W3 d3 v3 e3 c3 r3 q3 => ?_
  split at q3
  · rename_i p k
    obtain ⟨ds, j, hw, hj, q⟩ := q3
    obtain ⟨_, _, xs, h1, h2⟩ := c3.cb.w p _ hw
    refine ⟨p, xs, k, j, Rep.v_iff.mp r2, Rep.v_iff.mp r3, h1, by rw [h2.length]; exact hj, ?_⟩
    have r1' := (r1.up e2).up e3
    obtain ⟨st, c4⟩ := c3.chW (o := .lst (ds.set j d)) (u := .lst (xs.set j v)) hw fun S' H' e' hp => ⟨_, hp, (Reps.set r1' j h2).up e'⟩
    exact l.nx _ _ _ _ _ (((e1.trans e2).trans e3).trans st) c4 q
  · exact q3.elim
/-- p.pop(i), dropped -/
def dPopW (fo fi : TD) : TSD := fun De ρ W => fo ρ W (fun x ρ1 W1 => (∃ p ds, x = .ref p ∧ W1 p = some (.lst ds)) ∧ fi ρ1 W1 (fun y ρ2 W2 => match x, y with
  | .v (.ref p), .v (.int k) => ∃ ds j, W2 p = some (.lst ds) ∧ -(2 ^ 63) ≤ k ∧ k < 2 ^ 63 ∧ seqIndex? k ds.length = some j ∧ j < ds.length ∧ De.nx ρ2 (updW W2 p (.lst (ds.eraseIdx j)))
  | _, _ => False) De.ex) De.ex
theorem Reps.erase {K : KF} {S : Reg} {H : Hp} : ∀ (n : Nat) {ds : List D} {vs : List V}, Reps K S H ds vs → Reps K S H (ds.eraseIdx n) (vs.eraseIdx n)
  | n, [], _, h => by rw [Reps.nil_iff.mp h]; exact Reps.nil
  | 0, d' :: ds, _, h => by
    obtain ⟨x, r, rfl, h1, h2⟩ := Reps.cons_iff.mp h
    exact h2
  | n + 1, d' :: ds, _, h => by
    obtain ⟨x, r, rfl, h1, h2⟩ := Reps.cons_iff.mp h
    exact Reps.cons h1 (Reps.erase n h2)
theorem gs_popW {fi : TD} {apos cpos : Pos} (ho : GE X Wx o fo) (hi : GE X Wx i fi) (hbase : attributeBase o "pop" X.env (eval o X.env) = eval o X.env := by rfl)
    (hfew : ((backTo cpos (starEach (i :: []) X.env)).all (fun x => !x.1) && (backToKw cpos (keywordEach [] X.env)).all (fun x => x.1.isSome) && decide ((i :: ([] : List Expr)).length + ([] : List Keyword).length + (if ([] : List Keyword).isEmpty then 0 else 1) < 30)) = true := by rfl)
    (hline : (apos.endLine == cpos.line) = true := by rfl) (hse : starEach (i :: []) X.env = (false, eval i X.env) :: starEach [] X.env := by rfl) (hplain : (backTo cpos (starEach [] X.env)).any (·.1) = false := by rfl)
    (hs : swapsWith (.Call (.Attribute o "pop" apos) [i] [] cpos) none pos.line X.env = pure false := by rfl) : GS X Wx (.Expr (.Call (.Attribute o "pop" apos) [i] [] cpos) pos) (dPopW fo fi) := by
  obtain ⟨to, po, so⟩ := ho
  obtain ⟨ti, pi, si⟩ := hi
  refine ⟨_, ps_expr (pe_bm PySem.F.plainAttrs_list PySem.F.slot_list_pop PySem.F.type_list_pop mt_popAt po (pa_cons pi pa_nil hse) hbase hfew hline hse hplain) hs, fun F S H σ ρ W De Dh cf hf l => ?_⟩
  refine so F S H σ ρ W _ De.ex _ cf hf l.ex fun S1 H1 ρ1 W1 d v e1 c1 r1 q1 => ?_
  obtain ⟨⟨p0, ds0, rfl, hw0⟩, q1⟩ := q1
  obtain ⟨_, _, xs0, h0, _⟩ := c1.cb.w p0 _ hw0
  have ev := Rep.v_iff.mp r1
  subst ev
  refine ⟨.inl ⟨rfl, xs0, SqL.of h0⟩, ?_⟩
  refine si F S1 H1 σ ρ1 W1 _ De.ex _ c1 q1 (l.ex.up e1) fun S2 H2 ρ2 W2 d2 v2 e2 c2 r2 q2 => ?_
  split at q2
  · rename_i p k he
    cases he
    obtain ⟨ds, j, hw, hk1, hk2, hj, hjl, q⟩ := q2
    obtain ⟨_, _, xs, h1, h2⟩ := c2.cb.w p0 _ hw
    have hv : xs[j]? = some (xs[j]'(by rw [h2.length]; exact hjl)) := List.getElem?_eq_getElem _
    refine ⟨p0, xs, k, j, _, rfl, by rw [Rep.v_iff.mp r2], h1, hk1, hk2, by rw [h2.length]; exact hj, hv, ?_⟩
    obtain ⟨st, c4⟩ := c2.chW (o := .lst (ds.eraseIdx j)) (u := .lst (xs.eraseIdx j)) hw fun S' H' e' hp => ⟨_, hp, (Reps.erase j h2).up e'⟩
    exact l.nx _ _ _ _ _ ((e1.trans e2).trans st) c4 q
  · exact q2.elim
/-- -e -/
def dNeg (fe : TD) : TD := fun ρ W Q Qx => fe ρ W (fun d ρ' W' => match d with | .v (.int i) => Q (.int (-i)) ρ' W' | _ => False) Qx
theorem ge_neg (he : GE X Wx e fe) : GE X Wx (.UnaryOp .USub e pos) (dNeg fe) := by
  obtain ⟨te, pe, se⟩ := he
  refine ⟨_, pe_un un_neg pe, fun F S H σ ρ W Q Qx R cf hf hx hE => ?_⟩
  refine se F S H σ ρ W _ Qx _ cf hf hx fun S1 H1 ρ1 W1 d v e1 c1 r1 q1 => ?_
  split at q1
  · rename_i i
    exact ⟨i, Rep.v_iff.mp r1, hE S1 H1 ρ1 W1 _ _ e1 c1 (Rep.v_iff.mpr rfl) q1⟩
  · exact q1.elim
theorem ge_gc {x : Str} {v : V} {pos : Pos} (h : ∃ u, X.mg x = some u ∧ RelV v u) (hg : Gl X x := by rfl) (hd : (x == ("__debug__" : Str)) = false := by decide) : GE X Wx (.Name x pos) (dC v) := by
  obtain ⟨u, h1, h2⟩ := h
  exact ge_glob hg h1 h2 hd
/-- a built-in class as a value -/
theorem ge_ty {x : Str} {n : String} {pos : Pos} (hm : X.mg x = none) (hv : bootBuiltins x = some (.type n)) (hg : Gl X x := by rfl) (hn : x ≠ "__name__" := by decide) (hd : (x == ("__debug__" : Str)) = false := by decide) : GE X Wx (.Name x pos) (dC (.ty n)) :=
  ⟨_, pe_bltn (v := .ty n) hg hm hv rfl hn hd, snd_c⟩
/-- x = [.. for ..] -/
theorem gs_setLc {y : Str} {py : Pos} {k : Nat} {elt tg iter : Expr} {ifs : List Expr} {scope : Scope} {spos : Pos} {fi : TID} {gd : TGD} {ft : TB} {fe : TD} {ts : List Nat} (own : List (Str × Nat)) (hc : X.calm = true) (hN : X.N.Nodup) (hy : X.N[k]? = some y) (hyl : X.env.scope.names.lookup y = some .local)
    (hsw : swapsWith (.ListComp elt [⟨tg, iter, ifs, 0⟩] scope pos) (some (.Name y py)) spos.line X.env = pure true) (hi : GI X Wx tg iter fi) (ok : BlkOk X.N X.env.scope scope own) (hts : ∀ j ∈ ts, j ∈ own.map (·.2))
    (hg : ∀ (s : Shared) (H : Hp) (C : Addr) (cl : List (Str × Addr)) (fp : List Addr), GG (X.blk s H scope (PySem.compEnvC scope cl C X.env) fp) tg gd ts) (ht : ∀ (s : Shared) (H : Hp) (C : Addr) (cl : List (Str × Addr)) (fp : List Addr), GTs (X.blk s H scope (PySem.compEnvC scope cl C X.env) fp) WX0 ifs ft)
    (he : ∀ (s : Shared) (H : Hp) (C : Addr) (cl : List (Str × Addr)) (fp : List Addr), GE (X.blk s H scope (PySem.compEnvC scope cl C X.env) fp) WX0 elt fe) (hs : ∀ x, foldedSetIterable iter X.env x = pure x := by intro _; rfl) :
    GS X Wx (.Assign [.Name y py] (.ListComp elt [⟨tg, iter, ifs, 0⟩] scope pos) spos) (dAsg (dFresh (dLc fi gd ft fe (own.map (·.2)))) (gdName k)) := by
  obtain ⟨wi, pi, si⟩ := hi
  exact ⟨_, ps_setLc hc hN hy hyl hsw pi ok (fun s H C cl fp => (hg s H C cl fp).can) (fun s H C cl fp => (ht s H C cl fp).can) (fun s H C cl fp => (he s H C cl fp).can) hs, snd_asg (snd_fresh (snd_lc hts si)) snd_gName⟩
theorem gs_setLcO {y : Str} {py : Pos} {k : Nat} {elt tg iter : Expr} {ifs : List Expr} {scope : Scope} {spos : Pos} {fi : TID} {gd : TGD} {ft : TB} {fe : TD} {ts : List Nat} (own : List (Str × Nat)) (hc : X.calm = true) (hN : X.N.Nodup) (hy : X.N[k]? = some y) (hyl : X.env.scope.names.lookup y = some .local)
    (hsw : swapsWith (.ListComp elt [⟨tg, iter, ifs, 0⟩] scope pos) (some (.Name y py)) spos.line X.env = pure true) (hi : GI X Wx tg iter fi) (ok : BlkOk X.N X.env.scope scope own) (hts : ∀ j ∈ ts, j ∈ own.map (·.2))
    (hg : ∀ (s : Shared) (H : Hp) (C : Addr) (cl : List (Str × Addr)) (fp : List Addr), GG (X.blk s H scope (PySem.compEnvC scope cl C X.env) fp) tg gd ts) (ht : ∀ (s : Shared) (H : Hp) (C : Addr) (cl : List (Str × Addr)) (fp : List Addr), GTs (X.blk s H scope (PySem.compEnvC scope cl C X.env) fp) WX0 ifs ft)
    (he : ∀ (s : Shared) (H : Hp) (C : Addr) (cl : List (Str × Addr)) (fp : List Addr), GE (X.blk s H scope (PySem.compEnvC scope cl C X.env) fp) WX0 elt fe) (hs : ∀ x, foldedSetIterable iter X.env x = pure x := by intro _; rfl) :
    GS X Wx (.Assign [.Name y py] (.ListComp elt [⟨tg, iter, ifs, 0⟩] scope pos) spos) (dAsgO k (dLc fi gd ft fe (own.map (·.2)))) := by
  obtain ⟨wi, pi, si⟩ := hi
  exact ⟨_, ps_setLc hc hN hy hyl hsw pi ok (fun s H C cl fp => (hg s H C cl fp).can) (fun s H C cl fp => (ht s H C cl fp).can) (fun s H C cl fp => (he s H C cl fp).can) hs, snd_asgO (snd_lc hts si)⟩
end
/-- the def x of the text -/
structure DefAt (K : PySem.W.Frag) (mg : Str → Option Value) (x : Str) (st : Stmt) (ps : List Str) : Prop where
  ex : ∃ f fd, mg x = some (.ref f) ∧ Fun K x x st f fd ∧ Binds K fd ps []
theorem def_mk {K : PySem.W.Frag} {mg : Str → Option Value} {h : Heap} {x : Str} {st : Stmt} {ps : List Str} {f : Addr} {oc : Value} {od an : Option Addr} {osl : Array (Option Value)} {kV doc pm cdv ct : Value} (X : K.In h) (GG : h.Ns mainGlobals mg) (a : PySem.W.nsIn K mainGlobals x = some (some (.ref f)))
    (l : K.lookup f = some ⟨oc, od, .func (PySem.W.fnOf x x (defArgs st) (defBody st) (defScope st) .none kV doc pm an cdv ct), osl⟩) (c : PySem.W.codeIn K cdv x = true) (k : PySem.W.keepIn K (.ref f) = true)
    (b : ∀ (kV doc pm : Value) (an : Option Addr) (cdv ct : Value) (us : List Value), us.length = ps.length → bindArgs (PySem.W.fnOf x x (defArgs st) (defBody st) (defScope st) .none kV doc pm an cdv ct) ⟨us, []⟩ = pure (ps.zip us)) : DefAt K mg x st ps :=
  ⟨f, _, PySem.W.mg_of X GG a, fun_mk l c k, (fun_mk l c k).binds b⟩
/-- a def that keeps its promise -/
structure Cal (P : Program) (w : World) (K : PySem.W.Frag) (mg : Str → Option Value) (base : Heap) (k : Nat) (x : Str) (st : Stmt) (ps : List Str) (sp : SpD) : Prop where
  ex : ∃ f fd, mg x = some (.ref f) ∧ Fun K x x st f fd ∧ Binds K fd ps [] ∧ FnG P w K mg base k f fd ps (toSp ⟨K, w⟩ ps.length sp)
section
variable {P : Program} {w : World} {K : PySem.W.Frag} {mg : Str → Option Value} {base : Heap} {k j : Nat} {x : Str} {st : Stmt} {ps : List Str} {sp sp' : SpD}
theorem Cal.imp (c : Cal P w K mg base k x st ps sp) (h : ∀ ds W Q Qx, sp' ds W Q Qx → sp ds W Q Qx) : Cal P w K mg base k x st ps sp' := by
  obtain ⟨f, fd, a, b, c, d⟩ := c
  exact ⟨f, fd, a, b, c, d.imp (toSp_imp h _ _ _ _)⟩
theorem Cal.mono (c : Cal P w K mg base k x st ps sp) (h : k ≤ j) : Cal P w K mg base j x st ps sp := by
  obtain ⟨f, fd, a, b, c, d⟩ := c
  exact ⟨f, fd, a, b, c, d.mono h⟩
/-- THE RULE for a def of the module -/
theorem calD {N : List Str} (T : DefAt K mg x st ps) (Sc : FnScope N ps (defScope st))
    (hbody : ∀ (f : Addr) (cdv : Value) (A : Around) (outer : List PySem.Env) (s : Shared) (H : Hp) (E : XK), Rm k (A.deeper (PyProof.Rows.envOfC x (defScope st) s.heap.objs.size f cdv)) →
      ∃ g, GSs (cxOf (L2.CX P w) P w K mg base N x (defScope st) f cdv A outer s H E) (fun cls d _ H => E cls d H) (defBody st) g ∧
        ∀ ds W Qd Qx, ds.length = ps.length → sp ds W Qd Qx → g { nx := fun _ W' => Qd .non W', rt := Qd, ex := fun cls x _ W' => Qx cls x W' } (ds.map (fun d => some (Sl.sh d)) ++ List.replicate (N.length - ds.length) none) W) :
    Cal P w K mg base (k + 1) x st ps sp := by
  obtain ⟨f, fd, a, b, c⟩ := T
  exact ⟨f, fd, a, b, c, okD b Sc (hbody f)⟩
end
section
variable {X : Cx} {Wx : WX} {e : Expr} {es : List Expr} {fl : TL} {p pos : Pos} {k j n : Nat} {x : Str} {st : Stmt} {ps : List Str} {sp : SpD}
theorem ge_c (tk : Takes X Wx) (c : Cal X.prog X.w X.K X.mg X.base k x st ps sp) (hr : Rm j X.A) (hk : k ≤ j) (ha : GA X Wx (e :: es) fl) (hn : ps.length = n := by rfl) (hg : Gl X x := by rfl) (hdb : (x == ("__debug__" : Str)) = false := by decide) (he : starEach (e :: es) X.env = (false, eval e X.env) :: starEach es X.env := by rfl) (hpl : (backTo pos (starEach es X.env)).any (·.1) = false := by rfl) :
    GE X Wx (.Call (.Name x p) (e :: es) [] pos) (dCall sp n fl) := by
  obtain ⟨f, fd, a, b, c, d⟩ := c
  subst hn
  exact ge_call tk d (hr.less hk) hg a b.kp c ha hdb he hpl
variable {nm : Option Str} {kpos : Pos} {fe : TD} {kws : List Keyword}
end
/-- the surroundings at the head: what is not tracked is the base -/
theorem env_top {P : Program} {w : World} {K : PySem.W.Frag} {mg mb : Str → Option Value} {a : Addr} {s₁ : Shared} {items : Array Value} {H : Hp} (inK : K.In s₁.heap) (ng : s₁.heap.Ns mainGlobals mg) (nb : s₁.heap.Ns builtinsNs mb) (hbb : ∀ x : Str, x ≠ "__name__" → mb x = bootBuiltins x)
    (hlim : s₁.heap.NoLimit) (hg : s₁.gens = #[]) (at_a : s₁.heap.get? a = some { cls := .type "list", data := .seq items }) (ok : HOk P w H s₁.heap) (one : ∀ b, b ≠ a → H b = none) (own : H a ≠ none → K.lookup a = none) :
    Env0 P w K mg (hidT s₁.heap H) callerA [] s₁ H ∧ K.In (hidT s₁.heap H) ∧ (hidT s₁.heap H).Ns mainGlobals mg := by
  have names : ∀ {b : Addr} {m : Str → Option Value}, s₁.heap.Ns b m → (hidT s₁.heap H).Ns b m := by
    rintro b m ⟨o, es, ep, hb, hd, hr⟩
    have ne : b ≠ a := by
      rintro rfl
      have z := at_a.symm.trans hb
      injection z with z
      rw [← z] at hd
      cases hd
    exact ⟨o, es, ep, hidT_get hb (one b ne), hd, hr⟩
  have k2 : K.In (hidT s₁.heap H) := by
    intro b o hb
    refine hidT_get (inK b o hb) ?_
    by_cases e : b = a
    · by_cases q : H a = none
      · rw [e]; exact q
      · have z := own q
        rw [e, z] at hb
        cases hb
    · exact one b e
  obtain ⟨mc, l1, l2⟩ := hlim
  exact ⟨⟨rfl, ⟨k2, names ng, ⟨mb, names nb, hbb⟩, ⟨mc, names l1, l2⟩⟩, fun _ _ e => of_hidT e, Nat.le_of_eq (hidT_size _ _), trivial, (fun b z => nomatch (show b ∈ ([] : List Addr) from z)), ok, .of_eq hg⟩, k2, names ng⟩
theorem law_callG {P : Program} {w : World} {K : PySem.W.Frag} {mg mb : Str → Option Value} {k : Nat} {fa a : Addr} {fd : FuncData} {x : Str} {sp : Sp} {s₁ : Shared} {vs : List Value} {ns : List Int} (inK : K.In s₁.heap) (ng : s₁.heap.Ns mainGlobals mg) (nb : s₁.heap.Ns builtinsNs mb)
    (hbb : ∀ x : Str, x ≠ "__name__" → mb x = bootBuiltins x) (hlim : s₁.heap.NoLimit) (hg : s₁.gens = #[]) (at_a : s₁.heap.get? a = some { cls := .type "list", data := .seq vs.toArray }) (hints : PyProof.Rows.IntsAre vs ns) (small : ns.length ≤ sizeLine) (rm : Rm k callerA)
    (F : ∀ base : Heap, K.In base → base.Ns mainGlobals mg → FnG P w K mg base k fa fd [x] sp) (bnd : ∀ (s : Shared) (u : Value), BindsTo s fd ⟨[u], []⟩ [(x, u)])
    (hsp : ∀ H : Hp, Only H → SqL K H a (ns.map V.int) → sp [.ref a] H (fun v _ => v = .bl true) fun _ _ _ => False) :
    codeAny (model P w) callerA (.call (.ref fa) ⟨[.ref a], []⟩) (fun r s' => r = .ok (.ret (.bool true)) ∧ OldK s₁.heap s'.heap ∧ s'.os = s₁.os ∧ PyProof.Rows.AllBare s'.gens) s₁ := by
  have hv : Vals (ns.map V.int) vs := vals_ints hints
  have go : ∀ H : Hp, Only H → SqL K H a (ns.map V.int) → HOk P w H s₁.heap → (∀ b, b ≠ a → H b = none) → (H a ≠ none → K.lookup a = none) →
      codeAny (model P w) callerA (.call (.ref fa) ⟨[.ref a], []⟩) (fun r s' => r = .ok (.ret (.bool true)) ∧ OldK s₁.heap s'.heap ∧ s'.os = s₁.os ∧ PyProof.Rows.AllBare s'.gens) s₁ := by
    intro H only sq ok one own
    obtain ⟨e0, k2, n2⟩ := env_top inK ng nb hbb hlim hg at_a ok one own
    refine codeAny_mono ((F _ k2 n2).go rm e0 (args := ⟨[.ref a], []⟩) (us := [.ref a]) (vs := [.ref a]) (bnd s₁ (.ref a)) (.cons rfl .nil) (hsp H only sq)) fun r s' z => ?_
    match r, z with
    | .ok (.ret u), ⟨v, H2, os, bare, un, ok2, rel, ev⟩ =>
      have ev : v = .bl true := ev
      rw [ev] at rel
      have eu : u = Value.bool true := rel
      rw [eu]
      refine ⟨rfl, OldK.of_keep fun b o hb => ?_, os, bare⟩
      rcases only b with q | ⟨ob, xs, q⟩
      · exact un.keep b o hb q (fun z => nomatch (show b ∈ ([] : List Addr) from z)) (by simp)
      · have e1 := (ok b _ q).1
        have e2 := (ok2 b _ (un.frzs b ob _ q)).1
        rw [← e1.symm.trans hb]
        exact e2
    | .error e, z =>
      obtain ⟨_, _, _, _, _, _, _, _, _, _, _, _, no⟩ := z
      exact no.elim
    | .ok .next, z => exact z.elim
    | .ok .brk, z => exact z.elim
    | .ok .cont, z => exact z.elim
  have len : (ns.map V.int).length ≤ sizeLine := by rw [List.length_map]; exact small
  by_cases q : ∃ o, K.lookup a = some o
  · obtain ⟨o, q⟩ := q
    have e := at_a.symm.trans (inK a o q)
    injection e with e
    subst e
    exact go (fun _ => none) (fun _ => .inl rfl) (.inr ⟨_, vs.toArray, _, q, rfl, rfl, rfl, by rw [List.size_toArray, hints.length]; exact small, by simpa using hv⟩) (fun b u z => by cases (show (none : Option HO) = some u from z)) (fun _ _ => rfl) fun z => (z rfl).elim
  · have q : K.lookup a = none := by
      cases z : K.lookup a with
      | none => rfl
      | some o => exact (q ⟨o, z⟩).elim
    let o : Obj := { cls := .type "list", data := .seq vs.toArray }
    let H : Hp := fun b => if b = a then some (.frz o (.lst (ns.map V.int))) else none
    have ha : H a = some (.frz o (.lst (ns.map V.int))) := if_pos rfl
    have hn : ∀ b, b ≠ a → H b = none := fun b e => if_neg e
    refine go H (fun b => ?_) (.inl (.inr ⟨o, ha⟩)) (fun b u z => ?_) hn fun _ => q
    · by_cases e : b = a
      · rw [e]; exact .inr ⟨o, _, ha⟩
      · exact .inl (hn b e)
    · by_cases e : b = a
      · rw [e] at z ⊢
        have z := ha.symm.trans z
        injection z with z
        rw [← z]
        exact ⟨at_a, len, vs, _, hv, at_a⟩
      · rw [hn b e] at z
        cases z
theorem walkX {l : PySem.W.OpenLaw} {n k : Nat} {q : Program} {loose : List Str} {XP : (Str → Option Value) → Heap → Prop} {YP : World → Heap → Prop} {d : DefRec} {K : PySem.Params → PySem.W.Frag} {sp : World → Sp} {x : Str}
    (hn : l.most = some n) (hn2 : n ≤ sizeLine) (hdf : d.params.defaults = []) (hr : Rm k callerA)
    (hY : ∀ (w : World) (h : Heap), YP w h → (K w.params).In h)
    (F : ∀ (w : World) (mg : Str → Option Value) (fa : Addr) (h : Heap), XP mg h → (K w.params).In h → h.Ns mainGlobals mg → mg d.name = some (.ref fa) →
      ∃ fd : FuncData, (∀ (s : Shared) (u : Value), BindsTo s fd ⟨[u], []⟩ [(x, u)]) ∧ ∀ base : Heap, (K w.params).In base → base.Ns mainGlobals mg → FnG l.prog w (K w.params) mg base k fa fd [x] (sp w))
    (hsp : ∀ (w : World) (H : Hp) (a : Addr) (ns : List Int), ns.length ≤ n → (∀ z ∈ ns, Builtin.Int.intBits z ≤ 1048576) → Only H → SqL (K w.params) H a (ns.map V.int) → sp w [.ref a] H (fun v _ => v = .bl true) fun _ _ _ => False) :
    PySem.W.WalkO q loose XP YP l.row.toRowW d [] (fun f vs => PySem.call f vs) := by
  refine Att.attach_callB hn hdf fun w s₀ s₁ mg mb fa o pm cd doc a vs ns GG Y ho hd hcd hmg hobj hints hlen hbits hg => ?_
  obtain ⟨fd, hb, hF⟩ := F w mg fa _ GG.X (hY w _ Y) GG.T.g hmg
  exact law_callG (hY w _ Y) GG.T.g GG.T.b GG.T.builtins GG.T.nolimit hg hobj hints (Nat.le_trans hlen hn2) hr hF hb (fun H hO hS => hsp w H a ns hlen hbits hO hS)
/-- a law: of a script of at most 63 numbers of at most 2 ^ 20 bits it gives True -/
def spTrue : SpD := fun ds _ Q _ => ∃ ns : List Int, ds = [.scr ns] ∧ ns.length ≤ 63 ∧ (∀ z ∈ ns, Builtin.Int.intBits z ≤ 1048576) ∧ ∀ W, Q (.bl true) W
theorem toSp_true {K : KF} {H : Hp} {a : Addr} {ns : List Int} (h1 : ns.length ≤ 63) (h2 : ∀ z ∈ ns, Builtin.Int.intBits z ≤ 1048576) (hS : SqL K H a (ns.map V.int)) : toSp K 1 spTrue [.ref a] H (fun v _ => v = .bl true) fun _ _ _ => False := by
  have cb : Cb K (fun _ => False) (fun _ => False) H (fun _ => none) := ⟨fun _ h => h.elim, fun _ h => h, fun _ _ h => by cases h⟩
  refine ⟨_, _, _, [.scr ns], fun d _ => d = .bl true, fun _ _ _ => False, cb, Reps.cons (Rep.scr_iff.mpr ⟨a, rfl, ?_⟩) Reps.nil, rfl, ⟨ns, rfl, h1, h2, fun _ => rfl⟩, fun S' H' W' d v _ _ r e => ?_, fun _ _ _ _ _ _ _ _ _ h => h⟩
  · rcases hS with h | h
    · exact .inl ⟨h, fun z => z⟩
    · exact .inr (.inr h)
  · subst e
    exact Rep.v_iff.mp r
end G
namespace G
open PySem PySem.Spec L2
section
variable {K : KF}
def dSub : D → D → (D → Prop) → Prop := d2J fun i j => .int (i - j)
def dFdv : D → D → (D → Prop) → Prop := d2I CDivW fun i j => .int (i / j)
def dMod : D → D → (D → Prop) → Prop := d2I (fun _ j => 0 < j) fun i j => .int (i % j)
def dPow : D → D → (D → Prop) → Prop := d2I CPow fun i j => .int (i ^ j.toNat)
def dMulA : D → D → (D → Prop) → Prop := fun d e Q => match d, e with
  | .v (.int i), .v (.int j) => CMulX i j ∧ Q (.int (i * j))
  | .lst i, .v (.int j) => -(2 ^ 63) ≤ j ∧ j < 2 ^ 63 ∧ i.length * j.toNat ≤ sizeLine ∧ Q (.lst (List.replicate j.toNat i).flatten)
  | .v (.str s), .v (.int n) => -(2 ^ 63) ≤ n ∧ n < 2 ^ 63 ∧ s.length * n.toNat ≤ sizeLine ∧ Q (.str (repS s n))
  | _, _ => False
def rMulA : R2 := fun x y H Q => (rI CMulX (fun i j => .int (i * j)) x y H Q ∨ rRep x y H Q) ∨ rRepS x y H Q
theorem rs_mulA : RSnd K rMulA dMulA := rs_imp (rs_or rs_mul rs_repS) fun d e Q h => by
  unfold dMulA at h
  split at h
  · exact .inl h
  · exact .inl h
  · exact .inr h
  · exact h.elim
theorem op_mulAll {X : Cx} : OpR X (binaryOp .Mult) rMulA := op_mulA.or op_repS
/-- the order of texts -/
def ltS (a b : Str) : Bool := decide (a.cps.toList < b.cps.toList)
def dCmp (g : Int → Int → Bool) (h : Str → Str → Bool) : D → D → (D → Prop) → Prop := fun d e Q => match d, e with
  | .v (.int i), .v (.int j) => Q (.bl (g i j))
  | .v (.str i), .v (.str j) => Q (.bl (h i j))
  | _, _ => False
def rCmp (g : Int → Int → Bool) (h : Str → Str → Bool) : R2 := fun x y H Q => rI0 (fun i j => .bl (g i j)) x y H Q ∨ (fun x y H Q => ∃ i j, x = .str i ∧ y = .str j ∧ Q (.bl (h i j)) H) x y H Q
theorem rs_cmp {g : Int → Int → Bool} {h : Str → Str → Bool} : RSnd K (rCmp g h) (dCmp g h) :=
  rs_imp (rs_or (rs_J (g := fun i j => .bl (g i j))) (rs_S (g := fun i j => .bl (h i j)))) fun d e Q q => by
    unfold dCmp at q
    split at q
    · exact .inl q
    · exact .inr q
    · exact q.elim
abbrev dLt := dCmp (fun i j => decide (i < j)) ltS
abbrev dLe := dCmp (fun i j => decide (i ≤ j)) (fun a b => !ltS b a)
abbrev dGt := dCmp (fun i j => decide (j < i)) (fun a b => ltS b a)
abbrev dGe := dCmp (fun i j => decide (j ≤ i)) (fun a b => !ltS a b)
end
section
variable {X : Cx}
theorem op_ltA : OpR X (compareOp .Lt) (rCmp (fun i j => decide (i < j)) ltS) := OpR.or op_lt op_lt_str
theorem op_leA : OpR X (compareOp .LtE) (rCmp (fun i j => decide (i ≤ j)) (fun a b => !ltS b a)) := OpR.or op_le op_le_str
theorem op_gtA : OpR X (compareOp .Gt) (rCmp (fun i j => decide (j < i)) (fun a b => ltS b a)) := OpR.or op_gt op_gt_str
theorem op_geA : OpR X (compareOp .GtE) (rCmp (fun i j => decide (j ≤ i)) (fun a b => !ltS a b)) := OpR.or op_ge op_ge_str
end
end G
namespace G
open PySem PySem.Spec L2
abbrev noX : KX := fun _ _ _ _ => False
/-- a def's reading keeps the promise -/
abbrev Rd (N : List Str) (m : Nat) (sp : SpD) (d : TSD) : Prop := ∀ ds W Qd Qx, ds.length = m → sp ds W Qd Qx → d { nx := fun _ W' => Qd .non W', rt := Qd, ex := fun cls x _ W' => Qx cls x W' } (ds.map (fun d => some (Sl.sh d)) ++ List.replicate (N.length - ds.length) none) W
/-- a comprehension by what holds of the list so far -/
theorem dLc_inv {fi : TID} {gd : TGD} {ft : TB} {fe : TD} {vs : List Nat} {ρ : Env} {W : Wd} {Q : KL} {Qx : KX} (ds : List D) (W0 : Wd) (I : Nat → List D → Wd → Prop) (hno : noOwn ρ vs) (hl : ds.length ≤ sizeLine) (hi : ∀ P : KL, P ds ρ W0 → fi ρ W P Qx) (h0 : I 0 [] W0)
    (hs : ∀ (i : Nat) d acc W, ds[i]? = some d → acc.length ≤ i → I i acc W → gd d (wipeD ρ vs) W fun ρ1 W1 => ft ρ1 W1 (fun b ρ2 W2 => ρ2 = ρ1 ∧ if b = true then fe ρ1 W2 (fun y ρ3 W3 => ρ3 = ρ1 ∧ I (i + 1) (acc ++ [y]) W3) noX else I (i + 1) acc W2) noX)
    (hd : ∀ acc W, acc.length ≤ ds.length → I ds.length acc W → Q acc ρ W) : dLc fi gd ft fe vs ρ W Q Qx := by
  unfold dLc
  exact ⟨hno, hi _ ⟨rfl, hl, I, h0, hs, hd⟩⟩
def mkS (l : List Nat) : Str := ⟨l.toArray⟩
theorem tl_mkS (l : List Nat) : TL.tl (mkS l) = l := rfl
theorem mkS_tl (s : Str) : mkS (TL.tl s) = s := TL.mk_tl s
theorem len_mkS (l : List Nat) : (mkS l).length = l.length := by simp [mkS, Str.length]
theorem str_eq {s : Str} {l : List Nat} (h : TL.tl s = l) : s = mkS l := by rw [← h, mkS_tl]
theorem mkS_inj {l m : List Nat} : mkS l = mkS m ↔ l = m := ⟨fun h => by have := congrArg TL.tl h; exact this, fun h => by rw [h]⟩
theorem app_mkS (a b : List Nat) : mkS a ++ mkS b = mkS (a ++ b) := str_eq (by rw [TL.tl_append]; rfl)
theorem ltS_mk (a b : List Nat) : ltS (mkS a) (mkS b) = decide (a < b) := rfl
theorem ltS_one (c d : Nat) : ltS (mkS [c]) (mkS [d]) = decide (c < d) := by
  rw [ltS_mk]
  by_cases h : c < d
  · rw [decide_eq_true h, decide_eq_true]
    exact List.Lex.rel h
  · rw [decide_eq_false h, decide_eq_false]
    intro q
    rw [List.cons_lt_cons_iff] at q
    rcases q with q | ⟨_, q⟩
    · exact h q
    · exact absurd q (List.not_lt_nil _)
theorem atI_of {α : Type} {l : List α} {i : Nat} {x : α} (h : l[i]? = some x) : atI l (i : Int) = some x := atI_nat h
theorem sz (n : Nat) (h : n ≤ 16777216) : n ≤ sizeLine := Nat.le_trans h (by decide)
theorem noOwn1 {ρ : Env} {i : Nat} (h : ∀ o, ρ[i]? ≠ some (some (.om o))) : noOwn ρ [i] := fun j hj ds => by
  rw [List.mem_singleton.mp hj]; exact h ds
theorem bls_map {α : Type} (l : List α) (p : α → Bool) : blsOf (l.map fun x => D.bl (p x)) = some (l.map p) := by
  induction l with
  | nil => rfl
  | cons a r ih => simp [blsOf, ih]
end G
namespace G
open PySem PySem.Spec L2
theorem dFor_mk {fi : TID} {gd : TGD} {fb : TSD} {De : EndsD} {ρ : Env} {W : Wd} (h : fi ρ W (fun ds ρ0 W0 => ∃ I : Nat → Env → Wd → Prop, I 0 ρ0 W0 ∧
  (∀ (i : Nat) d ρ W, ds[i]? = some d → I i ρ W → gd d ρ W fun ρ' W' => fb { De with nx := I (i + 1), ct := I (i + 1), bk := De.nx } ρ' W') ∧ ∀ ρ W, I ds.length ρ W → De.nx ρ W) De.ex) : dFor fi gd fb De ρ W := by unfold dFor; exact h
theorem dFor_of {fi : TID} {gd : TGD} {fb : TSD} {De : EndsD} {ρ : Env} {W : Wd} (ds : List D) (I : Nat → Env → Wd → Prop) (hi : ∀ P : KL, P ds ρ W → fi ρ W P De.ex) (h0 : I 0 ρ W)
    (hs : ∀ (i : Nat) d ρ W, ds[i]? = some d → I i ρ W → gd d ρ W fun ρ' W' => fb { De with nx := I (i + 1), ct := I (i + 1), bk := De.nx } ρ' W') (hd : ∀ ρ W, I ds.length ρ W → De.nx ρ W) : dFor fi gd fb De ρ W :=
  dFor_mk (hi _ ⟨I, h0, hs, hd⟩)
theorem dWhile_of {fc : TB} {fb : TSD} {De : EndsD} {ρ : Env} {W : Wd} (I : Nat → Env → Wd → Prop) (m : Nat) (h0 : I m ρ W) (hs : ∀ m ρ W, I m ρ W → fc ρ W (fun b ρ' W' => if b = true then
  fb { De with nx := fun ρ2 W2 => ∃ m', m' < m ∧ I m' ρ2 W2, ct := fun ρ2 W2 => ∃ m', m' < m ∧ I m' ρ2 W2, bk := De.nx } ρ' W' else De.nx ρ' W') De.ex) : dWhile fc fb De ρ W := by unfold dWhile; exact ⟨I, ⟨m, h0⟩, hs⟩
theorem dEq_str {a b : Str} {Q : D → Prop} (h : Q (.bl (decide (a = b)))) : dEq (.str a) (.str b) Q := by
  have : decide (V.str a = V.str b) = decide (a = b) := by
    rw [Bool.eq_iff_iff, decide_eq_true_eq, decide_eq_true_eq]
    exact ⟨fun h => by injection h, fun h => by rw [h]⟩
  unfold dEq
  show (if scal _ _ = true then _ else _)
  rw [if_pos (rfl : scal _ _ = true), this]
  exact h
theorem dEq_int {a b : Int} {Q : D → Prop} (h : Q (.bl (decide (a = b)))) : dEq (.int a) (.int b) Q := by
  have : decide (V.int a = V.int b) = decide (a = b) := by
    rw [Bool.eq_iff_iff, decide_eq_true_eq, decide_eq_true_eq]
    exact ⟨fun h => by injection h, fun h => by rw [h]⟩
  unfold dEq
  show (if scal _ _ = true then _ else _)
  rw [if_pos (rfl : scal _ _ = true), this]
  exact h
/-- .. the items known by B alone -/
theorem dLc_eachB {fi : TID} {fe : TD} {i : Nat} {ρ : Env} {W : Wd} {Q : KL} {Qx : KX} (B : List D → Wd → Prop) (S : Nat → Wd → Prop) (A : D → Prop) (hno : noOwn ρ [i]) (hi : ∀ P : KL, (∀ ds W0, B ds W0 → P ds ρ W0) → fi ρ W P Qx)
    (h0 : ∀ ds W0, B ds W0 → ds.length ≤ sizeLine ∧ S 0 W0)
    (he : ∀ ds W0, B ds W0 → ∀ (j : Nat) d W, ds[j]? = some d → S j W → ∀ P : KD, (∀ y W', A y → S (j + 1) W' → P y ((ρ.set i none).set i (some (.sh d))) W') → fe ((ρ.set i none).set i (some (.sh d))) W P noX)
    (hq : ∀ ds W0, B ds W0 → ∀ ys W', ys.length = ds.length → (∀ y ∈ ys, A y) → S ds.length W' → Q ys ρ W') : dLc fi (gdName i) dYes fe [i] ρ W Q Qx := by
  unfold dLc
  refine ⟨hno, hi _ fun ds W0 b => ⟨rfl, (h0 ds W0 b).1, fun j acc W' => S j W' ∧ acc.length = j ∧ ∀ y ∈ acc, A y, ⟨(h0 ds W0 b).2, rfl, by simp⟩, fun j d acc W' hj _ hI => ?_, fun acc W' _ hI => hq ds W0 b acc W' hI.2.1 hI.2.2 hI.1⟩⟩
  refine ⟨rfl, ?_⟩
  show fe _ W' _ noX
  refine he ds W0 b j d W' hj hI.1 _ fun y W2 ha hs => ⟨rfl, hs, by simp [hI.2.1], fun z hz => ?_⟩
  rcases List.mem_append.mp hz with hz | hz
  · exact hI.2.2 z hz
  · rw [List.mem_singleton.mp hz]; exact ha
theorem rng_len (lo : Int) (n : Nat) : (rng lo n).length = n := by unfold rng; rw [List.length_map, List.length_range]
/-- no promise at all -/
def spNo : SpD := fun _ _ _ _ => False
theorem cal_no {P : Program} {w : World} {K : PySem.W.Frag} {mg : Str → Option Value} {base : Heap} {k : Nat} {x : Str} {st : Stmt} {ps : List Str} (T : DefAt K mg x st ps) : Cal P w K mg base k x st ps spNo := by
  obtain ⟨f, fd, a, b, c⟩ := T
  have no : ∀ vs H Q E, toSp ⟨K, w⟩ ps.length spNo vs H Q E → False := fun vs H Q E h => by
    obtain ⟨_, _, _, _, _, _, _, _, _, h, _⟩ := h
    exact h
  exact ⟨f, fd, a, b, c, ⟨fun h => (no _ _ _ _ h).elim, fun _ _ _ _ h => (no _ _ _ _ h).elim⟩⟩
/-- the law's own def for the end -/
theorem law_fn {P : Program} {w : World} {K : PySem.W.Frag} {mg : Str → Option Value} {k : Nat} {x y : Str} {st : Stmt} {sp : SpD} {fa : Addr} (T : DefAt K mg x st [y])
    (hb : ∀ (kV doc pm : Value) (an : Option Addr) (cdv ct u : Value), bindArgs (PySem.W.fnOf x x (defArgs st) (defBody st) (defScope st) .none kV doc pm an cdv ct) ⟨[u], []⟩ = pure [(y, u)])
    (C : ∀ base : Heap, Cal P w K mg base k x st [y] sp) (hm : mg x = some (.ref fa)) :
    ∃ fd : FuncData, (∀ (s : Shared) (u : Value), BindsTo s fd ⟨[u], []⟩ [(y, u)]) ∧ ∀ base : Heap, FnG P w K mg base k fa fd [y] (toSp ⟨K, w⟩ 1 sp) := by
  obtain ⟨f, fd, a, F, c⟩ := T.ex
  have e := hm.symm.trans a
  cases e
  obtain ⟨oc, od, kV, doc, pm, an, cdv, ct, osl, e1, lk, hcd⟩ := F.ex
  refine ⟨fd, fun s u => .of_eq (by rw [e1]; exact hb kV doc pm an cdv ct u), fun base => ?_⟩
  obtain ⟨f2, fd2, a2, F2, c2, d2⟩ := (C base).ex
  have e2 := a.symm.trans a2
  cases e2
  obtain ⟨oc2, od2, kV2, doc2, pm2, an2, cdv2, ct2, osl2, e3, lk2, hcd2⟩ := F2.ex
  have e4 := lk.symm.trans lk2
  injection e4 with e4
  injection e4 with _ _ e4 _
  injection e4 with e4
  rw [e4]
  exact d2
end G
namespace G
open PySem PySem.Spec L2
section
variable {X : Cx} {Wx : WX} {st : Stmt} {rest : List Stmt} {f g : TSD} {e o a b c i : Expr} {es : List Expr} {fe fo fa fb fc fi : TD} {fl : TL} {pos : Pos}
/-- a new list that others may hold and change -/
def dNewW (fl : TL) : TD := fun ρ W Q Qx => fl ρ W (fun ds ρ' W' => ∀ p, W' p = none → Q (.ref p) ρ' (updW W' p (.lst ds))) Qx
theorem ge_newW (he : GN X Wx e fl) : GE X Wx e (dNewW fl) := by
  obtain ⟨te, pe, se⟩ := he
  refine ⟨_, pe, fun F S H σ ρ W Q Qx R cf hf hx hE => ?_⟩
  refine se F S H σ ρ W _ Qx _ cf hf hx fun S' H' ρ' W' ds xs p e' c r hp q => ?_
  obtain ⟨hw, st, c2⟩ := c.newW hp r
  exact hE _ _ ρ' _ _ _ (e'.trans st) c2 (Rep.v_iff.mpr rfl) (q p hw)
/-- list(x), a new one -/
def itemsOf : D → Option (List D)
  | .lst ds => some ds
  | .tup ds => some ds
  | .scr ns => some (ns.map D.int)
  | _ => none
def dListN (fe : TD) : TL := fun ρ W Q Qx => fe ρ W (fun d ρ' W' => ∃ ds, itemsOf d = some ds ∧ Q ds ρ' W') Qx
theorem gn_list {x : Str} {p : Pos} (hg : Gl X x) (hm : X.mg x = none) (hv : bootBuiltins x = some (.type "list")) (ha : GE X Wx e fe) (hn : x ≠ "__name__" := by decide) (hdb : (x == ("__debug__" : Str)) = false := by decide)
    (he : starEach [e] X.env = (false, eval e X.env) :: starEach [] X.env := by rfl) (hpl : (backTo pos (starEach [] X.env)).any (·.1) = false := by rfl) : GN X Wx (.Call (.Name x p) [e] [] pos) (dListN fe) := by
  obtain ⟨te, pe, se⟩ := ha
  refine ⟨_, pe_callTy call_list_of hg hm hv (pa_cons pe pa_nil he) hn hdb he hpl, fun F S H σ ρ W Q Qx R cf hf hx hE => ?_⟩
  refine se F S H σ ρ W _ Qx _ cf hf hx fun S' H' ρ' W' d v e' c r q => ?_
  obtain ⟨ds, e1, q⟩ := q
  have key : ∃ p ys, v = .ref p ∧ (SqL X.K H' p ys ∨ SqT X.K H' p ys) ∧ Reps (kf X) S' H' ds ys := by
    cases d with
    | v x => cases e1
    | tup xs =>
      cases e1
      obtain ⟨a, ys, rfl, h1, h2⟩ := Rep.tup_iff.mp r
      exact ⟨a, ys, rfl, .inr h1.sq, h2⟩
    | lst xs =>
      cases e1
      obtain ⟨a, ys, rfl, h1, h2⟩ := Rep.lst_iff.mp r
      exact ⟨a, ys, rfl, .inl h1.sq, h2⟩
    | dct ks ds => cases e1
    | exc c ks ds => cases e1
    | dtt ks ds => cases e1
    | tpf ds => cases e1
    | scr ns =>
      cases e1
      obtain ⟨a, rfl, h1⟩ := Rep.scr_iff.mp r
      refine ⟨a, _, rfl, .inl h1.sq, ?_⟩
      have := Reps.map_v (K := kf X) (S := S') (H := H') (ns.map V.int)
      rw [List.map_map] at this
      exact this
  obtain ⟨p, ys, rfl, h1, h2⟩ := key
  exact ⟨p, ys, rfl, h1, fun l hl => hE S' H' ρ' W' ds ys l e' c h2 hl q⟩
end
/-- one statement, then the rest from what I says -/
theorem seq_gen {f g : TSD} {De : EndsD} {ρ : Env} {W : Wd} (I : Env → Wd → Prop) (hg : ∀ ρ W, I ρ W → g De ρ W) (hf : ∀ N : KS, (∀ ρ W, I ρ W → N ρ W) → f { De with nx := N } ρ W) : dSeq f g De ρ W := hf (g De) hg
theorem ite_t {A B : Prop} (h : A) : if true = true then A else B := by rw [if_pos rfl]; exact h
theorem ite_f {A B : Prop} (h : B) : if false = true then A else B := by rw [if_neg Bool.false_ne_true]; exact h
theorem ite_d {p : Prop} [Decidable p] {A B : Prop} (h1 : p → A) (h2 : ¬ p → B) : if decide p = true then A else B := by
  by_cases h : p
  · rw [decide_eq_true h]; exact ite_t (h1 h)
  · rw [decide_eq_false h]; exact ite_f (h2 h)
theorem ite_n {p : Prop} [Decidable p] {A B : Prop} (h1 : ¬ p → A) (h2 : p → B) : if (!decide p) = true then A else B := by
  by_cases h : p
  · rw [decide_eq_true h]; exact ite_f (h2 h)
  · rw [decide_eq_false h]; exact ite_t (h1 h)
end G
namespace G
open PySem PySem.Spec L2 PyProof.Rows
section
variable {prog : Program} {w : World} {A : Around} {E : Value → Shared → Prop} {s : Shared} {l : Addr} {xs : Array (Int × Tok)}
/-- a tuple of ints walked by min, max -/
theorem iter_intTup {Q : Value → Shared → Prop} (hl : s.heap.IsTuple l (intItems xs))
    (h : ∀ s₂ : Shared, s₂ = { s with heap := s.heap.push { cls := .type "tuple_iterator", data := .fields #[.ref l, .int 0 0] } } →
      (s₂.heap.IsTupleIter s.heap.objs.size l 0 ∧ s₂.heap.IsTuple l (intItems xs)) → (∀ b ∈ [s.heap.objs.size, l], b < s₂.heap.objs.size) → l ≠ s.heap.objs.size → Q (.ref s.heap.objs.size) s₂) :
    wpAny (model prog w) A (pyIter (.ref l)) Q E s := by
  have hlt : l < s.heap.objs.size := by obtain ⟨_, e, _⟩ := hl; exact Heap.lt_size e
  refine wpAny_pyIter_tuple hl (h _ rfl ⟨⟨_, Heap.get?_push_size _ rfl, rfl, rfl⟩, hl.push _⟩ (fun b hb => ?_) (Nat.ne_of_lt hlt))
  show b < (s.heap.push _).objs.size
  rw [Heap.size_push]
  simp only [List.mem_cons, List.not_mem_nil, or_false] at hb
  rcases hb with rfl | rfl
  · exact Nat.lt_succ_self _
  · exact Nat.lt_succ_of_lt hlt
theorem old_keptT {h' : Heap} (hk : ∀ b o, b ∉ [s.heap.objs.size] → (s.heap.push { cls := .type "tuple_iterator", data := .fields #[.ref l, .int 0 0] }).get? b = some o → h'.get? b = some o) :
    ∀ b o, s.heap.get? b = some o → h'.get? b = some o := fun b o e => by
  refine hk b o (fun hm => ?_) (Heap.get?_push_of_some _ e)
  rw [List.mem_singleton.mp hm] at e
  exact absurd (Heap.lt_size e) (Nat.lt_irrefl _)
theorem max_intTup {Q : Value → Shared → Prop} (hh : A.handled = none) (hl : s.heap.IsTuple l (intItems xs)) (hne : 0 < xs.size)
    (h : ∀ v h' tk, (intItems xs)[argBest (fun i j => decide (numAt xs i > numAt xs j)) (xs.size - 1)]? = some v → (∀ b o, s.heap.get? b = some o → h'.get? b = some o) → Q v { s with heap := h', toks := tk }) :
    wpAny (model prog w) A (call (.builtin "max") [.ref l]) Q E s := by
  refine call_max_walk (iter_intTup hl fun s₂ e st hfp hlI => ?_)
  subst e
  refine ⟨_, _, _, _, _, _, _, rfl, Walks.tuple (A := A.in1) hh _ l hlI (intItems xs), st, hfp, by simpa [intItems] using hne, CmpOf.ints_gt (numAt xs) (fun _ _ => intItems_at), fun v h' tk hP hk => ?_⟩
  exact h v h' tk (by simpa [intItems] using hP) (old_keptT hk)
variable {its : List Value} {ns : List Int}
theorem max_rawT {Q : Value → Shared → Prop} (hh : A.handled = none) (hl : s.heap.IsTuple l its.toArray) (hi : IntsAre its ns) (hne : 0 < ns.length)
    (h : ∀ h' tk M t', (∀ b o, s.heap.get? b = some o → h'.get? b = some o) → M ∈ ns → (∀ a, a ∈ ns → a ≤ M) → Q (.int M t') { s with heap := h', toks := tk }) : wpAny (model prog w) A (call (.builtin "max") [.ref l]) Q E s := by
  obtain ⟨xs, e⟩ := hi.allInts.items
  have hn : numsOf (intItems xs).toList = ns := by rw [← e]; exact hi.numsOf
  rw [nums_intItems] at hn
  subst hn
  rw [e] at hl
  have hsz : 0 < xs.size := by simpa using hne
  refine max_intTup hh hl hsz fun v h' tk hv hk => ?_
  obtain ⟨t, rfl⟩ := intItems_at hv
  obtain ⟨h1, h2⟩ := argBest_gt (numAt xs) (xs.size - 1)
  refine h h' tk _ t hk ?_ fun a ha => ?_
  · rw [numAt_eq]; exact PySem.getD_mem (by rw [List.length_map, Array.length_toList]; omega)
  · obtain ⟨j, hj, rfl⟩ := mem_getD ha
    rw [List.length_map, Array.length_toList] at hj
    rw [← numAt_eq]; exact h2 j (by omega)
end
section
variable {X : Cx}
def rMaxT (K : KF) : List V → Hp → VK → Prop := fun vs H Q => ∃ (a : Addr) (ns : List Int), vs = [V.ref a] ∧ SqT K H a (ns.map V.int) ∧ 0 < ns.length ∧ ∀ m, m ∈ ns → (∀ y, y ∈ ns → y ≤ m) → Q (.int m) H
theorem cr_maxT (hc : X.calm = true) : CallR X (.builtin "max") (rMaxT (kf X)) := by
  intro pins s σ H vs us Q I r h
  obtain ⟨a, ns, rfl, hs, hne, q⟩ := h
  obtain ⟨its, rv, hl, _⟩ := I.tuple hs
  rw [Vals.ref1 r]
  exact max_rawT (I.ok.hd hc) hl rv.ints hne fun h' tk m t' hk h1 h2 => ⟨.int _, H, I.kept hk, ⟨_, rfl⟩, q m h1 h2⟩
theorem cr_maxA (hc : X.calm = true) : CallR X (.builtin "max") (fun xs H Q => rMax X.K xs H Q ∨ rMaxT (kf X) xs H Q) := CallR.or (cr_max hc) (cr_maxT hc)
def dMax1A : List D → (D → Prop) → Prop := fun ds Q => match ds with
  | [.lst xs] => ∃ ns, intsOf xs = some ns ∧ 0 < ns.length ∧ ∀ m, m ∈ ns → (∀ y, y ∈ ns → y ≤ m) → Q (.int m)
  | [.tup xs] => ∃ ns, intsOf xs = some ns ∧ 0 < ns.length ∧ ∀ m, m ∈ ns → (∀ y, y ∈ ns → y ≤ m) → Q (.int m)
  | _ => False
variable {K : KF}
theorem cs_max1A : CSnd K (fun xs H Q => rMax K xs H Q ∨ rMaxT K xs H Q) dMax1A := fun F S H W ds xs P R cb rd hp k => by
  unfold dMax1A at hp
  split at hp
  · obtain ⟨x, rfl, h⟩ := reps1 rd
    obtain ⟨a, ys, rfl, h1, h2⟩ := Rep.lst_iff.mp h
    obtain ⟨bs, hb, hl, hp⟩ := hp
    rw [reps_ints hb h2] at h1
    exact .inl ⟨a, bs, rfl, h1.sq, hl, fun m m1 m2 => k _ _ H (Same.refl H) (Rep.v_iff.mpr rfl) (hp m m1 m2)⟩
  · obtain ⟨x, rfl, h⟩ := reps1 rd
    obtain ⟨a, ys, rfl, h1, h2⟩ := Rep.tup_iff.mp h
    obtain ⟨bs, hb, hl, hp⟩ := hp
    rw [reps_ints hb h2] at h1
    exact .inr ⟨a, bs, rfl, h1.sq, hl, fun m m1 m2 => k _ _ H (Same.refl H) (Rep.v_iff.mpr rfl) (hp m m1 m2)⟩
  · exact hp.elim
end
end G
namespace G
open PySem PySem.Spec L2
def keyD : Key → D
  | .inl i => .int i
  | .inr s => .str s
def valD (kvs : List (Key × D)) (k : Key) : Option D := (kvs.find? fun kv => decide (kv.1 = k)).map (·.2)
def dropD (kvs : List (Key × D)) (k : Key) : List (Key × D) := kvs.filter fun kv => decide (kv.1 ≠ k)
section
variable {K : KF} {F S S' : Reg} {H H' : Hp}
def KR (K : KF) (S : Reg) (H : Hp) (kvs : List (Key × D)) (vs : List (Key × V)) : Prop := vs.map (·.1) = kvs.map (·.1) ∧ Reps K S H (kvs.map (·.2)) (vs.map (·.2))
theorem KR.nil : KR K S H [] [] := ⟨rfl, Reps.nil⟩
theorem KR.cons_iff {k : Key} {d : D} {kvs : List (Key × D)} {vs : List (Key × V)} : KR K S H ((k, d) :: kvs) vs ↔ ∃ v r, vs = (k, v) :: r ∧ Rep K S H d v ∧ KR K S H kvs r := by
  constructor
  · rintro ⟨h1, h2⟩
    cases vs with
    | nil => cases h1
    | cons p r =>
      simp only [List.map_cons, List.cons.injEq] at h1
      obtain ⟨x, y, e, h3, h4⟩ := Reps.cons_iff.mp h2
      simp only [List.map_cons, List.cons.injEq] at e
      obtain ⟨k', v⟩ := p
      obtain ⟨rfl, rfl⟩ := e
      obtain ⟨rfl, h1⟩ := h1
      exact ⟨_, _, rfl, h3, h1, h4⟩
  · rintro ⟨v, r, rfl, h1, h2, h3⟩
    exact ⟨by rw [List.map_cons, List.map_cons, h2], Reps.cons h1 h3⟩
theorem KR.up (e : Stp F S H S' H') {kvs : List (Key × D)} {vs : List (Key × V)} (h : KR K S H kvs vs) : KR K S' H' kvs vs := ⟨h.1, h.2.up e⟩
theorem KR.len {kvs : List (Key × D)} {vs : List (Key × V)} (h : KR K S H kvs vs) : vs.length = kvs.length := by
  have := congrArg List.length h.1
  rwa [List.length_map, List.length_map] at this
theorem valD_cons {k k' : Key} {d : D} {r : List (Key × D)} : valD ((k', d) :: r) k = if k' = k then some d else valD r k := by
  unfold valD
  rw [List.find?_cons]
  by_cases h : k' = k
  · rw [if_pos h]; simp [h]
  · rw [if_neg h]; simp [h]
theorem valV_cons {k k' : Key} {d : V} {r : List (Key × V)} : valV ((k', d) :: r) k = if k' = k then some d else valV r k := by
  by_cases h : k' = k
  · rw [if_pos h]; exact valV_pos h
  · rw [if_neg h]; exact valV_neg h
theorem KR.val (k : Key) : ∀ {kvs : List (Key × D)} {vs : List (Key × V)}, KR K S H kvs vs → (∀ z, valD kvs k = some z → ∃ v, valV vs k = some v ∧ Rep K S H z v) ∧ (valD kvs k = none → valV vs k = none)
  | [], vs, h => by
    have : vs = [] := by
      have := h.len
      simpa using this
    subst this
    refine ⟨fun z e => ?_, fun _ => rfl⟩
    have e : none = some z := e
    cases e
  | (k', d) :: kvs, vs, h => by
    obtain ⟨v, r, rfl, h1, h2⟩ := KR.cons_iff.mp h
    obtain ⟨i1, i2⟩ := KR.val k h2
    rw [valD_cons, valV_cons]
    by_cases e : k' = k
    · rw [if_pos e, if_pos e]
      exact ⟨fun z q => by cases q; exact ⟨v, rfl, h1⟩, fun q => by cases q⟩
    · rw [if_neg e, if_neg e]
      exact ⟨i1, i2⟩
theorem KR.any (k : Key) : ∀ {kvs : List (Key × D)} {vs : List (Key × V)}, KR K S H kvs vs → (vs.any fun kv => decide (kv.1 = k)) = (kvs.any fun kv => decide (kv.1 = k))
  | [], vs, h => by
    have : vs = [] := by
      have := h.len
      simpa using this
    subst this
    rfl
  | (k', d) :: kvs, vs, h => by
    obtain ⟨v, r, rfl, h1, h2⟩ := KR.cons_iff.mp h
    rw [List.any_cons, List.any_cons, KR.any k h2]
theorem KR.append : ∀ {kvs kvs' : List (Key × D)} {vs vs' : List (Key × V)}, KR K S H kvs vs → KR K S H kvs' vs' → KR K S H (kvs ++ kvs') (vs ++ vs') := fun h h' =>
  ⟨by rw [List.map_append, List.map_append, h.1, h'.1], by rw [List.map_append, List.map_append]; exact h.2.append h'.2⟩
theorem KR.drop (k : Key) : ∀ {kvs : List (Key × D)} {vs : List (Key × V)}, KR K S H kvs vs → KR K S H (dropD kvs k) (dropK vs k)
  | [], vs, h => by
    have : vs = [] := by
      have := h.len
      simpa using this
    subst this
    exact KR.nil
  | (k', d') :: kvs, vs, h => by
    obtain ⟨v', r, rfl, h1, h2⟩ := KR.cons_iff.mp h
    unfold dropD dropK
    rw [List.filter_cons, List.filter_cons]
    by_cases e : k' = k
    · rw [if_neg (by simp [e]), if_neg (by simp [e])]
      exact KR.drop k h2
    · rw [if_pos (by simp [e]), if_pos (by simp [e])]
      exact KR.cons_iff.mpr ⟨v', _, rfl, h1, KR.drop k h2⟩
end
end G
namespace G
open PySem PySem.Spec L2 PyProof.Rows HT
section
variable {prog : Program} {w : World} {A : Around} {E : Value → Shared → Prop} {s : Shared}
theorem is_bool_gen {v : Value} {b : Bool} {Q : Value → Shared → Prop} (hv : ∀ p, v ≠ .builtin p) (h : Q (.bool (v == .bool b)) s) : wpAny (model prog w) A (compareOp .Is v (.bool b)) Q E s := by
  cases v <;> first | exact wpAny_pure h | exact absurd rfl (hv _)
theorem isnot_bool_gen {v : Value} {b : Bool} {Q : Value → Shared → Prop} (hv : ∀ p, v ≠ .builtin p) (h : Q (.bool (!(v == .bool b))) s) : wpAny (model prog w) A (compareOp .IsNot v (.bool b)) Q E s := by
  cases v <;> first | exact wpAny_pure h | exact absurd rfl (hv _)
end
section
variable {X : Cx}
/-- x is True -/
def rIsBA : R2 := fun x y H Q => ∃ b : Bool, y = .bl b ∧ Q (.bl (decide (x = .bl b))) H
def rNotBA : R2 := fun x y H Q => ∃ b : Bool, y = .bl b ∧ Q (.bl (!decide (x = .bl b))) H
theorem bool_at {x : V} {v : Value} (b : Bool) (r : RelV x v) : (∀ p, v ≠ .builtin p) ∧ (v == Value.bool b) = decide (x = .bl b) := by
  cases x with
  | bl a =>
    cases r
    refine ⟨fun p q => (by cases q), ?_⟩
    rw [Bool.eq_iff_iff, beq_iff_eq, decide_eq_true_eq]
    exact ⟨fun h => by injection h with h; rw [h], fun h => by injection h with h; rw [h]⟩
  | _ => first
    | (obtain ⟨t, rfl⟩ := r; exact ⟨fun p q => by (first | cases q | (simp at q)), by simp⟩)
    | (cases r; exact ⟨fun p q => by (first | cases q | (simp at q)), by simp⟩)
theorem op_isBA : OpR X (compareOp .Is) rIsBA := by
  intro pins s σ H x y v u Q I rx ry h
  obtain ⟨b, rfl, q⟩ := h
  cases (show u = Value.bool b from ry)
  obtain ⟨h1, h2⟩ := bool_at b rx
  exact is_bool_gen h1 ⟨.bl _, H, I, by rw [h2]; rfl, q⟩
theorem op_notBA : OpR X (compareOp .IsNot) rNotBA := by
  intro pins s σ H x y v u Q I rx ry h
  obtain ⟨b, rfl, q⟩ := h
  cases (show u = Value.bool b from ry)
  obtain ⟨h1, h2⟩ := bool_at b rx
  exact isnot_bool_gen h1 ⟨.bl _, H, I, by rw [h2]; rfl, q⟩
theorem op_isA : OpR X (compareOp .Is) (fun x y H Q => (y = .non ∧ Q (.bl (decide (x = .non))) H) ∨ rIsBA x y H Q) := OpR.or op_isN op_isBA
theorem op_notA : OpR X (compareOp .IsNot) (fun x y H Q => (y = .non ∧ Q (.bl (!decide (x = .non))) H) ∨ rNotBA x y H Q) := OpR.or op_notN op_notBA
def D.isV : D → V → Bool
  | .v x, y => decide (x = y)
  | _, _ => false
def dIsA : D → D → (D → Prop) → Prop := fun d e Q => match e with
  | .v .non => Q (.bl (d.isV .non))
  | .v (.bl b) => Q (.bl (d.isV (.bl b)))
  | _ => False
def dNotA : D → D → (D → Prop) → Prop := fun d e Q => match e with
  | .v .non => Q (.bl (!d.isV .non))
  | .v (.bl b) => Q (.bl (!d.isV (.bl b)))
  | _ => False
variable {K : KF}
theorem isV_rep {S : Reg} {H : Hp} {d : D} {x y : V} (r : Rep K S H d x) (hy : ∀ a, y ≠ .ref a) : decide (x = y) = d.isV y := by
  cases d with
  | v z => rw [Rep.v_iff.mp r]; rfl
  | tup ds => obtain ⟨a, _, rfl, _⟩ := Rep.tup_iff.mp r; exact decide_eq_false fun q => hy a q.symm
  | lst ds => obtain ⟨a, _, rfl, _⟩ := Rep.lst_iff.mp r; exact decide_eq_false fun q => hy a q.symm
  | scr ds => obtain ⟨a, rfl, _⟩ := Rep.scr_iff.mp r; exact decide_eq_false fun q => hy a q.symm
  | dct ks ds => obtain ⟨a, _, rfl, _⟩ := Rep.dct_iff.mp r; exact decide_eq_false fun q => hy a q.symm
  | exc c ks ds => obtain ⟨a, _, _, rfl, _⟩ := Rep.exc_iff.mp r; exact decide_eq_false fun q => hy a q.symm
  | dtt ks ds => obtain ⟨a, _, _, _, _, rfl, _⟩ := Rep.dtt_iff.mp r; exact decide_eq_false fun q => hy a q.symm
  | tpf ds => obtain ⟨a, _, _, rfl, _⟩ := Rep.tpf_iff.mp r; exact decide_eq_false fun q => hy a q.symm
theorem rs_isA : RSnd K (fun x y H Q => (y = .non ∧ Q (.bl (decide (x = .non))) H) ∨ rIsBA x y H Q) dIsA := fun F S H W d e x y P R cb rd re hp k => by
  unfold dIsA at hp
  split at hp
  · rw [Rep.v_iff] at re
    exact .inl ⟨re, k _ _ H (Same.refl H) (Rep.v_iff.mpr (by rw [isV_rep rd fun a q => by cases q])) hp⟩
  · rw [Rep.v_iff] at re
    exact .inr ⟨_, re, k _ _ H (Same.refl H) (Rep.v_iff.mpr (by rw [isV_rep rd fun a q => by cases q])) hp⟩
  · exact hp.elim
theorem rs_notA : RSnd K (fun x y H Q => (y = .non ∧ Q (.bl (!decide (x = .non))) H) ∨ rNotBA x y H Q) dNotA := fun F S H W d e x y P R cb rd re hp k => by
  unfold dNotA at hp
  split at hp
  · rw [Rep.v_iff] at re
    exact .inl ⟨re, k _ _ H (Same.refl H) (Rep.v_iff.mpr (by rw [isV_rep rd fun a q => by cases q])) hp⟩
  · rw [Rep.v_iff] at re
    exact .inr ⟨_, re, k _ _ H (Same.refl H) (Rep.v_iff.mpr (by rw [isV_rep rd fun a q => by cases q])) hp⟩
  · exact hp.elim
end
end G
namespace G
open PySem PySem.Spec L2
mutual
def wt : D → Nat
  | .v .non => 5
  | .v (.bl _) => 6
  | .v (.int i) => i.natAbs.log2 + 3
  | .v (.str s) => 10 * s.length + 2
  | .tup ds => wts ds + 5
  | .lst ds => wts ds + 5
  | _ => 0
def wts : List D → Nat
  | [] => 0
  | d :: ds => wt d + 2 + wts ds
end
theorem wts_mem : ∀ {ds : List D} {d : D}, d ∈ ds → wt d + 2 ≤ wts ds
  | e :: ds, d, h => by
    rw [wts]
    rcases List.mem_cons.mp h with rfl | h
    · omega
    · have := wts_mem h; omega
theorem wts_len : ∀ ds : List D, 2 * ds.length ≤ wts ds
  | [] => Nat.zero_le _
  | d :: ds => by rw [wts, List.length_cons]; have := wts_len ds; omega
theorem wts_sub : ∀ {a b : List D}, a.Sublist b → wts a ≤ wts b
  | _, _, .slnil => Nat.le_refl _
  | _, _, .cons x h => by rw [wts]; have := wts_sub h; omega
  | _, _, .cons₂ x h => by rw [wts, wts]; have := wts_sub h; omega
mutual
def iOk : D → Bool
  | .v (.int i) => decide (i.natAbs.log2 < 1920)
  | .tup ds => iOks ds
  | .lst ds => iOks ds
  | .scr _ => false
  | _ => true
def iOks : List D → Bool
  | [] => true
  | d :: ds => iOk d && iOks ds
end
theorem iOks_all : ∀ ds : List D, iOks ds = ds.all iOk
  | [] => rfl
  | d :: ds => by rw [iOks, List.all_cons, iOks_all ds]
theorem goods_all (n : Nat) : ∀ ds : List D, goods n ds = ds.all (D.good n)
  | [] => rfl
  | d :: ds => by rw [goods, List.all_cons, goods_all n ds]
mutual
theorem good_up : ∀ {n m : Nat} {d : D}, n ≤ m → D.good n d = true → D.good m d = true
  | _, _, .v .non, _, _ => by simp [D.good]
  | _, _, .v (.bl _), _, _ => by simp [D.good]
  | _, _, .v (.int _), _, _ => by simp [D.good]
  | _, _, .v (.str b), _, g => by rw [D.good] at g ⊢; exact g
  | _, _, .v (.byt _), _, h => by simp [D.good] at h
  | _, _, .v (.flt _), _, h => by simp [D.good] at h
  | _, _, .v (.ref _), _, h => by simp [D.good] at h
  | _, _, .v (.ty _), _, h => by simp [D.good] at h
  | 0, _, .tup _, _, h => by simp [D.good] at h
  | 0, _, .lst _, _, h => by simp [D.good] at h
  | 0, _, .scr _, _, h => by simp [D.good] at h
  | 0, _, .dct _ _, _, h => by simp [D.good] at h
  | _ + 1, _, .dct _ _, _, h => by simp [D.good] at h
  | 0, _, .exc _ _ _, _, h => by simp [D.good] at h
  | 0, _, .dtt _ _, _, h => by simp [D.good] at h
  | _ + 1, _, .exc _ _ _, _, h => by simp [D.good] at h
  | _ + 1, _, .dtt _ _, _, h => by simp [D.good] at h
  | 0, _, .tpf _, _, h => by simp [D.good] at h
  | _ + 1, _, .tpf _, _, h => by simp [D.good] at h
  | n + 1, 0, _, l, _ => absurd l (by omega)
  | n + 1, m + 1, .tup ds, l, g => by
    rw [D.good] at g ⊢
    exact goods_up (by omega) g
  | n + 1, m + 1, .lst ds, l, g => by
    rw [D.good] at g ⊢
    exact goods_up (by omega) g
  | n + 1, m + 1, .scr _, _, _ => by simp [D.good]
theorem goods_up : ∀ {n m : Nat} {ds : List D}, n ≤ m → goods n ds = true → goods m ds = true
  | _, _, [], _, _ => by simp [goods]
  | n, m, d :: ds, l, g => by
    rw [goods, Bool.and_eq_true] at g ⊢
    exact ⟨good_up l g.1, goods_up l g.2⟩
end
/-- data of this depth and weight at most -/
structure Nice (n B : Nat) (d : D) : Prop where
  good : D.good n d = true
  ok : iOk d = true
  le : wt d ≤ B
structure NiceL (n B : Nat) (ds : List D) : Prop where
  good : goods n ds = true
  ok : iOks ds = true
  le : wts ds ≤ B
theorem Nice.up {n B m C : Nat} {d : D} (h : Nice n B d) (h1 : n ≤ m) (h2 : B ≤ C) : Nice m C d := ⟨good_up h1 h.good, h.ok, Nat.le_trans h.le h2⟩
theorem NiceL.up {n B m C : Nat} {d : List D} (h : NiceL n B d) (h1 : n ≤ m) (h2 : B ≤ C) : NiceL m C d := ⟨goods_up h1 h.good, h.ok, Nat.le_trans h.le h2⟩
theorem NiceL.nil {n B : Nat} : NiceL n B [] := ⟨rfl, rfl, Nat.zero_le _⟩
theorem NiceL.cons {n B C : Nat} {d : D} {ds : List D} (h : Nice n B d) (t : NiceL n C ds) : NiceL n (B + 2 + C) (d :: ds) := by
  refine ⟨?_, ?_, ?_⟩
  · rw [goods, h.good, t.good]; rfl
  · rw [iOks, h.ok, t.ok]; rfl
  · rw [wts]; have := h.le; have := t.le; omega
theorem NiceL.mem {n B : Nat} {ds : List D} {d : D} (h : NiceL n B ds) (hd : d ∈ ds) : Nice n B d := by
  refine ⟨?_, ?_, ?_⟩
  · have := h.good; rw [goods_all, List.all_eq_true] at this; exact this d hd
  · have := h.ok; rw [iOks_all, List.all_eq_true] at this; exact this d hd
  · have := wts_mem hd; have := h.le; omega
theorem NiceL.of {n B : Nat} {ds : List D} {C : Nat} (h : ∀ d ∈ ds, Nice n B d) (hc : ds.length * (B + 2) ≤ C) : NiceL n C ds := by
  induction ds generalizing C with
  | nil => exact .nil
  | cons d ds ih =>
    rw [List.length_cons, Nat.add_mul, Nat.one_mul] at hc
    have a := h d List.mem_cons_self
    have b := ih (C := ds.length * (B + 2)) (fun x hx => h x (List.mem_cons_of_mem _ hx)) (Nat.le_refl _)
    exact (NiceL.cons a b).up (Nat.le_refl _) (by omega)
theorem NiceL.sub {n B : Nat} {a b : List D} (h : NiceL n B b) (s : a.Sublist b) : NiceL n B a := by
  refine ⟨?_, ?_, Nat.le_trans (wts_sub s) h.le⟩
  · have := h.good; rw [goods_all, List.all_eq_true] at this ⊢; exact fun d hd => this d (s.subset hd)
  · have := h.ok; rw [iOks_all, List.all_eq_true] at this ⊢; exact fun d hd => this d (s.subset hd)
theorem NiceL.len {n B : Nat} {ds : List D} (h : NiceL n B ds) : 2 * ds.length ≤ B := Nat.le_trans (wts_len ds) h.le
theorem Nice.tup {n B : Nat} {ds : List D} (h : NiceL n B ds) : Nice (n + 1) (B + 5) (.tup ds) := ⟨by rw [D.good]; exact h.good, by rw [iOk]; exact h.ok, by rw [G.wt]; have := h.le; omega⟩
theorem Nice.lst {n B : Nat} {ds : List D} (h : NiceL n B ds) : Nice (n + 1) (B + 5) (.lst ds) := ⟨by rw [D.good]; exact h.good, by rw [iOk]; exact h.ok, by rw [G.wt]; have := h.le; omega⟩
theorem Nice.str {n B : Nat} {s : Str} (h : PyData.strOk s = true) (hB : 10 * s.length + 2 ≤ B) : Nice n B (.str s) := ⟨by rw [D.good]; exact h, rfl, by rw [G.wt]; exact hB⟩
theorem Nice.int {n B : Nat} {i : Int} (h : i.natAbs.log2 + 3 ≤ B) (hi : i.natAbs.log2 < 1920) : Nice n B (.int i) := ⟨by simp [D.good], by rw [iOk, decide_eq_true_eq]; exact hi, by rw [G.wt]; exact h⟩
theorem Nice.bl {n B : Nat} {b : Bool} (h : 6 ≤ B) : Nice n B (.bl b) := ⟨by simp [D.good], rfl, by rw [G.wt]; exact h⟩
theorem Nice.non {n B : Nat} (h : 5 ≤ B) : Nice n B .non := ⟨by simp [D.good], rfl, by rw [G.wt]; exact h⟩
end G
namespace G
open PySem PySem.Spec L2
section
variable {X : Cx} {Wx : WX} {e : Expr} {fe : TD} {pos : Pos}
def dCatO (k : Nat) (fe : TD) : TL := fun ρ W Q Qx => (∃ ds, ρ[k]? = some (some (.ol ds))) ∧ fe ρ W (fun d ρ' W' => match ρ'[k]?, d with
  | some (some (.om (.lst ds))), .lst xs => ds.length + xs.length ≤ sizeLine ∧ Q (ds ++ xs) ρ' W'
  | _, _ => False) Qx
theorem gn_catO (k : Nat) {x : Str} {px : Pos} (he : GE X Wx e fe) (hN : X.N[k]? = some x := by rfl) (hv : Vis X.env.scope x := by first | exact Or.inl rfl | exact Or.inr (Or.inl rfl) | exact Or.inr (Or.inr rfl)) (hd : (x == ("__debug__" : Str)) = false := by decide) (hcd : (x == ("__classdict__" : Str)) = false := by decide) :
    GN X Wx (.BinOp (.Name x px) .Add e pos) (dCatO k fe) := by
  obtain ⟨te, pe, se⟩ := he
  refine ⟨_, pe_op op_cat (pe_var hN hv hd hcd) pe, fun F S H σ ρ W Q Qx R cf hf hx hE => ?_⟩
  obtain ⟨⟨ds0, h0⟩, hf⟩ := hf
  obtain ⟨p, xs0, hp, _⟩ := cf.ol k ds0 h0
  refine ⟨_, hp, ?_⟩
  refine se F S H σ ρ W _ Qx _ cf hf hx fun S2 H2 ρ2 W2 d2 v2 e2 c2 r2 q2 => ?_
  split at q2
  · rename_i ds xs hk
    obtain ⟨p', ys, hp', h2, h3, _⟩ := c2.ol k ds hk
    rw [hp] at hp'; cases hp'
    obtain ⟨b, zs, rfl, h4, h5⟩ := Rep.lst_iff.mp r2
    exact ⟨p, b, ys, zs, rfl, rfl, h2, h4.1, by rw [h3.length, h5.length]; exact q2.1, fun p' hn => hE S2 H2 ρ2 W2 (ds ++ xs) (ys ++ zs) p' e2 c2 (h3.append h5) hn q2.2⟩
  · exact q2.elim
end
section
variable {X : Cx} {Wx : WX} {e : Expr} {fe : TD} {pos : Pos} {neg : Bool}
def dInO (neg : Bool) (fe : TD) (k : Nat) : TD := fun ρ W Q Qx => fe ρ W (fun d ρ' W' => match ρ'[k]?, d with
  | some (some (.om (.lst ds))), .v x => ∃ vs, flatOf ds = some vs ∧ flatV x = true ∧ vs.all flatV = true ∧ Q (.bl (if neg then !inV x vs else inV x vs)) ρ' W'
  | _, _ => False) Qx
theorem snd_inO (k : Nat) {K : KF} {te : TE} (se : Snd K Wx te fe) : Snd K Wx (tOp (rIn K neg) te (tVar k)) (dInO neg fe k) := by
  intro F S H σ ρ W Q Qx R cf hf hx hE
  refine se F S H σ ρ W _ Qx _ cf hf hx fun S2 H2 ρ2 W2 d2 v2 e2 c2 r2 q2 => ?_
  split at q2
  · rename_i ds x hk
    obtain ⟨p, ys, hp, h2, h3, _⟩ := c2.ol k ds hk
    obtain ⟨vs, f1, f2, f3, q⟩ := q2
    cases Rep.v_iff.mp r2
    rw [reps_flat f1 h3] at h2
    exact ⟨_, hp, p, vs, rfl, .inl (SqL.of h2), f2, f3, hE S2 H2 ρ2 W2 _ _ e2 c2 (Rep.v_iff.mpr rfl) q⟩
  · exact q2.elim
theorem gt_inO (k : Nat) {x : Str} {px : Pos} (he : GE X Wx e fe) (hN : X.N[k]? = some x := by rfl) (hv : Vis X.env.scope x := by first | exact Or.inl rfl | exact Or.inr (Or.inl rfl) | exact Or.inr (Or.inr rfl)) (hd : (x == ("__debug__" : Str)) = false := by decide) (hcd : (x == ("__classdict__" : Str)) = false := by decide) :
    GT X Wx (.Compare e [.In] [.Name x px] pos) (dBool (dInO false fe k)) := by
  obtain ⟨te, pe, se⟩ := he
  exact ⟨_, pt_cmpR op_in_seq pe (pe_var hN hv hd hcd) rfl, snd_tB (snd_inO k se)⟩
end
end G
namespace G
open PySem PySem.Spec L2
/-- the weakest reading over the heap that a reading over data allows -/
def tOf (K : KF) (Wx : WX) (f : TSD) : TS := fun D σ H => ∃ F S ρ W De, Cf K F S H σ ρ W ∧ f De ρ W ∧ Lnk K Wx F S H De D
theorem pss_tOf {X : Cx} {Wx : WX} {st : List Stmt} {f : TSD} (h : GSs X Wx st f) : PSs X st (tOf (kf X) Wx f) := by
  obtain ⟨t, pt, sg⟩ := h
  refine ⟨fun pins s σ H D I q => ?_⟩
  obtain ⟨F, S, ρ, W, De, cf, hf, l⟩ := q
  exact pt.run pins s σ H D I (sg F S H σ ρ W De D cf hf l)
def WXno : WX := fun _ _ _ _ => False
end G
namespace G
open PySem PySem.Spec L2
end G
namespace G
open PySem PySem.Spec L2
abbrev HdT := Value × Option Nat × (Addr → Value → Option Addr → TS)
inductive HdA (X : Cx) : List ExceptHandler → List HdT → Prop
  | nil : HdA X [] []
  | bare {x : Str} {c : Value} {ts : Addr → Value → Option Addr → TS} {b₀ : Stmt} {suite : List Stmt} {np pos' : Pos} {hds : List ExceptHandler} {l : List HdT} (hc : Names X x c)
      (hsu : ∀ (a : Addr) (cls : Value) (d : Option Addr) (pn : List (Addr × Obj)), PSs (X.suite a pn) (b₀ :: suite) (ts a cls d)) (r : HdA X hds l) : HdA X (.ExceptHandler (some (.Name x np)) none (b₀ :: suite) pos' :: hds) ((c, none, ts) :: l)
  | named {x n : Str} {i : Nat} {c : Value} {ts : Addr → Value → Option Addr → TS} {b₀ : Stmt} {suite : List Stmt} {np pos' : Pos} {hds : List ExceptHandler} {l : List HdT} (hc : Names X x c) (hN : X.N.Nodup) (hi : X.N[i]? = some n) (hln : X.env.kindOf n = some .local)
      (hsu : ∀ (a : Addr) (cls : Value) (d : Option Addr) (pn : List (Addr × Obj)), PSs (X.suite a pn) (b₀ :: suite) (ts a cls d)) (r : HdA X hds l) : HdA X (.ExceptHandler (some (.Name x np)) (some n) (b₀ :: suite) pos' :: hds) ((c, some i, ts) :: l)
structure HA where
  cls : Value
  yes : List Value
  no : List Value
  as : Option Nat
  body : TSD
inductive HdG (X : Cx) : List ExceptHandler → List HA → Prop
  | nil : HdG X [] []
  | bare {x : Str} {c : Value} {y n : List Value} {f : TSD} {b₀ : Stmt} {suite : List Stmt} {np pos' : Pos} {hds : List ExceptHandler} {l : List HA} (hc : Names X x c) (hy : ∀ v ∈ y, PySem.W.exmOne X.K v c = some true) (hn : ∀ v ∈ n, PySem.W.exmOne X.K v c = some false)
      (hsu : ∀ (a : Addr) (pn : List (Addr × Obj)), GSs (X.suite a pn) WXno (b₀ :: suite) f) (r : HdG X hds l) : HdG X (.ExceptHandler (some (.Name x np)) none (b₀ :: suite) pos' :: hds) (⟨c, y, n, none, f⟩ :: l)
  | named {x m : Str} {i : Nat} {c : Value} {y n : List Value} {f : TSD} {b₀ : Stmt} {suite : List Stmt} {np pos' : Pos} {hds : List ExceptHandler} {l : List HA} (hc : Names X x c) (hN : X.N.Nodup) (hi : X.N[i]? = some m) (hln : X.env.kindOf m = some .local)
      (hy : ∀ v ∈ y, PySem.W.exmOne X.K v c = some true) (hn : ∀ v ∈ n, PySem.W.exmOne X.K v c = some false)
      (hsu : ∀ (a : Addr) (pn : List (Addr × Obj)), GSs (X.suite a pn) WXno (b₀ :: suite) f) (r : HdG X hds l) : HdG X (.ExceptHandler (some (.Name x np)) (some m) (b₀ :: suite) pos' :: hds) (⟨c, y, n, some i, f⟩ :: l)
section
variable {X : Cx} {Wx : WX} {body : List Stmt} {h₀ : ExceptHandler} {hds : List ExceptHandler} {l : List HA} {pos : Pos} {f : TSD}
def hdT (K : KF) (h : HA) : HdT := (h.cls, h.as, fun _ _ _ => tOf K WXno h.body)
theorem HdG.ok {hds : List ExceptHandler} {l : List HA} (h : HdG X hds l) : HdA X hds (l.map (hdT (kf X))) := by
  induction h with
  | nil => exact .nil
  | bare hc hy hn hsu r ih => exact .bare hc (fun a cls d pn => pss_tOf (hsu a _)) ih
  | named hc hN hi hln hy hn hsu r ih => exact .named hc hN hi hln (fun a cls d pn => pss_tOf (hsu a _)) ih
end
end G
namespace G
open PySem PySem.Spec L2
def pairD (kv : Key × D) : D := .tup [keyD kv.1, kv.2]
end G
namespace G
open PySem PySem.Spec L2 Builtin
def OkS (s : Str) : Prop := ∀ c ∈ s.cps.toList, c < 0x110000
theorem okS_iff {s : Str} : PyData.strOk s = true ↔ OkS s := by
  unfold PyData.strOk OkS
  rw [Array.all_eq_true_iff_forall_mem]
  exact ⟨fun h c hc => of_decide_eq_true (h c (by simpa using hc)), fun h c hc => decide_eq_true (h c (by simpa using hc))⟩
end G
namespace G
open PySem PySem.Spec L2
instance memDec (k : Key) (l : List Key) : Decidable (k ∈ l) := @List.instDecidableMemOfLawfulBEq Key instBEqOfDecidableEq inferInstance k l
end G
namespace G
open PySem PySem.Spec L2
end G
namespace G
open PySem PySem.Spec L2
section
variable {X : Cx} {Wx : WX} {a : Expr} {fa : TD} {p p2 q pos : Pos}
structure TupAt (K : PySem.W.Frag) (mg : Str → Option Value) (x : Str) (xs : List V) : Prop where
  at' : ∃ c, mg x = some (.ref c) ∧ SqT K emp c xs
theorem tupAt_mk {K : PySem.W.Frag} {mg : Str → Option Value} {x : Str} {xs : List V} {c : Addr} {dd : Option Addr} {its : Array Value} {n : Nat} {sl : Array (Option Value)} (h : mg x = some (.ref c)) (l : K.lookup c = some ⟨.type "tuple", dd, .seq its n, sl⟩) (r : Vals xs its.toList) (z : its.size ≤ 16777216) : TupAt K mg x xs :=
  ⟨c, h, .inr ⟨_, its, n, l, rfl, rfl, z, r⟩⟩
def dCD (d : D) : TD := fun ρ W Q _ => Q d ρ W
theorem ge_tc {x : Str} {xs : List V} {px : Pos} (h : TupAt X.K X.mg x xs) (hg : Gl X x := by rfl) (hd : (x == ("__debug__" : Str)) = false := by decide) : GE X Wx (.Name x px) (dCD (.tup (xs.map D.v))) := by
  obtain ⟨c, h1, h2⟩ := h.at'
  exact ⟨_, pe_glob (v := .ref c) hg h1 rfl hd, fun F S H σ ρ W Q Qx R cf hf _ hE => hE S H ρ W _ _ .refl cf (Rep.tup_iff.mpr ⟨c, xs, rfl, .inr (.inl h2), Reps.map_v xs⟩) hf⟩
end
end G
namespace G
open PySem PySem.Spec L2
def rInN (K : KF) (neg : Bool) : R2 := fun x y H Q => ∃ (d : PyData) (xs : List PyData), Dp K H x d ∧ (Dp K H y (.list xs) ∨ Dp K H y (.tuple xs)) ∧ PyData.canLayAll0 xs = true ∧ d.canLay0 = true ∧ d.depth ≤ 62 ∧ Q (.bl (if neg then !xs.any fun z => PyData.eqv z d else xs.any fun z => PyData.eqv z d)) H
theorem room_n {A : Around} {xs : List PyData} {d : PyData} (h : d.depth ≤ 62) (hu : A.units + 64 < cLine) : A.units + 1 + min (PyData.depthAll xs) d.depth < cLine := by
  have := Nat.min_le_right (PyData.depthAll xs) d.depth
  omega
theorem op_inN {X : Cx} (hu : X.A.units + 64 < cLine) : OpR X (compareOp .In) (rInN (kf X) false) := by
  intro pins s σ H x y v u Q I rx ry h
  obtain ⟨d, xs, hd, he, c1, c2, dp, q⟩ := h
  obtain ⟨as, r1⟩ := Dp.reads I d x v hd rx
  rcases he with he | he
  · obtain ⟨bs, r2⟩ := Dp.reads I (.list xs) y u he ry
    exact SeqAt.in_list_reads r2 r1 c1 c2 (room_n dp hu) ⟨.bl _, H, I, rfl, q⟩
  · obtain ⟨bs, r2⟩ := Dp.reads I (.tuple xs) y u he ry
    exact SeqAt.in_tuple_reads r2 r1 c1 c2 (room_n dp hu) ⟨.bl _, H, I, rfl, q⟩
theorem op_niN {X : Cx} (hu : X.A.units + 64 < cLine) : OpR X (compareOp .NotIn) (rInN (kf X) true) := by
  intro pins s σ H x y v u Q I rx ry h
  obtain ⟨d, xs, hd, he, c1, c2, dp, q⟩ := h
  obtain ⟨as, r1⟩ := Dp.reads I d x v hd rx
  rcases he with he | he
  · obtain ⟨bs, r2⟩ := Dp.reads I (.list xs) y u he ry
    exact SeqAt.notIn_list_reads r2 r1 c1 c2 (room_n dp hu) ⟨.bl _, H, I, rfl, q⟩
  · obtain ⟨bs, r2⟩ := Dp.reads I (.tuple xs) y u he ry
    exact SeqAt.notIn_tuple_reads r2 r1 c1 c2 (room_n dp hu) ⟨.bl _, H, I, rfl, q⟩
def dInN (neg : Bool) : D → D → (D → Prop) → Prop := fun d e Q => ∃ ys, (e = .lst ys ∨ e = .tup ys) ∧ D.good 62 d = true ∧ goods 62 ys = true ∧ Q (.bl (if neg then !ys.any fun z => eqD z d else ys.any fun z => eqD z d))
theorem pys_map : ∀ ds : List D, pys ds = ds.map D.py
  | [] => by rw [pys]; rfl
  | d :: ds => by rw [pys, pys_map ds]; rfl
theorem any_py (ys : List D) (d : D) : ((pys ys).any fun z => PyData.eqv z d.py) = ys.any fun z => eqD z d := by
  rw [pys_map, List.any_map]; rfl
theorem rs_inN {K : KF} {neg : Bool} : RSnd K (rInN K neg) (dInN neg) := fun F S H W d e x y P R cb rd re hp k => by
  obtain ⟨ys, he, g1, g2, q⟩ := hp
  refine ⟨d.py, pys ys, dp_of (n := 62) g1 rd, ?_, (lays_of g2).1, (lay_of g1).1, (lay_of g1).2, k _ _ H (Same.refl H) (Rep.v_iff.mpr rfl) ?_⟩
  · rcases he with rfl | rfl
    · exact .inl (by have := dp_of (n := 63) (d := .lst ys) (by rw [D.good]; exact g2) re; rwa [D.py] at this)
    · exact .inr (by have := dp_of (n := 63) (d := .tup ys) (by rw [D.good]; exact g2) re; rwa [D.py] at this)
  · rw [any_py]; exact q
/-- flat, or of any depth -/
def dInB (neg : Bool) : D → D → (D → Prop) → Prop := fun d e Q => dIn neg d e Q ∨ dInN neg d e Q
def rInB (K : KF) (neg : Bool) : R2 := fun x y H Q => rInA K neg x y H Q ∨ rInN K neg x y H Q
theorem rs_inB {K : KF} {neg : Bool} : RSnd K (rInB K neg) (dInB neg) := rs_or rs_in rs_inN
theorem op_inB {X : Cx} (hu : X.A.units + 64 < cLine) : OpR X (compareOp .In) (rInB (kf X) false) := op_inA.or (op_inN hu)
theorem op_niB {X : Cx} (hu : X.A.units + 64 < cLine) : OpR X (compareOp .NotIn) (rInB (kf X) true) := op_niA.or (op_niN hu)
end G
namespace G
open PySem PySem.Spec L2
end G
namespace G
open PySem PySem.Spec L2
section
variable {X : Cx} {Wx : WX} {o e value : Expr} {es : List Expr} {f m qual x : Str} {C : Addr} {pos pos' tpos apos p : Pos} {fo fe : TD} {fl : TL}
structure MCal (P : Program) (w : World) (K : PySem.W.Frag) (mg : Str → Option Value) (base : Heap) (k : Nat) (C : Addr) (m qual : Str) (st : Stmt) (ps : List Str) (sp : SpD) : Prop where
  c : Cls K C
  ex : ∃ f fd, Meth K C m f ∧ Fun K m qual st f fd ∧ Binds K fd ps [] ∧ FnG P w K mg base k f fd ps (toSp ⟨K, w⟩ ps.length sp)
end
section
variable {P : Program} {w : World} {K : PySem.W.Frag} {mg : Str → Option Value} {base : Heap} {k j : Nat} {C : Addr} {m qual : Str} {st : Stmt} {ps : List Str} {sp sp' : SpD}
theorem MCal.imp (c : MCal P w K mg base k C m qual st ps sp) (h : ∀ ds W Q Qx, sp' ds W Q Qx → sp ds W Q Qx) : MCal P w K mg base k C m qual st ps sp' := by
  obtain ⟨c0, f, fd, a, b, c, d⟩ := c
  exact ⟨c0, f, fd, a, b, c, d.imp (toSp_imp h _ _ _ _)⟩
theorem MCal.mono (c : MCal P w K mg base k C m qual st ps sp) (h : k ≤ j) : MCal P w K mg base j C m qual st ps sp := by
  obtain ⟨c0, f, fd, a, b, c, d⟩ := c
  exact ⟨c0, f, fd, a, b, c, d.mono h⟩
end
end G
namespace G
open PySem PySem.Spec L2
theorem Rm.in1 {k : Nat} {A : Around} (r : Rm (k + 1) A) : Rm k A.in1 := ⟨r.toRoom.in1, r.gd⟩
end G
namespace G
open PySem PySem.Spec L2
end G
namespace G
open PySem PySem.Spec L2
end G
namespace G
open PySem PySem.Spec L2
open PyProof.Rows (seqObj SortSt arrOf failedOf)
theorem each_vals {α : Type} {f : α → V} : ∀ {us : List Value} {bs : List α}, PySem.W.EachIs (fun v b => RelV (f b) v) us bs → Vals (bs.map f) us
  | _, _, .nil => .nil
  | _, _, .cons h t => .cons h (each_vals t)
theorem vals_each {α : Type} {f : α → V} : ∀ {us : List Value} {bs : List α}, Vals (bs.map f) us → PySem.W.EachIs (fun v b => RelV (f b) v) us bs
  | _, [], .nil => .nil
  | _, _ :: _, .cons h t => .cons h (vals_each t)
section
variable {X : Cx} {pins : List (Addr × Obj)} {σ : St} {B : Around} {E : Value → Shared → Prop} {R : PySem.Fin → Shared → Prop}
/-- an address that is aside may turn -/
structure Aside (X : Cx) (pins : List (Addr × Obj)) (b : Addr) : Prop where
  nl : b ≠ X.env.locals
  nf : b ∉ X.fs
  yg : b ∈ X.ex ∨ X.s_0.heap.objs.size ≤ b
  nc : ∀ x c, X.env.cells.lookup x = some c → c ≠ b
  np : ∀ p ∈ X.pn ++ pins, p.1 ≠ b
theorem Aside.cons {b : Addr} (f : Aside X pins b) {p : Addr × Obj} (h : p.1 ≠ b) : Aside X (p :: pins) b := ⟨f.nl, f.nf, f.yg, f.nc, fun q hq => by
  rcases List.mem_append.mp hq with hq | hq
  · exact f.np q (List.mem_append_left _ hq)
  · rcases List.mem_cons.mp hq with rfl | hq
    · exact h
    · exact f.np q (List.mem_append_right _ hq)⟩
end
section
variable {X : Cx} {Wx : WX} {e : Expr} {fe : TD} {p pos : Pos} {k j : Nat} {x f : Str} {st : Stmt} {ps : List Str} {sp : SpD}
theorem zip_fst {α β : Type} : ∀ {l : List α} {m : List β}, l.length = m.length → (l.zip m).map Prod.fst = l
  | [], _, _ => by simp
  | a :: l, [], h => by simp at h
  | a :: l, b :: m, h => by rw [List.zip_cons_cons, List.map_cons, zip_fst (by simpa using h)]
theorem zip_snd {α β : Type} : ∀ {l : List α} {m : List β}, l.length = m.length → (l.zip m).map Prod.snd = m
  | [], [], _ => rfl
  | [], _ :: _, h => by simp at h
  | a :: l, [], h => by simp at h
  | a :: l, b :: m, h => by rw [List.zip_cons_cons, List.map_cons, zip_snd (by simpa using h)]
theorem reps_zip_all {K : KF} {S : Reg} {H : Hp} : ∀ {ds : List D} {xs : List V}, Reps K S H ds xs → ∀ b ∈ xs.zip ds, Rep K S H b.2 b.1
  | [], _, h, b, hb => by rw [List.zip_nil_right] at hb; cases hb
  | d :: ds, _, h, b, hb => by
    obtain ⟨x, r, rfl, h1, h2⟩ := Reps.cons_iff.mp h
    rcases List.mem_cons.mp hb with rfl | hb
    · exact h1
    · exact reps_zip_all h2 b hb
theorem reps_of_pairs {K : KF} {S : Reg} {H : Hp} : ∀ {bs : List (V × D)}, (∀ b ∈ bs, Rep K S H b.2 b.1) → Reps K S H (bs.map Prod.snd) (bs.map Prod.fst)
  | [], _ => Reps.nil
  | b :: bs, h => Reps.cons (h b List.mem_cons_self) (reps_of_pairs fun c hc => h c (List.mem_cons_of_mem _ hc))
end
end G
namespace G
open PySem PySem.Spec L2
def rSortA (K : KF) : List V → Hp → VK → Prop := fun xs H Q => ∃ (a : Addr) (bs : List (V × PyData)), xs = [.ref a] ∧ SqL K H a (bs.map Prod.fst) ∧ (∀ b ∈ bs, Dp K H b.1 b.2) ∧ PySem.W.AllAlike (bs.map Prod.snd) ∧ PySem.W.Sortable (bs.map Prod.snd) ∧ (∀ b ∈ bs, b.2.depth ≤ 62) ∧
  ∀ p, H p = none → Q (.ref p) (upd H p (.lst ((bs.mergeSort (PySem.W.dataLe false Prod.snd)).map Prod.fst)))
section
variable {X : Cx}
theorem cr_sortA (hu : X.A.units + 66 < cLine) : CallR X (.builtin "sorted") (rSortA (kf X)) := by
  intro pins s σ H vs us Q I r h
  obtain ⟨a, bs, rfl, hs, hd, hal, hso, hdep, q⟩ := h
  obtain ⟨its, rv, hl, hz⟩ := I.list hs
  rw [Vals.ref1 r]
  have hlen : bs.length = its.length := by have := rv.length; rwa [List.length_map] at this
  have zl : its.length ≤ sizeLine := by rw [← hlen]; simpa using hz
  have I2 : Inv X pins σ H { s with heap := PySem.W.sortingHeap (PySem.W.copyHeap s.heap its) (s.heap.objs.size + 1) its, toks := s.toks } := I.kept fun b o z => PySem.W.sorting_copy_old z
  have hk : PySem.W.EachIs (fun v d => ∃ as, PySem.Reads (PySem.W.sortingHeap (PySem.W.copyHeap s.heap its) (s.heap.objs.size + 1) its) v d as) its (bs.map Prod.snd) := by
    refine PySem.W.EachIs.of_zip (by rw [List.length_map, hlen]) fun p hp => ?_
    obtain ⟨i, hi, rfl⟩ := List.getElem_of_mem hp
    rw [List.length_zip, List.length_map] at hi
    obtain ⟨b, hb⟩ : ∃ b, bs[i]? = some b := ⟨_, List.getElem?_eq_getElem (by omega)⟩
    obtain ⟨u, hu', ru⟩ := rv.get (i := i) (x := b.1) (by rw [List.getElem?_map, hb]; rfl)
    have e1 : (its.zip (bs.map Prod.snd))[i]? = some (u, b.2) := by
      rw [List.getElem?_zip_eq_some]
      exact ⟨hu', by rw [List.getElem?_map, hb]; rfl⟩
    obtain ⟨_, e2⟩ := List.getElem?_eq_some_iff.mp e1
    rw [e2]
    exact Dp.reads I2 b.2 b.1 u (hd b (List.mem_of_getElem? hb)) ru
  have S := PySem.W.SortsAt.data (prog := X.prog) (w := X.w) (A := X.A.in1.in1) (s := { s with heap := PySem.W.sortingHeap (PySem.W.copyHeap s.heap its) (s.heap.objs.size + 1) its, toks := s.toks }) hk hal hso fun d hd' => by
    rw [List.mem_map] at hd'
    obtain ⟨b, m, rfl⟩ := hd'
    have := hdep b m
    show X.A.units + 1 + 1 + _ < _
    omega
  refine PySem.W.sorted_vals hl.isList S zl ?_
  obtain ⟨ep, he'⟩ := PyProof.Rows.sortedAll_at s.heap its (PySem.W.sortVals (PySem.W.dataKind (PySem.W.sortingHeap (PySem.W.copyHeap s.heap its) (s.heap.objs.size + 1) its) (bs.map Prod.snd)) false its its).toArray
  have ev := PySem.W.keyedOut_each (rev := false) (R := fun v (b : V × PyData) => RelV b.1 v) (bs := bs) Prod.snd ⟨_, its, hal, rfl, hk⟩ (vals_each rv)
  have vo := each_vals ev
  have ol : ((bs.mergeSort (PySem.W.dataLe false Prod.snd)).map Prod.fst).length ≤ sizeLine := by
    rw [List.length_map, List.length_mergeSort, hlen]; exact zl
  exact ⟨.ref _, _, I.laid (t' := s.toks) (a := s.heap.objs.size + 1) (o := .lst ((bs.mergeSort (PySem.W.dataLe false Prod.snd)).map Prod.fst)) (fun _ _ => PyProof.Rows.sortedAll_old) (Nat.le_succ _) ⟨ol, _, ep, vo, he'⟩, rfl, q _ (I.hok.fresh (Nat.le_succ _))⟩
end
abbrev srt (ds : List D) : List D := ds.mergeSort (PySem.W.dataLe false D.py)
def dSortA (fe : TD) : TL := fun ρ W Q Qx => fe ρ W (fun d ρ' W' => match d with
  | .lst ds => (∀ x ∈ ds, D.good 60 x = true) ∧ PySem.W.AllAlike (ds.map D.py) ∧ PySem.W.Sortable (ds.map D.py) ∧ Q (srt ds) ρ' W'
  | _ => False) Qx
section
variable {X : Cx} {Wx : WX} {e : Expr} {fe : TD} {pos : Pos}
theorem gn_sortA (hu : X.A.units + 66 < cLine) {x : Str} {p : Pos} (hg : Gl X x) (hm : X.mg x = none) (hv : bootBuiltins x = some (.builtin "sorted")) (ha : GE X Wx e fe) (hn : x ≠ "__name__" := by decide) (hdb : (x == ("__debug__" : Str)) = false := by decide)
    (he : starEach [e] X.env = (false, eval e X.env) :: starEach [] X.env := by rfl) (hpl : (backTo pos (starEach [] X.env)).any (·.1) = false := by rfl) : GN X Wx (.Call (.Name x p) [e] [] pos) (dSortA fe) := by
  obtain ⟨te, pe, se⟩ := ha
  refine ⟨_, pe_callB (cr_sortA hu) hg hm hv (pa_cons pe pa_nil he) hn hdb he hpl, fun F S H σ ρ W Q Qx R cf hf hx hE => ?_⟩
  refine se F S H σ ρ W _ Qx _ cf hf hx fun S' H' ρ' W' d v e' c r q => ?_
  split at q
  · rename_i ds
    obtain ⟨a, xs, rfl, ha, hr⟩ := Rep.lst_iff.mp r
    obtain ⟨hg1, hal, hso, q⟩ := q
    have hxl := hr.length
    have e1 : (xs.zip (ds.map D.py)).map Prod.fst = xs := zip_fst (by rw [hxl, List.length_map])
    have e2 : (xs.zip (ds.map D.py)).map Prod.snd = ds.map D.py := zip_snd (by rw [hxl, List.length_map])
    have ez : xs.zip (ds.map D.py) = (xs.zip ds).map fun b => (b.1, b.2.py) := by
      rw [List.zip_map_right]; rfl
    refine ⟨a, xs.zip (ds.map D.py), rfl, by rw [e1]; exact ha.sq, ?_, by rw [e2]; exact hal, by rw [e2]; exact hso, ?_, fun l hl => ?_⟩
    · intro b hb
      rw [ez, List.mem_map] at hb
      obtain ⟨c', hc', rfl⟩ := hb
      exact dp_of (n := 60) (hg1 _ (List.of_mem_zip hc').2) (reps_zip_all hr c' hc')
    · intro b hb
      rw [ez, List.mem_map] at hb
      obtain ⟨c', hc', rfl⟩ := hb
      have := (lay_of (hg1 _ (List.of_mem_zip hc').2)).2
      dsimp only
      omega
    · have m1 : (xs.zip (ds.map D.py)).mergeSort (PySem.W.dataLe false Prod.snd) = ((xs.zip ds).mergeSort (PySem.W.dataLe false fun b => b.2.py)).map fun b => (b.1, b.2.py) := by
        rw [ez]
        exact (PySem.W.sort_maps (r := PySem.W.dataLe false fun b : V × D => b.2.py) (s := PySem.W.dataLe false Prod.snd) (fun b : V × D => (b.1, b.2.py)) (l := xs.zip ds) fun a _ b _ => rfl).symm
      have all : ∀ b ∈ (xs.zip ds).mergeSort (PySem.W.dataLe false fun b => b.2.py), Rep (kf X) S' H' b.2 b.1 := fun b hb => reps_zip_all hr b ((List.mergeSort_perm _ _).mem_iff.mp hb)
      have es : ((xs.zip ds).mergeSort (PySem.W.dataLe false fun b => b.2.py)).map Prod.snd = srt ds := by
        have := PySem.W.sort_maps (r := PySem.W.dataLe false fun b : V × D => b.2.py) (s := PySem.W.dataLe false D.py) Prod.snd (l := xs.zip ds) fun a _ b _ => rfl
        rw [this, zip_snd hxl]
      have := hE S' H' ρ' W' _ _ l e' c (reps_of_pairs all) hl (by rw [es]; exact q)
      rw [m1, List.map_map]
      exact this
  · exact q.elim
end
theorem u66 {k : Nat} {A : Around} (r : Rm k A) : A.units + 66 < cLine := by have := r.toRoom.un; omega
end G
namespace G
open PySem PySem.Spec L2 PyProof.Rows
end G
namespace G
open PySem PySem.Spec L2 PyProof.Rows
/-- a def, from the moment where its parameters are bound -/
structure FnV (P : Program) (w : World) (K : PySem.W.Frag) (mg : Str → Option Value) (base : Heap) (k : Nat) (f : Addr) (fd : FuncData) (ps : List Str) (sp : Sp) : Prop where
  many : ∀ {vs H Q E}, sp vs H Q E → vs.length = ps.length
  go : ∀ {A : Around} {outer : List PySem.Env} {s s2 : Shared} {H : Hp} {args : Args} {us : List Value} {vs : List V} {Q : VK} {E : XK}, Rm k A → Env0 P w K mg base A outer s2 H → K.In s.heap →
    (∀ {M : Model} {A' : Around} {Q' : List (Str × Value) → Shared → Prop} {E' : Value → Shared → Prop}, Q' (ps.zip us) s2 → wpAny M A' (bindArgs fd args) Q' E' s) → Vals vs us → sp vs H Q E → codeAny (model P w) A (.call (.ref f) args) (CR (L2.CX P w) outer P w H s2 Q E) s
theorem FnV.mono {P : Program} {w : World} {K : PySem.W.Frag} {mg : Str → Option Value} {base : Heap} {j k : Nat} {f : Addr} {fd : FuncData} {ps : List Str} {sp : Sp} (F : FnV P w K mg base j f fd ps sp) (h : j ≤ k) : FnV P w K mg base k f fd ps sp :=
  ⟨F.many, fun r => F.go (r.less h)⟩
end G
namespace G
open PySem PySem.Spec L2 PyProof.Rows RZ
def zipD (xs ys : List D) : List D := List.zipWith (fun x y => .tup [x, y]) xs ys
theorem zipD_at {xs ys : List D} {i : Nat} {d : D} (h : (zipD xs ys)[i]? = some d) : ∃ x y, xs[i]? = some x ∧ ys[i]? = some y ∧ d = .tup [x, y] := by
  unfold zipD at h
  rw [List.getElem?_zipWith] at h
  cases hx : xs[i]? with
  | none => rw [hx] at h; cases h
  | some x =>
    cases hy : ys[i]? with
    | none => rw [hx, hy] at h; cases h
    | some y => rw [hx, hy] at h; cases h; exact ⟨x, y, rfl, rfl, rfl⟩
theorem rep_pair {K : KF} {S : Reg} {H : Hp} {x y : D} {v w : V} {T : Addr} (hT : H T = none) (sd : ∀ a, S a → H a ≠ none) (rx : Rep K S H x v) (ry : Rep K S H y w) : Rep K S (upd H T (.tup [v, w])) (.tup [x, y]) (.ref T) := by
  have st : Stp (fun _ => False) S H S (upd H T (.tup [v, w])) := ⟨fun a o _ h => same_new hT a o h, fun a h1 h2 => absurd h1 h2, fun a h => by
    by_cases ha : a = T
    · rw [ha]; exact hT
    · rw [upd_ne ha] at h; exact h, fun a h => h.elim⟩
  exact Rep.tup_iff.mpr ⟨T, [v, w], rfl, .inl ⟨upd_same, fun z => sd T z hT⟩, ⟨v, [w], rfl, rx.up st, w, [], rfl, ry.up st, rfl⟩⟩
theorem itok_zip {K : KF} {F S : Reg} {H : Hp} {a b : Addr} {xs ys : List V} {ds es : List D} (ha : ImL S H a xs) (hb : ImL S H b ys) (ra : Reps K S H ds xs) (rb : Reps K S H es ys) : ItOk K F S H (Itz K a b) (zipD ds es) := fun S' H' e => by
  have ha' : SqL K H' a xs := (e.imL ha).sq
  have hb' : SqL K H' b ys := (e.imL hb).sq
  have ra' := ra.up e
  have rb' := rb.up e
  refine ⟨fun i d hd => ?_, ⟨xs, ys, ha', hb', ?_⟩⟩
  · obtain ⟨x, y, hx, hy, rfl⟩ := zipD_at hd
    obtain ⟨v, hv, rv⟩ := ra'.get hx
    obtain ⟨w, hw, rw'⟩ := rb'.get hy
    refine ⟨⟨xs, ys, v, w, ha', hb', hv, hw⟩, fun z H3 ⟨T, v2, w2, e1, hT, e3, h1, h2⟩ => ?_⟩
    subst e1 e3
    have := h1 xs ha'
    rw [hv] at this; cases this
    have := h2 ys hb'
    rw [hw] at this; cases this
    exact ⟨same_new hT, fun sd => rep_pair hT sd rv rw'⟩
  · unfold zipD
    rw [List.length_zipWith, ← ra'.length, ← rb'.length]
    omega
theorem itok_zipT {K : KF} {F S : Reg} {H : Hp} {a b : Addr} {xs ys : List V} {ds es : List D} (ha : ImT K S H a xs) (hb : ImT K S H b ys) (ra : Reps K S H ds xs) (rb : Reps K S H es ys) : ItOk K F S H (ItzT K a b) (zipD ds es) := fun S' H' e => by
  have ha' : SqT K H' a xs := (e.imT ha).sq
  have hb' : SqT K H' b ys := (e.imT hb).sq
  have ra' := ra.up e
  have rb' := rb.up e
  refine ⟨fun i d hd => ?_, ⟨xs, ys, ha', hb', ?_⟩⟩
  · obtain ⟨x, y, hx, hy, rfl⟩ := zipD_at hd
    obtain ⟨v, hv, rv⟩ := ra'.get hx
    obtain ⟨w, hw, rw'⟩ := rb'.get hy
    refine ⟨⟨xs, ys, v, w, ha', hb', hv, hw⟩, fun z H3 ⟨T, v2, w2, e1, hT, e3, h1, h2⟩ => ?_⟩
    subst e1 e3
    have := h1 xs ha'
    rw [hv] at this; cases this
    have := h2 ys hb'
    rw [hw] at this; cases this
    exact ⟨same_new hT, fun sd => rep_pair hT sd rv rw'⟩
  · unfold zipD
    rw [List.length_zipWith, ← ra'.length, ← rb'.length]
    omega
def iZipD (fl : TL) : TID := fun ρ W Q Qx => fl ρ W (fun ds ρ' W' => match ds with
  | [.lst xs, .lst ys] => Q (zipD xs ys) ρ' W'
  | [.tup xs, .tup ys] => Q (zipD xs ys) ρ' W'
  | _ => False) Qx
section
variable {X : Cx} {Wx : WX} {e e2 : Expr} {fl : TL} {p pos tpos : Pos} {elts : List Expr} {kk : Nat}
theorem gi_zip (hg : Gl X "zip") (hm : X.mg "zip" = none) (ha : GA X Wx [e, e2] fl) (hs : starEach [e, e2] X.env = (false, eval e X.env) :: starEach [e2] X.env := by rfl) (hpl : (backTo pos (starEach [e2] X.env)).any (·.1) = false := by rfl) :
    GI X Wx (.Tuple elts kk tpos) (.Call (.Name "zip" p) [e, e2] [] pos) (iZipD fl) := by
  obtain ⟨ta, pa, sa⟩ := ha
  refine ⟨_, pi_zipA hg hm pa hs hpl, fun F S H σ ρ W Q Qx R cf hf hx hE => ?_⟩
  refine sa F S H σ ρ W _ Qx _ cf hf hx fun S1 H1 ρ1 W1 ds vs e1 c1 r1 q1 => ?_
  split at q1
  · rename_i xs ys
    obtain ⟨x, r, rfl, rx, y, r', rfl, ry, rfl⟩ := r1
    obtain ⟨a, vs, rfl, h1, h2⟩ := Rep.lst_iff.mp rx
    obtain ⟨b, ws, rfl, h3, h4⟩ := Rep.lst_iff.mp ry
    exact ⟨a, b, vs, ws, rfl, .inl ⟨h1.sq, h3.sq, hE S1 H1 ρ1 W1 _ _ e1 c1 (itok_zip h1 h3 h2 h4) q1⟩⟩
  · rename_i xs ys
    obtain ⟨x, r, rfl, rx, y, r', rfl, ry, rfl⟩ := r1
    obtain ⟨a, vs, rfl, h1, h2⟩ := Rep.tup_iff.mp rx
    obtain ⟨b, ws, rfl, h3, h4⟩ := Rep.tup_iff.mp ry
    exact ⟨a, b, vs, ws, rfl, .inr ⟨h1.sq, h3.sq, hE S1 H1 ρ1 W1 _ _ e1 c1 (itok_zipT h1 h3 h2 h4) q1⟩⟩
  · exact q1.elim
end
end G
namespace G
open PySem PySem.Spec L2
def dLenW (fe : TD) : TD := fun ρ W Q Qx => fe ρ W (fun d ρ' W' => ∃ p ds, d = .v (.ref p) ∧ W' p = some (.lst ds) ∧ Q (.int ds.length) ρ' W') Qx
section
variable {X : Cx} {Wx : WX} {e : Expr} {fe : TD} {pos : Pos}
theorem ge_lenW {x : Str} {p : Pos} (hg : Gl X x) (hm : X.mg x = none) (hv : bootBuiltins x = some (.builtin "len")) (ha : GE X Wx e fe) (hn : x ≠ "__name__" := by decide) (hdb : (x == ("__debug__" : Str)) = false := by decide)
    (he : starEach [e] X.env = (false, eval e X.env) :: starEach [] X.env := by rfl) (hpl : (backTo pos (starEach [] X.env)).any (·.1) = false := by rfl) : GE X Wx (.Call (.Name x p) [e] [] pos) (dLenW fe) := by
  obtain ⟨te, pe, se⟩ := ha
  refine ⟨_, pe_callB call_len_seq hg hm hv (pa_cons pe pa_nil he) hn hdb he hpl, fun F S H σ ρ W Q Qx R cf hf hx hE => ?_⟩
  refine se F S H σ ρ W _ Qx _ cf hf hx fun S' H' ρ' W' d v e' c r q => ?_
  obtain ⟨p, ds, e1, hw, q⟩ := q
  subst e1
  obtain ⟨_, _, xs, h1, h2⟩ := c.cb.w p _ hw
  have ev := Rep.v_iff.mp r
  subst ev
  exact ⟨p, xs, rfl, .inl (SqL.of h1), hE S' H' ρ' W' (.int ds.length) _ e' c (Rep.v_iff.mpr (by rw [h2.length])) q⟩
end
end G
namespace G
open PySem PySem.Spec L2 PyProof.Rows
end G
namespace G
open PySem PySem.Spec L2 PyProof.Rows
end G
namespace G
open PySem PySem.Spec L2
/-- the values of some texts -/
def txs (ss : List Str) : List V := ss.map V.str
end G
namespace G
open PySem PySem.Spec L2
end G
namespace G
open PySem PySem.Spec L2 PyProof.Rows
section
variable {P : Program} {w : World} {κ : Type} [DecidableEq κ]
/-- what lies at a is a set; its keys are those of ks; its table rises, it can be walked -/
def KeyR (kd : KeyKind P w κ) (ky : Value → κ) (h : Heap) (a : Addr) (ks : List κ) : Prop :=
  ∃ o es ep t, h.get? a = some o ∧ o.ExactSet ∧ o.data = .set es ep t ∧ ElemsOf kd es.toList ∧ (es.toList.map fun e => ky e.2).Nodup ∧ (∀ k, k ∈ ks ↔ k ∈ es.toList.map fun e => ky e.2) ∧
    es.size < scanBound ∧ t.fits es.size = true ∧ Ris t.place.toList ∧ (w.params.followText "set-order" = true ∨ t.led = true)
variable {kd : KeyKind P w κ} {ky : Value → κ} {A : Around} {E : Value → Shared → Prop} {s : Shared} {a : Addr} {ks : List κ}
theorem KeyR.at {h h' : Heap} (r : KeyR kd ky h a ks) (k : ∀ o, h.get? a = some o → h'.get? a = some o) : KeyR kd ky h' a ks := by
  obtain ⟨o, es, ep, t, ho, q⟩ := r
  exact ⟨o, es, ep, t, k o ho, q⟩
theorem keyr_few {l m : List κ} (hn : l.Nodup) (hs : ∀ k ∈ l, k ∈ m) : l.length ≤ m.length := by
  induction l generalizing m with
  | nil => exact Nat.zero_le _
  | cons x r ih =>
    rw [List.nodup_cons] at hn
    have hx := hs x List.mem_cons_self
    have := ih (m := m.erase x) hn.2 fun k hk => (List.mem_erase_of_ne (fun e : k = x => hn.1 (e ▸ hk))).mpr (hs k (List.mem_cons_of_mem _ hk))
    rw [List.length_erase_of_mem hx] at this
    have := List.length_pos_of_mem hx
    rw [List.length_cons]; omega
end
end G
namespace G
open PySem PySem.Spec L2 PyProof.Rows
end G
namespace G
open PySem PySem.Spec L2 PyProof.Rows
end G
namespace G
open PySem PySem.Spec L2
mutual
theorem nkD_inj : ∀ {d e : D} {k : NestedKey}, nkD d = some k → nkD e = some k → d = e
  | .v .non, e, k, h, h' => by
    simp only [nkD, Option.some.injEq] at h
    subst h
    cases e with
    | v y => cases y <;> simp [nkD] at h' <;> rfl
    | tup es => simp only [nkD] at h'; split at h' <;> simp at h'
    | _ => simp [nkD] at h'
  | .v (.int i), e, k, h, h' => by
    simp only [nkD, Option.some.injEq] at h
    subst h
    cases e with
    | v y => cases y <;> simp [nkD] at h' <;> rw [h']
    | tup es => simp only [nkD] at h'; split at h' <;> simp at h'
    | _ => simp [nkD] at h'
  | .v (.str i), e, k, h, h' => by
    simp only [nkD, Option.some.injEq] at h
    subst h
    cases e with
    | v y => cases y <;> simp [nkD] at h' <;> rw [h']
    | tup es => simp only [nkD] at h'; split at h' <;> simp at h'
    | _ => simp [nkD] at h'
  | .v (.bl _), _, _, h, _ => by simp [nkD] at h
  | .v (.byt _), _, _, h, _ => by simp [nkD] at h
  | .v (.flt _), _, _, h, _ => by simp [nkD] at h
  | .v (.ref _), _, _, h, _ => by simp [nkD] at h
  | .v (.ty _), _, _, h, _ => by simp [nkD] at h
  | .tup ds, e, k, h, h' => by
    simp only [nkD] at h
    split at h
    · rename_i ks hk
      simp only [Option.some.injEq] at h
      subst h
      cases e with
      | v y => cases y <;> simp [nkD] at h'
      | tup es =>
        simp only [nkD] at h'
        split at h'
        · rename_i ks' hk'
          simp only [Option.some.injEq, NestedKey.tup.injEq] at h'
          subst h'
          rw [nksD_inj hk hk']
        · cases h'
      | _ => simp [nkD] at h'
    · cases h
  | .lst _, _, _, h, _ => by simp [nkD] at h
  | .scr _, _, _, h, _ => by simp [nkD] at h
  | .dct _ _, _, _, h, _ => by simp [nkD] at h
  | .tpf _, _, _, h, _ => by simp [nkD] at h
  | .exc _ _ _, _, _, h, _ => by simp [nkD] at h
  | .dtt _ _, _, _, h, _ => by simp [nkD] at h
theorem nksD_inj : ∀ {ds es : List D} {ks : List NestedKey}, nksD ds = some ks → nksD es = some ks → ds = es
  | [], es, ks, h, h' => by
    simp only [nksD, Option.some.injEq] at h
    subst h
    cases es with
    | nil => rfl
    | cons e es => simp only [nksD] at h'; split at h' <;> simp at h'
  | d :: ds, es, ks, h, h' => by
    simp only [nksD] at h
    split at h
    · rename_i k ks' h1 h2
      simp only [Option.some.injEq] at h
      subst h
      cases es with
      | nil => simp [nksD] at h'
      | cons e es =>
        simp only [nksD] at h'
        split at h'
        · rename_i k2 ks2 h3 h4
          simp only [Option.some.injEq, List.cons.injEq] at h'
          obtain ⟨rfl, rfl⟩ := h'
          rw [nkD_inj h1 h3, nksD_inj h2 h4]
        · cases h'
    · cases h
end
theorem nksD_cons {d : D} {ds : List D} {k : NestedKey} {ks : List NestedKey} (h1 : nkD d = some k) (h2 : nksD ds = some ks) : nksD (d :: ds) = some (k :: ks) := by simp only [nksD, h1, h2]
theorem nksD_un {d : D} {ds : List D} {nks : List NestedKey} (h : nksD (d :: ds) = some nks) : ∃ k ks, nks = k :: ks ∧ nkD d = some k ∧ nksD ds = some ks := by
  simp only [nksD] at h
  split at h
  · rename_i k ks h1 h2
    simp only [Option.some.injEq] at h
    exact ⟨k, ks, h.symm, h1, h2⟩
  · cases h
theorem nksD_len : ∀ {ds : List D} {ks : List NestedKey}, nksD ds = some ks → ks.length = ds.length
  | [], ks, h => by simp only [nksD, Option.some.injEq] at h; subst h; rfl
  | d :: ds, ks, h => by
    obtain ⟨k, r, rfl, _, h2⟩ := nksD_un h
    rw [List.length_cons, List.length_cons, nksD_len h2]
theorem nksD_get : ∀ {ds : List D} {ks : List NestedKey} {i : Nat} {d : D}, nksD ds = some ks → ds[i]? = some d → ∃ k, ks[i]? = some k ∧ nkD d = some k
  | [], ks, i, d, h, e => by simp at e
  | d' :: ds, ks, 0, d, h, e => by
    obtain ⟨k, r, rfl, h1, _⟩ := nksD_un h
    simp at e; subst e
    exact ⟨k, rfl, h1⟩
  | d' :: ds, ks, i + 1, d, h, e => by
    obtain ⟨k, r, rfl, _, h2⟩ := nksD_un h
    obtain ⟨k', h3, h4⟩ := nksD_get (i := i) h2 (by simpa using e)
    exact ⟨k', by simpa using h3, h4⟩
theorem nksD_get' {ds : List D} {ks : List NestedKey} {i : Nat} {k : NestedKey} (h : nksD ds = some ks) (e : ks[i]? = some k) : ∃ d, ds[i]? = some d ∧ nkD d = some k := by
  have hi := (List.getElem?_eq_some_iff.mp e).1
  rw [nksD_len h] at hi
  have hd : ds[i]? = some ds[i] := List.getElem?_eq_getElem hi
  obtain ⟨k', h1, h2⟩ := nksD_get h hd
  rw [e] at h1; cases h1
  exact ⟨_, hd, h2⟩
theorem nksD_app : ∀ {ds es : List D} {ks ls : List NestedKey}, nksD ds = some ks → nksD es = some ls → nksD (ds ++ es) = some (ks ++ ls)
  | [], es, ks, ls, h, h' => by simp only [nksD, Option.some.injEq] at h; subst h; exact h'
  | d :: ds, es, ks, ls, h, h' => by
    obtain ⟨k, r, rfl, h1, h2⟩ := nksD_un h
    exact nksD_cons h1 (nksD_app h2 h')
theorem nksD_mem {ds : List D} {ks : List NestedKey} {k : NestedKey} (h : nksD ds = some ks) (hk : k ∈ ks) : ∃ d ∈ ds, nkD d = some k := by
  obtain ⟨i, hi, e⟩ := List.mem_iff_getElem.mp hk
  obtain ⟨d, h1, h2⟩ := nksD_get' h (show ks[i]? = some k by rw [List.getElem?_eq_getElem hi, e])
  exact ⟨d, List.mem_of_getElem? h1, h2⟩
theorem nkok_nil : NkOk [] [] := ⟨rfl, List.nodup_nil, fun _ h => nomatch h⟩
/-- a key: a tuple of ints, texts, None and such tuples -/
def isNk (d : D) : Bool := match d with | .tup _ => (match nkD d with | some k => decide (k.depth ≤ 8) | none => false) | _ => false
theorem isNk_of {d : D} (h : isNk d = true) : ∃ ds ks, d = .tup ds ∧ nkD d = some (.tup ks) ∧ (NestedKey.tup ks).depth ≤ 8 := by
  unfold isNk at h
  split at h
  · rename_i ds
    split at h
    · rename_i k e
      have e2 := e
      simp only [nkD] at e2
      split at e2
      · rename_i ks _
        simp only [Option.some.injEq] at e2
        subst e2
        exact ⟨ds, ks, rfl, e, of_decide_eq_true h⟩
      · cases e2
    · cases h
  · cases h
section
variable {X : Cx} {pins : List (Addr × Obj)} {σ : St} {H : Hp} {s : Shared}
mutual
theorem nk_is {S : Reg} (I : Inv X pins σ H s) : ∀ {d : D} {v : V} {u : Value} {k : NestedKey}, Rep (kf X) S H d v → RelV v u → nkD d = some k → NestedIs s.heap k u
  | .v .non, v, u, k, h, r, e => by
    rw [Rep.v_iff] at h; subst h
    simp only [nkD, Option.some.injEq] at e; subst e
    obtain rfl : u = Value.none := r
    exact .none
  | .v (.int i), v, u, k, h, r, e => by
    rw [Rep.v_iff] at h; subst h
    simp only [nkD, Option.some.injEq] at e; subst e
    obtain ⟨t, rfl⟩ := r
    exact .int i t
  | .v (.str x), v, u, k, h, r, e => by
    rw [Rep.v_iff] at h; subst h
    simp only [nkD, Option.some.injEq] at e; subst e
    obtain ⟨t, rfl⟩ := r
    exact .text x t
  | .v (.bl _), _, _, _, _, _, e => by simp [nkD] at e
  | .v (.byt _), _, _, _, _, _, e => by simp [nkD] at e
  | .v (.flt _), _, _, _, _, _, e => by simp [nkD] at e
  | .v (.ref _), _, _, _, _, _, e => by simp [nkD] at e
  | .v (.ty _), _, _, _, _, _, e => by simp [nkD] at e
  | .tup ds, v, u, k, h, r, e => by
    obtain ⟨a, xs, rfl, h1, h2⟩ := Rep.tup_iff.mp h
    simp only [nkD] at e
    split at e
    · rename_i ks hk
      simp only [Option.some.injEq] at e; subst e
      obtain rfl : u = Value.ref a := r
      obtain ⟨its, rv, ⟨o, ho, hc, n, hd⟩, _⟩ := I.tuple h1.sq
      exact .tup ho hc hd (by simpa using nks_are I h2 rv hk)
    · cases e
  | .lst _, _, _, _, _, _, e => by simp [nkD] at e
  | .scr _, _, _, _, _, _, e => by simp [nkD] at e
  | .dct _ _, _, _, _, _, _, e => by simp [nkD] at e
  | .tpf _, _, _, _, _, _, e => by simp [nkD] at e
  | .exc _ _ _, _, _, _, _, _, e => by simp [nkD] at e
  | .dtt _ _, _, _, _, _, _, e => by simp [nkD] at e
theorem nks_are {S : Reg} (I : Inv X pins σ H s) : ∀ {ds : List D} {vs : List V} {us : List Value} {ks : List NestedKey}, Reps (kf X) S H ds vs → Vals vs us → nksD ds = some ks → NestedAll s.heap ks us
  | [], vs, us, ks, h, r, e => by
    rw [Reps.nil_iff] at h; subst h
    simp only [nksD, Option.some.injEq] at e; subst e
    cases r
    exact .nil
  | d :: ds, vs, us, ks, h, r, e => by
    obtain ⟨x, rest, rfl, h1, h2⟩ := Reps.cons_iff.mp h
    obtain ⟨k, ks', rfl, e1, e2⟩ := nksD_un e
    cases r with
    | cons r1 r2 => exact .cons (nk_is I h1 r1 e1) (nks_are I h2 r2 e2)
end
end
/-- y is the key k, whatever else is so -/
def NkAt (X : Cx) (H : Hp) (k : NestedKey) (y : V) : Prop := ∀ pins σ s u, Inv X pins σ H s → RelV y u → NestedIs s.heap k u
theorem nkAt_of {X : Cx} {S : Reg} {H : Hp} {d : D} {y : V} {k : NestedKey} (r : Rep (kf X) S H d y) (e : nkD d = some k) : NkAt X H k y := fun _ _ _ _ I ru => nk_is I r ru e
def valN (rows : List NRow) (k : NestedKey) : Option V := (rows.find? fun r => decide (r.1 = k)).map (·.2.2)
def putN (rows : List NRow) (k : NestedKey) (b : Addr) (v : V) : List NRow :=
  if (rows.any fun r => decide (r.1 = k)) = true then rows.map (fun r => if r.1 = k then (r.1, r.2.1, v) else r) else rows ++ [(k, b, v)]
abbrev NPair (p : NRow) (q : NestedKey × Addr × Value) : Prop := p.1 = q.1 ∧ p.2.1 = q.2.1 ∧ RelV p.2.2 q.2.2
structure RowsOk (X : Cx) (H : Hp) (rows : List NRow) : Prop where
  nd : (rows.map (·.1)).Nodup
  at_ : ∀ r ∈ rows, NkAt X H r.1 (.ref r.2.1) ∧ r.1.depth ≤ 8
theorem npair_keys : ∀ {rows : List NRow} {xs : List (NestedKey × Addr × Value)}, Paired NPair rows xs → rows.map (·.1) = xs.map (·.1) := by
  intro rows xs h
  induction h with
  | nil => rfl
  | cons a _ ih => rw [List.map_cons, List.map_cons, a.1, ih]
theorem npair_mem : ∀ {rows : List NRow} {xs : List (NestedKey × Addr × Value)}, Paired NPair rows xs → ∀ x ∈ xs, ∃ r ∈ rows, NPair r x := by
  intro rows xs h
  induction h with
  | nil => intro x hx; cases hx
  | @cons p q ps qs a _ ih =>
    intro x hx
    rcases List.mem_cons.mp hx with rfl | hx
    · exact ⟨p, List.mem_cons_self, a⟩
    · obtain ⟨r, hr, h2⟩ := ih x hx
      exact ⟨r, List.mem_cons_of_mem _ hr, h2⟩
theorem npair_val {k : NestedKey} : ∀ {rows : List NRow} {xs : List (NestedKey × Addr × Value)}, Paired NPair rows xs → RelO (valN rows k) ((atKey xs k).map (·.2)) := by
  intro rows xs h
  induction h with
  | nil => exact True.intro
  | @cons p q ps qs a _ ih =>
    unfold valN atKey
    rw [List.find?_cons, List.find?_cons]
    by_cases e : p.1 = k
    · have e' : q.1 = k := a.1 ▸ e
      simp only [e, e', decide_true]
      exact a.2.2
    · have e' : ¬ q.1 = k := fun z => e (a.1.trans z)
      simp only [e, e', decide_false]
      exact ih
theorem npair_put {k : NestedKey} {b : Addr} {v : V} {u : Value} (rv : RelV v u) {rows : List NRow} {xs : List (NestedKey × Addr × Value)} (h : Paired NPair rows xs) : Paired NPair (putN rows k b v) (storedH xs k b u) := by
  have hany : (rows.any fun r => decide (r.1 = k)) = (atKey xs k).isSome := by
    induction h with
    | nil => rfl
    | @cons p q ps qs a _ ih =>
      unfold atKey
      rw [List.any_cons, List.find?_cons]
      by_cases e : p.1 = k
      · have e' : q.1 = k := a.1 ▸ e
        simp only [e, e', decide_true]; rfl
      · have e' : ¬ q.1 = k := fun z => e (a.1.trans z)
        simp only [e, e', decide_false, Bool.false_or]
        exact ih
  unfold putN storedH
  rw [hany]
  split
  · rename_i hh
    clear hany hh
    induction h with
    | nil => exact .nil
    | @cons p q ps qs a _ ih =>
      rw [List.map_cons, List.map_cons]
      refine .cons ?_ ih
      unfold putAt
      by_cases e : p.1 = k
      · have e' : q.1 = k := a.1 ▸ e
        rw [if_pos e, if_pos e']; exact ⟨a.1, a.2.1, rv⟩
      · have e' : ¬ q.1 = k := fun z => e (a.1.trans z)
        rw [if_neg e, if_neg e']; exact a
  · rename_i hh
    clear hany hh
    induction h with
    | nil => exact .cons ⟨rfl, rfl, rv⟩ .nil
    | cons a _ ih => exact .cons a ih
/-- a dict stands at a, locked or not -/
def NdAt (w : World) (H : Hp) (a : Addr) (rows : List NRow) : Prop := H a = some (ndO w a rows) ∨ ∃ o, H a = some (.frz o (ndO w a rows))
section
variable {X : Cx} {pins : List (Addr × Obj)} {σ : St} {H : Hp} {s : Shared} {a b : Addr} {rows : List NRow} {k : NestedKey} {y v : V} {u r : Value} {A : Around} {E : Value → Shared → Prop}
theorem nd_of (I : Inv X pins σ H s) (e : NdAt X.w H a rows) (ok : RowsOk X H rows) : rows.length ≤ sizeLine ∧ (a == sysModules) = false ∧ ∃ xs, Paired NPair rows xs ∧ s.heap.DictOfH (nestedKind X.prog X.w) a xs := by
  obtain ⟨⟨z, hd, o, es, ep, xs, ho, hx, hdat, hp, he⟩, _, _⟩ : ObjOk X.prog X.w H s.heap a (.ext (ndP X.w a rows)) := by
    rcases e with e | ⟨o, e⟩
    · exact I.hok a _ e
    · exact (I.hok a _ e).2
  refine ⟨z, hd, xs, hp, o, es, ep, ho, hx, hdat, he, fun x hx => ?_, ?_⟩
  · obtain ⟨r, hr, h1, h2, _⟩ := npair_mem hp x hx
    obtain ⟨h3, h4⟩ := ok.at_ r hr
    refine ⟨?_, by rw [← h1]; exact h4⟩
    have := h3 pins σ s (.ref x.2.1) I (by rw [← h2]; rfl)
    rw [← h1]; exact this
  · rw [← npair_keys hp]; exact ok.nd
theorem nd_new {P : Program} {w : World} {H' : Hp} {h' : Heap} {xs : List (NestedKey × Addr × Value)} (z : rows.length ≤ sizeLine) (hd : (a == sysModules) = false) (hp : Paired NPair rows xs) (dd : h'.DictOfH (nestedKind P w) a xs) : ObjOk P w H' h' a (ndO w a rows) := by
  obtain ⟨o, es, ep, ho, hx, hdat, he, _, _⟩ := dd
  exact ⟨⟨z, hd, o, es, ep, xs, ho, hx, hdat, hp, he⟩, ⟨o, ho⟩, fun h1 h2 ⟨z, hd, o, es, ep, xs, ho, q⟩ k => ⟨z, hd, o, es, ep, xs, k o ho, q⟩⟩
theorem nkey (I : Inv X pins σ H s) (hk : NkAt X H k (.ref b)) (hd : k.depth ≤ 8) : (nestedKind X.prog X.w).is s.heap k b := ⟨hk pins σ s (.ref b) I rfl, hd⟩
theorem nroom {A : Around} (hu : A.units + 66 < cLine) : (nestedKind X.prog X.w).room A.in1 := by
  show A.units + 1 + 8 < cLine
  omega
theorem n_getItem {Q : Value → Shared → Prop} (hu : A.units + 66 < cLine) (I : Inv X pins σ H s) (e : NdAt X.w H a rows) (ok : RowsOk X H rows) (hk : NkAt X H k (.ref b)) (hd : k.depth ≤ 8) (hv : valN rows k = some v)
    (h : ∀ w' s', Inv X pins σ H s' → RelV v w' → Q w' s') : wpAny (model X.prog X.w) A (getItem (.ref a) (.ref b)) Q E s := by
  obtain ⟨_, _, xs, hp, dd⟩ := nd_of I e ok
  obtain ⟨w', hw, rw'⟩ := RelO.some_of (v := v) (o := (atKey xs k).map (·.2)) (by rw [← hv]; exact npair_val hp)
  obtain ⟨p, hp1, hp2⟩ := Option.map_eq_some_iff.mp hw
  refine wpAny_getItem_heap (nroom hu) (nkey I hk hd) dd hp1 ?_
  rw [hp2]
  exact h w' _ (I.tok _) rw'
theorem n_notIn {Q : Value → Shared → Prop} (hu : A.units + 66 < cLine) (I : Inv X pins σ H s) (e : NdAt X.w H a rows) (ok : RowsOk X H rows) (hk : NkAt X H k (.ref b)) (hd : k.depth ≤ 8)
    (h : ∀ s', Inv X pins σ H s' → Q (.bool (!(valN rows k).isSome)) s') : wpAny (model X.prog X.w) A (compareOp .NotIn (.ref b) (.ref a)) Q E s := by
  obtain ⟨_, hm, xs, hp, dd⟩ := nd_of I e ok
  show wpAny _ _ (do return .bool (!(← contains (.ref a) (.ref b)))) Q E s
  refine wpAny_bind (wpAny_contains_heap (nroom hu) (nkey I hk hd) hm dd (wpAny_pure ?_))
  have q := (npair_val (k := k) hp).isSome_eq
  rw [Option.isSome_map] at q
  rw [← q]
  exact h _ (I.tok _)
theorem n_setItem {Q : Unit → Shared → Prop} (hu : A.units + 66 < cLine) (I : Inv X pins σ H s) (e : H a = some (ndO X.w a rows)) (ok : RowsOk X H rows) (hk : NkAt X H k (.ref b)) (hd : k.depth ≤ 8) (hl : rows.length < sizeLine) (rv : RelV v r)
    (h : ∀ s', Inv X pins σ (upd H a (ndO X.w a (putN rows k b v))) s' → Q () s') : wpAny (model X.prog X.w) A (setItem (.ref a) (.ref b) r) Q E s := by
  obtain ⟨_, hm, xs, hp, dd⟩ := nd_of I (.inl e) ok
  refine wpAny_setItem_heap (hsz := by rw [← Paired.length hp]; omega) (nroom hu) (nkey I hk hd) dd fun h' dd' hs => h _ ?_
  have he : ∃ q, h'.get? a = some q := let ⟨q, _, _, hq, _⟩ := dd'; ⟨q, hq⟩
  refine d_write I (by rw [e]; exact True.intro) hs he (nd_new ?_ hm (npair_put rv hp) dd')
  unfold putN
  split
  · rw [List.length_map]; omega
  · rw [List.length_append]; show rows.length + 1 ≤ _; omega
end
end G
namespace G
open PySem PySem.Spec L2
abbrev nz (nks : List NestedKey) (bs : List Addr) (xs : List V) : List NRow := nks.zip (List.zip bs xs)
theorem nz_get : ∀ {nks : List NestedKey} {bs : List Addr} {xs : List V} {i : Nat} {k : NestedKey} {b : Addr} {x : V}, nks[i]? = some k → bs[i]? = some b → xs[i]? = some x → (nz nks bs xs)[i]? = some (k, b, x)
  | [], _, _, _, _, _, _, h, _, _ => by simp at h
  | _ :: _, [], _, _, _, _, _, _, h, _ => by simp at h
  | _ :: _, _ :: _, [], _, _, _, _, _, _, h => by simp at h
  | k' :: nks, b' :: bs, x' :: xs, 0, k, b, x, h1, h2, h3 => by
    simp at h1 h2 h3; subst h1 h2 h3; rfl
  | k' :: nks, b' :: bs, x' :: xs, i + 1, k, b, x, h1, h2, h3 => by
    have := nz_get (nks := nks) (bs := bs) (xs := xs) (i := i) (by simpa using h1) (by simpa using h2) (by simpa using h3)
    simpa [nz] using this
theorem nz_keys : ∀ {nks : List NestedKey} {bs : List Addr} {xs : List V}, bs.length = nks.length → xs.length = nks.length → (nz nks bs xs).map (·.1) = nks
  | [], _, _, _, _ => rfl
  | k :: nks, [], _, h, _ => by simp at h
  | k :: nks, _ :: _, [], _, h => by simp at h
  | k :: nks, b :: bs, x :: xs, h1, h2 => by
    have := nz_keys (nks := nks) (bs := bs) (xs := xs) (by simpa using h1) (by simpa using h2)
    show k :: (nz nks bs xs).map (·.1) = _
    rw [this]
theorem nz_len {nks : List NestedKey} {bs : List Addr} {xs : List V} (h1 : bs.length = nks.length) (h2 : xs.length = nks.length) : (nz nks bs xs).length = nks.length := by
  have := congrArg List.length (nz_keys h1 h2)
  rwa [List.length_map] at this
theorem nz_mem : ∀ {nks : List NestedKey} {bs : List Addr} {xs : List V} {r : NRow}, r ∈ nz nks bs xs → ∃ i : Nat, nks[i]? = some r.1 ∧ bs[i]? = some r.2.1 ∧ xs[i]? = some r.2.2
  | [], _, _, r, h => by simp [nz] at h
  | _ :: _, [], _, r, h => by simp [nz] at h
  | _ :: _, _ :: _, [], r, h => by simp [nz] at h
  | k' :: nks, b' :: bs, x' :: xs, r, h => by
    have h : r ∈ (k', b', x') :: nz nks bs xs := h
    rcases List.mem_cons.mp h with rfl | h
    · exact ⟨0, rfl, rfl, rfl⟩
    · obtain ⟨i, h1, h2, h3⟩ := nz_mem h
      exact ⟨i + 1, by simpa using h1, by simpa using h2, by simpa using h3⟩
theorem nz_app : ∀ {nks : List NestedKey} {bs : List Addr} {xs : List V} {k : NestedKey} {b : Addr} {x : V}, bs.length = nks.length → xs.length = nks.length → nz nks bs xs ++ [(k, b, x)] = nz (nks ++ [k]) (bs ++ [b]) (xs ++ [x])
  | [], [], [], _, _, _, _, _ => rfl
  | [], _ :: _, _, _, _, _, h, _ => by simp at h
  | [], [], _ :: _, _, _, _, _, h => by simp at h
  | _ :: _, [], _, _, _, _, h, _ => by simp at h
  | _ :: _, _ :: _, [], _, _, _, _, h => by simp at h
  | k' :: nks, b' :: bs, x' :: xs, k, b, x, h1, h2 => by
    have := nz_app (nks := nks) (bs := bs) (xs := xs) (k := k) (b := b) (x := x) (by simpa using h1) (by simpa using h2)
    show (k', b', x') :: (nz nks bs xs ++ [(k, b, x)]) = _
    rw [this]; rfl
theorem nz_set : ∀ {nks : List NestedKey} {bs : List Addr} {xs : List V} {i : Nat} {k : NestedKey} {v : V}, bs.length = nks.length → xs.length = nks.length → nks.Nodup → nks[i]? = some k →
    (nz nks bs xs).map (fun r => if r.1 = k then (r.1, r.2.1, v) else r) = nz nks bs (xs.set i v)
  | [], _, _, _, _, _, _, _, _, h => by simp at h
  | _ :: _, [], _, _, _, _, h, _, _, _ => by simp at h
  | _ :: _, _ :: _, [], _, _, _, _, h, _, _ => by simp at h
  | k' :: nks, b' :: bs, x' :: xs, 0, k, v, h1, h2, hn, h => by
    simp at h; subst h
    rw [List.nodup_cons] at hn
    show (if k' = k' then (k', b', v) else (k', b', x')) :: (nz nks bs xs).map _ = (k', b', v) :: nz nks bs xs
    rw [if_pos rfl]
    congr 1
    refine (List.map_congr_left fun r hr => ?_).trans (List.map_id _)
    have : r.1 ∈ nks := by
      obtain ⟨i, hi, _⟩ := nz_mem hr
      exact List.mem_of_getElem? hi
    have ne : r.1 ≠ k' := fun z => hn.1 (z ▸ this)
    rw [if_neg ne]; rfl
  | k' :: nks, b' :: bs, x' :: xs, i + 1, k, v, h1, h2, hn, h => by
    rw [List.nodup_cons] at hn
    have h : nks[i]? = some k := by simpa using h
    have := nz_set (nks := nks) (bs := bs) (xs := xs) (i := i) (v := v) (by simpa using h1) (by simpa using h2) hn.2 h
    have ne : k' ≠ k := fun z => hn.1 (z ▸ List.mem_of_getElem? h)
    show (if k' = k then (k', b', v) else (k', b', x')) :: (nz nks bs xs).map _ = (k', b', x') :: nz nks bs (xs.set i v)
    rw [if_neg ne, this]
theorem valN_none {rows : List NRow} {k : NestedKey} (h : k ∉ rows.map (·.1)) : valN rows k = none := by
  unfold valN
  have : (rows.find? fun r => decide (r.1 = k)) = none := List.find?_eq_none.mpr fun r hr z => h (List.mem_map.mpr ⟨r, hr, of_decide_eq_true z⟩)
  rw [this]; rfl
theorem valN_at {rows : List NRow} {i : Nat} {k : NestedKey} {b : Addr} {x : V} (nd : (rows.map (·.1)).Nodup) (h : rows[i]? = some (k, b, x)) : valN rows k = some x := by
  induction rows generalizing i with
  | nil => simp at h
  | cons r rows ih =>
    rw [List.map_cons, List.nodup_cons] at nd
    unfold valN
    rw [List.find?_cons]
    cases i with
    | zero =>
      simp at h; subst h
      simp
    | succ i =>
      have h : rows[i]? = some (k, b, x) := by simpa using h
      have ne : ¬ r.1 = k := fun z => nd.1 (by rw [z]; exact List.mem_map.mpr ⟨_, List.mem_of_getElem? h, rfl⟩)
      simp only [ne, decide_false]
      exact ih nd.2 h
theorem any_key {rows : List NRow} {k : NestedKey} : (rows.any fun r => decide (r.1 = k)) = decide (k ∈ rows.map (·.1)) := by
  rw [Bool.eq_iff_iff, List.any_eq_true, decide_eq_true_eq, List.mem_map]
  exact ⟨fun ⟨r, hr, e⟩ => ⟨r, hr, of_decide_eq_true e⟩, fun ⟨r, hr, e⟩ => ⟨r, hr, decide_eq_true e⟩⟩
/-- a dict's keys and values as they are told -/
structure NR (X : Cx) (S : Reg) (H : Hp) (ks ds : List D) (nks : List NestedKey) (bs : List Addr) (xs : List V) : Prop where
  ok : NkOk ks nks
  rk : Reps (kf X) S H ks (bs.map V.ref)
  rd : Reps (kf X) S H ds xs
  len : ks.length = ds.length
section
variable {X : Cx} {F S S' : Reg} {H H' : Hp} {ks ds : List D} {nks : List NestedKey} {bs : List Addr} {xs : List V}
theorem NR.lb (h : NR X S H ks ds nks bs xs) : bs.length = nks.length := by
  have := h.rk.length
  rw [List.length_map] at this
  rw [this, nksD_len h.ok.keys]
theorem NR.lx (h : NR X S H ks ds nks bs xs) : xs.length = nks.length := by rw [h.rd.length, nksD_len h.ok.keys, h.len]
theorem NR.lk (h : NR X S H ks ds nks bs xs) : nks.length = ks.length := nksD_len h.ok.keys
theorem NR.rows (h : NR X S H ks ds nks bs xs) : RowsOk X H (nz nks bs xs) where
  nd := by rw [nz_keys h.lb h.lx]; exact h.ok.nd
  at_ := fun r hr => by
    obtain ⟨i, h1, h2, h3⟩ := nz_mem hr
    obtain ⟨d, hd, e⟩ := nksD_get' h.ok.keys h1
    obtain ⟨v, hv, rv⟩ := h.rk.get hd
    rw [List.getElem?_map, h2] at hv
    cases hv
    exact ⟨nkAt_of rv e, h.ok.dep _ (List.mem_of_getElem? h1)⟩
theorem NR.up (e : Stp F S H S' H') (h : NR X S H ks ds nks bs xs) : NR X S' H' ks ds nks bs xs := ⟨h.ok, h.rk.up e, h.rd.up e, h.len⟩
theorem NR.at_ (h : NR X S H ks ds nks bs xs) {i : Nat} {d z : D} (hi : ks[i]? = some d) (hz : ds[i]? = some z) : ∃ k x, nkD d = some k ∧ valN (nz nks bs xs) k = some x ∧ Rep (kf X) S H z x := by
  obtain ⟨k, hk, e⟩ := nksD_get h.ok.keys hi
  obtain ⟨x, hx, rx⟩ := h.rd.get hz
  have hb : ∃ b, bs[i]? = some b := by
    have : i < bs.length := by
      have := (List.getElem?_eq_some_iff.mp hk).1
      rw [h.lb]; exact this
    exact ⟨_, List.getElem?_eq_getElem this⟩
  obtain ⟨b, hb⟩ := hb
  exact ⟨k, x, e, valN_at h.rows.nd (nz_get hk hb hx), rx⟩
theorem NR.no (h : NR X S H ks ds nks bs xs) {d : D} {k : NestedKey} (e : nkD d = some k) (hd : d ∉ ks) : k ∉ nks := fun z => by
  obtain ⟨d', h1, h2⟩ := nksD_mem h.ok.keys z
  exact hd (nkD_inj h2 e ▸ h1)
theorem NR.none (h : NR X S H ks ds nks bs xs) {d : D} {k : NestedKey} (e : nkD d = some k) (hd : d ∉ ks) : valN (nz nks bs xs) k = none := valN_none (by rw [nz_keys h.lb h.lx]; exact h.no e hd)
theorem NR.put_old (h : NR X S H ks ds nks bs xs) {i : Nat} {d z : D} {k : NestedKey} {b : Addr} {v : V} (hi : ks[i]? = some d) (e : nkD d = some k) (rv : Rep (kf X) S H z v) :
    putN (nz nks bs xs) k b v = nz nks bs (xs.set i v) ∧ NR X S H ks (ds.set i z) nks bs (xs.set i v) := by
  obtain ⟨k', hk, e'⟩ := nksD_get h.ok.keys hi
  rw [e] at e'; cases e'
  refine ⟨?_, h.ok, h.rk, h.rd.set rv i, by rw [List.length_set]; exact h.len⟩
  unfold putN
  rw [any_key, nz_keys h.lb h.lx, decide_eq_true (List.mem_of_getElem? hk), if_pos rfl]
  exact nz_set h.lb h.lx h.ok.nd hk
theorem NR.put_new (h : NR X S H ks ds nks bs xs) {d z : D} {k : NestedKey} {b : Addr} {v : V} (hd : d ∉ ks) (e : nkD d = some k) (dep : k.depth ≤ 8) (rb : Rep (kf X) S H d (.ref b)) (rv : Rep (kf X) S H z v) :
    putN (nz nks bs xs) k b v = nz (nks ++ [k]) (bs ++ [b]) (xs ++ [v]) ∧ NR X S H (ks ++ [d]) (ds ++ [z]) (nks ++ [k]) (bs ++ [b]) (xs ++ [v]) := by
  have nk := h.no e hd
  refine ⟨?_, ⟨nksD_app h.ok.keys (nksD_cons e rfl), ?_, fun q hq => ?_⟩, ?_, h.rd.append (Reps.cons rv Reps.nil), by rw [List.length_append, List.length_append, h.len]; rfl⟩
  · unfold putN
    rw [any_key, nz_keys h.lb h.lx, decide_eq_false nk, if_neg Bool.false_ne_true]
    exact nz_app h.lb h.lx
  · rw [List.nodup_append]
    exact ⟨h.ok.nd, by simp, fun a ha b hb => by rw [List.mem_singleton.mp hb]; exact fun z => nk (z ▸ ha)⟩
  · rcases List.mem_append.mp hq with hq | hq
    · exact h.ok.dep q hq
    · rw [List.mem_singleton.mp hq]; exact dep
  · rw [List.map_append]
    exact h.rk.append (Reps.cons rb Reps.nil)
end
def tNGet (X : Cx) (td ty : TE) : TE := fun σ H Q => td σ H fun x H1 => ty σ H1 fun y H2 => ∃ a b rows k v, x = .ref a ∧ y = .ref b ∧ NdAt X.w H2 a rows ∧ RowsOk X H2 rows ∧ NkAt X H2 k (.ref b) ∧ k.depth ≤ 8 ∧ valN rows k = some v ∧ Q v H2
def tNIn (X : Cx) (neg : Bool) (ty td : TE) : TE := fun σ H Q => ty σ H fun y H1 => td σ H1 fun x H2 => ∃ a b rows k, x = .ref a ∧ y = .ref b ∧ NdAt X.w H2 a rows ∧ RowsOk X H2 rows ∧ NkAt X H2 k (.ref b) ∧ k.depth ≤ 8 ∧ Q (.bl ((valN rows k).isSome ^^ neg)) H2
def sNPut (X : Cx) (td ty tv : TE) : TS := fun D σ H => tv σ H fun v H1 => td σ H1 fun x H2 => ty σ H2 fun y H3 => ∃ a b rows k, x = .ref a ∧ y = .ref b ∧ H3 a = some (ndO X.w a rows) ∧ RowsOk X H3 rows ∧ NkAt X H3 k (.ref b) ∧ k.depth ≤ 8 ∧ rows.length < sizeLine ∧ D.nx σ (upd H3 a (ndO X.w a (putN rows k b v)))
section
variable {X : Cx} {o i e value : Expr} {pos pos' tpos : Pos} {td ty tv : TE}
theorem nd_type {pins : List (Addr × Obj)} {σ : St} {H : Hp} {s : Shared} {a : Addr} {rows : List NRow} (I : Inv X pins σ H s) (e : NdAt X.w H a rows) (ok : RowsOk X H rows) : s.TypeIs (.ref a) "dict" := by
  obtain ⟨_, _, xs, _, dd⟩ := nd_of I e ok
  exact dd.typeIs
theorem pe_nget (hu : X.A.units + 66 < cLine) (ho : PE X o td) (hi : PE X i ty) (hs : NoSl i) : PE X (.Subscript o i pos) (tNGet X td ty) := by
  refine ⟨fun pins s σ H Q I h => ?_⟩
  refine subD_of PySem.F.slot_dict_getitem.lookup hs (thn (ho.run pins s σ H _ I h) fun u s1 ⟨x, H1, I1, rx, q1⟩ => thn (hi.run pins s1 σ H1 _ I1 q1) fun iv s2 ⟨y, H2, I2, ry, a, b, rows, k, v, ex, ey, e, ok, hk, hd, hv, q2⟩ => ?_)
  subst ex ey
  obtain rfl : u = Value.ref a := rx
  obtain rfl : iv = Value.ref b := ry
  exact ⟨nd_type I2 e ok, n_getItem hu I2 e ok hk hd hv fun w' s3 I3 rw' => ⟨v, H2, I3, rw', q2⟩⟩
theorem pc_nnotin (hu : X.A.units + 66 < cLine) (hi : PE X i ty) (ho : PE X o td) : PC X .NotIn i o (tNIn X true ty td) := by
  refine ⟨fun pins s σ H Q I h => ?_⟩
  refine thn (hi.run pins s σ H _ I h) fun iv s1 ⟨y, H1, I1, ry, q1⟩ => thn (ho.run pins s1 σ H1 _ I1 q1) fun u s2 ⟨x, H2, I2, rx, a, b, rows, k, ex, ey, e, ok, hk, hd, q2⟩ => ?_
  subst ex ey
  obtain rfl : u = Value.ref a := rx
  obtain rfl : iv = Value.ref b := ry
  rw [Bool.xor_true] at q2
  exact n_notIn hu I2 e ok hk hd fun s3 I3 => ⟨.bl (!(valN rows k).isSome), H2, I3, rfl, q2⟩
theorem ps_nput (hu : X.A.units + 66 < cLine) (ho : PE X o td) (hi : PE X i ty) (hv : PE X value tv) (hs : swapsWith value (some (.Subscript o i pos')) pos.line X.env = pure false) :
    PS X (.Assign [.Subscript o i pos'] value pos) (sNPut X td ty tv) := by
  refine ⟨fun pins s σ H D I h => ?_⟩
  refine wpAny_Assign_Subscript (thn (hv.run pins s σ H _ I h) fun r s1 ⟨v, H1, I1, rv, q1⟩ => thn (ho.run pins s1 σ H1 _ I1 q1) fun u s2 ⟨x, H2, I2, rx, q2⟩ => thn (hi.run pins s2 σ H2 _ I2 q2) fun iv s3 ⟨y, H3, I3, ry, a, b, rows, k, ex, ey, e, ok, hk, hd, hl, q3⟩ => ?_) hs
  subst ex ey
  obtain rfl : u = Value.ref a := rx
  obtain rfl : iv = Value.ref b := ry
  exact n_setItem hu I3 e ok hk hd hl rv fun s4 I4 => ⟨σ, _, I4, q3⟩
def tNNew (X : Cx) : TE := fun _ H Q => ∀ p, H p = none → Q (.ref p) (upd H p (ndO X.w p []))
theorem nd_empty {P : Program} {w : World} {H : Hp} (h : Heap) (hb : sysModules < h.objs.size) : ObjOk P w H (h.push { cls := .type "dict", data := .dict #[] }) h.objs.size (ndO w h.objs.size []) :=
  nd_new (xs := []) (Nat.zero_le _) (beq_eq_false_iff_ne.mpr (Ne.symm (Nat.ne_of_lt hb))) .nil (Heap.DictOfH.new (knd := nestedKind P w) h)
theorem pe_nnew : PE X (.Dict [] [] pos) (tNNew X) := ⟨fun pins s σ H Q I h =>
  wpAny_Dict_empty ⟨.ref s.heap.objs.size, _, I.laid (a := s.heap.objs.size) (o := ndO X.w s.heap.objs.size []) (t' := s.toks) (fun _ _ q => Heap.get?_push_of_some _ q) (Nat.le_refl _) (nd_empty s.heap I.big), rfl, h _ (I.hok.fresh (Nat.le_refl _))⟩⟩
end
abbrev Sl.on (kvs : List (D × D)) : Sl := .om (.dN kvs)
section
variable {X : Cx} {Wx : WX} {st : Stmt} {rest : List Stmt} {f g : TSD} {e o a b c i : Expr} {es : List Expr} {fe fo fa fb fc fi : TD} {fl : TL} {pos : Pos}
theorem rep_tup {S : Reg} {H : Hp} {K : KF} {d : D} {v : V} (h : isNk d = true) (r : Rep K S H d v) : ∃ b k, v = .ref b ∧ nkD d = some k ∧ k.depth ≤ 8 := by
  obtain ⟨ds, ks, rfl, e, dep⟩ := isNk_of h
  obtain ⟨b, xs, rfl, _⟩ := Rep.tup_iff.mp r
  exact ⟨b, _, rfl, e, dep⟩
/-- d[k] of a dict that stands -/
def dNGet (fo fi : TD) : TD := fun ρ W Q Qx => fo ρ W (fun x ρ1 W1 => fi ρ1 W1 (fun y ρ2 W2 => match x with
  | .dtt ks ds => isNk y = true ∧ ∃ (i : Nat) (z : D), ks[i]? = some y ∧ ds[i]? = some z ∧ Q z ρ2 W2
  | _ => False) Qx) Qx
theorem Rep.dtt_nr {S : Reg} {H : Hp} {ks ds : List D} {v : V} (h : Rep (kf X) S H (.dtt ks ds) v) : ∃ a nks bs xs, v = .ref a ∧ NdAt X.w H a (nz nks bs xs) ∧ ¬ S a ∧ NR X S H ks ds nks bs xs := by
  obtain ⟨a, o, nks, bs, xs, rfl, ⟨h1, hs⟩, ⟨h2, h3⟩, h4, h5⟩ := Rep.dtt_iff.mp h
  exact ⟨a, nks, bs, xs, rfl, .inr ⟨o, h1⟩, hs, h3, h4, h5, h2⟩
theorem ge_nget (hu : X.A.units + 66 < cLine) (ho : GE X Wx o fo) (hi : GE X Wx i fi) (hs : NoSl i) : GE X Wx (.Subscript o i pos) (dNGet fo fi) := by
  obtain ⟨to, po, so⟩ := ho
  obtain ⟨ti, pi, si⟩ := hi
  refine ⟨_, pe_nget hu po pi hs, fun F S H σ ρ W Q Qx R cf hf hx hE => ?_⟩
  refine so F S H σ ρ W _ Qx _ cf hf hx fun S1 H1 ρ1 W1 d v e1 c1 r1 q1 => ?_
  refine si F S1 H1 σ ρ1 W1 _ Qx _ c1 q1 (hx.up e1) fun S2 H2 ρ2 W2 d2 v2 e2 c2 r2 q2 => ?_
  split at q2
  · rename_i ks ds
    obtain ⟨hk, j, z, h1, h2, q⟩ := q2
    obtain ⟨p, nks, bs, xs, rfl, hp, _, nr⟩ := (r1.up e2).dtt_nr
    obtain ⟨b, k, rfl, ek, dep⟩ := rep_tup hk r2
    obtain ⟨k', x, ek', hv, rx⟩ := nr.at_ h1 h2
    rw [ek] at ek'; cases ek'
    exact ⟨p, b, _, k, x, rfl, rfl, hp, nr.rows, nkAt_of r2 ek, dep, hv, hE S2 H2 ρ2 W2 z x (e1.trans e2) c2 rx q⟩
  · exact q2.elim
theorem MRep.nr {S : Reg} {H : Hp} {p : Addr} {kvs : List (D × D)} (h : MRep (kf X) S H p (.dN kvs)) : ∃ nks bs xs, H p = some (ndO X.w p (nz nks bs xs)) ∧ NR X S H (kvs.map (·.1)) (kvs.map (·.2)) nks bs xs := by
  obtain ⟨nks, bs, xs, h1, h2, h3, h4⟩ := h
  exact ⟨nks, bs, xs, h1, h2, h3, h4, by rw [List.length_map, List.length_map]⟩
theorem NR.mrep {S : Reg} {H : Hp} {p : Addr} {kvs : List (D × D)} {nks : List NestedKey} {bs : List Addr} {xs : List V} (h1 : H p = some (ndO X.w p (nz nks bs xs))) (h : NR X S H (kvs.map (·.1)) (kvs.map (·.2)) nks bs xs) : MRep (kf X) S H p (.dN kvs) := ⟨nks, bs, xs, h1, h.ok, h.rk, h.rd⟩
/-- x[k] = e, x the frame's own dict -/
def dNPutO (j : Nat) (fe fi : TD) : TSD := fun De ρ W => fe ρ W (fun d ρ1 W1 => (∃ kvs, ρ1[j]? = some (some (.on kvs))) ∧ fi ρ1 W1 (fun y ρ2 W2 => match ρ2[j]? with
  | some (some (.om (.dN kvs))) => isNk y = true ∧ kvs.length < sizeLine ∧ (∀ (i : Nat) (z : D), kvs[i]? = some (y, z) → De.nx (ρ2.set j (some (.on (kvs.set i (y, d))))) W2) ∧ ((∀ q ∈ kvs, q.1 ≠ y) → De.nx (ρ2.set j (some (.on (kvs ++ [(y, d)])))) W2)
  | _ => False) De.ex) De.ex
theorem map_set_fst {kvs : List (D × D)} {i : Nat} {y z d : D} (h : kvs[i]? = some (y, z)) : (kvs.set i (y, d)).map (·.1) = kvs.map (·.1) := by
  rw [List.map_set]
  refine List.ext_getElem? fun j => ?_
  by_cases e : i = j
  · subst e
    have hi := (List.getElem?_eq_some_iff.mp h).1
    rw [List.getElem?_set_self (by rw [List.length_map]; exact hi), List.getElem?_map, h]; rfl
  · rw [List.getElem?_set_ne e]
theorem gs_nputO {j : Nat} {x : Str} {px tpos : Pos} (hu : X.A.units + 66 < cLine) (he : GE X Wx e fe) (hi : GE X Wx i fi) (hN : X.N[j]? = some x := by rfl) (hv : Vis X.env.scope x := by first | exact Or.inl rfl | exact Or.inr (Or.inl rfl) | exact Or.inr (Or.inr rfl)) (hd : (x == ("__debug__" : Str)) = false := by decide) (hcd : (x == ("__classdict__" : Str)) = false := by decide)
    (hs : swapsWith e (some (.Subscript (.Name x px) i tpos)) pos.line X.env = pure false := by rfl) : GS X Wx (.Assign [.Subscript (.Name x px) i tpos] e pos) (dNPutO j fe fi) := by
  obtain ⟨te, pe, se⟩ := he
  obtain ⟨ti, pi, si⟩ := hi
  refine ⟨_, ps_nput hu (pe_var hN hv hd hcd) pi pe hs, fun F S H σ ρ W De Dh cf hf l => ?_⟩
  refine se F S H σ ρ W _ De.ex _ cf hf l.ex fun S1 H1 ρ1 W1 d v e1 c1 r1 q1 => ?_
  obtain ⟨⟨kvs0, h0⟩, q1⟩ := q1
  obtain ⟨p, hp, _⟩ := c1.om j _ h0
  refine ⟨_, hp, ?_⟩
  refine si F S1 H1 σ ρ1 W1 _ De.ex _ c1 q1 (l.ex.up e1) fun S2 H2 ρ2 W2 d2 v2 e2 c2 r2 q2 => ?_
  split at q2
  · rename_i kvs hk0
    obtain ⟨hk, hl, q3, q4⟩ := q2
    obtain ⟨p', hp', mr, _⟩ := c2.om j _ hk0
    rw [hp] at hp'; cases hp'
    obtain ⟨nks, bs, xs, h1, nr⟩ := mr.nr
    obtain ⟨b, k, rfl, ek, dep⟩ := rep_tup hk r2
    have r1' := r1.up e2
    have hl2 : (nz nks bs xs).length < sizeLine := by rw [nz_len nr.lb nr.lx, nr.lk, List.length_map]; exact hl
    refine ⟨p, b, _, k, rfl, rfl, h1, nr.rows, nkAt_of r2 ek, dep, hl2, ?_⟩
    by_cases hin : d2 ∈ kvs.map (·.1)
    · obtain ⟨q0, hq0, eq0⟩ := List.mem_map.mp hin
      obtain ⟨i0, hi0, ei0⟩ := List.mem_iff_getElem.mp hq0
      have hget : kvs[i0]? = some (d2, q0.2) := by rw [List.getElem?_eq_getElem hi0, ei0, ← eq0]
      obtain ⟨p1, p2⟩ := nr.put_old (i := i0) (d := d2) (z := d) (b := b) (by rw [List.getElem?_map, hget]; rfl) ek r1'
      have p3 : NR X S2 H2 ((kvs.set i0 (d2, d)).map (·.1)) ((kvs.set i0 (d2, d)).map (·.2)) nks bs (xs.set i0 v) := by
        rw [map_set_fst hget, List.map_set]; exact p2
      obtain ⟨st, c4⟩ := c2.chOm (u := ndO X.w p (putN (nz nks bs xs) k b v)) (o1 := .dN (kvs.set i0 (d2, d))) hk0 hp fun S' H' e' hh => (p3.up e').mrep (by rw [hh, p1])
      exact l.nx _ _ _ _ _ ((e1.trans e2).trans st) c4 (q3 i0 _ hget)
    · obtain ⟨p1, p2⟩ := nr.put_new hin ek dep r2 r1'
      have p3 : NR X S2 H2 ((kvs ++ [(d2, d)]).map (·.1)) ((kvs ++ [(d2, d)]).map (·.2)) (nks ++ [k]) (bs ++ [b]) (xs ++ [v]) := by
        rw [List.map_append, List.map_append]; exact p2
      obtain ⟨st, c4⟩ := c2.chOm (u := ndO X.w p (putN (nz nks bs xs) k b v)) (o1 := .dN (kvs ++ [(d2, d)])) hk0 hp fun S' H' e' hh => (p3.up e').mrep (by rw [hh, p1])
      exact l.nx _ _ _ _ _ ((e1.trans e2).trans st) c4 (q4 fun q hq z => hin (List.mem_map.mpr ⟨q, hq, z⟩))
  · exact q2.elim
/-- k in x, x the frame's own dict -/
def dNInO (neg : Bool) (fe : TD) (j : Nat) : TD := fun ρ W Q Qx => fe ρ W (fun d ρ' W' => match ρ'[j]? with
  | some (some (.om (.dN kvs))) => isNk d = true ∧ ((∃ q ∈ kvs, q.1 = d) → Q (.bl (!neg)) ρ' W') ∧ ((∀ q ∈ kvs, q.1 ≠ d) → Q (.bl neg) ρ' W')
  | _ => False) Qx
theorem snd_ninO {neg : Bool} (j : Nat) {te : TE} (se : Snd (kf X) Wx te fe) : Snd (kf X) Wx (tNIn X neg te (tVar j)) (dNInO neg fe j) := by
  intro F S H σ ρ W Q Qx R cf hf hx hE
  refine se F S H σ ρ W _ Qx _ cf hf hx fun S1 H1 ρ1 W1 d v e1 c1 r1 q1 => ?_
  split at q1
  · rename_i kvs hk0
    obtain ⟨hk, qy, qn⟩ := q1
    obtain ⟨p, hp, mr, _⟩ := c1.om j _ hk0
    refine ⟨_, hp, ?_⟩
    obtain ⟨nks, bs, xs, h1, nr⟩ := mr.nr
    obtain ⟨b, k, rfl, ek, dep⟩ := rep_tup hk r1
    refine ⟨p, b, _, k, rfl, rfl, .inl h1, nr.rows, nkAt_of r1 ek, dep, ?_⟩
    by_cases hin : d ∈ kvs.map (·.1)
    · obtain ⟨q0, hq0, eq0⟩ := List.mem_map.mp hin
      obtain ⟨i0, hi0, ei0⟩ := List.mem_iff_getElem.mp hq0
      have hget : kvs[i0]? = some (d, q0.2) := by rw [List.getElem?_eq_getElem hi0, ei0, ← eq0]
      obtain ⟨k', y, ek', hv, _⟩ := nr.at_ (i := i0) (d := d) (z := q0.2) (by rw [List.getElem?_map, hget]; rfl) (by rw [List.getElem?_map, hget]; rfl)
      rw [ek] at ek'; cases ek'
      rw [hv]
      have : ((some y).isSome ^^ neg) = !neg := by cases neg <;> rfl
      rw [this]
      exact hE S1 H1 ρ1 W1 _ _ e1 c1 (Rep.v_iff.mpr rfl) (qy ⟨q0, hq0, eq0⟩)
    · rw [nr.none ek hin]
      have : ((none : Option V).isSome ^^ neg) = neg := by cases neg <;> rfl
      rw [this]
      exact hE S1 H1 ρ1 W1 _ _ e1 c1 (Rep.v_iff.mpr rfl) (qn fun q hq z => hin (List.mem_map.mpr ⟨q, hq, z⟩))
  · exact q1.elim
theorem gt_nniO (j : Nat) {x : Str} {px : Pos} (hu : X.A.units + 66 < cLine) (he : GE X Wx e fe) (hN : X.N[j]? = some x := by rfl) (hv : Vis X.env.scope x := by first | exact Or.inl rfl | exact Or.inr (Or.inl rfl) | exact Or.inr (Or.inr rfl)) (hd : (x == ("__debug__" : Str)) = false := by decide) (hcd : (x == ("__classdict__" : Str)) = false := by decide) :
    GT X Wx (.Compare e [.NotIn] [.Name x px] pos) (dBool (dNInO true fe j)) := by
  obtain ⟨te, pe, se⟩ := he
  exact ⟨_, pt_cmp (pc_nnotin hu pe (pe_var hN hv hd hcd)), snd_tB (snd_ninO j se)⟩
/-- x = {}, the dict the frame's own, of tuple keys -/
def dAsgN (j : Nat) : TSD := fun De ρ W => De.nx (ρ.set j (some (.on []))) W
theorem gs_setN {j : Nat} {x : Str} {pos' p2 : Pos} (hN : X.N.Nodup) (hi : X.N[j]? = some x) (hx : Loc X.env.scope x) (hf : X.fn x = true ∨ X.env.scope.names.lookup x = some .local := by first | exact .inl rfl | exact .inr rfl | assumption) (hs : swapsWith (.Dict [] [] p2) (some (.Name x pos')) pos.line X.env = pure false := by rfl) :
    GS X Wx (.Assign [.Name x pos'] (.Dict [] [] p2) pos) (dAsgN j) := by
  refine ⟨_, ps_set hN hi hx pe_nnew hs hf, fun F S H σ ρ W De Dh cf hf l => ?_⟩
  intro p hp
  obtain ⟨st, c2⟩ := cf.newOm (u := ndO X.w p []) (o := .dN []) j hp fun S2 H2 e2 hh => ⟨[], [], [], hh, nkok_nil, Reps.nil, Reps.nil⟩
  exact l.nx _ _ _ _ W st c2 hf
/-- nobody changes the dict of slot j from here on -/
def dFrzN (j : Nat) (f : TSD) : TSD := fun De ρ W => match ρ[j]? with
  | some (some (.om (.dN kvs))) => f De (ρ.set j (some (.sh (.dtt (kvs.map (·.1)) (kvs.map (·.2)))))) W
  | _ => False
/-- ahead of st the dict of slot j is locked for good -/
def tLockS (j : Nat) (t : TS) : TS := fun D σ H => ∃ p u, σ[j]? = some (some (.ref p)) ∧ H p = some u ∧ Mut (some u) ∧ ∀ od, t D σ (upd H p (.frz od u))
theorem pss_lockS {t : TS} (j : Nat) (h : PSs X rest t) : PSs X rest (tLockS j t) := ⟨fun pins s σ H D I ⟨p, u, _, e, mu, q⟩ => by
  obtain ⟨od, I1⟩ := I.lock e mu
  exact h.run pins s σ _ D I1 (q od)⟩
theorem gss_frzN (j : Nat) (h : GSs X Wx rest f) : GSs X Wx rest (dFrzN j f) := by
  obtain ⟨t, p, s⟩ := h
  refine ⟨_, pss_lockS j p, fun F S H σ ρ W De Dh cf hf l => ?_⟩
  unfold dFrzN at hf
  split at hf
  · rename_i kvs h0
    obtain ⟨a, ha, mr, _⟩ := cf.om j _ h0
    obtain ⟨nks, bs, xs, h1, nr⟩ := mr.nr
    refine ⟨a, _, ha, h1, True.intro, fun od => ?_⟩
    obtain ⟨st, c1⟩ := cf.chOm (u := .frz od (ndO X.w a (nz nks bs xs))) (o1 := .dL kvs) h0 ha fun S' H' e' hh => ⟨od, nks, bs, xs, hh, nr.ok, (nr.up e').rk, (nr.up e').rd⟩
    have hl : j < ρ.length := (List.getElem?_eq_some_iff.mp h0).1
    obtain ⟨S', e, c2⟩ := c1.freezeM (d := .dtt (kvs.map (·.1)) (kvs.map (·.2))) (List.getElem?_set_self hl) fun p S' _ hn mr => by
      obtain ⟨o, nks, bs, xs, h1, h2, h3, h4⟩ := mr
      exact Rep.dtt_iff.mpr ⟨p, o, nks, bs, xs, rfl, ⟨h1, hn⟩, ⟨by rw [List.length_map, List.length_map], h2⟩, h3, h4⟩
    rw [List.set_set] at c2
    exact s F S' _ σ _ W De Dh c2 hf (l.up (st.trans e))
  · exact hf.elim
end
end G
namespace G
open PySem PySem.Spec L2 PyProof.Rows
open Sem (wp)
theorem meets_enum1 {v : Value} {o : Obj} {H : Heap → Prop} (B : Begins v o H) :
    Meets (Builtin.«enumerate.__new__» ⟨[.type "enumerate", v], []⟩) (fun _ R s => H s.heap ∧
      R (.ok (.ret (.ref (s.heap.push o).objs.size))) { s with heap := (s.heap.push o).push { cls := .type "enumerate", data := .fields #[.none, .bool false, .ref s.heap.objs.size, rawInt 0, .none, .none] } }) :=
  .of_wp fun prog w A R s h => by
    obtain ⟨hp, g, d, tk, os⟩ := s; obtain ⟨h1, h⟩ := h
    have hsub := sub_enumerate
    have q1 : ∀ {A' : Around} {E : Value → Shared → Prop} {Q : Value → Shared → Prop}, Q (.ref hp.objs.size) ⟨hp.push o, g, d, tk, os⟩ → wpAny (model prog w) A' (pyIter v) Q E ⟨hp, g, d, tk, os⟩ :=
      fun q => B.iter prog w _ _ ⟨hp, g, d, tk, os⟩ _ h1 q
    wp_walk using q1
    refine wpAny_stack_any fun st => wpAny_pure ?_
    split
    · rename_i c _ _ _ _ _
      cases (c == Value.type "enumerate")
      · wp_walk using q1
        exact ⟨_, rfl, h⟩
      · wp_walk using q1
        exact ⟨_, rfl, h⟩
    · wp_walk using q1
      exact ⟨_, rfl, h⟩
section
variable {prog : Program} {w : World} {A : Around} {E : Value → Shared → Prop} {s : Shared}
theorem enum1_begins {v : Value} {o : Obj} {H : Heap → Prop} {Q : Value → Shared → Prop} (B : Begins v o H) (h1 : H s.heap)
    (h : ∀ h', IsEnum h' (s.heap.objs.size + 1) s.heap.objs.size 0 .none → h'.get? s.heap.objs.size = some o → h'.objs.size = s.heap.objs.size + 2 →
      (∀ b o, s.heap.get? b = some o → h'.get? b = some o) → Q (.ref (s.heap.objs.size + 1)) { s with heap := h' }) :
    wpAny (model prog w) A (call (.type "enumerate") [v]) Q E s := by
  refine callType_new F.called_enumerate (by decide) (F.typeCall_enumerate_1 _) (F.newCall_enumerate_1 _) (fun obj => F.args_object_init_2 obj _) F.entry_enumerate_new
    (meets_enum1 B) ⟨h1, ?_⟩
  have hz : (s.heap.push o).objs.size = s.heap.objs.size + 1 := Heap.size_push ..
  show _ ∧ _
  rw [hz]
  have he : IsEnum ((s.heap.push o).push { cls := .type "enumerate", data := .fields #[.none, .bool false, .ref s.heap.objs.size, rawInt 0, .none, .none] }) (s.heap.objs.size + 1) s.heap.objs.size 0 .none := by
    have := Heap.get?_push_size (s.heap.push o) (o := { cls := .type "enumerate", data := .fields #[.none, .bool false, .ref s.heap.objs.size, rawInt 0, .none, .none] }) rfl
    rw [hz] at this; exact this
  refine ⟨⟨_, he, rfl⟩, h _ he (Heap.get?_push_of_some _ (Heap.get?_push_size _ B.free)) (by rw [Heap.size_push, hz]) fun b o x => Heap.get?_push_of_some _ (Heap.get?_push_of_some _ x)⟩
end
def IteT (K : PySem.W.Frag) (a : Addr) : It :=
  ⟨fun i H => ∃ (xs : List V) (x : V), SqT K H a xs ∧ xs[i]? = some x, fun i H v H' => ∃ T x, v = .ref T ∧ H T = none ∧ H' = upd H T (.tup [.int (i : Nat), x]) ∧ ∀ xs, SqT K H a xs → xs[i]? = some x, fun i H => ∃ xs : List V, SqT K H a xs ∧ xs.length ≤ i⟩
theorem turn_enumT {P : Program} {w : World} {K : PySem.W.Frag} {elts : List Expr} {kk : Nat} {tpos : Pos} (a e it : Addr) :
    Turn P w K (.Tuple elts kk tpos) (IteT K a) [e, it] e (fun i h => (∃ old, IsEnum h e it ((i : Nat) : Int) old) ∧ h.IsTupleIter it a i ∧ e ≠ it ∧ a ≠ it ∧ e ≠ a) where
  mem := by simp
  obj := fun i h st b hb => by
    obtain ⟨⟨old, he⟩, ⟨o, ho, hc, hd⟩, _⟩ := st
    have e' : b = e ∨ b = it := by simpa using hb
    rcases e' with z | z
    · rw [z]; exact ⟨_, he, fun v q => nomatch q⟩
    · rw [z]; exact ⟨o, ho, fun v q => by rw [hd] at q; cases q⟩
  keep := fun i h h' st k => let ⟨⟨old, he⟩, hi, hne⟩ := st; ⟨⟨old, k e (by simp) _ he⟩, hi.at fun o q => k it (by simp) o q, hne⟩
  item := by
    intro X hP hw hK hc i pins s σ H E I hf st hg
    subst hP hw hK
    obtain ⟨⟨old, he⟩, hit, hne, hai, hea⟩ := st
    obtain ⟨xs, x, hq, hx⟩ := hg
    obtain ⟨its, rv, p, hz⟩ := I.tuple hq
    obtain ⟨u, hu, ru⟩ := rv.get hx
    have hel : e < s.heap.objs.size := Heap.lt_size he
    have hil : it < s.heap.objs.size := by obtain ⟨_, q, _⟩ := hit; exact Heap.lt_size q
    have D : Draws X.prog X.w X.A.in1 it [it, a] its.toArray.size (fun i v => its.toArray[i]? = some v) (fun i h => h.IsTupleIter it a i ∧ h.IsTuple a its.toArray) := Draws.tuple (by simp [I.ok.hd hc]) it a hai its.toArray
    have hlt : i < its.toArray.size := by
      have := (List.getElem?_eq_some_iff.mp hu).1
      simpa using this
    refine wpAny_pyNext_enum_itemD D he ⟨hit, p⟩ hlt hne (by simp; exact ⟨hne, hea⟩) fun x' h' tk hP ho hst' hT hsz hk => ?_
    have ex : x' = u := by
      have : its[i]? = some x' := by simpa using hP
      rw [hu] at this; cases this; rfl
    subst ex
    have hit' := hst'.1
    refine ⟨_, rfl, wpAny_letOwnedTupleGo_enum (s := { s with heap := h', toks := tk + 1 }) ho fun h'' he' sb => ?_⟩
    have hT2 : h''.get? s.heap.objs.size = some { cls := .type "tuple", data := .seq #[.int i tk, x'] } := (sb.2 _ (Nat.ne_of_gt hel)).trans hT
    have new : ObjOk X.prog X.w (upd H s.heap.objs.size (.tup [.int (i : Nat), x])) h'' s.heap.objs.size (.tup [.int (i : Nat), x]) :=
      ⟨by show 2 ≤ sizeLine; decide, [.int i tk, x'], .cons ⟨_, rfl⟩ (.cons ru .nil), ⟨_, hT2, rfl, _, rfl⟩⟩
    have I1 : Inv X pins σ (upd H s.heap.objs.size (.tup [.int (i : Nat), x])) { s with heap := h'', toks := tk + 1 } :=
      I.turnedNew (ch := [e, it]) (fun b ob hb q => (sb.2 b (fun z => hb (by simp [z]))).trans (hk b ob (fun z => hb (by simp [z])) (fun z => hb (by simp [z])) q)) hf (Nat.le_refl _) new
    refine ⟨.ref s.heap.objs.size, _, I1, rfl, ⟨_, x, rfl, I.hok.fresh (Nat.le_refl _), rfl, fun ys hy => by rw [I.tuple_inj hy hq]; exact hx⟩, ⟨⟨x', ?_⟩, hit'.at fun o q => (sb.2 it (Ne.symm hne)).trans q, hne, hai, hea⟩, fun b hb => ?_⟩
    · have e1 : ((i + 1 : Nat) : Int) = (i : Int) + 1 := by omega
      rw [e1]; exact he'
    · have hb' : b < s.heap.objs.size := by
        have e' : b = e ∨ b = it := by simpa using hb
        rcases e' with z | z
        · rw [z]; exact hel
        · rw [z]; exact hil
      rw [upd_ne (Nat.ne_of_lt hb')]
      exact (hf b hb).1
  done := by
    intro X hP hw hK hc i pins s σ H E I hf st hg
    subst hP hw hK
    obtain ⟨⟨old, he⟩, hit, hne, hai, hea⟩ := st
    obtain ⟨xs, hq, hx⟩ := hg
    obtain ⟨its, rv, p, hz⟩ := I.tuple hq
    obtain ⟨f0, f1, f2, f3, f4, f5⟩ := hf it (by simp)
    have hl := rv.length
    have hT : s.TypeIs (.ref e) "enumerate" := ⟨_, he, rfl⟩
    unfold pyNext
    refine wpAny_bind (wpAny_attempt (wpAny_callSpecial?_slot (name := Str.ofString "__next__") hT PySem.F.slot_enumerate_next
      (wpAny_call_entry PySem.F.slot_enumerate_next hT PySem.F.entry_enumerate_next ?_ (PySem.F.args_enumerate_next_1 _))))
    show wpAny _ _ (field (.ref e) 2 >>= _) _ _ _
    refine wpAny_bind (wpAny_field he rfl (x := .ref it) rfl ?_)
    refine wpAny_bind (wpAny_nextOf_tuple_end (by simp [I.ok.hd hc]) hit p (by simp; omega) fun h' x he' hx' => ?_)
    obtain ⟨o, ho, hc2⟩ := hx'
    refine wpAny_bind (wpAny_isInstance (T := "StopIteration") (b := true) ⟨o, ho, hc2⟩ isSubtype_stop ?_)
    exact wpAny_pure ⟨rfl, I.turned (t' := s.toks) (fun b o hb q => he' b o hb q) f0 f1 f3 f4 f5⟩
  self := fun A i s Q E st h => let ⟨⟨_, he⟩, _⟩ := st; wpAny_pyIter_enum he h
def iEnumA (K : PySem.W.Frag) (ta : TA) : TI := fun σ H R => ta σ H fun vs H1 => ∃ a xs, vs = [.ref a] ∧ ((SqL K H1 a xs ∧ R (Ite K a) H1) ∨ (SqT K H1 a xs ∧ R (IteT K a) H1))
theorem pi_enumA {X : Cx} {e : Expr} {ta : TA} {p pos tpos : Pos} {elts : List Expr} {kk : Nat} (hg : Gl X "enumerate") (hm : X.mg "enumerate" = none) (ha : PA X [e] ta) (hs : starEach [e] X.env = [(false, eval e X.env)] := by rfl) :
    PI X (.Tuple elts kk tpos) (.Call (.Name "enumerate" p) [e] [] pos) (iEnumA X.K ta) := by
  refine ⟨fun pins s σ H R I h => ?_⟩
  refine Call_ (ld_blt I hg hm boot_enumerate (PyProof.Rows.callWith_type1 (thn (ha.run pos pins s σ H _ I h) fun us s1 ⟨vs, H1, I1, r1, q1⟩ => ?_) hs rfl))
  obtain ⟨a, xs, ex, q⟩ := q1
  subst ex
  cases r1 with
  | cons r rr =>
    cases rr
    cases r
    rcases q with ⟨hq, q⟩ | ⟨hq, q⟩
    · obtain ⟨its, rv, p', hz⟩ := I1.list hq
      refine call_enumerate_list p'.isList fun h' he hit hsz hk => wpAny_pyIter_enum he ?_
      have I2 : Inv X pins σ H1 { s1 with heap := h' } := I1.kept (t' := s1.toks) hk
      refine ⟨s1.heap.objs.size + 1, [s1.heap.objs.size + 1, s1.heap.objs.size], _, _, H1, rfl, I2, turn_enum a (s1.heap.objs.size + 1) s1.heap.objs.size, ⟨⟨.none, he⟩, hit, Nat.succ_ne_self _⟩, fun b hb => ?_, q⟩
      have e' : b = s1.heap.objs.size + 1 ∨ b = s1.heap.objs.size := by simpa using hb
      have hle : s1.heap.objs.size ≤ b := by
        rcases e' with z | z
        · rw [z]; exact Nat.le_add_right _ _
        · rw [z]; exact Nat.le_refl _
      exact I1.fpOk hle (I1.hok.fresh hle)
    · obtain ⟨its, rv, p', hz⟩ := I1.tuple hq
      have pa : s1.heap.IsTuple a its.toArray := p'
      have al : a < s1.heap.objs.size := by obtain ⟨o, ho, _⟩ := p'; exact Heap.lt_size ho
      refine enum1_begins (begins_tuple a its.toArray) pa fun h' he hit hsz hk => wpAny_pyIter_enum he ?_
      have I2 : Inv X pins σ H1 { s1 with heap := h' } := I1.kept (t' := s1.toks) hk
      refine ⟨s1.heap.objs.size + 1, [s1.heap.objs.size + 1, s1.heap.objs.size], _, _, H1, rfl, I2, turn_enumT a (s1.heap.objs.size + 1) s1.heap.objs.size, ⟨⟨.none, he⟩, ⟨_, hit, rfl, rfl⟩, Nat.succ_ne_self _, Nat.ne_of_lt al, Nat.ne_of_gt (Nat.lt_succ_of_lt al)⟩, fun b hb => ?_, q⟩
      have e' : b = s1.heap.objs.size + 1 ∨ b = s1.heap.objs.size := by simpa using hb
      have hle : s1.heap.objs.size ≤ b := by
        rcases e' with z | z
        · rw [z]; exact Nat.le_add_right _ _
        · rw [z]; exact Nat.le_refl _
      exact I1.fpOk hle (I1.hok.fresh hle)
/-- the pairs (i, x) -/
def enumD (ds : List D) : List D := (List.range ds.length).zipWith (fun i d => D.tup [.int (i : Nat), d]) ds
theorem enumD_len {ds : List D} : (enumD ds).length = ds.length := by unfold enumD; simp
theorem enumD_get {ds : List D} {i : Nat} {d : D} (h : ds[i]? = some d) : (enumD ds)[i]? = some (.tup [.int (i : Nat), d]) := by
  unfold enumD
  have hi := (List.getElem?_eq_some_iff.mp h).1
  rw [List.getElem?_zipWith, h, List.getElem?_range hi]
theorem enumD_at {ds : List D} {i : Nat} {d : D} (h : (enumD ds)[i]? = some d) : ∃ x, ds[i]? = some x ∧ d = .tup [.int (i : Nat), x] := by
  have hi := (List.getElem?_eq_some_iff.mp h).1
  rw [enumD_len] at hi
  have hx : ds[i]? = some ds[i] := List.getElem?_eq_getElem hi
  rw [enumD_get hx] at h
  cases h
  exact ⟨_, hx, rfl⟩
theorem rep_ipair {K : KF} {S : Reg} {H : Hp} {i : Nat} {y : D} {w : V} {T : Addr} (hT : H T = none) (sd : ∀ a, S a → H a ≠ none) (ry : Rep K S H y w) : Rep K S (upd H T (.tup [.int (i : Nat), w])) (.tup [.int (i : Nat), y]) (.ref T) :=
  rep_pair hT sd (Rep.v_iff.mpr rfl) ry
theorem itok_en {K : KF} {F S : Reg} {H : Hp} {a : Addr} {xs : List V} {ds : List D} (ha : ImL S H a xs) (ra : Reps K S H ds xs) : ItOk K F S H (Ite K a) (enumD ds) := fun S' H' e => by
  have ha' : SqL K H' a xs := (e.imL ha).sq
  have ra' := ra.up e
  refine ⟨fun i d hd => ?_, ⟨xs, ha', by rw [enumD_len, ra'.length]; exact Nat.le_refl _⟩⟩
  obtain ⟨x, hx, rfl⟩ := enumD_at hd
  obtain ⟨v, hv, rv⟩ := ra'.get hx
  refine ⟨⟨xs, v, ha', hv⟩, fun z H3 ⟨T, v2, e1, hT, e3, h1⟩ => ?_⟩
  subst e1 e3
  have := h1 xs ha'
  rw [hv] at this; cases this
  exact ⟨same_new hT, fun sd => rep_ipair hT sd rv⟩
theorem itok_enT {K : KF} {F S : Reg} {H : Hp} {a : Addr} {xs : List V} {ds : List D} (ha : ImT K S H a xs) (ra : Reps K S H ds xs) : ItOk K F S H (IteT K a) (enumD ds) := fun S' H' e => by
  have ha' : SqT K H' a xs := (e.imT ha).sq
  have ra' := ra.up e
  refine ⟨fun i d hd => ?_, ⟨xs, ha', by rw [enumD_len, ra'.length]; exact Nat.le_refl _⟩⟩
  obtain ⟨x, hx, rfl⟩ := enumD_at hd
  obtain ⟨v, hv, rv⟩ := ra'.get hx
  refine ⟨⟨xs, v, ha', hv⟩, fun z H3 ⟨T, v2, e1, hT, e3, h1⟩ => ?_⟩
  subst e1 e3
  have := h1 xs ha'
  rw [hv] at this; cases this
  exact ⟨same_new hT, fun sd => rep_ipair hT sd rv⟩
def iEnumD (fl : TL) : TID := fun ρ W Q Qx => fl ρ W (fun ds ρ' W' => match ds with
  | [.lst xs] => Q (enumD xs) ρ' W'
  | [.tup xs] => Q (enumD xs) ρ' W'
  | _ => False) Qx
section
variable {X : Cx} {Wx : WX} {e : Expr} {fl : TL} {p pos tpos : Pos} {elts : List Expr} {kk : Nat}
theorem gi_enum (hg : Gl X "enumerate") (hm : X.mg "enumerate" = none) (ha : GA X Wx [e] fl) (hs : starEach [e] X.env = [(false, eval e X.env)] := by rfl) :
    GI X Wx (.Tuple elts kk tpos) (.Call (.Name "enumerate" p) [e] [] pos) (iEnumD fl) := by
  obtain ⟨ta, pa, sa⟩ := ha
  refine ⟨_, pi_enumA hg hm pa hs, fun F S H σ ρ W Q Qx R cf hf hx hE => ?_⟩
  refine sa F S H σ ρ W _ Qx _ cf hf hx fun S1 H1 ρ1 W1 ds vs e1 c1 r1 q1 => ?_
  split at q1
  · rename_i xs
    obtain ⟨x, r, rfl, h1, h2⟩ := Reps.cons_iff.mp r1
    rw [Reps.nil_iff.mp h2]
    obtain ⟨a, ys, rfl, h3, h4⟩ := Rep.lst_iff.mp h1
    exact ⟨a, ys, rfl, .inl ⟨h3.sq, hE S1 H1 ρ1 W1 _ _ e1 c1 (itok_en h3 h4) q1⟩⟩
  · rename_i xs
    obtain ⟨x, r, rfl, h1, h2⟩ := Reps.cons_iff.mp r1
    rw [Reps.nil_iff.mp h2]
    obtain ⟨a, ys, rfl, h3, h4⟩ := Rep.tup_iff.mp h1
    exact ⟨a, ys, rfl, .inr ⟨h3.sq, hE S1 H1 ρ1 W1 _ _ e1 c1 (itok_enT h3 h4) q1⟩⟩
  · exact q1.elim
end
end G
namespace G
open PySem PySem.Spec L2
def canI (K : KF) (Wx : WX) (f : TID) : TI := fun σ H R => ∃ F S ρ W Q Qx, Cf K F S H σ ρ W ∧ f ρ W Q Qx ∧ LkX K F S H Wx Qx ∧ ∀ S' H' ρ' W' ds J, Stp F S H S' H' → Cf K F S' H' σ ρ' W' → ItOk K (fun _ => False) S' H' J ds → Q ds ρ' W' → R J H'
theorem GI.can {X : Cx} {Wx : WX} {tg iter : Expr} {f : TID} (h : GI X Wx tg iter f) : PI X tg iter (canI (kf X) Wx f) := by
  obtain ⟨te, pe, se⟩ := h
  exact ⟨fun pins s σ H R I ⟨F, S, ρ, W, Qd, Qx, cf, hf, hx, hE⟩ => pe.run pins s σ H R I (se F S H σ ρ W Qd Qx R cf hf hx hE)⟩
abbrev noXX : KX := fun _ _ _ _ => False
@[irreducible] def dLc2 (fi : TID) (gd : TGD) (ft : TB) (fi1 : TID) (gd1 : TGD) (ft1 : TB) (fe : TD) (vs vs1 : List Nat) : TL := fun ρ W Q Qx => noOwn ρ vs ∧ fi ρ W (fun ds ρ0 W0 => ρ0 = ρ ∧ ∃ I : Nat → List D → Wd → Prop, I 0 [] W0 ∧
  (∀ (i : Nat) d acc W, ds[i]? = some d → I i acc W → gd d (wipeD ρ vs) W fun ρ1 W1 => ft ρ1 W1 (fun b ρ2 W2 => ρ2 = ρ1 ∧ if b = true then
    noOwn ρ1 vs1 ∧ fi1 ρ1 W2 (fun es ρ3 W3 => ρ3 = ρ1 ∧ ∃ J : Nat → List D → Wd → Prop, J 0 acc W3 ∧
      (∀ (j : Nat) e acc W, es[j]? = some e → J j acc W → acc.length < sizeLine ∧ gd1 e (wipeD ρ1 vs1) W fun ρ4 W4 => ft1 ρ4 W4 (fun b ρ5 W5 => ρ5 = ρ4 ∧ if b = true then
        fe ρ4 W5 (fun y ρ6 W6 => ρ6 = ρ4 ∧ J (j + 1) (acc ++ [y]) W6) noXX else J (j + 1) acc W5) noXX) ∧ ∀ acc W, J es.length acc W → I (i + 1) acc W) noXX
    else I (i + 1) acc W2) noXX) ∧ ∀ acc W, I ds.length acc W → Q acc ρ W) Qx
theorem snd_lc2 {K : KF} {Wx : WX} {wi : TI} {fi fi1 : TID} {gd gd1 : TGD} {ft ft1 : TB} {fe : TD} {vs vs1 ts ts1 : List Nat} (hts : ∀ j ∈ ts, j ∈ vs) (hts1 : ∀ j ∈ ts1, j ∈ vs1) (hv : ∀ j ∈ vs1, j ∈ vs) (si : SndI K Wx wi fi) :
    SndN K Wx (tLc2 wi (canG K ts gd) (canB K WX0 ft) (canI K WX0 fi1) (canG K ts1 gd1) (canB K WX0 ft1) (canE K WX0 fe) vs vs1) (dLc2 fi gd ft fi1 gd1 ft1 fe vs vs1) := by
  intro F S H σ ρ W Q Qx R cf hf hx hE
  unfold dLc2 at hf
  obtain ⟨hno, hf⟩ := hf
  refine si F S H σ ρ W _ Qx _ cf hf hx fun S1 H1 ρ1 W1 ds J e1 c1 ok q1 => ?_
  obtain ⟨rfl, I, h0, hturn, hend⟩ := q1
  intro p hp
  have nF : ¬ F p := fun z => c1.cb.sd p (c1.cb.fs p z) hp
  have nS : ¬ S1 p := fun z => c1.cb.sd p z hp
  obtain ⟨ea, ca⟩ := c1.alien (o := .lst []) hp
  let Iv : Nat → Hp → Prop := fun i H' => ∃ S' W' acc xs, Stp F S1 H1 S' H' ∧ Cf K (Add F p) S' H' σ ρ1 W' ∧ Reps K S' H' acc xs ∧ H' p = some (.lst xs) ∧ I i acc W'
  refine ⟨fun i m H' => m = ds.length - i ∧ i ≤ ds.length ∧ Iv i H', ⟨ds.length, by simp, Nat.zero_le _, Add S1 p, W1, [], [], ea, ca, Reps.nil, upd_same, h0⟩, ?_⟩
  rintro i m H2 ⟨rfl, hi, S2, W2, acc, xs, e2, c2, r2, hp2, q2⟩
  have nFp : Stp F S1 H1 S2 H2 := e2
  obtain ⟨okg, oks⟩ := ok S2 H2 (e2.mono fun _ z => z.elim)
  by_cases hlt : i < ds.length
  · have hd : ds[i]? = some ds[i] := List.getElem?_eq_getElem hlt
    obtain ⟨hgo, hy⟩ := okg i _ hd
    refine .inr ⟨hgo, Iv (i + 1), fun H' p' => ⟨_, by omega, rfl, hlt, p'⟩, fun x H3 y => ?_⟩
    obtain ⟨s3, r3⟩ := hy x H3 y
    have e3 : Stp F S2 H2 S2 H3 := (stp_same c2.cb s3).mono fun _ h => .inl h
    refine ⟨Add F p, S2, wipeD ρ1 vs, W2, ds[i], _, (c2.same s3).wiped vs, r3 c2.cb.sd, hturn i _ acc W2 hd q2, fun S4 H4 σ4 ρ4 W4 e4 c4 o1 o2 q4 => ?_⟩
    have off1 : ∀ j, j ∉ vs → σ4[j]? = σ[j]? := fun j hj => (o1.2 j fun z => hj (hts j z)).trans (wipe_off σ vs j hj)
    have off2 : ∀ j, j ∉ vs → ρ4[j]? = ρ1[j]? := fun j hj => (o2.2 j fun z => hj (hts j z)).trans (wipeD_off ρ1 vs j hj)
    refine ⟨wipe_eq (by rw [o1.1, wipe_length]) off1, ?_⟩
    refine ⟨Add F p, S4, ρ4, W4, _, _, c4, q4, lkx_none, fun S5 H5 ρ5 W5 b e5 c5 q5 => ?_⟩
    obtain ⟨rfl, q5⟩ := q5
    have e45 := (e4.mono (F' := F) fun _ h => .inl h).trans (e5.mono (F' := F) fun _ h => .inl h)
    have e35 := e3.trans e45
    have r5 := r2.up e35
    have hp5 : H5 p = some (.lst xs) := (e5.frn p (.inr rfl)).trans ((e4.frn p (.inr rfl)).trans (s3 p _ hp2))
    have full : Stp (Add F p) S2 H2 S5 H5 := (stp_same c2.cb s3).trans (e4.trans e5)
    cases b with
    | true =>
      rw [if_pos rfl] at q5 ⊢
      obtain ⟨hno1, q5⟩ := q5
      refine ⟨Add F p, S5, ρ5, W5, _, _, c5, q5, lkx_none, fun S6 H6 ρ6 W6 es J1 e6 c6 ok1 q6 => ?_⟩
      obtain ⟨rfl, JJ, j0, jturn, jend⟩ := q6
      have e6' := e6.mono (F' := F) fun _ h => .inl h
      have hp6 : H6 p = some (.lst xs) := (e6.frn p (.inr rfl)).trans hp5
      let Jv : Nat → Hp → Prop := fun j H' => ∃ S' W' acc xs, Stp F S6 H6 S' H' ∧ Stp (fun a => F a) S2 H2 S' H' ∧ Cf K (Add F p) S' H' σ4 ρ6 W' ∧ Reps K S' H' acc xs ∧ H' p = some (.lst xs) ∧ JJ j acc W'
      refine ⟨fun j k H' => k = es.length - j ∧ j ≤ es.length ∧ Jv j H', ⟨es.length, by simp, Nat.zero_le _, S6, W6, acc, xs, .refl, e35.trans e6', c6, r5.up e6', hp6, j0⟩, ?_⟩
      rintro j k H7 ⟨rfl, hj, S7, W7, acc7, xs7, e7, e27, c7, r7, hp7, q7⟩
      obtain ⟨okg1, oks1⟩ := ok1 S7 H7 (e7.mono fun _ z => z.elim)
      by_cases hlt1 : j < es.length
      · have hd1 : es[j]? = some es[j] := List.getElem?_eq_getElem hlt1
        obtain ⟨hgo1, hy1⟩ := okg1 j _ hd1
        refine .inr ⟨hgo1, Jv (j + 1), fun H' p' => ⟨_, by omega, rfl, hlt1, p'⟩, fun x H8 y => ?_⟩
        obtain ⟨s8, r8⟩ := hy1 x H8 y
        have e8 : Stp F S7 H7 S7 H8 := (stp_same c7.cb s8).mono fun _ h => .inl h
        obtain ⟨hlen, jt⟩ := jturn j _ acc7 W7 hd1 q7
        refine ⟨Add F p, S7, wipeD ρ6 vs1, W7, es[j], _, (c7.same s8).wiped vs1, r8 c7.cb.sd, jt, fun S9 H9 σ9 ρ9 W9 e9 c9 o3 o4 q9 => ?_⟩
        have off3 : ∀ j, j ∉ vs1 → σ9[j]? = σ4[j]? := fun j hj => (o3.2 j fun z => hj (hts1 j z)).trans (wipe_off σ4 vs1 j hj)
        have off4 : ∀ j, j ∉ vs1 → ρ9[j]? = ρ6[j]? := fun j hj => (o4.2 j fun z => hj (hts1 j z)).trans (wipeD_off ρ6 vs1 j hj)
        refine ⟨wipe_eq (by rw [o3.1, wipe_length]) off3, ?_⟩
        refine ⟨Add F p, S9, ρ9, W9, _, _, c9, q9, lkx_none, fun Sa Ha ρa Wa b ea ca qa => ?_⟩
        obtain ⟨rfl, qa⟩ := qa
        have e9a := (e9.mono (F' := F) fun _ h => .inl h).trans (ea.mono (F' := F) fun _ h => .inl h)
        have e8a := e8.trans e9a
        have hpa : Ha p = some (.lst xs7) := (ea.frn p (.inr rfl)).trans ((e9.frn p (.inr rfl)).trans (s8 p _ hp7))
        have full1 : Stp (Add F p) S7 H7 Sa Ha := (stp_same c7.cb s8).trans (e9.trans ea)
        have ra := r7.up e8a
        cases b with
        | true =>
          rw [if_pos rfl] at qa ⊢
          refine ⟨Add F p, Sa, ρa, Wa, _, _, ca, qa, lkx_none, fun Sb Hb ρb Wb y' vb eb cb rb qb => ?_⟩
          obtain ⟨rfl, qb⟩ := qb
          have hpb : Hb p = some (.lst xs7) := (eb.frn p (.inr rfl)).trans hpa
          refine ⟨xs7, hpb, by rw [r7.length]; exact hlen, ?_⟩
          have cc := c7.restore (full1.trans eb) cb off3 off4 hno1
          have sp : Sb p := cc.cb.fs p (.inr rfl)
          have eb2 : Stp F Sb Hb Sb (upd Hb p (.lst (xs7 ++ [vb]))) := ⟨fun a u h e => by
            have : a ≠ p := fun q => h (q ▸ sp)
            rw [upd_ne this]; exact e, fun a h1 h2 => absurd h1 h2, fun a h => by
            by_cases ha : a = p
            · rw [ha, upd_same] at h; cases h
            · rw [upd_ne ha] at h; exact h, fun a h => upd_ne fun z => nF (z ▸ h)⟩
          have eb' := eb.mono (F' := F) fun _ h => .inl h
          have tot := ((e8a.trans eb').trans eb2)
          exact ⟨Sb, Wb, acc7 ++ [y'], xs7 ++ [vb], e7.trans tot, e27.trans tot, cc.alienCh.2, ((ra.up eb').append (Reps.cons rb Reps.nil)).up eb2, upd_same, qb⟩
        | false =>
          rw [if_neg Bool.false_ne_true] at qa ⊢
          have cc := c7.restore full1 ca off3 off4 hno1
          exact ⟨Sa, Wa, acc7, xs7, e7.trans e8a, e27.trans e8a, cc, ra, hpa, qa⟩
      · have e : j = es.length := by omega
        subst e
        refine .inl ⟨oks1, S7, W7, acc7, xs7, e2.trans e27, ?_, r7, hp7, jend acc7 W7 q7⟩
        exact c2.restore e27 c7 off1 off2 hno
    | false =>
      have c7 := c2.restore full c5 off1 off2 hno
      exact ⟨S5, W5, acc, xs, e2.trans e35, c7, r5, hp5, q5⟩
  · have e : i = ds.length := by omega
    subst e
    refine .inl ⟨oks, ?_⟩
    have sp : S2 p := c2.cb.fs p (.inr rfl)
    have := hE (Rem S2 p) (del H2 p) ρ1 W2 acc xs p (e1.trans ⟨fun a o h1 h2 => ?_, fun a h1 h2 => e2.new a h1.1 h2, fun a h => ?_, fun a h => ?_⟩) (c2.unalien nF) (r2.del sp) del_same (hend acc W2 q2)
    · rw [upd_del hp2] at this; exact this
    · have : a ≠ p := fun z => by rw [z, hp] at h2; cases h2
      rw [del_ne this]; exact e2.keep a o h1 h2
    · by_cases ha : a = p
      · rw [ha]; exact hp
      · rw [del_ne ha] at h; exact e2.dom a h
    · rw [del_ne (fun (z : a = p) => nF (z ▸ h))]; exact e2.frn a h
section
variable {X : Cx} {Wx : WX} {elt tg iter tg1 iter1 : Expr} {ifs ifs1 : List Expr} {scope : Scope} {own : List (Str × Nat)} {pos : Pos} {fi fi1 : TID} {gd gd1 : TGD} {ft ft1 : TB} {fe : TD} {ts ts1 : List Nat}
theorem gn_lc2 (own : List (Str × Nat)) (vs1 : List Nat) (hc : X.calm = true) (hN : X.N.Nodup) (hi : GI X Wx tg iter fi) (ok : BlkOk X.N X.env.scope scope own) (hv : ∀ i ∈ vs1, i ∈ own.map (·.2)) (hts : ∀ j ∈ ts, j ∈ own.map (·.2)) (hts1 : ∀ j ∈ ts1, j ∈ vs1)
    (hg : ∀ (s : Shared) (H : Hp) (C : Addr) (cl : List (Str × Addr)) (fp : List Addr), GG (X.blk s H scope (PySem.compEnvC scope cl C X.env) fp) tg gd ts) (ht : ∀ (s : Shared) (H : Hp) (C : Addr) (cl : List (Str × Addr)) (fp : List Addr), GTs (X.blk s H scope (PySem.compEnvC scope cl C X.env) fp) WX0 ifs ft)
    (hi1 : ∀ (s : Shared) (H : Hp) (C : Addr) (cl : List (Str × Addr)) (fp : List Addr), GI (X.blk s H scope (PySem.compEnvC scope cl C X.env) fp) WX0 tg1 iter1 fi1)
    (hg1 : ∀ (s : Shared) (H : Hp) (C : Addr) (cl : List (Str × Addr)) (fp : List Addr), GG (X.blk s H scope (PySem.compEnvC scope cl C X.env) fp) tg1 gd1 ts1) (ht1 : ∀ (s : Shared) (H : Hp) (C : Addr) (cl : List (Str × Addr)) (fp : List Addr), GTs (X.blk s H scope (PySem.compEnvC scope cl C X.env) fp) WX0 ifs1 ft1)
    (he : ∀ (s : Shared) (H : Hp) (C : Addr) (cl : List (Str × Addr)) (fp : List Addr), GE (X.blk s H scope (PySem.compEnvC scope cl C X.env) fp) WX0 elt fe) (hs : ∀ x, foldedSetIterable iter X.env x = pure x := by intro _; rfl) (hs1 : ∀ env x, foldedSetIterable iter1 env x = pure x := by intro _ _; rfl) :
    GN X Wx (.ListComp elt [⟨tg, iter, ifs, 0⟩, ⟨tg1, iter1, ifs1, 0⟩] scope pos) (dLc2 fi gd ft fi1 gd1 ft1 fe (own.map (·.2)) vs1) := by
  obtain ⟨wi, pi, si⟩ := hi
  exact ⟨_, pe_lc2 hc hN pi ok hv (fun s H C cl fp => (hg s H C cl fp).can) (fun s H C cl fp => (ht s H C cl fp).can) (fun s H C cl fp => (hi1 s H C cl fp).can) (fun s H C cl fp => (hg1 s H C cl fp).can) (fun s H C cl fp => (ht1 s H C cl fp).can) (fun s H C cl fp => (he s H C cl fp).can) hs hs1, snd_lc2 hts hts1 hv si⟩
end
theorem dLc2_flat {α β : Type} {fi fi1 : TID} {gd gd1 : TGD} {ft ft1 : TB} {fe : TD} {vs vs1 : List Nat} {ρ : Env} {W : Wd} {Q : KL} {Qx : KX} (xs : List α) (f : α → D) (p : α → Bool) (ρo : α → Env) (ys : α → List β) (g : α → β → D) (q : α → β → Bool) (ρi : α → β → Env) (h : α → β → D)
    (hno : noOwn ρ vs) (hi : ∀ P : KL, P (xs.map f) ρ W → fi ρ W P Qx) (hgd : ∀ x ∈ xs, ∀ P : KS, P (ρo x) W → gd (f x) (wipeD ρ vs) W P) (hft : ∀ x ∈ xs, ∀ P : KB, P (p x) (ρo x) W → ft (ρo x) W P noXX)
    (hno1 : ∀ x ∈ xs, p x = true → noOwn (ρo x) vs1) (hi1 : ∀ x ∈ xs, p x = true → ∀ P : KL, P ((ys x).map (g x)) (ρo x) W → fi1 (ρo x) W P noXX)
    (hgd1 : ∀ x ∈ xs, p x = true → ∀ y ∈ ys x, ∀ P : KS, P (ρi x y) W → gd1 (g x y) (wipeD (ρo x) vs1) W P) (hft1 : ∀ x ∈ xs, p x = true → ∀ y ∈ ys x, ∀ P : KB, P (q x y) (ρi x y) W → ft1 (ρi x y) W P noXX)
    (he : ∀ x ∈ xs, p x = true → ∀ y ∈ ys x, q x y = true → ∀ P : KD, P (h x y) (ρi x y) W → fe (ρi x y) W P noXX)
    (hl : ((xs.filter p).flatMap fun x => ((ys x).filter (q x)).map (h x)).length < sizeLine)
    (hq : Q ((xs.filter p).flatMap fun x => ((ys x).filter (q x)).map (h x)) ρ W) : dLc2 fi gd ft fi1 gd1 ft1 fe vs vs1 ρ W Q Qx := by
  unfold dLc2
  let R : α → List D := fun x => ((ys x).filter (q x)).map (h x)
  refine ⟨hno, hi _ ⟨rfl, fun i acc W' => W' = W ∧ acc = ((xs.take i).filter p).flatMap R, ⟨rfl, by simp⟩, fun i d acc W' hd hI => ?_, fun acc W' hI => ?_⟩⟩
  · obtain ⟨rfl, rfl⟩ := hI
    rw [List.getElem?_map] at hd
    obtain ⟨x, hx, rfl⟩ := Option.map_eq_some_iff.mp hd
    have hxm := List.mem_of_getElem? hx
    have tk : xs.take (i + 1) = xs.take i ++ [x] := by rw [List.take_add_one, hx]; rfl
    refine hgd x hxm _ (hft x hxm _ ⟨rfl, ?_⟩)
    cases hp : p x with
    | false =>
      rw [if_neg Bool.false_ne_true]
      refine ⟨rfl, ?_⟩
      rw [tk, List.filter_append, List.filter_cons_of_neg (by rw [hp]; exact Bool.false_ne_true), List.filter_nil, List.append_nil]
    | true =>
      rw [if_pos rfl]
      refine ⟨hno1 x hxm hp, hi1 x hxm hp _ ⟨rfl, fun j acc W2 => W2 = W' ∧ acc = ((xs.take i).filter p).flatMap R ++ (((ys x).take j).filter (q x)).map (h x), ⟨rfl, by simp⟩, fun j e acc W2 he' hJ => ?_, fun acc W2 hJ => ?_⟩⟩
      · obtain ⟨rfl, rfl⟩ := hJ
        rw [List.getElem?_map] at he'
        obtain ⟨y, hy, rfl⟩ := Option.map_eq_some_iff.mp he'
        have hym := List.mem_of_getElem? hy
        have tk1 : (ys x).take (j + 1) = (ys x).take j ++ [y] := by rw [List.take_add_one, hy]; rfl
        refine ⟨?_, hgd1 x hxm hp y hym _ (hft1 x hxm hp y hym _ ⟨rfl, ?_⟩)⟩
        · refine Nat.lt_of_le_of_lt ?_ hl
          have e2 : (xs.filter p).flatMap R = ((xs.take (i + 1)).filter p).flatMap R ++ ((xs.drop (i + 1)).filter p).flatMap R := by rw [← List.flatMap_append, ← List.filter_append, List.take_append_drop]
          show _ ≤ ((xs.filter p).flatMap R).length
          rw [e2, tk, List.filter_append, List.filter_cons_of_pos (by rw [hp]), List.filter_nil, List.flatMap_append, List.length_append, List.length_append, List.length_append]
          have e3 : ([x].flatMap R).length = (((ys x).filter (q x)).map (h x)).length := by show (R x ++ []).length = _; rw [List.append_nil]
          rw [e3, List.length_map, List.length_map]
          have := ((List.take_sublist j (ys x)).filter (q x)).length_le
          omega
        cases hq1 : q x y with
        | false =>
          rw [if_neg Bool.false_ne_true]
          refine ⟨rfl, ?_⟩
          rw [tk1, List.filter_append, List.filter_cons_of_neg (by rw [hq1]; exact Bool.false_ne_true), List.filter_nil, List.append_nil]
        | true =>
          rw [if_pos rfl]
          refine he x hxm hp y hym hq1 _ ⟨rfl, rfl, ?_⟩
          rw [tk1, List.filter_append, List.filter_cons_of_pos (by rw [hq1]), List.filter_nil, List.map_append, ← List.append_assoc]
          rfl
      · obtain ⟨rfl, rfl⟩ := hJ
        refine ⟨rfl, ?_⟩
        rw [List.length_map, List.take_length, tk, List.filter_append, List.filter_cons_of_pos (by rw [hp]), List.filter_nil, List.flatMap_append]
        show _ = _ ++ (R x ++ [])
        rw [List.append_nil]
  · obtain ⟨rfl, rfl⟩ := hI
    rw [List.length_map, List.take_length]
    exact hq
end G
namespace G
open PySem PySem.Spec L2
section
variable {X : Cx} {Wx : WX} {e o i : Expr} {fe fo fi : TD} {pos : Pos}
/-- p.append(v) -/
def dAppW (fo fi : TD) : TSD := fun De ρ W => fo ρ W (fun x ρ1 W1 => (∃ p ds, x = .ref p ∧ W1 p = some (.lst ds)) ∧ fi ρ1 W1 (fun y ρ2 W2 => match x with
  | .v (.ref p) => ∃ ds, W2 p = some (.lst ds) ∧ ds.length < sizeLine ∧ De.nx ρ2 (updW W2 p (.lst (ds ++ [y])))
  | _ => False) De.ex) De.ex
theorem gs_appW {apos cpos : Pos} (ho : GE X Wx o fo) (hi : GE X Wx i fi) (hbase : attributeBase o "append" X.env (eval o X.env) = eval o X.env := by rfl)
    (hfew : ((backTo cpos (starEach (i :: []) X.env)).all (fun x => !x.1) && (backToKw cpos (keywordEach [] X.env)).all (fun x => x.1.isSome) && decide ((i :: ([] : List Expr)).length + ([] : List Keyword).length + (if ([] : List Keyword).isEmpty then 0 else 1) < 30)) = true := by rfl)
    (hline : (apos.endLine == cpos.line) = true := by rfl) (hse : starEach (i :: []) X.env = (false, eval i X.env) :: starEach [] X.env := by rfl) (hplain : (backTo cpos (starEach [] X.env)).any (·.1) = false := by rfl)
    (hs : swapsWith (.Call (.Attribute o "append" apos) [i] [] cpos) none pos.line X.env = pure false := by rfl) : GS X Wx (.Expr (.Call (.Attribute o "append" apos) [i] [] cpos) pos) (dAppW fo fi) := by
  obtain ⟨to, po, so⟩ := ho
  obtain ⟨ti, pi, si⟩ := hi
  refine ⟨_, ps_expr (pe_bm PySem.F.plainAttrs_list PySem.F.slot_list_append PySem.F.type_list_append mt_append po (pa_cons pi pa_nil hse) hbase hfew hline hse hplain) hs, fun F S H σ ρ W De Dh cf hf l => ?_⟩
  refine so F S H σ ρ W _ De.ex _ cf hf l.ex fun S1 H1 ρ1 W1 d v e1 c1 r1 q1 => ?_
  obtain ⟨⟨p0, ds0, rfl, hw0⟩, q1⟩ := q1
  obtain ⟨_, _, xs0, h0, _⟩ := c1.cb.w p0 _ hw0
  have ev := Rep.v_iff.mp r1
  subst ev
  refine ⟨.inl ⟨rfl, xs0, SqL.of h0⟩, ?_⟩
  refine si F S1 H1 σ ρ1 W1 _ De.ex _ c1 q1 (l.ex.up e1) fun S2 H2 ρ2 W2 d2 v2 e2 c2 r2 q2 => ?_
  obtain ⟨ds, hw, hl, q⟩ := q2
  obtain ⟨_, _, xs, h1, h2⟩ := c2.cb.w p0 _ hw
  refine ⟨p0, xs, v2, rfl, rfl, h1, by rw [h2.length]; exact hl, ?_⟩
  obtain ⟨st, c4⟩ := c2.chW (o := .lst (ds ++ [d2])) (u := .lst (xs ++ [v2])) hw fun S' H' e' hp => ⟨_, hp, (h2.append (Reps.cons r2 Reps.nil)).up e'⟩
  exact l.nx _ _ _ _ _ ((e1.trans e2).trans st) c4 q
/-- xs.count(k) -/
def dCount (fo fi : TD) : TD := fun ρ W Q Qx => fo ρ W (fun x ρ1 W1 => (∃ ns : List Int, x = .lst (ns.map D.int)) ∧ fi ρ1 W1 (fun y ρ2 W2 => match y with
  | .v (.int k) => ∀ ns : List Int, x = .lst (ns.map D.int) → Q (.int (ns.count k : Nat)) ρ2 W2
  | _ => False) Qx) Qx
theorem ge_count {apos cpos : Pos} (ho : GE X Wx o fo) (hi : GE X Wx i fi) (hbase : attributeBase o "count" X.env (eval o X.env) = eval o X.env := by rfl)
    (hfew : ((backTo cpos (starEach (i :: []) X.env)).all (fun x => !x.1) && (backToKw cpos (keywordEach [] X.env)).all (fun x => x.1.isSome) && decide ((i :: ([] : List Expr)).length + ([] : List Keyword).length + (if ([] : List Keyword).isEmpty then 0 else 1) < 30)) = true := by rfl)
    (hline : (apos.endLine == cpos.line) = true := by rfl) (hse : starEach (i :: []) X.env = (false, eval i X.env) :: starEach [] X.env := by rfl) (hplain : (backTo cpos (starEach [] X.env)).any (·.1) = false := by rfl) :
    GE X Wx (.Call (.Attribute o "count" apos) [i] [] cpos) (dCount fo fi) := by
  obtain ⟨to, po, so⟩ := ho
  obtain ⟨ti, pi, si⟩ := hi
  refine ⟨_, pe_bm PySem.F.plainAttrs_list PySem.F.slot_list_count PySem.F.type_list_count mt_lcount po (pa_cons pi pa_nil hse) hbase hfew hline hse hplain, fun F S H σ ρ W Q Qx R cf hf hx hE => ?_⟩
  refine so F S H σ ρ W _ Qx _ cf hf hx fun S1 H1 ρ1 W1 d v e1 c1 r1 q1 => ?_
  obtain ⟨⟨ns, rfl⟩, q1⟩ := q1
  obtain ⟨a, xs, rfl, h1, h2⟩ := Rep.lst_iff.mp r1
  have ex : xs = ns.map V.int := Reps.of_map_v (xs := ns.map V.int) (by rw [List.map_map]; exact h2)
  subst ex
  refine ⟨.inl ⟨rfl, _, h1.sq⟩, ?_⟩
  refine si F S1 H1 σ ρ1 W1 _ Qx _ c1 q1 (hx.up e1) fun S2 H2 ρ2 W2 d2 v2 e2 c2 r2 q2 => ?_
  split at q2
  · rename_i k
    have h1' := e2.imL h1
    rw [Rep.v_iff.mp r2]
    exact ⟨a, ns, k, rfl, rfl, h1'.sq, hE S2 H2 ρ2 W2 _ _ (e1.trans e2) c2 (Rep.v_iff.mpr rfl) (q2 ns rfl)⟩
  · exact q2.elim
end
end G
namespace G
open PySem PySem.Spec L2
def rEqT0 (K : PySem.W.Frag) : R2 := fun x y H Q => ∃ a b xs, x = .ref a ∧ y = .ref b ∧ SqT K H a xs ∧ SqT K H b [] ∧ Q (.bl xs.isEmpty) H
theorem op_eqT0 {X : Cx} (hu : X.A.units + 64 < cLine) : OpR X (compareOp .Eq) (rEqT0 X.K) := by
  intro pins s σ H x y u v Q I rx ry h
  obtain ⟨a, b, xs, rfl, rfl, ha, hb, q⟩ := h
  cases rx
  cases ry
  obtain ⟨its, rv, pa, _⟩ := I.tuple ha
  obtain ⟨its2, rv2, pb, _⟩ := I.tuple hb
  cases rv2
  have := SeqAt.RcAt.tuples (A := X.A) (s := s) (e := fun _ => true) (show s.heap.IsTuple a its.toArray from pa) (show s.heap.IsTuple b #[] from pb) (by omega) (fun j h1 h2 => by simp at h2)
  refine this X.prog X.w X.xe _ ⟨.bl xs.isEmpty, H, I, ?_, q⟩
  have l := rv.length
  cases xs with
  | nil => cases rv; rfl
  | cons x xs => cases rv; rfl
def dEqE : D → D → (D → Prop) → Prop := fun d e Q => (∃ ds, d = .tup ds ∧ e = .tup [] ∧ Q (.bl ds.isEmpty))
theorem rs_eqE {K : KF} : RSnd K (rEqT0 K) dEqE := fun F S H W d e x y P R cb rd re hp k => by
  obtain ⟨ds, rfl, rfl, q⟩ := hp
  obtain ⟨a, xs, rfl, h1, h2⟩ := Rep.tup_iff.mp rd
  obtain ⟨b, ys, rfl, h3, h4⟩ := Rep.tup_iff.mp re
  have e0 := Reps.nil_iff.mp h4
  subst e0
  refine ⟨a, b, xs, rfl, rfl, h1.sq, h3.sq, k _ _ H (Same.refl H) (Rep.v_iff.mpr ?_) q⟩
  have l := h2.length
  cases ds with
  | nil => rw [List.length_eq_zero_iff.mp l]; rfl
  | cons d ds => cases xs with
    | nil => simp at l
    | cons x xs => rfl
end G
namespace G
open PySem PySem.Spec L2
open PyProof.Rows hiding St
section
variable {X : Cx} {pins : List (Addr × Obj)} {σ : St} {H : Hp} {s : Shared} {a b : Addr} {rows : List NRow} {k : NestedKey} {y v : V} {u r : Value} {A : Around} {E : Value → Shared → Prop}
theorem putN_len : (putN rows k b v).length ≤ rows.length + 1 := by
  unfold putN
  split
  · rw [List.length_map]; omega
  · rw [List.length_append]; exact Nat.le_refl _
theorem n_dictSet {Q : Unit → Shared → Prop} (hu : A.units + 66 < cLine) (I : Inv X pins σ H s) (e : H a = some (ndO X.w a rows)) (ok : RowsOk X H rows) (hk : NkAt X H k (.ref b)) (hd : k.depth ≤ 8) (hl : rows.length < sizeLine) (rv : RelV v r)
    (h : ∀ s', Inv X pins σ (upd H a (ndO X.w a (putN rows k b v))) s' → Q () s') : wpAny (model X.prog X.w) A (dictSet a (.ref b) r) Q E s := by
  obtain ⟨_, hm, xs, hp, dd⟩ := nd_of I (.inl e) ok
  have room : (nestedKind X.prog X.w).room A := by show A.units + 8 < cLine; omega
  refine wpAny_dictSet_heap (hsz := by rw [← Paired.length hp]; omega) room (nkey I hk hd) dd fun h' dd' hs => h _ ?_
  have there : ∃ q, h'.get? a = some q := let ⟨q, _, _, hq, _⟩ := dd'; ⟨q, hq⟩
  exact d_write I (by rw [e]; exact True.intro) hs there (nd_new (by have := putN_len (rows := rows) (k := k) (b := b) (v := v); omega) hm (npair_put rv hp) dd')
end
/-- what is known of rows in every frame over K -/
def RowsK (K : KF) (H : Hp) (rows : List NRow) : Prop := ∀ Y : Cx, kf Y = K → RowsOk Y H rows
def KeyK (K : KF) (H : Hp) (k : NestedKey) (b : Addr) : Prop := ∀ Y : Cx, kf Y = K → NkAt Y H k (.ref b)
/-- {k: v for target in iter if ..} with keys that are tuples -/
def tNDc (K : KF) (wi : TI) (g : TG) (tt : TT) (tk tv : TE) (vs : List Nat) : TE := fun σ H Q => wi σ H fun J H1 => ∀ D, H1 D = none → ∃ Z : Nat → Nat → Hp → Prop, (∃ m, Z 0 m (upd H1 D (ndO K.w D []))) ∧ ∀ i m H, Z i m H →
  (J.stop i H ∧ Q (.ref D) H) ∨ (J.go i H ∧ ∃ Nx : Hp → Prop, (∀ H', Nx H' → ∃ m', m' < m ∧ Z (i + 1) m' H') ∧ ∀ x H', J.yld i H x H' → g x (wipe σ vs) H' fun σ2 H2 => wipe σ2 vs = wipe σ vs ∧ tt σ2 H2 fun t H3 =>
    if t = true then tk σ2 H3 fun y H4 => tv σ2 H4 fun z H5 => ∃ b rows k, y = .ref b ∧ H5 D = some (ndO K.w D rows) ∧ RowsK K H5 rows ∧ KeyK K H5 k b ∧ k.depth ≤ 8 ∧ rows.length < sizeLine ∧ Nx (upd H5 D (ndO K.w D (putN rows k b z))) else Nx H3)
section
variable {X : Cx} {kx vx tg iter : Expr} {ifs : List Expr} {scope : Scope} {own : List (Str × Nat)} {pos : Pos} {wi : TI} {g : TG} {tt : TT} {tk tv : TE}
/-- the frame's names stand still through one turn of a block -/
theorem blk_still {Y : Cx} {σ' : St} {H' : Hp} {s' : Shared} {s0 : Shared} {H0 : Hp} {ce : PySem.Env} {fp : List Addr} (J : Inv (X.blk s0 H0 scope ce fp) [] σ' H' s') (hn : ∀ b ∈ fp, H' b = none) : ∀ b ∈ fp, FpOk (X.blk s0 H0 scope ce fp) [] H' b := by
  intro q hq
  obtain ⟨z1, z2⟩ := J.ok.exf q hq
  exact ⟨hn q hq, z1, J.ok.exfs q hq, .inl hq, fun x c e => z2 x c e, fun p hp => by cases hp⟩
theorem ndc_core {pins : List (Addr × Obj)} {s : Shared} {σ : St} {H : Hp} {Q : VK} {pos' : Pos} {use : Option (Value → Sem Unit)} {Qf : Value → Shared → Prop} (I : Inv X pins σ H s) (hu : X.A.units + 66 < cLine) (hc : X.calm = true) (hN : X.N.Nodup) (hi : PI X tg iter wi) (ok : BlkOk X.N X.env.scope scope own)
    (hg : ∀ (s : Shared) (H : Hp) (C : Addr) (cl : List (Str × Addr)) (fp : List Addr), PG (X.blk s H scope (PySem.compEnvC scope cl C X.env) fp) tg g) (ht : ∀ (s : Shared) (H : Hp) (C : Addr) (cl : List (Str × Addr)) (fp : List Addr), PTs (X.blk s H scope (PySem.compEnvC scope cl C X.env) fp) ifs tt)
    (hk : ∀ (s : Shared) (H : Hp) (C : Addr) (cl : List (Str × Addr)) (fp : List Addr), PE (X.blk s H scope (PySem.compEnvC scope cl C X.env) fp) kx tk) (hv : ∀ (s : Shared) (H : Hp) (C : Addr) (cl : List (Str × Addr)) (fp : List Addr), PE (X.blk s H scope (PySem.compEnvC scope cl C X.env) fp) vx tv)
    (hs : ∀ x, foldedSetIterable iter X.env x = pure x) (h : tNDc (kf X) wi g tt tk tv (own.map (·.2)) σ H Q)
    (hRR : ∀ D C s' m H', Inv X pins σ H' s' → Q (.ref D) H' → s'.heap.Ns C m → FpOk X pins H' C → compPost (model X.prog X.w) X.A X.xe use Qf (.ref D) C (.ok .next) s') :
    wpAny (model X.prog X.w) X.A (comprehension (.DictComp kx vx [⟨tg, iter, ifs, 0⟩] scope pos) scope X.env pos' newDict false (eval iter X.env) use) Qf X.xe s := by
  have free : ∀ n ∈ scope.names, n.2 = .free → ∃ c, X.env.cells.lookup n.1 = some c := fun n hn e => by
    rcases ok.free n hn e with z | z
    · exact I.ok.has _ (.inl z)
    · exact I.ok.has _ (.inr z)
  refine wpAny_comprehension_free (use := use) rfl hs (closure_ok free) ok.kind (fun n hn e => by rw [ok.uniq n hn, e]) (thn (hi.run pins s σ H _ I h) fun xv u1 hx => thn hx fun itv u2 h2 => ?_)
  obtain ⟨it, fp, tn, J, H2, rfl, I2, T, st2, f2, q⟩ := h2
  refine wpAny_newObj_type (newEnv_comp ?_)
  generalize hD : u2.heap.objs.size = D
  have nD : H2 D = none := I2.hok.fresh (Nat.le_of_eq hD)
  obtain ⟨Z, ⟨m0, z0⟩, turn⟩ := q D nD
  generalize hu3 : ({ u2 with heap := u2.heap.push { cls := .type "dict", data := .dict #[] } } : Shared) = u3
  have e3 : u3.heap = u2.heap.push { cls := .type "dict", data := .dict #[] } := by rw [← hu3]
  have I3 : Inv X pins σ (upd H2 D (ndO X.w D [])) u3 := by
    rw [← hu3]
    refine I2.laid (t' := u2.toks) (fun c o e => Heap.get?_push_of_some _ e) (Nat.le_of_eq hD) ?_
    rw [← hD]
    exact nd_empty u2.heap I2.big
  have lt2 : ∀ c ∈ fp, c < u2.heap.objs.size := fun c hc => by
    obtain ⟨o, e, _⟩ := T.obj _ _ st2 c hc
    exact Heap.lt_size e
  have f3 : ∀ c ∈ fp, FpOk X pins (upd H2 D (ndO X.w D [])) c ∧ c < u3.heap.objs.size := fun c hc => by
    have l := lt2 c hc
    have ne : c ≠ D := by rw [← hD]; exact Nat.ne_of_lt l
    refine ⟨⟨?_, (f2 c hc).2⟩, by rw [e3, Heap.size_push]; exact Nat.lt_succ_of_lt l⟩
    rw [upd_ne ne]
    exact (f2 c hc).1
  have st3 : tn 0 u3.heap := T.keep _ _ _ st2 fun c _ o e => by rw [e3]; exact Heap.get?_push_of_some _ e
  have I4 := block_start I3 ok hN f3
  have run_g := hg u3 (upd H2 D (ndO X.w D [])) u3.heap.objs.size (cellsFrom (u3.heap.objs.size + 1) scope.names (cloFrom X.env.cells scope.names [])) fp
  have run_t := ht u3 (upd H2 D (ndO X.w D [])) u3.heap.objs.size (cellsFrom (u3.heap.objs.size + 1) scope.names (cloFrom X.env.cells scope.names [])) fp
  have run_k := hk u3 (upd H2 D (ndO X.w D [])) u3.heap.objs.size (cellsFrom (u3.heap.objs.size + 1) scope.names (cloFrom X.env.cells scope.names [])) fp
  have run_v := hv u3 (upd H2 D (ndO X.w D [])) u3.heap.objs.size (cellsFrom (u3.heap.objs.size + 1) scope.names (cloFrom X.env.cells scope.names [])) fp
  have fpn : ∀ c ∈ fp, (upd H2 D (ndO X.w D [])) c = none := fun c hc => (f3 c hc).1.1
  show codeAny _ _ (.compStart (.DictComp kx vx [⟨tg, iter, ifs, 0⟩] scope pos) 0 (.ref it) (.ref D) (compEnvC scope (cellsFrom (u3.heap.objs.size + 1) scope.names (cloFrom X.env.cells scope.names [])) u3.heap.objs.size X.env)) (compPost (model X.prog X.w) X.A X.xe use Qf (.ref D) u3.heap.objs.size) { u3 with heap := pushCells (u3.heap.push { cls := .type "dict", data := .dict #[] }) scope.names }
  generalize hce : compEnvC scope (cellsFrom (u3.heap.objs.size + 1) scope.names (cloFrom X.env.cells scope.names [])) u3.heap.objs.size X.env = ce at I4 run_g run_t run_k run_v ⊢
  have cL : ce.locals = u3.heap.objs.size := by subst hce; rfl
  generalize hB : upd H2 D (ndO X.w D []) = B at I3 I4 run_g run_t run_k run_v fpn f3
  have z0 : Z 0 m0 B := hB ▸ z0
  generalize hu4 : ({ u3 with heap := pushCells (u3.heap.push { cls := .type "dict", data := .dict #[] }) scope.names } : Shared) = u4 at I4 ⊢
  have st4 : tn 0 u4.heap := T.keep _ _ _ st3 fun c _ o e => by rw [← hu4]; exact pushCells_keeps _ _ _ _ (Heap.get?_push_of_some _ e)
  have fin : codeAny (model X.prog X.w) X.A (.compLoop (.DictComp kx vx [⟨tg, iter, ifs, 0⟩] scope pos) 0 (.ref it) (.ref D) ce) (compPost (model X.prog X.w) X.A X.xe use Qf (.ref D) u3.heap.objs.size) u4 := by
    refine compLoop_anyD (fun n s' => ∃ i H', Inv (X.blk u3 B scope ce fp) [] (wipe σ (own.map (·.2))) H' s' ∧ tn i s'.heap ∧ (∀ c ∈ fp, H' c = none) ∧ Z i n H') ?_ m0 ⟨0, B, I4, st4, fpn, z0⟩
    rintro n s5 ⟨i, H5, I5, st5, n5, z5⟩
    rcases turn i n H5 z5 with ⟨stop, qq⟩ | ⟨go, Nx, hNx, step⟩
    · refine thnF (T.done (X.blk u3 B scope ce fp) rfl rfl rfl hc i [] s5 _ H5 (fun _ _ => False) I5 (blk_still (Y := X) I5 n5) st5 stop) fun r s6 ⟨hr, I6⟩ => ?_
      subst hr
      have I7 : Inv X pins σ H5 s6 := I3.call' (ch := fp) I6.os I6.base I6.hok I6.bare fun c hc =>
        let f := (f3 c hc).1.2; ⟨f.2.2.1, f.1, f.2.2.2.1, f.2.2.2.2⟩
      have nC : H5 u3.heap.objs.size = none := by
        have z : H5 ce.locals = none := I6.free
        rwa [cL] at z
      obtain ⟨m, hn, _⟩ := I6.loc
      have hn : s6.heap.Ns ce.locals m := hn
      rw [cL] at hn
      exact hRR D u3.heap.objs.size s6 m H5 I7 qq hn (I3.fpOk (Nat.le_refl _) nC)
    · refine thnF (T.item (X.blk u3 B scope ce fp) rfl rfl rfl hc i [] s5 _ H5 (fun _ _ => False) I5 (blk_still (Y := X) I5 n5) st5 go) fun r s6 ⟨u, hr, h6⟩ => ?_
      subst hr
      refine thnF h6 fun _ s7 ⟨x, H7, I7, r7, y7, st7, n7⟩ => ?_
      refine thnF (run_g.run _ s7 _ H7 x u _ (I7.pinned (blk_still (Y := X) I7 n7) (T.obj _ _ st7)) r7 (step x H7 y7)) fun _ s8 ⟨σ8, H8, I8, hw8, q8⟩ => ?_
      have next : ∀ {s' : Shared} {H' : Hp}, Inv (X.blk u3 B scope ce fp) ([] ++ pinsAt fp s7.heap) σ8 H' s' → Nx H' → ∃ m, m < n ∧ ∃ i H', Inv (X.blk u3 B scope ce fp) [] (wipe σ (own.map (·.2))) H' s' ∧ tn i s'.heap ∧ (∀ c ∈ fp, H' c = none) ∧ Z i m H' := fun {s' H'} K nx => by
        obtain ⟨m', lt, z'⟩ := hNx H' nx
        have pinned : ∀ c ∈ fp, ∀ o, s7.heap.get? c = some o → s'.heap.get? c = some o ∧ H' c = none := fun c hc o e => by
          have z := K.pin (c, o) (List.mem_append_right _ (List.mem_append_right _ (mem_pinsAt hc e)))
          exact ⟨z.1, z.2.1⟩
        refine ⟨m', lt, i + 1, H', (K.unpinned (pins := [])).weak (by rw [← hw8, wipe_length]) (fun j v e => ?_), T.keep _ _ _ st7 fun c hc o e => (pinned c hc o e).1, fun c hc => ?_, z'⟩
        · rw [← hw8] at e
          exact (wipe_some e).1
        · obtain ⟨o, e, _⟩ := T.obj _ _ st7 c hc
          exact (pinned c hc o e).2
      refine thnF (run_t.run _ s8 σ8 H8 _ I8 q8) fun t s9 ⟨H9, I9, q9⟩ => ?_
      cases t with
      | false => exact next I9 q9
      | true =>
        refine thnF (run_k.run _ s9 σ8 H9 _ I9 q9) fun kv s10 ⟨yk, H10, I10, r10, q10⟩ => ?_
        refine thnF (run_v.run _ s10 σ8 H10 _ I10 q10) fun vv s11 ⟨yv, H11, I11, r11, b, rows, k, ek, hD11, ro, ko, kd, lr, nx⟩ => ?_
        subst ek
        obtain rfl : kv = Value.ref b := r10
        exact n_dictSet (X := X.blk u3 B scope ce fp) hu I11 hD11 (ro _ rfl) (ko _ rfl) kd lr r11 fun s12 I12 => next I12 nx
  exact codeAny_compStart_dict fin (T.self X.A 0 _ _ _ st4 fin)
theorem pe_ndc (hu : X.A.units + 66 < cLine) (hc : X.calm = true) (hN : X.N.Nodup) (hi : PI X tg iter wi) (ok : BlkOk X.N X.env.scope scope own)
    (hg : ∀ (s : Shared) (H : Hp) (C : Addr) (cl : List (Str × Addr)) (fp : List Addr), PG (X.blk s H scope (PySem.compEnvC scope cl C X.env) fp) tg g) (ht : ∀ (s : Shared) (H : Hp) (C : Addr) (cl : List (Str × Addr)) (fp : List Addr), PTs (X.blk s H scope (PySem.compEnvC scope cl C X.env) fp) ifs tt)
    (hk : ∀ (s : Shared) (H : Hp) (C : Addr) (cl : List (Str × Addr)) (fp : List Addr), PE (X.blk s H scope (PySem.compEnvC scope cl C X.env) fp) kx tk) (hv : ∀ (s : Shared) (H : Hp) (C : Addr) (cl : List (Str × Addr)) (fp : List Addr), PE (X.blk s H scope (PySem.compEnvC scope cl C X.env) fp) vx tv)
    (hs : ∀ x, foldedSetIterable iter X.env x = pure x := by intro _; rfl) : PE X (.DictComp kx vx [⟨tg, iter, ifs, 0⟩] scope pos) (tNDc (kf X) wi g tt tk tv (own.map (·.2))) := by
  refine ⟨fun pins s σ H Q I h => ?_⟩
  rw [arm_eval_DictComp]
  refine ndc_core I hu hc hN hi ok hg ht hk hv hs h fun D C s' m H' J q hn f => ⟨m, hn, fun h'' sb => ?_⟩
  obtain ⟨w0, w1, w2, w3, w4, w5⟩ := f
  exact ⟨.ref D, H', J.turned (t' := s'.toks) (fun c o hb e => (sb.2 c hb).trans e) w0 w1 w3 w4 w5, rfl, q⟩
theorem swd_true {gs : List Comprehension} {py : Pos} {y : Str} {l : Nat} {env : PySem.Env} (hk : env.scope.kind = .function) (hy : env.scope.names.lookup y = some .local) (hl : (py.line == pos.line) = true)
    (ha : (scope.names.any fun (n, k) => n == y && (k == .local || k == .cell)) = false) : swapsWith (.DictComp kx vx gs scope pos) (some (.Name y py)) l env = pure true := by
  have e1 : env.kindOf y = some .local := hy
  have e2 : env.blockKind = .function := by unfold PySem.Env.blockKind; rw [hk]; rfl
  unfold swapsWith
  simp only [e2, e1, ha, Expr.pos, hl]
  rfl
/-- y = {..} on one line, y a local -/
theorem ps_setNDc {j : Nat} {y : Str} {py spos : Pos} (hu : X.A.units + 66 < cLine) (hc : X.calm = true) (hN : X.N.Nodup) (hy : X.N[j]? = some y) (hyl : X.env.scope.names.lookup y = some .local)
    (hsw : swapsWith (.DictComp kx vx [⟨tg, iter, ifs, 0⟩] scope pos) (some (.Name y py)) spos.line X.env = pure true) (hi : PI X tg iter wi) (ok : BlkOk X.N X.env.scope scope own)
    (hg : ∀ (s : Shared) (H : Hp) (C : Addr) (cl : List (Str × Addr)) (fp : List Addr), PG (X.blk s H scope (PySem.compEnvC scope cl C X.env) fp) tg g) (ht : ∀ (s : Shared) (H : Hp) (C : Addr) (cl : List (Str × Addr)) (fp : List Addr), PTs (X.blk s H scope (PySem.compEnvC scope cl C X.env) fp) ifs tt)
    (hk : ∀ (s : Shared) (H : Hp) (C : Addr) (cl : List (Str × Addr)) (fp : List Addr), PE (X.blk s H scope (PySem.compEnvC scope cl C X.env) fp) kx tk) (hv : ∀ (s : Shared) (H : Hp) (C : Addr) (cl : List (Str × Addr)) (fp : List Addr), PE (X.blk s H scope (PySem.compEnvC scope cl C X.env) fp) vx tv)
    (hs : ∀ x, foldedSetIterable iter X.env x = pure x := by intro _; rfl) : PS X (.Assign [.Name y py] (.DictComp kx vx [⟨tg, iter, ifs, 0⟩] scope pos) spos) (tAsg (tNDc (kf X) wi g tt tk tv (own.map (·.2))) (gName j)) := by
  refine ⟨fun pins s σ H D I h => ?_⟩
  rw [exec_Assign_Name_used _ _ _ _ hsw]
  refine wpAny_bind (wpAny_standAt (wpAny_bind ?_))
  show wpAny _ X.A (do let _ ← comprehension (.DictComp kx vx [⟨tg, iter, ifs, 0⟩] scope pos) scope X.env (firstIterPos [⟨tg, iter, ifs, 0⟩] pos) newDict false (eval iter X.env) (some (assign (.Name y py) X.env))) _ _ s
  have h' : tNDc (kf X) wi g tt tk tv (own.map (·.2)) σ H (fun x H1 => gName j x σ H1 D.nx) := h
  refine wpAny_bind (thn (ndc_core (Qf := fun _ s' => SP X pins D .next s') I hu hc hN hi ok hg ht hk hv hs h' fun L C s' m H' J q hn f => ?_) fun _ s' hq => wpAny_pure (wpAny_pure hq))
  show wpAny _ _ (assign (.Name y py) X.env (.ref L)) _ _ _
  obtain ⟨w0, w1, w2, w3, w4, w5⟩ := f
  refine wpAny_assign_Name (store_ok2 (v := V.ref L) J hN hy (.inl hyl) rfl (fun s2 J2 ⟨a, sb, ha⟩ => ?_) (.inr hyl))
  have ne : C ≠ a := by
    rcases ha with z | z
    · exact z ▸ w1
    · exact fun e => w4 y a z e.symm
  exact ⟨m, hn.sameBut sb ne, fun h3 sb3 => ⟨_, H', J2.turned (t' := s2.toks) (fun c o hb e => (sb3.2 c hb).trans e) w0 w1 w3 w4 w5, q⟩⟩
end
end G
namespace G
open PySem PySem.Spec L2
abbrev TNN := G.Env → Wd → (List (D × D) → G.Env → Wd → Prop) → KX → Prop
def EndNN (X : Cx) (F S : Reg) (H : Hp) (σ : St) (Q : List (D × D) → G.Env → Wd → Prop) (R : VK) : Prop :=
  ∀ S' H' ρ' W' kvs nks bs xs p, Stp F S H S' H' → Cf (kf X) F S' H' σ ρ' W' → NR X S' H' (kvs.map (·.1)) (kvs.map (·.2)) nks bs xs → H' p = none → Q kvs ρ' W' → R (.ref p) (upd H' p (ndO X.w p (nz nks bs xs)))
def SndNN (X : Cx) (Wx : WX) (te : TE) (f : TNN) : Prop :=
  ∀ F S H σ ρ W Q Qx R, Cf (kf X) F S H σ ρ W → f ρ W Q Qx → LkX (kf X) F S H Wx Qx → EndNN X F S H σ Q R → te σ H R
def GNN (X : Cx) (Wx : WX) (e : Expr) (f : TNN) : Prop := ∃ te, PE X e te ∧ SndNN X Wx te f
@[irreducible] def dNDc (fi : TID) (gd : TGD) (ft : TB) (fk fv : TD) (vs : List Nat) : TNN := fun ρ W Q Qx => noOwn ρ vs ∧ fi ρ W (fun ds ρ0 W0 => ρ0 = ρ ∧ ds.length ≤ sizeLine ∧ ∃ I : Nat → List (D × D) → Wd → Prop, I 0 [] W0 ∧
  (∀ (i : Nat) d acc W, ds[i]? = some d → acc.length ≤ i → I i acc W → gd d (wipeD ρ vs) W fun ρ1 W1 => ft ρ1 W1 (fun b ρ2 W2 => ρ2 = ρ1 ∧ if b = true then
    fk ρ1 W2 (fun y ρ3 W3 => ρ3 = ρ1 ∧ isNk y = true ∧ fv ρ1 W3 (fun z ρ4 W4 => ρ4 = ρ1 ∧ (∀ (j : Nat) (z0 : D), acc[j]? = some (y, z0) → I (i + 1) (acc.set j (y, z)) W4) ∧ ((∀ q ∈ acc, q.1 ≠ y) → I (i + 1) (acc ++ [(y, z)]) W4)) noXX) noXX
    else I (i + 1) acc W2) noXX) ∧ ∀ acc W, acc.length ≤ ds.length → I ds.length acc W → Q acc ρ W) Qx
section
variable {X : Cx} {Wx : WX}
theorem NR.del {S : Reg} {H : Hp} {ks ds : List D} {nks : List NestedKey} {bs : List Addr} {xs : List V} {p : Addr} (h : NR X S H ks ds nks bs xs) (hp : S p) : NR X (Rem S p) (G.del H p) ks ds nks bs xs := ⟨h.ok, h.rk.del hp, h.rd.del hp, h.len⟩
theorem upd_alien {F S : Reg} {H : Hp} {p : Addr} {o : HO} (hS : S p) (hF : ¬ F p) : Stp F S H S (upd H p o) where
  keep := fun a u h e => by rw [upd_ne (fun z : a = p => h (by rw [z]; exact hS))]; exact e
  new := fun a h1 h2 => absurd h1 h2
  dom := fun a h => by
    by_cases ha : a = p
    · rw [ha, upd_same] at h; cases h
    · rwa [upd_ne ha] at h
  frn := fun a h => upd_ne fun z => hF (z ▸ h)
theorem snd_ndc {wi : TI} {fi : TID} {gd : TGD} {ft : TB} {fk fv : TD} {vs ts : List Nat} (hts : ∀ j ∈ ts, j ∈ vs) (si : SndI (kf X) Wx wi fi) :
    SndNN X Wx (tNDc (kf X) wi (canG (kf X) ts gd) (canB (kf X) WX0 ft) (canE (kf X) WX0 fk) (canE (kf X) WX0 fv) vs) (dNDc fi gd ft fk fv vs) := by
  intro F S H σ ρ W Q Qx R cf hf hx hE
  unfold dNDc at hf
  obtain ⟨hno, hf⟩ := hf
  refine si F S H σ ρ W _ Qx _ cf hf hx fun S1 H1 ρ1 W1 ds J e1 c1 ok q1 => ?_
  obtain ⟨rfl, hlen, I, h0, hturn, hend⟩ := q1
  intro p hp
  have nF : ¬ F p := fun z => c1.cb.sd p (c1.cb.fs p z) hp
  obtain ⟨ea, ca⟩ := c1.alien (o := ndO X.w p []) hp
  let Iv : Nat → Hp → Prop := fun i H' => ∃ S' W' acc nks bs xs, Stp F S1 H1 S' H' ∧ Cf (kf X) (Add F p) S' H' σ ρ1 W' ∧ NR X S' H' (acc.map (·.1)) (acc.map (·.2)) nks bs xs ∧ H' p = some (ndO X.w p (nz nks bs xs)) ∧ acc.length ≤ i ∧ I i acc W'
  refine ⟨fun i m H' => m = ds.length - i ∧ i ≤ ds.length ∧ Iv i H', ⟨ds.length, by simp, Nat.zero_le _, Add S1 p, W1, [], [], [], [], ea, ca, ⟨nkok_nil, Reps.nil, Reps.nil, rfl⟩, upd_same, Nat.le_refl _, h0⟩, ?_⟩
  rintro i m H2 ⟨rfl, hi, S2, W2, acc, nks, bs, xs, e2, c2, r2, hp2, hacc, q2⟩
  obtain ⟨okg, oks⟩ := ok S2 H2 (e2.mono fun _ z => z.elim)
  by_cases hlt : i < ds.length
  · have hd : ds[i]? = some ds[i] := List.getElem?_eq_getElem hlt
    obtain ⟨hgo, hy⟩ := okg i _ hd
    refine .inr ⟨hgo, Iv (i + 1), fun H' p' => ⟨_, by omega, rfl, hlt, p'⟩, fun x H3 y => ?_⟩
    obtain ⟨s3, r3⟩ := hy x H3 y
    have e3 : Stp F S2 H2 S2 H3 := (stp_same c2.cb s3).mono fun _ h => .inl h
    refine ⟨Add F p, S2, wipeD ρ1 vs, W2, ds[i], _, (c2.same s3).wiped vs, r3 c2.cb.sd, hturn i _ acc W2 hd hacc q2, fun S4 H4 σ4 ρ4 W4 e4 c4 o1 o2 q4 => ?_⟩
    have off1 : ∀ j, j ∉ vs → σ4[j]? = σ[j]? := fun j hj => (o1.2 j fun z => hj (hts j z)).trans (wipe_off σ vs j hj)
    have off2 : ∀ j, j ∉ vs → ρ4[j]? = ρ1[j]? := fun j hj => (o2.2 j fun z => hj (hts j z)).trans (wipeD_off ρ1 vs j hj)
    refine ⟨wipe_eq (by rw [o1.1, wipe_length]) off1, ?_⟩
    refine ⟨Add F p, S4, ρ4, W4, _, _, c4, q4, lkx_none, fun S5 H5 ρ5 W5 b e5 c5 q5 => ?_⟩
    obtain ⟨rfl, q5⟩ := q5
    have e45 := (e4.mono (F' := F) fun _ h => .inl h).trans (e5.mono (F' := F) fun _ h => .inl h)
    have e35 := e3.trans e45
    have r5 := r2.up e35
    have hp5 : H5 p = some (ndO X.w p (nz nks bs xs)) := (e5.frn p (.inr rfl)).trans ((e4.frn p (.inr rfl)).trans (s3 p _ hp2))
    have full : Stp (Add F p) S2 H2 S5 H5 := (stp_same c2.cb s3).trans (e4.trans e5)
    cases b with
    | true =>
      rw [if_pos rfl] at q5 ⊢
      refine ⟨Add F p, S5, ρ5, W5, _, _, c5, q5, lkx_none, fun S6 H6 ρ6 W6 y' v6 e6 c6 r6 q6 => ?_⟩
      obtain ⟨rfl, ynk, q6⟩ := q6
      obtain ⟨bk, k, rfl, ek, dep⟩ := rep_tup ynk r6
      refine ⟨Add F p, S6, ρ6, W6, _, _, c6, q6, lkx_none, fun S7 H7 ρ7 W7 z' v7 e7 c7 r7 q7 => ?_⟩
      obtain ⟨rfl, qo, qn⟩ := q7
      have e67 := (e6.mono (F' := F) fun _ h => .inl h).trans (e7.mono (F' := F) fun _ h => .inl h)
      have hp7 : H7 p = some (ndO X.w p (nz nks bs xs)) := (e7.frn p (.inr rfl)).trans ((e6.frn p (.inr rfl)).trans hp5)
      have nr := r5.up e67
      have rk := r6.up (e7.mono (F' := F) fun _ h => .inl h)
      have lz : (nz nks bs xs).length = acc.length := by rw [nz_len nr.lb nr.lx, nr.lk, List.length_map]
      refine ⟨bk, nz nks bs xs, k, rfl, hp7, fun Y e => ?_, fun Y e => ?_, dep, by rw [lz]; omega, ?_⟩
      · exact NR.rows (X := Y) ⟨nr.ok, by rw [e]; exact nr.rk, by rw [e]; exact nr.rd, nr.len⟩
      · exact nkAt_of (X := Y) (by rw [e]; exact rk) ek
      · have c8 := c2.restore (full.trans (e6.trans e7)) c7 off1 off2 hno
        have sp : S7 p := c8.cb.fs p (.inr rfl)
        by_cases hin : y' ∈ acc.map (·.1)
        · obtain ⟨q0, hq0, eq0⟩ := List.mem_map.mp hin
          obtain ⟨i0, hi0, ei0⟩ := List.mem_iff_getElem.mp hq0
          have hget : acc[i0]? = some (y', q0.2) := by rw [List.getElem?_eq_getElem hi0, ei0, ← eq0]
          obtain ⟨p1, p2⟩ := nr.put_old (i := i0) (d := y') (z := z') (b := bk) (by rw [List.getElem?_map, hget]; rfl) ek r7
          have p3 : NR X S7 H7 ((acc.set i0 (y', z')).map (·.1)) ((acc.set i0 (y', z')).map (·.2)) nks bs (xs.set i0 v7) := by
            rw [map_set_fst hget, List.map_set]; exact p2
          have up := upd_alien (F := F) (H := H7) (o := ndO X.w p (putN (nz nks bs xs) k bk v7)) sp nF
          exact ⟨S7, W7, _, nks, bs, xs.set i0 v7, ((e2.trans e35).trans e67).trans up, c8.alienCh.2, p3.up up, by rw [← p1]; exact upd_same, by rw [List.length_set]; omega, qo i0 _ hget⟩
        · obtain ⟨p1, p2⟩ := nr.put_new hin ek dep rk r7
          have p3 : NR X S7 H7 ((acc ++ [(y', z')]).map (·.1)) ((acc ++ [(y', z')]).map (·.2)) (nks ++ [k]) (bs ++ [bk]) (xs ++ [v7]) := by
            rw [List.map_append, List.map_append]; exact p2
          have up := upd_alien (F := F) (H := H7) (o := ndO X.w p (putN (nz nks bs xs) k bk v7)) sp nF
          exact ⟨S7, W7, _, _, _, _, ((e2.trans e35).trans e67).trans up, c8.alienCh.2, p3.up up, by rw [← p1]; exact upd_same, by rw [List.length_append]; simp; omega, qn fun q hq z => hin (List.mem_map.mpr ⟨q, hq, z⟩)⟩
    | false =>
      have c7 := c2.restore full c5 off1 off2 hno
      exact ⟨S5, W5, acc, nks, bs, xs, e2.trans e35, c7, r5, hp5, by omega, q5⟩
  · have e : i = ds.length := by omega
    subst e
    refine .inl ⟨oks, ?_⟩
    have sp : S2 p := c2.cb.fs p (.inr rfl)
    have := hE (Rem S2 p) (G.del H2 p) ρ1 W2 acc nks bs xs p (e1.trans ⟨fun a o h1 h2 => ?_, fun a h1 h2 => e2.new a h1.1 h2, fun a h => ?_, fun a h => ?_⟩) (c2.unalien nF) (r2.del sp) del_same (hend acc W2 hacc q2)
    · rw [upd_del hp2] at this; exact this
    · have : a ≠ p := fun z => by rw [z, hp] at h2; cases h2
      rw [del_ne this]; exact e2.keep a o h1 h2
    · by_cases ha : a = p
      · rw [ha]; exact hp
      · rw [del_ne ha] at h; exact e2.dom a h
    · rw [del_ne (fun (z : a = p) => nF (z ▸ h))]; exact e2.frn a h
variable {kx vx e tg iter : Expr} {ifs : List Expr} {scope : Scope} {pos : Pos} {fi : TID} {gd : TGD} {ft : TB} {fk fv : TD} {ts : List Nat}
theorem gn_ndc (own : List (Str × Nat)) (hu : X.A.units + 66 < cLine) (hc : X.calm = true) (hN : X.N.Nodup) (hi : GI X Wx tg iter fi) (ok : BlkOk X.N X.env.scope scope own) (hts : ∀ j ∈ ts, j ∈ own.map (·.2))
    (hg : ∀ (s : Shared) (H : Hp) (C : Addr) (cl : List (Str × Addr)) (fp : List Addr), GG (X.blk s H scope (PySem.compEnvC scope cl C X.env) fp) tg gd ts) (ht : ∀ (s : Shared) (H : Hp) (C : Addr) (cl : List (Str × Addr)) (fp : List Addr), GTs (X.blk s H scope (PySem.compEnvC scope cl C X.env) fp) WX0 ifs ft)
    (hk : ∀ (s : Shared) (H : Hp) (C : Addr) (cl : List (Str × Addr)) (fp : List Addr), GE (X.blk s H scope (PySem.compEnvC scope cl C X.env) fp) WX0 kx fk) (hv : ∀ (s : Shared) (H : Hp) (C : Addr) (cl : List (Str × Addr)) (fp : List Addr), GE (X.blk s H scope (PySem.compEnvC scope cl C X.env) fp) WX0 vx fv)
    (hs : ∀ x, foldedSetIterable iter X.env x = pure x := by intro _; rfl) : GNN X Wx (.DictComp kx vx [⟨tg, iter, ifs, 0⟩] scope pos) (dNDc fi gd ft fk fv (own.map (·.2))) := by
  obtain ⟨wi, pi, si⟩ := hi
  exact ⟨_, pe_ndc hu hc hN pi ok (fun s H C cl fp => (hg s H C cl fp).can) (fun s H C cl fp => (ht s H C cl fp).can) (fun s H C cl fp => (hk s H C cl fp).can) (fun s H C cl fp => (hv s H C cl fp).can) hs, snd_ndc hts si⟩
/-- as data -/
def dFreshN (f : TNN) : TD := fun ρ W Q Qx => f ρ W (fun kvs ρ' W' => Q (.dtt (kvs.map (·.1)) (kvs.map (·.2))) ρ' W') Qx
/-- the dict that e makes is locked for good -/
def tLockN (t : TE) : TE := fun σ H Q => t σ H fun v H1 => ∃ p u, v = .ref p ∧ H1 p = some u ∧ Mut (some u) ∧ ∀ od, Q v (upd H1 p (.frz od u))
theorem pe_lockN {t : TE} (h : PE X e t) : PE X e (tLockN t) := ⟨fun pins s σ H Q I z => thn (h.run pins s σ H _ I z) fun v s1 ⟨x, H1, I1, r, p, u, ex, e1, mu, q⟩ => by
  obtain ⟨od, I2⟩ := I1.lock e1 mu
  exact ⟨x, _, I2, r, q od⟩⟩
theorem GNN.ge {f : TNN} (h : GNN X Wx e f) : GE X Wx e (dFreshN f) := by
  obtain ⟨te, pe, se⟩ := h
  refine ⟨_, pe_lockN pe, fun F S H σ ρ W Q Qx R cf hf hx hE => ?_⟩
  refine se F S H σ ρ W _ Qx _ cf hf hx fun S1 H1 ρ1 W1 kvs nks bs xs p e1 c1 r1 hp q1 => ?_
  refine ⟨p, _, rfl, upd_same, True.intro, fun od => ?_⟩
  rw [upd_upd]
  have sm : Same H1 (upd H1 p (.frz od (ndO X.w p (nz nks bs xs)))) := same_new hp
  have st := stp_same c1.cb sm
  exact hE S1 _ ρ1 W1 _ _ (e1.trans st) (c1.same sm) (Rep.dtt_iff.mpr ⟨p, od, nks, bs, xs, rfl, ⟨upd_same, not_s c1.cb hp⟩, ⟨r1.len, r1.ok⟩, r1.rk.up st, r1.rd.up st⟩) q1
/-- x = {..}, the frame's own -/
def dAsgNN (j : Nat) (f : TNN) : TSD := fun De ρ W => f ρ W (fun kvs ρ' W' => De.nx (ρ'.set j (some (.on kvs))) W') De.ex
end
end G
namespace G
open PySem PySem.Spec L2
open PyProof.Rows hiding St
/-- the keys of a locked dict, one behind the other -/
def ItN (w : World) (d : Addr) (o : Obj) (nks : List NestedKey) (bs : List Addr) (xs : List V) : It :=
  ⟨fun i H => H d = some (.frz o (ndO w d (nz nks bs xs))) ∧ i < nks.length, fun i H x H' => H' = H ∧ ∃ b, bs[i]? = some b ∧ x = .ref b, fun i H => H d = some (.frz o (ndO w d (nz nks bs xs))) ∧ nks.length ≤ i⟩
section
variable {X : Cx} {pins : List (Addr × Obj)} {σ : St} {H : Hp} {s : Shared} {d : Addr} {o : Obj} {nks : List NestedKey} {bs : List Addr} {xs : List V}
/-- the one object of a locked dict -/
theorem frz_obj (I : Inv X pins σ H s) (h : H d = some (.frz o (ndO X.w d (nz nks bs xs)))) (l1 : bs.length = nks.length) (l2 : xs.length = nks.length) :
    (d == sysModules) = false ∧ s.heap.get? d = some o ∧ o.ExactDict ∧ nks.length ≤ sizeLine ∧ ∃ (es : Array DictEntry) (ep : Nat), o.data = .dict es ep ∧ es.size = nks.length ∧ ∀ (i : Nat) b, bs[i]? = some b → ∃ en, es[i]? = some en ∧ en.key = .ref b := by
  obtain ⟨h0, ⟨hz, hs, o', es, ep, ys, ho, hx, hdt, pr, he⟩, _⟩ := I.hok d _ h
  rw [h0] at ho
  cases ho
  have lr := nz_len (xs := xs) l1 l2
  have ly : ys.length = nks.length := by rw [← Paired.length pr, lr]
  have lz : es.size = ys.length := by rw [← Array.length_toList, he, List.length_map]
  refine ⟨hs, h0, hx, by rw [← lr]; exact hz, es, ep, hdt, by rw [lz, ly], fun i b hb => ?_⟩
  have hi := (List.getElem?_eq_some_iff.mp hb).1
  obtain ⟨q, hq, e1, e2, _⟩ := L2.paired_get pr (nz_get (i := i) (List.getElem?_eq_getElem (by omega : i < nks.length)) hb (List.getElem?_eq_getElem (by omega : i < xs.length)))
  refine ⟨⟨q.1.hash X.w, .ref q.2.1, q.2.2⟩, ?_, by rw [← e2]⟩
  rw [← Array.getElem?_toList, he, List.getElem?_map, hq]; rfl
end
section
variable {P : Program} {w : World} {K : PySem.W.Frag} {tg : Expr} {d : Addr} {o : Obj} {nks : List NestedKey} {bs : List Addr} {xs : List V} {es : Array DictEntry} {ep : Nat}
theorem turn_n (it : Addr) (hod : o.data = .dict es ep) (l1 : bs.length = nks.length) (l2 : xs.length = nks.length) : Turn P w K tg (ItN w d o nks bs xs) [it] it (fun i h => h.IsKeyIter it d i nks.length ep) where
  mem := List.mem_singleton.mpr rfl
  obj := fun i h st b hb => by
    rw [List.mem_singleton.mp hb]
    obtain ⟨oi, e, _, dd⟩ := st
    exact ⟨oi, e, fun v z => by rw [dd] at z; cases z⟩
  keep := fun i h h' st k => st.at fun oi e => k it (List.mem_singleton.mpr rfl) oi e
  item := by
    intro X hP hw hK hc i pins s σ H E I hf st ⟨hd, hi⟩
    subst hP hw hK
    obtain ⟨f0, f1, f2, f3, f4, f5⟩ := hf it (List.mem_singleton.mpr rfl)
    obtain ⟨_, ho, _, _, es', ep', hdt, hsz, hen⟩ := frz_obj I hd l1 l2
    obtain ⟨rfl, rfl⟩ := dict_ep hod hdt
    have hb : bs[i]? = some (bs[i]'(by omega)) := List.getElem?_eq_getElem (by omega)
    obtain ⟨en, q1, q2⟩ := hen i _ hb
    refine next_key_item st ho hdt hsz q1 fun h' st' sb => ?_
    have J : Inv X pins σ H { s with heap := h' } := I.turned (t' := s.toks) (fun c oc hc e => (sb.2 c hc).trans e) f0 f1 f3 f4 f5
    obtain ⟨oi, z1, z2, z3⟩ := id st'
    exact ⟨en.key, rfl, go_of (s := { s with heap := h' }) z1 z2 z3 (by decide) ⟨.ref (bs[i]'(by omega)), H, J, q2, ⟨rfl, _, hb, rfl⟩, st', fun c hc => (hf c hc).1⟩⟩
  done := by
    intro X hP hw hK hc i pins s σ H E I hf st ⟨hd, hi⟩
    subst hP hw hK
    obtain ⟨f0, f1, f2, f3, f4, f5⟩ := hf it (List.mem_singleton.mpr rfl)
    obtain ⟨_, ho, _, _, es', ep', hdt, hsz, _⟩ := frz_obj I hd l1 l2
    obtain ⟨rfl, rfl⟩ := dict_ep hod hdt
    exact next_key_end (I.ok.hd hc) st ho hdt hsz hi fun h' eb => ⟨rfl, I.turned (t' := s.toks) (fun c oc hb e => eb c oc hb e) f0 f1 f3 f4 f5⟩
  self := fun A i s Q E st h => wpAny_pyIter_keyiter st h
end
def iDictN (X : Cx) (td : TE) : TI := fun σ H R => td σ H fun x H1 => ∃ d o nks bs xs, x = .ref d ∧ H1 d = some (.frz o (ndO X.w d (nz nks bs xs))) ∧ bs.length = nks.length ∧ xs.length = nks.length ∧ R (ItN X.w d o nks bs xs) H1
section
variable {X : Cx} {Wx : WX} {tg e : Expr} {td : TE} {fe : TD}
theorem pi_dictN (he : PE X e td) : PI X tg e (iDictN X td) := by
  refine ⟨fun pins s σ H R I h => ?_⟩
  refine thn (he.run pins s σ H _ I h) fun u s1 ⟨x, H1, I1, rx, d, o, nks, bs, xs, ex, hd, l1, l2, q⟩ => ?_
  subst ex
  obtain rfl : u = Value.ref d := rx
  obtain ⟨hs, ho, hx, _, es, ep, hdt, hsz, _⟩ := frz_obj I1 hd l1 l2
  refine iter_keys hs ho hx hdt (pi_one (tk := s1.toks) I1 _ (turn_n _ hdt l1 l2) ⟨_, Heap.get?_push_size _ rfl, rfl, ?_⟩ q)
  rw [hsz]; rfl
theorem itok_n {F S : Reg} {H : Hp} {d : Addr} {o : Obj} {nks : List NestedKey} {bs : List Addr} {xs : List V} {ks : List D} (h : H d = some (.frz o (ndO X.w d (nz nks bs xs))) ∧ ¬ S d) (rk : Reps (kf X) S H ks (bs.map V.ref)) (lb : bs.length = nks.length) : ItOk (kf X) F S H (ItN X.w d o nks bs xs) ks := fun S' H' e => by
  have h' := e.has h
  have r' := rk.up e
  have lk : ks.length = nks.length := by
    have := rk.length
    rw [List.length_map] at this
    omega
  refine ⟨fun i k hk => ?_, h'.1, by omega⟩
  have hi := (List.getElem?_eq_some_iff.mp hk).1
  obtain ⟨v, hv, rv⟩ := r'.get hk
  refine ⟨⟨h'.1, by omega⟩, fun x H3 ⟨e3, b, hb, ex⟩ => ?_⟩
  subst e3 ex
  rw [List.getElem?_map, hb] at hv
  cases hv
  exact ⟨Same.refl _, fun _ => rv⟩
def iKeyD (fe : TD) : TID := fun ρ W Q Qx => fe ρ W (fun d ρ' W' => match d with | .dtt ks _ => Q ks ρ' W' | _ => False) Qx
theorem gi_keyD (he : GE X Wx e fe) : GI X Wx tg e (iKeyD fe) := by
  obtain ⟨te, pe, se⟩ := he
  refine ⟨_, pi_dictN pe, fun F S H σ ρ W Q Qx R cf hf hx hE => ?_⟩
  refine se F S H σ ρ W _ Qx _ cf hf hx fun S1 H1 ρ1 W1 d v e1 c1 r1 q1 => ?_
  split at q1
  · rename_i ks ds
    obtain ⟨a, o, nks, bs, xs, rfl, ⟨h1, hs⟩, ⟨h2, h3⟩, h4, h5⟩ := Rep.dtt_iff.mp r1
    have nr : NR X S1 H1 ks ds nks bs xs := ⟨h3, h4, h5, h2⟩
    exact ⟨a, o, nks, bs, xs, rfl, h1, nr.lb, nr.lx, hE S1 H1 ρ1 W1 ks _ e1 c1 (itok_n ⟨h1, hs⟩ h4 nr.lb) q1⟩
  · exact q1.elim
end
end G
namespace G
open PySem PySem.Spec L2
open PyProof.Rows hiding St
def FrzAt (X : Cx) (H : Hp) (a : Addr) (bs : List Addr) : Prop := ∃ o nks xs, H a = some (.frz o (ndO X.w a (nz nks bs xs))) ∧ bs.length = nks.length ∧ xs.length = nks.length
theorem vals_refs : ∀ bs : List Addr, Vals (bs.map V.ref) (bs.map Value.ref)
  | [] => .nil
  | b :: bs => .cons rfl (vals_refs bs)
section
variable {X : Cx} {pins : List (Addr × Obj)} {σ : St} {H : Hp} {s : Shared} {a : Addr} {bs : List Addr}
theorem FrzAt.raw (I : Inv X pins σ H s) (h : FrzAt X H a bs) : (a == sysModules) = false ∧ bs.length ≤ sizeLine ∧ ∃ (es : Array DictEntry) (ep : Nat), s.heap.DictRaw a es ep ∧ es.size = bs.length ∧
    ∀ acc : Array Value, ItemsOf (fun i v => ∃ hi : i < es.size, v = es[i].key) acc es.size → acc.toList = bs.map Value.ref := by
  obtain ⟨o, nks, xs, e, l1, l2⟩ := h
  obtain ⟨hs, ho, hx, hz, es, ep, hdt, hsz, hen⟩ := frz_obj I e l1 l2
  refine ⟨hs, by omega, es, ep, ⟨o, ho, hx, hdt⟩, by omega, fun acc ⟨h1, h2⟩ => ?_⟩
  refine List.ext_getElem? fun i => ?_
  by_cases hi : i < bs.length
  · obtain ⟨en, q1, q2⟩ := hen i _ (List.getElem?_eq_getElem hi)
    have hv : acc[i]? = some acc[i] := Array.getElem?_eq_getElem (by omega)
    obtain ⟨hi', ev⟩ := h2 i _ hv
    have : es[i] = en := by
      rw [Array.getElem?_eq_getElem hi'] at q1
      exact Option.some.inj q1
    rw [Array.getElem?_toList, hv, ev, this, q2, List.getElem?_map, List.getElem?_eq_getElem hi]; rfl
  · rw [List.getElem?_eq_none (by rw [Array.length_toList]; omega), List.getElem?_eq_none (by rw [List.length_map]; omega)]
end
def rListN (X : Cx) : List V → Hp → VK → Prop := fun vs H Q => ∃ a bs, vs = [.ref a] ∧ FrzAt X H a bs ∧ ∀ l, H l = none → Q (.ref l) (upd H l (.lst (bs.map V.ref)))
def rTupN (X : Cx) : List V → Hp → VK → Prop := fun vs H Q => ∃ a bs, vs = [.ref a] ∧ FrzAt X H a bs ∧ ∀ l, H l = none → Q (.ref l) (upd H l (.tup (bs.map V.ref)))
section
variable {X : Cx}
theorem cr_listN (hc : X.calm = true) : CallR X (.type "list") (rListN X) := by
  intro pins s σ H vs us Q I r h
  obtain ⟨a, bs, rfl, hf, q⟩ := h
  rw [Vals.ref1 r]
  obtain ⟨hs, hz, es, ep, raw, hsz, items⟩ := hf.raw I
  refine PySem.W.kdl_call (PySem.KdlSrc.rawDict hs) (I.ok.hd hc) raw (by omega) fun h' tk acc c hk hg hacc => ?_
  have ea := items acc hacc
  have new : ObjOk X.prog X.w (upd H s.heap.objs.size (.lst (bs.map V.ref))) h' s.heap.objs.size (.lst (bs.map V.ref)) :=
    ⟨by rw [List.length_map]; exact hz, bs.map Value.ref, c, vals_refs bs, by rw [← ea, Array.toArray_toList]; exact hg⟩
  exact ⟨.ref s.heap.objs.size, _, I.laid (t' := tk) hk (Nat.le_refl _) new, rfl, q _ (I.hok.fresh (Nat.le_refl _))⟩
section
variable {prog : Program} {w : World} {A : Around} {E : Value → Shared → Prop} {s : Shared} {r d : Addr} {n : Nat} {P : Nat → Value → Prop} {OK : Heap → Prop}
theorem code_tuple_src {Q₁ : Value → Shared → Prop} (S : PySem.W.KdlSrc prog w "dict" r d n P OK) (hh : A.handled = none) (hok : OK s.heap) (hn : n ≤ sizeLine)
    (h : ∀ (h' : Heap) (tk : Nat) (acc : Array Value), (∀ b o, s.heap.get? b = some o → h'.get? b = some o) → ItemsOf P acc n → Q₁ (.ref h'.objs.size) { s with heap := h'.push { cls := .type "tuple", data := .seq acc }, toks := tk }) :
    codeAny (model prog w) A (.call (.builtin "tuple.__new__") ⟨[.type "tuple", .ref r], []⟩) (wants Q₁ E) s := by
  refine codeAny_of_tree ?_
  show wpAny _ A.in1 (do checkBuiltinCall "tuple.__new__" ⟨[.type "tuple", .ref r], []⟩; again (.builtin "tuple.__new__" ⟨[.type "tuple", .ref r], []⟩)) _ _ s
  refine wpAny_bind (wpAny_of_eq (PySem.F.newCall_tuple_1 _) (wpAny_pure ⟨plainId_quiet PySem.F.plain_tuple_new _, codeAny_builtin PySem.F.entry_tuple_new ?_⟩))
  rw [Around.under_plainId PySem.F.plain_tuple_new _]
  have m1 := sub_tuple_self
  have m2 := init_tuple_lookup
  have m3 := madeHere_tuple
  have ty := S.type s hok
  have col : ∀ {B : Around} {E' : Value → Shared → Prop} {R : List Value → Shared → Prop}, B.handled = none → (∀ (h' : Heap) (tk : Nat) (acc : Array Value), (∀ b o, s.heap.get? b = some o → h'.get? b = some o) → ItemsOf P acc n → R acc.toList { s with heap := h', toks := tk }) →
      wpAny (model prog w) B (collect (.ref r)) R E' s := fun hB q => PySem.W.kdu_collect S hB hok hn q
  have hA : A.in1.handled = none := hh
  wp_walk using wpAny_typeOf ty, col hA
  intro h' tk acc hk hacc
  show wpAny _ _ (Builtin.Tuple.tupleExact acc.toList.toArray >>= fun v => ret v) _ _ _
  unfold Builtin.Tuple.tupleExact
  have ea : acc.toList.toArray = acc := Array.toArray_toList
  rw [ea]
  refine wpAny_bind (wpAny_newObj_type ?_ (by show acc.size ≤ sizeLine; rw [hacc.1]; exact hn))
  exact wpAny_pure (h h' tk acc hk hacc)
theorem call_tuple_src {Q : Value → Shared → Prop} (S : PySem.W.KdlSrc prog w "dict" r d n P OK) (hh : A.handled = none) (hok : OK s.heap) (hn : n ≤ sizeLine)
    (h : ∀ (h' : Heap) (tk : Nat) (acc : Array Value), (∀ b o, s.heap.get? b = some o → h'.get? b = some o) → ItemsOf P acc n → Q (.ref h'.objs.size) { s with heap := h'.push { cls := .type "tuple", data := .seq acc }, toks := tk }) :
    wpAny (model prog w) A (call (.type "tuple") [.ref r]) Q E s := by
  refine callType_codes (Q₁ := fun obj s₁ => s₁.TypeIs obj "tuple" ∧ Q obj s₁) PySem.F.called_tuple (PySem.F.typeCall_tuple_1 _) PySem.F.entry_object_init
    (code_tuple_src S hh hok hn fun h' tk acc hk hacc => ⟨⟨_, Heap.get?_push_size _ rfl, rfl⟩, h h' tk acc hk hacc⟩) fun obj s₁ h₁ => ?_
  exact ⟨h₁.1, PySem.F.args_object_init_2 obj _, object_init_meets PySem.F.called_tuple.init.lookup PySem.F.called_tuple.made (by decide) prog w A.in1 _ s₁ ⟨h₁.1, rfl, h₁.2⟩⟩
end
theorem cr_tupN (hc : X.calm = true) : CallR X (.type "tuple") (rTupN X) := by
  intro pins s σ H vs us Q I r h
  obtain ⟨a, bs, rfl, hf, q⟩ := h
  rw [Vals.ref1 r]
  obtain ⟨hs, hz, es, ep, raw, hsz, items⟩ := hf.raw I
  refine call_tuple_src (PySem.KdlSrc.rawDict hs) (I.ok.hd hc) raw (by omega) fun h' tk acc hk hacc => ?_
  have ea := items acc hacc
  have I1 : Inv X pins σ H { s with heap := h', toks := tk } := I.kept (t' := tk) hk
  have new : ObjOk X.prog X.w (upd H h'.objs.size (.tup (bs.map V.ref))) (h'.push { cls := .type "tuple", data := .seq acc }) h'.objs.size (.tup (bs.map V.ref)) :=
    ⟨by rw [List.length_map]; exact hz, bs.map Value.ref, vals_refs bs, by rw [← ea, Array.toArray_toList]; exact IsTup.new _ _⟩
  exact ⟨.ref h'.objs.size, _, I1.laid (t' := tk) (fun b o e => Heap.get?_push_of_some _ e) (Nat.le_refl _) new, rfl, q _ (I1.hok.fresh (Nat.le_refl _))⟩
/-- sorted(d), the keys alike data -/
def rSortN (X : Cx) : List V → Hp → VK → Prop := fun vs H Q => ∃ (a : Addr) (bs : List (Addr × PyData)), vs = [.ref a] ∧ FrzAt X H a (bs.map Prod.fst) ∧ (∀ b ∈ bs, Dp (kf X) H (.ref b.1) b.2) ∧ PySem.W.AllAlike (bs.map Prod.snd) ∧ PySem.W.Sortable (bs.map Prod.snd) ∧ (∀ b ∈ bs, b.2.depth ≤ 62) ∧
  ∀ p, H p = none → Q (.ref p) (upd H p (.lst ((bs.mergeSort (PySem.W.dataLe false Prod.snd)).map fun b => V.ref b.1)))
theorem cr_sortN (hc : X.calm = true) (hu : X.A.units + 66 < cLine) : CallR X (.builtin "sorted") (rSortN X) := by
  intro pins s σ H vs us Q I r h
  obtain ⟨a, bs, rfl, hf, hd, hal, hso, hdep, q⟩ := h
  rw [Vals.ref1 r]
  obtain ⟨hs, hz, es, ep, raw, hsz, items⟩ := hf.raw I
  rw [List.length_map] at hz hsz
  refine Calls.call_function_entry kind_sorted plain_sorted entry_sorted (args_sorted1 _) ?_
  unfold Builtin.«sorted»
  refine wpAny_bind (m := checkCount "sorted" 1 1 _) (wpAny_pure ?_)
  refine wpAny_bind (PySem.W.kdu_collect (A := X.A.in1) (PySem.KdlSrc.rawDict hs) (I.ok.hd hc) raw (by omega) fun h1 tk acc hk hacc => ?_)
  have ea := items acc hacc
  generalize hits : acc.toList = its at ea
  have li : its.length = bs.length := by rw [ea, List.length_map, List.length_map]
  have J : Inv X pins σ H { s with heap := h1, toks := tk } := I.kept (t' := tk) hk
  refine wpAny_bind (wpAny_newList ?_ (by rw [li]; omega))
  have hoL : (h1.push (seqObj "list" its.toArray 0)).get? h1.objs.size = some (seqObj "list" its.toArray 0) := Heap.get?_push_size _ rfl
  have olds : ∀ {b o}, h1.get? b = some o → (PySem.W.sortingHeap (h1.push (seqObj "list" its.toArray 0)) h1.objs.size its).get? b = some o := fun {b o} e =>
    PySem.W.sortingHeap_old (Nat.ne_of_lt (Heap.lt_size e)) (Heap.get?_push_of_some _ e)
  have J2 : Inv X pins σ H { s with heap := PySem.W.sortingHeap (h1.push (seqObj "list" its.toArray 0)) h1.objs.size its, toks := tk } := J.kept (t' := tk) fun b o e => olds e
  have hkd : PySem.W.EachIs (fun v d => ∃ as, PySem.Reads (PySem.W.sortingHeap (h1.push (seqObj "list" its.toArray 0)) h1.objs.size its) v d as) its (bs.map Prod.snd) := by
    refine PySem.W.EachIs.of_zip (by rw [List.length_map, li]) fun p hp => ?_
    obtain ⟨i, hi, rfl⟩ := List.getElem_of_mem hp
    rw [List.length_zip, List.length_map] at hi
    obtain ⟨b, hb⟩ : ∃ b, bs[i]? = some b := ⟨_, List.getElem?_eq_getElem (by omega)⟩
    have eu : its[i]? = some (Value.ref b.1) := by rw [ea, List.getElem?_map, List.getElem?_map, hb]; rfl
    have e1 : (its.zip (bs.map Prod.snd))[i]? = some (Value.ref b.1, b.2) := by
      rw [List.getElem?_zip_eq_some]
      exact ⟨eu, by rw [List.getElem?_map, hb]; rfl⟩
    obtain ⟨_, e2⟩ := List.getElem?_eq_some_iff.mp e1
    rw [e2]
    exact Dp.reads J2 _ (.ref b.1) _ (hd b (List.mem_of_getElem? hb)) rfl
  have S := PySem.W.SortsAt.data (prog := X.prog) (w := X.w) (A := X.A.in1.in1) (s := { s with heap := PySem.W.sortingHeap (h1.push (seqObj "list" its.toArray 0)) h1.objs.size its, toks := tk }) hkd hal hso fun d hd' => by
    rw [List.mem_map] at hd'
    obtain ⟨b, m, rfl⟩ := hd'
    have := hdep b m
    show X.A.units + 1 + 1 + _ < _
    omega
  refine wpAny_bind (wpAny_holding (wpAny_call_entry slot_list_sort ⟨_, hoL, rfl⟩ entry_list_sort (PySem.W.list_sort_vals hoL S (by rw [li]; omega) ⟨_, rfl, ?_⟩) (args_list_sort _)))
  obtain ⟨ep2, he⟩ := sortedHeap_at (vs := its) (out := (PySem.W.sortVals (PySem.W.dataKind (PySem.W.sortingHeap (h1.push (seqObj "list" its.toArray 0)) h1.objs.size its) (bs.map Prod.snd)) false its its).toArray) hoL
  have rv : Vals (bs.map fun b => V.ref b.1) its := by
    have := vals_refs (bs.map Prod.fst)
    rw [List.map_map] at this
    rw [ea]; exact this
  have ev := PySem.W.keyedOut_each (rev := false) (R := fun v (b : Addr × PyData) => RelV (V.ref b.1) v) (bs := bs) Prod.snd ⟨_, its, hal, rfl, hkd⟩ (vals_each rv)
  have vo := each_vals (f := fun b : Addr × PyData => V.ref b.1) ev
  have ol : ((bs.mergeSort (PySem.W.dataLe false Prod.snd)).map fun b => V.ref b.1).length ≤ sizeLine := by
    rw [List.length_map, List.length_mergeSort]; exact hz
  have old2 : ∀ b o, h1.get? b = some o → (sortedHeap (h1.push (seqObj "list" its.toArray 0)) h1.objs.size its (PySem.W.sortVals (PySem.W.dataKind (PySem.W.sortingHeap (h1.push (seqObj "list" its.toArray 0)) h1.objs.size its) (bs.map Prod.snd)) false its its).toArray).get? b = some o := fun b o e => by
    have lt := Heap.lt_size e
    rw [sortedHeap_old (Nat.ne_of_lt lt) (by rw [size_push']; exact Nat.lt_succ_of_lt lt)]
    exact Heap.get?_push_of_some _ e
  exact wpAny_pure ⟨_, rfl, .ref h1.objs.size, _, J.laid (t' := tk) (a := h1.objs.size) (o := .lst ((bs.mergeSort (PySem.W.dataLe false Prod.snd)).map fun b => V.ref b.1)) old2 (Nat.le_refl _) ⟨ol, _, ep2, vo, he⟩, rfl, q _ (J.hok.fresh (Nat.le_refl _))⟩
end
end G
namespace G
open PySem PySem.Spec L2
section
variable {X : Cx} {Wx : WX} {e : Expr} {fe : TD} {pos : Pos}
theorem dtt_frz {S : Reg} {H : Hp} {ks ds : List D} {v : V} (r : Rep (kf X) S H (.dtt ks ds) v) : ∃ a bs, v = .ref a ∧ FrzAt X H a bs ∧ Reps (kf X) S H ks (bs.map V.ref) := by
  obtain ⟨a, o, nks, bs, xs, rfl, ⟨h1, hs⟩, ⟨h2, h3⟩, h4, h5⟩ := Rep.dtt_iff.mp r
  have nr : NR X S H ks ds nks bs xs := ⟨h3, h4, h5, h2⟩
  exact ⟨a, bs, rfl, ⟨o, nks, xs, h1, nr.lb, nr.lx⟩, h4⟩
/-- list(d) -/
def dKeysL (fe : TD) : TL := fun ρ W Q Qx => fe ρ W (fun d ρ' W' => match d with | .dtt ks _ => Q ks ρ' W' | _ => False) Qx
theorem gn_keysL (hc : X.calm = true) {x : Str} {p : Pos} (hg : Gl X x) (hm : X.mg x = none) (hv : bootBuiltins x = some (.type "list")) (ha : GE X Wx e fe) (hn : x ≠ "__name__" := by decide) (hdb : (x == ("__debug__" : Str)) = false := by decide)
    (he : starEach [e] X.env = (false, eval e X.env) :: starEach [] X.env := by rfl) (hpl : (backTo pos (starEach [] X.env)).any (·.1) = false := by rfl) : GN X Wx (.Call (.Name x p) [e] [] pos) (dKeysL fe) := by
  obtain ⟨te, pe, se⟩ := ha
  refine ⟨_, pe_callTy (cr_listN hc) hg hm hv (pa_cons pe pa_nil he) hn hdb he hpl, fun F S H σ ρ W Q Qx R cf hf hx hE => ?_⟩
  refine se F S H σ ρ W _ Qx _ cf hf hx fun S' H' ρ' W' d v e' c r q => ?_
  split at q
  · obtain ⟨a, bs, rfl, hf, hk⟩ := dtt_frz r
    exact ⟨a, bs, rfl, hf, fun l hl => hE S' H' ρ' W' _ _ l e' c hk hl q⟩
  · exact q.elim
/-- tuple(d) -/
def dKeysT (fe : TD) : TD := fun ρ W Q Qx => fe ρ W (fun d ρ' W' => match d with | .dtt ks _ => Q (.tup ks) ρ' W' | _ => False) Qx
theorem ge_keysT (hc : X.calm = true) {x : Str} {p : Pos} (hg : Gl X x) (hm : X.mg x = none) (hv : bootBuiltins x = some (.type "tuple")) (ha : GE X Wx e fe) (hn : x ≠ "__name__" := by decide) (hdb : (x == ("__debug__" : Str)) = false := by decide)
    (he : starEach [e] X.env = (false, eval e X.env) :: starEach [] X.env := by rfl) (hpl : (backTo pos (starEach [] X.env)).any (·.1) = false := by rfl) : GE X Wx (.Call (.Name x p) [e] [] pos) (dKeysT fe) := by
  obtain ⟨te, pe, se⟩ := ha
  refine ⟨_, pe_callTy (cr_tupN hc) hg hm hv (pa_cons pe pa_nil he) hn hdb he hpl, fun F S H σ ρ W Q Qx R cf hf hx hE => ?_⟩
  refine se F S H σ ρ W _ Qx _ cf hf hx fun S' H' ρ' W' d v e' c r q => ?_
  split at q
  · obtain ⟨a, bs, rfl, hf, hk⟩ := dtt_frz r
    exact ⟨a, bs, rfl, hf, fun l hl => hE S' _ ρ' W' _ _ (e'.trans (stp_same c.cb (same_new hl))) (c.same (same_new hl)) (rep_newT c.cb hl hk) q⟩
  · exact q.elim
/-- sorted(d) -/
def dSortN (fe : TD) : TL := fun ρ W Q Qx => fe ρ W (fun d ρ' W' => match d with
  | .dtt ks _ => (∀ x ∈ ks, D.good 60 x = true) ∧ PySem.W.AllAlike (ks.map D.py) ∧ PySem.W.Sortable (ks.map D.py) ∧ Q (srt ks) ρ' W'
  | _ => False) Qx
theorem reps_srt {K : KF} {S : Reg} {H : Hp} {ds : List D} {xs : List V} (hr : Reps K S H ds xs) : Reps K S H (srt ds) (((xs.zip ds).mergeSort (PySem.W.dataLe false fun b => b.2.py)).map Prod.fst) := by
  have hxl := hr.length
  have e : srt ds = ((xs.zip ds).mergeSort (PySem.W.dataLe false fun b => b.2.py)).map Prod.snd := by
    have := PySem.W.sort_maps (r := PySem.W.dataLe false fun b : V × D => b.2.py) (s := PySem.W.dataLe false D.py) Prod.snd (l := xs.zip ds) fun a _ b _ => rfl
    rw [this, List.map_snd_zip (by omega)]
  rw [e]
  have all : ∀ b ∈ (xs.zip ds).mergeSort (PySem.W.dataLe false fun b => b.2.py), Rep K S H b.2 b.1 := fun b hb => reps_zip_all hr b ((List.mergeSort_perm _ _).mem_iff.mp hb)
  generalize (xs.zip ds).mergeSort (PySem.W.dataLe false fun b => b.2.py) = l at all
  induction l with
  | nil => exact Reps.nil
  | cons b l ih => exact Reps.cons (all b List.mem_cons_self) (ih fun c hc => all c (List.mem_cons_of_mem _ hc))
theorem gn_sortN (hc : X.calm = true) (hu : X.A.units + 66 < cLine) {x : Str} {p : Pos} (hg : Gl X x) (hm : X.mg x = none) (hv : bootBuiltins x = some (.builtin "sorted")) (ha : GE X Wx e fe) (hn : x ≠ "__name__" := by decide) (hdb : (x == ("__debug__" : Str)) = false := by decide)
    (he : starEach [e] X.env = (false, eval e X.env) :: starEach [] X.env := by rfl) (hpl : (backTo pos (starEach [] X.env)).any (·.1) = false := by rfl) : GN X Wx (.Call (.Name x p) [e] [] pos) (dSortN fe) := by
  obtain ⟨te, pe, se⟩ := ha
  refine ⟨_, pe_callB (cr_sortN hc hu) hg hm hv (pa_cons pe pa_nil he) hn hdb he hpl, fun F S H σ ρ W Q Qx R cf hf hx hE => ?_⟩
  refine se F S H σ ρ W _ Qx _ cf hf hx fun S' H' ρ' W' d v e' c r q => ?_
  split at q
  · rename_i ks ds
    obtain ⟨a, bs, rfl, hf, hk⟩ := dtt_frz r
    obtain ⟨hg1, hal, hso, q⟩ := q
    have hl : bs.length = ks.length := by have := hk.length; rwa [List.length_map] at this
    have e1 : (bs.zip (ks.map D.py)).map Prod.fst = bs := zip_fst (by rw [hl, List.length_map])
    have e2 : (bs.zip (ks.map D.py)).map Prod.snd = ks.map D.py := zip_snd (by rw [hl, List.length_map])
    have at_ : ∀ b ∈ bs.zip (ks.map D.py), ∃ k ∈ ks, b.2 = k.py ∧ Rep (kf X) S' H' k (.ref b.1) := fun b hb => by
      obtain ⟨i, hi⟩ := List.mem_iff_getElem?.mp hb
      obtain ⟨h1, h2⟩ := List.getElem?_zip_eq_some.mp hi
      rw [List.getElem?_map] at h2
      obtain ⟨k, h2, ek⟩ := Option.map_eq_some_iff.mp h2
      obtain ⟨v, hv, rv⟩ := hk.get h2
      rw [List.getElem?_map, h1] at hv
      cases hv
      exact ⟨k, List.mem_of_getElem? h2, ek.symm, rv⟩
    refine ⟨a, bs.zip (ks.map D.py), rfl, by rw [e1]; exact hf, fun b hb => ?_, by rw [e2]; exact hal, by rw [e2]; exact hso, fun b hb => ?_, fun l hl2 => ?_⟩
    · obtain ⟨k, hk1, ek, rk⟩ := at_ b hb
      rw [ek]; exact dp_of (n := 60) (hg1 k hk1) rk
    · obtain ⟨k, hk1, ek, _⟩ := at_ b hb
      have := (lay_of (hg1 k hk1)).2
      rw [ek]; omega
    · have ez : (((bs.map V.ref).zip ks).mergeSort (PySem.W.dataLe false fun b => b.2.py)).map Prod.fst = ((bs.zip (ks.map D.py)).mergeSort (PySem.W.dataLe false Prod.snd)).map fun b => V.ref b.1 := by
        have hz : (bs.map V.ref).zip (ks.map D.py) = (bs.zip (ks.map D.py)).map fun b => (V.ref b.1, b.2) := by rw [List.zip_map_left]; rfl
        have hz2 : (bs.map V.ref).zip (ks.map D.py) = ((bs.map V.ref).zip ks).map fun b => (b.1, b.2.py) := by rw [List.zip_map_right]; rfl
        have m1 := PySem.W.sort_maps (r := PySem.W.dataLe false fun b : V × D => b.2.py) (s := PySem.W.dataLe false (Prod.snd : V × PyData → PyData)) (fun b : V × D => (b.1, b.2.py)) (l := (bs.map V.ref).zip ks) fun a _ b _ => rfl
        have m2 := PySem.W.sort_maps (r := PySem.W.dataLe false (Prod.snd : Addr × PyData → PyData)) (s := PySem.W.dataLe false (Prod.snd : V × PyData → PyData)) (fun b : Addr × PyData => (V.ref b.1, b.2)) (l := bs.zip (ks.map D.py)) fun a _ b _ => rfl
        rw [← hz2, hz, ← m2] at m1
        have := congrArg (List.map Prod.fst) m1
        rw [List.map_map, List.map_map] at this
        exact this
      have rs := reps_srt hk
      rw [ez] at rs
      exact hE S' H' ρ' W' _ _ l e' c rs hl2 q
  · exact q.elim
end
section
variable {X : Cx} {Wx : WX} {e : Expr} {fe : TD} {pos px apos cpos pos' : Pos} {j : Nat} {x y : Str}
/-- list(x) -/
def dCopyO (j : Nat) : TL := fun ρ W Q _ => match ρ[j]? with | some (some (.om (.lst ds))) => Q ds ρ W | _ => False
theorem gn_copyO (j : Nat) {p : Pos} (hg : Gl X y) (hm : X.mg y = none) (hb : bootBuiltins y = some (.type "list")) (hN : X.N[j]? = some x := by rfl) (hv : Vis X.env.scope x := by first | exact Or.inl rfl | exact Or.inr (Or.inl rfl) | exact Or.inr (Or.inr rfl)) (hd : (x == ("__debug__" : Str)) = false := by decide) (hcd : (x == ("__classdict__" : Str)) = false := by decide)
    (hn : y ≠ "__name__" := by decide) (hdb : (y == ("__debug__" : Str)) = false := by decide) (he : starEach [.Name x px] X.env = (false, eval (.Name x px) X.env) :: starEach [] X.env := by rfl) (hpl : (backTo pos (starEach [] X.env)).any (·.1) = false := by rfl) :
    GN X Wx (.Call (.Name y p) [.Name x px] [] pos) (dCopyO j) := by
  refine ⟨_, pe_callTy call_list_of hg hm hb (pa_cons (pe_var hN hv hd hcd) pa_nil he) hn hdb he hpl, fun F S H σ ρ W Q Qx R cf hf hx hE => ?_⟩
  unfold dCopyO at hf
  split at hf
  · rename_i ds h0
    obtain ⟨p, xs, hp, h2, h3, _⟩ := cf.ol j ds h0
    exact ⟨_, hp, p, xs, rfl, .inl (SqL.of h2), fun l hl => hE S H ρ W ds xs l .refl cf h3 hl hf⟩
  · exact hf.elim
/-- e in x, the items of any depth -/
def dInNO (neg : Bool) (fe : TD) (j : Nat) : TD := fun ρ W Q Qx => fe ρ W (fun d ρ' W' => match ρ'[j]? with
  | some (some (.om (.lst ds))) => D.good 62 d = true ∧ goods 62 ds = true ∧ Q (.bl (if neg then !ds.any fun z => eqD z d else ds.any fun z => eqD z d)) ρ' W'
  | _ => False) Qx
theorem snd_inNO {neg : Bool} (j : Nat) {K : KF} {te : TE} (se : Snd K Wx te fe) : Snd K Wx (tOp (rInN K neg) te (tVar j)) (dInNO neg fe j) := by
  intro F S H σ ρ W Q Qx R cf hf hx hE
  refine se F S H σ ρ W _ Qx _ cf hf hx fun S2 H2 ρ2 W2 d2 v2 e2 c2 r2 q2 => ?_
  split at q2
  · rename_i ds hk
    obtain ⟨p, ys, hp, h2, h3, _⟩ := c2.ol j ds hk
    obtain ⟨g1, g2, q⟩ := q2
    refine ⟨_, hp, d2.py, pys ds, dp_of (n := 62) g1 r2, .inl (.lst (SqL.of h2) (dps_of g2 h3)), (lays_of g2).1, (lay_of g1).1, (lay_of g1).2, ?_⟩
    rw [any_py]
    exact hE S2 H2 ρ2 W2 _ _ e2 c2 (Rep.v_iff.mpr rfl) q
  · exact q2.elim
theorem gt_niNO (j : Nat) (hu : X.A.units + 64 < cLine) (he : GE X Wx e fe) (hN : X.N[j]? = some x := by rfl) (hv : Vis X.env.scope x := by first | exact Or.inl rfl | exact Or.inr (Or.inl rfl) | exact Or.inr (Or.inr rfl)) (hd : (x == ("__debug__" : Str)) = false := by decide) (hcd : (x == ("__classdict__" : Str)) = false := by decide) :
    GT X Wx (.Compare e [.NotIn] [.Name x px] pos) (dBool (dInNO true fe j)) := by
  obtain ⟨te, pe, se⟩ := he
  exact ⟨_, pt_cmpR (op_niN hu) pe (pe_var hN hv hd hcd) rfl, snd_tB (snd_inNO j se)⟩
/-- x != [] -/
def dNeO (j : Nat) : TB := fun ρ W Q _ => match ρ[j]? with | some (some (.om (.lst ds))) => goods 63 ds = true ∧ Q (!ds.isEmpty) ρ W | _ => False
theorem gt_neO (j : Nat) {p2 : Pos} (hu : X.A.units + 64 < cLine) (hm : behindInMarks .NotEq (.List [] p2) = false) (hN : X.N[j]? = some x := by rfl) (hv : Vis X.env.scope x := by first | exact Or.inl rfl | exact Or.inr (Or.inl rfl) | exact Or.inr (Or.inr rfl)) (hd : (x == ("__debug__" : Str)) = false := by decide) (hcd : (x == ("__classdict__" : Str)) = false := by decide) :
    GT X Wx (.Compare (.Name x px) [.NotEq] [.List [] p2] pos) (dNeO j) := by
  refine ⟨_, pt_cmpR (op_neD hu) (pe_var hN hv hd hcd) (pe_lst (pa_nil (X := X))) hm, fun F S H σ ρ W Q Qx R cf hf hx hE => ?_⟩
  unfold dNeO at hf
  split at hf
  · rename_i ds h0
    obtain ⟨g, q⟩ := hf
    obtain ⟨p, xs, hp, h2, h3, _⟩ := cf.ol j ds h0
    refine ⟨_, hp, by decide, fun l hl => ?_⟩
    have gl : D.good 64 (.lst ds) = true := by simpa [D.good] using g
    have gn : D.good 64 (.lst []) = true := by simp [D.good, goods]
    have sm : Same H (upd H l (.lst [])) := same_new hl
    have st := stp_same cf.cb sm
    have h2' : upd H l (.lst []) p = some (.lst xs) := by rw [upd_ne (ne_of_none h2 hl)]; exact h2
    have dp1 : Dp X.K (upd H l (.lst [])) (.ref p) (D.lst ds).py := by
      simp only [D.py]
      exact .lst (SqL.of h2') (dps_of (K := kf X) g (h3.up st))
    have dp2 : Dp X.K (upd H l (.lst [])) (.ref l) (D.lst []).py := by
      simp only [D.py]
      exact .lst (SqL.of upd_same) (dps_of (K := kf X) (S := S) (n := 63) (by simp [goods]) Reps.nil)
    refine ⟨_, _, dp1, dp2, shaped_of gl, shaped_of gn, !ds.isEmpty, ?_, hE S _ ρ W _ st (cf.same sm) q⟩
    cases ds with
    | nil => simp [D.py, pys, PyData.eqv, PyData.eqvAll]
    | cons a r => simp [D.py, pys, PyData.eqv, PyData.eqvAll]
  · exact hf.elim
/-- x.pop() -/
def dPopL (j : Nat) : TD := fun ρ W Q _ => match ρ[j]? with | some (some (.om (.lst ds))) => ∃ z, ds[ds.length - 1]? = some z ∧ Q z (ρ.set j (some (.ol ds.dropLast))) W | _ => False
theorem reps_last {K : KF} {S : Reg} {H : Hp} {ds : List D} {xs : List V} (r : Reps K S H ds xs) : Reps K S H ds.dropLast xs.dropLast := by
  rw [List.dropLast_eq_take, List.dropLast_eq_take, r.length]
  exact r.take _
theorem ge_popL (j : Nat) (hN : X.N[j]? = some x := by rfl) (hv : Vis X.env.scope x := by first | exact Or.inl rfl | exact Or.inr (Or.inl rfl) | exact Or.inr (Or.inr rfl)) (hd : (x == ("__debug__" : Str)) = false := by decide) (hcd : (x == ("__classdict__" : Str)) = false := by decide)
    (hbase : attributeBase (.Name x px) "pop" X.env (eval (.Name x px) X.env) = eval (.Name x px) X.env := by rfl) (hline : (apos.endLine == cpos.line) = true := by rfl) :
    GE X Wx (.Call (.Attribute (.Name x px) "pop" apos) [] [] cpos) (dPopL j) := by
  refine ⟨_, pe_bm0 PySem.F.plainAttrs_list PySem.F.slot_list_pop PySem.F.type_list_pop mt_pop (pe_var hN hv hd hcd) hbase hline, fun F S H σ ρ W Q Qx R cf hf hx hE => ?_⟩
  unfold dPopL at hf
  split at hf
  · rename_i ds h0
    obtain ⟨z, hz, q⟩ := hf
    obtain ⟨p, xs, hp, h2, h3, _⟩ := cf.ol j ds h0
    obtain ⟨v, hv, rv⟩ := h3.get hz
    obtain ⟨st, c2⟩ := cf.chOl h0 hp (reps_last h3)
    exact ⟨_, hp, .inl ⟨rfl, xs, SqL.of h2⟩, p, xs, v, rfl, rfl, h2, by rw [h3.length]; exact hv, hE S _ _ W z v st c2 (rv.up st) q⟩
  · exact hf.elim
/-- x.extend(e), x += e -/
def dExtO (j : Nat) (fe : TD) : TSD := fun De ρ W => dApp0 j ρ ∧ fe ρ W (fun d ρ' W' => match ρ'[j]?, d with
  | some (some (.om (.lst ds))), .lst es => ds.length + es.length ≤ sizeLine ∧ De.nx (ρ'.set j (some (.ol (ds ++ es)))) W'
  | _, _ => False) De.ex
theorem gs_extO (j : Nat) (he : GE X Wx e fe) (hN : X.N[j]? = some x := by rfl) (hv : Vis X.env.scope x := by first | exact Or.inl rfl | exact Or.inr (Or.inl rfl) | exact Or.inr (Or.inr rfl)) (hd : (x == ("__debug__" : Str)) = false := by decide) (hcd : (x == ("__classdict__" : Str)) = false := by decide)
    (hbase : attributeBase (.Name x px) "extend" X.env (eval (.Name x px) X.env) = eval (.Name x px) X.env := by rfl)
    (hfew : ((backTo cpos (starEach (e :: []) X.env)).all (fun x => !x.1) && (backToKw cpos (keywordEach [] X.env)).all (fun x => x.1.isSome) && decide ((e :: ([] : List Expr)).length + ([] : List Keyword).length + (if ([] : List Keyword).isEmpty then 0 else 1) < 30)) = true := by rfl)
    (hline : (apos.endLine == cpos.line) = true := by rfl) (hse : starEach (e :: []) X.env = (false, eval e X.env) :: starEach [] X.env := by rfl) (hplain : (backTo cpos (starEach [] X.env)).any (·.1) = false := by rfl)
    (hs : swapsWith (.Call (.Attribute (.Name x px) "extend" apos) [e] [] cpos) none pos.line X.env = pure false := by rfl) :
    GS X Wx (.Expr (.Call (.Attribute (.Name x px) "extend" apos) [e] [] cpos) pos) (dExtO j fe) := by
  obtain ⟨te, pe, se⟩ := he
  refine ⟨_, ps_expr (pe_bm PySem.F.plainAttrs_list PySem.F.slot_list_extend PySem.F.type_list_extend mt_extend (pe_var hN hv hd hcd) (pa_cons pe pa_nil hse) hbase hfew hline hse hplain) hs, fun F S H σ ρ W De Dh cf hf l => ?_⟩
  unfold dExtO dApp0 at hf
  obtain ⟨⟨ds0, h0⟩, hf⟩ := hf
  obtain ⟨p, xs, hp, hH, _⟩ := cf.ol j ds0 h0
  refine ⟨_, hp, .inl ⟨rfl, xs, SqL.of hH⟩, ?_⟩
  refine se F S H σ ρ W _ De.ex _ cf hf l.ex fun S' H' ρ' W' d v e' c r q => ?_
  split at q
  · rename_i ds es h1
    obtain ⟨p', xs1, e1, h2, h3, _⟩ := c.ol j ds h1
    rw [hp] at e1; cases e1
    obtain ⟨b, ys, rfl, h4, h5⟩ := Rep.lst_iff.mp r
    refine ⟨p, b, xs1, ys, rfl, rfl, h2, h4.1, by rw [h3.length, h5.length]; exact q.1, ?_⟩
    obtain ⟨st, c2⟩ := c.chOl h1 hp (h3.append h5)
    exact l.nx _ _ _ _ W' (e'.trans st) c2 q.2
  · exact q.elim
theorem set_same {σ : St} {j : Nat} {v : V} (h : σ[j]? = some (some v)) : σ.set j (some v) = σ := by
  refine List.ext_getElem? fun i => ?_
  by_cases e : j = i
  · subst e
    rw [List.getElem?_set_self (List.getElem?_eq_some_iff.mp h).1, h]
  · rw [List.getElem?_set_ne e]
theorem gs_augL (j : Nat) (hN : X.N.Nodup) (hi : X.N[j]? = some x) (hx : Loc X.env.scope x) (he : GE X Wx e fe) (hf : X.fn x = true ∨ X.env.scope.names.lookup x = some .local := by first | exact .inl rfl | exact .inr rfl | assumption) :
    GS X Wx (.AugAssign (.Name x pos') .Add e pos) (dExtO j fe) := by
  obtain ⟨te, pe, se⟩ := he
  refine ⟨_, ps_aug hN hi hx pe iop_ext hf, fun F S H σ ρ W De Dh cf hf l => ?_⟩
  unfold dExtO dApp0 at hf
  obtain ⟨⟨ds0, h0⟩, hf⟩ := hf
  obtain ⟨p, xs, hp, hH, _⟩ := cf.ol j ds0 h0
  refine ⟨_, hp, ?_⟩
  refine se F S H σ ρ W _ De.ex _ cf hf l.ex fun S' H' ρ' W' d v e' c r q => ?_
  split at q
  · rename_i ds es h1
    obtain ⟨p', xs1, e1, h2, h3, _⟩ := c.ol j ds h1
    rw [hp] at e1; cases e1
    obtain ⟨b, ys, rfl, h4, h5⟩ := Rep.lst_iff.mp r
    refine ⟨p, b, xs1, ys, rfl, rfl, h2, h4.1, by rw [h3.length, h5.length]; exact q.1, ?_⟩
    obtain ⟨st, c2⟩ := c.chOl h1 hp (h3.append h5)
    rw [set_same hp]
    exact l.nx _ _ _ _ W' (e'.trans st) c2 q.2
  · exact q.elim
end
end G
namespace G
open PySem PySem.Spec L2
/-- what is picked of the data ds, the values vs -/
def PickedV (mn : PyData → List PyData → PyData) (vs : List V) (ds : List PyData) (P : V → Prop) : Prop := ∀ y ys, ds = y :: ys → ∀ (i : Nat) (v : V) (c : PyData), vs[i]? = some v → ds[i]? = some c → c = mn y ys → P v
def rPick (K : PySem.W.Frag) (mn : PyData → List PyData → PyData) : List V → Hp → VK → Prop := fun xs H Q => ∃ (a : Addr) (vs : List V) (ds : List PyData), xs = [.ref a] ∧ SqL K H a vs ∧ DpAll K H vs ds ∧ PySem.W.AlikeAll ds ∧ PyData.canLayAll0 ds = true ∧ PyData.depthAll ds ≤ 62 ∧ ds ≠ [] ∧ PickedV mn vs ds fun v => Q v H
def rPickD (K : PySem.W.Frag) (mn : PyData → List PyData → PyData) : List V → List V → Hp → VK → Prop := fun xs zs H Q => ∃ (a : Addr) (vs : List V) (ds : List PyData) (z : V), xs = [.ref a] ∧ zs = [z] ∧ SqL K H a vs ∧ DpAll K H vs ds ∧ PySem.W.AlikeAll ds ∧ PyData.canLayAll0 ds = true ∧ PyData.depthAll ds ≤ 62 ∧ (ds = [] → Q z H) ∧ PickedV mn vs ds fun v => Q v H
theorem dpAll_get {K : PySem.W.Frag} {H : Hp} : ∀ {ds : List PyData} {vs : List V} {i : Nat} {v : V}, DpAll K H vs ds → vs[i]? = some v → ∃ c, ds[i]? = some c ∧ Dp K H v c
  | _, _, i, v, .nil, e => by simp at e
  | _, _, 0, v, .cons h t, e => ⟨_, rfl, by simp at e; subst e; exact h⟩
  | _, _, i + 1, v, .cons h t, e => by
    obtain ⟨c, h1, h2⟩ := dpAll_get (i := i) t (by simpa using e)
    exact ⟨c, by simpa using h1, h2⟩
theorem canLay_mem : ∀ {ds : List PyData} {c : PyData}, PyData.canLayAll0 ds = true → c ∈ ds → c.canLay0 = true
  | d :: ds, c, h, hc => by
    simp only [PyData.canLayAll0, Bool.and_eq_true] at h
    rcases List.mem_cons.mp hc with e | hc
    · rw [e]; exact h.1
    · exact canLay_mem h.2 hc
theorem vals_get {vs : List V} {us : List Value} (r : Vals vs us) {i : Nat} {u : Value} (e : us[i]? = some u) : ∃ v, vs[i]? = some v ∧ RelV v u := by
  have hi : i < vs.length := by rw [r.length]; exact (List.getElem?_eq_some_iff.mp e).1
  have h1 : vs[i]? = some vs[i] := List.getElem?_eq_getElem hi
  obtain ⟨u', h2, h3⟩ := r.get h1
  rw [e] at h2; cases h2
  exact ⟨_, h1, h3⟩
section
variable {X : Cx}
theorem cr_minPick (hc : X.calm = true) (hu : X.A.units + 66 < cLine) : CallR X (.builtin "min") (rPick X.K PySem.W.minD) := by
  intro pins s σ H xs us Q I r h
  obtain ⟨a, vs, ds, rfl, hs, hd, al, cl, dep, ne, q⟩ := h
  obtain ⟨its, rv, hl, hz⟩ := I.list hs
  rw [Vals.ref1 r]
  obtain ⟨as, hr⟩ := Dp.readsAll I ds vs its hd rv
  obtain ⟨y, ys, rfl⟩ := List.exists_cons_of_ne_nil ne
  refine PySem.W.min_list_data (I.ok.hd hc) hl.isList (by simpa using hr) al (by omega) fun i u h' tk bs hi rd kept => ?_
  obtain ⟨v, hv, ru⟩ := vals_get rv (i := i) (by simpa using hi)
  have J : Inv X pins σ H { s with heap := h', toks := tk } := I.kept (t' := tk) kept
  obtain ⟨c, h1, h2⟩ := dpAll_get hd hv
  obtain ⟨as', rc⟩ := Dp.reads J c v u h2 ru
  exact ⟨v, H, J, ru, q y ys rfl i v c hv h1 (PySem.SeqAt.Reads.unique _ _ _ _ _ (canLay_mem cl (List.mem_of_getElem? h1)) rc rd)⟩
theorem cr_minPickD (hc : X.calm = true) (hu : X.A.units + 66 < cLine) : CallRK X (.builtin "min") [Str.ofString "default"] (rPickD X.K PySem.W.minD) := by
  intro pins s σ H xs zs us ws Q I r rz h
  obtain ⟨a, vs, ds, z, rfl, rfl, hs, hd, al, cl, dep, q0, q⟩ := h
  obtain ⟨its, rv, hl, hz⟩ := I.list hs
  rw [Vals.ref1 r]
  obtain ⟨d, rfl, rd0⟩ := vals1 rz
  obtain ⟨as, hr⟩ := Dp.readsAll I ds vs its hd rv
  refine PySem.W.min_list_default (I.ok.hd hc) hl.isList (by simpa using hr) al (by omega) (fun e h' tk kept => ⟨z, H, I.kept (t' := tk) kept, rd0, q0 e⟩) fun y ys i u h' tk bs ey hi rd kept => ?_
  obtain ⟨v, hv, ru⟩ := vals_get rv (i := i) (by simpa using hi)
  have J : Inv X pins σ H { s with heap := h', toks := tk } := I.kept (t' := tk) kept
  obtain ⟨c, h1, h2⟩ := dpAll_get hd hv
  obtain ⟨as', rc⟩ := Dp.reads J c v u h2 ru
  exact ⟨v, H, J, ru, q y ys ey i v c hv h1 (PySem.SeqAt.Reads.unique _ _ _ _ _ (canLay_mem cl (List.mem_of_getElem? h1)) rc rd)⟩
theorem cr_maxPickD (hc : X.calm = true) (hu : X.A.units + 66 < cLine) : CallRK X (.builtin "max") [Str.ofString "default"] (rPickD X.K PySem.W.maxD) := by
  intro pins s σ H xs zs us ws Q I r rz h
  obtain ⟨a, vs, ds, z, rfl, rfl, hs, hd, al, cl, dep, q0, q⟩ := h
  obtain ⟨its, rv, hl, hz⟩ := I.list hs
  rw [Vals.ref1 r]
  obtain ⟨d, rfl, rd0⟩ := vals1 rz
  obtain ⟨as, hr⟩ := Dp.readsAll I ds vs its hd rv
  refine PySem.W.max_list_default (I.ok.hd hc) hl.isList (by simpa using hr) al (by omega) (fun e h' tk kept => ⟨z, H, I.kept (t' := tk) kept, rd0, q0 e⟩) fun y ys i u h' tk bs ey hi rd kept => ?_
  obtain ⟨v, hv, ru⟩ := vals_get rv (i := i) (by simpa using hi)
  have J : Inv X pins σ H { s with heap := h', toks := tk } := I.kept (t' := tk) kept
  obtain ⟨c, h1, h2⟩ := dpAll_get hd hv
  obtain ⟨as', rc⟩ := Dp.reads J c v u h2 ru
  exact ⟨v, H, J, ru, q y ys ey i v c hv h1 (PySem.SeqAt.Reads.unique _ _ _ _ _ (canLay_mem cl (List.mem_of_getElem? h1)) rc rd)⟩
end
/-- the item that min, max of ds tells -/
def Picked (mn : PyData → List PyData → PyData) (ds : List D) (P : D → Prop) : Prop := goods 60 ds = true ∧ PySem.W.AlikeAll (ds.map D.py) ∧ ∀ y ys, ds = y :: ys → ∀ d ∈ ds, d.py = mn y.py (ys.map D.py) → P d
def dPick (mn : PyData → List PyData → PyData) (fe : TD) : TD := fun ρ W Q Qx => fe ρ W (fun d ρ' W' => match d with
  | .lst ds => ds ≠ [] ∧ Picked mn ds fun z => Q z ρ' W'
  | _ => False) Qx
def dPickD (mn : PyData → List PyData → PyData) (fe fd : TD) : TD := fun ρ W Q Qx => fe ρ W (fun d ρ1 W1 => (∃ ds, d = .lst ds) ∧ fd ρ1 W1 (fun z ρ' W' => match d with
  | .lst ds => (ds = [] → Q z ρ' W') ∧ Picked mn ds fun z => Q z ρ' W'
  | _ => False) Qx) Qx
theorem picked_v {K : KF} {S : Reg} {H : Hp} {mn : PyData → List PyData → PyData} {ds : List D} {xs : List V} {P : D → Prop} {P' : V → Prop} (rd : Reps K S H ds xs) (h : Picked mn ds P) (k : ∀ d v, Rep K S H d v → P d → P' v) : DpAll K H xs (pys ds) ∧ PySem.W.AlikeAll (pys ds) ∧ PyData.canLayAll0 (pys ds) = true ∧ PyData.depthAll (pys ds) ≤ 62 ∧ PickedV mn xs (pys ds) P' := by
  obtain ⟨g, al, q⟩ := h
  have l := lays_of g
  refine ⟨dps_of g rd, by rw [pys_map]; exact al, l.1, by have := l.2; omega, fun y ys e i v c hv hc ec => ?_⟩
  obtain ⟨d, hd, rv⟩ := rd.get' hv
  rw [pys_map, List.getElem?_map, hd] at hc
  cases hc
  cases ds with
  | nil => simp at hd
  | cons a r =>
    rw [pys_map, List.map_cons] at e
    injection e with e1 e2
    exact k d v rv (q a r rfl d (List.mem_of_getElem? hd) (by rw [ec, ← e1, ← e2]))
section
variable {X : Cx} {Wx : WX} {e ed : Expr} {fe fd : TD} {p pos pk : Pos} {x : Str} {mn : PyData → List PyData → PyData} {id : String}
theorem ge_pick (cr : CallR X (.builtin id) (rPick X.K mn)) (hg : Gl X x) (hm : X.mg x = none) (hv : bootBuiltins x = some (.builtin id)) (ha : GE X Wx e fe) (hn : x ≠ "__name__" := by decide) (hdb : (x == ("__debug__" : Str)) = false := by decide)
    (he : starEach [e] X.env = (false, eval e X.env) :: starEach [] X.env := by rfl) (hpl : (backTo pos (starEach [] X.env)).any (·.1) = false := by rfl) : GE X Wx (.Call (.Name x p) [e] [] pos) (dPick mn fe) := by
  obtain ⟨te, pe, se⟩ := ha
  refine ⟨_, pe_callB cr hg hm hv (pa_cons pe pa_nil he) hn hdb he hpl, fun F S H σ ρ W Q Qx R cf hf hx hE => ?_⟩
  refine se F S H σ ρ W _ Qx _ cf hf hx fun S1 H1 ρ1 W1 d v e1 c1 r1 q1 => ?_
  split at q1
  · rename_i ds
    obtain ⟨ne, q1⟩ := q1
    obtain ⟨a, xs, rfl, h1, h2⟩ := Rep.lst_iff.mp r1
    obtain ⟨k1, k2, k3, k4, k5⟩ := picked_v h2 q1 fun d v rv q => hE S1 H1 ρ1 W1 d v e1 c1 rv q
    exact ⟨a, xs, pys ds, rfl, h1.sq, k1, k2, k3, k4, by rw [pys_map]; simpa using ne, k5⟩
  · exact q1.elim
theorem ge_pickD (cr : CallRK X (.builtin id) [Str.ofString "default"] (rPickD X.K mn)) (hg : Gl X x) (hm : X.mg x = none) (hv : bootBuiltins x = some (.builtin id)) (ha : GE X Wx e fe) (hd : GE X Wx ed fd)
    (hn : x ≠ "__name__" := by decide) (hdb : (x == ("__debug__" : Str)) = false := by decide)
    (he : backTo pos (starEach [e] X.env) = (false, eval e X.env) :: backTo pos (starEach [] X.env) := by rfl) (hpl : (backTo pos (starEach [e] X.env)).any (·.1) = false := by rfl)
    (hall : (backToKw pos (keywordEach [⟨some "default", ed, pk⟩] X.env)).all (·.1.isSome) = true := by rfl) (hnone : (backToKw pos (keywordEach [⟨some "default", ed, pk⟩] X.env)).any (·.1.isNone) = false := by rfl)
    (hks : (backToKw pos (keywordEach [⟨some "default", ed, pk⟩] X.env)).filterMap (·.1) = [Str.ofString "default"] := by rfl) (hse : starEach [e] X.env = (false, eval e X.env) :: starEach [] X.env := by rfl) :
    GE X Wx (.Call (.Name x p) [e] [⟨some "default", ed, pk⟩] pos) (dPickD mn fe fd) := by
  obtain ⟨te, pe, se⟩ := ha
  obtain ⟨td, pd, sd⟩ := hd
  refine ⟨_, pe_callBK cr hg hm hv (pa_cons pe pa_nil hse) (pk_cons pd pk_nil) hn hdb he hpl hall hnone hks, fun F S H σ ρ W Q Qx R cf hf hx hE => ?_⟩
  refine se F S H σ ρ W _ Qx _ cf hf hx fun S1 H1 ρ1 W1 d v e1 c1 r1 q1 => ?_
  obtain ⟨⟨ds, rfl⟩, q1⟩ := q1
  obtain ⟨a, xs, rfl, _, _⟩ := Rep.lst_iff.mp r1
  refine sd F S1 H1 σ ρ1 W1 _ Qx _ c1 q1 (hx.up e1) fun S2 H2 ρ2 W2 z u e2 c2 r2 q2 => ?_
  obtain ⟨q0, q2⟩ := q2
  obtain ⟨a', xs2, ea, h1, h2⟩ := Rep.lst_iff.mp (r1.up e2)
  cases ea
  obtain ⟨k1, k2, k3, k4, k5⟩ := picked_v h2 q2 fun d v rv q => hE S2 H2 ρ2 W2 d v (e1.trans e2) c2 rv q
  exact ⟨a, xs2, pys ds, u, rfl, rfl, h1.sq, k1, k2, k3, k4, fun e => hE S2 H2 ρ2 W2 z u (e1.trans e2) c2 r2 (q0 (by rw [pys_map] at e; simpa using e)), k5⟩
end
end G
namespace G
open PySem PySem.Spec L2
section
variable {X : Cx} {Wx : WX} {kx vx elt tg iter tg1 iter1 : Expr} {ifs ifs1 : List Expr} {scope : Scope} {pos py spos : Pos} {fi fi1 : TID} {gd gd1 : TGD} {ft ft1 : TB} {fk fv fe : TD} {ts ts1 : List Nat} {y : Str} {k : Nat}
theorem snd_asgNN {te : TE} {f : TNN} (se : SndNN X Wx te f) : SndS (kf X) Wx (tAsg te (gName k)) (dAsgNN k f) := fun F S H σ ρ W De Dh cf hf l => by
  refine se F S H σ ρ W _ De.ex _ cf hf l.ex fun S' H' ρ' W' kvs nks bs xs p e' c r hp q => ?_
  obtain ⟨st, c2⟩ := c.newOm (u := ndO X.w p (nz nks bs xs)) (o := .dN kvs) k hp fun S2 H2 e2 hh => (r.up e2).mrep hh
  exact l.nx _ _ _ _ W' (e'.trans st) c2 q
theorem gs_setNDcO (own : List (Str × Nat)) (hu : X.A.units + 66 < cLine) (hc : X.calm = true) (hN : X.N.Nodup) (hy : X.N[k]? = some y) (hyl : X.env.scope.names.lookup y = some .local)
    (hsw : swapsWith (.DictComp kx vx [⟨tg, iter, ifs, 0⟩] scope pos) (some (.Name y py)) spos.line X.env = pure true) (hi : GI X Wx tg iter fi) (ok : BlkOk X.N X.env.scope scope own) (hts : ∀ j ∈ ts, j ∈ own.map (·.2))
    (hg : ∀ (s : Shared) (H : Hp) (C : Addr) (cl : List (Str × Addr)) (fp : List Addr), GG (X.blk s H scope (PySem.compEnvC scope cl C X.env) fp) tg gd ts) (ht : ∀ (s : Shared) (H : Hp) (C : Addr) (cl : List (Str × Addr)) (fp : List Addr), GTs (X.blk s H scope (PySem.compEnvC scope cl C X.env) fp) WX0 ifs ft)
    (hk : ∀ (s : Shared) (H : Hp) (C : Addr) (cl : List (Str × Addr)) (fp : List Addr), GE (X.blk s H scope (PySem.compEnvC scope cl C X.env) fp) WX0 kx fk) (hv : ∀ (s : Shared) (H : Hp) (C : Addr) (cl : List (Str × Addr)) (fp : List Addr), GE (X.blk s H scope (PySem.compEnvC scope cl C X.env) fp) WX0 vx fv)
    (hs : ∀ x, foldedSetIterable iter X.env x = pure x := by intro _; rfl) : GS X Wx (.Assign [.Name y py] (.DictComp kx vx [⟨tg, iter, ifs, 0⟩] scope pos) spos) (dAsgNN k (dNDc fi gd ft fk fv (own.map (·.2)))) := by
  obtain ⟨wi, pi, si⟩ := hi
  exact ⟨_, ps_setNDc hu hc hN hy hyl hsw pi ok (fun s H C cl fp => (hg s H C cl fp).can) (fun s H C cl fp => (ht s H C cl fp).can) (fun s H C cl fp => (hk s H C cl fp).can) (fun s H C cl fp => (hv s H C cl fp).can) hs, snd_asgNN (snd_ndc hts si)⟩
theorem gs_setLc2 (own : List (Str × Nat)) (vs1 : List Nat) (hc : X.calm = true) (hN : X.N.Nodup) (hy : X.N[k]? = some y) (hyl : X.env.scope.names.lookup y = some .local)
    (hsw : swapsWith (.ListComp elt [⟨tg, iter, ifs, 0⟩, ⟨tg1, iter1, ifs1, 0⟩] scope pos) (some (.Name y py)) spos.line X.env = pure true) (hi : GI X Wx tg iter fi) (ok : BlkOk X.N X.env.scope scope own) (hv : ∀ i ∈ vs1, i ∈ own.map (·.2)) (hts : ∀ j ∈ ts, j ∈ own.map (·.2)) (hts1 : ∀ j ∈ ts1, j ∈ vs1)
    (hg : ∀ (s : Shared) (H : Hp) (C : Addr) (cl : List (Str × Addr)) (fp : List Addr), GG (X.blk s H scope (PySem.compEnvC scope cl C X.env) fp) tg gd ts) (ht : ∀ (s : Shared) (H : Hp) (C : Addr) (cl : List (Str × Addr)) (fp : List Addr), GTs (X.blk s H scope (PySem.compEnvC scope cl C X.env) fp) WX0 ifs ft)
    (hi1 : ∀ (s : Shared) (H : Hp) (C : Addr) (cl : List (Str × Addr)) (fp : List Addr), GI (X.blk s H scope (PySem.compEnvC scope cl C X.env) fp) WX0 tg1 iter1 fi1)
    (hg1 : ∀ (s : Shared) (H : Hp) (C : Addr) (cl : List (Str × Addr)) (fp : List Addr), GG (X.blk s H scope (PySem.compEnvC scope cl C X.env) fp) tg1 gd1 ts1) (ht1 : ∀ (s : Shared) (H : Hp) (C : Addr) (cl : List (Str × Addr)) (fp : List Addr), GTs (X.blk s H scope (PySem.compEnvC scope cl C X.env) fp) WX0 ifs1 ft1)
    (he : ∀ (s : Shared) (H : Hp) (C : Addr) (cl : List (Str × Addr)) (fp : List Addr), GE (X.blk s H scope (PySem.compEnvC scope cl C X.env) fp) WX0 elt fe)
    (hs : ∀ x, foldedSetIterable iter X.env x = pure x := by intro _; rfl) (hs1 : ∀ env x, foldedSetIterable iter1 env x = pure x := by intro _ _; rfl) :
    GS X Wx (.Assign [.Name y py] (.ListComp elt [⟨tg, iter, ifs, 0⟩, ⟨tg1, iter1, ifs1, 0⟩] scope pos) spos) (dAsg (dFresh (dLc2 fi gd ft fi1 gd1 ft1 fe (own.map (·.2)) vs1)) (gdName k)) := by
  obtain ⟨wi, pi, si⟩ := hi
  exact ⟨_, ps_setLc2 hc hN hy hyl hsw pi ok hv (fun s H C cl fp => (hg s H C cl fp).can) (fun s H C cl fp => (ht s H C cl fp).can) (fun s H C cl fp => (hi1 s H C cl fp).can) (fun s H C cl fp => (hg1 s H C cl fp).can) (fun s H C cl fp => (ht1 s H C cl fp).can) (fun s H C cl fp => (he s H C cl fp).can) hs hs1,
    snd_asg (snd_fresh (snd_lc2 hts hts1 hv si)) snd_gName⟩
end
def rLenN (X : Cx) : List V → Hp → VK → Prop := fun xs H Q => ∃ a rows, xs = [.ref a] ∧ NdAt X.w H a rows ∧ RowsOk X H rows ∧ Q (.int (rows.length : Nat)) H
theorem cr_lenN {X : Cx} : CallR X (.builtin "len") (rLenN X) := by
  intro pins s σ H xs us Q I r h
  obtain ⟨a, rows, rfl, e, ok, q⟩ := h
  rw [Vals.ref1 r]
  obtain ⟨z, hm, ys, hp, dd⟩ := nd_of I e ok
  have l : rows.length = ys.length := Paired.length hp
  have z2 : rows.length ≤ 16777216 := z
  refine call_len_dictH hm dd (by omega) ?_
  exact ⟨.int (rows.length : Nat), H, I.tok _, by rw [l]; exact ⟨_, rfl⟩, q⟩
def dLenN (fe : TD) : TD := fun ρ W Q Qx => fe ρ W (fun d ρ' W' => match d with | .dtt ks _ => Q (.int (ks.length : Nat)) ρ' W' | _ => False) Qx
section
variable {X : Cx} {Wx : WX} {e : Expr} {fe : TD} {pos p : Pos} {x : Str}
theorem ge_lenN (hg : Gl X x) (hm : X.mg x = none) (hv : bootBuiltins x = some (.builtin "len")) (ha : GE X Wx e fe) (hn : x ≠ "__name__" := by decide) (hdb : (x == ("__debug__" : Str)) = false := by decide)
    (he : starEach [e] X.env = (false, eval e X.env) :: starEach [] X.env := by rfl) (hpl : (backTo pos (starEach [] X.env)).any (·.1) = false := by rfl) : GE X Wx (.Call (.Name x p) [e] [] pos) (dLenN fe) := by
  obtain ⟨te, pe, se⟩ := ha
  refine ⟨_, pe_callB cr_lenN hg hm hv (pa_cons pe pa_nil he) hn hdb he hpl, fun F S H σ ρ W Q Qx R cf hf hx hE => ?_⟩
  refine se F S H σ ρ W _ Qx _ cf hf hx fun S' H' ρ' W' d v e' c r q => ?_
  split at q
  · rename_i ks ds
    obtain ⟨a, nks, bs, xs, rfl, ha, _, nr⟩ := r.dtt_nr
    refine ⟨a, _, rfl, ha, nr.rows, hE S' H' ρ' W' _ _ e' c (Rep.v_iff.mpr ?_) q⟩
    rw [nz_len nr.lb nr.lx, nr.lk]
  · exact q.elim
end
structure TupNo (K : PySem.W.Frag) (mg : Str → Option Value) (x : Str) (ss : List Str) : Prop where
  at' : ∃ (c : Addr) (its : Array Value) (n : Nat) (sl : Array (Option Value)), mg x = some (.ref c) ∧ K.lookup c = some ⟨.type "tuple", none, .seq its n, sl⟩ ∧ Vals (ss.map V.str) its.toList ∧ ss.length ≤ sizeLine
theorem tupNo_mk {K : PySem.W.Frag} {mg : Str → Option Value} {x : Str} {ss : List Str} {c : Addr} {its : Array Value} {n : Nat} {sl : Array (Option Value)} (h : mg x = some (.ref c)) (l : K.lookup c = some ⟨.type "tuple", none, .seq its n, sl⟩) (r : Vals (ss.map V.str) its.toList) (z : ss.length ≤ sizeLine) : TupNo K mg x ss := ⟨c, its, n, sl, h, l, r, z⟩
def dIndexK (ss : List Str) (fe : TD) : TD := fun ρ W Q Qx => fe ρ W (fun d ρ' W' => ∃ (z : Str) (j : Nat), d = .str z ∧ ss[j]? = some z ∧ (∀ m, m < j → ss[m]? ≠ some z) ∧ Q (.int (j : Nat)) ρ' W') Qx
section
variable {X : Cx} {Wx : WX} {e : Expr} {fe : TD} {px apos cpos : Pos} {x : Str} {ss : List Str}
theorem ge_indexK (h : TupNo X.K X.mg x ss) (he : GE X Wx e fe) (hg : Gl X x := by rfl) (hd : (x == ("__debug__" : Str)) = false := by decide) (hbase : attributeBase (.Name x px) "index" X.env (eval (.Name x px) X.env) = eval (.Name x px) X.env := by rfl)
    (hfew : ((backTo cpos (starEach (e :: []) X.env)).all (fun x => !x.1) && (backToKw cpos (keywordEach [] X.env)).all (fun x => x.1.isSome) && decide ((e :: ([] : List Expr)).length + ([] : List Keyword).length + (if ([] : List Keyword).isEmpty then 0 else 1) < 30)) = true := by rfl)
    (hline : (apos.endLine == cpos.line) = true := by rfl) (hs : starEach (e :: []) X.env = (false, eval e X.env) :: starEach [] X.env := by rfl) (hplain : (backTo cpos (starEach [] X.env)).any (·.1) = false := by rfl) : GE X Wx (.Call (.Attribute (.Name x px) "index" apos) [e] [] cpos) (dIndexK ss fe) := by
  obtain ⟨te, pe, se⟩ := he
  obtain ⟨c, its, n, sl, h1, h2, h3, h4⟩ := h.at'
  have e0 : ss.length = its.size := (List.length_map _).symm.trans h3.length
  have hsz : its.size ≤ sizeLine := e0 ▸ h4
  have sq : ∀ H, SqT X.K H c (ss.map V.str) := fun H => .inr ⟨_, its, n, h2, rfl, rfl, hsz, h3⟩
  refine ⟨fun σ H Q => te σ H fun y H1 => ∃ z j, [y] = [.str z] ∧ ss[j]? = some z ∧ (∀ m, m < j → ss[m]? ≠ some z) ∧ Q (.int (j : Nat)) H1, ⟨fun pins s σ H Q I q => ?_⟩, fun F S H σ ρ W Q Qx R cf hf hx hE => ?_⟩
  · refine wpAny_Call_method_late hbase hfew hline rfl (thn ((pe_glob (v := .ref c) hg h1 rfl hd).run pins s σ H (fun v H1 => v = .ref c ∧ H1 = H) I ⟨rfl, rfl⟩) fun v s1 z => ?_)
    obtain ⟨y, H1, I1, r1, ey, eH⟩ := z
    subst ey eH
    cases r1
    have there := I1.kIn c _ h2
    refine ⟨"tuple", "tuple.index", PySem.F.plainAttrs_tuple, PySem.F.slot_tuple_index, PySem.F.type_tuple_index, ⟨_, there, rfl⟩, fun b hb => ?_, ?_⟩
    · cases hb; exact ⟨_, there, rfl⟩
    have hA := (pa_cons pe pa_nil hs).run cpos pins s1 σ H1 (fun vs H2 => ∃ z j, vs = [.str z] ∧ ss[j]? = some z ∧ (∀ m, m < j → ss[m]? ≠ some z) ∧ Q (.int (j : Nat)) H2) I1 q
    rw [hs] at hA ⊢
    refine Calls.callWith_builtin (by show (false || (backTo cpos (starEach [] X.env)).any (·.1)) = false; rw [hplain]; rfl) (Calls.evalArgs_plain (thn hA fun us s2 z2 => ?_))
    obtain ⟨vs, H2, I2, r2, z, j, ev, hj, hno, q2⟩ := z2
    exact mt_tup_index pins s2 σ H2 (.ref c) vs _ us Q I2 rfl r2 ⟨c, ss, z, j, rfl, ev, sq H2, hj, hno, q2⟩
  · refine se F S H σ ρ W _ Qx _ cf hf hx fun S1 H1 ρ1 W1 d v e1 c1 r1 q1 => ?_
    obtain ⟨z, j, rfl, hj, hno, q1⟩ := q1
    cases Rep.v_iff.mp r1
    exact ⟨z, j, rfl, hj, hno, hE S1 H1 ρ1 W1 _ _ e1 c1 (Rep.v_iff.mpr rfl) q1⟩
end
end G
namespace G
open PySem PySem.Spec L2
open PyProof.Rows hiding St
def rSortU (K : KF) : List V → Hp → VK → Prop := fun xs H Q => ∃ (a : Addr) (bs : List (V × PyData)), xs = [.ref a] ∧ SqT K H a (bs.map Prod.fst) ∧ (∀ b ∈ bs, Dp K H b.1 b.2) ∧ PySem.W.AllAlike (bs.map Prod.snd) ∧ PySem.W.Sortable (bs.map Prod.snd) ∧ (∀ b ∈ bs, b.2.depth ≤ 62) ∧
  ∀ p, H p = none → Q (.ref p) (upd H p (.lst ((bs.mergeSort (PySem.W.dataLe false Prod.snd)).map Prod.fst)))
section
variable {X : Cx}
theorem cr_sortU (hu : X.A.units + 66 < cLine) : CallR X (.builtin "sorted") (rSortU (kf X)) := by
  intro pins s σ H vs us Q I r h
  obtain ⟨a, bs, rfl, hf, hd, hal, hso, hdep, q⟩ := h
  rw [Vals.ref1 r]
  obtain ⟨its, rv, ⟨ob, ho, hcl, n, hdt⟩, hz⟩ := I.tuple hf
  rw [List.length_map] at hz
  have li : its.length = bs.length := by have := rv.length; rw [List.length_map] at this; exact this.symm
  refine Calls.call_function_entry kind_sorted plain_sorted entry_sorted (args_sorted1 _) ?_
  unfold Builtin.«sorted»
  refine wpAny_bind (m := checkCount "sorted" 1 1 _) (wpAny_pure ?_)
  refine wpAny_bind (wpAny_collect_seq a (.inr rfl) ho hcl hdt (fun h1 hk => ?_) (by show its.toArray.size ≤ sizeLine; rw [List.size_toArray, li]; exact hz))
  have ea : its.toArray.toList = its := rfl
  rw [ea]
  have J : Inv X pins σ H { s with heap := h1 } := I.kept (t' := s.toks) hk
  refine wpAny_bind (wpAny_newList ?_ (by rw [li]; omega))
  have hoL : (h1.push (seqObj "list" its.toArray 0)).get? h1.objs.size = some (seqObj "list" its.toArray 0) := Heap.get?_push_size _ rfl
  have olds : ∀ {b o}, h1.get? b = some o → (PySem.W.sortingHeap (h1.push (seqObj "list" its.toArray 0)) h1.objs.size its).get? b = some o := fun {b o} e =>
    PySem.W.sortingHeap_old (Nat.ne_of_lt (Heap.lt_size e)) (Heap.get?_push_of_some _ e)
  have J2 : Inv X pins σ H { s with heap := PySem.W.sortingHeap (h1.push (seqObj "list" its.toArray 0)) h1.objs.size its, toks := s.toks } := J.kept (t' := s.toks) fun b o e => olds e
  have hkd : PySem.W.EachIs (fun v d => ∃ as, PySem.Reads (PySem.W.sortingHeap (h1.push (seqObj "list" its.toArray 0)) h1.objs.size its) v d as) its (bs.map Prod.snd) := by
    refine PySem.W.EachIs.of_zip (by rw [List.length_map, li]) fun p hp => ?_
    obtain ⟨i, hi, rfl⟩ := List.getElem_of_mem hp
    rw [List.length_zip, List.length_map] at hi
    obtain ⟨b, hb⟩ : ∃ b, bs[i]? = some b := ⟨_, List.getElem?_eq_getElem (by omega)⟩
    obtain ⟨u, hu', ru⟩ := rv.get (i := i) (x := b.1) (by rw [List.getElem?_map, hb]; rfl)
    have e1 : (its.zip (bs.map Prod.snd))[i]? = some (u, b.2) := by
      rw [List.getElem?_zip_eq_some]
      exact ⟨hu', by rw [List.getElem?_map, hb]; rfl⟩
    obtain ⟨_, e2⟩ := List.getElem?_eq_some_iff.mp e1
    rw [e2]
    exact Dp.reads J2 b.2 b.1 u (hd b (List.mem_of_getElem? hb)) ru
  have S := PySem.W.SortsAt.data (prog := X.prog) (w := X.w) (A := X.A.in1.in1) (s := { s with heap := PySem.W.sortingHeap (h1.push (seqObj "list" its.toArray 0)) h1.objs.size its, toks := s.toks }) hkd hal hso fun d hd' => by
    rw [List.mem_map] at hd'
    obtain ⟨b, m, rfl⟩ := hd'
    have := hdep b m
    show X.A.units + 1 + 1 + _ < _
    omega
  refine wpAny_bind (wpAny_holding (wpAny_call_entry slot_list_sort ⟨_, hoL, rfl⟩ entry_list_sort (PySem.W.list_sort_vals hoL S (by rw [li]; omega) ⟨_, rfl, ?_⟩) (args_list_sort _)))
  obtain ⟨ep2, he⟩ := sortedHeap_at (vs := its) (out := (PySem.W.sortVals (PySem.W.dataKind (PySem.W.sortingHeap (h1.push (seqObj "list" its.toArray 0)) h1.objs.size its) (bs.map Prod.snd)) false its its).toArray) hoL
  have ev := PySem.W.keyedOut_each (rev := false) (R := fun v (b : V × PyData) => RelV b.1 v) (bs := bs) Prod.snd ⟨_, its, hal, rfl, hkd⟩ (vals_each rv)
  have vo := each_vals ev
  have ol : ((bs.mergeSort (PySem.W.dataLe false Prod.snd)).map Prod.fst).length ≤ sizeLine := by
    rw [List.length_map, List.length_mergeSort]; exact hz
  have old2 : ∀ b o, h1.get? b = some o → (sortedHeap (h1.push (seqObj "list" its.toArray 0)) h1.objs.size its (PySem.W.sortVals (PySem.W.dataKind (PySem.W.sortingHeap (h1.push (seqObj "list" its.toArray 0)) h1.objs.size its) (bs.map Prod.snd)) false its its).toArray).get? b = some o := fun b o e => by
    have lt := Heap.lt_size e
    rw [sortedHeap_old (Nat.ne_of_lt lt) (by rw [size_push']; exact Nat.lt_succ_of_lt lt)]
    exact Heap.get?_push_of_some _ e
  exact wpAny_pure ⟨_, rfl, .ref h1.objs.size, _, J.laid (t' := s.toks) (a := h1.objs.size) (o := .lst ((bs.mergeSort (PySem.W.dataLe false Prod.snd)).map Prod.fst)) old2 (Nat.le_refl _) ⟨ol, _, ep2, vo, he⟩, rfl, q _ (J.hok.fresh (Nat.le_refl _))⟩
end
def dSortU (fe : TD) : TL := fun ρ W Q Qx => fe ρ W (fun d ρ' W' => match d with
  | .tup ds => (∀ x ∈ ds, D.good 60 x = true) ∧ PySem.W.AllAlike (ds.map D.py) ∧ PySem.W.Sortable (ds.map D.py) ∧ Q (srt ds) ρ' W'
  | _ => False) Qx
section
variable {X : Cx} {Wx : WX} {e : Expr} {fe : TD} {pos : Pos}
theorem gn_sortU (hu : X.A.units + 66 < cLine) {x : Str} {p : Pos} (hg : Gl X x) (hm : X.mg x = none) (hv : bootBuiltins x = some (.builtin "sorted")) (ha : GE X Wx e fe) (hn : x ≠ "__name__" := by decide) (hdb : (x == ("__debug__" : Str)) = false := by decide)
    (he : starEach [e] X.env = (false, eval e X.env) :: starEach [] X.env := by rfl) (hpl : (backTo pos (starEach [] X.env)).any (·.1) = false := by rfl) : GN X Wx (.Call (.Name x p) [e] [] pos) (dSortU fe) := by
  obtain ⟨te, pe, se⟩ := ha
  refine ⟨_, pe_callB (cr_sortU hu) hg hm hv (pa_cons pe pa_nil he) hn hdb he hpl, fun F S H σ ρ W Q Qx R cf hf hx hE => ?_⟩
  refine se F S H σ ρ W _ Qx _ cf hf hx fun S' H' ρ' W' d v e' c r q => ?_
  split at q
  · rename_i ds
    obtain ⟨a, xs, rfl, ha, hr⟩ := Rep.tup_iff.mp r
    obtain ⟨hg1, hal, hso, q⟩ := q
    have hxl := hr.length
    have e1 : (xs.zip (ds.map D.py)).map Prod.fst = xs := zip_fst (by rw [hxl, List.length_map])
    have e2 : (xs.zip (ds.map D.py)).map Prod.snd = ds.map D.py := zip_snd (by rw [hxl, List.length_map])
    have ez : xs.zip (ds.map D.py) = (xs.zip ds).map fun b => (b.1, b.2.py) := by
      rw [List.zip_map_right]; rfl
    refine ⟨a, xs.zip (ds.map D.py), rfl, by rw [e1]; exact ha.sq, ?_, by rw [e2]; exact hal, by rw [e2]; exact hso, ?_, fun l hl => ?_⟩
    · intro b hb
      rw [ez, List.mem_map] at hb
      obtain ⟨c', hc', rfl⟩ := hb
      exact dp_of (n := 60) (hg1 _ (List.of_mem_zip hc').2) (reps_zip_all hr c' hc')
    · intro b hb
      rw [ez, List.mem_map] at hb
      obtain ⟨c', hc', rfl⟩ := hb
      have := (lay_of (hg1 _ (List.of_mem_zip hc').2)).2
      dsimp only
      omega
    · have m1 : (xs.zip (ds.map D.py)).mergeSort (PySem.W.dataLe false Prod.snd) = ((xs.zip ds).mergeSort (PySem.W.dataLe false fun b => b.2.py)).map fun b => (b.1, b.2.py) := by
        rw [ez]
        exact (PySem.W.sort_maps (r := PySem.W.dataLe false fun b : V × D => b.2.py) (s := PySem.W.dataLe false Prod.snd) (fun b : V × D => (b.1, b.2.py)) (l := xs.zip ds) fun a _ b _ => rfl).symm
      have all : ∀ b ∈ (xs.zip ds).mergeSort (PySem.W.dataLe false fun b => b.2.py), Rep (kf X) S' H' b.2 b.1 := fun b hb => reps_zip_all hr b ((List.mergeSort_perm _ _).mem_iff.mp hb)
      have es : ((xs.zip ds).mergeSort (PySem.W.dataLe false fun b => b.2.py)).map Prod.snd = srt ds := by
        have := PySem.W.sort_maps (r := PySem.W.dataLe false fun b : V × D => b.2.py) (s := PySem.W.dataLe false D.py) Prod.snd (l := xs.zip ds) fun a _ b _ => rfl
        rw [this, zip_snd hxl]
      have := hE S' H' ρ' W' _ _ l e' c (reps_of_pairs all) hl (by rw [es]; exact q)
      rw [m1, List.map_map]
      exact this
  · exact q.elim
end
end G
namespace C
open PySem PySem.Spec L2 G TL
theorem so_sp : Str.ofString " " = mkS [32] := by decide +kernel
theorem so_ti : Str.ofString "~" = mkS [126] := by decide +kernel
theorem log2_small {n k : Nat} (h : n < 2 ^ k) (hk : 0 < k) : n.log2 < k := by
  by_cases h0 : n = 0
  · rw [h0]; exact hk
  · exact (Nat.log2_lt h0).mpr h
theorem mulX_of {i j : Int} (a b : Nat) (hi : i.natAbs < 2 ^ a) (hj : j.natAbs < 2 ^ b) (ha : 0 < a) (hb : 0 < b) (h : a + b ≤ 60000000) : CMulX i j := by
  unfold CMulX
  have := log2_small hi ha
  have := log2_small hj hb
  omega
theorem ixN0 {n : Nat} (h : 0 < n) : ixN n 0 = some 0 := by
  unfold ixN
  rw [if_pos (by decide), if_pos (by omega)]; rfl
theorem joinL_nil : ∀ ys : List (List Nat), TL.joinL [] ys = ys.flatten
  | [] => rfl
  | [x] => by simp [TL.joinL]
  | x :: y :: r => by
    have := joinL_nil (y :: r)
    rw [List.flatten_cons, ← this]
    simp [TL.joinL]
theorem join_mkS (ys : List (List Nat)) : Txt.join (mkS []) (ys.map mkS) = mkS ys.flatten := by
  rw [← joinL_nil]; exact SX.join_S [] ys
theorem so_nil : Str.ofString "" = mkS [] := by decide +kernel
def Pr (l : List Nat) : Prop := ∀ c ∈ l, 32 ≤ c ∧ c ≤ 126
/-- an item of a list -/
theorem at_lst {α : Type} (l : List α) (r : Int) (h0 : 0 ≤ r) (h1 : r < l.length) : ∃ c, c ∈ l ∧ atI l r = some c := by
  obtain ⟨n, rfl⟩ : ∃ n : Nat, r = n := ⟨r.toNat, by omega⟩
  have hn : n < l.length := by omega
  exact ⟨l[n], List.getElem_mem hn, atI_of (List.getElem?_eq_getElem hn)⟩
/-- the bound of a script's numbers -/
@[irreducible] def bigB : Nat := 2 ^ 1048576
theorem bits_big {z : Int} (h : Builtin.Int.intBits z ≤ 1048576) : z.natAbs < bigB := by
  unfold bigB
  by_cases h0 : z = 0
  · subst h0; exact Nat.two_pow_pos _
  · unfold Builtin.Int.intBits at h
    rw [if_neg (by simpa using h0)] at h
    exact (Nat.log2_lt (by omega)).mp (by omega)
theorem mod61 (X : Int) : (X % 2305843009213693951).natAbs < 2 ^ 61 := by omega
theorem dLc_mapF {α : Type} {fi : TID} {fe : TD} {i : Nat} {ρ : G.Env} {W : Wd} {Q : KL} {Qx : KX} (xs : List α) (f g : α → D) (hno : noOwn ρ [i]) (hl : xs.length ≤ sizeLine) (hi : ∀ P : KL, P (xs.map f) ρ W → fi ρ W P Qx)
    (he : ∀ x ∈ xs, ∀ P : KD, P (g x) ((ρ.set i none).set i (some (.sh (f x)))) W → fe ((ρ.set i none).set i (some (.sh (f x)))) W P noX) (hq : Q (xs.map g) ρ W) : dLc fi (gdName i) dYes fe [i] ρ W Q Qx := by
  refine dLc_inv (xs.map f) W (fun j acc W' => W' = W ∧ acc = (xs.take j).map g) hno (by rw [List.length_map]; exact hl) hi ⟨rfl, by simp⟩ (fun j d acc W' hj _ hI => ?_) (fun acc W' _ hI => ?_)
  · obtain ⟨rfl, rfl⟩ := hI
    rw [List.getElem?_map] at hj
    cases hx : xs[j]? with
    | none => rw [hx] at hj; cases hj
    | some x =>
      rw [hx] at hj; cases hj
      refine ⟨rfl, ?_⟩
      show fe _ W' _ noX
      refine he x (List.mem_of_getElem? hx) _ ⟨rfl, rfl, ?_⟩
      rw [List.take_add_one, hx]
      simp
  · obtain ⟨rfl, rfl⟩ := hI
    rw [List.length_map, List.take_length]
    exact hq
theorem sum_le {l : List Nat} {B : Nat} (h : ∀ x ∈ l, x ≤ B) : l.sum ≤ l.length * B := by
  induction l with
  | nil => simp
  | cons a r ih =>
    have h1 := h a (List.mem_cons_self ..)
    have h2 := ih fun x hx => h x (List.mem_cons_of_mem _ hx)
    rw [List.sum_cons, List.length_cons, Nat.add_mul]
    omega
theorem flat_len {ys : List (List Nat)} {n B : Nat} (hn : ys.length ≤ n) (hB : ∀ y ∈ ys, y.length ≤ B) : ys.flatten.length ≤ n * B := by
  rw [List.length_flatten]
  have := sum_le (l := ys.map List.length) (B := B) (fun x hx => by
    rw [List.mem_map] at hx
    obtain ⟨y, hy, rfl⟩ := hx
    exact hB y hy)
  rw [List.length_map] at this
  exact Nat.le_trans this (Nat.mul_le_mul_right _ hn)
theorem join_parts {ys : List (List Nat)} {n B : Nat} (hn : ys.length ≤ n) (hB : ∀ y ∈ ys, y.length ≤ B) (hs : n * B ≤ 16777216) : strsOf (ys.map fun x => .str (mkS x)) = some (ys.map mkS) ∧ ((ys.map mkS).map (·.length)).sum + (ys.map mkS).length * (mkS []).length ≤ 16777216 := by
  refine ⟨?_, ?_⟩
  · have := strsOf_map (ys.map mkS)
    rw [List.map_map] at this
    exact this
  · have e : (ys.map mkS).map (·.length) = ys.map List.length := by
      rw [List.map_map]
      exact List.map_congr_left fun y _ => len_mkS y
    have := flat_len hn hB
    rw [List.length_flatten] at this
    rw [e, len_mkS, List.length_nil, Nat.mul_zero]
    omega
theorem dLc_filtF {α : Type} {fi : TID} {ft : TB} {fe : TD} {i : Nat} {ρ : G.Env} {W : Wd} {Q : KL} {Qx : KX} (xs : List α) (f g : α → D) (p : α → Bool) (hno : noOwn ρ [i]) (hl : xs.length ≤ sizeLine) (hi : ∀ P : KL, P (xs.map f) ρ W → fi ρ W P Qx)
    (ht : ∀ x ∈ xs, ∀ P : KB, P (p x) ((ρ.set i none).set i (some (.sh (f x)))) W → ft ((ρ.set i none).set i (some (.sh (f x)))) W P noX)
    (he : ∀ x ∈ xs, p x = true → ∀ P : KD, P (g x) ((ρ.set i none).set i (some (.sh (f x)))) W → fe ((ρ.set i none).set i (some (.sh (f x)))) W P noX) (hq : Q ((xs.filter p).map g) ρ W) : dLc fi (gdName i) ft fe [i] ρ W Q Qx := by
  refine dLc_inv (xs.map f) W (fun j acc W' => W' = W ∧ acc = ((xs.take j).filter p).map g) hno (by rw [List.length_map]; exact hl) hi ⟨rfl, by simp⟩ (fun j d acc W' hj _ hI => ?_) (fun acc W' _ hI => ?_)
  · obtain ⟨rfl, rfl⟩ := hI
    rw [List.getElem?_map] at hj
    cases hx : xs[j]? with
    | none => rw [hx] at hj; cases hj
    | some x =>
      rw [hx] at hj; cases hj
      refine ht x (List.mem_of_getElem? hx) _ ⟨rfl, ?_⟩
      cases hp : p x with
      | true =>
        rw [if_pos rfl]
        refine he x (List.mem_of_getElem? hx) hp _ ⟨rfl, rfl, ?_⟩
        rw [List.take_add_one, hx]
        simp [hp]
      | false =>
        rw [if_neg Bool.false_ne_true]
        refine ⟨rfl, ?_⟩
        rw [List.take_add_one, hx]
        simp [hp]
  · obtain ⟨rfl, rfl⟩ := hI
    rw [List.length_map, List.take_length]
    exact hq
theorem dNe_int {a b : Int} {Q : D → Prop} (h : Q (.bl (!decide (a = b)))) : dNe (.int a) (.int b) Q := by
  have : decide (V.int a = V.int b) = decide (a = b) := by
    rw [Bool.eq_iff_iff, decide_eq_true_eq, decide_eq_true_eq]
    exact ⟨fun h => by injection h, fun h => by rw [h]⟩
  unfold dNe
  show (if scal _ _ = true then _ else _)
  rw [if_pos (rfl : scal _ _ = true), this]
  exact h
/-- the items known by B alone: a comprehension over each such list -/
theorem dLc_of {fi : TID} {gd : TGD} {ft : TB} {fe : TD} {vs : List Nat} {ρ : G.Env} {W : Wd} {Q : KL} {Qx : KX} (B : List D → Prop) (hno : noOwn ρ vs) (hi : ∀ P : KL, (∀ ds, B ds → P ds ρ W) → fi ρ W P Qx)
    (h : ∀ ds, B ds → dLc (fun ρ W P _ => P ds ρ W) gd ft fe vs ρ W Q Qx) : dLc fi gd ft fe vs ρ W Q Qx := by
  unfold dLc
  refine ⟨hno, hi _ fun ds b => ?_⟩
  have := h ds b
  unfold dLc at this
  exact this.2
end C
namespace LV
open PySem PySem.Spec L2 G TL C
theorem hno {P Q' : Prop} (q : Q') : (if (!true) = true then P else Q') := by rw [if_neg (by decide)]; exact q
theorem hyes {P Q' : Prop} (q : P) : (if (!false) = true then P else Q') := by rw [if_pos (by decide)]; exact q
theorem gd2 {i j : Nat} {a b : D} {ρ : G.Env} {W : Wd} {P : KS} (h : P ((ρ.set i (some (.sh a))).set j (some (.sh b))) W) : gdTup 2 (gdCons (gdName i) (gdCons (gdName j) gdNil)) (.tup [a, b]) ρ W P := ⟨rfl, h⟩
theorem gd3 {i j k : Nat} {a b c : D} {ρ : G.Env} {W : Wd} {P : KS} (h : P (((ρ.set i (some (.sh a))).set j (some (.sh b))).set k (some (.sh c))) W) : gdTup 3 (gdCons (gdName i) (gdCons (gdName j) (gdCons (gdName k) gdNil))) (.tup [a, b, c]) ρ W P := ⟨rfl, h⟩
theorem gd12 {i j k : Nat} {a b c : D} {ρ : G.Env} {W : Wd} {P : KS} (h : P (((ρ.set i (some (.sh a))).set j (some (.sh b))).set k (some (.sh c))) W) : gdTup 2 (gdCons (gdName i) (gdCons (gdTup 2 (gdCons (gdName j) (gdCons (gdName k) gdNil))) gdNil)) (.tup [a, .tup [b, c]]) ρ W P := ⟨rfl, ⟨rfl, h⟩⟩
theorem nxs {f g : TSD} {De : EndsD} {rt : D → Wd → Prop} {bk ct : KS} {ex : KX} {ρ : G.Env} {W : Wd} (h : dSeq f g De ρ W) : dNext ⟨dSeq f g De, rt, bk, ct, ex⟩ ρ W := h
theorem nxq {f g : TSD} {De : EndsD} {rt : D → Wd → Prop} {bk ct : KS} {ex : KX} {ρ : G.Env} {W : Wd} (h : dSeq f g De ρ W) : EndsD.nx ⟨dSeq f g De, rt, bk, ct, ex⟩ ρ W := h
/-- the first answer of f along a list -/
def firstI {α β : Type} (f : Nat → α → Option β) : Nat → List α → Option β
  | _, [] => none
  | i, a :: r => match f i a with | some b => some b | none => firstI f (i + 1) r
theorem firstI_cons {α β : Type} (f : Nat → α → Option β) (i : Nat) (a : α) (l : List α) : firstI f i (a :: l) = match f i a with | some b => some b | none => firstI f (i + 1) l := rfl
theorem firstI_app {α β : Type} (f : Nat → α → Option β) : ∀ (i : Nat) (l m : List α), firstI f i (l ++ m) = match firstI f i l with | some b => some b | none => firstI f (i + l.length) m
  | i, [], m => by simp [firstI]
  | i, a :: l, m => by
    rw [List.cons_append, firstI_cons, firstI_cons]
    cases h : f i a with
    | some b => rfl
    | none =>
      have e : i + 1 + l.length = i + (a :: l).length := by simp only [List.length_cons]; omega
      rw [← e]
      exact firstI_app f (i + 1) l m
theorem firstI_snoc {α β : Type} (f : Nat → α → Option β) {l : List α} {k : Nat} {a : α} (h : l[k]? = some a) (h0 : firstI f 0 (l.take k) = none) : firstI f 0 (l.take (k + 1)) = f k a := by
  have hk := (List.getElem?_eq_some_iff.mp h).1
  have e : l.take (k + 1) = l.take k ++ [a] := by rw [List.take_add_one, h]; rfl
  rw [e, firstI_app, h0, List.length_take, Nat.zero_add, Nat.min_eq_left (by omega)]
  show firstI f k [a] = _
  unfold firstI
  cases f k a <;> rfl
/-- behind the first answer nothing counts -/
theorem firstI_hit {α β : Type} (f : Nat → α → Option β) {l : List α} {k : Nat} {a : α} {b : β} (h : l[k]? = some a) (h0 : firstI f 0 (l.take k) = none) (hb : f k a = some b) : firstI f 0 l = some b := by
  have := firstI_snoc f h h0
  rw [hb] at this
  rw [← List.take_append_drop (k + 1) l, firstI_app, this]
theorem firstI_none {α β : Type} (f : Nat → α → Option β) : ∀ {l : List α} {i : Nat}, firstI f i l = none ↔ ∀ (k : Nat) (a : α), l[k]? = some a → f (i + k) a = none
  | [], i => by simp [firstI]
  | x :: l, i => by
    unfold firstI
    cases h : f i x with
    | some b =>
      simp only [reduceCtorEq, false_iff]
      intro z
      have := z 0 x rfl
      rw [Nat.add_zero, h] at this
      cases this
    | none =>
      show firstI f (i + 1) l = none ↔ _
      rw [firstI_none f]
      constructor
      · intro z k a hk
        cases k with
        | zero => simp at hk; subst hk; exact h
        | succ k =>
          have := z k a (by simpa using hk)
          rw [show i + (k + 1) = i + 1 + k by omega]; exact this
      · intro z k a hk
        have := z (k + 1) a (by simpa using hk)
        rw [show i + 1 + k = i + (k + 1) by omega]; exact this
mutual
def vok : D → Bool
  | .v .non => true
  | .v (.bl _) => true
  | .v (.int _) => true
  | .v (.str s) => decide (s.length ≤ 100000)
  | .tup ds => decide (ds.length ≤ 100000) && voks ds
  | .lst _ => true
  | .dct _ _ => true
  | _ => false
def voks : List D → Bool
  | [] => true
  | d :: ds => vok d && voks ds
end
theorem voks_all : ∀ {ds : List D}, voks ds = true ↔ ∀ d ∈ ds, vok d = true
  | [] => by simp [voks]
  | d :: ds => by
    rw [voks, Bool.and_eq_true, voks_all, List.forall_mem_cons]
theorem vok_tup {ds : List D} : vok (.tup ds) = true ↔ ds.length ≤ 100000 ∧ ∀ d ∈ ds, vok d = true := by
  rw [vok, Bool.and_eq_true, decide_eq_true_eq, voks_all]
theorem ok_cases {d : D} (h : vok d = true) : d = .non ∨ (∃ b, d = .bl b) ∨ (∃ i, d = .int i) ∨ (∃ s, d = .str s ∧ s.length ≤ 100000) ∨ (∃ ds, d = .tup ds ∧ ds.length ≤ 100000 ∧ ∀ x ∈ ds, vok x = true) ∨ (∃ ds, d = .lst ds) ∨ ∃ ks ds, d = .dct ks ds := by
  cases d with
  | v x =>
    cases x with
    | non => exact .inl rfl
    | bl b => exact .inr (.inl ⟨b, rfl⟩)
    | int i => exact .inr (.inr (.inl ⟨i, rfl⟩))
    | str s => exact .inr (.inr (.inr (.inl ⟨s, rfl, by simpa [vok] using h⟩)))
    | _ => simp [vok] at h
  | tup ds => exact .inr (.inr (.inr (.inr (.inl ⟨ds, rfl, vok_tup.mp h⟩))))
  | lst ds => exact .inr (.inr (.inr (.inr (.inr (.inl ⟨ds, rfl⟩)))))
  | dct ks ds => exact .inr (.inr (.inr (.inr (.inr (.inr ⟨ks, ds, rfl⟩)))))
  | _ => simp [vok] at h
def isIntD : D → Bool
  | .v (.int _) => true
  | _ => false
def isTupD : D → Bool
  | .tup _ => true
  | _ => false
def lenD : D → Nat
  | .tup ds => ds.length
  | _ => 0
def textB (l : List Nat) : Bool := l.all fun c => decide (32 ≤ c) && decide (c ≤ 126)
def isTextD : D → Bool
  | .v (.str s) => textB (tl s)
  | _ => false
def levelsS : List Str := [Str.ofString "rc", Str.ofString "ra", Str.ofString "cc", Str.ofString "pc", Str.ofString "si", Str.ofString "ser"]
def isLvD : D → Bool
  | .v (.str s) => decide (s ∈ levelsS)
  | _ => false
def isFromD (k : Int) : D → Bool
  | .v (.int i) => decide (k ≤ i)
  | _ => false
def isNmD : D → Bool
  | .tup [a, b] => isFromD 0 a && isFromD 0 b
  | _ => false
def isNonD : D → Bool
  | .v .non => true
  | _ => false
def isRdD : D → Bool
  | .tup [a, b] => isTextD a && (isNonD b || isNmD b)
  | _ => false
def strD : D → List Nat
  | .v (.str s) => tl s
  | _ => []
def ordB : List (List Nat) → Bool
  | [] => true
  | [_] => true
  | a :: b :: r => decide (a < b) && ordB (b :: r)
def keysB : D → Bool
  | .tup ws => ws.all isTextD && ordB (ws.map strD)
  | _ => false
def txF : D → Option (List Nat)
  | .tup [l, r, w] => if isLvD l = true then (match r with
    | .tup rs => (match firstI (fun k x => if isRdD x = true then none else some [1, k]) 0 rs with | some p => some p | none => if keysB w = true then none else some [2])
    | _ => some [1]) else some [0]
  | _ => some []
def sesF (n len : Nat) : D → Option (List Nat)
  | .tup ts => if ts = [] ∧ n + 1 = len then some [n] else firstI (fun i t => (txF t).map fun p => n :: i :: p) 0 ts
  | _ => some [n]
def formF : D → Option (List Nat)
  | .tup ss => if 12 < ss.length then some [] else firstI (fun n s => sesF n ss.length s) 0 ss
  | _ => some []
def placeD : Option (List Nat) → D
  | none => .non
  | some p => .tup (p.map fun n => .int (n : Nat))
structure Tx where
  lv : Str
  rs : List (List Nat × Option (Nat × Nat))
  ws : List (List Nat)
abbrev Hist := List (List Tx)
def nameD (n : Nat × Nat) : D := .tup [.int (n.1 : Nat), .int (n.2 : Nat)]
def srcD : Option (Nat × Nat) → D
  | none => .non
  | some n => nameD n
def readD (r : List Nat × Option (Nat × Nat)) : D := .tup [.str (mkS r.1), srcD r.2]
def keyTD (k : List Nat) : D := .str (mkS k)
def txD (t : Tx) : D := .tup [.str t.lv, .tup (t.rs.map readD), .tup (t.ws.map keyTD)]
def sesD (s : List Tx) : D := .tup (s.map txD)
def histD (h : Hist) : D := .tup (h.map sesD)
structure TxOk (t : Tx) : Prop where
  lv : t.lv ∈ levelsS
  rs : ∀ r ∈ t.rs, Pr r.1
  ws : ∀ w ∈ t.ws, Pr w
  ord : ordB t.ws = true
structure FormOk (h : Hist) : Prop where
  len : h.length ≤ 12
  last : ∀ s, h.getLast? = some s → s ≠ []
  tx : ∀ s ∈ h, ∀ t ∈ s, TxOk t
def txAt (h : Hist) (n : Nat × Nat) : Option Tx := (h[n.1]?).bind fun s => s[n.2]?
def srcBad (h : Hist) (n : Nat × Nat) (key : List Nat) (src : Nat × Nat) : Bool := decide (src = n) || match txAt h src with | none => true | some t => !decide (key ∈ t.ws)
def rdF (h : Hist) (s i k : Nat) (r : List Nat × Option (Nat × Nat)) : Option (List Nat) := match r.2 with
  | none => none
  | some src => if srcBad h (s, i) r.1 src = true then some [s, i, 1, k] else none
def rowN (h : Hist) (s : Nat) : List (Nat × Nat) := (List.range (h.getD s []).length).map fun i => (s, i)
def namesH (h : Hist) : List (Nat × Nat) := (List.range h.length).flatMap (rowN h)
def txS (h : Hist) (n : Nat × Nat) : Option (List Nat) := match txAt h n with
  | none => none
  | some t => firstI (fun k r => rdF h n.1 n.2 k r) 0 t.rs
def srcF (h : Hist) : Option (List Nat) := firstI (fun _ n => txS h n) 0 (namesH h)
/-- the names ahead of (s, i) -/
def preN (h : Hist) (s i : Nat) : List (Nat × Nat) := (List.range s).flatMap (rowN h) ++ (List.range i).map fun i => (s, i)
theorem pre_snoc (h : Hist) (s i : Nat) : preN h s (i + 1) = preN h s i ++ [(s, i)] := by
  unfold preN
  rw [List.range_succ, List.map_append, List.append_assoc]; rfl
theorem pre_row (h : Hist) (s : Nat) : preN h s (h.getD s []).length = preN h (s + 1) 0 := by
  unfold preN
  rw [List.range_succ, List.flatMap_append]
  show _ = (_ ++ (rowN h s ++ [])) ++ []
  rw [List.append_nil, List.append_nil]; rfl
theorem pre_all (h : Hist) : preN h h.length 0 = namesH h := by
  unfold preN namesH
  exact List.append_nil _
theorem names_split (h : Hist) {s i : Nat} (hs : s < h.length) (hi : i < (h.getD s []).length) : ∃ r, namesH h = preN h s i ++ (s, i) :: r := by
  have e1 : List.range h.length = List.range s ++ (s :: List.range' (s + 1) (h.length - (s + 1))) := by
    rw [List.range_eq_range', List.range_eq_range', show h.length = s + (1 + (h.length - (s + 1))) by omega, ← List.range'_append_1, ← List.range'_append_1]
    simp
    omega
  have e2 : List.range (h.getD s []).length = List.range i ++ (i :: List.range' (i + 1) ((h.getD s []).length - (i + 1))) := by
    rw [List.range_eq_range', List.range_eq_range', show (h.getD s []).length = i + (1 + ((h.getD s []).length - (i + 1))) by omega, ← List.range'_append_1, ← List.range'_append_1]
    simp
    omega
  refine ⟨((List.range' (i + 1) ((h.getD s []).length - (i + 1))).map fun i => (s, i)) ++ (List.range' (s + 1) (h.length - (s + 1))).flatMap (rowN h), ?_⟩
  unfold namesH preN
  rw [e1, List.flatMap_append, List.flatMap_cons]
  have e3 : rowN h s = ((List.range i).map fun i => (s, i)) ++ (s, i) :: ((List.range' (i + 1) ((h.getD s []).length - (i + 1))).map fun i => (s, i)) := by
    unfold rowN
    rw [e2, List.map_append, List.map_cons]
  rw [e3]
  simp
theorem txAt_get {h : Hist} {s i : Nat} {t : Tx} : txAt h (s, i) = some t ↔ ∃ ses, h[s]? = some ses ∧ ses[i]? = some t := by
  unfold txAt
  cases e : h[s]? with
  | none => simp
  | some ses => simp
theorem getD_get {h : Hist} {s : Nat} {ses : List Tx} (e : h[s]? = some ses) : h.getD s [] = ses := by
  rw [List.getD_eq_getElem?_getD, e]; rfl
theorem txF_len {d : D} {p : List Nat} (h : txF d = some p) : p.length ≤ 2 := by
  unfold txF at h
  split at h
  · split at h
    · split at h
      · rename_i rs
        split at h
        · rename_i q hq
          simp only [Option.some.injEq] at h
          subst h
          have : ∀ (l : List D) (i : Nat), firstI (fun k x => if isRdD x = true then none else some [1, k]) i l = some q → q.length ≤ 2 := by
            intro l
            induction l with
            | nil => intro i e; cases e
            | cons a l ih =>
              intro i e
              rw [firstI_cons] at e
              split at e
              · rename_i b hb
                simp only [Option.some.injEq] at e
                subst e
                split at hb
                · cases hb
                · simp only [Option.some.injEq] at hb; subst hb; exact Nat.le_refl _
              · exact ih _ e
          exact this _ _ hq
        · split at h
          · cases h
          · simp only [Option.some.injEq] at h; subst h; decide
      · simp only [Option.some.injEq] at h; subst h; decide
    · simp only [Option.some.injEq] at h; subst h; decide
  · simp only [Option.some.injEq] at h; subst h; decide
theorem text_pr {l : List Nat} : textB l = true ↔ Pr l := by
  unfold textB Pr
  rw [List.all_eq_true]
  constructor
  · intro h c hc
    have := h c hc
    rw [Bool.and_eq_true, decide_eq_true_eq, decide_eq_true_eq] at this
    exact this
  · intro h c hc
    rw [Bool.and_eq_true, decide_eq_true_eq, decide_eq_true_eq]
    exact h c hc
theorem text_of {d : D} (h : isTextD d = true) : ∃ l, d = .str (mkS l) ∧ Pr l := by
  unfold isTextD at h
  split at h
  · rename_i s
    exact ⟨tl s, by rw [mkS_tl], text_pr.mp h⟩
  · cases h
theorem text_is {l : List Nat} (h : Pr l) : isTextD (.str (mkS l)) = true := by
  show textB (tl (mkS l)) = true
  rw [tl_mkS]; exact text_pr.mpr h
theorem nm_of {d : D} (h : isNmD d = true) : ∃ n, d = nameD n := by
  unfold isNmD at h
  split at h
  · rename_i a b
    rw [Bool.and_eq_true] at h
    unfold isFromD at h
    obtain ⟨h1, h2⟩ := h
    split at h1
    · split at h2
      · rename_i i _ j
        have a1 := of_decide_eq_true h1
        have a2 := of_decide_eq_true h2
        refine ⟨(i.toNat, j.toNat), ?_⟩
        unfold nameD
        rw [Int.toNat_of_nonneg a1, Int.toNat_of_nonneg a2]
      · cases h2
    · cases h1
  · cases h
theorem nm_is (n : Nat × Nat) : isNmD (nameD n) = true := by
  show (decide ((0 : Int) ≤ (n.1 : Nat)) && decide ((0 : Int) ≤ (n.2 : Nat))) = true
  rw [decide_eq_true (by omega), decide_eq_true (by omega)]; rfl
theorem rd_is {r : List Nat × Option (Nat × Nat)} (h : Pr r.1) : isRdD (readD r) = true := by
  show (isTextD (.str (mkS r.1)) && (isNonD (srcD r.2) || isNmD (srcD r.2))) = true
  rw [text_is h, Bool.true_and]
  cases r.2 with
  | none => rfl
  | some n => show (isNonD (nameD n) || isNmD (nameD n)) = true; rw [nm_is, Bool.or_true]
theorem list_of {α : Type} (f : α → D) (p : D → Bool) (q : α → Prop) (h : ∀ d, p d = true → ∃ a, d = f a ∧ q a) : ∀ {ds : List D}, (∀ d ∈ ds, p d = true) → ∃ l : List α, ds = l.map f ∧ ∀ a ∈ l, q a
  | [], _ => ⟨[], rfl, fun _ z => nomatch z⟩
  | d :: ds, hd => by
    obtain ⟨a, rfl, ha⟩ := h d (hd d List.mem_cons_self)
    obtain ⟨l, rfl, hl⟩ := list_of f p q h fun x hx => hd x (List.mem_cons_of_mem _ hx)
    exact ⟨a :: l, rfl, fun x hx => by
      rcases List.mem_cons.mp hx with rfl | hx
      · exact ha
      · exact hl x hx⟩
theorem keys_is {ws : List (List Nat)} (h : ∀ w ∈ ws, Pr w) (ho : ordB ws = true) : keysB (.tup (ws.map keyTD)) = true := by
  show ((ws.map keyTD).all isTextD && ordB ((ws.map keyTD).map strD)) = true
  have e : (ws.map keyTD).map strD = ws := by
    rw [List.map_map]
    refine (List.map_congr_left fun a _ => ?_).trans (List.map_id _)
    show tl (mkS a) = a
    exact tl_mkS a
  rw [e, ho, Bool.and_true, List.all_map, List.all_eq_true]
  exact fun w hw => text_is (h w hw)
theorem tx_is {t : Tx} (h : TxOk t) : txF (txD t) = none := by
  show (if isLvD (.str t.lv) = true then (match firstI (fun k x => if isRdD x = true then none else some [1, k]) 0 (t.rs.map readD) with | some p => some p | none => if keysB (.tup (t.ws.map keyTD)) = true then none else some [2]) else some [0]) = none
  have e1 : isLvD (.str t.lv) = true := decide_eq_true h.lv
  have e2 : firstI (fun k x => if isRdD x = true then none else some [1, k]) 0 (t.rs.map readD) = none := (firstI_none _).mpr fun k a ha => by
    rw [List.getElem?_map] at ha
    obtain ⟨r, hr, rfl⟩ := Option.map_eq_some_iff.mp ha
    show (if isRdD (readD r) = true then none else some [1, 0 + k]) = none
    rw [rd_is (h.rs r (List.mem_of_getElem? hr)), if_pos rfl]
  rw [e1, if_pos rfl, e2]
  show (if keysB (.tup (t.ws.map keyTD)) = true then none else some [2]) = none
  rw [keys_is h.ws h.ord, if_pos rfl]
theorem form_is {h : Hist} (ok : FormOk h) : formF (histD h) = none := by
  show (if 12 < (h.map sesD).length then some [] else firstI (fun n s => sesF n (h.map sesD).length s) 0 (h.map sesD)) = none
  have := ok.len
  rw [List.length_map, if_neg (by omega)]
  refine (firstI_none _).mpr fun n s hs => ?_
  rw [List.getElem?_map] at hs
  obtain ⟨l, hl, rfl⟩ := Option.map_eq_some_iff.mp hs
  show (if l.map txD = [] ∧ 0 + n + 1 = h.length then some [0 + n] else firstI (fun i t => (txF t).map fun p => (0 + n) :: i :: p) 0 (l.map txD)) = none
  rw [if_neg fun z => ?_]
  · refine (firstI_none _).mpr fun i t ht => ?_
    rw [List.getElem?_map] at ht
    obtain ⟨t, ht2, rfl⟩ := Option.map_eq_some_iff.mp ht
    rw [tx_is (ok.tx l (List.mem_of_getElem? hl) t (List.mem_of_getElem? ht2))]; rfl
  · have e : l = [] := List.map_eq_nil_iff.mp z.1
    refine ok.last l ?_ e
    rw [List.getLast?_eq_getElem?, show h.length - 1 = n by omega]; exact hl
end LV
namespace LV
open PySem PySem.Spec L2 G TL C
/-- a history of the law's making -/
structure Good (h : Hist) : Prop where
  ok : FormOk h
  src : srcF h = none
  val : vok (histD h) = true
  ne : h ≠ []
  few : ∀ s ∈ h, s.length ≤ 24
  rs : ∀ s ∈ h, ∀ t ∈ s, t.rs.length ≤ 12
  ws : ∀ s ∈ h, ∀ t ∈ s, t.ws.length ≤ 16
abbrev Nm := Nat × Nat
def Src (h : Hist) (n m : Nm) : Prop := ∃ t, txAt h n = some t ∧ ∃ k, (k, some m) ∈ t.rs
def Pred (h : Hist) (n m : Nm) : Prop := (m.1 = n.1 ∧ m.2 < n.2) ∨ Src h n m
inductive Reach (h : Hist) (n : Nm) : Nm → Prop
  | one {m} : Pred h n m → Reach h n m
  | more {m k} : Reach h n m → Pred h m k → Reach h n k
structure OrdOk (h : Hist) (ord : List Nm) : Prop where
  nd : ord.Nodup
  mem : ∀ m, m ∈ ord ↔ m ∈ namesH h
def pos (ord : List Nm) (m : Nm) : Nat := ord.idxOf m
def Share (h : Hist) (a b : Nm) : Prop := ∃ ta tb, txAt h a = some ta ∧ txAt h b = some tb ∧ ∃ k, k ∈ ta.ws ∧ k ∈ tb.ws
def lRc : Str := Str.ofString "rc"
def lRa : Str := Str.ofString "ra"
def lCc : Str := Str.ofString "cc"
def lSi : Str := Str.ofString "si"
def lSer : Str := Str.ofString "ser"
/-- j is no later than what n's reads see -/
def Under (h : Hist) (ord : List Nm) (n : Nm) (t : Tx) (j : Nat) : Prop :=
  if t.lv = lSer then j < pos ord n else ∃ m, m ∈ namesH h ∧ (Pred h n m ∨ (t.lv = lSi ∧ pos ord m < pos ord n ∧ Share h m n)) ∧ j ≤ pos ord m
def Named (h : Hist) (n : Nm) (t : Tx) (k : Nat) (m : Nm) : Prop :=
  if t.lv = lRc then ∃ (j : Nat) (key : List Nat), j < k ∧ t.rs[j]? = some (key, some m) else if t.lv = lRa then Pred h n m else Reach h n m
def Lvl (h : Hist) (ord : List Nm) (n : Nm) (t : Tx) (k : Nat) (m : Nm) : Prop :=
  if t.lv = lRc ∨ t.lv = lRa ∨ t.lv = lCc then Named h n t k m else Under h ord n t (pos ord m)
structure Must (h : Hist) (ord : List Nm) (n : Nm) (t : Tx) (k : Nat) (r : List Nat × Option Nm) (m : Nm) : Prop where
  other : m ≠ n
  notS : r.2 ≠ some m
  wr : ∃ tm, txAt h m = some tm ∧ r.1 ∈ tm.ws
  lvl : Lvl h ord n t k m
def Hit (h : Hist) (ord : List Nm) (n : Nm) (t : Tx) (k : Nat) (r : List Nat × Option Nm) (m : Nm) : Prop :=
  Must h ord n t k r m ∧ (r.2 = none ∨ ∃ s, r.2 = some s ∧ pos ord s < pos ord m)
open Classical in
noncomputable def unsR (h : Hist) (ord : List Nm) (n : Nm) (t : Tx) (k : Nat) (r : List Nat × Option Nm) : Option (Nm × Nat × Nm) :=
  firstI (fun _ m => if Hit h ord n t k r m then some (n, k, m) else none) 0 (namesH h)
noncomputable def unsN (h : Hist) (ord : List Nm) (n : Nm) : Option (Nm × Nat × Nm) := match txAt h n with
  | none => none
  | some t => firstI (fun k r => unsR h ord n t k r) 0 t.rs
noncomputable def unseen (h : Hist) (ord : List Nm) : Option (Nm × Nat × Nm) := firstI (fun _ n => unsN h ord n) 0 (namesH h)
def unsD : Option (Nm × Nat × Nm) → D
  | none => .non
  | some (n, k, m) => .tup [nameD n, .int (k : Nat), nameD m]
def seenD : Option (Nm × Nat × Nm) → D
  | none => .non
  | some (n, k, m) => .tup [.str "seen", nameD n, .int (k : Nat), nameD m]
structure Turned (h : Hist) (ord : List Nm) (p : Nm × Nm) : Prop where
  mem : p.2 ∈ namesH h
  pred : Pred h p.2 p.1
  pos : pos ord p.2 < pos ord p.1
def ltN (a b : Nm) : Prop := a.1 < b.1 ∨ (a.1 = b.1 ∧ a.2 < b.2)
instance (a b : Nm) : Decidable (ltN a b) := inferInstanceAs (Decidable (_ ∨ _))
def ltP (a b : Nm × Nm) : Prop := ltN a.1 b.1 ∨ (a.1 = b.1 ∧ ltN a.2 b.2)
instance (a b : Nm × Nm) : Decidable (ltP a b) := inferInstanceAs (Decidable (_ ∨ _))
def pairD (p : Nm × Nm) : D := .tup [nameD p.1, nameD p.2]
def befD (p : Nm × Nm) : D := .tup [.str "before", nameD p.1, nameD p.2]
structure LeastT (h : Hist) (ord : List Nm) (p : Nm × Nm) : Prop where
  is : Turned h ord p
  least : ∀ q, Turned h ord q → ¬ ltP q p
def TurnR (h : Hist) (ord : List Nm) (d : D) : Prop := (∃ p, LeastT h ord p ∧ d = pairD p) ∨ ((∀ p, ¬ Turned h ord p) ∧ d = .non)
/-- what is wrong with an order -/
def Res (h : Hist) (ord : List Nm) (d : D) : Prop := (∃ p, LeastT h ord p ∧ d = befD p) ∨ ((∀ p, ¬ Turned h ord p) ∧ d = seenD (unseen h ord))
def setD (l : List Nm) : D := .dtt (l.map nameD) (l.map fun _ => .bl true)
def prD (h : Hist) (pl : Nm → List Nm) : D := .dtt ((namesH h).map nameD) ((namesH h).map fun n => setD (pl n))
def blD (h : Hist) (pl : Nm → List Nm) : D := .dtt ((namesH h).map nameD) ((namesH h).map fun n => .lst ((pl n).map nameD))
structure PrOk (h : Hist) (pl : Nm → List Nm) : Prop where
  nd : ∀ n ∈ namesH h, (pl n).Nodup
  mem : ∀ n ∈ namesH h, ∀ m, m ∈ pl n ↔ Pred h n m
structure ClOk (h : Hist) (cl : Nm → List Nm) : Prop where
  mem : ∀ n ∈ namesH h, ∀ m, m ∈ cl n ↔ Reach h n m
  len : ∀ n ∈ namesH h, (cl n).length ≤ 300
def placesD (ord : List Nm) : D := .dtt (ord.map nameD) ((List.range ord.length).map fun i => .int (i : Nat))
/-- a value that is no order, whatever the history -/
def NotOrd (h : Hist) (d : D) : Prop := isTupD d = false ∨ ∃ ds, d = .tup ds ∧ ((∃ x ∈ ds, isNmD x = false) ∨ ds.length ≠ (namesH h).length)
theorem pos_of {ord : List Nm} (nd : ord.Nodup) {i : Nat} {m : Nm} (h : ord[i]? = some m) : pos ord m = i := by
  obtain ⟨hi, rfl⟩ := List.getElem?_eq_some_iff.mp h
  exact nd.idxOf_getElem i hi
theorem pos_get {ord : List Nm} {m : Nm} (h : m ∈ ord) : ord[pos ord m]? = some m := by
  have hl := List.idxOf_lt_length_iff.mpr h
  have := List.getElem_idxOf hl
  exact List.getElem?_eq_some_iff.mpr ⟨hl, this⟩
theorem pos_lt {ord : List Nm} {m : Nm} (h : m ∈ ord) : pos ord m < ord.length := List.idxOf_lt_length_iff.mpr h
theorem pos_inj {ord : List Nm} {m k : Nm} (hm : m ∈ ord) (hk : k ∈ ord) (e : pos ord m = pos ord k) : m = k := by
  have h1 := pos_get hm
  have h2 := pos_get hk
  rw [e, h2] at h1
  exact (Option.some.inj h1).symm
theorem names_iff {h : Hist} {n : Nm} : n ∈ namesH h ↔ ∃ t, txAt h n = some t := by
  constructor
  · intro hn
    unfold namesH at hn
    obtain ⟨s, hs, hr⟩ := List.mem_flatMap.mp hn
    unfold rowN at hr
    obtain ⟨i, hi, rfl⟩ := List.mem_map.mp hr
    rw [List.mem_range] at hs hi
    have e : h[s]? = some h[s] := List.getElem?_eq_getElem hs
    rw [getD_get e] at hi
    exact ⟨_, txAt_get.mpr ⟨_, e, List.getElem?_eq_getElem hi⟩⟩
  · rintro ⟨t, ht⟩
    obtain ⟨s, i⟩ := n
    obtain ⟨ses, e1, e2⟩ := txAt_get.mp ht
    have l1 := (List.getElem?_eq_some_iff.mp e1).1
    have l2 := (List.getElem?_eq_some_iff.mp e2).1
    unfold namesH rowN
    refine List.mem_flatMap.mpr ⟨s, List.mem_range.mpr l1, List.mem_map.mpr ⟨i, ?_, rfl⟩⟩
    rw [getD_get e1, List.mem_range]; exact l2
theorem names_pair (h : Hist) : (namesH h).Pairwise ltN := by
  unfold namesH
  rw [List.pairwise_flatMap]
  constructor
  · intro s _
    unfold rowN
    rw [List.pairwise_map]
    exact List.pairwise_lt_range.imp fun {a b} z => .inr ⟨rfl, z⟩
  · refine List.pairwise_lt_range.imp fun {a b} z x hx y hy => ?_
    unfold rowN at hx hy
    obtain ⟨i, _, rfl⟩ := List.mem_map.mp hx
    obtain ⟨j, _, rfl⟩ := List.mem_map.mp hy
    exact .inl z
theorem ltN_irr (a : Nm) : ¬ ltN a a := fun z => by rcases z with z | ⟨_, z⟩ <;> omega
theorem ltN_tr {a b c : Nm} (h : ltN a b) (k : ltN b c) : ltN a c := by
  rcases h with h | ⟨h, h'⟩ <;> rcases k with k | ⟨k, k'⟩
  · exact .inl (by omega)
  · exact .inl (by omega)
  · exact .inl (by omega)
  · exact .inr ⟨by omega, by omega⟩
theorem ltN_tri (a b : Nm) : ltN a b ∨ a = b ∨ ltN b a := by
  obtain ⟨a1, a2⟩ := a
  obtain ⟨b1, b2⟩ := b
  rcases Nat.lt_trichotomy a1 b1 with h | h | h
  · exact .inl (.inl h)
  · subst h
    rcases Nat.lt_trichotomy a2 b2 with k | k | k
    · exact .inl (.inr ⟨rfl, k⟩)
    · subst k; exact .inr (.inl rfl)
    · exact .inr (.inr (.inr ⟨rfl, k⟩))
  · exact .inr (.inr (.inl h))
theorem ltP_tri (a b : Nm × Nm) : ltP a b ∨ a = b ∨ ltP b a := by
  obtain ⟨a1, a2⟩ := a
  obtain ⟨b1, b2⟩ := b
  rcases ltN_tri a1 b1 with h | h | h
  · exact .inl (.inl h)
  · subst h
    rcases ltN_tri a2 b2 with k | k | k
    · exact .inl (.inr ⟨rfl, k⟩)
    · subst k; exact .inr (.inl rfl)
    · exact .inr (.inr (.inr ⟨rfl, k⟩))
  · exact .inr (.inr (.inl h))
theorem ltP_irr (a : Nm × Nm) : ¬ ltP a a := fun z => by rcases z with z | ⟨_, z⟩ <;> exact ltN_irr _ z
theorem ltP_tr {a b c : Nm × Nm} (h : ltP a b) (k : ltP b c) : ltP a c := by
  rcases h with h | ⟨h, h'⟩ <;> rcases k with k | ⟨k, k'⟩
  · exact .inl (ltN_tr h k)
  · exact .inl (k ▸ h)
  · exact .inl (h ▸ k)
  · exact .inr ⟨h.trans k, ltN_tr h' k'⟩
theorem names_nd (h : Hist) : (namesH h).Nodup := by
  refine List.Pairwise.imp (R := ltN) (S := fun a b => a ≠ b) (fun {a b} z => fun e => ?_) (names_pair h)
  subst e; exact ltN_irr a z
theorem flat_len {α β : Type} (f : α → List β) (B : Nat) : ∀ l : List α, (∀ x ∈ l, (f x).length ≤ B) → (l.flatMap f).length ≤ l.length * B
  | [], _ => by simp
  | x :: l, h => by
    have h1 := h x List.mem_cons_self
    have h2 := flat_len f B l fun y hy => h y (List.mem_cons_of_mem _ hy)
    rw [List.flatMap_cons, List.length_append, List.length_cons, Nat.succ_mul]
    omega
theorem names_few {h : Hist} (hg : Good h) : (namesH h).length ≤ 288 := by
  have h1 := flat_len (rowN h) 24 (List.range h.length) fun s hs => by
    rw [List.mem_range] at hs
    have e : h[s]? = some h[s] := List.getElem?_eq_getElem hs
    unfold rowN
    rw [List.length_map, List.length_range, getD_get e]
    exact hg.few _ (List.getElem_mem hs)
  rw [List.length_range] at h1
  have := hg.ok.len
  unfold namesH
  omega
theorem names_ne {h : Hist} (hg : Good h) : namesH h ≠ [] := by
  intro e
  have hne := hg.ne
  obtain ⟨s, hs⟩ : ∃ s, h.getLast? = some s := by
    cases hl : h.getLast? with
    | none => exact absurd (List.getLast?_eq_none_iff.mp hl) hne
    | some s => exact ⟨s, rfl⟩
  have h1 := hg.ok.last s hs
  rw [List.getLast?_eq_getElem?] at hs
  have hz : s[0]? = some (s[0]'(List.length_pos_iff.mpr h1)) := List.getElem?_eq_getElem _
  have : ((h.length - 1, 0) : Nm) ∈ namesH h := names_iff.mpr ⟨_, txAt_get.mpr ⟨s, hs, hz⟩⟩
  rw [e] at this
  exact absurd this List.not_mem_nil
theorem len_le {a b : List Nm} (nd : a.Nodup) (h : ∀ m ∈ a, m ∈ b) : a.length ≤ b.length := by
  induction a generalizing b with
  | nil => exact Nat.zero_le _
  | cons x a ih =>
    rw [List.nodup_cons] at nd
    have hx := h x List.mem_cons_self
    have := ih (b := b.erase x) nd.2 fun m hm => (List.mem_erase_of_ne (fun e : m = x => nd.1 (e ▸ hm))).mpr (h m (List.mem_cons_of_mem _ hm))
    rw [List.length_erase_of_mem hx] at this
    have := List.length_pos_of_mem hx
    rw [List.length_cons]; omega
theorem ord_len {h : Hist} {ord : List Nm} (ho : OrdOk h ord) : ord.length = (namesH h).length :=
  Nat.le_antisymm (len_le ho.nd fun m hm => (ho.mem m).mp hm) (len_le (names_nd h) fun m hm => (ho.mem m).mpr hm)
theorem pred_mem {h : Hist} (hs : srcF h = none) {n m : Nm} (hn : n ∈ namesH h) (hp : Pred h n m) : m ∈ namesH h := by
  rcases hp with ⟨e, l⟩ | ⟨t, ht, k, hk⟩
  · obtain ⟨t, ht⟩ := names_iff.mp hn
    obtain ⟨n1, n2⟩ := n
    obtain ⟨m1, m2⟩ := m
    simp only at e l
    subst e
    obtain ⟨ses, e1, e2⟩ := txAt_get.mp ht
    have l2 := (List.getElem?_eq_some_iff.mp e2).1
    exact names_iff.mpr ⟨_, txAt_get.mpr ⟨ses, e1, List.getElem?_eq_getElem (by omega)⟩⟩
  · obtain ⟨i, hi⟩ := List.getElem?_of_mem hn
    have h1 := (firstI_none _).mp hs i n hi
    unfold txS at h1
    rw [ht] at h1
    obtain ⟨j, hj⟩ := List.getElem?_of_mem hk
    have h2 := (firstI_none _).mp h1 j _ hj
    unfold rdF at h2
    simp only at h2
    split at h2
    · cases h2
    · rename_i hb
      unfold srcBad at hb
      rw [Bool.or_eq_true, not_or] at hb
      cases e : txAt h m with
      | none => rw [e] at hb; exact absurd rfl hb.2
      | some t' => exact names_iff.mpr ⟨t', e⟩
theorem reach_mem {h : Hist} (hs : srcF h = none) {n m : Nm} (hn : n ∈ namesH h) (hr : Reach h n m) : m ∈ namesH h := by
  induction hr with
  | one hp => exact pred_mem hs hn hp
  | more _ hp ih => exact pred_mem hs ih hp
theorem pl_len {h : Hist} (hg : Good h) {pl : Nm → List Nm} (hp : PrOk h pl) {n : Nm} (hn : n ∈ namesH h) : (pl n).length ≤ 288 :=
  Nat.le_trans (len_le (hp.nd n hn) fun m hm => pred_mem hg.src hn ((hp.mem n hn m).mp hm)) (names_few hg)
theorem src_mem {h : Hist} (hs : srcF h = none) {n m : Nm} {t : Tx} {key : List Nat} {k : Nat} (ht : txAt h n = some t) (hr : t.rs[k]? = some (key, some m)) : m ∈ namesH h :=
  pred_mem hs (names_iff.mpr ⟨t, ht⟩) (.inr ⟨t, ht, key, List.mem_of_getElem? hr⟩)
theorem least_one {h : Hist} {ord : List Nm} {p q : Nm × Nm} (hp : LeastT h ord p) (hq : LeastT h ord q) : p = q := by
  rcases ltP_tri p q with z | z | z
  · exact absurd z (hq.least p hp.is)
  · exact z
  · exact absurd z (hp.least q hq.is)
theorem res_one {h : Hist} {ord : List Nm} {d e : D} (hd : Res h ord d) (he : Res h ord e) : d = e := by
  rcases hd with ⟨p, hp, rfl⟩ | ⟨hp, rfl⟩ <;> rcases he with ⟨q, hq, rfl⟩ | ⟨hq, rfl⟩
  · rw [least_one hp hq]
  · exact absurd hp.is (hq p)
  · exact absurd hq.is (hp q)
  · rfl
theorem tx_rs {h : Hist} (hg : Good h) {n : Nm} {t : Tx} (e : txAt h n = some t) : t.rs.length ≤ 12 ∧ t.ws.length ≤ 16 ∧ t.lv ∈ levelsS := by
  obtain ⟨s, i⟩ := n
  obtain ⟨ses, e1, e2⟩ := txAt_get.mp e
  have m1 := List.mem_of_getElem? e1
  have m2 := List.mem_of_getElem? e2
  exact ⟨hg.rs _ m1 _ m2, hg.ws _ m1 _ m2, (hg.ok.tx _ m1 _ m2).lv⟩
theorem nameD_inj {a b : Nm} (h : nameD a = nameD b) : a = b := by
  have e1 : D.int ((a.1 : Nat) : Int) = .int ((b.1 : Nat) : Int) ∧ D.int ((a.2 : Nat) : Int) = .int ((b.2 : Nat) : Int) := by
    unfold nameD at h
    injection h with h
    injection h with h1 h
    injection h with h2 h
    exact ⟨h1, h2⟩
  obtain ⟨h1, h2⟩ := e1
  injection h1 with h1
  injection h1 with h1
  injection h2 with h2
  injection h2 with h2
  exact Prod.ext (by omega) (by omega)
theorem nk_name (m : Nm) : isNk (nameD m) = true := rfl
theorem tab_get {ns : List Nm} {f : Nm → D} {n : Nm} (hn : n ∈ ns) {P : D → Prop} (h : P (f n)) : isNk (nameD n) = true ∧ ∃ (i : Nat) (z : D), (ns.map nameD)[i]? = some (nameD n) ∧ (ns.map f)[i]? = some z ∧ P z := by
  obtain ⟨i, hi⟩ := List.getElem?_of_mem hn
  exact ⟨rfl, i, f n, by rw [List.getElem?_map, hi]; rfl, by rw [List.getElem?_map, hi]; rfl, h⟩
theorem pos_get' {ord : List Nm} {n : Nm} (hn : n ∈ ord) {P : D → Prop} (h : P (.int (pos ord n : Nat))) : isNk (nameD n) = true ∧ ∃ (i : Nat) (z : D), (ord.map nameD)[i]? = some (nameD n) ∧ ((List.range ord.length).map fun i => D.int (i : Nat))[i]? = some z ∧ P z :=
  ⟨rfl, pos ord n, _, by rw [List.getElem?_map, pos_get hn]; rfl, by rw [List.getElem?_map, List.getElem?_range (pos_lt hn)]; rfl, h⟩
theorem mem_nameD {l : List Nm} {m : Nm} : nameD m ∈ l.map nameD ↔ m ∈ l := by
  constructor
  · intro z
    obtain ⟨x, hx, e⟩ := List.mem_map.mp z
    rw [← nameD_inj e]; exact hx
  · exact fun z => List.mem_map.mpr ⟨m, z, rfl⟩
theorem eq_nameN (a b : Nm) : eqD (nameD a) (nameD b) = decide (a = b) := by
  have e : eqD (nameD a) (nameD b) = (((a.1 : Int) == (b.1 : Int)) && (((a.2 : Int) == (b.2 : Int)) && true)) := by
    unfold eqD nameD
    simp [D.py, pys, PyData.eqv, PyData.eqvAll]
  obtain ⟨a1, a2⟩ := a
  obtain ⟨b1, b2⟩ := b
  rw [e, Bool.eq_iff_iff, decide_eq_true_eq, Bool.and_eq_true, Bool.and_true, beq_iff_eq, beq_iff_eq, Prod.mk.injEq]
  show (a1 : Int) = (b1 : Int) ∧ (a2 : Int) = (b2 : Int) ↔ _
  constructor <;> rintro ⟨x, y⟩ <;> constructor <;> omega
theorem any_name (l : List Nm) (m : Nm) : ((l.map nameD).any fun z => eqD z (nameD m)) = decide (m ∈ l) := by
  rw [Bool.eq_iff_iff, decide_eq_true_eq, List.any_eq_true]
  constructor
  · rintro ⟨z, hz, e⟩
    obtain ⟨x, hx, rfl⟩ := List.mem_map.mp hz
    rw [eq_nameN, decide_eq_true_eq] at e
    rw [← e]; exact hx
  · exact fun hm => ⟨nameD m, mem_nameD.mpr hm, by rw [eq_nameN]; exact decide_eq_true rfl⟩
theorem goods_names (n : Nat) : ∀ l : List Nm, goods (n + 2) (l.map nameD) = true
  | [] => rfl
  | m :: l => by
    show (D.good (n + 2) (nameD m) && goods (n + 2) (l.map nameD)) = true
    rw [goods_names n l]; rfl
theorem lt_data (a b : Nm) : PySem.W.dataLt (nameD a).py (nameD b).py = decide (ltN a b) := by
  have := PySem.W.dataLt_ii (a.1 : Int) (a.2 : Int) (b.1 : Int) (b.2 : Int)
  refine this.trans (decide_eq_decide.mpr ?_)
  unfold ltN
  omega
abbrev leN (a b : Nm) : Bool := !decide (ltN b a)
abbrev nSort (l : List Nm) : List Nm := l.mergeSort leN
theorem srt_names (l : List Nm) : srt (l.map nameD) = (nSort l).map nameD := by
  refine (PySem.W.sort_maps (r := leN) (s := PySem.W.dataLe false D.py) nameD (l := l) fun a ha b hb => ?_).symm
  show (!decide (ltN b a)) = !PySem.W.dataLt (nameD b).py (nameD a).py
  rw [lt_data]
theorem n_pair (l : List Nm) : List.Pairwise (fun a b => leN a b = true) (nSort l) := by
  refine List.pairwise_mergeSort (fun a b c h1 h2 => ?_) (fun a b => ?_) l
  · rw [Bool.not_eq_true', decide_eq_false_iff_not] at h1 h2 ⊢
    intro h
    rcases ltN_tri a b with q | q | q
    · exact h2 (ltN_tr h q)
    · exact h2 (q ▸ h)
    · exact h1 q
  · rw [Bool.or_eq_true, Bool.not_eq_true', Bool.not_eq_true', decide_eq_false_iff_not, decide_eq_false_iff_not]
    by_cases q : ltN b a
    · exact .inr fun z => ltN_irr _ (ltN_tr z q)
    · exact .inl q
theorem n_mem {l : List Nm} {m : Nm} : m ∈ nSort l ↔ m ∈ l := (List.mergeSort_perm l leN).mem_iff
theorem n_len (l : List Nm) : (nSort l).length = l.length := List.length_mergeSort l
theorem pair_eq : ∀ {a b : List Nm}, a.Pairwise ltN → b.Pairwise ltN → (∀ m, m ∈ a ↔ m ∈ b) → a = b
  | [], [], _, _, _ => rfl
  | [], b :: _, _, _, h => absurd ((h b).mpr List.mem_cons_self) List.not_mem_nil
  | a :: _, [], _, _, h => absurd ((h a).mp List.mem_cons_self) List.not_mem_nil
  | x :: a, y :: b, ha, hb, h => by
    rw [List.pairwise_cons] at ha hb
    have e : x = y := by
      rcases List.mem_cons.mp ((h x).mp List.mem_cons_self) with e | e
      · exact e
      · rcases List.mem_cons.mp ((h y).mpr List.mem_cons_self) with k | k
        · exact k.symm
        · exact absurd (ltN_tr (ha.1 _ k) (hb.1 _ e)) (ltN_irr _)
    subst e
    refine congrArg _ (pair_eq ha.2 hb.2 fun m => ⟨fun hm => ?_, fun hm => ?_⟩)
    · rcases List.mem_cons.mp ((h m).mp (List.mem_cons_of_mem _ hm)) with e | e
      · exact absurd (e ▸ ha.1 _ hm) (ltN_irr _)
      · exact e
    · rcases List.mem_cons.mp ((h m).mpr (List.mem_cons_of_mem _ hm)) with e | e
      · exact absurd (e ▸ hb.1 _ hm) (ltN_irr _)
      · exact e
theorem sort_ord {h : Hist} {ord : List Nm} (ho : OrdOk h ord) : nSort ord = namesH h := by
  have pm := List.mergeSort_perm ord leN
  have nd : (nSort ord).Nodup := pm.nodup_iff.mpr ho.nd
  refine pair_eq ?_ (names_pair h) fun m => n_mem.trans (ho.mem m)
  refine ((n_pair ord).and nd).imp fun {a b} z => ?_
  obtain ⟨z1, z2⟩ := z
  rw [Bool.not_eq_true', decide_eq_false_iff_not] at z1
  rcases ltN_tri a b with q | q | q
  · exact q
  · exact absurd q z2
  · exact absurd q z1
theorem py_name (m : Nm) : (nameD m).py = .tuple [.int (m.1 : Nat), .int (m.2 : Nat)] := by
  unfold nameD; simp [D.py, pys]
theorem alike_name (a b : Nm) : PySem.W.alike (nameD a).py (nameD b).py = true := by
  rw [py_name, py_name]; simp [PySem.W.alike, PySem.W.alikeAll]
theorem names_sortable (l : List Nm) : (∀ x ∈ l.map nameD, D.good 60 x = true) ∧ PySem.W.AllAlike ((l.map nameD).map D.py) ∧ PySem.W.Sortable ((l.map nameD).map D.py) := by
  refine ⟨fun x hx => ?_, ?_, ?_⟩
  · obtain ⟨m, _, rfl⟩ := List.mem_map.mp hx; rfl
  · rw [List.map_map]; exact PySem.W.AllAlike.of fun a b => alike_name a b
  · rw [List.map_map]; exact PySem.W.Sortable.tuples fun a => ⟨_, _, py_name a⟩
theorem eqv_names : ∀ a b : List Nm, PyData.eqvAll (pys (a.map nameD)) (pys (b.map nameD)) = decide (a = b)
  | [], [] => by simp [pys, PyData.eqvAll]
  | [], _ :: _ => by simp [pys, PyData.eqvAll]
  | _ :: _, [] => by simp [pys, PyData.eqvAll]
  | x :: a, y :: b => by
    show PyData.eqvAll ((nameD x).py :: pys (a.map nameD)) ((nameD y).py :: pys (b.map nameD)) = _
    rw [PyData.eqvAll, eqv_names a b]
    have : PyData.eqv (nameD x).py (nameD y).py = decide (x = y) := eq_nameN x y
    rw [this, Bool.eq_iff_iff, Bool.and_eq_true, decide_eq_true_eq, decide_eq_true_eq, decide_eq_true_eq, List.cons.injEq]
theorem dEq_names {a b : List Nm} {Q : D → Prop} (h : Q (.bl (decide (a = b)))) : dEq (.tup (a.map nameD)) (.tup (b.map nameD)) Q := by
  have key : dEqN (.tup (a.map nameD)) (.tup (b.map nameD)) Q := by
    refine ⟨?_, ?_, ?_⟩
    · show goods 63 (a.map nameD) = true; exact goods_names 61 a
    · show goods 63 (b.map nameD) = true; exact goods_names 61 b
    · have : eqD (.tup (a.map nameD)) (.tup (b.map nameD)) = decide (a = b) := by
        unfold eqD
        rw [D.py, D.py, PyData.eqv]
        exact eqv_names a b
      rw [this]; exact h
  unfold dEq; exact key
theorem py_pair (p : Nm × Nm) : (pairD p).py = .tuple [(nameD p.1).py, (nameD p.2).py] := by
  unfold pairD; simp [D.py, pys]
theorem lt_pair (p q : Nm × Nm) : PySem.W.dataLt (pairD p).py (pairD q).py = decide (ltP p q) := by
  rw [py_pair, py_pair, PySem.W.dataLt_pair (alike_name _ _) (alike_name _ _), lt_data, lt_data]
  have e1 : PyData.eqv (nameD p.1).py (nameD q.1).py = decide (p.1 = q.1) := eq_nameN _ _
  have e2 : PyData.eqv (nameD p.2).py (nameD q.2).py = decide (p.2 = q.2) := eq_nameN _ _
  rw [e1, e2]
  unfold ltP
  by_cases h1 : p.1 = q.1
  · have n1 : ¬ ltN p.1 q.1 := fun z => by rw [h1] at z; exact ltN_irr _ z
    by_cases h2 : p.2 = q.2
    · have n2 : ¬ ltN p.2 q.2 := fun z => by rw [h2] at z; exact ltN_irr _ z
      simp [h1, h2, ltN_irr]
    · simp [h1, h2, ltN_irr]
  · simp [h1]
theorem alike_pair (p q : Nm × Nm) : PySem.W.alike (pairD p).py (pairD q).py = true := by
  rw [py_pair, py_pair]; simp [PySem.W.alike, PySem.W.alikeAll, alike_name]
theorem min_fold : ∀ (l : List (Nm × Nm)) (x : Nm × Nm), ∃ m, m ∈ x :: l ∧ PySem.W.minD (pairD x).py ((l.map pairD).map D.py) = (pairD m).py ∧ ∀ q ∈ x :: l, ¬ ltP q m
  | [], x => ⟨x, List.mem_cons_self, rfl, fun q hq z => by
      rw [List.mem_singleton] at hq; subst hq
      rcases z with z | ⟨_, z⟩ <;> exact ltN_irr _ z⟩
  | y :: l, x => by
    by_cases h : ltP y x
    · obtain ⟨m, h1, h2, h3⟩ := min_fold l y
      refine ⟨m, List.mem_cons_of_mem _ h1, ?_, fun q hq => ?_⟩
      · show PySem.W.minD (if PySem.W.dataLt (pairD y).py (pairD x).py then (pairD y).py else (pairD x).py) _ = _
        rw [lt_pair, decide_eq_true h, if_pos rfl]; exact h2
      · rcases List.mem_cons.mp hq with rfl | hq
        · intro z
          rcases ltP_tri m y with k | k | k
          · exact h3 y List.mem_cons_self |> fun g => by
              have := ltP_tr h z
              exact g this
          · subst k; exact ltP_irr _ (ltP_tr z h)
          · exact h3 y List.mem_cons_self k
        · exact h3 q hq
    · obtain ⟨m, h1, h2, h3⟩ := min_fold l x
      refine ⟨m, ?_, ?_, fun q hq => ?_⟩
      · rcases List.mem_cons.mp h1 with rfl | h1
        · exact List.mem_cons_self
        · exact List.mem_cons_of_mem _ (List.mem_cons_of_mem _ h1)
      · show PySem.W.minD (if PySem.W.dataLt (pairD y).py (pairD x).py then (pairD y).py else (pairD x).py) _ = _
        rw [lt_pair, decide_eq_false h, if_neg Bool.false_ne_true]; exact h2
      · rcases List.mem_cons.mp hq with rfl | hq
        · exact h3 _ List.mem_cons_self
        · rcases List.mem_cons.mp hq with rfl | hq
          · intro z
            rcases ltP_tri x q with k | k | k
            · exact h3 x List.mem_cons_self (ltP_tr k z)
            · subst k; exact h3 _ List.mem_cons_self z
            · exact h k
          · exact h3 q (List.mem_cons_of_mem _ hq)
theorem goods_pairs (n : Nat) : ∀ l : List (Nm × Nm), goods (n + 3) (l.map pairD) = true
  | [] => rfl
  | m :: l => by
    show (D.good (n + 3) (pairD m) && goods (n + 3) (l.map pairD)) = true
    rw [goods_pairs n l]; rfl
/-- min(pairs) -/
theorem picked_least {h : Hist} {ord : List Nm} {l : List (Nm × Nm)} (hl : ∀ p, p ∈ l ↔ Turned h ord p) {P : D → Prop} (hP : ∀ p, LeastT h ord p → P (pairD p)) : Picked PySem.W.minD (l.map pairD) P := by
  refine ⟨goods_pairs 57 l, ⟨fun x hx y hy => ?_, fun x hx => ?_⟩, fun y ys e d hd ed => ?_⟩
  · rw [List.map_map] at hx hy
    obtain ⟨p, _, rfl⟩ := List.mem_map.mp hx
    obtain ⟨q, _, rfl⟩ := List.mem_map.mp hy
    exact alike_pair p q
  · rw [List.map_map] at hx
    obtain ⟨p, _, rfl⟩ := List.mem_map.mp hx
    show (pairD p).py ≠ _
    rw [py_pair]; exact fun z => nomatch z
  · cases l with
    | nil => cases e
    | cons x r =>
      rw [List.map_cons] at e
      injection e with e1 e2
      subst e1 e2
      obtain ⟨m, m1, m2, m3⟩ := min_fold r x
      rw [m2] at ed
      obtain ⟨p, hp, rfl⟩ := List.mem_map.mp hd
      have : p = m := by
        rcases ltP_tri p m with k | k | k
        · have := lt_pair p m
          rw [ed, decide_eq_true k, lt_pair] at this
          exact absurd (of_decide_eq_true this) (ltP_irr _)
        · exact k
        · have := lt_pair m p
          rw [ed, decide_eq_true k, lt_pair] at this
          exact absurd (of_decide_eq_true this) (ltP_irr _)
      subst this
      exact hP p ⟨(hl p).mp hp, fun q hq => m3 q ((hl q).mpr hq)⟩
end LV
namespace LV
open PySem PySem.Spec L2 G TL C
theorem nxg {F : EndsD → G.Env → Wd → Prop} {De : EndsD} {rt : D → Wd → Prop} {bk ct : KS} {ex : KX} {W : Wd} (ρ : G.Env) (h : F De ρ W) : EndsD.nx ⟨F De, rt, bk, ct, ex⟩ ρ W := h
theorem dLc_filtG {α : Type} {fi : TID} {gd : TGD} {ft : TB} {fe : TD} {vs : List Nat} {ρ : G.Env} {W : Wd} {Q : KL} {Qx : KX} (xs : List α) (f g : α → D) (p : α → Bool) (ρo : α → G.Env) (hno : noOwn ρ vs) (hl : xs.length ≤ sizeLine) (hi : ∀ P : KL, P (xs.map f) ρ W → fi ρ W P Qx)
    (hg : ∀ x ∈ xs, ∀ P : KS, P (ρo x) W → gd (f x) (wipeD ρ vs) W P)
    (ht : ∀ x ∈ xs, ∀ P : KB, P (p x) (ρo x) W → ft (ρo x) W P noX)
    (he : ∀ x ∈ xs, p x = true → ∀ P : KD, P (g x) (ρo x) W → fe (ρo x) W P noX) (hq : Q ((xs.filter p).map g) ρ W) : dLc fi gd ft fe vs ρ W Q Qx := by
  refine dLc_inv (xs.map f) W (fun j acc W' => W' = W ∧ acc = ((xs.take j).filter p).map g) hno (by rw [List.length_map]; exact hl) hi ⟨rfl, by simp⟩ (fun j d acc W' hj _ hI => ?_) (fun acc W' _ hI => ?_)
  · obtain ⟨rfl, rfl⟩ := hI
    rw [List.getElem?_map] at hj
    cases hx : xs[j]? with
    | none => rw [hx] at hj; cases hj
    | some x =>
      rw [hx] at hj; cases hj
      have hm := List.mem_of_getElem? hx
      refine hg x hm _ (ht x hm _ ⟨rfl, ?_⟩)
      cases hp : p x with
      | true =>
        rw [if_pos rfl]
        refine he x hm hp _ ⟨rfl, rfl, ?_⟩
        rw [List.take_add_one, hx]
        simp [hp]
      | false =>
        rw [if_neg Bool.false_ne_true]
        refine ⟨rfl, ?_⟩
        rw [List.take_add_one, hx]
        simp [hp]
  · obtain ⟨rfl, rfl⟩ := hI
    rw [List.length_map, List.take_length]
    exact hq
/-- {k: True for k in names} -/
theorem dNDc_set {fi : TID} {i : Nat} {fk fv : TD} {ρ : G.Env} {W : Wd} {Q : List (D × D) → G.Env → Wd → Prop} {Qx : KX} (xs : List Nm) (hno : noOwn ρ [i]) (hl : xs.length ≤ sizeLine) (hi : ∀ P : KL, P (xs.map nameD) ρ W → fi ρ W P Qx)
    (hk : ∀ x ∈ xs, ∀ P : KD, P (nameD x) ((ρ.set i none).set i (some (.sh (nameD x)))) W → fk ((ρ.set i none).set i (some (.sh (nameD x)))) W P noXX)
    (hv : ∀ x ∈ xs, ∀ P : KD, P (.bl true) ((ρ.set i none).set i (some (.sh (nameD x)))) W → fv ((ρ.set i none).set i (some (.sh (nameD x)))) W P noXX)
    (hq : ∀ l : List Nm, l.Nodup → (∀ m, m ∈ l ↔ m ∈ xs) → Q (l.map fun m => (nameD m, D.bl true)) ρ W) : dNDc fi (gdName i) dYes fk fv [i] ρ W Q Qx := by
  unfold dNDc
  refine ⟨hno, hi _ ⟨rfl, by rw [List.length_map]; exact hl, fun j acc W' => W' = W ∧ ∃ l : List Nm, acc = (l.map fun m => (nameD m, D.bl true)) ∧ l.Nodup ∧ ∀ m, m ∈ l ↔ m ∈ xs.take j, ⟨rfl, [], rfl, List.nodup_nil, by simp⟩, fun j d acc W' hj _ hI => ?_, fun acc W' _ hI => ?_⟩⟩
  · obtain ⟨rfl, l, rfl, nd, hm⟩ := hI
    rw [List.getElem?_map] at hj
    obtain ⟨x, hx, rfl⟩ := Option.map_eq_some_iff.mp hj
    have hmem := List.mem_of_getElem? hx
    have et : xs.take (j + 1) = xs.take j ++ [x] := by rw [List.take_add_one, hx]; rfl
    refine ⟨rfl, ite_t (hk x hmem _ ⟨rfl, rfl, hv x hmem _ ⟨rfl, fun k z e => ?_, fun hn => ?_⟩⟩)⟩
    · rw [List.getElem?_map] at e
      obtain ⟨y, hy, e2⟩ := Option.map_eq_some_iff.mp e
      injection e2 with e3 e4
      have e3 := nameD_inj e3
      subst e3
      refine ⟨rfl, l, ?_, nd, fun m => ?_⟩
      · refine List.ext_getElem? fun t => ?_
        rw [List.getElem?_set]
        split
        · rename_i ek; subst ek
          rw [if_pos (by rw [List.length_map]; exact (List.getElem?_eq_some_iff.mp hy).1), List.getElem?_map, hy]; rfl
        · rfl
      · rw [et, List.mem_append, List.mem_singleton, hm]
        exact ⟨.inl, fun z => z.elim id fun z => z ▸ (hm _).mp (List.mem_of_getElem? hy)⟩
    · have hx2 : x ∉ l := fun hx2 => hn _ (List.mem_map.mpr ⟨x, hx2, rfl⟩) rfl
      refine ⟨rfl, l ++ [x], by rw [List.map_append]; rfl, ?_, fun m => ?_⟩
      · rw [List.nodup_append]
        exact ⟨nd, by simp, fun a ha b hb => by rw [List.mem_singleton] at hb; subst hb; exact fun e => hx2 (e ▸ ha)⟩
      · rw [et, List.mem_append, List.mem_append, hm]
  · obtain ⟨rfl, l, rfl, nd, hm⟩ := hI
    rw [List.length_map, List.take_length] at hm
    exact hq l nd hm
/-- a table's new row -/
theorem upd_map (g : List Nm → D) (pl : Nm → List Nm) (l : List Nm) {ns : List Nm} {n : Nm} (hn : n ∉ ns) : ((ns ++ [n]).map fun m => (nameD m, g ((fun x => if x = n then l else pl x) m))) = (ns.map fun m => (nameD m, g (pl m))) ++ [(nameD n, g l)] := by
  rw [List.map_append]
  congr 1
  · refine List.map_congr_left fun x hx => ?_
    have : (fun x => if x = n then l else pl x) x = pl x := if_neg fun e : x = n => hn (by rw [← e]; exact hx)
    rw [this]
  · simp
theorem name_few {h : Hist} (hg : Good h) {n : Nm} (hn : n ∈ namesH h) : n.1 < 12 ∧ n.2 < 24 := by
  obtain ⟨t, ht⟩ := names_iff.mp hn
  obtain ⟨s, i⟩ := n
  obtain ⟨ses, e1, e2⟩ := txAt_get.mp ht
  have l1 := (List.getElem?_eq_some_iff.mp e1).1
  have l2 := (List.getElem?_eq_some_iff.mp e2).1
  have := hg.few _ (List.mem_of_getElem? e1)
  have := hg.ok.len
  exact ⟨Nat.lt_of_lt_of_le l1 this, by simp only; omega⟩
/-- the names ahead of n in its session -/
def aheadN (n : Nm) : List Nm := (List.range n.2).map fun i => (n.1, i)
theorem ahead_mem {n m : Nm} : m ∈ aheadN n ↔ m.1 = n.1 ∧ m.2 < n.2 := by
  unfold aheadN
  rw [List.mem_map]
  constructor
  · rintro ⟨i, hi, rfl⟩
    exact ⟨rfl, List.mem_range.mp hi⟩
  · rintro ⟨e, l⟩
    exact ⟨m.2, List.mem_range.mpr l, Prod.ext e.symm rfl⟩
theorem src_iff {h : Hist} {n m : Nm} {t : Tx} (ht : txAt h n = some t) : Src h n m ↔ m ∈ t.rs.filterMap (·.2) := by
  unfold Src
  rw [List.mem_filterMap]
  constructor
  · rintro ⟨t', e, k, hk⟩
    rw [ht] at e; cases e
    exact ⟨_, hk, rfl⟩
  · rintro ⟨⟨k, s⟩, hk, e⟩
    simp only at e
    subst e
    exact ⟨t, ht, k, hk⟩
theorem srcs_map : ∀ rs : List (List Nat × Option Nm), (rs.filter fun r => r.2.isSome).map (fun r => srcD r.2) = (rs.filterMap (·.2)).map nameD
  | [] => rfl
  | (k, none) :: r => by
    show ((r.filter fun r => r.2.isSome).map fun r => srcD r.2) = _
    rw [srcs_map r]; rfl
  | (k, some s) :: r => by
    show srcD (some s) :: ((r.filter fun r => r.2.isSome).map fun r => srcD r.2) = _
    rw [srcs_map r]; rfl
theorem cut_lo (ds : List D) (k : Nat) : cutD ds none (some (k : Int)) = ds.take k := by
  unfold cutD
  rw [HT.sIx_none, HT.sIx_nat, List.drop_zero, Nat.sub_zero]
  by_cases h : k ≤ ds.length
  · rw [Nat.min_eq_left h]
  · rw [Nat.min_eq_right (by omega), List.take_of_length_le (Nat.le_refl _), List.take_of_length_le (by omega)]
theorem fold_max : ∀ (l : List Int) (a : Int), a ≤ l.foldl max a ∧ ∀ x ∈ l, x ≤ l.foldl max a
  | [], a => ⟨Int.le_refl _, fun x hx => absurd hx List.not_mem_nil⟩
  | y :: l, a => by
    obtain ⟨h1, h2⟩ := fold_max l (max a y)
    show a ≤ l.foldl max (max a y) ∧ ∀ x ∈ y :: l, x ≤ l.foldl max (max a y)
    refine ⟨by omega, fun x hx => ?_⟩
    rcases List.mem_cons.mp hx with rfl | hx
    · omega
    · exact h2 x hx
theorem goods_int (n : Nat) : ∀ L : List Nat, goods (n + 1) (L.map fun j => D.int (j : Nat)) = true
  | [] => rfl
  | m :: l => by
    show (D.good (n + 1) (.int (m : Nat)) && goods (n + 1) (l.map fun j => D.int (j : Nat))) = true
    rw [goods_int n l]; rfl
theorem picked_max {L : List Nat} {P : D → Prop} (hP : ∀ v : Nat, v ∈ L → (∀ w ∈ L, w ≤ v) → P (.int (v : Nat))) : Picked PySem.W.maxD (L.map fun j => .int (j : Nat)) P := by
  refine ⟨goods_int 59 L, ⟨fun x hx y hy => ?_, fun x hx => ?_⟩, fun y ys e d hd ed => ?_⟩
  · rw [List.map_map] at hx hy
    obtain ⟨p, _, rfl⟩ := List.mem_map.mp hx
    obtain ⟨q, _, rfl⟩ := List.mem_map.mp hy
    rfl
  · rw [List.map_map] at hx
    obtain ⟨p, _, rfl⟩ := List.mem_map.mp hx
    exact fun z => nomatch z
  · cases L with
    | nil => cases e
    | cons a r =>
      rw [List.map_cons] at e
      injection e with e1 e2
      subst e1 e2
      obtain ⟨v, hv, rfl⟩ := List.mem_map.mp hd
      have em : (r.map fun j => D.int (j : Nat)).map D.py = (r.map fun (j : Nat) => (j : Int)).map PyData.int := by rw [List.map_map, List.map_map]; rfl
      have ea : (D.int (a : Nat)).py = PyData.int (a : Nat) := rfl
      rw [em, ea, PySem.W.maxD_ints] at ed
      have ev : (v : Int) = (r.map fun (j : Nat) => (j : Int)).foldl max (a : Int) := by
        have : PyData.int (v : Nat) = PyData.int ((r.map fun (j : Nat) => (j : Int)).foldl max (a : Int)) := ed
        injection this
      obtain ⟨m1, m2⟩ := fold_max (r.map fun (j : Nat) => (j : Int)) (a : Int)
      refine hP v hv fun w hw => ?_
      rcases List.mem_cons.mp hw with rfl | hw
      · omega
      · have := m2 (w : Int) (List.mem_map.mpr ⟨w, hw, rfl⟩)
        omega
end LV
namespace K54
open PySem PySem.Spec L2 G TL C LV
def top (i : Nat) : Stmt := PySem.Challenge.pw_heldlevels_k54_faults_of_orders.main.body.getD i (.Pass ⟨0, 0, 0, 0⟩)
abbrev s_is_integer : Stmt := top 5
abbrev n_is_integer : List Str := ["value"]
theorem sc_is_integer : FnScope n_is_integer ["value"] (defScope s_is_integer) := ⟨rfl, rfl, rfl, by decide +kernel, rfl, by decide +kernel, by decide +kernel⟩
abbrev s_is_from : Stmt := top 6
abbrev n_is_from : List Str := ["least", "value"]
theorem sc_is_from : FnScope n_is_from ["least", "value"] (defScope s_is_from) := ⟨rfl, rfl, rfl, by decide +kernel, rfl, by decide +kernel, by decide +kernel⟩
abbrev s_is_tuple_of : Stmt := top 7
abbrev n_is_tuple_of : List Str := ["length", "value"]
theorem sc_is_tuple_of : FnScope n_is_tuple_of ["length", "value"] (defScope s_is_tuple_of) := ⟨rfl, rfl, rfl, by decide +kernel, rfl, by decide +kernel, by decide +kernel⟩
abbrev s_is_text : Stmt := top 8
abbrev n_is_text : List Str := ["value", "sign"]
theorem sc_is_text : FnScope n_is_text ["value"] (defScope s_is_text) := ⟨rfl, rfl, rfl, by decide +kernel, rfl, by decide +kernel, by decide +kernel⟩
abbrev s_is_level : Stmt := top 14
abbrev n_is_level : List Str := ["value"]
theorem sc_is_level : FnScope n_is_level ["value"] (defScope s_is_level) := ⟨rfl, rfl, rfl, by decide +kernel, rfl, by decide +kernel, by decide +kernel⟩
abbrev s_level_rank : Stmt := top 15
abbrev n_level_rank : List Str := ["level"]
theorem sc_level_rank : FnScope n_level_rank ["level"] (defScope s_level_rank) := ⟨rfl, rfl, rfl, by decide +kernel, rfl, by decide +kernel, by decide +kernel⟩
abbrev s_is_name_form : Stmt := top 16
abbrev n_is_name_form : List Str := ["value", "number"]
theorem sc_is_name_form : FnScope n_is_name_form ["value"] (defScope s_is_name_form) := ⟨rfl, rfl, rfl, by decide +kernel, rfl, by decide +kernel, by decide +kernel⟩
abbrev s_is_read_form : Stmt := top 17
abbrev n_is_read_form : List Str := ["value"]
theorem sc_is_read_form : FnScope n_is_read_form ["value"] (defScope s_is_read_form) := ⟨rfl, rfl, rfl, by decide +kernel, rfl, by decide +kernel, by decide +kernel⟩
abbrev s_are_keys : Stmt := top 18
abbrev n_are_keys : List Str := ["value", "key", "at"]
theorem sc_are_keys : FnScope n_are_keys ["value"] (defScope s_are_keys) := ⟨rfl, rfl, rfl, by decide +kernel, rfl, by decide +kernel, by decide +kernel⟩
abbrev s_transaction_fault : Stmt := top 19
abbrev n_transaction_fault : List Str := ["value", "level", "reads", "writes", "k", "read"]
theorem sc_transaction_fault : FnScope n_transaction_fault ["value"] (defScope s_transaction_fault) := ⟨rfl, rfl, rfl, by decide +kernel, rfl, by decide +kernel, by decide +kernel⟩
abbrev s_form_fault : Stmt := top 20
abbrev n_form_fault : List Str := ["value", "number", "session", "index", "transaction", "fault"]
theorem sc_form_fault : FnScope n_form_fault ["value"] (defScope s_form_fault) := ⟨rfl, rfl, rfl, by decide +kernel, rfl, by decide +kernel, by decide +kernel⟩
abbrev s_names_of : Stmt := top 21
abbrev n_names_of : List Str := ["history", "number", "session", "index"]
theorem sc_names_of : FnScope n_names_of ["history"] (defScope s_names_of) := ⟨rfl, rfl, rfl, by decide +kernel, rfl, by decide +kernel, by decide +kernel⟩
abbrev s_transaction_of : Stmt := top 22
abbrev n_transaction_of : List Str := ["history", "name"]
theorem sc_transaction_of : FnScope n_transaction_of ["history", "name"] (defScope s_transaction_of) := ⟨rfl, rfl, rfl, by decide +kernel, rfl, by decide +kernel, by decide +kernel⟩
abbrev s_transaction_at : Stmt := top 23
abbrev n_transaction_at : List Str := ["history", "name"]
theorem sc_transaction_at : FnScope n_transaction_at ["history", "name"] (defScope s_transaction_at) := ⟨rfl, rfl, rfl, by decide +kernel, rfl, by decide +kernel, by decide +kernel⟩
abbrev s_source_fault : Stmt := top 24
abbrev n_source_fault : List Str := ["history", "name", "k", "key", "source", "writer"]
theorem sc_source_fault : FnScope n_source_fault ["history"] (defScope s_source_fault) := ⟨rfl, rfl, rfl, by decide +kernel, rfl, by decide +kernel, by decide +kernel⟩
abbrev s_history_fault : Stmt := top 25
abbrev n_history_fault : List Str := ["value", "fault"]
theorem sc_history_fault : FnScope n_history_fault ["value"] (defScope s_history_fault) := ⟨rfl, rfl, rfl, by decide +kernel, rfl, by decide +kernel, by decide +kernel⟩
abbrev s_check_history : Stmt := top 26
abbrev n_check_history : List Str := ["history", "fault"]
theorem sc_check_history : FnScope n_check_history ["history"] (defScope s_check_history) := ⟨rfl, rfl, rfl, by decide +kernel, rfl, by decide +kernel, by decide +kernel⟩
abbrev s_writers_of : Stmt := top 27
abbrev n_writers_of : List Str := ["history", "key", "name"]
theorem sc_writers_of : FnScope n_writers_of ["history", "key"] (defScope s_writers_of) := ⟨rfl, rfl, rfl, by decide +kernel, rfl, by decide +kernel, by decide +kernel⟩
abbrev s_sources_of : Stmt := top 28
abbrev n_sources_of : List Str := ["history", "name", "key", "source"]
theorem sc_sources_of : FnScope n_sources_of ["history", "name"] (defScope s_sources_of) := ⟨rfl, rfl, rfl, by decide +kernel, rfl, by decide +kernel, by decide +kernel⟩
abbrev s_predecessors : Stmt := top 29
abbrev n_predecessors : List Str := ["history", "found", "name", "earlier", "index", "other"]
theorem sc_predecessors : FnScope n_predecessors ["history"] (defScope s_predecessors) := ⟨rfl, rfl, rfl, by decide +kernel, rfl, by decide +kernel, by decide +kernel⟩
abbrev s_closure_of : Stmt := top 30
abbrev n_closure_of : List Str := ["before", "name", "found", "waiting", "other"]
theorem sc_closure_of : FnScope n_closure_of ["before", "name"] (defScope s_closure_of) := ⟨rfl, rfl, rfl, by decide +kernel, rfl, by decide +kernel, by decide +kernel⟩
abbrev s_named_before : Stmt := top 33
abbrev n_named_before : List Str := ["history", "before", "name", "k", "level", "reads", "writes", "key", "source"]
theorem sc_named_before : FnScope n_named_before ["history", "before", "name", "k"] (defScope s_named_before) := ⟨rfl, rfl, rfl, by decide +kernel, rfl, by decide +kernel, by decide +kernel⟩
abbrev s_shares_write : Stmt := top 34
abbrev n_shares_write : List Str := ["history", "one", "other", "keys", "key"]
theorem sc_shares_write : FnScope n_shares_write ["history", "one", "other"] (defScope s_shares_write) := ⟨rfl, rfl, rfl, by decide +kernel, rfl, by decide +kernel, by decide +kernel⟩
abbrev s_last_seen : Stmt := top 35
abbrev n_last_seen : List Str := ["history", "before", "places", "name", "level", "found", "other"]
theorem sc_last_seen : FnScope n_last_seen ["history", "before", "places", "name"] (defScope s_last_seen) := ⟨rfl, rfl, rfl, by decide +kernel, rfl, by decide +kernel, by decide +kernel⟩
abbrev s_seen_writers : Stmt := top 36
abbrev n_seen_writers : List Str := ["history", "before", "places", "name", "k", "level", "reads", "writes", "key", "source", "others", "seen", "last", "other"]
theorem sc_seen_writers : FnScope n_seen_writers ["history", "before", "places", "name", "k"] (defScope s_seen_writers) := ⟨rfl, rfl, rfl, by decide +kernel, rfl, by decide +kernel, by decide +kernel⟩
abbrev s_is_order : Stmt := top 37
abbrev n_is_order : List Str := ["history", "value", "name"]
theorem sc_is_order : FnScope n_is_order ["history", "value"] (defScope s_is_order) := ⟨rfl, rfl, rfl, by decide +kernel, rfl, by decide +kernel, by decide +kernel⟩
abbrev s_first_turned : Stmt := top 38
abbrev n_first_turned : List Str := ["before", "places", "pairs", "other", "one"]
theorem sc_first_turned : FnScope n_first_turned ["before", "places"] (defScope s_first_turned) := ⟨rfl, rfl, rfl, by decide +kernel, rfl, by decide +kernel, by decide +kernel⟩
abbrev s_first_unseen : Stmt := top 39
abbrev n_first_unseen : List Str := ["history", "before", "places", "name", "k", "key", "source", "other"]
theorem sc_first_unseen : FnScope n_first_unseen ["history", "before", "places"] (defScope s_first_unseen) := ⟨rfl, rfl, rfl, by decide +kernel, rfl, by decide +kernel, by decide +kernel⟩
abbrev s_order_fault : Stmt := top 40
abbrev n_order_fault : List Str := ["history", "value", "before", "places", "pair", "unseen", "at", "name"]
theorem sc_order_fault : FnScope n_order_fault ["history", "value"] (defScope s_order_fault) := ⟨rfl, rfl, rfl, by decide +kernel, rfl, by decide +kernel, by decide +kernel⟩
abbrev s_law_begin : Stmt := top 42
abbrev n_law_begin : List Str := ["script", "greats", "seed", "cell"]
theorem sc_law_begin : FnScope n_law_begin ["script"] (defScope s_law_begin) := ⟨rfl, rfl, rfl, by decide +kernel, rfl, by decide +kernel, by decide +kernel⟩
abbrev s_law_draw : Stmt := top 43
abbrev n_law_draw : List Str := ["state", "many", "greats", "rest", "mixed"]
theorem sc_law_draw : FnScope n_law_draw ["state", "many"] (defScope s_law_draw) := ⟨rfl, rfl, rfl, by decide +kernel, rfl, by decide +kernel, by decide +kernel⟩
abbrev s_law_same : Stmt := top 44
abbrev n_law_same : List Str := ["actual", "due", "one", "other"]
theorem sc_law_same : FnScope n_law_same ["actual", "due"] (defScope s_law_same) := ⟨rfl, rfl, rfl, by decide +kernel, rfl, by decide +kernel, by decide +kernel⟩
abbrev s_law_keys : Stmt := top 45
abbrev n_law_keys : List Str := ["state", "many", "signs", "plain", "keys", "k", "text", "j"]
theorem sc_law_keys : FnScope n_law_keys ["state", "many"] (defScope s_law_keys) := ⟨rfl, rfl, rfl, by decide +kernel, rfl, by decide +kernel, by decide +kernel⟩
abbrev s_law_parts : Stmt := top 46
abbrev n_law_parts : List Str := ["state", "listed", "keys", "reads", "writes", "name", "parts", "found", "k", "key", "sources", "level", "other"]
theorem sc_law_parts : FnScope n_law_parts ["state", "listed", "keys", "reads"] (defScope s_law_parts) := ⟨rfl, rfl, rfl, by decide +kernel, rfl, by decide +kernel, by decide +kernel⟩
abbrev s_law_history : Stmt := top 47
abbrev n_law_history : List Str := ["state", "most", "sessions", "keys", "reads", "owners", "sizes", "listed", "s", "i", "parts", "k"]
theorem sc_law_history : FnScope n_law_history ["state", "most", "sessions", "keys", "reads"] (defScope s_law_history) := ⟨rfl, rfl, rfl, by decide +kernel, rfl, by decide +kernel, by decide +kernel⟩
abbrev bs_law_history_3 : PySem.Scope := { kind := PySem.ScopeKind.function, names := [ (PySem.Str.ofString ".0", PySem.NameKind.local), (PySem.Str.ofString "s", PySem.NameKind.cell), (PySem.Str.ofString "tuple", PySem.NameKind.globalImplicit), (PySem.Str.ofString "range", PySem.NameKind.globalImplicit), (PySem.Str.ofString "parts", PySem.NameKind.cell), (PySem.Str.ofString "sizes", PySem.NameKind.cell)], isGenerator := false, isCoroutine := false, more := [] : PySem.Scope }
abbrev s_law_names : Stmt := top 48
abbrev n_law_names : List Str := ["history", "listed", "s", "i"]
theorem sc_law_names : FnScope n_law_names ["history"] (defScope s_law_names) := ⟨rfl, rfl, rfl, by decide +kernel, rfl, by decide +kernel, by decide +kernel⟩
abbrev s_law_before : Stmt := top 49
abbrev n_law_before : List Str := ["history", "before", "name", "found", "key", "source", "i"]
theorem sc_law_before : FnScope n_law_before ["history"] (defScope s_law_before) := ⟨rfl, rfl, rfl, by decide +kernel, rfl, by decide +kernel, by decide +kernel⟩
abbrev s_law_closure : Stmt := top 50
abbrev n_law_closure : List Str := ["before", "name", "found", "k", "other", "one"]
theorem sc_law_closure : FnScope n_law_closure ["before", "name"] (defScope s_law_closure) := ⟨rfl, rfl, rfl, by decide +kernel, rfl, by decide +kernel, by decide +kernel⟩
abbrev s_law_shares : Stmt := top 51
abbrev n_law_shares : List Str := ["history", "one", "other", "keys", "key"]
theorem sc_law_shares : FnScope n_law_shares ["history", "one", "other"] (defScope s_law_shares) := ⟨rfl, rfl, rfl, by decide +kernel, rfl, by decide +kernel, by decide +kernel⟩
abbrev s_law_must_see : Stmt := top 52
abbrev n_law_must_see : List Str := ["history", "before", "closures", "places", "t3", "k", "t2", "level", "reads", "writes", "key", "source", "t4", "seen", "other", "one"]
theorem sc_law_must_see : FnScope n_law_must_see ["history", "before", "closures", "places", "t3", "k", "t2"] (defScope s_law_must_see) := ⟨rfl, rfl, rfl, by decide +kernel, rfl, by decide +kernel, by decide +kernel⟩
abbrev s_law_due : Stmt := top 53
abbrev n_law_due : List Str := ["history", "before", "closures", "order", "places", "at", "turned", "other", "one", "t3", "reads", "k", "source", "t2"]
theorem sc_law_due : FnScope n_law_due ["history", "before", "closures", "order"] (defScope s_law_due) := ⟨rfl, rfl, rfl, by decide +kernel, rfl, by decide +kernel, by decide +kernel⟩
abbrev s_law_all_orders : Stmt := top 54
abbrev n_law_all_orders : List Str := ["listed", "orders", "k", "longer", "order", "name"]
theorem sc_law_all_orders : FnScope n_law_all_orders ["listed"] (defScope s_law_all_orders) := ⟨rfl, rfl, rfl, by decide +kernel, rfl, by decide +kernel, by decide +kernel⟩
abbrev s_law_drawn_order : Stmt := top 55
abbrev n_law_drawn_order : List Str := ["state", "before", "keeping", "left", "order", "free", "name", "other", "one"]
theorem sc_law_drawn_order : FnScope n_law_drawn_order ["state", "before", "keeping"] (defScope s_law_drawn_order) := ⟨rfl, rfl, rfl, by decide +kernel, rfl, by decide +kernel, by decide +kernel⟩
abbrev bs_law_drawn_order_1 : PySem.Scope := { kind := PySem.ScopeKind.function, names := [ (PySem.Str.ofString ".0", PySem.NameKind.local), (PySem.Str.ofString "name", PySem.NameKind.local), (PySem.Str.ofString "all", PySem.NameKind.globalImplicit), (PySem.Str.ofString "before", PySem.NameKind.cell), (PySem.Str.ofString "left", PySem.NameKind.cell)], isGenerator := false, isCoroutine := false, more := [] : PySem.Scope }
abbrev s_law_not_orders : Stmt := top 56
abbrev n_law_not_orders : List Str := ["state", "listed", "name", "rows", "other"]
theorem sc_law_not_orders : FnScope n_law_not_orders ["state", "listed"] (defScope s_law_not_orders) := ⟨rfl, rfl, rfl, by decide +kernel, rfl, by decide +kernel, by decide +kernel⟩
abbrev s_law : Stmt := top 57
abbrev n_law : List Str := ["script", "state", "choice", "keys", "history", "listed", "before", "closures", "name", "orders", "many", "k", "order", "value"]
theorem sc_law : FnScope n_law ["script"] (defScope s_law) := ⟨rfl, rfl, rfl, by decide +kernel, rfl, by decide +kernel, by decide +kernel⟩
structure Txt (P : Program) (w : World) (K : PySem.W.Frag) (mg : Str → Option Value) : Prop where
  f_is_integer : DefAt K mg "is_integer" s_is_integer ["value"]
  f_is_from : DefAt K mg "is_from" s_is_from ["least", "value"]
  f_is_tuple_of : DefAt K mg "is_tuple_of" s_is_tuple_of ["length", "value"]
  f_is_text : DefAt K mg "is_text" s_is_text ["value"]
  f_is_level : DefAt K mg "is_level" s_is_level ["value"]
  f_level_rank : DefAt K mg "level_rank" s_level_rank ["level"]
  f_is_name_form : DefAt K mg "is_name_form" s_is_name_form ["value"]
  f_is_read_form : DefAt K mg "is_read_form" s_is_read_form ["value"]
  f_are_keys : DefAt K mg "are_keys" s_are_keys ["value"]
  f_transaction_fault : DefAt K mg "transaction_fault" s_transaction_fault ["value"]
  f_form_fault : DefAt K mg "form_fault" s_form_fault ["value"]
  f_names_of : DefAt K mg "names_of" s_names_of ["history"]
  f_transaction_of : DefAt K mg "transaction_of" s_transaction_of ["history", "name"]
  f_transaction_at : DefAt K mg "transaction_at" s_transaction_at ["history", "name"]
  f_source_fault : DefAt K mg "source_fault" s_source_fault ["history"]
  f_history_fault : DefAt K mg "history_fault" s_history_fault ["value"]
  f_check_history : DefAt K mg "check_history" s_check_history ["history"]
  f_writers_of : DefAt K mg "writers_of" s_writers_of ["history", "key"]
  f_sources_of : DefAt K mg "sources_of" s_sources_of ["history", "name"]
  f_predecessors : DefAt K mg "predecessors" s_predecessors ["history"]
  f_closure_of : DefAt K mg "closure_of" s_closure_of ["before", "name"]
  f_named_before : DefAt K mg "named_before" s_named_before ["history", "before", "name", "k"]
  f_shares_write : DefAt K mg "shares_write" s_shares_write ["history", "one", "other"]
  f_last_seen : DefAt K mg "last_seen" s_last_seen ["history", "before", "places", "name"]
  f_seen_writers : DefAt K mg "seen_writers" s_seen_writers ["history", "before", "places", "name", "k"]
  f_is_order : DefAt K mg "is_order" s_is_order ["history", "value"]
  f_first_turned : DefAt K mg "first_turned" s_first_turned ["before", "places"]
  f_first_unseen : DefAt K mg "first_unseen" s_first_unseen ["history", "before", "places"]
  f_order_fault : DefAt K mg "order_fault" s_order_fault ["history", "value"]
  f_law_begin : DefAt K mg "_law_begin" s_law_begin ["script"]
  f_law_draw : DefAt K mg "_law_draw" s_law_draw ["state", "many"]
  f_law_same : DefAt K mg "_law_same" s_law_same ["actual", "due"]
  f_law_keys : DefAt K mg "_law_keys" s_law_keys ["state", "many"]
  f_law_parts : DefAt K mg "_law_parts" s_law_parts ["state", "listed", "keys", "reads"]
  f_law_history : DefAt K mg "_law_history" s_law_history ["state", "most", "sessions", "keys", "reads"]
  f_law_names : DefAt K mg "_law_names" s_law_names ["history"]
  f_law_before : DefAt K mg "_law_before" s_law_before ["history"]
  f_law_closure : DefAt K mg "_law_closure" s_law_closure ["before", "name"]
  f_law_shares : DefAt K mg "_law_shares" s_law_shares ["history", "one", "other"]
  f_law_must_see : DefAt K mg "_law_must_see" s_law_must_see ["history", "before", "closures", "places", "t3", "k", "t2"]
  f_law_due : DefAt K mg "_law_due" s_law_due ["history", "before", "closures", "order"]
  f_law_all_orders : DefAt K mg "_law_all_orders" s_law_all_orders ["listed"]
  f_law_drawn_order : DefAt K mg "_law_drawn_order" s_law_drawn_order ["state", "before", "keeping"]
  f_law_not_orders : DefAt K mg "_law_not_orders" s_law_not_orders ["state", "listed"]
  f_law : DefAt K mg "law" s_law ["script"]
  b_all : mg "all" = none
  b_any : mg "any" = none
  b_bool : mg "bool" = none
  b_enumerate : mg "enumerate" = none
  b_int : mg "int" = none
  b_isinstance : mg "isinstance" = none
  b_len : mg "len" = none
  b_list : mg "list" = none
  b_max : mg "max" = none
  b_min : mg "min" = none
  b_range : mg "range" = none
  b_sorted : mg "sorted" = none
  b_str : mg "str" = none
  b_tuple : mg "tuple" = none
  b_zip : mg "zip" = none
  c_GREATEST_SIGN : ∃ u, mg "GREATEST_SIGN" = some u ∧ RelV (.str "~") u
  c_LEAST_SIGN : ∃ u, mg "LEAST_SIGN" = some u ∧ RelV (.str " ") u
  c_MOST_SESSIONS : ∃ u, mg "MOST_SESSIONS" = some u ∧ RelV (.int 12) u
  c_NONE_SEEN : ∃ u, mg "NONE_SEEN" = some u ∧ RelV (.int (-1)) u
  n_LEVELS : TupNo K mg "LEVELS" ["rc", "ra", "cc", "pc", "si", "ser"]
  t_LEVELS : TupAt K mg "LEVELS" [(.str "rc"), (.str "ra"), (.str "cc"), (.str "pc"), (.str "si"), (.str "ser")]
open LV
/-- what is wrong with a value: p -/
def FaultIs (d : D) (p : Option (List Nat)) : Prop := (∃ q, p = some q ∧ formF d = some q) ∨ ∃ h, d = histD h ∧ FormOk h ∧ srcF h = p
/-- the state of the law's draws: n more at least -/
def StOk (W : Wd) (p g : Addr) (n : Nat) : Prop := p ≠ g ∧ ∃ (gs : List Int) (a c : Int), W p = some (.lst [.ref g, .int a, .int c]) ∧ W g = some (.lst (gs.map D.int)) ∧ (∀ x ∈ gs, 0 ≤ x ∧ x.natAbs < bigB) ∧ gs.length ≤ 63 ∧ 0 ≤ a ∧ a < 2305843009213693951 ∧ 0 ≤ c ∧ c + n ≤ 1000000
/-- what else stands stays -/
def Els (p g : Addr) (W W' : Wd) : Prop := ∀ q, q ≠ p → q ≠ g → W' q = W q
structure KsOk (ks : List (List Nat)) : Prop where
  nd : ks.Nodup
  pr : ∀ k ∈ ks, Pr k
  len : ∀ k ∈ ks, k.length ≤ 19
def Tx1 (listed : List (Nat × Nat)) (txs : List Tx) (n : Nat × Nat) (t : Tx) : Prop := TxOk t ∧ t.rs.length ≤ 12 ∧ t.ws.length ≤ 16 ∧ (∀ r ∈ t.rs, r.1.length ≤ 19) ∧ (∀ w ∈ t.ws, w.length ≤ 19) ∧
  ∀ r ∈ t.rs, ∀ src, r.2 = some src → src ≠ n ∧ ∃ (j : Nat) (t' : Tx), listed[j]? = some src ∧ txs[j]? = some t' ∧ r.1 ∈ t'.ws
def plainN : Nat → D → Prop
  | _, .v .non => True
  | _, .v (.bl _) => True
  | _, .v (.int _) => True
  | _, .v (.str _) => True
  | n + 1, .tup ds => ds.length ≤ 2000000 ∧ ∀ d ∈ ds, plainN n d
  | n + 1, .lst ds => ds.length ≤ 2000000 ∧ ∀ d ∈ ds, plainN n d
  | _, _ => False
def sp_is_integer : SpD := fun ds W Q _ => ∃ d, ds = [d] ∧ vok d = true ∧ Q (.bl (isIntD d)) W
def d_is_integer : TSD := (dRet (dAnd (dCB dIsi (dCons (dVar 0) (dCons (dC (.ty "int")) dNil))) (dNot (dCB dIsi (dCons (dVar 0) (dCons (dC (.ty "bool")) dNil))))))
def sp_is_from : SpD := fun ds W Q _ => ∃ (k : Int) (d : D), ds = [.int k, d] ∧ vok d = true ∧ Q (.bl (isFromD k d)) W
def d_is_from : TSD := (dRet (dAnd (dCall sp_is_integer 1 (dCons (dVar 1) dNil)) (dOp dGe (dVar 1) (dVar 0))))
def sp_is_tuple_of : SpD := fun ds W Q _ => ∃ (k : Nat) (d : D), ds = [.int k, d] ∧ vok d = true ∧ Q (.bl (isTupD d && decide (lenD d = k))) W
def d_is_tuple_of : TSD := (dRet (dAnd (dCB dIsi (dCons (dVar 1) (dCons (dC (.ty "tuple")) dNil))) (dOp dEq (dCB dLen (dCons (dVar 1) dNil)) (dVar 0))))
def sp_is_text : SpD := fun ds W Q _ => ∃ d, ds = [d] ∧ vok d = true ∧ Q (.bl (isTextD d)) W
def d_is_text : TSD := (dRet (dAnd (dCB dIsi (dCons (dVar 0) (dCons (dC (.ty "str")) dNil))) (dCB dAll (dCons (dFresh (dLc (iStrD (dVar 0)) (gdName 1) dYes (dChain dLe dLe (dC (.str " ")) (dVar 1) (dC (.str "~"))) [1])) dNil))))
def sp_is_level : SpD := fun ds W Q _ => ∃ d, ds = [d] ∧ vok d = true ∧ Q (.bl (isLvD d)) W
def d_is_level : TSD := (dRet (dAnd (dCB dIsi (dCons (dVar 0) (dCons (dC (.ty "str")) dNil))) (dOp (dInB false) (dVar 0) (dCD (.tup (List.map D.v [(.str "rc"), (.str "ra"), (.str "cc"), (.str "pc"), (.str "si"), (.str "ser")]))))))
def sp_level_rank : SpD := fun ds W Q _ => ∃ (s : Str) (j : Nat), ds = [.str s] ∧ levelsS[j]? = some s ∧ Q (.int (j : Nat)) W
def d_level_rank : TSD := (dRet (dIndexK ["rc", "ra", "cc", "pc", "si", "ser"] (dVar 0)))
def sp_is_name_form : SpD := fun ds W Q _ => ∃ d, ds = [d] ∧ vok d = true ∧ Q (.bl (isNmD d)) W
def d_is_name_form : TSD := (dRet (dAnd (dCall sp_is_tuple_of 2 (dCons (dC (.int 2)) (dCons (dVar 0) dNil))) (dCB dAll (dCons (dFresh (dLc (iTupD (dVar 0)) (gdName 1) dYes (dCall sp_is_from 2 (dCons (dC (.int 0)) (dCons (dVar 1) dNil))) [1])) dNil))))
def sp_is_read_form : SpD := fun ds W Q _ => ∃ d, ds = [d] ∧ vok d = true ∧ Q (.bl (isRdD d)) W
def d_is_read_form : TSD := (dRet (dAnd (dCall sp_is_tuple_of 2 (dCons (dC (.int 2)) (dCons (dVar 0) dNil))) (dAnd (dCall sp_is_text 1 (dCons (dOp dIx (dVar 0) (dC (.int 0))) dNil)) (dOr (dOp dIsA (dOp dIx (dVar 0) (dC (.int 1))) (dC .non)) (dCall sp_is_name_form 1 (dCons (dOp dIx (dVar 0) (dC (.int 1))) dNil))))))
def sp_are_keys : SpD := fun ds W Q _ => ∃ d, ds = [d] ∧ vok d = true ∧ Q (.bl (keysB d)) W
def d_are_keys : TSD := (dSeq (dIfS (dOrB (dNotB (dBool (dCB dIsi (dCons (dVar 0) (dCons (dC (.ty "tuple")) dNil))))) (dNotB (dBool (dCB dAll (dCons (dFresh (dLc (iTupD (dVar 0)) (gdName 1) dYes (dCall sp_is_text 1 (dCons (dVar 1) dNil)) [1])) dNil))))) (dRet (dC (.bl false))) dNext)
  (dRet (dCB dAll (dCons (dFresh (dLc (iRngD1 (dCons (dOp dSub (dCB dLen (dCons (dVar 0) dNil)) (dC (.int 1))) dNil)) (gdName 2) dYes (dOp dLt (dOp dIx (dVar 0) (dVar 2)) (dOp dIx (dVar 0) (dOp dAdd (dVar 2) (dC (.int 1))))) [2])) dNil))))
def sp_transaction_fault : SpD := fun ds W Q _ => ∃ d, ds = [d] ∧ vok d = true ∧ Q (placeD (txF d)) W
def d_transaction_fault : TSD := (dSeq (dIfS (dNotB (dBool (dCall sp_is_tuple_of 2 (dCons (dC (.int 3)) (dCons (dVar 0) dNil))))) (dRet (dTup dNil)) dNext)
  (dSeq (dAsg (dVar 0) (gdTup 3 (gdCons (gdName 1) (gdCons (gdName 2) (gdCons (gdName 3) gdNil)))))
  (dSeq (dIfS (dNotB (dBool (dCall sp_is_level 1 (dCons (dVar 1) dNil)))) (dRet (dTup (dCons (dC (.int 0)) dNil))) dNext)
  (dSeq (dIfS (dNotB (dBool (dCB dIsi (dCons (dVar 2) (dCons (dC (.ty "tuple")) dNil))))) (dRet (dTup (dCons (dC (.int 1)) dNil))) dNext)
  (dSeq (dFor (iEnumD (dCons (dVar 2) dNil)) (gdTup 2 (gdCons (gdName 4) (gdCons (gdName 5) gdNil)))
  (dIfS (dNotB (dBool (dCall sp_is_read_form 1 (dCons (dVar 5) dNil)))) (dRet (dTup (dCons (dC (.int 1)) (dCons (dVar 4) dNil)))) dNext))
  (dRet (dIf (dBool (dCall sp_are_keys 1 (dCons (dVar 3) dNil))) (dC .non) (dTup (dCons (dC (.int 2)) dNil)))))))))
def sp_form_fault : SpD := fun ds W Q _ => ∃ d, ds = [d] ∧ vok d = true ∧ Q (placeD (formF d)) W
def d_form_fault : TSD := (dSeq (dIfS (dOrB (dNotB (dBool (dCB dIsi (dCons (dVar 0) (dCons (dC (.ty "tuple")) dNil))))) (dBool (dOp dGt (dCB dLen (dCons (dVar 0) dNil)) (dC (.int 12))))) (dRet (dTup dNil)) dNext)
  (dSeq (dFor (iEnumD (dCons (dVar 0) dNil)) (gdTup 2 (gdCons (gdName 1) (gdCons (gdName 2) gdNil)))
  (dSeq (dIfS (dOrB (dNotB (dBool (dCB dIsi (dCons (dVar 2) (dCons (dC (.ty "tuple")) dNil))))) (dAndB (dBool (dOp dEqE (dVar 2) (dTup dNil))) (dBool (dOp dEq (dOp dAdd (dVar 1) (dC (.int 1))) (dCB dLen (dCons (dVar 0) dNil)))))) (dRet (dTup (dCons (dVar 1) dNil))) dNext)
  (dFor (iEnumD (dCons (dVar 2) dNil)) (gdTup 2 (gdCons (gdName 3) (gdCons (gdName 4) gdNil)))
  (dSeq (dAsg (dCall sp_transaction_fault 1 (dCons (dVar 4) dNil)) (gdName 5))
  (dIfS (dBool (dOp dNotA (dVar 5) (dC .non))) (dRet (dOp dAdd (dTup (dCons (dVar 1) (dCons (dVar 3) dNil))) (dVar 5))) dNext)))))
  (dRet (dC .non))))
def sp_names_of : SpD := fun ds W Q _ => ∃ h, ds = [histD h] ∧ FormOk h ∧ vok (histD h) = true ∧ Q (.tup ((namesH h).map nameD)) W
def d_names_of : TSD := (dRet (dCB dTupC (dCons (dFresh (dLc2 (iEnumD (dCons (dVar 0) dNil)) (gdTup 2 (gdCons (gdName 1) (gdCons (gdName 2) gdNil))) dYes (iRngD1 (dCons (dCB dLen (dCons (dVar 2) dNil)) dNil)) (gdName 3) dYes (dTup (dCons (dVar 1) (dCons (dVar 3) dNil))) [1, 2, 3] [3])) dNil)))
def sp_transaction_of : SpD := fun ds W Q _ => ∃ h n t, ds = [histD h, nameD n] ∧ txAt h n = some t ∧ Q (txD t) W
def d_transaction_of : TSD := (dRet (dOp dIx (dOp dIx (dVar 0) (dOp dIx (dVar 1) (dC (.int 0)))) (dOp dIx (dVar 1) (dC (.int 1)))))
def sp_transaction_at : SpD := fun ds W Q _ => ∃ h n, ds = [histD h, nameD n] ∧ Q (match txAt h n with | none => .non | some t => txD t) W
def d_transaction_at : TSD := (dSeq (dIfS (dOrB (dBool (dOp dGe (dOp dIx (dVar 1) (dC (.int 0))) (dCB dLen (dCons (dVar 0) dNil)))) (dBool (dOp dGe (dOp dIx (dVar 1) (dC (.int 1))) (dCB dLen (dCons (dOp dIx (dVar 0) (dOp dIx (dVar 1) (dC (.int 0)))) dNil))))) (dRet (dC .non)) dNext)
  (dRet (dCall sp_transaction_of 2 (dCons (dVar 0) (dCons (dVar 1) dNil)))))
def sp_source_fault : SpD := fun ds W Q _ => ∃ h, ds = [histD h] ∧ FormOk h ∧ vok (histD h) = true ∧ Q (placeD (srcF h)) W
def d_source_fault : TSD := (dSeq (dFor (iTupD (dCall sp_names_of 1 (dCons (dVar 0) dNil))) (gdName 1)
  (dFor (iEnumD (dCons (dOp dIx (dCall sp_transaction_of 2 (dCons (dVar 0) (dCons (dVar 1) dNil))) (dC (.int 1))) dNil)) (gdTup 2 (gdCons (gdName 2) (gdCons (gdTup 2 (gdCons (gdName 3) (gdCons (gdName 4) gdNil))) gdNil)))
  (dSeq (dIfS (dBool (dOp dIsA (dVar 4) (dC .non))) dCont dNext)
  (dSeq (dAsg (dIf (dBool (dOp dEq (dVar 4) (dVar 1))) (dC .non) (dCall sp_transaction_at 2 (dCons (dVar 0) (dCons (dVar 4) dNil)))) (gdName 5))
  (dIfS (dOrB (dBool (dOp dIsA (dVar 5) (dC .non))) (dBool (dOp (dInB true) (dVar 3) (dOp dIx (dVar 5) (dC (.int 2)))))) (dRet (dOp dAdd (dVar 1) (dTup (dCons (dC (.int 1)) (dCons (dVar 2) dNil))))) dNext)))))
  (dRet (dC .non)))
def sp_history_fault : SpD := fun ds W Q _ => ∃ d p, ds = [d] ∧ vok d = true ∧ FaultIs d p ∧ Q (placeD p) W
def d_history_fault : TSD := (dSeq (dAsg (dCall sp_form_fault 1 (dCons (dVar 0) dNil)) (gdName 1))
  (dRet (dIf (dBool (dOp dIsA (dVar 1) (dC .non))) (dCall sp_source_fault 1 (dCons (dVar 0) dNil)) (dVar 1))))
def sp_check_history : SpD := fun ds W Q _ => ∃ d, ds = [d] ∧ vok d = true ∧ FaultIs d none ∧ Q .non W
def d_check_history : TSD := (dSeq (dAsg (dCall sp_history_fault 1 (dCons (dVar 0) dNil)) (gdName 1))
  (dIfS (dBool (dOp dNotA (dVar 1) (dC .non))) dNever dNext))
def wrB (h : Hist) (key : List Nat) (m : Nm) : Bool := match txAt h m with | none => false | some t => decide (key ∈ t.ws)
def sp_writers_of : SpD := fun ds W Q _ => ∃ h key, ds = [histD h, .str (mkS key)] ∧ Good h ∧ Q (.tup (((namesH h).filter (wrB h key)).map nameD)) W
def d_writers_of : TSD := (dRet (dCB dTupC (dCons (dFresh (dLc (iTupD (dCall sp_names_of 1 (dCons (dVar 0) dNil))) (gdName 2) (dBool (dOp (dInB false) (dVar 1) (dOp dIx (dCall sp_transaction_of 2 (dCons (dVar 0) (dCons (dVar 2) dNil))) (dC (.int 2))))) (dVar 2) [2])) dNil)))
def sp_sources_of : SpD := fun ds W Q _ => ∃ h n t, ds = [histD h, nameD n] ∧ Good h ∧ txAt h n = some t ∧ Q (.lst ((t.rs.filterMap (·.2)).map nameD)) W
def d_sources_of : TSD := (dRet (dFresh (dLc (iTupD (dOp dIx (dCall sp_transaction_of 2 (dCons (dVar 0) (dCons (dVar 1) dNil))) (dC (.int 1)))) (gdTup 2 (gdCons (gdName 2) (gdCons (gdName 3) gdNil))) (dBool (dOp dNotA (dVar 3) (dC .non))) (dVar 3) [2, 3])))
def sp_predecessors : SpD := fun ds W Q _ => ∃ h, ds = [histD h] ∧ Good h ∧ ∀ pl : Nm → List Nm, PrOk h pl → Q (prD h pl) W
def d_predecessors : TSD := (dSeq (dAsgN 1)
  (dSeq (dFor (iTupD (dCall sp_names_of 1 (dCons (dVar 0) dNil))) (gdName 2)
  (dSeq (dAsg (dFresh (dLc (iRngD1 (dCons (dOp dIx (dVar 2) (dC (.int 1))) dNil)) (gdName 4) dYes (dTup (dCons (dOp dIx (dVar 2) (dC (.int 0))) (dCons (dVar 4) dNil))) [4])) (gdName 3))
  (dNPutO 1 (dFreshN (dNDc (iSeq (dFresh (dSortA (dOp dAdd (dVar 3) (dCall sp_sources_of 2 (dCons (dVar 0) (dCons (dVar 2) dNil))))))) (gdName 5) dYes (dVar 5) (dC (.bl true)) [5])) (dVar 2))))
  (dFrzN 1 (dRet (dVar 1)))))
def sp_closure_of : SpD := fun ds W Q _ => ∃ (h : Hist) (pl : Nm → List Nm) (n : Nm), ds = [prD h pl, nameD n] ∧ Good h ∧ PrOk h pl ∧ n ∈ namesH h ∧ ∀ l : List Nm, (∀ m, m ∈ l ↔ Reach h n m) → l.length ≤ 300 → Q (.tup (l.map nameD)) W
def d_closure_of : TSD := (dSeq (dAsgN 2)
  (dSeq (dAsgO 3 (dKeysL (dNGet (dVar 0) (dVar 1))))
  (dSeq (dWhile (dNeO 3)
  (dSeq (dAsg (dPopL 3) (gdName 4))
  (dIfS (dBool (dNInO true (dVar 4) 2)) (dSeq (dNPutO 2 (dC (.bl true)) (dVar 4))
  (dExtO 3 (dFresh (dKeysL (dNGet (dVar 0) (dVar 4)))))) dNext)))
  (dFrzN 2 (dFrz 3 (dRet (dCB dTupC (dCons (dFresh (dSortN (dVar 2))) dNil))))))))
def sp_named_before : SpD := fun ds W Q _ => ∃ (h : Hist) (pl : Nm → List Nm) (n : Nm) (t : Tx), ∃ k : Nat, ds = [histD h, prD h pl, nameD n, .int (k : Nat)] ∧ Good h ∧ PrOk h pl ∧ txAt h n = some t ∧ ∀ l : List Nm, (∀ m, m ∈ l ↔ Named h n t k m) → l.length ≤ 300 → Q (.tup (l.map nameD)) W
def d_named_before : TSD := (dSeq (dAsg (dCall sp_transaction_of 2 (dCons (dVar 0) (dCons (dVar 2) dNil))) (gdTup 3 (gdCons (gdName 4) (gdCons (gdName 5) (gdCons (gdName 6) gdNil)))))
  (dSeq (dIfS (dBool (dOp dEq (dVar 4) (dC (.str "rc")))) (dRet (dCB dTupC (dCons (dFresh (dLc (iTupD (dSl dCut (dVar 5) dNoP (dPart (dVar 3)))) (gdTup 2 (gdCons (gdName 7) (gdCons (gdName 8) gdNil))) (dBool (dOp dNotA (dVar 8) (dC .non))) (dVar 8) [7, 8])) dNil))) dNext)
  (dSeq (dIfS (dBool (dOp dEq (dVar 4) (dC (.str "ra")))) (dRet (dKeysT (dNGet (dVar 1) (dVar 2)))) dNext)
  (dRet (dCall sp_closure_of 2 (dCons (dVar 1) (dCons (dVar 2) dNil)))))))
def sp_shares_write : SpD := fun ds W Q _ => ∃ h a b, ds = [histD h, nameD a, nameD b] ∧ Good h ∧ a ∈ namesH h ∧ b ∈ namesH h ∧ ∀ x : Bool, (x = true ↔ Share h a b) → Q (.bl x) W
def d_shares_write : TSD := (dSeq (dAsg (dOp dIx (dCall sp_transaction_of 2 (dCons (dVar 0) (dCons (dVar 2) dNil))) (dC (.int 2))) (gdName 3))
  (dRet (dCB dAny (dCons (dFresh (dLc (iTupD (dOp dIx (dCall sp_transaction_of 2 (dCons (dVar 0) (dCons (dVar 1) dNil))) (dC (.int 2)))) (gdName 4) dYes (dOp (dInB false) (dVar 4) (dVar 3)) [4])) dNil))))
def sp_last_seen : SpD := fun ds W Q _ => ∃ (h : Hist) (pl : Nm → List Nm) (ord : List Nm) (n : Nm) (t : Tx), ds = [histD h, prD h pl, placesD ord, nameD n] ∧ Good h ∧ PrOk h pl ∧ OrdOk h ord ∧ txAt h n = some t ∧ ∀ z : Int, (∀ j : Nat, (j : Int) ≤ z ↔ Under h ord n t j) → Q (.int z) W
def d_last_seen : TSD := (dSeq (dAsg (dOp dIx (dCall sp_transaction_of 2 (dCons (dVar 0) (dCons (dVar 3) dNil))) (dC (.int 0))) (gdName 4))
  (dSeq (dIfS (dBool (dOp dEq (dVar 4) (dC (.str "ser")))) (dRet (dOp dSub (dNGet (dVar 2) (dVar 3)) (dC (.int 1)))) dNext)
  (dSeq (dAsgO 5 (dLc (iKeyD (dNGet (dVar 1) (dVar 3))) (gdName 6) dYes (dNGet (dVar 2) (dVar 6)) [6]))
  (dSeq (dIfS (dBool (dOp dEq (dVar 4) (dC (.str "si")))) (dExtO 5 (dFresh (dLc (iKeyD (dVar 2)) (gdName 6) (dAndB (dBool (dOp dLt (dNGet (dVar 2) (dVar 6)) (dNGet (dVar 2) (dVar 3)))) (dBool (dCall sp_shares_write 3 (dCons (dVar 0) (dCons (dVar 6) (dCons (dVar 3) dNil)))))) (dNGet (dVar 2) (dVar 6)) [6]))) dNext)
  (dFrz 5 (dRet (dPickD PySem.W.maxD (dVar 5) (dC (.int (-1))))))))))
def sp_seen_writers : SpD := fun ds W Q _ => ∃ (h : Hist) (pl : Nm → List Nm) (ord : List Nm) (n : Nm) (t : Tx) (r : List Nat × Option Nm), ∃ k : Nat, ds = [histD h, prD h pl, placesD ord, nameD n, .int (k : Nat)] ∧ Good h ∧ PrOk h pl ∧ OrdOk h ord ∧ txAt h n = some t ∧ t.rs[k]? = some r ∧ ∀ p : Nm → Bool, (∀ m ∈ namesH h, p m = true ↔ Must h ord n t k r m) → Q (.lst (((namesH h).filter p).map nameD)) W
def d_seen_writers : TSD := (dSeq (dAsg (dCall sp_transaction_of 2 (dCons (dVar 0) (dCons (dVar 3) dNil))) (gdTup 3 (gdCons (gdName 5) (gdCons (gdName 6) (gdCons (gdName 7) gdNil)))))
  (dSeq (dAsg (dOp dIx (dVar 6) (dVar 4)) (gdTup 2 (gdCons (gdName 8) (gdCons (gdName 9) gdNil))))
  (dSeq (dAsg (dFresh (dLc (iTupD (dCall sp_writers_of 2 (dCons (dVar 0) (dCons (dVar 8) dNil)))) (gdName 13) (dAndB (dBool (dOp dNe (dVar 13) (dVar 3))) (dBool (dOp dNe (dVar 13) (dVar 9)))) (dVar 13) [13])) (gdName 10))
  (dSeq (dIfS (dBool (dOp dLe (dCall sp_level_rank 1 (dCons (dVar 5) dNil)) (dCall sp_level_rank 1 (dCons (dC (.str "cc")) dNil)))) (dSeq (dAsg (dCall sp_named_before 4 (dCons (dVar 0) (dCons (dVar 1) (dCons (dVar 3) (dCons (dVar 4) dNil))))) (gdName 11))
  (dRet (dFresh (dLc (iSeq (dVar 10)) (gdName 13) (dBool (dOp (dInB false) (dVar 13) (dVar 11))) (dVar 13) [13])))) dNext)
  (dSeq (dAsg (dCall sp_last_seen 4 (dCons (dVar 0) (dCons (dVar 1) (dCons (dVar 2) (dCons (dVar 3) dNil))))) (gdName 12))
  (dRet (dFresh (dLc (iSeq (dVar 10)) (gdName 13) (dBool (dOp dLe (dNGet (dVar 2) (dVar 13)) (dVar 12))) (dVar 13) [13]))))))))
def sp_is_order : SpD := fun ds W Q _ => ∃ h d, ds = [histD h, d] ∧ Good h ∧ ((∃ ord, d = .tup (ord.map nameD) ∧ OrdOk h ord ∧ Q (.bl true) W) ∨ (NotOrd h d ∧ vok d = true ∧ Q (.bl false) W))
def d_is_order : TSD := (dSeq (dIfS (dOrB (dNotB (dBool (dCB dIsi (dCons (dVar 1) (dCons (dC (.ty "tuple")) dNil))))) (dNotB (dBool (dCB dAll (dCons (dFresh (dLc (iTupD (dVar 1)) (gdName 2) dYes (dCall sp_is_name_form 1 (dCons (dVar 2) dNil)) [2])) dNil))))) (dRet (dC (.bl false))) dNext)
  (dRet (dOp dEq (dCB dTupC (dCons (dFresh (dSortU (dVar 1))) dNil)) (dCall sp_names_of 1 (dCons (dVar 0) dNil)))))
def sp_first_turned : SpD := fun ds W Q _ => ∃ (h : Hist) (pl : Nm → List Nm) (ord : List Nm), ds = [prD h pl, placesD ord] ∧ Good h ∧ PrOk h pl ∧ OrdOk h ord ∧ ∀ d, TurnR h ord d → Q d W
def d_first_turned : TSD := (dSeq (dAsg (dFresh (dLc2 (iKeyD (dVar 0)) (gdName 3) dYes (iKeyD (dNGet (dVar 0) (dVar 3))) (gdName 4) (dBool (dOp dGt (dNGet (dVar 1) (dVar 4)) (dNGet (dVar 1) (dVar 3)))) (dTup (dCons (dVar 4) (dCons (dVar 3) dNil))) [3, 4] [4])) (gdName 2))
  (dRet (dPickD PySem.W.minD (dVar 2) (dC .non))))
def sp_first_unseen : SpD := fun ds W Q _ => ∃ (h : Hist) (pl : Nm → List Nm) (ord : List Nm), ds = [histD h, prD h pl, placesD ord] ∧ Good h ∧ PrOk h pl ∧ OrdOk h ord ∧ Q (unsD (unseen h ord)) W
def d_first_unseen : TSD := (dSeq (dFor (iTupD (dCall sp_names_of 1 (dCons (dVar 0) dNil))) (gdName 3)
  (dFor (iEnumD (dCons (dOp dIx (dCall sp_transaction_of 2 (dCons (dVar 0) (dCons (dVar 3) dNil))) (dC (.int 1))) dNil)) (gdTup 2 (gdCons (gdName 4) (gdCons (gdTup 2 (gdCons (gdName 5) (gdCons (gdName 6) gdNil))) gdNil)))
  (dFor (iSeq (dCall sp_seen_writers 5 (dCons (dVar 0) (dCons (dVar 1) (dCons (dVar 2) (dCons (dVar 3) (dCons (dVar 4) dNil))))))) (gdName 7)
  (dIfS (dOrB (dBool (dOp dIsA (dVar 6) (dC .non))) (dBool (dOp dGt (dNGet (dVar 2) (dVar 7)) (dNGet (dVar 2) (dVar 6))))) (dRet (dTup (dCons (dVar 3) (dCons (dVar 4) (dCons (dVar 7) dNil))))) dNext))))
  (dRet (dC .non)))
def sp_order_fault : SpD := fun ds W Q _ => ∃ h d, ds = [histD h, d] ∧ Good h ∧ ((∃ ord, d = .tup (ord.map nameD) ∧ OrdOk h ord ∧ ∀ e, Res h ord e → Q e W) ∨ (NotOrd h d ∧ vok d = true ∧ Q (.tup [.str "form"]) W))
def d_order_fault : TSD := (dSeq (dDrop (dCall sp_check_history 1 (dCons (dVar 0) dNil)))
  (dSeq (dIfS (dNotB (dBool (dCall sp_is_order 2 (dCons (dVar 0) (dCons (dVar 1) dNil))))) (dRet (dTup (dCons (dC (.str "form")) dNil))) dNext)
  (dSeq (dAsg (dCall sp_predecessors 1 (dCons (dVar 0) dNil)) (gdName 2))
  (dSeq (dAsgNN 3 (dNDc (iEnumD (dCons (dVar 1) dNil)) (gdTup 2 (gdCons (gdName 6) (gdCons (gdName 7) gdNil))) dYes (dVar 7) (dVar 6) [6, 7]))
  (dFrzN 3 (dSeq (dAsg (dCall sp_first_turned 2 (dCons (dVar 2) (dCons (dVar 3) dNil))) (gdName 4))
  (dSeq (dIfS (dBool (dOp dNotA (dVar 4) (dC .non))) (dRet (dOp dAdd (dTup (dCons (dC (.str "before")) dNil)) (dVar 4))) dNext)
  (dSeq (dAsg (dCall sp_first_unseen 3 (dCons (dVar 0) (dCons (dVar 2) (dCons (dVar 3) dNil)))) (gdName 5))
  (dRet (dIf (dBool (dOp dIsA (dVar 5) (dC .non))) (dC .non) (dOp dAdd (dTup (dCons (dC (.str "seen")) dNil)) (dVar 5))))))))))))
def sp_law_begin : SpD := fun ds W Q _ => ∃ ns : List Int, ds = [.scr ns] ∧ ns.length ≤ 63 ∧ (∀ z ∈ ns, z.natAbs < bigB) ∧ ∀ W' p g, StOk W' p g 999000 → Q (.ref p) W'
def d_law_begin : TSD := (dSeq (dAsg (dNewW (dLstN dNil)) (gdName 1))
  (dSeq (dAsg (dC (.int 5)) (gdName 2))
  (dSeq (dFor (iSeq (dSl dCut (dVar 0) dNoP (dPart (dC (.int 63))))) (gdName 3)
  (dIfS (dBool (dOp dGe (dVar 3) (dOp dPow (dC (.int 10)) (dC (.int 18))))) (dAppW (dVar 1) (dVar 3)) (dAsg (dOp dMod (dCB dIntC (dCons (dOp dAdd (dOp dMulA (dVar 2) (dC (.int 1000003))) (dVar 3)) dNil)) (dC (.int 2305843009213693951))) (gdName 2))))
  (dRetW (dLstN (dCons (dVar 1) (dCons (dVar 2) (dCons (dCB dLen (dCons (dVar 0) dNil)) dNil))))))))
def sp_law_draw : SpD := fun ds W Q _ => ∃ (p g : Addr) (many : Int) (n : Nat), ds = [.ref p, .int many] ∧ 0 < many ∧ many ≤ 1000000 ∧ StOk W p g (n + 1) ∧ ∀ r W', 0 ≤ r → r < many → StOk W' p g n → Els p g W W' → Q (.int r) W'
def d_law_draw : TSD := (dSeq (dAsg (dIxW (dVar 0) (dC (.int 0))) (gdName 2))
  (dSeq (dWhile (dBool (dOp dGt (dLenW (dVar 2)) (dC (.int 0))))
  (dSeq (dAsg (dIxW (dVar 2) (dC (.int 0))) (gdName 3))
  (dSeq (dIfS (dBool (dOp dGt (dVar 3) (dC (.int 0)))) (dSeq (dSetW (dOp dFdv (dVar 3) (dVar 1)) (dVar 2) (dC (.int 0)))
  (dRet (dOp dMod (dCB dIntC (dCons (dVar 3) dNil)) (dVar 1)))) dNext)
  (dPopW (dVar 2) (dC (.int 0))))))
  (dSeq (dSetW (dOp dAdd (dIxW (dVar 0) (dC (.int 2))) (dC (.int 1))) (dVar 0) (dC (.int 2)))
  (dSeq (dAsg (dOp dMod (dCB dIntC (dCons (dOp dAdd (dIxW (dVar 0) (dC (.int 1))) (dOp dMulA (dIxW (dVar 0) (dC (.int 2))) (dC (.int 7368787)))) dNil)) (dC (.int 2305843009213693951))) (gdName 4))
  (dSeq (dAsg (dOp dMod (dCB dIntC (dCons (dOp dAdd (dOp dMulA (dVar 4) (dVar 4)) (dIxW (dVar 0) (dC (.int 2)))) dNil)) (dC (.int 2305843009213693951))) (gdName 4))
  (dSeq (dAsg (dOp dMod (dCB dIntC (dCons (dOp dAdd (dOp dMulA (dVar 4) (dVar 4)) (dIxW (dVar 0) (dC (.int 1)))) dNil)) (dC (.int 998244353))) (gdName 4))
  (dRet (dOp dMod (dCB dIntC (dCons (dVar 4) dNil)) (dVar 1)))))))))
def spn_law_same (n : Nat) : SpD := fun ds W Q _ => ∃ d, ds = [d, d] ∧ plainN n d ∧ Q (.bl true) W
abbrev sp_law_same : SpD := spn_law_same 5
def d_law_same (sp0 : SpD) : TSD := (dSeq (dIfS (dBool (dOp dIsA (dVar 1) (dC .non))) (dRet (dOp dIsA (dVar 0) (dC .non))) dNext)
  (dSeq (dIfS (dBool (dOp dIsA (dVar 1) (dC (.bl true)))) (dRet (dOp dIsA (dVar 0) (dC (.bl true)))) dNext)
  (dSeq (dIfS (dBool (dOp dIsA (dVar 1) (dC (.bl false)))) (dRet (dOp dIsA (dVar 0) (dC (.bl false)))) dNext)
  (dSeq (dIfS (dBool (dCB dIsi (dCons (dVar 1) (dCons (dC (.ty "str")) dNil)))) (dRet (dAnd (dCB dIsi (dCons (dVar 0) (dCons (dC (.ty "str")) dNil))) (dOp dEq (dVar 0) (dVar 1)))) dNext)
  (dSeq (dIfS (dBool (dCB dIsi (dCons (dVar 1) (dCons (dC (.ty "int")) dNil)))) (dRet (dAnd (dCB dIsi (dCons (dVar 0) (dCons (dC (.ty "int")) dNil))) (dAnd (dNot (dCB dIsi (dCons (dVar 0) (dCons (dC (.ty "bool")) dNil)))) (dOp dEq (dVar 0) (dVar 1))))) dNext)
  (dSeq (dIfS (dBool (dCB dIsi (dCons (dVar 1) (dCons (dC (.ty "tuple")) dNil)))) (dIfS (dNotB (dBool (dCB dIsi (dCons (dVar 0) (dCons (dC (.ty "tuple")) dNil))))) (dRet (dC (.bl false))) dNext) (dIfS (dNotB (dBool (dCB dIsi (dCons (dVar 0) (dCons (dC (.ty "list")) dNil))))) (dRet (dC (.bl false))) dNext))
  (dSeq (dIfS (dBool (dOp dNe (dCB dLen (dCons (dVar 0) dNil)) (dCB dLen (dCons (dVar 1) dNil)))) (dRet (dC (.bl false))) dNext)
  (dSeq (dFor (iZipD (dCons (dVar 0) (dCons (dVar 1) dNil))) (gdTup 2 (gdCons (gdName 2) (gdCons (gdName 3) gdNil)))
  (dIfS (dNotB (dBool (dCall sp0 2 (dCons (dVar 2) (dCons (dVar 3) dNil))))) (dRet (dC (.bl false))) dNext))
  (dRet (dC (.bl true)))))))))))
def sp_law_keys : SpD := fun ds W Q _ => ∃ (p g : Addr) (many n : Nat), ds = [.ref p, .int many] ∧ many ≤ 16 ∧ StOk W p g (n + 100) ∧ ∀ ks W', ks.length = many → KsOk ks → StOk W' p g n → Q (.lst (ks.map keyTD)) W'
def d_law_keys : TSD := (dSeq (dAsg (dC (.str " !\"#$&'()*+,-./0123456789:;<=>?@ABCDEFGHIJKLMNOPQRSTUVWXYZ[\\]^_`abcdefghijklmnopqrstuvwxyz{|}~")) (gdName 2))
  (dSeq (dAsg (dOp dEq (dCall sp_law_draw 2 (dCons (dVar 0) (dCons (dC (.int 2)) dNil))) (dC (.int 0))) (gdName 3))
  (dSeq (dAsgO 4 (dLstN dNil))
  (dSeq (dFor (iRngD1 (dCons (dVar 1) dNil)) (gdName 5)
  (dSeq (dAsg (dOp dIx (dC (.str "abcdefghijklmnop")) (dVar 5)) (gdName 6))
  (dSeq (dIfS (dNotB (dBool (dVar 3))) (dAsg (dM dJoin (dC (.str "")) (dCons (dFresh (dLc (iRngD1 (dCons (dCall sp_law_draw 2 (dCons (dVar 0) (dCons (dC (.int 4)) dNil))) dNil)) (gdName 7) dYes (dOp dIx (dVar 2) (dCall sp_law_draw 2 (dCons (dVar 0) (dCons (dCB dLen (dCons (dVar 2) dNil)) dNil)))) [7])) dNil)) (gdName 6)) dNext)
  (dSeq (dWhile (dBool (dInO false (dVar 6) 4))
  (dAsg (dOp dAdd (dVar 6) (dC (.str "a"))) (gdName 6)))
  (dApp 4 (dVar 6))))))
  (dFrz 4 (dRet (dVar 4)))))))
def sp_law_parts : SpD := fun ds W Q _ => ∃ (p g : Addr) (listed : List (Nat × Nat)) (ks : List (List Nat)) (reads n : Nat), ds = [.ref p, .lst (listed.map nameD), .lst (ks.map keyTD), .int reads] ∧ listed.Nodup ∧ listed.length ≤ 24 ∧ KsOk ks ∧ ks ≠ [] ∧ ks.length ≤ 16 ∧ reads ≤ 12 ∧ StOk W p g (n + 2000) ∧
  ∀ (txs : List Tx) W', txs.length = listed.length → (∀ (i : Nat) (m : Nat × Nat) (t : Tx), listed[i]? = some m → txs[i]? = some t → Tx1 listed txs m t) → StOk W' p g n → Q (.dtt (listed.map nameD) (txs.map txD)) W'
def d_law_parts : TSD := (dSeq (dAsgN 4)
  (dSeq (dFor (iSeq (dVar 1)) (gdName 5)
  (dNPutO 4 (dCB dTupC (dCons (dFresh (dSortA (dFresh (dLc (iSeq (dVar 2)) (gdName 9) (dBool (dOp dEq (dCall sp_law_draw 2 (dCons (dVar 0) (dCons (dC (.int 3)) dNil))) (dC (.int 0)))) (dVar 9) [9])))) dNil)) (dVar 5)))
  (dFrzN 4 (dSeq (dAsgN 6)
  (dSeq (dFor (iSeq (dVar 1)) (gdName 5)
  (dSeq (dAsgO 7 (dLstN dNil))
  (dSeq (dFor (iRngD1 (dCons (dCall sp_law_draw 2 (dCons (dVar 0) (dCons (dOp dAdd (dVar 3) (dC (.int 1))) dNil))) dNil)) (gdName 8)
  (dSeq (dAsg (dOp dIx (dVar 2) (dCall sp_law_draw 2 (dCons (dVar 0) (dCons (dCB dLen (dCons (dVar 2) dNil)) dNil)))) (gdName 9))
  (dSeq (dAsg (dOp dAdd (dLst (dCons (dC .non) dNil)) (dFresh (dLc (iSeq (dVar 1)) (gdName 12) (dAndB (dBool (dOp dNe (dVar 12) (dVar 5))) (dBool (dOp (dInB false) (dVar 9) (dNGet (dVar 4) (dVar 12))))) (dVar 12) [12]))) (gdName 10))
  (dApp 7 (dTup (dCons (dVar 9) (dCons (dOp dIx (dVar 10) (dCall sp_law_draw 2 (dCons (dVar 0) (dCons (dCB dLen (dCons (dVar 10) dNil)) dNil)))) dNil)))))))
  (dFrz 7 (dSeq (dAsg (dOp dIx (dLst (dCons (dC (.str "rc")) (dCons (dC (.str "ra")) (dCons (dC (.str "cc")) (dCons (dC (.str "pc")) (dCons (dC (.str "si")) (dCons (dC (.str "ser")) dNil))))))) (dCall sp_law_draw 2 (dCons (dVar 0) (dCons (dC (.int 6)) dNil)))) (gdName 11))
  (dNPutO 6 (dTup (dCons (dVar 11) (dCons (dCB dTupC (dCons (dVar 7) dNil)) (dCons (dNGet (dVar 4) (dVar 5)) dNil)))) (dVar 5)))))))
  (dFrzN 6 (dRet (dVar 6))))))))
def sp_law_history : SpD := fun ds W Q _ => ∃ (p g : Addr) (most sessions reads n : Nat) (ks : List (List Nat)), ds = [.ref p, .int most, .int sessions, .lst (ks.map keyTD), .int reads] ∧ 1 ≤ most ∧ most ≤ 24 ∧ 1 ≤ sessions ∧ sessions ≤ 12 ∧ KsOk ks ∧ ks ≠ [] ∧ ks.length ≤ 16 ∧ reads ≤ 12 ∧ StOk W p g (n + 3000) ∧
  ∀ h W', Good h → StOk W' p g n → Q (histD h) W'
def d_law_history : TSD := (dSeq (dAsg (dFresh (dLc (iRngD1 (dCons (dOp dAdd (dC (.int 1)) (dCall sp_law_draw 2 (dCons (dVar 0) (dCons (dVar 1) dNil)))) dNil)) (gdName 11) dYes (dCall sp_law_draw 2 (dCons (dVar 0) (dCons (dVar 2) dNil))) [11])) (gdName 5))
  (dSeq (dAsg (dFresh (dLc (iRngD1 (dCons (dOp dAdd (dCB dMax1A (dCons (dVar 5) dNil)) (dC (.int 1))) dNil)) (gdName 8) dYes (dCount (dVar 5) (dVar 8)) [8])) (gdName 6))
  (dSeq (dAsgO 7 (dLstN dNil))
  (dSeq (dFor (iRngD1 (dCons (dCB dLen (dCons (dVar 6) dNil)) dNil)) (gdName 8)
  (dFor (iRngD1 (dCons (dOp dIx (dVar 6) (dVar 8)) dNil)) (gdName 9)
  (dApp 7 (dTup (dCons (dVar 8) (dCons (dVar 9) dNil))))))
  (dFrz 7 (dSeq (dAsg (dCall sp_law_parts 4 (dCons (dVar 0) (dCons (dVar 7) (dCons (dVar 3) (dCons (dVar 4) dNil))))) (gdName 10))
  (dRet (dCB dTupC (dCons (dFresh (dLc (iRngD1 (dCons (dCB dLen (dCons (dVar 6) dNil)) dNil)) (gdName 8) dYes (dCB dTupC (dCons (dFresh (dLc (iRngD1 (dCons (dOp dIx (dVar 6) (dVar 8)) dNil)) (gdName 9) dYes (dNGet (dVar 10) (dTup (dCons (dVar 8) (dCons (dVar 9) dNil)))) [9])) dNil)) [8])) dNil)))))))))
def sp_law_names : SpD := fun ds W Q _ => ∃ h, ds = [histD h] ∧ FormOk h ∧ vok (histD h) = true ∧ Q (.lst ((namesH h).map nameD)) W
def d_law_names : TSD := (dSeq (dAsgO 1 (dLstN dNil))
  (dSeq (dFor (iRngD1 (dCons (dCB dLen (dCons (dVar 0) dNil)) dNil)) (gdName 2)
  (dFor (iRngD1 (dCons (dCB dLen (dCons (dOp dIx (dVar 0) (dVar 2)) dNil)) dNil)) (gdName 3)
  (dApp 1 (dTup (dCons (dVar 2) (dCons (dVar 3) dNil))))))
  (dFrz 1 (dRet (dVar 1)))))
def sp_law_before : SpD := fun ds W Q _ => ∃ h, ds = [histD h] ∧ Good h ∧ ∀ bl : Nm → List Nm, PrOk h bl → Q (blD h bl) W
def d_law_before : TSD := (dSeq (dAsgN 1)
  (dSeq (dFor (iSeq (dCall sp_law_names 1 (dCons (dVar 0) dNil))) (gdName 2)
  (dSeq (dAsgO 3 (dLc (iRngD1 (dCons (dOp dIx (dVar 2) (dC (.int 1))) dNil)) (gdName 6) dYes (dTup (dCons (dOp dIx (dVar 2) (dC (.int 0))) (dCons (dVar 6) dNil))) [6]))
  (dSeq (dFor (iTupD (dOp dIx (dOp dIx (dOp dIx (dVar 0) (dOp dIx (dVar 2) (dC (.int 0)))) (dOp dIx (dVar 2) (dC (.int 1)))) (dC (.int 1)))) (gdTup 2 (gdCons (gdName 4) (gdCons (gdName 5) gdNil)))
  (dIfS (dAndB (dBool (dOp dNotA (dVar 5) (dC .non))) (dBool (dInNO true (dVar 5) 3))) (dApp 3 (dVar 5)) dNext))
  (dFrz 3 (dNPutO 1 (dVar 3) (dVar 2))))))
  (dFrzN 1 (dRet (dVar 1)))))
def sp_law_closure : SpD := fun ds W Q _ => ∃ (h : Hist) (bl : Nm → List Nm) (n : Nm), ds = [blD h bl, nameD n] ∧ Good h ∧ PrOk h bl ∧ n ∈ namesH h ∧ ∀ l : List Nm, (∀ m, m ∈ l ↔ Reach h n m) → l.length ≤ 300 → Q (.lst (l.map nameD)) W
def d_law_closure : TSD := (dSeq (dAsgO 2 (dListN (dNGet (dVar 0) (dVar 1))))
  (dSeq (dFor (iRngD1 (dCons (dLenN (dVar 0)) dNil)) (gdName 3)
  (dFor (iSeq (dFresh (dCopyO 2))) (gdName 4)
  (dFor (iSeq (dNGet (dVar 0) (dVar 4))) (gdName 5)
  (dIfS (dBool (dInNO true (dVar 5) 2)) (dApp 2 (dVar 5)) dNext))))
  (dFrz 2 (dRet (dFresh (dSortA (dVar 2)))))))
def sp_law_shares : SpD := fun ds W Q _ => ∃ h a b, ds = [histD h, nameD a, nameD b] ∧ Good h ∧ a ∈ namesH h ∧ b ∈ namesH h ∧ ∀ x : Bool, (x = true ↔ Share h a b) → Q (.bl x) W
def d_law_shares : TSD := (dSeq (dAsg (dOp dIx (dOp dIx (dOp dIx (dVar 0) (dOp dIx (dVar 2) (dC (.int 0)))) (dOp dIx (dVar 2) (dC (.int 1)))) (dC (.int 2))) (gdName 3))
  (dRet (dCB dAny (dCons (dFresh (dLc (iTupD (dOp dIx (dOp dIx (dOp dIx (dVar 0) (dOp dIx (dVar 1) (dC (.int 0)))) (dOp dIx (dVar 1) (dC (.int 1)))) (dC (.int 2)))) (gdName 4) dYes (dOp (dInB false) (dVar 4) (dVar 3)) [4])) dNil))))
def sp_law_must_see : SpD := fun ds W Q _ => ∃ (h : Hist) (bl cl : Nm → List Nm) (ord : List Nm) (n m : Nm) (t : Tx) (r : List Nat × Option Nm), ∃ k : Nat, ds = [histD h, blD h bl, blD h cl, placesD ord, nameD n, .int (k : Nat), nameD m] ∧ Good h ∧ PrOk h bl ∧ ClOk h cl ∧ OrdOk h ord ∧ txAt h n = some t ∧ t.rs[k]? = some r ∧ m ∈ namesH h ∧ ∀ x : Bool, (x = true ↔ Must h ord n t k r m) → Q (.bl x) W
def d_law_must_see : TSD := (dSeq (dAsg (dOp dIx (dOp dIx (dVar 0) (dOp dIx (dVar 4) (dC (.int 0)))) (dOp dIx (dVar 4) (dC (.int 1)))) (gdTup 3 (gdCons (gdName 7) (gdCons (gdName 8) (gdCons (gdName 9) gdNil)))))
  (dSeq (dAsg (dOp dIx (dVar 8) (dVar 5)) (gdTup 2 (gdCons (gdName 10) (gdCons (gdName 11) gdNil))))
  (dSeq (dIfS (dOrB (dBool (dOp dEq (dVar 6) (dVar 4))) (dOrB (dBool (dOp dEq (dVar 6) (dVar 11))) (dBool (dOp (dInB true) (dVar 10) (dOp dIx (dOp dIx (dOp dIx (dVar 0) (dOp dIx (dVar 6) (dC (.int 0)))) (dOp dIx (dVar 6) (dC (.int 1)))) (dC (.int 2))))))) (dRet (dC (.bl false))) dNext)
  (dSeq (dIfS (dBool (dOp dEq (dVar 7) (dC (.str "rc")))) (dRet (dOp (dInB false) (dVar 6) (dFresh (dLc (iTupD (dSl dCut (dVar 8) dNoP (dPart (dVar 5)))) (gdTup 2 (gdCons (gdName 14) (gdCons (gdName 15) gdNil))) dYes (dVar 15) [14, 15])))) dNext)
  (dSeq (dIfS (dBool (dOp dEq (dVar 7) (dC (.str "ra")))) (dRet (dOp (dInB false) (dVar 6) (dNGet (dVar 1) (dVar 4)))) dNext)
  (dSeq (dIfS (dBool (dOp dEq (dVar 7) (dC (.str "cc")))) (dRet (dOp (dInB false) (dVar 6) (dNGet (dVar 2) (dVar 4)))) dNext)
  (dSeq (dIfS (dBool (dOp dEq (dVar 7) (dC (.str "ser")))) (dRet (dOp dLt (dNGet (dVar 3) (dVar 6)) (dNGet (dVar 3) (dVar 4)))) dNext)
  (dSeq (dFor (iKeyD (dVar 3)) (gdName 12)
  (dSeq (dAsg (dOp (dInB false) (dVar 12) (dNGet (dVar 1) (dVar 4))) (gdName 13))
  (dSeq (dIfS (dAndB (dBool (dOp dEq (dVar 7) (dC (.str "si")))) (dAndB (dBool (dOp dNe (dVar 12) (dVar 4))) (dAndB (dBool (dOp dLt (dNGet (dVar 3) (dVar 12)) (dNGet (dVar 3) (dVar 4)))) (dBool (dCall sp_law_shares 3 (dCons (dVar 0) (dCons (dVar 12) (dCons (dVar 4) dNil)))))))) (dAsg (dC (.bl true)) (gdName 13)) dNext)
  (dIfS (dAndB (dBool (dVar 13)) (dBool (dOp dLe (dNGet (dVar 3) (dVar 6)) (dNGet (dVar 3) (dVar 12))))) (dRet (dC (.bl true))) dNext))))
  (dRet (dC (.bl false)))))))))))
def sp_law_due : SpD := fun ds W Q _ => ∃ (h : Hist) (bl cl : Nm → List Nm) (ord : List Nm), ds = [histD h, blD h bl, blD h cl, .tup (ord.map nameD)] ∧ Good h ∧ PrOk h bl ∧ ClOk h cl ∧ OrdOk h ord ∧ ∀ e, Res h ord e → Q e W
def d_law_due : TSD := (dSeq (dAsgN 4)
  (dSeq (dFor (iRngD1 (dCons (dCB dLen (dCons (dVar 3) dNil)) dNil)) (gdName 5)
  (dNPutO 4 (dVar 5) (dOp dIx (dVar 3) (dVar 5))))
  (dFrzN 4 (dSeq (dAsgO 6 (dLstN dNil))
  (dSeq (dFor (iTupD (dVar 3)) (gdName 7)
  (dFor (iSeq (dNGet (dVar 1) (dVar 7))) (gdName 8)
  (dIfS (dBool (dOp dGt (dNGet (dVar 4) (dVar 8)) (dNGet (dVar 4) (dVar 7)))) (dApp 6 (dTup (dCons (dVar 8) (dCons (dVar 7) dNil)))) dNext)))
  (dFrz 6 (dSeq (dIfS (dBool (dOp dGt (dCB dLen (dCons (dVar 6) dNil)) (dC (.int 0)))) (dRet (dOp dAdd (dTup (dCons (dC (.str "before")) dNil)) (dPick PySem.W.minD (dVar 6)))) dNext)
  (dSeq (dFor (iSeq (dCall sp_law_names 1 (dCons (dVar 0) dNil))) (gdName 9)
  (dSeq (dAsg (dOp dIx (dOp dIx (dOp dIx (dVar 0) (dOp dIx (dVar 9) (dC (.int 0)))) (dOp dIx (dVar 9) (dC (.int 1)))) (dC (.int 1))) (gdName 10))
  (dFor (iRngD1 (dCons (dCB dLen (dCons (dVar 10) dNil)) dNil)) (gdName 11)
  (dSeq (dAsg (dOp dIx (dOp dIx (dVar 10) (dVar 11)) (dC (.int 1))) (gdName 12))
  (dFor (iSeq (dCall sp_law_names 1 (dCons (dVar 0) dNil))) (gdName 13)
  (dIfS (dOrB (dBool (dOp dIsA (dVar 12) (dC .non))) (dBool (dOp dGe (dNGet (dVar 4) (dVar 13)) (dNGet (dVar 4) (dVar 12))))) (dIfS (dBool (dCall sp_law_must_see 7 (dCons (dVar 0) (dCons (dVar 1) (dCons (dVar 2) (dCons (dVar 4) (dCons (dVar 9) (dCons (dVar 11) (dCons (dVar 13) dNil))))))))) (dRet (dTup (dCons (dC (.str "seen")) (dCons (dVar 9) (dCons (dVar 11) (dCons (dVar 13) dNil)))))) dNext) dNext))))))
  (dRet (dC .non))))))))))
def sp_law_all_orders : SpD := fun ds W Q _ => ∃ h, ds = [.lst ((namesH h).map nameD)] ∧ (namesH h).length ≤ 4 ∧ ∀ ords : List (List Nm), (∀ o ∈ ords, OrdOk h o) → ords.length ≤ 1000 → Q (.lst (ords.map fun o => .tup (o.map nameD))) W
def d_law_all_orders : TSD := (dSeq (dAsg (dLst (dCons (dTup dNil) dNil)) (gdName 1))
  (dSeq (dFor (iRngD1 (dCons (dCB dLen (dCons (dVar 0) dNil)) dNil)) (gdName 2)
  (dSeq (dAsgO 3 (dLstN dNil))
  (dSeq (dFor (iSeq (dVar 1)) (gdName 4)
  (dFor (iSeq (dVar 0)) (gdName 5)
  (dIfS (dBool (dOp (dInB true) (dVar 5) (dVar 4))) (dApp 3 (dOp dAdd (dVar 4) (dTup (dCons (dVar 5) dNil)))) dNext)))
  (dFrz 3 (dAsg (dVar 3) (gdName 1))))))
  (dRet (dVar 1))))
def sp_law_drawn_order : SpD := fun ds W Q _ => ∃ (p g : Addr) (n : Nat) (h : Hist) (bl : Nm → List Nm) (b : Bool), ds = [.ref p, blD h bl, .bl b] ∧ Good h ∧ PrOk h bl ∧ StOk W p g (n + 300) ∧ ∀ ord W', OrdOk h ord → StOk W' p g n → Els p g W W' → Q (.tup (ord.map nameD)) W'
def d_law_drawn_order : TSD := (dSeq (dAsg (dFresh (dKeysL (dVar 1))) (gdName 3))
  (dSeq (dAsg (dTup dNil) (gdName 4))
  (dSeq (dWhile (dBool (dOp dGt (dCB dLen (dCons (dVar 3) dNil)) (dC (.int 0))))
  (dSeq (dAsg (dVar 3) (gdName 5))
  (dSeq (dIfS (dBool (dVar 2)) (dSeq (dAsg (dFresh (dLc (iSeq (dVar 3)) (gdName 6) (dBool (dCB dAll (dCons (dFresh (dLc (iSeq (dNGet (dVar 1) (dVar 6))) (gdName 8) dYes (dOp (dInB true) (dVar 8) (dVar 3)) [8])) dNil))) (dVar 6) [6])) (gdName 5))
  (dIfS (dBool (dOp dEq (dCB dLen (dCons (dVar 5) dNil)) (dC (.int 0)))) (dAsg (dVar 3) (gdName 5)) dNext)) dNext)
  (dSeq (dAsg (dOp dIx (dVar 5) (dCall sp_law_draw 2 (dCons (dVar 0) (dCons (dCB dLen (dCons (dVar 5) dNil)) dNil)))) (gdName 6))
  (dSeq (dAsg (dFresh (dLc (iSeq (dVar 3)) (gdName 7) (dBool (dOp dNe (dVar 7) (dVar 6))) (dVar 7) [7])) (gdName 3))
  (dAsg (dOp dAdd (dVar 4) (dTup (dCons (dVar 6) dNil))) (gdName 4)))))))
  (dRet (dVar 4)))))
def sp_law_not_orders : SpD := fun ds W Q _ => ∃ (p g : Addr) (n : Nat) (h : Hist), ds = [.ref p, .lst ((namesH h).map nameD)] ∧ Good h ∧ StOk W p g (n + 1) ∧ ∀ rows W', (∀ d ∈ rows, NotOrd h d ∧ vok d = true) → rows.length ≤ 20 → StOk W' p g n → Q (.lst rows) W'
def d_law_not_orders : TSD := (dSeq (dAsg (dOp dIx (dVar 1) (dCall sp_law_draw 2 (dCons (dVar 0) (dCons (dCB dLen (dCons (dVar 1) dNil)) dNil)))) (gdName 2))
  (dSeq (dAsgO 3 (dLstN (dCons (dCB dTupC (dCons (dSl dCut (dVar 1) dNoP (dPart (dNeg (dC (.int 1))))) dNil)) (dCons (dOp dAdd (dCB dTupC (dCons (dVar 1) dNil)) (dTup (dCons (dVar 2) dNil))) (dCons (dCB dListC (dCons (dVar 1) dNil)) (dCons (dC .non) (dCons (dC (.int 5)) (dCons (dOp dAdd (dCB dTupC (dCons (dVar 1) dNil)) (dTup (dCons (dTup (dCons (dCB dLen (dCons (dVar 1) dNil)) (dCons (dC (.int 30)) dNil))) dNil))) dNil))))))))
  (dSeq (dAsgO 3 (dCatO 3 (dLst (dCons (dOp dAdd (dCB dTupC (dCons (dFresh (dLc (iSeq (dVar 1)) (gdName 4) (dBool (dOp dNe (dVar 4) (dVar 2))) (dVar 4) [4])) dNil)) (dTup (dCons (dC .non) dNil))) (dCons (dCB dTupC (dCons (dFresh (dLc (iSeq (dVar 1)) (gdName 4) dYes (dCB dListC (dCons (dVar 4) dNil)) [4])) dNil)) dNil)))))
  (dSeq (dIfS (dBool (dOp dLt (dOp dIx (dVar 2) (dC (.int 1))) (dC (.int 2)))) (dApp 3 (dOp dAdd (dCB dTupC (dCons (dFresh (dLc (iSeq (dVar 1)) (gdName 4) (dBool (dOp dNe (dVar 4) (dVar 2))) (dVar 4) [4])) dNil)) (dTup (dCons (dTup (dCons (dOp dIx (dVar 2) (dC (.int 0))) (dCons (dOp dEq (dOp dIx (dVar 2) (dC (.int 1))) (dC (.int 1))) dNil))) dNil)))) dNext)
  (dFrz 3 (dRet (dVar 3)))))))
def sp_law : SpD := spTrue
def d_law : TSD := (dSeq (dAsg (dCall sp_law_begin 1 (dCons (dVar 0) dNil)) (gdName 1))
  (dSeq (dAsg (dCall sp_law_draw 2 (dCons (dVar 1) (dCons (dC (.int 4)) dNil))) (gdName 2))
  (dSeq (dIfS (dBool (dOp dEq (dVar 2) (dC (.int 1)))) (dSeq (dAsg (dCall sp_law_keys 2 (dCons (dVar 1) (dCons (dOp dAdd (dC (.int 1)) (dCall sp_law_draw 2 (dCons (dVar 1) (dCons (dC (.int 8)) dNil)))) dNil))) (gdName 3))
  (dAsg (dCall sp_law_history 5 (dCons (dVar 1) (dCons (dC (.int 24)) (dCons (dC (.int 12)) (dCons (dVar 3) (dCons (dC (.int 2)) dNil)))))) (gdName 4))) (dIfS (dBool (dOp dEq (dVar 2) (dC (.int 2)))) (dSeq (dAsg (dCall sp_law_keys 2 (dCons (dVar 1) (dCons (dOp dAdd (dC (.int 4)) (dCall sp_law_draw 2 (dCons (dVar 1) (dCons (dC (.int 9)) dNil)))) dNil))) (gdName 3))
  (dAsg (dCall sp_law_history 5 (dCons (dVar 1) (dCons (dC (.int 4)) (dCons (dC (.int 4)) (dCons (dVar 3) (dCons (dC (.int 12)) dNil)))))) (gdName 4))) (dSeq (dAsg (dCall sp_law_keys 2 (dCons (dVar 1) (dCons (dOp dAdd (dC (.int 1)) (dCall sp_law_draw 2 (dCons (dVar 1) (dCons (dC (.int 3)) dNil)))) dNil))) (gdName 3))
  (dAsg (dCall sp_law_history 5 (dCons (dVar 1) (dCons (dC (.int 5)) (dCons (dC (.int 4)) (dCons (dVar 3) (dCons (dC (.int 3)) dNil)))))) (gdName 4)))))
  (dSeq (dAsg (dCall sp_law_names 1 (dCons (dVar 4) dNil)) (gdName 5))
  (dSeq (dAsg (dCall sp_law_before 1 (dCons (dVar 4) dNil)) (gdName 6))
  (dSeq (dAsgN 7)
  (dSeq (dFor (iSeq (dVar 5)) (gdName 8)
  (dNPutO 7 (dCall sp_law_closure 2 (dCons (dVar 6) (dCons (dVar 8) dNil))) (dVar 8)))
  (dFrzN 7 (dSeq (dAsgO 9 (dLstN dNil))
  (dSeq (dIfS (dBool (dOp dLe (dCB dLen (dCons (dVar 5) dNil)) (dC (.int 4)))) (dAsg (dCall sp_law_all_orders 1 (dCons (dVar 5) dNil)) (gdName 9)) (dSeq (dAsg (dC (.int 20)) (gdName 10))
  (dSeq (dIfS (dBool (dOp dGt (dCB dLen (dCons (dVar 5) dNil)) (dC (.int 8)))) (dAsg (dC (.int 3)) (gdName 10)) dNext)
  (dFor (iRngD1 (dCons (dVar 10) dNil)) (gdName 11)
  (dApp 9 (dCall sp_law_drawn_order 3 (dCons (dVar 1) (dCons (dVar 6) (dCons (dOp dGt (dCall sp_law_draw 2 (dCons (dVar 1) (dCons (dC (.int 8)) dNil))) (dC (.int 0))) dNil)))))))))
  (dFrz 9 (dSeq (dFor (iSeq (dVar 9)) (gdName 12)
  (dIfS (dNotB (dBool (dCall sp_law_same 2 (dCons (dCall sp_order_fault 2 (dCons (dVar 4) (dCons (dVar 12) dNil))) (dCons (dCall sp_law_due 4 (dCons (dVar 4) (dCons (dVar 6) (dCons (dVar 7) (dCons (dVar 12) dNil))))) dNil))))) (dRet (dC (.bl false))) dNext))
  (dSeq (dFor (iSeq (dCall sp_law_not_orders 2 (dCons (dVar 1) (dCons (dVar 5) dNil)))) (gdName 13)
  (dIfS (dNotB (dBool (dCall sp_law_same 2 (dCons (dCall sp_order_fault 2 (dCons (dVar 4) (dCons (dVar 13) dNil))) (dCons (dTup (dCons (dC (.str "form")) dNil)) dNil))))) (dRet (dC (.bl false))) dNext))
  (dRet (dC (.bl true))))))))))))))))
end K54
namespace K54
open PySem PySem.Spec L2 G TL C LV
theorem rd_is_integer : Rd n_is_integer 1 sp_is_integer d_is_integer := by
  rintro ds W Q Qx _ ⟨d, rfl, hs, h⟩
  rcases ok_cases hs with rfl | ⟨_, rfl⟩ | ⟨_, rfl⟩ | ⟨_, rfl, _⟩ | ⟨_, rfl, _⟩ | ⟨_, rfl⟩ | ⟨_, _, rfl⟩
  · exact ⟨_, false, rfl, rfl, h⟩
  · exact ⟨_, true, rfl, rfl, _, true, rfl, rfl, h⟩
  · exact ⟨_, true, rfl, rfl, _, false, rfl, rfl, h⟩
  · exact ⟨_, false, rfl, rfl, h⟩
  · exact ⟨_, false, rfl, rfl, h⟩
  · exact ⟨_, false, rfl, rfl, h⟩
  · exact ⟨_, false, rfl, rfl, h⟩
theorem rd_is_from : Rd n_is_from 2 sp_is_from d_is_from := by
  rintro ds W Q Qx _ ⟨k, d, rfl, hs, h⟩
  refine ⟨rfl, d, rfl, hs, ?_⟩
  rcases ok_cases hs with rfl | ⟨_, rfl⟩ | ⟨_, rfl⟩ | ⟨_, rfl, _⟩ | ⟨_, rfl, _⟩ | ⟨_, rfl⟩ | ⟨_, _, rfl⟩ <;> exact h
theorem len_eqB (n : Nat) (m : Nat) : decide ((n : Int) = (m : Int)) = decide (n = m) := decide_eq_decide.mpr (by omega)
theorem rd_is_tuple_of : Rd n_is_tuple_of 2 sp_is_tuple_of d_is_tuple_of := by
  rintro ds W Q Qx _ ⟨k, d, rfl, hs, h⟩
  show d_is_tuple_of _ [some (.sh (.int k)), some (.sh d)] W
  unfold d_is_tuple_of
  rcases ok_cases hs with rfl | ⟨_, rfl⟩ | ⟨_, rfl⟩ | ⟨_, rfl, _⟩ | ⟨_, rfl, _⟩ | ⟨_, rfl⟩ | ⟨_, _, rfl⟩
  · exact ⟨_, false, rfl, rfl, h⟩
  · exact ⟨_, false, rfl, rfl, h⟩
  · exact ⟨_, false, rfl, rfl, h⟩
  · exact ⟨_, false, rfl, rfl, h⟩
  · refine ⟨_, true, rfl, rfl, dEq_int ?_⟩
    rw [len_eqB]; exact h
  · exact ⟨_, false, rfl, rfl, h⟩
  · exact ⟨_, false, rfl, rfl, h⟩
theorem le_signs (c : Nat) {P : D → Prop} (hP : P (.bl (decide (32 ≤ c) && decide (c ≤ 126)))) : (match D.bl (!ltS (mkS [c]) (mkS [32])) with | .v (.bl true) => P (.bl (!ltS (mkS [126]) (mkS [c]))) | .v (.bl false) => P (.bl false) | _ => False) := by
  by_cases h32 : c < 32
  · rw [ltS_one, decide_eq_true h32]
    rw [decide_eq_false (by omega : ¬ 32 ≤ c)] at hP
    exact hP
  · rw [ltS_one, ltS_one, decide_eq_false h32]
    have e : decide (c ≤ 126) = !decide (126 < c) := by
      by_cases h : c ≤ 126
      · rw [decide_eq_true h, decide_eq_false (by omega)]; rfl
      · rw [decide_eq_false h, decide_eq_true (by omega)]; rfl
    rw [decide_eq_true (by omega : 32 ≤ c), Bool.true_and, e] at hP
    exact hP
theorem text_body {d : D} {W : Wd} {P : D → G.Env → Wd → Prop} {Px : KX} (hs : vok d = true) (h : P (.bl (isTextD d)) [some (.sh d), none] W) :
    (dAnd (dCB dIsi (dCons (dVar 0) (dCons (dC (.ty "str")) dNil))) (dCB dAll (dCons (dFresh (dLc (iStrD (dVar 0)) (gdName 1) dYes (dChain dLe dLe (dC (.str " ")) (dVar 1) (dC (.str "~"))) [1])) dNil))) [some (.sh d), none] W P Px := by
  rw [so_sp, so_ti]
  rcases ok_cases hs with rfl | ⟨_, rfl⟩ | ⟨_, rfl⟩ | ⟨s, rfl, hl⟩ | ⟨_, rfl, _⟩ | ⟨_, rfl⟩ | ⟨_, _, rfl⟩
  · exact ⟨_, false, rfl, rfl, h⟩
  · exact ⟨_, false, rfl, rfl, h⟩
  · exact ⟨_, false, rfl, rfl, h⟩
  · refine ⟨_, true, rfl, rfl, ?_⟩
    refine dLc_mapF (tl s) (fun c => .str (mkS [c])) (fun c => .bl (decide (32 ≤ c) && decide (c ≤ 126))) (noOwn1 (by simp)) (sz _ (by rw [← len_tl s]; omega)) (fun P hP => hP) (fun c hc P hP => ?_) ?_
    · exact le_signs c (P := fun z => P z _ _) hP
    · refine ⟨(tl s).map fun c => decide (32 ≤ c) && decide (c ≤ 126), bls_map _ _, ?_⟩
      rw [List.all_map]
      exact h
  · exact ⟨_, false, rfl, rfl, h⟩
  · exact ⟨_, false, rfl, rfl, h⟩
  · exact ⟨_, false, rfl, rfl, h⟩
theorem rd_is_text : Rd n_is_text 1 sp_is_text d_is_text := by
  rintro ds W Q Qx _ ⟨d, rfl, hs, h⟩
  exact text_body hs h
theorem inV_strs (s : Str) : ∀ l : List Str, inV (.str s) (l.map V.str) = decide (s ∈ l)
  | [] => rfl
  | a :: l => by
    have e := inV_strs s l
    unfold inV at e ⊢
    rw [List.map_cons, List.any_cons, e]
    have : eqV (V.str a) (.str s) = decide (a = s) := rfl
    rw [this, Bool.eq_iff_iff, Bool.or_eq_true, decide_eq_true_eq, decide_eq_true_eq, decide_eq_true_eq, List.mem_cons]
    exact ⟨fun z => z.elim (fun z => .inl z.symm) .inr, fun z => z.elim (fun z => .inl z.symm) .inr⟩
theorem flat_strs : ∀ l : List Str, flatOf (l.map D.str) = some (l.map V.str) ∧ (l.map V.str).all flatV = true
  | [] => ⟨rfl, rfl⟩
  | a :: r => by
    obtain ⟨h1, h2⟩ := flat_strs r
    refine ⟨?_, ?_⟩
    · show (flatOf (r.map D.str)).map (V.str a :: ·) = _
      rw [h1]; rfl
    · show (flatV (V.str a) && (r.map V.str).all flatV) = true
      rw [h2]; rfl
/-- text in a tuple or list of texts -/
theorem in_strs {neg : Bool} {s : Str} {l : List Str} {c : D} {P : D → Prop} (hc : c = .tup (l.map D.str) ∨ c = .lst (l.map D.str)) (h : P (.bl (if neg = true then !decide (s ∈ l) else decide (s ∈ l)))) : dInB neg (.str s) c P := by
  obtain ⟨f1, f2⟩ := flat_strs l
  rcases hc with rfl | rfl
  · refine .inl ⟨_, f1, rfl, f2, ?_⟩
    rw [inV_strs]; exact h
  · refine .inl ⟨_, f1, rfl, f2, ?_⟩
    rw [inV_strs]; exact h
theorem rd_is_level : Rd n_is_level 1 sp_is_level d_is_level := by
  rintro ds W Q Qx _ ⟨d, rfl, hs, h⟩
  rcases ok_cases hs with rfl | ⟨_, rfl⟩ | ⟨_, rfl⟩ | ⟨s, rfl, hl⟩ | ⟨_, rfl, _⟩ | ⟨_, rfl⟩ | ⟨_, _, rfl⟩
  · exact ⟨_, false, rfl, rfl, h⟩
  · exact ⟨_, false, rfl, rfl, h⟩
  · exact ⟨_, false, rfl, rfl, h⟩
  · refine ⟨_, true, rfl, rfl, ?_⟩
    exact in_strs (neg := false) (l := levelsS) (.inl rfl) h
  · exact ⟨_, false, rfl, rfl, h⟩
  · exact ⟨_, false, rfl, rfl, h⟩
  · exact ⟨_, false, rfl, rfl, h⟩
end K54
namespace K54
open PySem PySem.Spec L2 G TL C LV
theorem nm_len {ds : List D} : isNmD (.tup ds) = (decide (ds.length = 2) && ds.all (isFromD 0)) := by
  match ds with
  | [] => rfl
  | [_] => rfl
  | [a, b] => show (isFromD 0 a && isFromD 0 b) = (true && (isFromD 0 a && (isFromD 0 b && true))); rw [Bool.and_true, Bool.true_and]
  | _ :: _ :: _ :: r => show false = (decide (r.length + 3 = 2) && _); rw [decide_eq_false (by omega)]; rfl
theorem rd_is_name_form : Rd n_is_name_form 1 sp_is_name_form d_is_name_form := by
  rintro ds W Q Qx _ ⟨d, rfl, hs, h⟩
  show d_is_name_form _ [some (.sh d), none] W
  unfold d_is_name_form
  refine ⟨rfl, 2, d, rfl, hs, ?_⟩
  rcases ok_cases hs with rfl | ⟨_, rfl⟩ | ⟨_, rfl⟩ | ⟨s, rfl, hl⟩ | ⟨xs, rfl, hl, hx⟩ | ⟨_, rfl⟩ | ⟨_, _, rfl⟩
  · exact h
  · exact h
  · exact h
  · exact h
  · rw [nm_len] at h
    show (match D.bl (true && decide (xs.length = 2)) with | .v (.bl true) => _ | .v (.bl false) => _ | _ => False)
    rw [Bool.true_and]
    by_cases e : xs.length = 2
    · rw [decide_eq_true e] at h ⊢
      refine dLc_mapF xs id (fun x => .bl (isFromD 0 x)) (noOwn1 (by simp)) (sz _ (by omega)) (fun P hP => by rw [List.map_id] at hP; exact hP) (fun x hx0 P hP => ⟨rfl, 0, x, rfl, hx x hx0, hP⟩) ?_
      refine ⟨xs.map (isFromD 0), bls_map _ _, ?_⟩
      rw [List.all_map]
      rw [Bool.true_and] at h
      exact h
    · rw [decide_eq_false e] at h ⊢
      exact h
  · exact h
  · exact h
theorem rd_len {ds : List D} (h : ds.length ≠ 2) : isRdD (.tup ds) = false := by
  match ds, h with
  | [], _ => rfl
  | [_], _ => rfl
  | [a, b], h => exact absurd rfl h
  | _ :: _ :: _ :: _, _ => rfl
theorem rd_is_read_form : Rd n_is_read_form 1 sp_is_read_form d_is_read_form := by
  rintro ds W Q Qx _ ⟨d, rfl, hs, h⟩
  show d_is_read_form _ [some (.sh d)] W
  unfold d_is_read_form
  refine ⟨rfl, 2, d, rfl, hs, ?_⟩
  rcases ok_cases hs with rfl | ⟨_, rfl⟩ | ⟨_, rfl⟩ | ⟨s, rfl, hl⟩ | ⟨xs, rfl, hl, hx⟩ | ⟨_, rfl⟩ | ⟨_, _, rfl⟩
  · exact h
  · exact h
  · exact h
  · exact h
  · show (match D.bl (true && decide (xs.length = 2)) with | .v (.bl true) => _ | .v (.bl false) => _ | _ => False)
    rw [Bool.true_and]
    by_cases e : xs.length = 2
    · rw [decide_eq_true e]
      match xs, e, hx with
      | [a, b], _, hx =>
        have ha := hx a (by simp)
        have hb := hx b (by simp)
        refine ⟨a, atI_of (i := 0) rfl, rfl, a, rfl, ha, ?_⟩
        have h : Q (.bl (isTextD a && (isNonD b || isNmD b))) W := h
        cases ta : isTextD a with
        | false => rw [ta] at h; exact h
        | true =>
          rw [ta, Bool.true_and] at h
          refine ⟨b, atI_of (i := 1) rfl, ?_⟩
          rcases ok_cases hb with rfl | ⟨_, rfl⟩ | ⟨_, rfl⟩ | ⟨s, rfl, hl⟩ | ⟨xs, rfl, hl, hx⟩ | ⟨_, rfl⟩ | ⟨_, _, rfl⟩
          · exact h
          all_goals exact ⟨_, atI_of (i := 1) rfl, rfl, _, rfl, hb, h⟩
    · rw [decide_eq_false e]
      rw [rd_len e] at h; exact h
  · exact h
  · exact h
theorem ord_range : ∀ L : List (List Nat), ((List.range (L.length - 1)).all fun k => decide (L.getD k [] < L.getD (k + 1) [])) = ordB L
  | [] => rfl
  | [a] => rfl
  | a :: b :: r => by
    have ih := ord_range (b :: r)
    show ((List.range (r.length + 1)).all fun k => decide ((a :: b :: r).getD k [] < (a :: b :: r).getD (k + 1) [])) = (decide (a < b) && ordB (b :: r))
    rw [List.range_succ_eq_map, List.all_cons, List.all_map, ← ih]
    rfl
theorem key_at {ws : List D} (ht : ws.all isTextD = true) {k : Nat} (hk : k < ws.length) : ws[k]? = some (.str (mkS ((ws.map strD).getD k []))) := by
  have e : ws[k]? = some ws[k] := List.getElem?_eq_getElem hk
  obtain ⟨l, hl, _⟩ := text_of (List.all_eq_true.mp ht _ (List.getElem_mem hk))
  rw [e, hl, List.getD_eq_getElem?_getD, List.getElem?_map, e, hl]
  show some _ = some (D.str (mkS (tl (mkS l))))
  rw [tl_mkS]
theorem rd_are_keys : Rd n_are_keys 1 sp_are_keys d_are_keys := by
  rintro ds W Q Qx _ ⟨d, rfl, hs, h⟩
  show d_are_keys _ [some (.sh d), none, none] W
  unfold d_are_keys
  rcases ok_cases hs with rfl | ⟨_, rfl⟩ | ⟨_, rfl⟩ | ⟨s, rfl, hl⟩ | ⟨xs, rfl, hl, hx⟩ | ⟨_, rfl⟩ | ⟨_, _, rfl⟩
  · exact ⟨_, false, rfl, rfl, h⟩
  · exact ⟨_, false, rfl, rfl, h⟩
  · exact ⟨_, false, rfl, rfl, h⟩
  · exact ⟨_, false, rfl, rfl, h⟩
  · refine ⟨_, true, rfl, rfl, ?_⟩
    refine hno ?_
    refine dLc_mapF xs id (fun x => .bl (isTextD x)) (noOwn1 (by simp)) (sz _ (by omega)) (fun P hP => by rw [List.map_id] at hP; exact hP) (fun x hx0 P hP => ⟨rfl, x, rfl, hx x hx0, hP⟩) ?_
    refine ⟨xs.map isTextD, bls_map _ _, ?_⟩
    rw [List.all_map]
    have h : Q (.bl (xs.all isTextD && ordB (xs.map strD))) W := h
    have e0 : xs.all (id ∘ isTextD) = xs.all isTextD := rfl
    rw [e0]
    cases ta : xs.all isTextD with
    | false => rw [ta] at h; exact h
    | true =>
      rw [ta, Bool.true_and, ← ord_range, List.length_map] at h
      have lim : ((xs.length : Nat) : Int) - 1 < 2 ^ 62 := by omega
      refine dLc_mapF (List.range (xs.length - 1)) (fun i => .int (0 + (i : Int))) (fun k => .bl (decide ((xs.map strD).getD k [] < (xs.map strD).getD (k + 1) []))) (noOwn1 (by simp)) (sz _ (by rw [List.length_range]; omega)) (fun P hP => ?_) (fun k hk P hP => ?_) ?_
      · refine ⟨by omega, lim, ?_⟩
        have : (((xs.length : Nat) : Int) - 1).toNat = xs.length - 1 := by omega
        rw [this]; exact hP
      · rw [List.mem_range] at hk
        have k1 := key_at ta (k := k) (by omega)
        have k2 := key_at ta (k := k + 1) (by omega)
        rw [show (0 : Int) + (k : Int) = (k : Int) by omega] at hP ⊢
        exact ⟨_, atI_of k1, _, atI_of k2, hP⟩
      · refine ⟨(List.range (xs.length - 1)).map fun k => decide ((xs.map strD).getD k [] < (xs.map strD).getD (k + 1) []), bls_map _ _, ?_⟩
        rw [List.all_map]
        exact h
  · exact ⟨_, false, rfl, rfl, h⟩
  · exact ⟨_, false, rfl, rfl, h⟩
end K54
namespace K54
open PySem PySem.Spec L2 G TL C LV
def rdT (k : Nat) (x : D) : Option (List Nat) := if isRdD x = true then none else some [1, k]
theorem txF_three (l r w : D) : txF (.tup [l, r, w]) = if isLvD l = true then (match r with
    | .tup rs => (match firstI rdT 0 rs with | some p => some p | none => if keysB w = true then none else some [2])
    | _ => some [1]) else some [0] := rfl
theorem txF_not {d : D} (h : (isTupD d && decide (lenD d = 3)) = false) : txF d = some [] := by
  cases d with
  | tup xs =>
    match xs with
    | [] => rfl
    | [_] => rfl
    | [_, _] => rfl
    | [_, _, _] => cases h
    | _ :: _ :: _ :: _ :: _ => rfl
  | _ => rfl
theorem three_of {d : D} (h : (isTupD d && decide (lenD d = 3)) = true) : ∃ l r w, d = .tup [l, r, w] := by
  cases d with
  | tup xs =>
    have : xs.length = 3 := of_decide_eq_true h
    match xs, this with
    | [l, r, w], _ => exact ⟨l, r, w, rfl⟩
  | _ => cases h
theorem rd_transaction_fault : Rd n_transaction_fault 1 sp_transaction_fault d_transaction_fault := by
  rintro ds W Q Qx _ ⟨d, rfl, hs, h⟩
  show d_transaction_fault _ [some (.sh d), none, none, none, none, none] W
  unfold d_transaction_fault
  refine ⟨rfl, 3, d, rfl, hs, ?_⟩
  cases e3 : isTupD d && decide (lenD d = 3) with
  | false =>
    rw [txF_not e3] at h
    exact hyes ⟨sz 0 (by decide), h⟩
  | true =>
    obtain ⟨l, r, w, rfl⟩ := three_of e3
    obtain ⟨_, hv⟩ := vok_tup.mp hs
    have vl := hv l (by simp)
    have vr := hv r (by simp)
    have vw := hv w (by simp)
    rw [txF_three] at h
    refine hno (gd3 (nxq ?_))
    show dSeq _ _ _ [some (.sh (.tup [l, r, w])), some (.sh l), some (.sh r), some (.sh w), none, none] W
    refine ⟨rfl, l, rfl, vl, ?_⟩
    cases el : isLvD l with
    | false =>
      rw [el, if_neg Bool.false_ne_true] at h
      exact hyes ⟨sz 1 (by decide), h⟩
    | true =>
      rw [el, if_pos rfl] at h
      refine hno ?_
      have notup : ∀ {t : String}, tyD r = some t → kitB t "tuple" = some false → Q (placeD (some [1])) W → dSeq (dIfS (dNotB (dBool (dCB dIsi (dCons (dVar 2) (dCons (dC (.ty "tuple")) dNil))))) (dRet (dTup (dCons (dC (.int 1)) dNil))) dNext)
          (dSeq (dFor (iEnumD (dCons (dVar 2) dNil)) (gdTup 2 (gdCons (gdName 4) (gdCons (gdName 5) gdNil)))
            (dIfS (dNotB (dBool (dCall sp_is_read_form 1 (dCons (dVar 5) dNil)))) (dRet (dTup (dCons (dC (.int 1)) (dCons (dVar 4) dNil)))) dNext))
          (dRet (dIf (dBool (dCall sp_are_keys 1 (dCons (dVar 3) dNil))) (dC .non) (dTup (dCons (dC (.int 2)) dNil))))) { nx := fun _ W' => Q .non W', rt := Q, ex := fun cls x _ W' => Qx cls x W' } [some (.sh (.tup [l, r, w])), some (.sh l), some (.sh r), some (.sh w), none, none] W := fun h1 h2 q => ⟨_, false, h1, h2, hyes ⟨sz 1 (by decide), q⟩⟩
      rcases ok_cases vr with rfl | ⟨_, rfl⟩ | ⟨_, rfl⟩ | ⟨s, rfl, _⟩ | ⟨rs, rfl, hrl, hrx⟩ | ⟨_, rfl⟩ | ⟨_, _, rfl⟩
      · exact notup rfl rfl h
      · exact notup rfl rfl h
      · exact notup rfl rfl h
      · exact notup rfl rfl h
      · refine ⟨_, true, rfl, rfl, hno (nxs ?_)⟩
        show dSeq _ _ _ [some (.sh (.tup [l, .tup rs, w])), some (.sh l), some (.sh (.tup rs)), some (.sh w), none, none] W
        refine seq_gen (fun ρ W' => W' = W ∧ firstI rdT 0 rs = none ∧ ∃ x4 x5 : Option D, ρ = [some (.sh (.tup [l, .tup rs, w])), some (.sh l), some (.sh (.tup rs)), some (.sh w), x4.map Sl.sh, x5.map Sl.sh]) (fun ρ W' hI => ?_) (fun N hN => ?_)
        · obtain ⟨rfl, hf, x4, x5, rfl⟩ := hI
          have h : Q (placeD (match firstI rdT 0 rs with | some p => some p | none => if keysB w = true then none else some [2])) W' := h
          rw [hf] at h
          refine ⟨rfl, w, rfl, vw, ?_⟩
          have h : Q (placeD (if keysB w = true then none else some [2])) W' := h
          cases ek : keysB w with
          | true => rw [ek, if_pos rfl] at h; exact ite_t h
          | false => rw [ek, if_neg Bool.false_ne_true] at h; exact ite_f ⟨sz 1 (by decide), h⟩
        · refine dFor_of (enumD rs) (fun i ρ W' => W' = W ∧ firstI rdT 0 (rs.take i) = none ∧ ∃ x4 x5 : Option D, ρ = [some (.sh (.tup [l, .tup rs, w])), some (.sh l), some (.sh (.tup rs)), some (.sh w), x4.map Sl.sh, x5.map Sl.sh]) (fun P hP => hP) ⟨rfl, rfl, none, none, rfl⟩ (fun i d ρ W' hd hI => ?_) (fun ρ W' hI => ?_)
          · obtain ⟨rfl, hf, x4, x5, rfl⟩ := hI
            obtain ⟨x, hx, rfl⟩ := enumD_at hd
            refine gd2 ?_
            show dIfS _ _ _ _ [some (.sh (.tup [l, .tup rs, w])), some (.sh l), some (.sh (.tup rs)), some (.sh w), some (.sh (.int (i : Nat))), some (.sh x)] W'
            refine ⟨rfl, x, rfl, hrx x (List.mem_of_getElem? hx), ?_⟩
            cases ex : isRdD x with
            | true =>
              refine hno ⟨rfl, ?_, some (.int (i : Nat)), some x, rfl⟩
              rw [firstI_snoc rdT hx hf]
              unfold rdT; rw [ex, if_pos rfl]
            | false =>
              refine hyes ⟨sz 2 (by decide), ?_⟩
              have hb : rdT i x = some [1, i] := by unfold rdT; rw [ex, if_neg Bool.false_ne_true]
              have h : Q (placeD (match firstI rdT 0 rs with | some p => some p | none => if keysB w = true then none else some [2])) W' := h
              rw [firstI_hit rdT hx hf hb] at h
              exact h
          · obtain ⟨rfl, hf, x4, x5, rfl⟩ := hI
            rw [enumD_len, List.take_length] at hf
            exact hN _ _ ⟨rfl, hf, x4, x5, rfl⟩
      · exact notup rfl rfl h
      · exact notup rfl rfl h
end K54
namespace K54
open PySem PySem.Spec L2 G TL C LV
theorem rd_form_fault : Rd n_form_fault 1 sp_form_fault d_form_fault := by
  rintro ds W Q Qx _ ⟨d, rfl, hs, h⟩
  show d_form_fault _ [some (.sh d), none, none, none, none, none] W
  unfold d_form_fault
  rcases ok_cases hs with rfl | ⟨_, rfl⟩ | ⟨_, rfl⟩ | ⟨s, rfl, hl⟩ | ⟨ss, rfl, hl, hx⟩ | ⟨_, rfl⟩ | ⟨_, _, rfl⟩
  · exact ⟨_, false, rfl, rfl, ⟨sz 0 (by decide), h⟩⟩
  · exact ⟨_, false, rfl, rfl, ⟨sz 0 (by decide), h⟩⟩
  · exact ⟨_, false, rfl, rfl, ⟨sz 0 (by decide), h⟩⟩
  · exact ⟨_, false, rfl, rfl, ⟨sz 0 (by decide), h⟩⟩
  · have h : Q (placeD (if 12 < ss.length then some [] else firstI (fun n s => sesF n ss.length s) 0 ss)) W := h
    refine ⟨_, true, rfl, rfl, hno ?_⟩
    show (if decide ((12 : Int) < ((ss.length : Nat) : Int)) = true then _ else _)
    by_cases e12 : 12 < ss.length
    · rw [if_pos e12] at h
      rw [decide_eq_true (by omega)]
      exact ite_t ⟨sz 0 (by decide), h⟩
    · rw [if_neg e12] at h
      rw [decide_eq_false (by omega)]
      refine ite_f (nxs ?_)
      refine seq_gen (fun ρ W' => W' = W ∧ firstI (fun n s => sesF n ss.length s) 0 ss = none) (fun ρ W' hI => ?_) (fun N hN => ?_)
      · obtain ⟨rfl, hf⟩ := hI
        rw [hf] at h; exact h
      refine dFor_of (enumD ss) (fun i ρ W' => W' = W ∧ firstI (fun n s => sesF n ss.length s) 0 (ss.take i) = none ∧ ∃ x1 x2 x3 x4 x5 : Option D, ρ = [some (.sh (.tup ss)), x1.map Sl.sh, x2.map Sl.sh, x3.map Sl.sh, x4.map Sl.sh, x5.map Sl.sh]) (fun P hP => hP) ⟨rfl, rfl, none, none, none, none, none, rfl⟩ (fun n d ρ W' hd hI => ?turn) (fun ρ W' hI => ?done)
      case done =>
        obtain ⟨rfl, hf, _⟩ := hI
        rw [enumD_len, List.take_length] at hf
        exact hN _ _ ⟨rfl, hf⟩
      obtain ⟨rfl, hf, x1, x2, x3, x4, x5, rfl⟩ := hI
      obtain ⟨s, hsn, rfl⟩ := enumD_at hd
      have nlt := (List.getElem?_eq_some_iff.mp hsn).1
      have vs := hx s (List.mem_of_getElem? hsn)
      refine gd2 ?_
      have hit : ∀ p, sesF n ss.length s = some p → Q (placeD (some p)) W' := fun p hp => by
        have := firstI_hit (fun n s => sesF n ss.length s) hsn hf hp
        rw [this] at h; exact h
      have go : sesF n ss.length s = none → firstI (fun n s => sesF n ss.length s) 0 (ss.take (n + 1)) = none := fun e => by
        rw [firstI_snoc (fun n s => sesF n ss.length s) hsn hf]; exact e
      show dSeq _ _ _ [some (.sh (.tup ss)), some (.sh (.int (n : Nat))), some (.sh s), x3.map Sl.sh, x4.map Sl.sh, x5.map Sl.sh] W'
      have notup : ∀ {t : String}, tyD s = some t → kitB t "tuple" = some false → sesF n ss.length s = some [n] → Q (placeD (some [n])) W' := fun _ _ e => hit _ e
      rcases ok_cases vs with rfl | ⟨_, rfl⟩ | ⟨_, rfl⟩ | ⟨_, rfl, _⟩ | ⟨ts, rfl, htl, htx⟩ | ⟨_, rfl⟩ | ⟨_, _, rfl⟩
      · exact ⟨_, false, rfl, rfl, ⟨sz 1 (by decide), hit _ rfl⟩⟩
      · exact ⟨_, false, rfl, rfl, ⟨sz 1 (by decide), hit _ rfl⟩⟩
      · exact ⟨_, false, rfl, rfl, ⟨sz 1 (by decide), hit _ rfl⟩⟩
      · exact ⟨_, false, rfl, rfl, ⟨sz 1 (by decide), hit _ rfl⟩⟩
      · refine ⟨_, true, rfl, rfl, hno ⟨sz 0 (by decide), ⟨ts, rfl, rfl, ?_⟩⟩⟩
        have inner : ¬ (ts = [] ∧ n + 1 = ss.length) → dFor (iEnumD (dCons (dVar 2) dNil)) (gdTup 2 (gdCons (gdName 3) (gdCons (gdName 4) gdNil)))
            (dSeq (dAsg (dCall sp_transaction_fault 1 (dCons (dVar 4) dNil)) (gdName 5))
              (dIfS (dBool (dOp dNotA (dVar 5) (dC .non))) (dRet (dOp dAdd (dTup (dCons (dVar 1) (dCons (dVar 3) dNil))) (dVar 5))) dNext))
            { nx := fun ρ W'_1 => W'_1 = W' ∧ firstI (fun n s => sesF n ss.length s) 0 (ss.take (n + 1)) = none ∧ ∃ x1 x2 x3 x4 x5 : Option D, ρ = [some (.sh (.tup ss)), x1.map Sl.sh, x2.map Sl.sh, x3.map Sl.sh, x4.map Sl.sh, x5.map Sl.sh], rt := Q, bk := N, ct := fun ρ W'_1 => W'_1 = W' ∧ firstI (fun n s => sesF n ss.length s) 0 (ss.take (n + 1)) = none ∧ ∃ x1 x2 x3 x4 x5 : Option D, ρ = [some (.sh (.tup ss)), x1.map Sl.sh, x2.map Sl.sh, x3.map Sl.sh, x4.map Sl.sh, x5.map Sl.sh], ex := fun cls x _ W' => Qx cls x W' }
            [some (.sh (.tup ss)), some (.sh (.int (n : Nat))), some (.sh (.tup ts)), x3.map Sl.sh, x4.map Sl.sh, x5.map Sl.sh] W' := fun hne => by
          have se : sesF n ss.length (.tup ts) = firstI (fun i t => (txF t).map fun p => n :: i :: p) 0 ts := if_neg hne
          refine dFor_of (enumD ts) (fun j ρ W2 => W2 = W' ∧ firstI (fun i t => (txF t).map fun p => n :: i :: p) 0 (ts.take j) = none ∧ ∃ x3 x4 x5 : Option D, ρ = [some (.sh (.tup ss)), some (.sh (.int (n : Nat))), some (.sh (.tup ts)), x3.map Sl.sh, x4.map Sl.sh, x5.map Sl.sh]) (fun P hP => hP) ⟨rfl, rfl, x3, x4, x5, rfl⟩ (fun j d ρ W2 hd hI => ?_) (fun ρ W2 hI => ?_)
          · obtain ⟨rfl, hf2, x3, x4, x5, rfl⟩ := hI
            obtain ⟨t, htn, rfl⟩ := enumD_at hd
            refine gd2 ?_
            show dSeq _ _ _ [some (.sh (.tup ss)), some (.sh (.int (n : Nat))), some (.sh (.tup ts)), some (.sh (.int (j : Nat))), some (.sh t), x5.map Sl.sh] W2
            refine ⟨rfl, t, rfl, htx t (List.mem_of_getElem? htn), ?_⟩
            cases ef : txF t with
            | none =>
              refine ⟨rfl, ?_, some _, some _, some _, rfl⟩
              rw [firstI_snoc _ htn hf2, ef]; rfl
            | some p =>
              have hb : (fun (i : Nat) (t : D) => (txF t).map fun p => n :: i :: p) j t = some (n :: j :: p) := by show (txF t).map _ = _; rw [ef]; rfl
              have := firstI_hit _ htn hf2 hb
              have lp := txF_len ef
              have q := hit _ (se.trans this)
              refine ⟨sz 2 (by decide), sz _ (by rw [List.length_map]; show 2 + p.length ≤ _; omega), ?_⟩
              exact q
          · obtain ⟨rfl, hf2, x3, x4, x5, rfl⟩ := hI
            rw [enumD_len, List.take_length] at hf2
            exact ⟨rfl, go (se.trans hf2), some _, some _, x3, x4, x5, rfl⟩
        cases ts with
        | nil =>
          refine dEq_int ?_
          by_cases el : n + 1 = ss.length
          · rw [decide_eq_true (by omega)]
            refine ite_t ⟨sz 1 (by decide), hit _ (if_pos ⟨rfl, el⟩)⟩
          · rw [decide_eq_false (by omega)]
            exact ite_f (inner fun z => el z.2)
        | cons t ts => exact inner fun z => by cases z.1
      · exact ⟨_, false, rfl, rfl, ⟨sz 1 (by decide), hit _ rfl⟩⟩
      · exact ⟨_, false, rfl, rfl, ⟨sz 1 (by decide), hit _ rfl⟩⟩
  · exact ⟨_, false, rfl, rfl, ⟨sz 0 (by decide), h⟩⟩
  · exact ⟨_, false, rfl, rfl, ⟨sz 0 (by decide), h⟩⟩
end K54
namespace K54
open PySem PySem.Spec L2 G TL C LV
theorem hist_get {h : Hist} {s : Nat} {ses : List Tx} (e : h[s]? = some ses) : (h.map sesD)[s]? = some (.tup (ses.map txD)) := by rw [List.getElem?_map, e]; rfl
theorem enum_hist (h : Hist) : enumD (h.map sesD) = (List.range h.length).map fun (s : Nat) => .tup [.int (s : Nat), sesD (h.getD s [])] := by
  refine List.ext_getElem? fun s => ?_
  by_cases hs : s < h.length
  · have e : h[s]? = some h[s] := List.getElem?_eq_getElem hs
    have e2 : (h.map sesD)[s]? = some (sesD h[s]) := by rw [List.getElem?_map, e]; rfl
    rw [enumD_get e2, List.getElem?_map, List.getElem?_range hs]
    show _ = some (D.tup [.int (s : Nat), sesD (h.getD s [])])
    rw [getD_get e]
  · rw [List.getElem?_eq_none (by rw [enumD_len, List.length_map]; omega), List.getElem?_eq_none (by rw [List.length_map, List.length_range]; omega)]
theorem vok_ses {h : Hist} (hv : vok (histD h) = true) {s : Nat} : (h.getD s []).length ≤ 100000 := by
  by_cases hs : s < h.length
  · have e : h[s]? = some h[s] := List.getElem?_eq_getElem hs
    rw [getD_get e]
    have := (vok_tup.mp hv).2 (sesD h[s]) (List.mem_map.mpr ⟨_, List.getElem_mem hs, rfl⟩)
    have := (vok_tup.mp this).1
    rwa [List.length_map] at this
  · rw [List.getD_eq_getElem?_getD, List.getElem?_eq_none (by omega)]; decide
theorem flat_le {α β : Type} (f : α → List β) (B : Nat) : ∀ l : List α, (∀ x ∈ l, (f x).length ≤ B) → (l.flatMap f).length ≤ l.length * B
  | [], _ => by simp
  | a :: l, h => by
    rw [List.flatMap_cons, List.length_append, List.length_cons, Nat.succ_mul]
    have := flat_le f B l fun x hx => h x (List.mem_cons_of_mem _ hx)
    have := h a List.mem_cons_self
    omega
theorem names_len {h : Hist} (ok : FormOk h) (hv : vok (histD h) = true) : (namesH h).length ≤ 1200000 := by
  have : (namesH h).length ≤ (List.range h.length).length * 100000 := by
    unfold namesH
    refine flat_le (rowN h) 100000 _ fun s _ => ?_
    unfold rowN
    rw [List.length_map, List.length_range]
    exact vok_ses hv
  rw [List.length_range] at this
  have := ok.len
  omega
theorem rd_names_of : Rd n_names_of 1 sp_names_of d_names_of := by
  rintro ds W Q Qx _ ⟨h, rfl, ok, hv, hq⟩
  show d_names_of _ [some (.sh (histD h)), none, none, none] W
  unfold d_names_of
  have e : ((List.range h.length).filter fun _ => true).flatMap (fun s => ((List.range (h.getD s []).length).filter fun _ => true).map fun i => nameD (s, i)) = (namesH h).map nameD := by
    unfold namesH rowN
    rw [List.filter_eq_self.mpr fun _ _ => rfl, List.map_flatMap]
    congr 1
    funext s
    rw [List.filter_eq_self.mpr fun _ _ => rfl, List.map_map]; rfl
  refine dLc2_flat (List.range h.length) (fun (s : Nat) => .tup [.int (s : Nat), sesD (h.getD s [])]) (fun _ => true) (fun s => [some (.sh (histD h)), some (.sh (.int (s : Nat))), some (.sh (sesD (h.getD s []))), none])
    (fun s => List.range (h.getD s []).length) (fun _ i => .int (0 + (i : Int))) (fun _ _ => true) (fun s i => [some (.sh (histD h)), some (.sh (.int (s : Nat))), some (.sh (sesD (h.getD s []))), some (.sh (.int (0 + (i : Int))))]) (fun s i => nameD (s, i))
    (fun j hj o => ?_) (fun P hP => ?_) (fun s _ P hP => gd2 hP) (fun s _ P hP => hP) (fun s _ _ j hj o => ?_) (fun s _ _ P hP => ?_) (fun s _ _ i _ P hP => hP) (fun s _ _ i _ P hP => hP) (fun s _ _ i _ _ P hP => ?_) ?_ ?_
  · simp only [List.mem_cons, List.not_mem_nil, or_false] at hj
    rcases hj with rfl | rfl | rfl <;> simp
  · rw [← enum_hist] at hP; exact hP
  · simp only [List.mem_cons, List.not_mem_nil, or_false] at hj
    subst hj; simp
  · have hl := vok_ses hv (s := s)
    show -(2 ^ 62) ≤ _ ∧ _ < 2 ^ 62 ∧ P (rng 0 _) _ _
    rw [List.length_map]
    refine ⟨by omega, by omega, ?_⟩
    rw [Int.toNat_natCast]; exact hP
  · refine ⟨sz 2 (by decide), ?_⟩
    have e0 : (0 : Int) + (i : Int) = (i : Int) := by omega
    rw [e0] at hP ⊢
    exact hP
  · rw [e, List.length_map]
    exact Nat.lt_of_le_of_lt (names_len ok hv) (by decide)
  · rw [e]; exact hq
theorem hist_at {h : Hist} {n : Nat × Nat} {t : Tx} (e : txAt h n = some t) : ∃ ses, h[n.1]? = some ses ∧ ses[n.2]? = some t := txAt_get.mp e
theorem rd_transaction_of : Rd n_transaction_of 2 sp_transaction_of d_transaction_of := by
  rintro ds W Q Qx _ ⟨h, n, t, rfl, e, hq⟩
  obtain ⟨ses, e1, e2⟩ := hist_at e
  have e3 : (ses.map txD)[n.2]? = some (txD t) := by rw [List.getElem?_map, e2]; rfl
  exact ⟨_, atI_of (i := 0) rfl, _, atI_of (hist_get e1), _, atI_of (i := 1) rfl, _, atI_of e3, hq⟩
theorem rd_transaction_at : Rd n_transaction_at 2 sp_transaction_at d_transaction_at := by
  rintro ds W Q Qx _ ⟨h, n, rfl, hq⟩
  show d_transaction_at _ [some (.sh (histD h)), some (.sh (nameD n))] W
  unfold d_transaction_at
  refine ⟨_, atI_of (i := 0) rfl, ?_⟩
  show (if decide (((h.map sesD).length : Nat) ≤ (n.1 : Int)) = true then _ else _)
  rw [List.length_map]
  by_cases h1 : n.1 < h.length
  · rw [decide_eq_false (by omega)]
    have e1 : h[n.1]? = some h[n.1] := List.getElem?_eq_getElem h1
    refine ite_f ⟨_, atI_of (i := 1) rfl, _, atI_of (i := 0) rfl, _, atI_of (hist_get e1), ?_⟩
    show (if decide ((((h[n.1]).map txD).length : Nat) ≤ (n.2 : Int)) = true then _ else _)
    rw [List.length_map]
    by_cases h2 : n.2 < (h[n.1]).length
    · rw [decide_eq_false (by omega)]
      have e2 : (h[n.1])[n.2]? = some (h[n.1])[n.2] := List.getElem?_eq_getElem h2
      have e3 : txAt h n = some (h[n.1])[n.2] := txAt_get.mpr ⟨_, e1, e2⟩
      rw [e3] at hq
      exact ite_f ⟨rfl, h, n, _, rfl, e3, hq⟩
    · rw [decide_eq_true (by omega)]
      have e3 : txAt h n = none := by
        unfold txAt
        rw [e1]
        exact List.getElem?_eq_none (by omega)
      rw [e3] at hq
      exact ite_t hq
  · rw [decide_eq_true (by omega)]
    have e3 : txAt h n = none := by
      unfold txAt
      rw [List.getElem?_eq_none (by omega)]; rfl
    rw [e3] at hq
    exact ite_t hq
end K54
namespace K54
open PySem PySem.Spec L2 G TL C LV
theorem eq_name (a b : Nat × Nat) : eqD (nameD a) (nameD b) = decide (a = b) := by
  have e : eqD (nameD a) (nameD b) = (((a.1 : Int) == (b.1 : Int)) && (((a.2 : Int) == (b.2 : Int)) && true)) := by
    unfold eqD nameD
    simp [D.py, pys, PyData.eqv, PyData.eqvAll]
  obtain ⟨a1, a2⟩ := a
  obtain ⟨b1, b2⟩ := b
  rw [e, Bool.eq_iff_iff, decide_eq_true_eq, Bool.and_eq_true, Bool.and_true, beq_iff_eq, beq_iff_eq, Prod.mk.injEq]
  show (a1 : Int) = (b1 : Int) ∧ (a2 : Int) = (b2 : Int) ↔ _
  constructor <;> rintro ⟨x, y⟩ <;> constructor <;> omega
theorem dEq_name {a b : Nat × Nat} {Q : D → Prop} (h : Q (.bl (decide (a = b)))) : dEq (nameD a) (nameD b) Q := by
  have key : dEqN (nameD a) (nameD b) Q := ⟨by rfl, by rfl, by rw [eq_name]; exact h⟩
  unfold dEq; exact key
theorem names_mem {h : Hist} {n : Nat × Nat} (hn : n ∈ namesH h) : ∃ t, txAt h n = some t := by
  unfold namesH at hn
  obtain ⟨s, hs, hr⟩ := List.mem_flatMap.mp hn
  unfold rowN at hr
  obtain ⟨i, hi, rfl⟩ := List.mem_map.mp hr
  rw [List.mem_range] at hs hi
  have e : h[s]? = some h[s] := List.getElem?_eq_getElem hs
  rw [getD_get e] at hi
  exact ⟨_, txAt_get.mpr ⟨_, e, List.getElem?_eq_getElem hi⟩⟩
theorem mem_mkS {k : List Nat} {ws : List (List Nat)} : decide (mkS k ∈ ws.map mkS) = decide (k ∈ ws) := by
  refine decide_eq_decide.mpr ⟨fun z => ?_, fun z => List.mem_map.mpr ⟨k, z, rfl⟩⟩
  obtain ⟨w, hw, e⟩ := List.mem_map.mp z
  rw [← mkS_inj.mp e]; exact hw
theorem keys_D (ws : List (List Nat)) : ws.map keyTD = (ws.map mkS).map D.str := by rw [List.map_map]; rfl
theorem rd_source_fault : Rd n_source_fault 1 sp_source_fault d_source_fault := by
  rintro ds W Q Qx _ ⟨h, rfl, ok, hv, hq⟩
  show d_source_fault _ [some (.sh (histD h)), none, none, none, none, none] W
  unfold d_source_fault
  refine seq_gen (fun ρ W' => W' = W ∧ srcF h = none) (fun ρ W' hI => ?_) (fun N hN => ?_)
  · obtain ⟨rfl, hf⟩ := hI
    rw [hf] at hq; exact hq
  refine dFor_of ((namesH h).map nameD) (fun i ρ W' => W' = W ∧ firstI (fun _ n => txS h n) 0 ((namesH h).take i) = none ∧ ∃ x1 x2 x3 x4 x5 : Option D, ρ = [some (.sh (histD h)), x1.map Sl.sh, x2.map Sl.sh, x3.map Sl.sh, x4.map Sl.sh, x5.map Sl.sh]) (fun P hP => ⟨rfl, h, rfl, ok, hv, hP⟩) ⟨rfl, rfl, none, none, none, none, none, rfl⟩ (fun i d ρ W' hd hI => ?turn) (fun ρ W' hI => ?done)
  case done =>
    obtain ⟨rfl, hf, _⟩ := hI
    rw [List.length_map, List.take_length] at hf
    exact hN _ _ ⟨rfl, hf⟩
  obtain ⟨rfl, hf, x1, x2, x3, x4, x5, rfl⟩ := hI
  rw [List.getElem?_map] at hd
  obtain ⟨n, hn, rfl⟩ := Option.map_eq_some_iff.mp hd
  obtain ⟨t, ht⟩ := names_mem (List.mem_of_getElem? hn)
  have es : txS h n = firstI (fun k r => rdF h n.1 n.2 k r) 0 t.rs := by unfold txS; rw [ht]
  have hit : ∀ p, firstI (fun k r => rdF h n.1 n.2 k r) 0 t.rs = some p → Q (placeD (some p)) W' := fun p hp => by
    have : srcF h = some p := firstI_hit (fun _ n => txS h n) hn hf (es.trans hp)
    rw [this] at hq; exact hq
  show dFor _ _ _ _ [some (.sh (histD h)), some (.sh (nameD n)), x2.map Sl.sh, x3.map Sl.sh, x4.map Sl.sh, x5.map Sl.sh] W'
  have nx : ∀ (k : Nat) (r : List Nat × Option (Nat × Nat)), t.rs[k]? = some r → firstI (fun k r => rdF h n.1 n.2 k r) 0 (t.rs.take k) = none → rdF h n.1 n.2 k r = none → firstI (fun k r => rdF h n.1 n.2 k r) 0 (t.rs.take (k + 1)) = none := fun k r hr h0 e => by
    rw [firstI_snoc (fun k r => rdF h n.1 n.2 k r) hr h0]; exact e
  refine dFor_of (enumD (t.rs.map readD)) (fun k ρ W2 => W2 = W' ∧ firstI (fun k r => rdF h n.1 n.2 k r) 0 (t.rs.take k) = none ∧ ∃ x2 x3 x4 x5 : Option D, ρ = [some (.sh (histD h)), some (.sh (nameD n)), x2.map Sl.sh, x3.map Sl.sh, x4.map Sl.sh, x5.map Sl.sh]) (fun P hP => ⟨rfl, h, n, t, rfl, ht, _, atI_of (i := 1) rfl, hP⟩) ⟨rfl, rfl, x2, x3, x4, x5, rfl⟩ (fun k d ρ W2 hd hI => ?turn2) (fun ρ W2 hI => ?done2)
  case done2 =>
    obtain ⟨rfl, hf2, x2, x3, x4, x5, rfl⟩ := hI
    rw [enumD_len, List.length_map, List.take_length] at hf2
    refine ⟨rfl, ?_, some _, x2, x3, x4, x5, rfl⟩
    rw [firstI_snoc (fun _ n => txS h n) hn hf]
    exact es.trans hf2
  obtain ⟨rfl, hf2, x2, x3, x4, x5, rfl⟩ := hI
  obtain ⟨x, hx, rfl⟩ := enumD_at hd
  rw [List.getElem?_map] at hx
  obtain ⟨r, hr, rfl⟩ := Option.map_eq_some_iff.mp hx
  obtain ⟨key, src⟩ := r
  have tok : TxOk t := by
    obtain ⟨ses, e1, e2⟩ := hist_at ht
    exact ok.tx ses (List.mem_of_getElem? e1) t (List.mem_of_getElem? e2)
  refine gd12 ?_
  show dSeq _ _ _ [some (.sh (histD h)), some (.sh (nameD n)), some (.sh (.int (k : Nat))), some (.sh (.str (mkS key))), some (.sh (srcD src)), x5.map Sl.sh] W2
  cases src with
  | none => exact ⟨rfl, nx k _ hr hf2 rfl, some _, some _, some _, x5, rfl⟩
  | some src =>
    have bad : ∀ b, srcBad h (n.1, n.2) key src = b → rdF h n.1 n.2 k (key, some src) = if b = true then some [n.1, n.2, 1, k] else none := fun b e => by
      show (if srcBad h (n.1, n.2) key src = true then some [n.1, n.2, 1, k] else none) = _
      rw [e]
    have yes : srcBad h (n.1, n.2) key src = true → Q (.tup ([.int (n.1 : Nat), .int (n.2 : Nat)] ++ [.int 1, .int (k : Nat)])) W2 := fun e =>
      hit _ (firstI_hit (fun k r => rdF h n.1 n.2 k r) hr hf2 (bad true e))
    have no : srcBad h (n.1, n.2) key src = false → firstI (fun k r => rdF h n.1 n.2 k r) 0 (t.rs.take (k + 1)) = none := fun e => nx k _ hr hf2 (bad false e)
    refine dEq_name (a := src) (b := n) ?_
    have eta : (n.1, n.2) = n := rfl
    by_cases esn : src = n
    · rw [decide_eq_true esn]
      have : srcBad h (n.1, n.2) key src = true := by unfold srcBad; rw [eta, decide_eq_true esn]; rfl
      exact ite_t ⟨sz 2 (by decide), sz 4 (by decide), yes this⟩
    · rw [decide_eq_false esn]
      refine ite_f ⟨rfl, h, src, rfl, ?_⟩
      cases et : txAt h src with
      | none =>
        have sb : srcBad h (n.1, n.2) key src = true := by unfold srcBad; rw [et]; exact Bool.or_true _
        exact ⟨sz 2 (by decide), sz 4 (by decide), yes sb⟩
      | some t2 =>
        have sb : srcBad h (n.1, n.2) key src = !decide (key ∈ t2.ws) := by unfold srcBad; rw [et, eta, decide_eq_false esn]; exact Bool.false_or _
        refine ⟨_, atI_of (i := 2) rfl, ?_⟩
        refine in_strs (neg := true) (l := t2.ws.map mkS) (.inl (congrArg D.tup (keys_D _))) ?_
        rw [if_pos rfl, mem_mkS]
        cases em : decide (key ∈ t2.ws) with
        | true => rw [em] at sb; exact ⟨rfl, no sb, some _, some _, some _, some _, rfl⟩
        | false => rw [em] at sb; exact ⟨sz 2 (by decide), sz 4 (by decide), yes sb⟩
end K54
namespace K54
open PySem PySem.Spec L2 G TL C LV
theorem rd_history_fault : Rd n_history_fault 1 sp_history_fault d_history_fault := by
  rintro ds W Q Qx _ ⟨d, p, rfl, hv, hf, hq⟩
  refine ⟨rfl, d, rfl, hv, ?_⟩
  rcases hf with ⟨q, rfl, e⟩ | ⟨h, rfl, ok, e⟩
  · rw [e]
    exact hq
  · rw [form_is ok]
    refine ⟨rfl, h, rfl, ok, hv, ?_⟩
    rw [e]; exact hq
theorem good_fault {h : Hist} (hg : Good h) : FaultIs (histD h) none := .inr ⟨h, rfl, hg.ok, hg.src⟩
theorem rd_check_history : Rd n_check_history 1 sp_check_history d_check_history := by
  rintro ds W Q Qx _ ⟨d, rfl, hs, hp, h0⟩
  exact ⟨rfl, d, none, rfl, hs, hp, h0⟩
theorem rng_get {lo : Int} {n i : Nat} {d : D} (h : (rng lo n)[i]? = some d) : i < n ∧ d = .int (lo + (i : Int)) := by
  unfold rng at h
  have hi := (List.getElem?_eq_some_iff.mp h).1
  rw [List.length_map, List.length_range] at hi
  rw [List.getElem?_map, List.getElem?_range hi] at h
  cases h
  exact ⟨hi, rfl⟩
theorem hist_len {h : Hist} {s : Nat} {ses : List Tx} (hv : vok (histD h) = true) (e : h[s]? = some ses) : ses.length ≤ 100000 := by
  have := vok_ses hv (s := s)
  rwa [getD_get e] at this
end K54
namespace K54
open PySem PySem.Spec L2 G TL C LV
theorem pre_len {h : Hist} (ok : FormOk h) (hv : vok (histD h) = true) {s i : Nat} (hs : s < h.length) (hi : i < (h.getD s []).length) : (preN h s i).length < 1200000 := by
  obtain ⟨r, er⟩ := names_split h hs hi
  have := names_len ok hv
  rw [er, List.length_append, List.length_cons] at this
  omega
theorem rd_law_names : Rd n_law_names 1 sp_law_names d_law_names := by
  rintro ds W Q Qx _ ⟨h, rfl, ok, hv, hq⟩
  show d_law_names _ [some (.sh (histD h)), none, none, none] W
  unfold d_law_names
  refine seq_gen (fun ρ W' => W' = W ∧ ρ = [some (.sh (histD h)), some (.ol []), none, none]) (fun ρ W' hI => ?_) (fun N hN => ⟨sz 0 (by decide), hN _ _ ⟨rfl, rfl⟩⟩)
  obtain ⟨rfl, rfl⟩ := hI
  refine seq_gen (fun ρ W2 => W2 = W' ∧ ∃ x2 x3 : Option D, ρ = [some (.sh (histD h)), some (.ol ((namesH h).map nameD)), x2.map Sl.sh, x3.map Sl.sh]) (fun ρ W2 hI => ?_) (fun N hN => ?_)
  · obtain ⟨rfl, x2, x3, rfl⟩ := hI
    exact hq
  refine dFor_of (rng 0 h.length) (fun s ρ W2 => W2 = W' ∧ ∃ x2 x3 : Option D, ρ = [some (.sh (histD h)), some (.ol ((preN h s 0).map nameD)), x2.map Sl.sh, x3.map Sl.sh]) (fun P hP => ?_) ⟨rfl, none, none, rfl⟩ (fun s d ρ W2 hd hI => ?turn) (fun ρ W2 hI => ?done)
  · have := ok.len
    show -(2 ^ 62) ≤ _ ∧ _ < 2 ^ 62 ∧ P (rng 0 _) _ _
    rw [List.length_map]
    refine ⟨by omega, by omega, ?_⟩
    rw [Int.toNat_natCast]; exact hP
  case done =>
    obtain ⟨rfl, x2, x3, rfl⟩ := hI
    rw [rng_length, pre_all]
    exact hN _ _ ⟨rfl, x2, x3, rfl⟩
  obtain ⟨rfl, x2, x3, rfl⟩ := hI
  obtain ⟨hs, rfl⟩ := rng_get hd
  have e1 : h[s]? = some h[s] := List.getElem?_eq_getElem hs
  generalize h[s] = ses at e1
  have l1 := hist_len hv e1
  rw [show (0 : Int) + (s : Int) = (s : Int) by omega]
  refine dFor_of (rng 0 ses.length) (fun i ρ W3 => W3 = W2 ∧ ∃ x3 : Option D, ρ = [some (.sh (histD h)), some (.ol ((preN h s i).map nameD)), some (.sh (.int (s : Nat))), x3.map Sl.sh]) (fun P hP => ⟨_, atI_of (hist_get e1), ?_⟩) ⟨rfl, x3, rfl⟩ (fun i d ρ W3 hd hI => ?turn2) (fun ρ W3 hI => ?done2)
  · show -(2 ^ 62) ≤ _ ∧ _ < 2 ^ 62 ∧ P (rng 0 _) _ _
    rw [List.length_map]
    refine ⟨by omega, by omega, ?_⟩
    rw [Int.toNat_natCast]; exact hP
  case done2 =>
    obtain ⟨rfl, x3, rfl⟩ := hI
    rw [rng_length, ← getD_get e1, pre_row]
    exact ⟨rfl, some _, x3, rfl⟩
  obtain ⟨rfl, x3, rfl⟩ := hI
  obtain ⟨hi, rfl⟩ := rng_get hd
  rw [show (0 : Int) + (i : Int) = (i : Int) by omega]
  have pl := pre_len ok hv hs (i := i) (by rw [getD_get e1]; exact hi)
  refine ⟨⟨_, rfl⟩, sz 2 (by decide), ?_, rfl, some (.int (i : Nat)), ?_⟩
  · rw [List.length_map]; show _ < 16777216; omega
  · rw [pre_snoc, List.map_append]; rfl
theorem rd_law_begin : Rd n_law_begin 1 sp_law_begin d_law_begin := by
  rintro ds W Q Qx _ ⟨ns, rfl, hl, hb, h⟩
  show d_law_begin _ [some (.sh (.scr ns)), none, none, none] W
  unfold d_law_begin
  have p18 : ((10 : Int) ^ (18 : Int).toNat) = 1000000000000000000 := by decide
  refine seq_gen (fun ρ W' => ∃ g, ρ = [some (.sh (.scr ns)), some (.sh (.ref g)), none, none] ∧ W' g = some (.lst [])) (fun ρ W' hI => ?_) (fun N hN => ⟨sz 0 (by decide), fun g hg => hN _ _ ⟨g, rfl, updW_same⟩⟩)
  obtain ⟨g, rfl, hg⟩ := hI
  refine seq_gen (fun ρ W2 => W2 = W' ∧ ρ = [some (.sh (.scr ns)), some (.sh (.ref g)), some (.sh (.int 5)), none]) (fun ρ W2 hI => ?_) (fun N hN => hN _ _ ⟨rfl, rfl⟩)
  obtain ⟨rfl, rfl⟩ := hI
  refine seq_gen (fun ρ W3 => ∃ (gs : List Int) (a : Int) (x3 : Option D), gs.length ≤ 63 ∧ (∀ x ∈ gs, 0 ≤ x ∧ x.natAbs < bigB) ∧ 0 ≤ a ∧ a < 2305843009213693951 ∧ W3 g = some (.lst (gs.map D.int)) ∧ ρ = [some (.sh (.scr ns)), some (.sh (.ref g)), some (.sh (.int a)), x3.map Sl.sh]) (fun ρ W3 hI => ?_) (fun N hN => ?_)
  · obtain ⟨gs, a, x3, hgl, hgs, ha0, ha1, hg3, rfl⟩ := hI
    refine ⟨sz 3 (by decide), fun p hp => h _ p g ⟨?_, gs, a, ns.length, updW_same, ?_, hgs, hgl, ha0, ha1, by omega, by omega⟩⟩
    · intro e; subst e; rw [hg3] at hp; cases hp
    · rw [updW_ne (fun e => by subst e; rw [hg3] at hp; cases hp)]; exact hg3
  refine dFor_of (((ns.drop (HT.sIx ns.length 0 none)).take (HT.sIx ns.length ns.length (some 63) - HT.sIx ns.length 0 none)).map D.int) (fun i ρ W3 => ∃ (gs : List Int) (a : Int) (x3 : Option D), gs.length ≤ i ∧ (∀ x ∈ gs, 0 ≤ x ∧ x.natAbs < bigB) ∧ 0 ≤ a ∧ a < 2305843009213693951 ∧ W3 g = some (.lst (gs.map D.int)) ∧ ρ = [some (.sh (.scr ns)), some (.sh (.ref g)), some (.sh (.int a)), x3.map Sl.sh]) (fun P hP => hP) ⟨[], 5, none, Nat.le_refl _, fun _ z => (nomatch z), by decide, by decide, hg, rfl⟩ (fun i d ρ W3 hd hI => ?turn) (fun ρ W3 hI => ?done)
  case done =>
    obtain ⟨gs, a, x3, hgl, hr⟩ := hI
    refine hN _ _ ⟨gs, a, x3, ?_, hr⟩
    rw [List.length_map, List.length_take, List.length_drop] at hgl
    omega
  obtain ⟨gs, a, x3, hgl, hgs, ha0, ha1, hg3, rfl⟩ := hI
  rw [List.getElem?_map] at hd
  obtain ⟨z, hz, rfl⟩ := Option.map_eq_some_iff.mp hd
  have hil : i < 63 := by
    have := (List.getElem?_eq_some_iff.mp hz).1
    rw [List.length_take, List.length_drop] at this
    omega
  have hzb := hb z (List.mem_of_mem_drop (List.mem_of_mem_take (List.mem_of_getElem? hz)))
  refine ⟨⟨by decide, by decide, by decide⟩, ite_d (fun h0 => ?_) (fun h0 => ?_)⟩
  · refine ⟨⟨g, _, rfl, hg3⟩, _, hg3, ?_, gs ++ [z], a, some _, ?_, ?_, ha0, ha1, ?_, rfl⟩
    · rw [List.length_map]; show _ < 16777216; omega
    · rw [List.length_append, List.length_singleton]; omega
    · intro x hx
      rcases List.mem_append.mp hx with hx | hx
      · exact hgs x hx
      · rw [List.mem_singleton] at hx; subst hx
        rw [p18] at h0; exact ⟨by omega, hzb⟩
    · rw [updW_same, List.map_append]; rfl
  · refine ⟨mulX_of 61 20 (by omega) (by decide) (by decide) (by decide) (by decide), (by decide : (0 : Int) < 2305843009213693951), gs, _, some _, by omega, hgs, Int.emod_nonneg _ (by decide), Int.emod_lt_of_pos _ (by decide), hg3, rfl⟩
end K54
namespace K54
open PySem PySem.Spec L2 G TL C LV
theorem rd_law_draw : Rd n_law_draw 2 sp_law_draw d_law_draw := by
  rintro ds W Q Qx _ ⟨p, g, many, n, rfl, hM0, hM1, ⟨png, gs, a, c, hp, hg, hgs, hgl, ha0, ha1, hc0, hc1⟩, h⟩
  show d_law_draw _ [some (.sh (.ref p)), some (.sh (.int many)), none, none, none] W
  unfold d_law_draw
  have mlt : many.natAbs < 2 ^ 100 := by
    have : (1000000 : Nat) < 2 ^ 100 := by decide
    omega
  refine seq_gen (fun ρ W' => W' = W ∧ ρ = [some (.sh (.ref p)), some (.sh (.int many)), some (.sh (.ref g)), none, none]) (fun ρ W' hI => ?_) (fun N hN => ⟨_, .ref g, hp, rfl, hN _ _ ⟨rfl, rfl⟩⟩)
  obtain ⟨rfl, rfl⟩ := hI
  refine seq_gen (fun ρ W2 => ∃ (gs' : List Int) (x3 : Option D), W2 p = some (.lst [.ref g, .int a, .int c]) ∧ W2 g = some (.lst (gs'.map D.int)) ∧ (∀ x ∈ gs', 0 ≤ x ∧ x.natAbs < bigB) ∧ gs'.length ≤ 63 ∧ Els p g W' W2 ∧ ρ = [some (.sh (.ref p)), some (.sh (.int many)), some (.sh (.ref g)), x3.map Sl.sh, none]) (fun ρ W2 hI => ?rest) (fun N hN => ?loop)
  case loop =>
    refine dWhile_of (fun m ρ W2 => ∃ (gs' : List Int) (x3 : Option D), m = gs'.length ∧ W2 p = some (.lst [.ref g, .int a, .int c]) ∧ W2 g = some (.lst (gs'.map D.int)) ∧ (∀ x ∈ gs', 0 ≤ x ∧ x.natAbs < bigB) ∧ gs'.length ≤ 63 ∧ Els p g W' W2 ∧ ρ = [some (.sh (.ref p)), some (.sh (.int many)), some (.sh (.ref g)), x3.map Sl.sh, none]) gs.length ⟨gs, none, rfl, hp, hg, hgs, hgl, fun _ _ _ => rfl, rfl⟩ (fun m ρ W2 hI => ?_)
    obtain ⟨gs', x3, rfl, hp2, hg2, hgs2, hgl2, hels, rfl⟩ := hI
    refine ⟨g, _, rfl, hg2, ?_⟩
    cases gs' with
    | nil => exact hN _ _ ⟨[], x3, hp2, hg2, hgs2, hgl2, hels, rfl⟩
    | cons x r =>
      show (if decide ((0 : Int) < ((((x :: r).map D.int).length : Nat) : Int)) = true then _ else _)
      rw [decide_eq_true (by rw [List.length_map, List.length_cons]; omega)]
      refine ite_t ⟨_, .int x, hg2, atI_of (i := 0) rfl, ite_d (fun h0 => ?_) (fun h0 => ?_)⟩
      · obtain ⟨hx0, hxb⟩ := hgs2 x List.mem_cons_self
        have hd : x / many ≤ x := Int.ediv_le_self _ hx0
        have hd0 : 0 ≤ x / many := Int.ediv_nonneg hx0 (by omega)
        have hlt : (x / many).natAbs < bigB := by omega
        refine ⟨⟨hM0, Nat.lt_of_lt_of_le (C.log2_small (k := 100) mlt (by decide)) (by decide)⟩, _, 0, hg2, ixN0 (by rw [List.length_map, List.length_cons]; omega), hM0, ?_⟩
        refine h _ _ (Int.emod_nonneg _ (by omega)) (Int.emod_lt_of_pos _ hM0) ⟨png, (x / many) :: r, a, c, (updW_ne png).trans hp2, updW_same, fun y hy => ?_, hgl2, ha0, ha1, hc0, by omega⟩ fun q h1 h2 => (updW_ne h2).trans (hels q h1 h2)
        rcases List.mem_cons.mp hy with rfl | hy
        · exact ⟨hd0, hlt⟩
        · exact hgs2 y (List.mem_cons_of_mem _ hy)
      · refine ⟨⟨g, _, rfl, hg2⟩, _, 0, hg2, by decide, by decide, ?_, ?_, r.length, by rw [List.length_cons]; omega, r, some (.int x), rfl, (updW_ne png).trans hp2, updW_same, fun y hy => hgs2 y (List.mem_cons_of_mem _ hy), by rw [List.length_cons] at hgl2; omega, fun q h1 h2 => (updW_ne h2).trans (hels q h1 h2), rfl⟩
        · rw [List.length_map, List.length_cons]
          unfold seqIndex?
          simp
        · rw [List.length_map, List.length_cons]; omega
  obtain ⟨gs', x3, hp2, hg2, hgs2, hgl2, hels, rfl⟩ := hI
  refine seq_gen (fun ρ W3 => ρ = [some (.sh (.ref p)), some (.sh (.int many)), some (.sh (.ref g)), x3.map Sl.sh, none] ∧ W3 p = some (.lst [.ref g, .int a, .int (c + 1)]) ∧ W3 g = some (.lst (gs'.map D.int)) ∧ Els p g W' W3) (fun ρ W3 hI => ?_) (fun N hN => ⟨_, .int c, hp2, rfl, _, 2, hp2, rfl, hN _ _ ⟨rfl, updW_same, (updW_ne (Ne.symm png)).trans hg2, fun q h1 h2 => (updW_ne h1).trans (hels q h1 h2)⟩⟩)
  obtain ⟨rfl, hp3, hg3, hels3⟩ := hI
  have m1 : CMulX (c + 1) 7368787 := mulX_of 21 23 (by omega) (by decide) (by decide) (by decide) (by decide)
  refine seq_gen (fun ρ W4 => W4 = W3 ∧ ∃ f : Int, f.natAbs < 2 ^ 61 ∧ ρ = [some (.sh (.ref p)), some (.sh (.int many)), some (.sh (.ref g)), x3.map Sl.sh, some (.sh (.int f))]) (fun ρ W4 hI => ?_) (fun N hN => ⟨_, .int a, hp3, rfl, _, .int (c + 1), hp3, rfl, m1, (by decide : (0 : Int) < 2305843009213693951), hN _ _ ⟨rfl, _, mod61 _, rfl⟩⟩)
  obtain ⟨rfl, f, f2, rfl⟩ := hI
  have m2 : CMulX f f := mulX_of 61 61 f2 f2 (by decide) (by decide) (by decide)
  refine seq_gen (fun ρ W5 => W5 = W4 ∧ ∃ f : Int, f.natAbs < 2 ^ 61 ∧ ρ = [some (.sh (.ref p)), some (.sh (.int many)), some (.sh (.ref g)), x3.map Sl.sh, some (.sh (.int f))]) (fun ρ W5 hI => ?_) (fun N hN => ⟨m2, _, .int (c + 1), hp3, rfl, (by decide : (0 : Int) < 2305843009213693951), hN _ _ ⟨rfl, _, mod61 _, rfl⟩⟩)
  obtain ⟨rfl, f', f3, rfl⟩ := hI
  have m3 : CMulX f' f' := mulX_of 61 61 f3 f3 (by decide) (by decide) (by decide)
  refine seq_gen (fun ρ W6 => W6 = W5 ∧ ∃ f : Int, ρ = [some (.sh (.ref p)), some (.sh (.int many)), some (.sh (.ref g)), x3.map Sl.sh, some (.sh (.int f))]) (fun ρ W6 hI => ?_) (fun N hN => ⟨m3, _, .int a, hp3, rfl, (by decide : (0 : Int) < 998244353), hN _ _ ⟨rfl, _, rfl⟩⟩)
  obtain ⟨rfl, f4, rfl⟩ := hI
  exact ⟨hM0, h _ _ (Int.emod_nonneg _ (by omega)) (Int.emod_lt_of_pos _ hM0) ⟨png, gs', a, c + 1, hp3, hg3, hgs2, hgl2, ha0, ha1, by omega, by omega⟩ hels3⟩
theorem rdn_law_same (n : Nat) (sp0 : SpD) (h0 : ∀ m, n = m + 1 → sp0 = spn_law_same m) : Rd n_law_same 2 (spn_law_same n) (d_law_same sp0) := by
  rintro ds W Q Qx _ ⟨d, rfl, hp, h⟩
  show d_law_same sp0 _ [some (.sh d), some (.sh d), none, none] W
  unfold d_law_same
  have deep : ∀ (ds : List D), ds.length ≤ 2000000 → (∀ m, n = m + 1 → ∀ z ∈ ds, plainN m z) → n ≠ 0 → (∀ P : KL, P (zipD ds ds) [some (.sh d), some (.sh d), none, none] W → iZipD (dCons (dVar 0) (dCons (dVar 1) dNil)) [some (.sh d), some (.sh d), none, none] W P (fun cls x _ W' => Qx cls x W')) →
      dSeq (dFor (iZipD (dCons (dVar 0) (dCons (dVar 1) dNil))) (gdTup 2 (gdCons (gdName 2) (gdCons (gdName 3) gdNil)))
          (dIfS (dNotB (dBool (dCall sp0 2 (dCons (dVar 2) (dCons (dVar 3) dNil))))) (dRet (dC (.bl false))) dNext))
          (dRet (dC (.bl true))) { nx := fun _ W' => Q .non W', rt := Q, ex := fun cls x _ W' => Qx cls x W' } [some (.sh d), some (.sh d), none, none] W := fun ds hl hz hn hzip => by
    refine seq_gen (fun ρ W' => W' = W) (fun ρ W' hI => by subst hI; exact h) (fun N hN => ?_)
    refine dFor_of (zipD ds ds) (fun i ρ W' => W' = W ∧ ∃ x2 x3 : Option D, ρ = [some (.sh d), some (.sh d), x2.map Sl.sh, x3.map Sl.sh]) hzip ⟨rfl, none, none, rfl⟩ (fun i z ρ W' hd hI => ?_) (fun ρ W' hI => hN _ _ hI.1)
    obtain ⟨rfl, x2, x3, rfl⟩ := hI
    obtain ⟨x, y, hx, hy, rfl⟩ := zipD_at hd
    rw [hx] at hy; cases hy
    obtain ⟨m, rfl⟩ : ∃ m, n = m + 1 := ⟨n - 1, by omega⟩
    rw [h0 m rfl]
    exact gd2 ⟨rfl, x, rfl, hz m rfl x (List.mem_of_getElem? hx), ⟨rfl, some _, some _, rfl⟩⟩
  cases d with
  | v x =>
    cases x with
    | non => exact h
    | bl b => cases b <;> exact h
    | int i =>
      refine ⟨_, false, rfl, rfl, _, true, rfl, rfl, ?_⟩
      exact ⟨_, true, rfl, rfl, _, false, rfl, rfl, dEq_int (by rw [decide_eq_true rfl]; exact h)⟩
    | str s =>
      refine ⟨_, true, rfl, rfl, ?_⟩
      exact ⟨_, true, rfl, rfl, dEq_str (by rw [decide_eq_true rfl]; exact h)⟩
    | _ => unfold plainN at hp; cases n <;> exact hp.elim
  | tup ds =>
    cases n with
    | zero => unfold plainN at hp; exact hp.elim
    | succ m =>
      have hp' : ds.length ≤ 2000000 ∧ ∀ d ∈ ds, plainN m d := by unfold plainN at hp; exact hp
      refine ⟨_, false, rfl, rfl, _, false, rfl, rfl, _, true, rfl, rfl, _, true, rfl, rfl, ?_⟩
      refine dNe_int ?_
      rw [decide_eq_true rfl]
      exact ite_f (nxs (deep ds hp'.1 (fun m' e => by cases e; exact hp'.2) (by omega) (fun P hP => hP)))
  | lst ds =>
    cases n with
    | zero => unfold plainN at hp; exact hp.elim
    | succ m =>
      have hp' : ds.length ≤ 2000000 ∧ ∀ d ∈ ds, plainN m d := by unfold plainN at hp; exact hp
      refine ⟨_, false, rfl, rfl, _, false, rfl, rfl, _, false, rfl, rfl, _, true, rfl, rfl, ?_⟩
      refine dNe_int ?_
      rw [decide_eq_true rfl]
      exact ite_f (nxs (deep ds hp'.1 (fun m' e => by cases e; exact hp'.2) (by omega) (fun P hP => hP)))
  | _ => unfold plainN at hp; cases n <;> exact hp.elim
end K54
namespace K54
open PySem PySem.Spec L2 G TL C LV
theorem StOk.less {W : Wd} {p g : Addr} {n m : Nat} (h : StOk W p g n) (e : m ≤ n) : StOk W p g m := by
  obtain ⟨png, gs, a, c, hp, hg, hgs, hgl, ha0, ha1, hc0, hc1⟩ := h
  exact ⟨png, gs, a, c, hp, hg, hgs, hgl, ha0, ha1, hc0, by omega⟩
theorem so_nil : Str.ofString "" = mkS [] := by decide +kernel
theorem so_a : Str.ofString "a" = mkS [97] := by decide +kernel
abbrev sgS : Str := Str.ofString " !\"#$&'()*+,-./0123456789:;<=>?@ABCDEFGHIJKLMNOPQRSTUVWXYZ[\\]^_`abcdefghijklmnopqrstuvwxyz{|}~"
abbrev apS : Str := Str.ofString "abcdefghijklmnop"
theorem sg_ok : (sgS.cps.toList.all fun c => decide (32 ≤ c) && decide (c ≤ 126)) = true := by decide +kernel
theorem sg_len : sgS.cps.toList.length = 94 := by decide +kernel
theorem sg_len2 : sgS.length = 94 := by decide +kernel
theorem ap_ok : (apS.cps.toList.all fun c => decide (32 ≤ c) && decide (c ≤ 126)) = true := by decide +kernel
theorem ap_len : apS.cps.toList.length = 16 := by decide +kernel
theorem chars_of : ∀ {ys : List D}, (∀ y ∈ ys, ∃ c : Nat, y = .str (mkS [c]) ∧ 32 ≤ c ∧ c ≤ 126) → ∃ cs : List Nat, ys = (cs.map fun c => [c]).map (fun x => D.str (mkS x)) ∧ Pr cs ∧ cs.length = ys.length
  | [], _ => ⟨[], rfl, fun _ z => (nomatch z), rfl⟩
  | y :: ys, h => by
    obtain ⟨c, rfl, hc⟩ := h y List.mem_cons_self
    obtain ⟨cs, rfl, hcs, hl⟩ := chars_of fun z hz => h z (List.mem_cons_of_mem _ hz)
    refine ⟨c :: cs, rfl, fun x hx => ?_, by simp⟩
    rcases List.mem_cons.mp hx with rfl | hx
    · exact hc
    · exact hcs x hx
theorem pr_app {a b : List Nat} (ha : Pr a) (hb : Pr b) : Pr (a ++ b) := fun c hc => by
  rcases List.mem_append.mp hc with h | h
  · exact ha c h
  · exact hb c h
theorem flat_one (cs : List Nat) : (cs.map fun c => [c]).flatten = cs := by
  induction cs with
  | nil => rfl
  | cons a r ih => simpa using ih
theorem as_few {t : List Nat} {ks : List (List Nat)} {j : Nat} (h : ∀ i, i < j → t ++ List.replicate i 97 ∈ ks) : j ≤ ks.length := by
  have nd : ((List.range j).map fun i => t ++ List.replicate i 97).Nodup := by
    refine List.pairwise_map.mpr (List.Pairwise.imp (fun {a b} hab e => hab ?_) List.nodup_range)
    have := congrArg List.length e
    rw [List.length_append, List.length_append, List.length_replicate, List.length_replicate] at this
    omega
  have := keyr_few nd fun k hk => by
    obtain ⟨i, hi, rfl⟩ := List.mem_map.mp hk
    exact h i (List.mem_range.mp hi)
  rwa [List.length_map, List.length_range] at this
theorem ifNot_f {i : Nat} {f g : TSD} {De : EndsD} {ρ : G.Env} {W : Wd} (e : ρ[i]? = some (some (.sh (.bl false)))) (h : f De ρ W) : dIfS (dNotB (dBool (dVar i))) f g De ρ W := by
  simp only [dIfS, dNotB, dBool, dVar, e]
  exact ite_t h
theorem rd_law_keys : Rd n_law_keys 2 sp_law_keys d_law_keys := by
  rintro ds W Q Qx _ ⟨p, g, many, n, rfl, hm, hs, h⟩
  show d_law_keys _ [some (.sh (.ref p)), some (.sh (.int (many : Nat))), none, none, none, none, none, none] W
  unfold d_law_keys
  rw [so_nil, so_a]
  refine seq_gen (fun ρ W' => W' = W ∧ ρ = [some (.sh (.ref p)), some (.sh (.int (many : Nat))), some (.sh (.str sgS)), none, none, none, none, none]) (fun ρ W' hI => ?_) (fun N hN => hN _ _ ⟨rfl, rfl⟩)
  obtain ⟨rfl, rfl⟩ := hI
  refine seq_gen (fun ρ W2 => StOk W2 p g (n + 99) ∧ ∃ b : Bool, ρ = [some (.sh (.ref p)), some (.sh (.int (many : Nat))), some (.sh (.str sgS)), some (.sh (.bl b)), none, none, none, none]) (fun ρ W2 hI => ?_) (fun N hN => ⟨rfl, p, g, 2, n + 99, rfl, by decide, by decide, hs, fun r W2 _ _ hs _ => dEq_int (hN _ _ ⟨hs, _, rfl⟩)⟩)
  obtain ⟨hs, b, rfl⟩ := hI
  refine seq_gen (fun ρ W3 => W3 = W2 ∧ ρ = [some (.sh (.ref p)), some (.sh (.int (many : Nat))), some (.sh (.str sgS)), some (.sh (.bl b)), some (.ol []), none, none, none]) (fun ρ W3 hI => ?_) (fun N hN => ⟨sz 0 (by decide), hN _ _ ⟨rfl, rfl⟩⟩)
  obtain ⟨rfl, rfl⟩ := hI
  refine seq_gen (fun ρ W4 => StOk W4 p g n ∧ ∃ (ks : List (List Nat)) (x5 x6 : Option D), ks.length = many ∧ KsOk ks ∧ ρ = [some (.sh (.ref p)), some (.sh (.int (many : Nat))), some (.sh (.str sgS)), some (.sh (.bl b)), some (.ol (ks.map keyTD)), x5.map Sl.sh, x6.map Sl.sh, none]) (fun ρ W4 hI => ?_) (fun N hN => ?_)
  · obtain ⟨hs, ks, x5, x6, hl, hk, rfl⟩ := hI
    exact h ks W4 hl hk hs
  refine dFor_of (rng 0 many) (fun k ρ W4 => StOk W4 p g (n + 4 * (many - k)) ∧ ∃ (ks : List (List Nat)) (x5 x6 : Option D), ks.length = k ∧ KsOk ks ∧ ρ = [some (.sh (.ref p)), some (.sh (.int (many : Nat))), some (.sh (.str sgS)), some (.sh (.bl b)), some (.ol (ks.map keyTD)), x5.map Sl.sh, x6.map Sl.sh, none]) (fun P hP => ?_) ⟨hs.less (by omega), [], none, none, rfl, ⟨List.nodup_nil, fun _ z => (nomatch z), fun _ z => (nomatch z)⟩, rfl⟩ (fun k d ρ W4 hd hI => ?turn) (fun ρ W4 hI => ?done)
  · refine ⟨by omega, by omega, ?_⟩
    rw [Int.toNat_natCast]; exact hP
  case done =>
    obtain ⟨hs, hr⟩ := hI
    rw [rng_length] at hs hr
    exact hN _ _ ⟨hs.less (by omega), hr⟩
  obtain ⟨hs, ks, x5, x6, hkl, hk, rfl⟩ := hI
  obtain ⟨hkm, rfl⟩ := rng_get hd
  rw [show (0 : Int) + (k : Int) = (k : Int) by omega]
  refine seq_gen (fun ρ W5 => W5 = W4 ∧ ∃ c : Nat, 32 ≤ c ∧ c ≤ 126 ∧ ρ = [some (.sh (.ref p)), some (.sh (.int (many : Nat))), some (.sh (.str sgS)), some (.sh (.bl b)), some (.ol (ks.map keyTD)), some (.sh (.int (k : Nat))), some (.sh (.str (mkS [c]))), none]) (fun ρ W5 hI => ?_) (fun N hN => ?ch)
  case ch =>
    obtain ⟨c, hc, e⟩ := at_lst apS.cps.toList (k : Int) (by omega) (by rw [ap_len]; omega)
    have := List.all_eq_true.mp ap_ok c hc
    rw [Bool.and_eq_true, decide_eq_true_eq, decide_eq_true_eq] at this
    exact ⟨sz _ (by decide), c, e, hN _ _ ⟨rfl, c, this.1, this.2, rfl⟩⟩
  obtain ⟨rfl, c, c1, c2, rfl⟩ := hI
  refine seq_gen (fun ρ W6 => StOk W6 p g (n + 4 * (many - (k + 1))) ∧ ∃ t : List Nat, Pr t ∧ t.length ≤ 3 ∧ ρ = [some (.sh (.ref p)), some (.sh (.int (many : Nat))), some (.sh (.str sgS)), some (.sh (.bl b)), some (.ol (ks.map keyTD)), some (.sh (.int (k : Nat))), some (.sh (.str (mkS t))), none]) (fun ρ W6 hI => ?_) (fun N hN => ?tx)
  case tx =>
    cases b with
    | true => exact hN _ _ ⟨hs.less (by omega), [c], fun x hx => by rw [List.mem_singleton.mp hx]; exact ⟨c1, c2⟩, by rw [List.length_singleton]; omega, rfl⟩
    | false =>
      refine ifNot_f rfl ⟨⟨_, rfl⟩, ?_⟩
      refine dLc_eachB (fun ds W0 => ∃ m : Nat, m ≤ 3 ∧ ds = rng 0 m ∧ StOk W0 p g (n + 4 * (many - (k + 1)) + 3)) (fun j W' => StOk W' p g (n + 4 * (many - (k + 1)) + (3 - j))) (fun y => ∃ c : Nat, y = .str (mkS [c]) ∧ 32 ≤ c ∧ c ≤ 126) ?_ (fun P hP => ?_) (fun ds W0 hB => ?_) (fun ds W0 hB j d W' hj hS P hP => ?_) (fun ds W0 hB ys W' hyl hys hS => ?_)
      · exact noOwn1 (by simp)
      · refine ⟨rfl, p, g, 4, n + 4 * (many - (k + 1)) + 3, rfl, by decide, by decide, hs.less (by omega), fun r W2 r0 r1 hs _ => ⟨by omega, by omega, hP _ _ ⟨r.toNat, by omega, rfl, hs⟩⟩⟩
      · obtain ⟨m, hm3, rfl, hs⟩ := hB
        exact ⟨by rw [rng_len]; exact sz _ (by omega), hs⟩
      · obtain ⟨m, hm3, rfl, hs⟩ := hB
        have hjm : j < m := by
          have := (List.getElem?_eq_some_iff.mp hj).1
          rwa [rng_len] at this
        refine ⟨(by rw [sg_len2]; exact sz 94 (by decide) : sgS.length ≤ sizeLine), rfl, p, g, 94, n + 4 * (many - (k + 1)) + (3 - (j + 1)), ?_, by decide, by decide, hS.less (by omega), fun r W2 r0 r1 hs _ => ?_⟩
        · show [D.ref p, D.int (sgS.length : Nat)] = _
          rw [sg_len2]; rfl
        · obtain ⟨c, hc, e⟩ := at_lst sgS.cps.toList r r0 (by rw [sg_len]; exact r1)
          have := List.all_eq_true.mp sg_ok c hc
          rw [Bool.and_eq_true, decide_eq_true_eq, decide_eq_true_eq] at this
          exact ⟨sz _ (by decide), c, e, hP _ _ ⟨c, rfl, this.1, this.2⟩ hs⟩
      · obtain ⟨m, hm3, rfl, _⟩ := hB
        rw [rng_len] at hyl hS
        obtain ⟨cs, rfl, hcs, hcl⟩ := chars_of hys
        obtain ⟨j1, j2⟩ := join_parts (ys := cs.map fun c => [c]) (n := 3) (B := 1) (by rw [List.length_map]; omega) (fun y hy => by
          obtain ⟨c, _, rfl⟩ := List.mem_map.mp hy
          exact Nat.le_refl _) (by decide)
        refine ⟨_, j1, j2, ?_⟩
        rw [join_mkS, flat_one]
        exact hN _ _ ⟨hS.less (by omega), cs, hcs, by omega, rfl⟩
  obtain ⟨hs, t, ht, htl, rfl⟩ := hI
  refine seq_gen (fun ρ W7 => W7 = W6 ∧ ∃ t : List Nat, Pr t ∧ t.length ≤ 19 ∧ t ∉ ks ∧ ρ = [some (.sh (.ref p)), some (.sh (.int (many : Nat))), some (.sh (.str sgS)), some (.sh (.bl b)), some (.ol (ks.map keyTD)), some (.sh (.int (k : Nat))), some (.sh (.str (mkS t))), none]) (fun ρ W7 hI => ?_) (fun N hN => ?wh)
  case wh =>
    refine dWhile_of (fun m ρ W7 => W7 = W6 ∧ ∃ j : Nat, m + j = ks.length + 1 ∧ (∀ i, i < j → t ++ List.replicate i 97 ∈ ks) ∧ ρ = [some (.sh (.ref p)), some (.sh (.int (many : Nat))), some (.sh (.str sgS)), some (.sh (.bl b)), some (.ol (ks.map keyTD)), some (.sh (.int (k : Nat))), some (.sh (.str (mkS (t ++ List.replicate j 97)))), none]) (ks.length + 1) ⟨rfl, 0, rfl, fun i z => absurd z (Nat.not_lt_zero i), by rw [List.replicate_zero, List.append_nil]⟩ (fun m ρ W7 hI => ?_)
    obtain ⟨rfl, j, hmj, hin, rfl⟩ := hI
    have hj := as_few hin
    have hpr : Pr (t ++ List.replicate j 97) := pr_app ht fun c hc => by
      rw [(List.mem_replicate.mp hc).2]; exact ⟨by decide, by decide⟩
    have fl := flat_strs (ks.map mkS)
    refine ⟨_, by rw [keys_D]; exact fl.1, rfl, fl.2, ?_⟩
    rw [if_neg Bool.false_ne_true, inV_strs, mem_mkS]
    by_cases hmem : t ++ List.replicate j 97 ∈ ks
    · rw [decide_eq_true hmem]
      have hin2 : ∀ i, i < j + 1 → t ++ List.replicate i 97 ∈ ks := fun i hi => by
        rcases Nat.lt_succ_iff_lt_or_eq.mp hi with hi | rfl
        · exact hin i hi
        · exact hmem
      have := as_few hin2
      refine ite_t ⟨sz _ ?_, m - 1, by omega, rfl, j + 1, by omega, hin2, ?_⟩
      · rw [len_mkS, List.length_append, List.length_replicate]; show _ + 1 ≤ _; omega
      · show ([_, _, _, _, _, _, some (Sl.sh (D.str (mkS (t ++ List.replicate j 97) ++ mkS [97]))), _] : List (Option Sl)) = _
        rw [app_mkS, List.append_assoc, ← List.replicate_succ']
    · rw [decide_eq_false hmem]
      exact ite_f (hN _ _ ⟨rfl, _, hpr, by rw [List.length_append, List.length_replicate]; omega, hmem, rfl⟩)
  obtain ⟨rfl, t2, ht2, htl2, hni, rfl⟩ := hI
  refine ⟨⟨_, rfl⟩, ?_, hs, ks ++ [t2], some (.int (k : Nat)), some (.str (mkS t2)), by rw [List.length_append, hkl]; rfl, ⟨?_, ?_, ?_⟩, ?_⟩
  · rw [List.length_map]; show _ < 16777216; omega
  · rw [List.nodup_append]
    exact ⟨hk.nd, by simp, fun a ha b hb e => hni (by rw [List.mem_singleton.mp hb] at e; exact e ▸ ha)⟩
  · intro x hx
    rcases List.mem_append.mp hx with hx | hx
    · exact hk.pr x hx
    · rw [List.mem_singleton.mp hx]; exact ht2
  · intro x hx
    rcases List.mem_append.mp hx with hx | hx
    · exact hk.len x hx
    · rw [List.mem_singleton.mp hx]; exact htl2
  · rw [List.map_append]; rfl
end K54
namespace K54
open PySem PySem.Spec L2 G TL C LV
theorem pr_str {l : List Nat} (h : Pr l) : PyData.strOk (mkS l) = true := okS_iff.mpr fun c hc => by
  have : c ∈ l := by rw [← tl_mkS l]; exact hc
  have := h c this
  omega
theorem tri_list (a b : List Nat) : a < b ∨ a = b ∨ b < a := by
  by_cases h : a < b
  · exact .inl h
  · rcases List.le_iff_lt_or_eq.mp (List.not_lt.mp h) with h | h
    · exact .inr (.inr h)
    · exact .inr (.inl h.symm)
abbrev leN (a b : List Nat) : Bool := !decide (b < a)
abbrev kSort (ws : List (List Nat)) : List (List Nat) := ws.mergeSort leN
theorem str_ltN (a b : List Nat) : PySem.W.dataLt (D.py (.str (mkS a))) (D.py (.str (mkS b))) = decide (a < b) := by
  rw [D.py, D.py, PySem.W.dataLt_str]; rfl
theorem srt_keys (ws : List (List Nat)) : srt (ws.map keyTD) = (kSort ws).map keyTD := by
  refine (PySem.W.sort_maps (r := leN) (s := PySem.W.dataLe false D.py) (fun l => D.str (mkS l)) (l := ws) fun a ha b hb => ?_).symm
  show (!decide (b < a)) = !PySem.W.dataLt (D.py (.str (mkS b))) (D.py (.str (mkS a)))
  rw [str_ltN]
theorem k_pair (ws : List (List Nat)) : List.Pairwise (fun a b => leN a b = true) (kSort ws) := by
  refine List.pairwise_mergeSort (fun a b c h1 h2 => ?_) (fun a b => ?_) ws
  · rw [Bool.not_eq_true', decide_eq_false_iff_not] at h1 h2 ⊢
    intro h
    rcases tri_list a b with q | q | q
    · exact h2 (List.lt_trans h q)
    · exact h2 (q ▸ h)
    · exact h1 q
  · rw [Bool.or_eq_true, Bool.not_eq_true', Bool.not_eq_true', decide_eq_false_iff_not, decide_eq_false_iff_not]
    by_cases q : b < a
    · exact .inr fun z => List.lt_irrefl _ (List.lt_trans q z)
    · exact .inl q
theorem ord_of : ∀ {ws : List (List Nat)}, List.Pairwise (fun a b => leN a b = true) ws → ws.Nodup → ordB ws = true
  | [], _, _ => rfl
  | [_], _, _ => rfl
  | a :: b :: r, h, nd => by
    rw [List.pairwise_cons] at h
    rw [List.nodup_cons] at nd
    have h1 := h.1 b List.mem_cons_self
    rw [Bool.not_eq_true', decide_eq_false_iff_not] at h1
    have : a < b := by
      rcases tri_list a b with q | q | q
      · exact q
      · exact absurd (by rw [q]; exact List.mem_cons_self) nd.1
      · exact absurd q h1
    show (decide (a < b) && ordB (b :: r)) = true
    rw [decide_eq_true this, ord_of h.2 nd.2]; rfl
theorem sort_ok {ws : List (List Nat)} (h : ∀ l ∈ ws, Pr l) : (∀ x ∈ ws.map keyTD, D.good 60 x = true) ∧ PySem.W.AllAlike ((ws.map keyTD).map D.py) ∧ PySem.W.Sortable ((ws.map keyTD).map D.py) := by
  have e : ∀ x ∈ (ws.map keyTD).map D.py, ∃ s, x = .str s := fun x hx => by
    obtain ⟨d, hd, rfl⟩ := List.mem_map.mp hx
    obtain ⟨l, hl, rfl⟩ := List.mem_map.mp hd
    exact ⟨_, rfl⟩
  refine ⟨fun x hx => ?_, fun d hd d' hd' => ?_, .inr fun d hd => ?_⟩
  · obtain ⟨l, hl, rfl⟩ := List.mem_map.mp hx
    exact pr_str (h l hl)
  · obtain ⟨s, rfl⟩ := e d hd
    obtain ⟨s', rfl⟩ := e d' hd'
    rfl
  · obtain ⟨s, rfl⟩ := e d hd
    exact ⟨fun z => (nomatch z), fun xs z => (nomatch z)⟩
structure WsOk (ks ws : List (List Nat)) : Prop where
  sub : ∀ w ∈ ws, w ∈ ks
  ord : ordB ws = true
  len : ws.length ≤ 16
theorem sub_ws {ks sub : List (List Nat)} (hk : KsOk ks) (hl : ks.length ≤ 16) (h : sub.Sublist ks) : WsOk ks (kSort sub) := by
  have pm := List.mergeSort_perm sub leN
  exact ⟨fun w hw => h.subset (pm.mem_iff.mp hw), ord_of (k_pair sub) (pm.nodup_iff.mpr (hk.nd.sublist h)), by rw [List.length_mergeSort]; exact Nat.le_trans h.length_le hl⟩
abbrev dictW (wf : Nat × Nat → List (List Nat)) (l : List (Nat × Nat)) : List (D × D) := l.map fun m => (nameD m, D.tup ((wf m).map keyTD))
abbrev dictT (tf : Nat × Nat → Tx) (l : List (Nat × Nat)) : List (D × D) := l.map fun m => (nameD m, txD (tf m))
theorem take_snoc {α : Type} {l : List α} {i : Nat} {a : α} (h : l[i]? = some a) : l.take (i + 1) = l.take i ++ [a] := by rw [List.take_add_one, h]; rfl
theorem not_ahead {α : Type} {l : List α} {i : Nat} {a : α} (nd : l.Nodup) (h : l[i]? = some a) : a ∉ l.take i := fun hm => by
  obtain ⟨j, hj, e⟩ := List.mem_take_iff_getElem.mp hm
  have hi := (List.getElem?_eq_some_iff.mp h)
  obtain ⟨hi, e2⟩ := hi
  exact List.pairwise_iff_getElem.mp nd j i (by omega) hi (by omega) (e.trans e2.symm)
theorem old_key {f : Nat × Nat → D} {l : List (Nat × Nat)} {m : Nat × Nat} {i : Nat} {z : D} (h : m ∉ l) (e : (l.map fun m => (nameD m, f m))[i]? = some (nameD m, z)) : False := by
  have := List.mem_of_getElem? e
  obtain ⟨x, hx, e2⟩ := List.mem_map.mp this
  exact h (nameD_inj (Prod.ext_iff.mp e2).1 ▸ hx)
/-- _law_parts: what is written -/
theorem parts_writes {De : EndsD} {W : Wd} {p g : Addr} {n reads : Nat} {listed : List (Nat × Nat)} {ks : List (List Nat)} (nd : listed.Nodup) (hll : listed.length ≤ 24) (hk : KsOk ks) (hkl : ks.length ≤ 16) (hs : StOk W p g (n + 16 * 24)) {ft : TID} {f : TB}
    (h : ∀ (wf : Nat × Nat → List (List Nat)) (x5 : Option D) W', StOk W' p g n → (∀ m ∈ listed, WsOk ks (wf m)) → De.nx [some (.sh (.ref p)), some (.sh (.lst (listed.map nameD))), some (.sh (.lst (ks.map keyTD))), some (.sh (.int (reads : Nat))), some (.on (dictW wf listed)), x5.map Sl.sh, none, none, none, none, none, none, none] W') :
    dFor (iSeq (dVar 1)) (gdName 5)
      (dNPutO 4 (dCB dTupC (dCons (dFresh (dSortA (dFresh (dLc (iSeq (dVar 2)) (gdName 9) (dBool (dOp dEq (dCall sp_law_draw 2 (dCons (dVar 0) (dCons (dC (.int 3)) dNil))) (dC (.int 0)))) (dVar 9) [9])))) dNil)) (dVar 5)) De
      [some (.sh (.ref p)), some (.sh (.lst (listed.map nameD))), some (.sh (.lst (ks.map keyTD))), some (.sh (.int (reads : Nat))), some (.on []), none, none, none, none, none, none, none, none] W := by
  refine dFor_of (listed.map nameD) (fun i ρ W2 => StOk W2 p g (n + 16 * (24 - i)) ∧ ∃ (wf : Nat × Nat → List (List Nat)) (x5 : Option D), (∀ m ∈ listed.take i, WsOk ks (wf m)) ∧ ρ = [some (.sh (.ref p)), some (.sh (.lst (listed.map nameD))), some (.sh (.lst (ks.map keyTD))), some (.sh (.int (reads : Nat))), some (.on (dictW wf (listed.take i))), x5.map Sl.sh, none, none, none, none, none, none, none])
    (fun P hP => hP) ⟨hs, fun _ => [], none, fun m hm => by simp at hm, rfl⟩ (fun i d ρ W2 hd hI => ?turn) (fun ρ W2 hI => ?done)
  case done =>
    obtain ⟨hs, wf, x5, hw, rfl⟩ := hI
    rw [List.length_map, List.take_length] at hw ⊢
    exact h wf x5 W2 (hs.less (by omega)) hw
  obtain ⟨hs, wf, x5, hw, rfl⟩ := hI
  rw [List.getElem?_map] at hd
  obtain ⟨m, hm, rfl⟩ := Option.map_eq_some_iff.mp hd
  have hi := (List.getElem?_eq_some_iff.mp hm).1
  have hna := not_ahead nd hm
  show dNPutO _ _ _ _ [some (.sh (.ref p)), some (.sh (.lst (listed.map nameD))), some (.sh (.lst (ks.map keyTD))), some (.sh (.int (reads : Nat))), some (.on (dictW wf (listed.take i))), some (.sh (nameD m)), none, none, none, none, none, none, none] W2
  refine dLc_inv (ks.map keyTD) W2 (fun j acc W' => StOk W' p g (n + 16 * (24 - (i + 1)) + (16 - j)) ∧ ∃ sub : List (List Nat), sub.Sublist (ks.take j) ∧ acc = sub.map keyTD) (noOwn1 (by simp)) (sz _ (by rw [List.length_map]; omega)) (fun P hP => hP) ⟨hs.less (by omega), [], List.nil_sublist _, rfl⟩ (fun j d acc W' hj _ hI => ?_) (fun acc W' _ hI => ?_)
  · obtain ⟨hs, sub, hsub, rfl⟩ := hI
    rw [List.getElem?_map] at hj
    obtain ⟨k, hk1, rfl⟩ := Option.map_eq_some_iff.mp hj
    have hj2 := (List.getElem?_eq_some_iff.mp hk1).1
    refine ⟨rfl, p, g, 3, n + 16 * (24 - (i + 1)) + (16 - (j + 1)), rfl, by decide, by decide, hs.less (by omega), fun r W3 r0 r1 hs he => dEq_int ⟨rfl, ite_d (fun _ => ⟨rfl, hs, sub ++ [k], ?_, ?_⟩) (fun _ => ⟨hs, sub, ?_, rfl⟩)⟩⟩
    · rw [take_snoc hk1]; exact hsub.append (List.Sublist.refl _)
    · rw [List.map_append]; rfl
    · rw [take_snoc hk1]; exact hsub.trans (List.sublist_append_left _ _)
  · obtain ⟨hs, sub, hsub, rfl⟩ := hI
    have hsub2 := hsub.trans (List.take_sublist _ _)
    obtain ⟨o1, o2, o3⟩ := sort_ok (ws := sub) fun l hl => hk.pr l (hsub2.subset hl)
    refine ⟨o1, o2, o3, ⟨_, rfl⟩, nk_name m, ?_, fun i z e => (old_key hna e).elim, fun _ => ?_⟩
    · rw [List.length_map, List.length_take]; show _ < 16777216; omega
    · refine ⟨hs.less (by omega), fun x => if x = m then kSort sub else wf x, some (nameD m), fun x hx => ?_, ?_⟩
      · by_cases e : x = m
        · simp only [e, if_true]; exact sub_ws hk hkl hsub2
        · simp only [e, if_false]
          rw [take_snoc hm] at hx
          rcases List.mem_append.mp hx with hx | hx
          · exact hw x hx
          · exact absurd (List.mem_singleton.mp hx) e
      · rw [srt_keys, take_snoc hm]
        have e1 : dictW (fun x => if x = m then kSort sub else wf x) (listed.take i ++ [m]) = dictW wf (listed.take i) ++ [(nameD m, D.tup ((kSort sub).map keyTD))] := by
          unfold dictW
          rw [List.map_append]
          congr 1
          · refine List.map_congr_left fun x hx => ?_
            have : (fun x => if x = m then kSort sub else wf x) x = wf x := if_neg (fun e : x = m => hna (by rw [← e]; exact hx))
            rw [this]
          · simp
        rw [e1]; rfl
end K54
namespace K54
open PySem PySem.Spec L2 G TL C LV
structure RdOk (listed : List (Nat × Nat)) (ks : List (List Nat)) (wf : Nat × Nat → List (List Nat)) (m : Nat × Nat) (r : List Nat × Option (Nat × Nat)) : Prop where
  key : r.1 ∈ ks
  src : ∀ s, r.2 = some s → s ≠ m ∧ s ∈ listed ∧ r.1 ∈ wf s
structure TxP (listed : List (Nat × Nat)) (ks : List (List Nat)) (wf : Nat × Nat → List (List Nat)) (m : Nat × Nat) (t : Tx) : Prop where
  lv : t.lv ∈ levelsS
  rl : t.rs.length ≤ 12
  rs : ∀ r ∈ t.rs, RdOk listed ks wf m r
  ws : t.ws = wf m
theorem TxP.tx1 {listed : List (Nat × Nat)} {ks : List (List Nat)} {wf : Nat × Nat → List (List Nat)} {tf : Nat × Nat → Tx} (hk : KsOk ks) (hw : ∀ m ∈ listed, WsOk ks (wf m)) (h : ∀ m ∈ listed, TxP listed ks wf m (tf m)) {m : Nat × Nat} (hm : m ∈ listed) :
    Tx1 listed (listed.map tf) m (tf m) := by
  have t := h m hm
  have w := hw m hm
  refine ⟨⟨t.lv, fun r hr => hk.pr _ (t.rs r hr).key, fun x hx => hk.pr _ (w.sub x (t.ws ▸ hx)), t.ws ▸ w.ord⟩, t.rl, t.ws ▸ w.len, fun r hr => hk.len _ (t.rs r hr).key, fun x hx => hk.len _ (w.sub x (t.ws ▸ hx)), fun r hr src e => ?_⟩
  obtain ⟨a, b, c⟩ := (t.rs r hr).src src e
  obtain ⟨j, hj⟩ := List.mem_iff_getElem?.mp b
  exact ⟨a, j, tf src, hj, by rw [List.getElem?_map, hj]; rfl, (h src b).ws ▸ c⟩
theorem dictW_at {wf : Nat × Nat → List (List Nat)} {l : List (Nat × Nat)} {m : Nat × Nat} (h : m ∈ l) : ∃ i : Nat, ((dictW wf l).map (·.1))[i]? = some (nameD m) ∧ ((dictW wf l).map (·.2))[i]? = some (D.tup ((wf m).map keyTD)) := by
  obtain ⟨i, hi⟩ := List.mem_iff_getElem?.mp h
  refine ⟨i, ?_, ?_⟩
  · rw [List.getElem?_map, List.getElem?_map, hi]; rfl
  · rw [List.getElem?_map, List.getElem?_map, hi]; rfl
theorem dNe_name {a b : Nat × Nat} {Q : D → Prop} (h : Q (.bl (!decide (a = b)))) : dNe (nameD a) (nameD b) Q := by
  have key : dNeN (nameD a) (nameD b) Q := ⟨by rfl, by rfl, by rw [eq_name]; exact h⟩
  unfold dNe; exact key
theorem dFrzN_of {j : Nat} {f : TSD} {De : EndsD} {ρ : G.Env} {W : Wd} {kvs : List (D × D)} (h : ρ[j]? = some (some (.on kvs))) (k : f De (ρ.set j (some (.sh (.dtt (kvs.map (·.1)) (kvs.map (·.2)))))) W) : dFrzN j f De ρ W := by
  unfold dFrzN; rw [h]; exact k
theorem dFrz_of {i : Nat} {f : TSD} {De : EndsD} {ρ : G.Env} {W : Wd} {ds : List D} (h : ρ[i]? = some (some (.ol ds))) (k : f De (ρ.set i (some (.sh (.lst ds)))) W) : dFrz i f De ρ W := by
  unfold dFrz; rw [h]; exact k
theorem rd_law_parts : Rd n_law_parts 4 sp_law_parts d_law_parts := by
  rintro ds W Q Qx _ ⟨p, g, listed, ks, reads, n, rfl, nd, hll, hk, kne, hkl, hrd, hs, h⟩
  show d_law_parts _ [some (.sh (.ref p)), some (.sh (.lst (listed.map nameD))), some (.sh (.lst (ks.map keyTD))), some (.sh (.int (reads : Nat))), none, none, none, none, none, none, none, none, none] W
  unfold d_law_parts
  refine nxs ?_
  refine seq_gen (fun ρ W2 => ∃ (wf : Nat × Nat → List (List Nat)) (x5 : Option D), StOk W2 p g (n + 1000) ∧ (∀ m ∈ listed, WsOk ks (wf m)) ∧ ρ = [some (.sh (.ref p)), some (.sh (.lst (listed.map nameD))), some (.sh (.lst (ks.map keyTD))), some (.sh (.int (reads : Nat))), some (.on (dictW wf listed)), x5.map Sl.sh, none, none, none, none, none, none, none]) (fun ρ W2 hI => ?_)
    (fun N hN => parts_writes (n := n + 1000) (ft := iSeq (dVar 1)) (f := dYes) nd hll hk hkl (hs.less (by omega)) fun wf x5 W' a b => hN _ _ ⟨wf, x5, a, b, rfl⟩)
  obtain ⟨wf, x5, hs, hw, rfl⟩ := hI
  obtain ⟨DW, hDW, hat⟩ : ∃ DW : D, D.dtt ((dictW wf listed).map (·.1)) ((dictW wf listed).map (·.2)) = DW ∧ ∀ m ∈ listed, ∃ ks ds, DW = .dtt ks ds ∧ ∃ i : Nat, ks[i]? = some (nameD m) ∧ ds[i]? = some (D.tup ((wf m).map keyTD)) := ⟨_, rfl, fun m hm => ⟨_, _, rfl, dictW_at hm⟩⟩
  refine dFrzN_of rfl ?_
  show dSeq _ _ _ [some (.sh (.ref p)), some (.sh (.lst (listed.map nameD))), some (.sh (.lst (ks.map keyTD))), some (.sh (.int (reads : Nat))), some (.sh (D.dtt ((dictW wf listed).map (·.1)) ((dictW wf listed).map (·.2)))), x5.map Sl.sh, none, none, none, none, none, none, none] W2
  rw [hDW]
  refine nxs ?_
  have kl0 : 0 < ks.length := List.length_pos_iff.mpr kne
  have km : (ks.map keyTD).length = ks.length := List.length_map _
  refine seq_gen (fun ρ W3 => StOk W3 p g n ∧ ∃ (tf : Nat × Nat → Tx) (x5 x7 x8 x9 x10 x11 : Option D), (∀ m ∈ listed, TxP listed ks wf m (tf m)) ∧ ρ = [some (.sh (.ref p)), some (.sh (.lst (listed.map nameD))), some (.sh (.lst (ks.map keyTD))), some (.sh (.int (reads : Nat))), some (.sh DW), x5.map Sl.sh, some (.on (dictT tf listed)), x7.map Sl.sh, x8.map Sl.sh, x9.map Sl.sh, x10.map Sl.sh, x11.map Sl.sh, none]) (fun ρ W3 hI => ?_) (fun N hN => ?_)
  · obtain ⟨hs, tf, x5, x7, x8, x9, x10, x11, ht, rfl⟩ := hI
    have e1 : (dictT tf listed).map (·.1) = listed.map nameD := by rw [List.map_map]; rfl
    have e2 : (dictT tf listed).map (·.2) = (listed.map tf).map txD := by rw [List.map_map, List.map_map]; rfl
    refine dFrzN_of rfl ?_
    show Q (.dtt ((dictT tf listed).map (·.1)) ((dictT tf listed).map (·.2))) W3
    rw [e1, e2]
    refine h (listed.map tf) W3 (List.length_map _) (fun i m t hi ht2 => ?_) hs
    rw [List.getElem?_map, hi] at ht2
    cases ht2
    exact TxP.tx1 hk hw ht (List.mem_of_getElem? hi)
  refine dFor_of (listed.map nameD) (fun i ρ W3 => StOk W3 p g (n + 40 * (24 - i)) ∧ ∃ (tf : Nat × Nat → Tx) (x5 x7 x8 x9 x10 x11 : Option D), (∀ m ∈ listed.take i, TxP listed ks wf m (tf m)) ∧ ρ = [some (.sh (.ref p)), some (.sh (.lst (listed.map nameD))), some (.sh (.lst (ks.map keyTD))), some (.sh (.int (reads : Nat))), some (.sh DW), x5.map Sl.sh, some (.on (dictT tf (listed.take i))), x7.map Sl.sh, x8.map Sl.sh, x9.map Sl.sh, x10.map Sl.sh, x11.map Sl.sh, none])
    (fun P hP => hP) ⟨hs.less (by omega), fun _ => ⟨default, [], []⟩, x5, none, none, none, none, none, fun m hm => by simp at hm, rfl⟩ (fun i d ρ W3 hd hI => ?turn) (fun ρ W3 hI => ?done)
  case done =>
    obtain ⟨hs, tf, x5, x7, x8, x9, x10, x11, ht, rfl⟩ := hI
    rw [List.length_map, List.take_length] at ht ⊢
    exact hN _ _ ⟨hs.less (by omega), tf, x5, x7, x8, x9, x10, x11, ht, rfl⟩
  obtain ⟨hs, tf, x5, x7, x8, x9, x10, x11, ht, rfl⟩ := hI
  rw [List.getElem?_map] at hd
  obtain ⟨m, hm, rfl⟩ := Option.map_eq_some_iff.mp hd
  have hi := (List.getElem?_eq_some_iff.mp hm).1
  have hna := not_ahead nd hm
  refine seq_gen (fun ρ W4 => W4 = W3 ∧ ρ = [some (.sh (.ref p)), some (.sh (.lst (listed.map nameD))), some (.sh (.lst (ks.map keyTD))), some (.sh (.int (reads : Nat))), some (.sh DW), some (.sh (nameD m)), some (.on (dictT tf (listed.take i))), some (.ol []), x8.map Sl.sh, x9.map Sl.sh, x10.map Sl.sh, x11.map Sl.sh, none]) (fun ρ W4 hI => ?_) (fun N hN => ⟨sz 0 (by decide), hN _ _ ⟨rfl, rfl⟩⟩)
  obtain ⟨rfl, rfl⟩ := hI
  refine seq_gen (fun ρ W5 => StOk W5 p g (n + 40 * (24 - (i + 1)) + 10) ∧ ∃ (rs : List (List Nat × Option (Nat × Nat))) (x8 x9 x10 : Option D), rs.length ≤ 12 ∧ (∀ r ∈ rs, RdOk listed ks wf m r) ∧ ρ = [some (.sh (.ref p)), some (.sh (.lst (listed.map nameD))), some (.sh (.lst (ks.map keyTD))), some (.sh (.int (reads : Nat))), some (.sh DW), some (.sh (nameD m)), some (.on (dictT tf (listed.take i))), some (.ol (rs.map readD)), x8.map Sl.sh, x9.map Sl.sh, x10.map Sl.sh, x11.map Sl.sh, none]) (fun ρ W5 hI => ?_) (fun N hN => ?reads)
  case reads =>
    refine dFor_mk ⟨rfl, p, g, (reads : Int) + 1, n + 40 * (24 - (i + 1)) + 35, rfl, by omega, by omega, hs.less (by omega), fun r W5 r0 r1 hs he => ⟨by omega, by omega, ?_⟩⟩
    refine ⟨fun k ρ W5 => StOk W5 p g (n + 40 * (24 - (i + 1)) + 10 + 2 * (12 - k)) ∧ ∃ (rs : List (List Nat × Option (Nat × Nat))) (x8 x9 x10 : Option D), rs.length = k ∧ (∀ r ∈ rs, RdOk listed ks wf m r) ∧ ρ = [some (.sh (.ref p)), some (.sh (.lst (listed.map nameD))), some (.sh (.lst (ks.map keyTD))), some (.sh (.int (reads : Nat))), some (.sh DW), some (.sh (nameD m)), some (.on (dictT tf (listed.take i))), some (.ol (rs.map readD)), x8.map Sl.sh, x9.map Sl.sh, x10.map Sl.sh, x11.map Sl.sh, none],
      ⟨hs.less (by omega), [], x8, x9, x10, rfl, fun _ z => (nomatch z), rfl⟩, fun k d ρ W5 hd hI => ?_, fun ρ W5 hI => ?_⟩
    rotate_left
    · obtain ⟨hs, rs, x8, x9, x10, rl, hr, rfl⟩ := hI
      rw [rng_length] at rl
      exact hN _ _ ⟨hs.less (by omega), rs, x8, x9, x10, by omega, hr, rfl⟩
    obtain ⟨hs, rs, x8, x9, x10, rl, hr, rfl⟩ := hI
    have hk12 := (rng_get hd).1
    refine seq_gen (fun ρ W6 => StOk W6 p g (n + 40 * (24 - (i + 1)) + 10 + 2 * (12 - (k + 1)) + 1) ∧ ∃ key ∈ ks, ρ = [some (.sh (.ref p)), some (.sh (.lst (listed.map nameD))), some (.sh (.lst (ks.map keyTD))), some (.sh (.int (reads : Nat))), some (.sh DW), some (.sh (nameD m)), some (.on (dictT tf (listed.take i))), some (.ol (rs.map readD)), some (.sh d), some (.sh (keyTD key)), x10.map Sl.sh, x11.map Sl.sh, none]) (fun ρ W6 hI => ?_)
      (fun N hN => ⟨rfl, p, g, ((ks.map keyTD).length : Nat), n + 40 * (24 - (i + 1)) + 10 + 2 * (12 - (k + 1)) + 1, rfl, by rw [km]; omega, by rw [km]; omega, hs.less (by omega), fun r W6 r0 r1 hs he => ?_⟩)
    rotate_left
    · obtain ⟨j, rfl⟩ : ∃ j : Nat, r = j := ⟨r.toNat, by omega⟩
      have hj : j < ks.length := by rw [km] at r1; omega
      exact ⟨_, atI_of (i := j) (by rw [List.getElem?_map, List.getElem?_eq_getElem hj]; rfl), hN _ _ ⟨hs, ks[j], List.getElem_mem hj, rfl⟩⟩
    obtain ⟨hs, key, hkey, rfl⟩ := hI
    refine seq_gen (fun ρ W7 => W7 = W6 ∧ ρ = [some (.sh (.ref p)), some (.sh (.lst (listed.map nameD))), some (.sh (.lst (ks.map keyTD))), some (.sh (.int (reads : Nat))), some (.sh DW), some (.sh (nameD m)), some (.on (dictT tf (listed.take i))), some (.ol (rs.map readD)), some (.sh d), some (.sh (keyTD key)), some (.sh (.lst ([.non] ++ (listed.filter fun s => decide (s ≠ m) && decide (key ∈ wf s)).map nameD))), x11.map Sl.sh, none]) (fun ρ W7 hI => ?_) (fun N hN => ⟨sz 1 (by decide), ?_⟩)
    rotate_left
    · refine dLc_filtF listed nameD nameD (fun s => decide (s ≠ m) && decide (key ∈ wf s)) (noOwn1 (by simp)) (sz _ (by omega)) (fun P hP => hP) (fun x hx P hP => ?_) (fun x hx _ P hP => hP) ⟨sz _ ?_, hN _ _ ⟨rfl, rfl⟩⟩
      · refine dNe_name ?_
        by_cases e : x = m
        · rw [decide_eq_true e]
          have e2 : (decide (x ≠ m) && decide (key ∈ wf x)) = false := by rw [decide_eq_false (fun z : x ≠ m => z e)]; rfl
          rw [e2] at hP
          exact ite_f hP
        · rw [decide_eq_false e]
          have e2 : (decide (x ≠ m) && decide (key ∈ wf x)) = decide (key ∈ wf x) := by rw [decide_eq_true (show x ≠ m from e)]; rfl
          rw [e2] at hP
          refine ite_t ?_
          obtain ⟨ks', ds', e1, j, e2, e3⟩ := hat x hx
          subst e1
          refine ⟨nk_name x, j, _, e2, e3, in_strs (l := (wf x).map mkS) (.inl (by rw [keys_D])) ?_⟩
          rw [if_neg Bool.false_ne_true, mem_mkS]
          exact hP
      · rw [List.length_map]
        have := List.length_filter_le (fun s => decide (s ≠ m) && decide (key ∈ wf s)) listed
        simp only [List.length_singleton]; omega
    obtain ⟨rfl, rfl⟩ := hI
    generalize hF : (listed.filter fun s => decide (s ≠ m) && decide (key ∈ wf s)) = F
    have hF2 : ∀ s ∈ F, s ≠ m ∧ s ∈ listed ∧ key ∈ wf s := fun s h1 => by
      rw [← hF] at h1
      obtain ⟨a, b⟩ := List.mem_filter.mp h1
      rw [Bool.and_eq_true, decide_eq_true_eq, decide_eq_true_eq] at b
      exact ⟨b.1, a, b.2⟩
    have hFl : F.length ≤ 24 := by rw [← hF]; exact Nat.le_trans (List.length_filter_le _ _) hll
    have eS : [D.non] ++ F.map nameD = (none :: F.map some).map srcD := by
      rw [List.map_cons, List.map_map]; rfl
    rw [eS]
    have lS : ((none :: F.map some).map srcD).length = F.length + 1 := by rw [List.length_map, List.length_cons, List.length_map]
    refine ⟨⟨_, rfl⟩, rfl, p, g, (((none :: F.map some).map srcD).length : Nat), n + 40 * (24 - (i + 1)) + 10 + 2 * (12 - (k + 1)), rfl, by rw [lS]; omega, by rw [lS]; omega, hs.less (by omega), fun r W8 r0 r1 hs he => ?_⟩
    obtain ⟨j, rfl⟩ : ∃ j : Nat, r = j := ⟨r.toNat, by omega⟩
    have hj : j < (none :: F.map some).length := by rw [lS] at r1; rw [List.length_cons, List.length_map]; omega
    obtain ⟨o, ho⟩ : ∃ o, (none :: F.map some)[j]? = some o := ⟨_, List.getElem?_eq_getElem hj⟩
    have ho2 : ∀ s, o = some s → s ∈ F := fun s e => by
      subst e
      rcases List.mem_cons.mp (List.mem_of_getElem? ho) with h | h
      · cases h
      · obtain ⟨x, hx, e⟩ := List.mem_map.mp h
        cases e; exact hx
    refine ⟨_, atI_of (i := j) (by rw [List.getElem?_map, ho]; rfl), sz 2 (by decide), ?_, hs.less (by omega), rs ++ [(key, o)], some d, some (keyTD key), some (.lst ((none :: F.map some).map srcD)), by rw [List.length_append, rl]; rfl, fun x hx => ?_, ?_⟩
    · rw [List.length_map]; show _ < 16777216; omega
    · rcases List.mem_append.mp hx with hx | hx
      · exact hr x hx
      · rw [List.mem_singleton.mp hx]
        exact ⟨hkey, fun s e => hF2 s (ho2 s e)⟩
    · rw [List.map_append]; rfl
  obtain ⟨hs, rs, x8, x9, x10, rl, hr, rfl⟩ := hI
  refine dFrz_of rfl ?_
  refine seq_gen (fun ρ W6 => StOk W6 p g (n + 40 * (24 - (i + 1))) ∧ ∃ lv ∈ levelsS, ρ = [some (.sh (.ref p)), some (.sh (.lst (listed.map nameD))), some (.sh (.lst (ks.map keyTD))), some (.sh (.int (reads : Nat))), some (.sh DW), some (.sh (nameD m)), some (.on (dictT tf (listed.take i))), some (.sh (.lst (rs.map readD))), x8.map Sl.sh, x9.map Sl.sh, x10.map Sl.sh, some (.sh (.str lv)), none]) (fun ρ W6 hI => ?_)
    (fun N hN => ⟨sz 6 (by decide), rfl, p, g, 6, n + 40 * (24 - (i + 1)), rfl, by decide, by decide, hs.less (by omega), fun r W6 r0 r1 hs he => ?_⟩)
  rotate_left
  · obtain ⟨j, rfl⟩ : ∃ j : Nat, r = j := ⟨r.toNat, by omega⟩
    have hj : j < levelsS.length := by show j < 6; omega
    exact ⟨_, atI_of (i := j) (l := levelsS.map D.str) (by rw [List.getElem?_map, List.getElem?_eq_getElem hj]; rfl), hN _ _ ⟨hs, levelsS[j], List.getElem_mem hj, rfl⟩⟩
  obtain ⟨hs, lv, hlv, rfl⟩ := hI
  obtain ⟨ks', ds', e1, j, e2, e3⟩ := hat m (List.mem_of_getElem? hm)
  subst e1
  refine ⟨nk_name m, j, _, e2, e3, sz 3 (by decide), ⟨_, rfl⟩, nk_name m, ?_, fun i z e => (old_key hna e).elim, fun _ => ?_⟩
  · rw [List.length_map, List.length_take]; show _ < 16777216; omega
  · refine ⟨hs.less (by omega), fun x => if x = m then ⟨lv, rs, wf m⟩ else tf x, some (nameD m), some (.lst (rs.map readD)), x8, x9, x10, some (.str lv), fun x hx => ?_, ?_⟩
    · by_cases e : x = m
      · simp only [e, if_true]; exact ⟨hlv, rl, hr, rfl⟩
      · simp only [e, if_false]
        rw [take_snoc hm] at hx
        rcases List.mem_append.mp hx with hx | hx
        · exact ht x hx
        · exact absurd (List.mem_singleton.mp hx) e
    · rw [take_snoc hm]
      have e1 : dictT (fun x => if x = m then ⟨lv, rs, wf m⟩ else tf x) (listed.take i ++ [m]) = dictT tf (listed.take i) ++ [(nameD m, txD ⟨lv, rs, wf m⟩)] := by
        unfold dictT
        rw [List.map_append]
        congr 1
        · refine List.map_congr_left fun x hx => ?_
          have : (fun x => if x = m then (⟨lv, rs, wf m⟩ : Tx) else tf x) x = tf x := if_neg (fun e : x = m => hna (by rw [← e]; exact hx))
          rw [this]
        · simp
      rw [e1]; rfl
end K54
namespace K54
open PySem PySem.Spec L2 G TL C LV
theorem ints_of {p : Int → Prop} : ∀ {ys : List D}, (∀ y ∈ ys, ∃ o : Int, y = .int o ∧ p o) → ∃ os : List Int, ys = os.map D.int ∧ ∀ o ∈ os, p o
  | [], _ => ⟨[], rfl, fun _ z => (nomatch z)⟩
  | y :: ys, h => by
    obtain ⟨o, rfl, ho⟩ := h y List.mem_cons_self
    obtain ⟨os, rfl, hos⟩ := ints_of fun z hz => h z (List.mem_cons_of_mem _ hz)
    refine ⟨o :: os, rfl, fun x hx => ?_⟩
    rcases List.mem_cons.mp hx with rfl | hx
    · exact ho
    · exact hos x hx
theorem rng0 (n : Nat) : rng 0 n = (List.range n).map fun (s : Nat) => D.int (s : Nat) := by
  unfold rng
  exact List.map_congr_left fun s _ => by rw [show (0 : Int) + (s : Int) = (s : Int) by omega]
theorem sum_add {f g : Nat → Nat} : ∀ l : List Nat, (l.map fun s => f s + g s).sum = (l.map f).sum + (l.map g).sum
  | [] => rfl
  | a :: l => by
    simp only [List.map_cons, List.sum_cons, sum_add l]; omega
theorem sum_one {o : Nat} : ∀ M, ((List.range M).map fun s => if o = s then 1 else 0).sum = if o < M then 1 else 0
  | 0 => by simp
  | M + 1 => by
    rw [List.range_succ, List.map_append, List.sum_append, sum_one M]
    simp only [List.map_cons, List.map_nil, List.sum_cons, List.sum_nil]
    by_cases h1 : o < M
    · rw [if_pos h1, if_neg (by omega), if_pos (by omega)]; rfl
    · by_cases h2 : o = M
      · rw [if_neg h1, if_pos h2, if_pos (by omega)]; rfl
      · rw [if_neg h1, if_neg h2, if_neg (by omega)]; rfl
theorem sum_zero : ∀ l : List Nat, (l.map fun _ => 0).sum = 0
  | [] => rfl
  | a :: l => by rw [List.map_cons, List.sum_cons, sum_zero l]
theorem sum_count (M : Nat) : ∀ {os : List Int}, (∀ o ∈ os, 0 ≤ o ∧ o < M) → ((List.range M).map fun s => os.count ((s : Nat) : Int)).sum = os.length
  | [], _ => sum_zero _
  | o :: os, h => by
    have ho := h o List.mem_cons_self
    have e : ((List.range M).map fun s => (o :: os).count ((s : Nat) : Int)) = (List.range M).map fun s => os.count ((s : Nat) : Int) + (if o.toNat = s then 1 else 0) := by
      refine List.map_congr_left fun s _ => ?_
      rw [List.count_cons]
      congr 1
      by_cases q : o.toNat = s
      · rw [if_pos q, if_pos (by rw [beq_iff_eq]; omega)]
      · rw [if_neg q, if_neg (by rw [beq_iff_eq]; omega)]
    rw [e, sum_add, sum_one, sum_count M fun x hx => h x (List.mem_cons_of_mem _ hx), if_pos (by omega), List.length_cons]
/-- a history of empty transactions with so many in each session -/
def shape (c : Nat → Nat) (M : Nat) : Hist := (List.range M).map fun s => List.replicate (c s) ⟨default, [], []⟩
def build (c : Nat → Nat) (M : Nat) (tf : Nat × Nat → Tx) : Hist := (List.range M).map fun s => (List.range (c s)).map fun i => tf (s, i)
section
variable {c : Nat → Nat} {M : Nat} {tf : Nat × Nat → Tx}
theorem shape_len : (shape c M).length = M := by unfold shape; rw [List.length_map, List.length_range]
theorem build_len : (build c M tf).length = M := by unfold build; rw [List.length_map, List.length_range]
theorem shape_row {s : Nat} (h : s < M) : ((shape c M).getD s []).length = c s := by
  have : (shape c M)[s]? = some (List.replicate (c s) ⟨default, [], []⟩) := by unfold shape; rw [List.getElem?_map, List.getElem?_range h]; rfl
  rw [getD_get this, List.length_replicate]
theorem build_get {s : Nat} (h : s < M) : (build c M tf)[s]? = some ((List.range (c s)).map fun i => tf (s, i)) := by unfold build; rw [List.getElem?_map, List.getElem?_range h]; rfl
theorem shape_mem {n : Nat × Nat} : n ∈ namesH (shape c M) ↔ n.1 < M ∧ n.2 < c n.1 := by
  unfold namesH
  rw [List.mem_flatMap]
  constructor
  · rintro ⟨s, hs, hr⟩
    rw [List.mem_range, shape_len] at hs
    unfold rowN at hr
    obtain ⟨i, hi, rfl⟩ := List.mem_map.mp hr
    rw [List.mem_range, shape_row hs] at hi
    exact ⟨hs, hi⟩
  · rintro ⟨h1, h2⟩
    refine ⟨n.1, by rw [List.mem_range, shape_len]; exact h1, ?_⟩
    unfold rowN
    exact List.mem_map.mpr ⟨n.2, by rw [List.mem_range, shape_row h1]; exact h2, rfl⟩
theorem build_at {n : Nat × Nat} {t : Tx} (h : txAt (build c M tf) n = some t) : n ∈ namesH (shape c M) ∧ t = tf n := by
  obtain ⟨s, i⟩ := n
  obtain ⟨ses, h1, h2⟩ := txAt_get.mp h
  have hs := (List.getElem?_eq_some_iff.mp h1).1
  rw [build_len] at hs
  rw [build_get hs] at h1
  cases h1
  rw [List.getElem?_map] at h2
  obtain ⟨j, hj, e⟩ := Option.map_eq_some_iff.mp h2
  have hi := (List.getElem?_eq_some_iff.mp hj).1
  rw [List.length_range] at hi
  rw [List.getElem?_range hi] at hj
  cases hj
  exact ⟨shape_mem.mpr ⟨hs, hi⟩, e.symm⟩
theorem at_build {n : Nat × Nat} (h : n ∈ namesH (shape c M)) : txAt (build c M tf) n = some (tf n) := by
  obtain ⟨h1, h2⟩ := shape_mem.mp h
  obtain ⟨s, i⟩ := n
  exact txAt_get.mpr ⟨_, build_get h1, by rw [List.getElem?_map, List.getElem?_range h2]; rfl⟩
theorem shape_nd : (namesH (shape c M)).Nodup := by
  unfold namesH
  refine List.pairwise_flatMap.mpr ⟨fun s _ => ?_, ?_⟩
  · unfold rowN
    exact List.pairwise_map.mpr (List.Pairwise.imp (fun hab e => hab (Prod.ext_iff.mp e).2) List.nodup_range)
  · refine List.Pairwise.imp (fun {a b} hab x hx y hy e => ?_) List.nodup_range
    unfold rowN at hx hy
    obtain ⟨_, _, rfl⟩ := List.mem_map.mp hx
    obtain ⟨_, _, rfl⟩ := List.mem_map.mp hy
    exact hab (Prod.ext_iff.mp e).1
theorem shape_total : (namesH (shape c M)).length = ((List.range M).map c).sum := by
  unfold namesH
  rw [List.length_flatMap, shape_len]
  congr 1
  refine List.map_congr_left fun s hs => ?_
  unfold rowN
  rw [List.length_map, List.length_range, shape_row (List.mem_range.mp hs)]
theorem vok_key {k : List Nat} (h : k.length ≤ 19) : vok (keyTD k) = true := by
  show decide ((mkS k).length ≤ 100000) = true
  rw [len_mkS]; exact decide_eq_true (by omega)
theorem vok_name (n : Nat × Nat) : vok (nameD n) = true := rfl
theorem vok_lv {l : Str} (h : l ∈ levelsS) : vok (.str l) = true := by
  have : ∀ l ∈ levelsS, decide (l.length ≤ 100000) = true := by decide +kernel
  exact this l h
theorem vok_tx {listed : List (Nat × Nat)} {txs : List Tx} {n : Nat × Nat} {t : Tx} (h : Tx1 listed txs n t) : vok (txD t) = true := by
  obtain ⟨a, b, c, d, e, _⟩ := h
  refine vok_tup.mpr ⟨by simp, fun x hx => ?_⟩
  rcases List.mem_cons.mp hx with rfl | hx
  · exact vok_lv a.lv
  rcases List.mem_cons.mp hx with rfl | hx
  · refine vok_tup.mpr ⟨by rw [List.length_map]; omega, fun y hy => ?_⟩
    obtain ⟨r, hr, rfl⟩ := List.mem_map.mp hy
    refine vok_tup.mpr ⟨by simp, fun z hz => ?_⟩
    rcases List.mem_cons.mp hz with rfl | hz
    · exact vok_key (d r hr)
    · rw [List.mem_singleton.mp hz]
      cases r.2 with
      | none => rfl
      | some s => exact vok_name s
  · rw [List.mem_singleton.mp hx]
    refine vok_tup.mpr ⟨by rw [List.length_map]; omega, fun y hy => ?_⟩
    obtain ⟨r, hr, rfl⟩ := List.mem_map.mp hy
    exact vok_key (e r hr)
theorem build_good (hM : M ≤ 12) (hM0 : 0 < M) (hl : 0 < c (M - 1)) (hc : ∀ s < M, c s ≤ 24) {txs : List Tx} (ht : ∀ n ∈ namesH (shape c M), Tx1 (namesH (shape c M)) txs n (tf n)) (hx : ∀ (j : Nat) n t, (namesH (shape c M))[j]? = some n → txs[j]? = some t → t = tf n) : Good (build c M tf) := by
  have ses : ∀ x ∈ build c M tf, ∃ s < M, x = (List.range (c s)).map fun i => tf (s, i) := fun x hx => by
    unfold build at hx
    obtain ⟨s, hs, rfl⟩ := List.mem_map.mp hx
    exact ⟨s, List.mem_range.mp hs, rfl⟩
  have tx : ∀ x ∈ build c M tf, ∀ t ∈ x, ∃ n ∈ namesH (shape c M), t = tf n := fun x hx t ht => by
    obtain ⟨s, hs, rfl⟩ := ses x hx
    obtain ⟨i, hi, rfl⟩ := List.mem_map.mp ht
    exact ⟨(s, i), shape_mem.mpr ⟨hs, List.mem_range.mp hi⟩, rfl⟩
  refine ⟨⟨by rw [build_len]; exact hM, fun x hx => ?_, fun x hx t h => ?_⟩, ?_, ?_, ?_, ?_, ?_, ?_⟩
  · rw [List.getLast?_eq_getElem?, build_len, build_get (by omega)] at hx
    cases hx
    intro e
    have := congrArg List.length e
    rw [List.length_map, List.length_range, List.length_nil] at this
    omega
  · obtain ⟨n, hn, rfl⟩ := tx x hx t h
    exact (ht n hn).1
  · refine (firstI_none _).mpr fun k n hn => ?_
    show txS _ n = none
    unfold txS
    cases e : txAt (build c M tf) n with
    | none => rfl
    | some t =>
      obtain ⟨hn, rfl⟩ := build_at e
      refine (firstI_none _).mpr fun j r hr => ?_
      unfold rdF
      cases e2 : r.2 with
      | none => rfl
      | some src =>
        obtain ⟨a, j, t', h1, h2, h3⟩ := (ht n hn).2.2.2.2.2 r (List.mem_of_getElem? hr) src e2
        have e3 := hx j src t' h1 h2
        subst e3
        have : srcBad (build c M tf) (n.1, n.2) r.1 src = false := by
          unfold srcBad
          rw [decide_eq_false (by exact a), at_build (List.mem_of_getElem? h1)]
          show (false || !decide (r.1 ∈ (tf src).ws)) = false
          rw [decide_eq_true h3]; rfl
        show (if srcBad (build c M tf) (n.1, n.2) r.1 src = true then _ else _) = none
        rw [this, if_neg Bool.false_ne_true]
  · refine vok_tup.mpr ⟨by rw [List.length_map, build_len]; omega, fun y hy => ?_⟩
    obtain ⟨x, hx, rfl⟩ := List.mem_map.mp hy
    obtain ⟨s, hs, e⟩ := ses x hx
    refine vok_tup.mpr ⟨?_, fun z hz => ?_⟩
    · have := hc s hs
      rw [e, List.length_map, List.length_map, List.length_range]; omega
    · obtain ⟨t, ht1, rfl⟩ := List.mem_map.mp hz
      obtain ⟨n, hn, rfl⟩ := tx x hx t ht1
      exact vok_tx (ht n hn)
  · intro e
    have := congrArg List.length e
    rw [build_len, List.length_nil] at this
    omega
  · intro x hx
    obtain ⟨s, hs, e⟩ := ses x hx
    rw [e, List.length_map, List.length_range]
    exact hc s hs
  · intro x hx t h
    obtain ⟨n, hn, rfl⟩ := tx x hx t h
    exact (ht n hn).2.1
  · intro x hx t h
    obtain ⟨n, hn, rfl⟩ := tx x hx t h
    exact (ht n hn).2.2.1
end
end K54
namespace K54
open PySem PySem.Spec L2 G TL C LV
theorem idx_nd {α : Type} {l : List α} {i j : Nat} {a : α} (nd : l.Nodup) (h1 : l[i]? = some a) (h2 : l[j]? = some a) : i = j := by
  obtain ⟨hi, e1⟩ := List.getElem?_eq_some_iff.mp h1
  obtain ⟨hj, e2⟩ := List.getElem?_eq_some_iff.mp h2
  rcases Nat.lt_trichotomy i j with h | h | h
  · exact absurd (e1.trans e2.symm) (List.pairwise_iff_getElem.mp nd i j hi hj h)
  · exact h
  · exact absurd (e2.trans e1.symm) (List.pairwise_iff_getElem.mp nd j i hj hi h)
/-- the transaction that a name has -/
def txOf (l : List (Nat × Nat)) (txs : List Tx) (n : Nat × Nat) : Tx := (txs[l.idxOf n]?).getD ⟨default, [], []⟩
theorem txOf_at {l : List (Nat × Nat)} {txs : List Tx} {j : Nat} {n : Nat × Nat} {t : Tx} (nd : l.Nodup) (h1 : l[j]? = some n) (h2 : txs[j]? = some t) : t = txOf l txs n := by
  have hm := List.mem_of_getElem? h1
  have e : l[l.idxOf n]? = some n := by
    have := List.idxOf_lt_length_of_mem hm
    rw [List.getElem?_eq_getElem this, List.getElem_idxOf]
  have := idx_nd nd e h1
  unfold txOf
  rw [this, h2]; rfl
theorem rd_law_history : Rd n_law_history 5 sp_law_history d_law_history := by
  rintro ds W Q Qx _ ⟨p, g, most, sessions, reads, n, ks, rfl, hm0, hm1, hs0, hs1, hk, kne, hkl, hrd, hs, h⟩
  show d_law_history _ [some (.sh (.ref p)), some (.sh (.int (most : Nat))), some (.sh (.int (sessions : Nat))), some (.sh (.lst (ks.map keyTD))), some (.sh (.int (reads : Nat))), none, none, none, none, none, none, none] W
  unfold d_law_history
  refine seq_gen (fun ρ W2 => ∃ os : List Int, os ≠ [] ∧ os.length ≤ 24 ∧ (∀ o ∈ os, 0 ≤ o ∧ o < (sessions : Int)) ∧ StOk W2 p g (n + 2900) ∧ ρ = [some (.sh (.ref p)), some (.sh (.int (most : Nat))), some (.sh (.int (sessions : Nat))), some (.sh (.lst (ks.map keyTD))), some (.sh (.int (reads : Nat))), some (.sh (.lst (os.map D.int))), none, none, none, none, none, none]) (fun ρ W2 hI => ?_) (fun N hN => ?own)
  case own =>
    refine dLc_eachB (fun ds W0 => ∃ m : Nat, 1 ≤ m ∧ m ≤ 24 ∧ ds = rng 0 m ∧ StOk W0 p g (n + 2900 + 24)) (fun j W' => StOk W' p g (n + 2900 + (24 - j))) (fun y => ∃ o : Int, y = .int o ∧ 0 ≤ o ∧ o < (sessions : Int)) (noOwn1 (by simp)) (fun P hP => ?_) (fun ds W0 hB => ?_) (fun ds W0 hB j d W' hj hS P hP => ?_) (fun ds W0 hB ys W' hyl hys hS => ?_)
    · refine ⟨rfl, p, g, (most : Int), n + 2924, rfl, by omega, by omega, hs.less (by omega), fun r W2 r0 r1 hs _ => ⟨by omega, by omega, hP _ _ ⟨(1 + r).toNat, by omega, by omega, rfl, hs⟩⟩⟩
    · obtain ⟨m, _, hm, rfl, hs⟩ := hB
      exact ⟨by rw [rng_len]; exact sz _ (by omega), hs⟩
    · obtain ⟨m, _, hm, rfl, hs⟩ := hB
      have hjm := (rng_get hj).1
      exact ⟨rfl, p, g, (sessions : Int), n + 2900 + (24 - (j + 1)), rfl, by omega, by omega, hS.less (by omega), fun r W2 r0 r1 hs _ => hP _ _ ⟨r, rfl, r0, r1⟩ hs⟩
    · obtain ⟨m, hm1, hm, rfl, hs⟩ := hB
      rw [rng_len] at hyl hS
      obtain ⟨os, rfl, hos⟩ := ints_of hys
      rw [List.length_map] at hyl
      exact hN _ _ ⟨os, fun e => by subst e; simp at hyl; omega, by omega, hos, hS.less (by omega), rfl⟩
  obtain ⟨os, one, osl, hos, hs, rfl⟩ := hI
  refine seq_gen (fun ρ W3 => W3 = W2 ∧ ∃ m : Nat, (m : Int) ∈ os ∧ (∀ y ∈ os, y ≤ (m : Int)) ∧ ρ = [some (.sh (.ref p)), some (.sh (.int (most : Nat))), some (.sh (.int (sessions : Nat))), some (.sh (.lst (ks.map keyTD))), some (.sh (.int (reads : Nat))), some (.sh (.lst (os.map D.int))), some (.sh (.lst ((List.range (m + 1)).map fun s => .int (os.count ((s : Nat) : Int) : Nat)))), none, none, none, none, none]) (fun ρ W3 hI => ?_) (fun N hN => ?cnt)
  case cnt =>
    refine dLc_of (fun ds => ∃ m : Nat, (m : Int) ∈ os ∧ (∀ y ∈ os, y ≤ (m : Int)) ∧ ds = (List.range (m + 1)).map fun (s : Nat) => D.int (s : Nat)) (noOwn1 (by simp)) (fun P hP => ?_) (fun ds hB => ?_)
    · refine ⟨os, intsOf_map os, List.length_pos_iff.mpr one, fun m hm hmax => ?_⟩
      have := hos m hm
      refine ⟨by omega, by omega, ?_⟩
      have e : (m + 1).toNat = m.toNat + 1 := by omega
      have e2 : ((m.toNat : Nat) : Int) = m := by omega
      show P (rng 0 (m + 1).toNat) _ _
      rw [e, rng0]
      exact hP _ ⟨m.toNat, by rw [e2]; exact hm, by rw [e2]; exact hmax, rfl⟩
    · obtain ⟨m, hm, hmax, rfl⟩ := hB
      have := hos _ hm
      refine dLc_mapF (List.range (m + 1)) (fun (s : Nat) => D.int (s : Nat)) (fun s => .int (os.count ((s : Nat) : Int) : Nat)) (noOwn1 (by simp)) (sz _ (by rw [List.length_range]; omega)) (fun P hP => hP) (fun x hx P hP => ⟨⟨os, rfl⟩, fun ns e => ?_⟩) (hN _ _ ⟨rfl, m, hm, hmax, rfl⟩)
      have e2 : ns = os := by
        injection e with e
        have := congrArg (List.map fun d : D => match d with | .v (.int i) => i | _ => 0) e
        rw [List.map_map, List.map_map] at this
        have id : ∀ l : List Int, l.map ((fun d : D => match d with | .v (.int i) => i | _ => 0) ∘ D.int) = l := fun l => by
          induction l with
          | nil => rfl
          | cons a r ih => rw [List.map_cons, ih]; rfl
        rw [id, id] at this
        exact this.symm
      subst e2; exact hP
  obtain ⟨rfl, m, hm, hmax, rfl⟩ := hI
  generalize hc : (fun s : Nat => os.count ((s : Nat) : Int)) = c
  have hcs : ((List.range (m + 1)).map fun s => D.int (os.count ((s : Nat) : Int) : Nat)) = (List.range (m + 1)).map fun s => D.int (c s : Nat) := by rw [← hc]
  rw [hcs]
  have tot : ((List.range (m + 1)).map c).sum ≤ 24 := by
    rw [← hc, sum_count (m + 1) fun o ho => ⟨(hos o ho).1, by have := hmax o ho; omega⟩]; exact osl
  have cl : ∀ s < m + 1, c s ≤ 24 := fun s _ => by rw [← hc]; exact Nat.le_trans List.count_le_length osl
  have c0 : 0 < c (m + 1 - 1) := by rw [← hc]; exact List.count_pos_iff.mpr hm
  have hM : m + 1 ≤ 12 := by have := hos _ hm; omega
  have lSz : ((List.range (m + 1)).map fun s => D.int (c s : Nat)).length = m + 1 := by rw [List.length_map, List.length_range]
  have szAt : ∀ s < m + 1, ((List.range (m + 1)).map fun s => D.int (c s : Nat))[s]? = some (.int (c s : Nat)) := fun s h => by rw [List.getElem?_map, List.getElem?_range h]; rfl
  generalize hSz : ((List.range (m + 1)).map fun s => D.int (c s : Nat)) = SZ at lSz szAt
  generalize hh0 : shape c (m + 1) = h0
  have h0l : h0.length = m + 1 := by rw [← hh0]; exact shape_len
  have h0r : ∀ s < m + 1, (h0.getD s []).length = c s := fun s h => by rw [← hh0]; exact shape_row h
  have h0t : (namesH h0).length ≤ 24 := by rw [← hh0, shape_total]; exact tot
  have h0n : (namesH h0).Nodup := by rw [← hh0]; exact shape_nd
  refine seq_gen (fun ρ W4 => W4 = W3 ∧ ρ = [some (.sh (.ref p)), some (.sh (.int (most : Nat))), some (.sh (.int (sessions : Nat))), some (.sh (.lst (ks.map keyTD))), some (.sh (.int (reads : Nat))), some (.sh (.lst (os.map D.int))), some (.sh (.lst SZ)), some (.ol []), none, none, none, none]) (fun ρ W4 hI => ?_) (fun N hN => ⟨sz 0 (by decide), hN _ _ ⟨rfl, rfl⟩⟩)
  obtain ⟨rfl, rfl⟩ := hI
  refine seq_gen (fun ρ W5 => W5 = W4 ∧ ∃ x8 x9 : Option D, ρ = [some (.sh (.ref p)), some (.sh (.int (most : Nat))), some (.sh (.int (sessions : Nat))), some (.sh (.lst (ks.map keyTD))), some (.sh (.int (reads : Nat))), some (.sh (.lst (os.map D.int))), some (.sh (.lst SZ)), some (.ol ((namesH h0).map nameD)), x8.map Sl.sh, x9.map Sl.sh, none, none]) (fun ρ W5 hI => ?_) (fun N hN => ?lst)
  case lst =>
    refine dFor_of (rng 0 (m + 1)) (fun s ρ W5 => W5 = W4 ∧ ∃ x8 x9 : Option D, ρ = [some (.sh (.ref p)), some (.sh (.int (most : Nat))), some (.sh (.int (sessions : Nat))), some (.sh (.lst (ks.map keyTD))), some (.sh (.int (reads : Nat))), some (.sh (.lst (os.map D.int))), some (.sh (.lst SZ)), some (.ol ((preN h0 s 0).map nameD)), x8.map Sl.sh, x9.map Sl.sh, none, none]) (fun P hP => ?_) ⟨rfl, none, none, rfl⟩ (fun s d ρ W5 hd hI => ?turn) (fun ρ W5 hI => ?done)
    · show -(2 ^ 62) ≤ _ ∧ _ < 2 ^ 62 ∧ P (rng 0 _) _ _
      rw [lSz]
      refine ⟨by omega, by omega, ?_⟩
      rw [Int.toNat_natCast]; exact hP
    case done =>
      obtain ⟨rfl, x8, x9, rfl⟩ := hI
      rw [rng_length, ← h0l, pre_all]
      exact hN _ _ ⟨rfl, x8, x9, rfl⟩
    obtain ⟨rfl, x8, x9, rfl⟩ := hI
    obtain ⟨hs', rfl⟩ := rng_get hd
    rw [show (0 : Int) + (s : Int) = (s : Int) by omega]
    have cs := cl s hs'
    refine dFor_of (rng 0 (c s)) (fun i ρ W6 => W6 = W5 ∧ ∃ x9 : Option D, ρ = [some (.sh (.ref p)), some (.sh (.int (most : Nat))), some (.sh (.int (sessions : Nat))), some (.sh (.lst (ks.map keyTD))), some (.sh (.int (reads : Nat))), some (.sh (.lst (os.map D.int))), some (.sh (.lst SZ)), some (.ol ((preN h0 s i).map nameD)), some (.sh (.int (s : Nat))), x9.map Sl.sh, none, none]) (fun P hP => ⟨_, atI_of (szAt s hs'), ?_⟩) ⟨rfl, x9, rfl⟩ (fun i d ρ W6 hd hI => ?turn2) (fun ρ W6 hI => ?done2)
    · show -(2 ^ 62) ≤ _ ∧ _ < 2 ^ 62 ∧ P (rng 0 _) _ _
      refine ⟨by omega, by omega, ?_⟩
      rw [Int.toNat_natCast]; exact hP
    case done2 =>
      obtain ⟨rfl, x9, rfl⟩ := hI
      rw [rng_length, ← h0r s hs', pre_row]
      exact ⟨rfl, some _, x9, rfl⟩
    obtain ⟨rfl, x9, rfl⟩ := hI
    obtain ⟨hi, rfl⟩ := rng_get hd
    rw [show (0 : Int) + (i : Int) = (i : Int) by omega]
    have pl : (preN h0 s i).length ≤ 24 := by
      obtain ⟨r, er⟩ := names_split h0 (s := s) (i := i) (by rw [h0l]; exact hs') (by rw [h0r s hs']; exact hi)
      have := h0t
      rw [er, List.length_append] at this
      omega
    refine ⟨⟨_, rfl⟩, sz 2 (by decide), ?_, rfl, some (.int (i : Nat)), ?_⟩
    · rw [List.length_map]; show _ < 16777216; omega
    · rw [pre_snoc, List.map_append]; rfl
  obtain ⟨rfl, x8, x9, rfl⟩ := hI
  refine dFrz_of rfl ?_
  refine seq_gen (fun ρ W6 => StOk W6 p g n ∧ ∃ txs : List Tx, txs.length = (namesH h0).length ∧ (∀ (i : Nat) (m : Nat × Nat) (t : Tx), (namesH h0)[i]? = some m → txs[i]? = some t → Tx1 (namesH h0) txs m t) ∧ ρ = [some (.sh (.ref p)), some (.sh (.int (most : Nat))), some (.sh (.int (sessions : Nat))), some (.sh (.lst (ks.map keyTD))), some (.sh (.int (reads : Nat))), some (.sh (.lst (os.map D.int))), some (.sh (.lst SZ)), some (.sh (.lst ((namesH h0).map nameD))), x8.map Sl.sh, x9.map Sl.sh, some (.sh (.dtt ((namesH h0).map nameD) (txs.map txD))), none]) (fun ρ W6 hI => ?_)
    (fun N hN => ⟨rfl, p, g, namesH h0, ks, reads, n, rfl, h0n, h0t, hk, kne, hkl, hrd, hs.less (by omega), fun txs W' a b c => hN _ _ ⟨c, txs, a, b, rfl⟩⟩)
  obtain ⟨hs, txs, tl, ht, rfl⟩ := hI
  generalize htf : txOf (namesH h0) txs = tf
  have htx : ∀ (j : Nat) n t, (namesH h0)[j]? = some n → txs[j]? = some t → t = tf n := fun j n t h1 h2 => by rw [← htf]; exact txOf_at h0n h1 h2
  have hat : ∀ n ∈ namesH h0, ∃ j : Nat, (namesH h0)[j]? = some n ∧ txs[j]? = some (tf n) := fun n hn => by
    obtain ⟨j, hj⟩ := List.mem_iff_getElem?.mp hn
    have hl := (List.getElem?_eq_some_iff.mp hj).1
    have e : txs[j]? = some txs[j] := List.getElem?_eq_getElem (by omega)
    exact ⟨j, hj, by rw [e, htx j n _ hj e]⟩
  have hgood : Good (build c (m + 1) tf) := by
    refine build_good (txs := txs) hM (by omega) c0 cl (fun n hn => ?_) (fun j n t h1 h2 => htx j n t (by rw [← hh0]; exact h1) h2)
    rw [hh0] at hn ⊢
    obtain ⟨j, h1, h2⟩ := hat n hn
    exact ht j n _ h1 h2
  have hfin := h (build c (m + 1) tf) W6 hgood hs
  have eH : histD (build c (m + 1) tf) = .tup ((List.range (m + 1)).map fun s => .tup ((List.range (c s)).map fun i => txD (tf (s, i)))) := by
    unfold histD build
    rw [List.map_map]
    congr 1
    refine List.map_congr_left fun s _ => ?_
    show sesD _ = _
    unfold sesD
    rw [List.map_map]; rfl
  rw [eH] at hfin
  refine dLc_of (fun ds => ds = (List.range (m + 1)).map fun (s : Nat) => D.int (s : Nat)) (noOwn1 (by simp)) (fun P hP => ?_) (fun ds hB => ?_)
  · show -(2 ^ 62) ≤ _ ∧ _ < 2 ^ 62 ∧ P (rng 0 _) _ _
    rw [lSz]
    refine ⟨by omega, by omega, ?_⟩
    rw [Int.toNat_natCast, rng0]; exact hP _ rfl
  · subst hB
    refine dLc_mapF (List.range (m + 1)) (fun (s : Nat) => D.int (s : Nat)) (fun s => .tup ((List.range (c s)).map fun i => txD (tf (s, i)))) (noOwn1 (by simp)) (sz _ (by rw [List.length_range]; omega)) (fun P hP => hP) (fun s hx P hP => ?_) hfin
    have hs' := List.mem_range.mp hx
    have cs := cl s hs'
    refine dLc_of (fun ds => ds = (List.range (c s)).map fun (i : Nat) => D.int (i : Nat)) (noOwn1 (by simp)) (fun P hP => ⟨_, atI_of (szAt s hs'), ?_⟩) (fun ds hB => ?_)
    · show -(2 ^ 62) ≤ _ ∧ _ < 2 ^ 62 ∧ P (rng 0 _) _ _
      refine ⟨by omega, by omega, ?_⟩
      rw [Int.toNat_natCast, rng0]; exact hP _ rfl
    · subst hB
      refine dLc_mapF (List.range (c s)) (fun (i : Nat) => D.int (i : Nat)) (fun i => txD (tf (s, i))) (noOwn1 (by simp)) (sz _ (by rw [List.length_range]; omega)) (fun P hP => hP) (fun i hi P hP => ?_) hP
      obtain ⟨j, h1, h2⟩ := hat (s, i) (by rw [← hh0]; exact shape_mem.mpr ⟨hs', List.mem_range.mp hi⟩)
      exact ⟨sz 2 (by decide), nk_name (s, i), j, _, by rw [List.getElem?_map, h1]; rfl, by rw [List.getElem?_map, h2]; rfl, hP⟩
end K54
namespace K54
open PySem PySem.Spec L2 G TL C LV
theorem lv_nd : levelsS.Nodup := by decide +kernel
theorem rd_level_rank : Rd n_level_rank 1 sp_level_rank d_level_rank := by
  rintro ds W Q Qx _ ⟨s, j, rfl, hj, hq⟩
  show d_level_rank _ [some (.sh (.str s))] W
  unfold d_level_rank
  refine ⟨s, j, rfl, hj, fun m hm e => ?_, hq⟩
  have := idx_nd lv_nd (e : levelsS[m]? = some s) hj
  omega
theorem rd_writers_of : Rd n_writers_of 2 sp_writers_of d_writers_of := by
  rintro ds W Q Qx _ ⟨h, key, rfl, hg, hq⟩
  show d_writers_of _ [some (.sh (histD h)), some (.sh (.str (mkS key))), none] W
  unfold d_writers_of
  refine dLc_filtF (namesH h) nameD nameD (wrB h key) (noOwn1 (by simp)) (sz _ (by have := names_few hg; omega)) (fun P hP => ⟨rfl, h, rfl, hg.ok, hg.val, hP⟩) (fun x hx P hP => ?_) (fun x hx _ P hP => hP) hq
  obtain ⟨t, ht⟩ := names_iff.mp hx
  refine ⟨rfl, h, x, t, rfl, ht, _, atI_of (i := 2) rfl, ?_⟩
  refine in_strs (neg := false) (l := t.ws.map mkS) (.inl (congrArg D.tup (keys_D _))) ?_
  rw [if_neg Bool.false_ne_true, mem_mkS]
  have : wrB h key x = decide (key ∈ t.ws) := by unfold wrB; rw [ht]
  rw [this] at hP
  exact hP
theorem rd_sources_of : Rd n_sources_of 2 sp_sources_of d_sources_of := by
  rintro ds W Q Qx _ ⟨h, n, t, rfl, hg, ht, hq⟩
  show d_sources_of _ [some (.sh (histD h)), some (.sh (nameD n)), none, none] W
  unfold d_sources_of
  obtain ⟨l1, l2, l3⟩ := tx_rs hg ht
  refine dLc_filtG t.rs readD (fun r => srcD r.2) (fun r => r.2.isSome) (fun r => [some (.sh (histD h)), some (.sh (nameD n)), some (.sh (keyTD r.1)), some (.sh (srcD r.2))]) (fun j hj o => ?_) (sz _ (by omega)) (fun P hP => ⟨rfl, h, n, t, rfl, ht, _, atI_of (i := 1) rfl, hP⟩) (fun r _ P hP => gd2 hP) (fun r _ P hP => ?_) (fun r _ _ P hP => hP) ?_
  · simp only [List.mem_cons, List.not_mem_nil, or_false] at hj
    rcases hj with rfl | rfl <;> simp
  · obtain ⟨k, s⟩ := r
    cases s <;> exact hP
  · rw [srcs_map]; exact hq
theorem rd_predecessors : Rd n_predecessors 1 sp_predecessors d_predecessors := by
  rintro ds W Q Qx _ ⟨h, rfl, hg, hq⟩
  show d_predecessors _ [some (.sh (histD h)), none, none, none, none, none] W
  unfold d_predecessors
  refine nxs ?_
  refine seq_gen (fun ρ W' => W' = W ∧ ∃ (pl : Nm → List Nm) (x2 x3 : Option D), PrOk h pl ∧ ρ = [some (.sh (histD h)), some (.on ((namesH h).map fun m => (nameD m, setD (pl m)))), x2.map Sl.sh, x3.map Sl.sh, none, none]) (fun ρ W' hI => ?_) (fun N hN => ?_)
  · obtain ⟨rfl, pl, x2, x3, hp, rfl⟩ := hI
    refine dFrzN_of rfl ?_
    have e1 : ((namesH h).map fun m => (nameD m, setD (pl m))).map (·.1) = (namesH h).map nameD := by rw [List.map_map]; rfl
    have e2 : ((namesH h).map fun m => (nameD m, setD (pl m))).map (·.2) = (namesH h).map fun n => setD (pl n) := by rw [List.map_map]; rfl
    show Q (.dtt (((namesH h).map fun m => (nameD m, setD (pl m))).map (·.1)) (((namesH h).map fun m => (nameD m, setD (pl m))).map (·.2))) W'
    rw [e1, e2]
    exact hq pl hp
  refine dFor_of ((namesH h).map nameD) (fun i ρ W' => W' = W ∧ ∃ (pl : Nm → List Nm) (x2 x3 : Option D), (∀ n ∈ (namesH h).take i, (pl n).Nodup ∧ ∀ m, m ∈ pl n ↔ Pred h n m) ∧ ρ = [some (.sh (histD h)), some (.on (((namesH h).take i).map fun m => (nameD m, setD (pl m)))), x2.map Sl.sh, x3.map Sl.sh, none, none])
    (fun P hP => ⟨rfl, h, rfl, hg.ok, hg.val, hP⟩) ⟨rfl, fun _ => [], none, none, fun n hn => by simp at hn, rfl⟩ (fun i d ρ W' hd hI => ?turn) (fun ρ W' hI => ?done)
  case done =>
    obtain ⟨rfl, pl, x2, x3, hp, rfl⟩ := hI
    rw [List.length_map, List.take_length] at hp ⊢
    exact hN _ _ ⟨rfl, pl, x2, x3, ⟨fun n hn => (hp n hn).1, fun n hn => (hp n hn).2⟩, rfl⟩
  obtain ⟨rfl, pl, x2, x3, hp, rfl⟩ := hI
  rw [List.getElem?_map] at hd
  obtain ⟨n, hn, rfl⟩ := Option.map_eq_some_iff.mp hd
  have hnm := List.mem_of_getElem? hn
  have hna := not_ahead (names_nd h) hn
  obtain ⟨f1, f2⟩ := name_few hg hnm
  obtain ⟨t, ht⟩ := names_iff.mp hnm
  obtain ⟨l1, l2, l3⟩ := tx_rs hg ht
  show dSeq _ _ _ [some (.sh (histD h)), some (.on (((namesH h).take i).map fun m => (nameD m, setD (pl m)))), some (.sh (nameD n)), x3.map Sl.sh, none, none] W'
  refine dLc_mapF (List.range n.2) (fun i => .int (0 + (i : Int))) (fun i => nameD (n.1, i)) (noOwn1 (by cases x3 <;> simp)) (sz _ (by rw [List.length_range]; omega)) (fun P hP => ⟨_, atI_of (i := 1) rfl, by omega, by omega, by rw [Int.toNat_natCast]; exact hP⟩) (fun j _ P hP => ?_) ?_
  · refine ⟨_, atI_of (i := 0) rfl, sz 2 (by decide), ?_⟩
    have e0 : (0 : Int) + (j : Int) = (j : Int) := by omega
    rw [e0] at hP ⊢
    exact hP
  have ea : ((List.range n.2).map fun i => nameD (n.1, i)) = (aheadN n).map nameD := by unfold aheadN; rw [List.map_map]; rfl
  rw [ea]
  refine nxg (F := dNPutO _ _ _) [some (.sh (histD h)), some (.on (((namesH h).take i).map fun m => (nameD m, setD (pl m)))), some (.sh (nameD n)), some (.sh (.lst ((aheadN n).map nameD))), none, none] ?_
  have lf : (t.rs.filterMap (·.2)).length ≤ 12 := Nat.le_trans (List.length_filterMap_le _ _) l1
  have la : (aheadN n).length = n.2 := by unfold aheadN; rw [List.length_map, List.length_range]
  obtain ⟨o1, o2, o3⟩ := names_sortable (aheadN n ++ t.rs.filterMap (·.2))
  refine dNDc_set (nSort (aheadN n ++ t.rs.filterMap (·.2))) (noOwn1 (by simp)) (sz _ (by rw [n_len, List.length_append]; omega)) (fun P hP => ⟨rfl, h, n, t, rfl, hg, ht, ?_⟩) (fun x _ P hP => hP) (fun x _ P hP => hP) (fun l nd hl => ?_)
  · show _ ≤ sizeLine ∧ _
    refine ⟨sz _ (by rw [List.length_map, List.length_map]; omega), ?_⟩
    rw [← List.map_append]
    refine ⟨o1, o2, o3, ?_⟩
    rw [srt_names]; exact hP
  · have hl2 : ∀ m, m ∈ l ↔ Pred h n m := fun m => by
      rw [hl, n_mem, List.mem_append, ahead_mem, ← src_iff ht]; rfl
    refine ⟨⟨_, rfl⟩, nk_name n, ?_, fun i z e => (old_key hna e).elim, fun _ => ⟨rfl, fun x => if x = n then l else pl x, some (nameD n), some (.lst ((aheadN n).map nameD)), fun x hx => ?_, ?_⟩⟩
    · have := names_few hg
      rw [List.length_map, List.length_take]; show _ < 16777216; omega
    · by_cases e : x = n
      · simp only [e, if_true]; exact ⟨nd, hl2⟩
      · simp only [e, if_false]
        rw [take_snoc hn] at hx
        rcases List.mem_append.mp hx with hx | hx
        · exact hp x hx
        · exact absurd (List.mem_singleton.mp hx) e
    · rw [take_snoc hn, upd_map setD pl l hna]
      unfold setD
      rw [List.map_map, List.map_map]; rfl
end K54
namespace K54
open PySem PySem.Spec L2 G TL C LV
structure Cls (h : Hist) (n : Nm) (F Wt : List Nm) : Prop where
  nd : F.Nodup
  f : ∀ x ∈ F, Reach h n x
  w : ∀ x ∈ Wt, Reach h n x
  c0 : ∀ x, Pred h n x → x ∈ F ∨ x ∈ Wt
  c1 : ∀ y ∈ F, ∀ x, Pred h y x → x ∈ F ∨ x ∈ Wt
  len : Wt.length ≤ 300 * (F.length + 1)
theorem Cls.done {h : Hist} {n : Nm} {F : List Nm} (c : Cls h n F []) (m : Nm) : m ∈ F ↔ Reach h n m := by
  refine ⟨c.f m, fun hr => ?_⟩
  induction hr with
  | one hp => exact (c.c0 _ hp).elim id fun z => absurd z List.not_mem_nil
  | more _ hp ih => exact (c.c1 _ ih _ hp).elim id fun z => absurd z List.not_mem_nil
theorem rd_closure_of : Rd n_closure_of 2 sp_closure_of d_closure_of := by
  rintro ds W Q Qx _ ⟨h, pl, n, rfl, hg, hp, hn, hq⟩
  show d_closure_of _ [some (.sh (prD h pl)), some (.sh (nameD n)), none, none, none] W
  unfold d_closure_of
  refine nxs ?_
  refine tab_get hn (f := fun n => setD (pl n)) ?_
  refine nxg (F := dSeq _ _) [some (.sh (prD h pl)), some (.sh (nameD n)), some (.on []), some (.ol ((pl n).map nameD)), none] ?_
  have few := names_few hg
  have fl : ∀ {F : List Nm}, F.Nodup → (∀ x ∈ F, Reach h n x) → F.length ≤ 288 := fun nd hf => Nat.le_trans (len_le nd fun m hm => reach_mem hg.src hn (hf m hm)) few
  refine seq_gen (fun ρ W' => W' = W ∧ ∃ (F : List Nm) (x4 : Option D), Cls h n F [] ∧ ρ = [some (.sh (prD h pl)), some (.sh (nameD n)), some (.on (F.map fun m => (nameD m, .bl true))), some (.ol []), x4.map Sl.sh]) (fun ρ W' hI => ?_) (fun N hN => ?_)
  · obtain ⟨rfl, F, x4, hc, rfl⟩ := hI
    refine dFrzN_of (kvs := F.map fun m => (nameD m, .bl true)) rfl ?_
    refine dFrz_of (ds := []) rfl ?_
    have e1 : (F.map fun m => (nameD m, D.bl true)).map (·.1) = F.map nameD := by rw [List.map_map]; rfl
    show (∀ x ∈ ((F.map fun m => (nameD m, D.bl true)).map (·.1)), _) ∧ _
    rw [e1]
    obtain ⟨o1, o2, o3⟩ := names_sortable F
    refine ⟨o1, o2, o3, ?_⟩
    rw [srt_names]
    exact hq (nSort F) (fun m => n_mem.trans (hc.done m)) (by rw [n_len]; have := fl hc.nd hc.f; omega)
  refine dWhile_of (fun m ρ W' => W' = W ∧ ∃ (F Wt : List Nm) (x4 : Option D), Cls h n F Wt ∧ m = (300 - F.length) * 300 + Wt.length ∧ ρ = [some (.sh (prD h pl)), some (.sh (nameD n)), some (.on (F.map fun m => (nameD m, .bl true))), some (.ol (Wt.map nameD)), x4.map Sl.sh]) _ ⟨rfl, [], pl n, none, ⟨List.nodup_nil, fun x hx => absurd hx List.not_mem_nil, fun x hx => .one ((hp.mem n hn x).mp hx), fun x hx => .inr ((hp.mem n hn x).mpr hx), fun y hy => absurd hy List.not_mem_nil, by have := pl_len hg hp hn; simp only [List.length_nil]; omega⟩, rfl, rfl⟩ (fun m ρ W' hI => ?_)
  obtain ⟨rfl, F, Wt, x4, hc, rfl, rfl⟩ := hI
  refine ⟨goods_names 61 Wt, ?_⟩
  rcases List.eq_nil_or_concat Wt with rfl | ⟨Wt', z, rfl⟩
  · exact hN _ _ ⟨rfl, F, x4, hc, rfl⟩
  rw [List.concat_eq_append] at hc ⊢
  have e0 : (!((Wt' ++ [z]).map nameD).isEmpty) = true := by simp
  rw [e0]
  have hz : Reach h n z := hc.w z (by simp)
  have hzn := reach_mem hg.src hn hz
  have hlen := hc.len
  rw [List.length_append, List.length_singleton] at hlen
  have hF := fl hc.nd hc.f
  have el : ((Wt' ++ [z]).map nameD)[((Wt' ++ [z]).map nameD).length - 1]? = some (nameD z) := by simp
  have ed : ((Wt' ++ [z]).map nameD).dropLast = Wt'.map nameD := by simp
  refine ite_t ⟨nameD z, el, ?_⟩
  rw [ed]
  refine nxg (F := dIfS _ _ _) [some (.sh (prD h pl)), some (.sh (nameD n)), some (.on (F.map fun m => (nameD m, .bl true))), some (.ol (Wt'.map nameD)), some (.sh (nameD z))] ?_
  refine ⟨nk_name z, fun hin => ?_, fun hout => ?_⟩
  · have hzF : z ∈ F := by
      obtain ⟨q, hq, e⟩ := hin
      obtain ⟨x, hx, rfl⟩ := List.mem_map.mp hq
      exact nameD_inj e ▸ hx
    refine ite_f ⟨_, ?_, rfl, F, Wt', some (nameD z), ⟨hc.nd, hc.f, fun x hx => hc.w x (by simp [hx]), fun x hx => ?_, fun y hy x hx => ?_, by omega⟩, rfl, rfl⟩
    · rw [List.length_append, List.length_singleton]; omega
    · rcases hc.c0 x hx with k | k
      · exact .inl k
      · rcases List.mem_append.mp k with k | k
        · exact .inr k
        · rw [List.mem_singleton] at k; subst k; exact .inl hzF
    · rcases hc.c1 y hy x hx with k | k
      · exact .inl k
      · rcases List.mem_append.mp k with k | k
        · exact .inr k
        · rw [List.mem_singleton] at k; subst k; exact .inl hzF
  · have hzF : z ∉ F := fun hx => hout _ (List.mem_map.mpr ⟨z, hx, rfl⟩) rfl
    have lz := pl_len hg hp hzn
    have nd' : (F ++ [z]).Nodup := by
      rw [List.nodup_append]
      exact ⟨hc.nd, by simp, fun a ha b hb => by rw [List.mem_singleton] at hb; subst hb; exact fun e => hzF (e ▸ ha)⟩
    have hf' : ∀ x ∈ F ++ [z], Reach h n x := fun x hx => by
      rcases List.mem_append.mp hx with k | k
      · exact hc.f x k
      · rw [List.mem_singleton] at k; subst k; exact hz
    have hF' := fl nd' hf'
    rw [List.length_append, List.length_singleton] at hF'
    refine ite_t ⟨⟨_, rfl⟩, nk_name z, by rw [List.length_map]; show _ < 16777216; omega, fun i z0 e => (old_key hzF e).elim, fun _ => ?_⟩
    refine nxg (F := dExtO _ _) [some (.sh (prD h pl)), some (.sh (nameD n)), some (.on ((F.map fun m => (nameD m, D.bl true)) ++ [(nameD z, D.bl true)])), some (.ol (Wt'.map nameD)), some (.sh (nameD z))] ?_
    refine ⟨⟨_, rfl⟩, ?_⟩
    refine tab_get hzn (f := fun n => setD (pl n)) ?_
    refine ⟨sz _ (by rw [List.length_map, List.length_map]; omega), _, ?_, rfl, F ++ [z], Wt' ++ pl z, some (nameD z), ⟨nd', hf', fun x hx => ?_, fun x hx => ?_, fun y hy x hx => ?_, ?_⟩, rfl, ?_⟩
    · simp only [List.length_append, List.length_singleton]; omega
    · rcases List.mem_append.mp hx with k | k
      · exact hc.w x (by simp [k])
      · exact .more hz ((hp.mem z hzn x).mp k)
    · rcases hc.c0 x hx with k | k
      · exact .inl (by simp [k])
      · rcases List.mem_append.mp k with k | k
        · exact .inr (by simp [k])
        · exact .inl (by simp at k; simp [k])
    · rcases List.mem_append.mp hy with k | k
      · rcases hc.c1 y k x hx with k | k
        · exact .inl (by simp [k])
        · rcases List.mem_append.mp k with k | k
          · exact .inr (by simp [k])
          · exact .inl (by simp at k; simp [k])
      · rw [List.mem_singleton] at k; subst k
        exact .inr (by simp [(hp.mem y hzn x).mpr hx])
    · rw [List.length_append, List.length_append, List.length_singleton]; omega
    · rw [List.map_append, List.map_append]; rfl
end K54
namespace K54
open PySem PySem.Spec L2 G TL C LV
theorem rd_named_before : Rd n_named_before 4 sp_named_before d_named_before := by
  rintro ds W Q Qx _ ⟨h, pl, n, t, k, rfl, hg, hp, ht, hq⟩
  show d_named_before _ [some (.sh (histD h)), some (.sh (prD h pl)), some (.sh (nameD n)), some (.sh (.int (k : Nat))), none, none, none, none, none] W
  unfold d_named_before
  have hn : n ∈ namesH h := names_iff.mpr ⟨t, ht⟩
  obtain ⟨l1, l2, l3⟩ := tx_rs hg ht
  have lp := pl_len hg hp hn
  refine ⟨rfl, h, n, t, rfl, ht, gd3 ?_⟩
  refine nxg (F := dSeq _ _) [some (.sh (histD h)), some (.sh (prD h pl)), some (.sh (nameD n)), some (.sh (.int (k : Nat))), some (.sh (.str t.lv)), some (.sh (.tup (t.rs.map readD))), some (.sh (.tup (t.ws.map keyTD))), none, none] ?_
  refine dEq_str (ite_d (fun e => ?_) fun e => nxs ?_)
  · refine dLc_filtG (t.rs.take k) readD (fun r => srcD r.2) (fun r => r.2.isSome) (fun r => [some (.sh (histD h)), some (.sh (prD h pl)), some (.sh (nameD n)), some (.sh (.int (k : Nat))), some (.sh (.str t.lv)), some (.sh (.tup (t.rs.map readD))), some (.sh (.tup (t.ws.map keyTD))), some (.sh (keyTD r.1)), some (.sh (srcD r.2))]) (fun j hj o => ?_) (sz _ (by rw [List.length_take]; omega)) (fun P hP => ?_) (fun r _ P hP => gd2 hP) (fun r _ P hP => ?_) (fun r _ _ P hP => hP) ?_
    · simp only [List.mem_cons, List.not_mem_nil, or_false] at hj
      rcases hj with rfl | rfl <;> simp
    · show P (cutD (t.rs.map readD) none (some (k : Int))) _ _
      rw [cut_lo, ← List.map_take]; exact hP
    · obtain ⟨k, s⟩ := r
      cases s <;> exact hP
    · rw [srcs_map]
      refine hq _ (fun m => ?_) (by have := List.length_filterMap_le (fun r : List Nat × Option Nm => r.2) (t.rs.take k); rw [List.length_take] at this; omega)
      unfold Named
      rw [if_pos (show t.lv = lRc from e), List.mem_filterMap]
      constructor
      · rintro ⟨⟨key, s⟩, hr, es⟩
        simp only at es
        subst es
        obtain ⟨j, hj⟩ := List.getElem?_of_mem hr
        rw [List.getElem?_take] at hj
        split at hj
        · rename_i hlt; exact ⟨j, key, hlt, hj⟩
        · cases hj
      · rintro ⟨j, key, hlt, hj⟩
        exact ⟨(key, some m), List.mem_of_getElem? (i := j) (by rw [List.getElem?_take, if_pos hlt]; exact hj), rfl⟩
  · refine dEq_str (ite_d (fun e2 => ?_) fun e2 => ?_)
    · refine tab_get hn (f := fun n => setD (pl n)) ?_
      refine hq (pl n) (fun m => ?_) (by omega)
      unfold Named
      rw [if_neg (show ¬ t.lv = lRc from e), if_pos (show t.lv = lRa from e2)]
      exact hp.mem n hn m
    · refine ⟨rfl, h, pl, n, rfl, hg, hp, hn, fun l hl ll => hq l (fun m => ?_) ll⟩
      unfold Named
      rw [if_neg (show ¬ t.lv = lRc from e), if_neg (show ¬ t.lv = lRa from e2)]
      exact hl m
theorem share_any {h : Hist} {a b : Nm} {ta tb : Tx} (ha : txAt h a = some ta) (hb : txAt h b = some tb) : ((ta.ws.map fun k => decide (k ∈ tb.ws)).any id) = true ↔ Share h a b := by
  rw [List.any_map, List.any_eq_true]
  constructor
  · rintro ⟨k, hk, e⟩
    exact ⟨ta, tb, ha, hb, k, hk, of_decide_eq_true e⟩
  · rintro ⟨ta', tb', ha', hb', k, h1, h2⟩
    rw [ha] at ha'; rw [hb] at hb'
    cases ha'; cases hb'
    exact ⟨k, h1, decide_eq_true h2⟩
theorem rd_shares_write : Rd n_shares_write 3 sp_shares_write d_shares_write := by
  rintro ds W Q Qx _ ⟨h, a, b, rfl, hg, ha, hb, hq⟩
  show d_shares_write _ [some (.sh (histD h)), some (.sh (nameD a)), some (.sh (nameD b)), none, none] W
  unfold d_shares_write
  obtain ⟨ta, ha⟩ := names_iff.mp ha
  obtain ⟨tb, hb⟩ := names_iff.mp hb
  obtain ⟨l1, l2, l3⟩ := tx_rs hg ha
  refine ⟨rfl, h, b, tb, rfl, hb, _, atI_of (i := 2) rfl, ?_⟩
  refine nxg (F := dRet _) [some (.sh (histD h)), some (.sh (nameD a)), some (.sh (nameD b)), some (.sh (.tup (tb.ws.map keyTD))), none] ?_
  refine dLc_mapF ta.ws keyTD (fun k => .bl (decide (k ∈ tb.ws))) (noOwn1 (by simp)) (sz _ (by omega)) (fun P hP => ⟨rfl, h, a, ta, rfl, ha, _, atI_of (i := 2) rfl, hP⟩) (fun k _ P hP => ?_) ?_
  · refine in_strs (neg := false) (l := tb.ws.map mkS) (.inl (congrArg D.tup (keys_D _))) ?_
    rw [if_neg Bool.false_ne_true, mem_mkS]; exact hP
  · exact ⟨_, bls_map _ _, hq _ (share_any ha hb)⟩
theorem rd_law_shares : Rd n_law_shares 3 sp_law_shares d_law_shares := by
  rintro ds W Q Qx _ ⟨h, a, b, rfl, hg, ha, hb, hq⟩
  show d_law_shares _ [some (.sh (histD h)), some (.sh (nameD a)), some (.sh (nameD b)), none, none] W
  unfold d_law_shares
  obtain ⟨ta, ha⟩ := names_iff.mp ha
  obtain ⟨tb, hb⟩ := names_iff.mp hb
  obtain ⟨l1, l2, l3⟩ := tx_rs hg ha
  obtain ⟨sa, a1, a2⟩ := hist_at ha
  obtain ⟨sb, b1, b2⟩ := hist_at hb
  have a3 : (sa.map txD)[a.2]? = some (txD ta) := by rw [List.getElem?_map, a2]; rfl
  have b3 : (sb.map txD)[b.2]? = some (txD tb) := by rw [List.getElem?_map, b2]; rfl
  refine ⟨_, atI_of (i := 0) rfl, _, atI_of (hist_get b1), _, atI_of (i := 1) rfl, _, atI_of b3, _, atI_of (i := 2) rfl, ?_⟩
  refine nxg (F := dRet _) [some (.sh (histD h)), some (.sh (nameD a)), some (.sh (nameD b)), some (.sh (.tup (tb.ws.map keyTD))), none] ?_
  refine dLc_mapF ta.ws keyTD (fun k => .bl (decide (k ∈ tb.ws))) (noOwn1 (by simp)) (sz _ (by omega)) (fun P hP => ⟨_, atI_of (i := 0) rfl, _, atI_of (hist_get a1), _, atI_of (i := 1) rfl, _, atI_of a3, _, atI_of (i := 2) rfl, hP⟩) (fun k _ P hP => ?_) ?_
  · refine in_strs (neg := false) (l := tb.ws.map mkS) (.inl (congrArg D.tup (keys_D _))) ?_
    rw [if_neg Bool.false_ne_true, mem_mkS]; exact hP
  · exact ⟨_, bls_map _ _, hq _ (share_any ha hb)⟩
end K54
namespace K54
open PySem PySem.Spec L2 G TL C LV
theorem rd_last_seen : Rd n_last_seen 4 sp_last_seen d_last_seen := by
  rintro ds W Q Qx _ ⟨h, pl, ord, n, t, rfl, hg, hp, ho, ht, hq⟩
  show d_last_seen _ [some (.sh (histD h)), some (.sh (prD h pl)), some (.sh (placesD ord)), some (.sh (nameD n)), none, none, none] W
  unfold d_last_seen
  have hn : n ∈ namesH h := names_iff.mpr ⟨t, ht⟩
  have hno := (ho.mem n).mpr hn
  have lp := pl_len hg hp hn
  have few := names_few hg
  have lo := ord_len ho
  have plo : ∀ m ∈ pl n, m ∈ ord := fun m hm => (ho.mem m).mpr (pred_mem hg.src hn ((hp.mem n hn m).mp hm))
  refine ⟨rfl, h, n, t, rfl, ht, _, atI_of (i := 0) rfl, ?_⟩
  refine nxg (F := dSeq _ _) [some (.sh (histD h)), some (.sh (prD h pl)), some (.sh (placesD ord)), some (.sh (nameD n)), some (.sh (.str t.lv)), none, none] ?_
  refine dEq_str (ite_d (fun e => ?_) fun e => nxs ?_)
  · refine pos_get' hno ?_
    refine hq _ fun j => ?_
    unfold Under
    rw [if_pos (show t.lv = lSer from e)]
    show (j : Int) ≤ (pos ord n : Int) - 1 ↔ _
    omega
  have hne : ¬ t.lv = lSer := e
  refine dLc_mapF (pl n) nameD (fun m => .int (pos ord m : Nat)) (noOwn1 (by simp)) (sz _ (by omega)) (fun P hP => tab_get hn (f := fun n => setD (pl n)) hP) (fun x hx P hP => pos_get' (plo x hx) hP) ?_
  refine nxg (F := dSeq _ _) [some (.sh (histD h)), some (.sh (prD h pl)), some (.sh (placesD ord)), some (.sh (nameD n)), some (.sh (.str t.lv)), some (.ol ((pl n).map fun m => .int (pos ord m : Nat))), none] ?_
  refine seq_gen (fun ρ W' => W' = W ∧ ∃ L : List Nat, (∀ v, v ∈ L ↔ ∃ m, m ∈ namesH h ∧ (Pred h n m ∨ (t.lv = lSi ∧ pos ord m < pos ord n ∧ Share h m n)) ∧ v = pos ord m) ∧ ρ = [some (.sh (histD h)), some (.sh (prD h pl)), some (.sh (placesD ord)), some (.sh (nameD n)), some (.sh (.str t.lv)), some (.ol (L.map fun j => .int (j : Nat))), none]) (fun ρ W' hI => ?_) (fun N hN => ?_)
  · obtain ⟨rfl, L, hL, rfl⟩ := hI
    refine dFrz_of (ds := L.map fun j => .int (j : Nat)) rfl ?_
    refine ⟨⟨_, rfl⟩, fun e0 => ?_, picked_max fun v hv hmax => ?_⟩
    · have : L = [] := List.map_eq_nil_iff.mp e0
      subst this
      refine hq (-1) fun j => ?_
      unfold Under
      rw [if_neg hne]
      constructor
      · intro z; omega
      · rintro ⟨m, hm, hc, _⟩
        exact absurd ((hL _).mpr ⟨m, hm, hc, rfl⟩) List.not_mem_nil
    · refine hq (v : Nat) fun j => ?_
      unfold Under
      rw [if_neg hne]
      constructor
      · intro z
        obtain ⟨m, hm, hc, rfl⟩ := (hL v).mp hv
        exact ⟨m, hm, hc, by omega⟩
      · rintro ⟨m, hm, hc, hj⟩
        have := hmax _ ((hL _).mpr ⟨m, hm, hc, rfl⟩)
        omega
  have base : ∀ v, v ∈ (pl n).map (pos ord) ↔ ∃ m, m ∈ namesH h ∧ Pred h n m ∧ v = pos ord m := fun v => by
    rw [List.mem_map]
    constructor
    · rintro ⟨m, hm, rfl⟩
      have := (hp.mem n hn m).mp hm
      exact ⟨m, pred_mem hg.src hn this, this, rfl⟩
    · rintro ⟨m, _, hm, rfl⟩
      exact ⟨m, (hp.mem n hn m).mpr hm, rfl⟩
  refine dEq_str (ite_d (fun e => ?_) fun e => ?_)
  · have hsi : t.lv = lSi := e
    refine ⟨⟨_, rfl⟩, ?_⟩
    refine dLc_filtF ord nameD (fun m => .int (pos ord m : Nat)) (fun m => decide (pos ord m < pos ord n) && @decide (Share h m n) (Classical.propDecidable _)) (noOwn1 (by simp)) (sz _ (by omega)) (fun P hP => hP) (fun x hx P hP => pos_get' hx (pos_get' hno ?_)) (fun x hx _ P hP => pos_get' hx hP) ?_
    · show (if decide (((pos ord x : Nat) : Int) < (pos ord n : Nat)) = true then _ else _)
      by_cases hlt : pos ord x < pos ord n
      · rw [decide_eq_true (by omega)]
        refine ite_t ⟨rfl, h, x, n, rfl, hg, (ho.mem x).mp hx, hn, fun b hb => ?_⟩
        have eb : (decide (pos ord x < pos ord n) && @decide (Share h x n) (Classical.propDecidable _)) = b := by
          rw [decide_eq_true hlt, Bool.true_and, Bool.eq_iff_iff, @decide_eq_true_eq _ (Classical.propDecidable _)]; exact hb.symm
        rw [eb] at hP; exact hP
      · rw [decide_eq_false (by omega)]
        rw [decide_eq_false hlt, Bool.false_and] at hP
        exact ite_f hP
    · have ll := List.length_filter_le (fun m => decide (pos ord m < pos ord n) && @decide (Share h m n) (Classical.propDecidable _)) ord
      refine ⟨sz _ (by rw [List.length_map, List.length_map]; omega), ?_⟩
      refine hN _ _ ⟨rfl, (pl n).map (pos ord) ++ (ord.filter fun m => decide (pos ord m < pos ord n) && @decide (Share h m n) (Classical.propDecidable _)).map (pos ord), fun v => ?_, ?_⟩
      · rw [List.mem_append, base, List.mem_map]
        constructor
        · rintro (⟨m, h1, h2, h3⟩ | ⟨m, h1, rfl⟩)
          · exact ⟨m, h1, .inl h2, h3⟩
          · rw [List.mem_filter, Bool.and_eq_true, decide_eq_true_eq, @decide_eq_true_eq _ (Classical.propDecidable _)] at h1
            exact ⟨m, (ho.mem m).mp h1.1, .inr ⟨hsi, h1.2.1, h1.2.2⟩, rfl⟩
        · rintro ⟨m, h1, h2 | ⟨_, h2, h3⟩, rfl⟩
          · exact .inl ⟨m, h1, h2, rfl⟩
          · refine .inr ⟨m, ?_, rfl⟩
            rw [List.mem_filter, Bool.and_eq_true, decide_eq_true_eq, @decide_eq_true_eq _ (Classical.propDecidable _)]
            exact ⟨(ho.mem m).mpr h1, h2, h3⟩
      · rw [List.map_append, List.map_map, List.map_map]; rfl
  · refine hN _ _ ⟨rfl, (pl n).map (pos ord), fun v => ?_, by rw [List.map_map]; rfl⟩
    rw [base]
    constructor
    · rintro ⟨m, h1, h2, h3⟩
      exact ⟨m, h1, .inl h2, h3⟩
    · rintro ⟨m, h1, h2 | ⟨h2, _⟩, h3⟩
      · exact ⟨m, h1, h2, h3⟩
      · exact absurd h2 e
end K54
namespace K54
open PySem PySem.Spec L2 G TL C LV
theorem in_names {neg : Bool} {m : Nm} {l : List Nm} {c : D} {P : D → Prop} (hc : c = .tup (l.map nameD) ∨ c = .lst (l.map nameD)) (h : P (.bl (if neg = true then !decide (m ∈ l) else decide (m ∈ l)))) : dInB neg (nameD m) c P := by
  refine .inr ⟨l.map nameD, hc.symm, rfl, goods_names 60 l, ?_⟩
  rw [any_name]; exact h
theorem eq_src (m : Nm) (s : Option Nm) : eqD (nameD m) (srcD s) = decide (s = some m) := by
  cases s with
  | none =>
    have : eqD (nameD m) (srcD none) = false := by
      unfold eqD srcD nameD
      simp [D.py, pys, PyData.eqv]
    rw [this]; simp
  | some x =>
    show eqD (nameD m) (nameD x) = _
    rw [eq_nameN]
    exact decide_eq_decide.mpr ⟨fun e => by rw [e], fun e => (Option.some.inj e).symm⟩
theorem good_src (s : Option Nm) : D.good 64 (srcD s) = true := by cases s <;> rfl
theorem dEq_src {m : Nm} {s : Option Nm} {Q : D → Prop} (h : Q (.bl (decide (s = some m)))) : dEq (nameD m) (srcD s) Q := by
  have key : dEqN (nameD m) (srcD s) Q := ⟨rfl, good_src s, by rw [eq_src]; exact h⟩
  unfold dEq; exact key
theorem dNe_src {m : Nm} {s : Option Nm} {Q : D → Prop} (h : Q (.bl (!decide (s = some m)))) : dNe (nameD m) (srcD s) Q := by
  have key : dNeN (nameD m) (srcD s) Q := ⟨rfl, good_src s, by rw [eq_src]; exact h⟩
  unfold dNe; exact key
theorem rank_le : ∀ {s : Str} {j : Nat}, levelsS[j]? = some s → decide ((j : Int) ≤ 2) = decide (s = lRc ∨ s = lRa ∨ s = lCc)
  | _, 0, h => by cases (Option.some.inj h); decide +kernel
  | _, 1, h => by cases (Option.some.inj h); decide +kernel
  | _, 2, h => by cases (Option.some.inj h); decide +kernel
  | _, 3, h => by cases (Option.some.inj h); decide +kernel
  | _, 4, h => by cases (Option.some.inj h); decide +kernel
  | _, 5, h => by cases (Option.some.inj h); decide +kernel
  | _, n + 6, h => by simp [levelsS] at h
theorem wr_iff {h : Hist} {key : List Nat} {m : Nm} : wrB h key m = true ↔ ∃ tm, txAt h m = some tm ∧ key ∈ tm.ws := by
  unfold wrB
  cases e : txAt h m with
  | none => simp
  | some t => simp
theorem rd_seen_writers : Rd n_seen_writers 5 sp_seen_writers d_seen_writers := by
  rintro ds W Q Qx _ ⟨h, pl, ord, n, t, ⟨key, src⟩, k, rfl, hg, hp, ho, ht, hr, hq⟩
  show d_seen_writers _ [some (.sh (histD h)), some (.sh (prD h pl)), some (.sh (placesD ord)), some (.sh (nameD n)), some (.sh (.int (k : Nat))), none, none, none, none, none, none, none, none, none] W
  unfold d_seen_writers
  have hn : n ∈ namesH h := names_iff.mpr ⟨t, ht⟩
  obtain ⟨l1, l2, l3⟩ := tx_rs hg ht
  have few := names_few hg
  have hrd : (t.rs.map readD)[k]? = some (readD (key, src)) := by rw [List.getElem?_map, hr]; rfl
  refine ⟨rfl, h, n, t, rfl, ht, gd3 ?_⟩
  refine nxg (F := dSeq _ _) [some (.sh (histD h)), some (.sh (prD h pl)), some (.sh (placesD ord)), some (.sh (nameD n)), some (.sh (.int (k : Nat))), some (.sh (.str t.lv)), some (.sh (.tup (t.rs.map readD))), some (.sh (.tup (t.ws.map keyTD))), none, none, none, none, none, none] ?_
  refine ⟨_, atI_of hrd, gd2 ?_⟩
  refine nxg (F := dSeq _ _) [some (.sh (histD h)), some (.sh (prD h pl)), some (.sh (placesD ord)), some (.sh (nameD n)), some (.sh (.int (k : Nat))), some (.sh (.str t.lv)), some (.sh (.tup (t.rs.map readD))), some (.sh (.tup (t.ws.map keyTD))), some (.sh (.str (mkS key))), some (.sh (srcD src)), none, none, none, none] ?_
  have ll := List.length_filter_le (wrB h key) (namesH h)
  refine dLc_filtF ((namesH h).filter (wrB h key)) nameD nameD (fun m => !decide (m = n) && !decide (src = some m)) (noOwn1 (by simp)) (sz _ (by omega)) (fun P hP => ⟨rfl, h, key, rfl, hg, hP⟩) (fun x hx P hP => dNe_name ?_) (fun x hx _ P hP => hP) ?_
  · by_cases e : x = n
    · rw [decide_eq_true e] at hP ⊢
      exact ite_f hP
    · rw [decide_eq_false e] at hP ⊢
      exact ite_t (dNe_src hP)
  have ll2 := List.length_filter_le (fun m => !decide (m = n) && !decide (src = some m)) ((namesH h).filter (wrB h key))
  refine nxg (F := dSeq _ _) [some (.sh (histD h)), some (.sh (prD h pl)), some (.sh (placesD ord)), some (.sh (nameD n)), some (.sh (.int (k : Nat))), some (.sh (.str t.lv)), some (.sh (.tup (t.rs.map readD))), some (.sh (.tup (t.ws.map keyTD))), some (.sh (.str (mkS key))), some (.sh (srcD src)), some (.sh (.lst ((((namesH h).filter (wrB h key)).filter fun m => !decide (m = n) && !decide (src = some m)).map nameD))), none, none, none] ?_
  have fin : ∀ p2 : Nm → Bool, (∀ m ∈ namesH h, p2 m = true ↔ Lvl h ord n t k m) → Q (.lst (((((namesH h).filter (wrB h key)).filter fun m => !decide (m = n) && !decide (src = some m)).filter p2).map nameD)) W := fun p2 hp2 => by
    rw [List.filter_filter, List.filter_filter]
    refine hq _ fun m hm => ?_
    rw [Bool.and_eq_true, Bool.and_eq_true, Bool.and_eq_true, Bool.not_eq_true', Bool.not_eq_true', decide_eq_false_iff_not, decide_eq_false_iff_not, hp2 m hm, wr_iff]
    exact ⟨fun z => ⟨z.1.2.1, z.1.2.2, z.2, z.1.1⟩, fun z => ⟨⟨z.lvl, z.other, z.notS⟩, z.wr⟩⟩
  obtain ⟨j, hj⟩ := List.getElem?_of_mem l3
  refine ⟨rfl, t.lv, j, rfl, hj, rfl, lCc, 2, rfl, rfl, ?_⟩
  show (if decide ((j : Int) ≤ 2) = true then _ else _)
  rw [rank_le hj]
  refine ite_d (fun e => ?_) (fun e => nxs ?_)
  · refine ⟨rfl, h, pl, n, t, k, rfl, hg, hp, ht, fun l hl hll => ?_⟩
    refine nxg (F := dRet _) [some (.sh (histD h)), some (.sh (prD h pl)), some (.sh (placesD ord)), some (.sh (nameD n)), some (.sh (.int (k : Nat))), some (.sh (.str t.lv)), some (.sh (.tup (t.rs.map readD))), some (.sh (.tup (t.ws.map keyTD))), some (.sh (.str (mkS key))), some (.sh (srcD src)), some (.sh (.lst ((((namesH h).filter (wrB h key)).filter fun m => !decide (m = n) && !decide (src = some m)).map nameD))), some (.sh (.tup (l.map nameD))), none, none] ?_
    refine dLc_filtF (((namesH h).filter (wrB h key)).filter fun m => !decide (m = n) && !decide (src = some m)) nameD nameD (fun m => decide (m ∈ l)) (noOwn1 (by simp)) (sz _ (by omega)) (fun P hP => hP) (fun x _ P hP => in_names (neg := false) (.inl rfl) hP) (fun x hx _ P hP => hP) (fin _ fun m _ => ?_)
    unfold Lvl
    rw [if_pos e, decide_eq_true_eq]; exact hl m
  · refine ⟨rfl, h, pl, ord, n, t, rfl, hg, hp, ho, ht, fun z hz => ?_⟩
    refine nxg (F := dRet _) [some (.sh (histD h)), some (.sh (prD h pl)), some (.sh (placesD ord)), some (.sh (nameD n)), some (.sh (.int (k : Nat))), some (.sh (.str t.lv)), some (.sh (.tup (t.rs.map readD))), some (.sh (.tup (t.ws.map keyTD))), some (.sh (.str (mkS key))), some (.sh (srcD src)), some (.sh (.lst ((((namesH h).filter (wrB h key)).filter fun m => !decide (m = n) && !decide (src = some m)).map nameD))), none, some (.sh (.int z)), none] ?_
    refine dLc_filtF (((namesH h).filter (wrB h key)).filter fun m => !decide (m = n) && !decide (src = some m)) nameD nameD (fun m => decide ((pos ord m : Int) ≤ z)) (noOwn1 (by simp)) (sz _ (by omega)) (fun P hP => hP) (fun x hx P hP => pos_get' ((ho.mem x).mpr (List.mem_filter.mp (List.mem_filter.mp hx).1).1) hP) (fun x hx _ P hP => hP) (fin _ fun m _ => ?_)
    unfold Lvl
    rw [if_neg e, decide_eq_true_eq]; exact hz _
theorem rd_first_turned : Rd n_first_turned 2 sp_first_turned d_first_turned := by
  rintro ds W Q Qx _ ⟨h, pl, ord, rfl, hg, hp, ho, hq⟩
  show d_first_turned _ [some (.sh (prD h pl)), some (.sh (placesD ord)), none, none, none] W
  unfold d_first_turned
  have few := names_few hg
  have plo : ∀ n ∈ namesH h, ∀ m ∈ pl n, m ∈ ord := fun n hn m hm => (ho.mem m).mpr (pred_mem hg.src hn ((hp.mem n hn m).mp hm))
  have e : ((namesH h).filter fun _ => true).flatMap (fun x => ((pl x).filter fun y => decide (pos ord x < pos ord y)).map fun y => LV.pairD (y, x)) = ((namesH h).flatMap fun x => ((pl x).filter fun y => decide (pos ord x < pos ord y)).map fun y => (y, x)).map LV.pairD := by
    rw [List.filter_eq_self.mpr fun _ _ => rfl, List.map_flatMap]
    congr 1
    funext s
    rw [List.map_map]; rfl
  have hl : ∀ p, p ∈ ((namesH h).flatMap fun x => ((pl x).filter fun y => decide (pos ord x < pos ord y)).map fun y => (y, x)) ↔ Turned h ord p := fun p => by
    rw [List.mem_flatMap]
    constructor
    · rintro ⟨x, hx, hy⟩
      obtain ⟨y, hy2, rfl⟩ := List.mem_map.mp hy
      rw [List.mem_filter, decide_eq_true_eq] at hy2
      exact ⟨hx, (hp.mem x hx y).mp hy2.1, hy2.2⟩
    · rintro ⟨h1, h2, h3⟩
      exact ⟨p.2, h1, List.mem_map.mpr ⟨p.1, List.mem_filter.mpr ⟨(hp.mem _ h1 _).mpr h2, decide_eq_true h3⟩, rfl⟩⟩
  refine dLc2_flat (namesH h) nameD (fun _ => true) (fun x => [some (.sh (prD h pl)), some (.sh (placesD ord)), none, some (.sh (nameD x)), none])
    pl (fun _ y => nameD y) (fun x y => decide (pos ord x < pos ord y)) (fun x y => [some (.sh (prD h pl)), some (.sh (placesD ord)), none, some (.sh (nameD x)), some (.sh (nameD y))]) (fun x y => LV.pairD (y, x))
    (fun j hj o => ?_) (fun P hP => hP) (fun s _ P hP => hP) (fun s _ P hP => hP) (fun s _ _ j hj o => ?_) (fun x hx _ P hP => tab_get hx (f := fun n => setD (pl n)) hP) (fun s _ _ i _ P hP => hP) (fun x hx _ y hy P hP => pos_get' (plo x hx y hy) (pos_get' ((ho.mem x).mpr hx) ?_)) (fun s _ _ i _ _ P hP => ⟨sz 2 (by decide), hP⟩) ?_ ?_
  · simp only [List.mem_cons, List.not_mem_nil, or_false] at hj
    rcases hj with rfl | rfl <;> simp
  · simp only [List.mem_cons, List.not_mem_nil, or_false] at hj
    subst hj; simp
  · have : decide (((pos ord x : Nat) : Int) < (pos ord y : Nat)) = decide (pos ord x < pos ord y) := decide_eq_decide.mpr (by omega)
    rw [← this] at hP; exact hP
  · rw [e, List.length_map]
    have := flat_len (fun x => ((pl x).filter fun y => decide (pos ord x < pos ord y)).map fun y => (y, x)) 288 (namesH h) fun x hx => by
      rw [List.length_map]
      exact Nat.le_trans (List.length_filter_le _ _) (pl_len hg hp hx)
    have : (namesH h).length * 288 ≤ 288 * 288 := Nat.mul_le_mul_right _ few
    show _ < 16777216
    omega
  · rw [e]
    refine ⟨⟨_, rfl⟩, fun e0 => hq _ (.inr ⟨fun p hp => ?_, rfl⟩), picked_least hl fun p hp => hq _ (.inl ⟨p, hp, rfl⟩)⟩
    have e1 := List.map_eq_nil_iff.mp e0
    have := (hl p).mpr hp
    rw [e1] at this
    exact absurd this List.not_mem_nil
end K54
namespace K54
open PySem PySem.Spec L2 G TL C LV
theorem nxd {F : EndsD → G.Env → Wd → Prop} {De : EndsD} {rt : D → Wd → Prop} {bk ct : KS} {ex : KX} {W : Wd} {ρ : G.Env} (h : F De ρ W) : dNext ⟨F De, rt, bk, ct, ex⟩ ρ W := h
theorem rd_is_order : Rd n_is_order 2 sp_is_order d_is_order := by
  rintro ds0 W Q Qx _ ⟨h, d, rfl, hg, hq⟩
  show d_is_order _ [some (.sh (histD h)), some (.sh d), none] W
  have body : ∀ ds, d = .tup ds → vok (.tup ds) = true → (ds.all isNmD = false → Q (.bl false) W) → (∀ l : List Nm, ds = l.map nameD → Q (.bl (decide (nSort l = namesH h))) W) → d_is_order { nx := fun _ W' => Q .non W', rt := Q, ex := fun cls x _ W' => Qx cls x W' } [some (.sh (histD h)), some (.sh d), none] W := by
    rintro ds rfl hv h1 h2
    obtain ⟨hl, hx⟩ := vok_tup.mp hv
    unfold d_is_order
    refine ⟨_, true, rfl, rfl, hno ?_⟩
    refine dLc_mapF ds id (fun x => .bl (isNmD x)) (noOwn1 (by simp)) (sz _ (by omega)) (fun P hP => by rw [List.map_id] at hP; exact hP) (fun x hx0 P hP => ⟨rfl, x, rfl, hx x hx0, hP⟩) ?_
    refine ⟨ds.map isNmD, bls_map _ _, ?_⟩
    rw [List.all_map]
    have e0 : ds.all (id ∘ isNmD) = ds.all isNmD := rfl
    rw [e0]
    cases ta : ds.all isNmD with
    | false => exact h1 ta
    | true =>
      obtain ⟨l, rfl, _⟩ := list_of nameD isNmD (fun _ => True) (fun d hd => by obtain ⟨n, rfl⟩ := nm_of hd; exact ⟨n, rfl, trivial⟩) (ds := ds) (List.all_eq_true.mp ta)
      refine hno (nxd (F := dRet _) ?_)
      obtain ⟨o1, o2, o3⟩ := names_sortable l
      refine ⟨o1, o2, o3, ?_⟩
      rw [srt_names]
      refine ⟨rfl, h, rfl, hg.ok, hg.val, dEq_names (h2 l rfl)⟩
  rcases hq with ⟨ord, rfl, ho, hq⟩ | ⟨hnot, hv, hq⟩
  · have few := names_few hg
    have lo := ord_len ho
    refine body _ rfl (vok_tup.mpr ⟨by rw [List.length_map]; omega, fun x hx => ?_⟩) (fun e => ?_) fun l e => ?_
    · obtain ⟨m, _, rfl⟩ := List.mem_map.mp hx; rfl
    · have : (ord.map nameD).all isNmD = true := List.all_eq_true.mpr fun x hx => by obtain ⟨m, _, rfl⟩ := List.mem_map.mp hx; exact nm_is m
      rw [this] at e; cases e
    · have : ord = l := by
        have := congrArg (List.filterMap fun d => match d with | D.tup [.v (.int a), .v (.int b)] => some ((a.toNat, b.toNat) : Nm) | _ => none) e
        have key : ∀ l : List Nm, (l.map nameD).filterMap (fun d => match d with | D.tup [.v (.int a), .v (.int b)] => some ((a.toNat, b.toNat) : Nm) | _ => none) = l := fun l => by
          rw [List.filterMap_map]
          induction l with
          | nil => rfl
          | cons x l ih => rw [List.filterMap_cons]; show x :: _ = _; rw [ih]
        rw [key, key] at this; exact this
      subst this
      rw [sort_ord ho, decide_eq_true rfl]; exact hq
  · rcases hnot with hnt | ⟨ds, rfl, hc⟩
    · unfold d_is_order
      rcases ok_cases hv with rfl | ⟨_, rfl⟩ | ⟨_, rfl⟩ | ⟨_, rfl, _⟩ | ⟨_, rfl, _⟩ | ⟨_, rfl⟩ | ⟨_, _, rfl⟩
      · exact ⟨_, false, rfl, rfl, hq⟩
      · exact ⟨_, false, rfl, rfl, hq⟩
      · exact ⟨_, false, rfl, rfl, hq⟩
      · exact ⟨_, false, rfl, rfl, hq⟩
      · cases hnt
      · exact ⟨_, false, rfl, rfl, hq⟩
      · exact ⟨_, false, rfl, rfl, hq⟩
    · refine body ds rfl hv (fun _ => hq) fun l e => ?_
      subst e
      rcases hc with ⟨x, hx, e⟩ | hlen
      · obtain ⟨m, _, rfl⟩ := List.mem_map.mp hx
        rw [nm_is] at e; cases e
      · have : ¬ nSort l = namesH h := fun e => hlen (by rw [List.length_map, ← n_len, e])
        rw [decide_eq_false this]; exact hq
theorem firstI_filter {α β : Type} (f : α → Option β) (p : α → Bool) : ∀ (l : List α) (i j : Nat), (∀ m ∈ l, p m = false → f m = none) → firstI (fun _ x => f x) i l = firstI (fun _ x => f x) j (l.filter p)
  | [], _, _, _ => rfl
  | a :: l, i, j, h => by
    rw [firstI_cons]
    cases e : p a with
    | true =>
      rw [List.filter_cons_of_pos e, firstI_cons]
      cases f a with
      | some b => rfl
      | none => exact firstI_filter f p l _ _ fun m hm => h m (List.mem_cons_of_mem _ hm)
    | false =>
      rw [List.filter_cons_of_neg (by rw [e]; exact Bool.false_ne_true), h a List.mem_cons_self e]
      exact firstI_filter f p l _ _ fun m hm => h m (List.mem_cons_of_mem _ hm)
open Classical in
noncomputable def uF (h : Hist) (ord : List Nm) (n : Nm) (t : Tx) (k : Nat) (r : List Nat × Option Nm) (m : Nm) : Option (Nm × Nat × Nm) := if Hit h ord n t k r m then some (n, k, m) else none
theorem uF_yes {h : Hist} {ord : List Nm} {n : Nm} {t : Tx} {k : Nat} {r : List Nat × Option Nm} {m : Nm} (x : Hit h ord n t k r m) : uF h ord n t k r m = some (n, k, m) := if_pos x
theorem uF_no {h : Hist} {ord : List Nm} {n : Nm} {t : Tx} {k : Nat} {r : List Nat × Option Nm} {m : Nm} (x : ¬ Hit h ord n t k r m) : uF h ord n t k r m = none := if_neg x
theorem uns_eq (h : Hist) (ord : List Nm) (n : Nm) (t : Tx) (k : Nat) (r : List Nat × Option Nm) : unsR h ord n t k r = firstI (fun _ m => uF h ord n t k r m) 0 (namesH h) := rfl
theorem rd_first_unseen : Rd n_first_unseen 3 sp_first_unseen d_first_unseen := by
  rintro ds W Q Qx _ ⟨h, pl, ord, rfl, hg, hp, ho, hq⟩
  show d_first_unseen _ [some (.sh (histD h)), some (.sh (prD h pl)), some (.sh (placesD ord)), none, none, none, none, none] W
  unfold d_first_unseen
  refine seq_gen (fun ρ W' => W' = W ∧ unseen h ord = none) (fun ρ W' hI => ?_) (fun N hN => ?_)
  · obtain ⟨rfl, hf⟩ := hI
    rw [hf] at hq; exact hq
  refine dFor_of ((namesH h).map nameD) (fun i ρ W' => W' = W ∧ firstI (fun _ n => unsN h ord n) 0 ((namesH h).take i) = none ∧ ∃ x3 x4 x5 x6 x7 : Option D, ρ = [some (.sh (histD h)), some (.sh (prD h pl)), some (.sh (placesD ord)), x3.map Sl.sh, x4.map Sl.sh, x5.map Sl.sh, x6.map Sl.sh, x7.map Sl.sh]) (fun P hP => ⟨rfl, h, rfl, hg.ok, hg.val, hP⟩) ⟨rfl, rfl, none, none, none, none, none, rfl⟩ (fun i d ρ W' hd hI => ?turn) (fun ρ W' hI => ?done)
  case done =>
    obtain ⟨rfl, hf, _⟩ := hI
    rw [List.length_map, List.take_length] at hf
    exact hN _ _ ⟨rfl, hf⟩
  obtain ⟨rfl, hf, x3, x4, x5, x6, x7, rfl⟩ := hI
  rw [List.getElem?_map] at hd
  obtain ⟨n, hn, rfl⟩ := Option.map_eq_some_iff.mp hd
  obtain ⟨t, ht⟩ := names_iff.mp (List.mem_of_getElem? hn)
  have es : unsN h ord n = firstI (fun k r => unsR h ord n t k r) 0 t.rs := by unfold unsN; rw [ht]
  show dFor _ _ _ _ [some (.sh (histD h)), some (.sh (prD h pl)), some (.sh (placesD ord)), some (.sh (nameD n)), x4.map Sl.sh, x5.map Sl.sh, x6.map Sl.sh, x7.map Sl.sh] W'
  refine dFor_of (enumD (t.rs.map readD)) (fun k ρ W2 => W2 = W' ∧ firstI (fun k r => unsR h ord n t k r) 0 (t.rs.take k) = none ∧ ∃ x4 x5 x6 x7 : Option D, ρ = [some (.sh (histD h)), some (.sh (prD h pl)), some (.sh (placesD ord)), some (.sh (nameD n)), x4.map Sl.sh, x5.map Sl.sh, x6.map Sl.sh, x7.map Sl.sh]) (fun P hP => ⟨rfl, h, n, t, rfl, ht, _, atI_of (i := 1) rfl, hP⟩) ⟨rfl, rfl, x4, x5, x6, x7, rfl⟩ (fun k d ρ W2 hd hI => ?turn2) (fun ρ W2 hI => ?done2)
  case done2 =>
    obtain ⟨rfl, hf2, x4, x5, x6, x7, rfl⟩ := hI
    rw [enumD_len, List.length_map, List.take_length] at hf2
    refine ⟨rfl, ?_, some _, x4, x5, x6, x7, rfl⟩
    rw [firstI_snoc (fun _ n => unsN h ord n) hn hf]
    exact es.trans hf2
  obtain ⟨rfl, hf2, x4, x5, x6, x7, rfl⟩ := hI
  obtain ⟨x, hx, rfl⟩ := enumD_at hd
  rw [List.getElem?_map] at hx
  obtain ⟨r, hr, rfl⟩ := Option.map_eq_some_iff.mp hx
  refine gd12 ?_
  show dFor _ _ _ _ [some (.sh (histD h)), some (.sh (prD h pl)), some (.sh (placesD ord)), some (.sh (nameD n)), some (.sh (.int (k : Nat))), some (.sh (keyTD r.1)), some (.sh (srcD r.2)), x7.map Sl.sh] W2
  have hit : ∀ m, unsR h ord n t k r = some (n, k, m) → Q (.tup [nameD n, .int (k : Nat), nameD m]) W2 := fun m hm => by
    have h1 := firstI_hit (fun k r => unsR h ord n t k r) hr hf2 hm
    have h2 : unseen h ord = some (n, k, m) := firstI_hit (fun _ n => unsN h ord n) hn hf (es.trans h1)
    rw [h2] at hq; exact hq
  let p : Nm → Bool := fun m => @decide (Must h ord n t k r m) (Classical.propDecidable _)
  have hpm : ∀ m, p m = true ↔ Must h ord n t k r m := fun m => ⟨fun e => @of_decide_eq_true _ (Classical.propDecidable _) e, fun e => @decide_eq_true _ (Classical.propDecidable _) e⟩
  have ef : unsR h ord n t k r = firstI (fun _ m => uF h ord n t k r m) 0 ((namesH h).filter p) := (uns_eq h ord n t k r).trans (firstI_filter (fun m => uF h ord n t k r m) p (namesH h) 0 0 fun m _ e => uF_no fun hh => by
    have := (hpm m).mpr hh.1
    rw [e] at this; cases this)
  refine dFor_of (((namesH h).filter p).map nameD) (fun j ρ W3 => W3 = W2 ∧ firstI (fun _ m => uF h ord n t k r m) 0 (((namesH h).filter p).take j) = none ∧ ∃ x7 : Option D, ρ = [some (.sh (histD h)), some (.sh (prD h pl)), some (.sh (placesD ord)), some (.sh (nameD n)), some (.sh (.int (k : Nat))), some (.sh (keyTD r.1)), some (.sh (srcD r.2)), x7.map Sl.sh]) (fun P hP => ⟨rfl, h, pl, ord, n, t, r, k, rfl, hg, hp, ho, ht, hr, fun p2 hp2 => ?_⟩) ⟨rfl, rfl, x7, rfl⟩ (fun j d ρ W3 hd hI => ?turn3) (fun ρ W3 hI => ?done3)
  · have : (namesH h).filter p2 = (namesH h).filter p := List.filter_congr fun m hm => by
      rw [Bool.eq_iff_iff, hp2 m hm, hpm]
    rw [this]; exact hP
  case done3 =>
    obtain ⟨rfl, hf3, x7, rfl⟩ := hI
    rw [List.length_map, List.take_length] at hf3
    refine ⟨rfl, ?_, some _, some _, some _, x7, rfl⟩
    rw [firstI_snoc (fun k r => unsR h ord n t k r) hr hf2]
    exact ef.trans hf3
  obtain ⟨rfl, hf3, x7, rfl⟩ := hI
  rw [List.getElem?_map] at hd
  obtain ⟨m, hm, rfl⟩ := Option.map_eq_some_iff.mp hd
  have hmm := List.mem_filter.mp (List.mem_of_getElem? hm)
  have must := (hpm m).mp hmm.2
  have hmo := (ho.mem m).mpr hmm.1
  have yes : Hit h ord n t k r m → Q (.tup [nameD n, .int (k : Nat), nameD m]) W3 := fun hh => by
    refine hit m (ef.trans (firstI_hit (fun _ m => uF h ord n t k r m) hm hf3 (uF_yes hh)))
  have no : ¬ Hit h ord n t k r m → firstI (fun _ m => uF h ord n t k r m) 0 (((namesH h).filter p).take (j + 1)) = none := fun hh => by
    rw [firstI_snoc (fun _ m => uF h ord n t k r m) hm hf3]; exact uF_no hh
  show dIfS _ _ _ _ [some (.sh (histD h)), some (.sh (prD h pl)), some (.sh (placesD ord)), some (.sh (nameD n)), some (.sh (.int (k : Nat))), some (.sh (keyTD r.1)), some (.sh (srcD r.2)), some (.sh (nameD m))] W3
  cases es2 : r.2 with
  | none => exact ⟨sz 3 (by decide), yes ⟨must, .inl es2⟩⟩
  | some s =>
    have hs : s ∈ ord := (ho.mem s).mpr (src_mem hg.src ht (key := r.1) (k := k) (by rw [hr, ← es2]))
    refine pos_get' hmo (pos_get' hs ?_)
    show (if decide (((pos ord m : Nat) : Int) > (pos ord s : Nat)) = true then _ else _)
    by_cases hlt : pos ord s < pos ord m
    · rw [decide_eq_true (by omega)]
      exact ite_t ⟨sz 3 (by decide), yes ⟨must, .inr ⟨s, es2, hlt⟩⟩⟩
    · rw [decide_eq_false (by omega)]
      refine ite_f ⟨rfl, no fun hh => ?_, some _, rfl⟩
      rcases hh.2 with e | ⟨s', e, l⟩
      · rw [es2] at e; cases e
      · rw [es2] at e; cases e; exact hlt l
end K54
namespace K54
open PySem PySem.Spec L2 G TL C LV
theorem places_eq {ord : List Nm} (nd : ord.Nodup) : (ord.map fun m => D.int (pos ord m : Nat)) = (List.range ord.length).map fun i => D.int (i : Nat) := by
  refine List.ext_getElem? fun i => ?_
  rw [List.getElem?_map, List.getElem?_map]
  by_cases hi : i < ord.length
  · have e : ord[i]? = some ord[i] := List.getElem?_eq_getElem hi
    rw [List.getElem?_range hi, e]
    show some (D.int _) = some (D.int _)
    rw [pos_of nd e]
  · rw [List.getElem?_eq_none (by omega), List.getElem?_eq_none (by rw [List.length_range]; omega)]; rfl
abbrev plRow (ord : List Nm) (l : List Nm) : List (D × D) := l.map fun m => (nameD m, D.int (pos ord m : Nat))
theorem plRow_fst (ord l : List Nm) : (plRow ord l).map (·.1) = l.map nameD := by rw [List.map_map]; rfl
theorem plRow_snd {ord : List Nm} (nd : ord.Nodup) : (plRow ord ord).map (·.2) = (List.range ord.length).map fun i => D.int (i : Nat) := by
  rw [← places_eq nd, List.map_map]; rfl
theorem rd_order_fault : Rd n_order_fault 2 sp_order_fault d_order_fault := by
  rintro ds0 W Q Qx _ ⟨h, d, rfl, hg, hq⟩
  show d_order_fault _ [some (.sh (histD h)), some (.sh d), none, none, none, none, none, none] W
  unfold d_order_fault
  refine ⟨rfl, histD h, rfl, hg.val, good_fault hg, ?_⟩
  refine nxg (F := dSeq _ _) [some (.sh (histD h)), some (.sh d), none, none, none, none, none, none] ?_
  rcases hq with ⟨ord, rfl, ho, hq⟩ | ⟨hnot, hv, hq⟩
  case inr => exact ⟨rfl, h, d, rfl, hg, .inr ⟨hnot, hv, hyes ⟨sz 1 (by decide), hq⟩⟩⟩
  refine ⟨rfl, h, _, rfl, hg, .inl ⟨ord, rfl, ho, hno (nxs ?_)⟩⟩
  have few := names_few hg
  have lo := ord_len ho
  refine ⟨rfl, h, rfl, hg, fun pl hp => ?_⟩
  refine nxg (F := dSeq _ _) [some (.sh (histD h)), some (.sh (.tup (ord.map nameD))), some (.sh (prD h pl)), none, none, none, none, none] ?_
  have dict : ∀ N : KS, N [some (.sh (histD h)), some (.sh (.tup (ord.map nameD))), some (.sh (prD h pl)), some (.on (plRow ord ord)), none, none, none, none] W → ∀ Qx : KX, dNDc (iEnumD (dCons (dVar 1) dNil)) (gdTup 2 (gdCons (gdName 6) (gdCons (gdName 7) gdNil))) dYes (dVar 7) (dVar 6) [6, 7] [some (.sh (histD h)), some (.sh (.tup (ord.map nameD))), some (.sh (prD h pl)), none, none, none, none, none] W (fun kvs ρ' W' => N (ρ'.set 3 (some (.on kvs))) W') Qx := fun N hN Qx => by
    unfold dNDc
    refine ⟨fun j hj o => ?_, rfl, sz _ (by rw [enumD_len, List.length_map]; omega), fun j acc W' => W' = W ∧ acc = plRow ord (ord.take j), ⟨rfl, rfl⟩, fun j d acc W' hj _ hI => ?_, fun acc W' _ hI => ?_⟩
    · simp only [List.mem_cons, List.not_mem_nil, or_false] at hj
      rcases hj with rfl | rfl <;> simp
    · obtain ⟨rfl, rfl⟩ := hI
      obtain ⟨x, hx, rfl⟩ := enumD_at hj
      rw [List.getElem?_map] at hx
      obtain ⟨m, hm, rfl⟩ := Option.map_eq_some_iff.mp hx
      have hna := not_ahead ho.nd hm
      refine gd2 ⟨rfl, ite_t ⟨rfl, nk_name m, rfl, fun k z e => (old_key hna e).elim, fun _ => ⟨rfl, ?_⟩⟩⟩
      rw [take_snoc hm]
      unfold plRow
      rw [List.map_append]
      show _ ++ [(nameD m, D.int (j : Nat))] = _ ++ [(nameD m, D.int (pos ord m : Nat))]
      rw [pos_of ho.nd hm]
    · obtain ⟨rfl, rfl⟩ := hI
      rw [enumD_len, List.length_map, List.take_length]
      exact hN
  refine dict _ ?_ _
  refine nxg (F := dFrzN _ _) [some (.sh (histD h)), some (.sh (.tup (ord.map nameD))), some (.sh (prD h pl)), some (.on (plRow ord ord)), none, none, none, none] ?_
  refine dFrzN_of (kvs := plRow ord ord) rfl ?_
  rw [plRow_fst, plRow_snd ho.nd]
  show dSeq _ _ _ [some (.sh (histD h)), some (.sh (.tup (ord.map nameD))), some (.sh (prD h pl)), some (.sh (placesD ord)), none, none, none, none] W
  refine ⟨rfl, h, pl, ord, rfl, hg, hp, ho, fun d hd => ?_⟩
  refine nxg (F := dSeq _ _) [some (.sh (histD h)), some (.sh (.tup (ord.map nameD))), some (.sh (prD h pl)), some (.sh (placesD ord)), some (.sh d), none, none, none] ?_
  rcases hd with ⟨p, hp', rfl⟩ | ⟨hnone, rfl⟩
  · exact ⟨sz 1 (by decide), sz 3 (by decide), hq _ (.inl ⟨p, hp', rfl⟩)⟩
  · refine nxs ?_
    refine ⟨rfl, h, pl, ord, rfl, hg, hp, ho, ?_⟩
    refine nxg (F := dRet _) [some (.sh (histD h)), some (.sh (.tup (ord.map nameD))), some (.sh (prD h pl)), some (.sh (placesD ord)), some (.sh .non), some (.sh (unsD (unseen h ord))), none, none] ?_
    have hq := hq _ (.inr ⟨hnone, rfl⟩)
    cases e : unseen h ord with
    | none => rw [e] at hq; exact hq
    | some z =>
      obtain ⟨n, k, m⟩ := z
      rw [e] at hq
      exact ⟨sz 1 (by decide), sz 4 (by decide), hq⟩
end K54
namespace K54
open PySem PySem.Spec L2 G TL C LV
theorem ahead_nd (n : Nm) : (aheadN n).Nodup := by
  unfold aheadN
  rw [List.nodup_iff_pairwise_ne, List.pairwise_map]
  exact List.pairwise_lt_range.imp fun {a b} z e => by
    injection e with _ e
    omega
theorem rd_law_before : Rd n_law_before 1 sp_law_before d_law_before := by
  rintro ds W Q Qx _ ⟨h, rfl, hg, hq⟩
  show d_law_before _ [some (.sh (histD h)), none, none, none, none, none, none] W
  unfold d_law_before
  refine nxs ?_
  refine seq_gen (fun ρ W' => W' = W ∧ ∃ (pl : Nm → List Nm) (x2 x3 x4 x5 : Option D), PrOk h pl ∧ ρ = [some (.sh (histD h)), some (.on ((namesH h).map fun m => (nameD m, .lst ((pl m).map nameD)))), x2.map Sl.sh, x3.map Sl.sh, x4.map Sl.sh, x5.map Sl.sh, none]) (fun ρ W' hI => ?_) (fun N hN => ?_)
  · obtain ⟨rfl, pl, x2, x3, x4, x5, hp, rfl⟩ := hI
    refine dFrzN_of (kvs := (namesH h).map fun m => (nameD m, .lst ((pl m).map nameD))) rfl ?_
    have e1 : ((namesH h).map fun m => (nameD m, D.lst ((pl m).map nameD))).map (·.1) = (namesH h).map nameD := by rw [List.map_map]; rfl
    have e2 : ((namesH h).map fun m => (nameD m, D.lst ((pl m).map nameD))).map (·.2) = (namesH h).map fun n => .lst ((pl n).map nameD) := by rw [List.map_map]; rfl
    show Q (.dtt (((namesH h).map fun m => (nameD m, D.lst ((pl m).map nameD))).map (·.1)) (((namesH h).map fun m => (nameD m, D.lst ((pl m).map nameD))).map (·.2))) W'
    rw [e1, e2]
    exact hq pl hp
  refine dFor_of ((namesH h).map nameD) (fun i ρ W' => W' = W ∧ ∃ (pl : Nm → List Nm) (x2 x3 x4 x5 : Option D), (∀ n ∈ (namesH h).take i, (pl n).Nodup ∧ ∀ m, m ∈ pl n ↔ Pred h n m) ∧ ρ = [some (.sh (histD h)), some (.on (((namesH h).take i).map fun m => (nameD m, .lst ((pl m).map nameD)))), x2.map Sl.sh, x3.map Sl.sh, x4.map Sl.sh, x5.map Sl.sh, none])
    (fun P hP => ⟨rfl, h, rfl, hg.ok, hg.val, hP⟩) ⟨rfl, fun _ => [], none, none, none, none, fun n hn => by simp at hn, rfl⟩ (fun i d ρ W' hd hI => ?turn) (fun ρ W' hI => ?done)
  case done =>
    obtain ⟨rfl, pl, x2, x3, x4, x5, hp, rfl⟩ := hI
    rw [List.length_map, List.take_length] at hp ⊢
    exact hN _ _ ⟨rfl, pl, x2, x3, x4, x5, ⟨fun n hn => (hp n hn).1, fun n hn => (hp n hn).2⟩, rfl⟩
  obtain ⟨rfl, pl, x2, x3, x4, x5, hp, rfl⟩ := hI
  rw [List.getElem?_map] at hd
  obtain ⟨n, hn, rfl⟩ := Option.map_eq_some_iff.mp hd
  have hnm := List.mem_of_getElem? hn
  have hna := not_ahead (names_nd h) hn
  obtain ⟨f1, f2⟩ := name_few hg hnm
  obtain ⟨t, ht⟩ := names_iff.mp hnm
  obtain ⟨l1, l2, l3⟩ := tx_rs hg ht
  obtain ⟨sa, a1, a2⟩ := hist_at ht
  have a3 : (sa.map txD)[n.2]? = some (txD t) := by rw [List.getElem?_map, a2]; rfl
  show dSeq _ _ _ [some (.sh (histD h)), some (.on (((namesH h).take i).map fun m => (nameD m, .lst ((pl m).map nameD)))), some (.sh (nameD n)), x3.map Sl.sh, x4.map Sl.sh, x5.map Sl.sh, none] W'
  refine dLc_mapF (List.range n.2) (fun i => .int (0 + (i : Int))) (fun i => nameD (n.1, i)) (noOwn1 (by simp)) (sz _ (by rw [List.length_range]; omega)) (fun P hP => ⟨_, atI_of (i := 1) rfl, by omega, by omega, by rw [Int.toNat_natCast]; exact hP⟩) (fun j _ P hP => ?_) ?_
  · refine ⟨_, atI_of (i := 0) rfl, sz 2 (by decide), ?_⟩
    have e0 : (0 : Int) + (j : Int) = (j : Int) := by omega
    rw [e0] at hP ⊢
    exact hP
  have ea : ((List.range n.2).map fun i => nameD (n.1, i)) = (aheadN n).map nameD := by unfold aheadN; rw [List.map_map]; rfl
  rw [ea]
  refine nxg (F := dSeq _ _) [some (.sh (histD h)), some (.on (((namesH h).take i).map fun m => (nameD m, .lst ((pl m).map nameD)))), some (.sh (nameD n)), some (.ol ((aheadN n).map nameD)), x4.map Sl.sh, x5.map Sl.sh, none] ?_
  have la : (aheadN n).length = n.2 := by unfold aheadN; rw [List.length_map, List.length_range]
  refine seq_gen (fun ρ W2 => W2 = W' ∧ ∃ (l : List Nm) (x4 x5 : Option D), l.Nodup ∧ (∀ m, m ∈ l ↔ Pred h n m) ∧ ρ = [some (.sh (histD h)), some (.on (((namesH h).take i).map fun m => (nameD m, .lst ((pl m).map nameD)))), some (.sh (nameD n)), some (.ol (l.map nameD)), x4.map Sl.sh, x5.map Sl.sh, none]) (fun ρ W2 hI => ?_) (fun N2 hN2 => ?_)
  · obtain ⟨rfl, l, x4, x5, nd, hl, rfl⟩ := hI
    refine dFrz_of (ds := l.map nameD) rfl ?_
    refine ⟨⟨_, rfl⟩, nk_name n, ?_, fun i z e => (old_key hna e).elim, fun _ => ⟨rfl, fun x => if x = n then l else pl x, some (nameD n), some (.lst (l.map nameD)), x4, x5, fun x hx => ?_, ?_⟩⟩
    · have := names_few hg
      rw [List.length_map, List.length_take]; show _ < 16777216; omega
    · by_cases e : x = n
      · simp only [e, if_true]; exact ⟨nd, hl⟩
      · simp only [e, if_false]
        rw [take_snoc hn] at hx
        rcases List.mem_append.mp hx with hx | hx
        · exact hp x hx
        · exact absurd (List.mem_singleton.mp hx) e
    · rw [take_snoc hn, upd_map (fun l => D.lst (l.map nameD)) pl l hna]; rfl
  refine dFor_of (t.rs.map readD) (fun k ρ W2 => W2 = W' ∧ ∃ (l : List Nm) (x4 x5 : Option D), l.Nodup ∧ (∀ m, m ∈ l ↔ m ∈ aheadN n ∨ m ∈ (t.rs.take k).filterMap (·.2)) ∧ l.length ≤ n.2 + k ∧ ρ = [some (.sh (histD h)), some (.on (((namesH h).take i).map fun m => (nameD m, .lst ((pl m).map nameD)))), some (.sh (nameD n)), some (.ol (l.map nameD)), x4.map Sl.sh, x5.map Sl.sh, none])
    (fun P hP => ⟨_, atI_of (i := 0) rfl, _, atI_of (hist_get a1), _, atI_of (i := 1) rfl, _, atI_of a3, _, atI_of (i := 1) rfl, hP⟩) ⟨rfl, aheadN n, x4, x5, ahead_nd n, fun m => by simp, by omega, rfl⟩ (fun k d ρ W2 hd hI => ?turn2) (fun ρ W2 hI => ?done2)
  case done2 =>
    obtain ⟨rfl, l, x4, x5, nd, hl, _, rfl⟩ := hI
    rw [List.length_map, List.take_length] at hl
    refine hN2 _ _ ⟨rfl, l, x4, x5, nd, fun m => ?_, rfl⟩
    rw [hl, ahead_mem, ← src_iff ht]; rfl
  obtain ⟨rfl, l, x4, x5, nd, hl, hlen, rfl⟩ := hI
  rw [List.getElem?_map] at hd
  obtain ⟨r, hr, rfl⟩ := Option.map_eq_some_iff.mp hd
  have hk := (List.getElem?_eq_some_iff.mp hr).1
  obtain ⟨key, src⟩ := r
  refine gd2 ?_
  show dIfS _ _ _ _ [some (.sh (histD h)), some (.on (((namesH h).take i).map fun m => (nameD m, .lst ((pl m).map nameD)))), some (.sh (nameD n)), some (.ol (l.map nameD)), some (.sh (keyTD key)), some (.sh (srcD src)), none] W2
  have et : (t.rs.take (k + 1)).filterMap (·.2) = (t.rs.take k).filterMap (·.2) ++ src.toList := by
    rw [take_snoc hr, List.filterMap_append]
    cases src <;> rfl
  cases src with
  | none =>
    refine ⟨rfl, l, some _, some _, nd, fun m => ?_, by omega, rfl⟩
    rw [hl, et]; simp
  | some s =>
    refine ⟨rfl, goods_names 60 l, ?_⟩
    have eany : ((l.map nameD).any fun z => eqD z (srcD (some s))) = decide (s ∈ l) := any_name l s
    rw [eany]
    by_cases hs : s ∈ l
    · rw [decide_eq_true hs]
      refine ⟨rfl, l, some _, some _, nd, fun m => ?_, by omega, rfl⟩
      rw [hl, et, List.mem_append]
      constructor
      · rintro (a | a)
        · exact .inl a
        · exact .inr (.inl a)
      · rintro (a | a | a)
        · exact .inl a
        · exact .inr a
        · simp only [Option.toList, List.mem_singleton] at a
          subst a; exact (hl _).mp hs
    · rw [decide_eq_false hs]
      refine ⟨⟨_, rfl⟩, by rw [List.length_map]; show _ < 16777216; omega, rfl, l ++ [s], some (keyTD key), some (srcD (some s)), ?_, fun m => ?_, by rw [List.length_append, List.length_singleton]; omega, ?_⟩
      · rw [List.nodup_append]
        exact ⟨nd, by simp, fun a ha b hb => by rw [List.mem_singleton] at hb; subst hb; exact fun e => hs (e ▸ ha)⟩
      · rw [List.mem_append, hl, et, List.mem_append]
        simp only [Option.toList, List.mem_singleton]
        constructor
        · rintro ((a | a) | a)
          · exact .inl a
          · exact .inr (.inl a)
          · exact .inr (.inr a)
        · rintro (a | a | a)
          · exact .inl (.inl a)
          · exact .inl (.inr a)
          · exact .inr a
      · rw [List.map_append]; rfl
end K54
namespace K54
open PySem PySem.Spec L2 G TL C LV
structure Lc (h : Hist) (n : Nm) (l : List Nm) : Prop where
  nd : l.Nodup
  r : ∀ x ∈ l, Reach h n x
  c0 : ∀ x, Pred h n x → x ∈ l
def Closed (h : Hist) (l : List Nm) : Prop := ∀ y ∈ l, ∀ x, Pred h y x → x ∈ l
theorem Lc.iff {h : Hist} {n : Nm} {l : List Nm} (a : Lc h n l) (c : Closed h l) (m : Nm) : m ∈ l ↔ Reach h n m := by
  refine ⟨a.r m, fun hr => ?_⟩
  induction hr with
  | one hp => exact a.c0 _ hp
  | more _ hp ih => exact c _ ih _ hp
theorem full_of {l N : List Nm} (nd : l.Nodup) (hs : ∀ x ∈ l, x ∈ N) (hl : N.length ≤ l.length) : ∀ x ∈ N, x ∈ l := fun x hx => by
  refine Classical.byContradiction fun hn => ?_
  have := len_le (a := x :: l) (b := N) (List.nodup_cons.mpr ⟨hn, nd⟩) fun m hm => by
    rcases List.mem_cons.mp hm with rfl | hm
    · exact hx
    · exact hs m hm
  rw [List.length_cons] at this; omega
theorem rd_law_closure : Rd n_law_closure 2 sp_law_closure d_law_closure := by
  rintro ds W Q Qx _ ⟨h, bl, n, rfl, hg, hp, hn, hq⟩
  show d_law_closure _ [some (.sh (blD h bl)), some (.sh (nameD n)), none, none, none, none] W
  unfold d_law_closure
  have few := names_few hg
  have inN : ∀ {l : List Nm}, Lc h n l → ∀ x ∈ l, x ∈ namesH h := fun a x hx => reach_mem hg.src hn (a.r x hx)
  refine tab_get hn (f := fun n => .lst ((bl n).map nameD)) ⟨_, rfl, ?_⟩
  refine nxg (F := dSeq _ _) [some (.sh (blD h bl)), some (.sh (nameD n)), some (.ol ((bl n).map nameD)), none, none, none] ?_
  refine seq_gen (fun ρ W' => W' = W ∧ ∃ (l : List Nm) (x3 x4 x5 : Option D), Lc h n l ∧ Closed h l ∧ ρ = [some (.sh (blD h bl)), some (.sh (nameD n)), some (.ol (l.map nameD)), x3.map Sl.sh, x4.map Sl.sh, x5.map Sl.sh]) (fun ρ W' hI => ?_) (fun N hN => ?_)
  · obtain ⟨rfl, l, x3, x4, x5, hc, hcl, rfl⟩ := hI
    refine dFrz_of (ds := l.map nameD) rfl ?_
    obtain ⟨o1, o2, o3⟩ := names_sortable l
    refine ⟨o1, o2, o3, ?_⟩
    rw [srt_names]
    exact hq (nSort l) (fun m => n_mem.trans (hc.iff hcl m)) (by rw [n_len]; have := len_le hc.nd (inN hc); omega)
  refine dFor_of (rng 0 (namesH h).length) (fun j ρ W' => W' = W ∧ ∃ (l : List Nm) (x3 x4 x5 : Option D), Lc h n l ∧ (Closed h l ∨ j ≤ l.length) ∧ ρ = [some (.sh (blD h bl)), some (.sh (nameD n)), some (.ol (l.map nameD)), x3.map Sl.sh, x4.map Sl.sh, x5.map Sl.sh]) (fun P hP => ?_) ⟨rfl, bl n, none, none, none, ⟨hp.nd n hn, fun x hx => .one ((hp.mem n hn x).mp hx), fun x hx => (hp.mem n hn x).mpr hx⟩, .inr (Nat.zero_le _), rfl⟩ (fun j d ρ W' hd hI => ?turn) (fun ρ W' hI => ?done)
  · show -(2 ^ 62) ≤ _ ∧ _ < 2 ^ 62 ∧ P (rng 0 _) _ _
    rw [List.length_map]
    refine ⟨by omega, by omega, ?_⟩
    rw [Int.toNat_natCast]; exact hP
  case done =>
    obtain ⟨rfl, l, x3, x4, x5, hc, hj, rfl⟩ := hI
    rw [rng_length] at hj
    refine hN _ _ ⟨rfl, l, x3, x4, x5, hc, ?_, rfl⟩
    rcases hj with hj | hj
    · exact hj
    · exact fun y hy x hx => full_of hc.nd (inN hc) hj x (pred_mem hg.src (inN hc y hy) hx)
  obtain ⟨rfl, c, x3, x4, x5, hc, hj, rfl⟩ := hI
  obtain ⟨hj1, rfl⟩ := rng_get hd
  show dFor _ _ _ _ [some (.sh (blD h bl)), some (.sh (nameD n)), some (.ol (c.map nameD)), some (.sh (.int (0 + (j : Int)))), x4.map Sl.sh, x5.map Sl.sh] W'
  refine dFor_of (c.map nameD) (fun i ρ W2 => W2 = W' ∧ ∃ (ex : List Nm) (x3 x4 x5 : Option D), Lc h n (c ++ ex) ∧ (Closed h c → ex = []) ∧ (∀ y ∈ c.take i, ∀ x, Pred h y x → x ∈ c ++ ex) ∧ ρ = [some (.sh (blD h bl)), some (.sh (nameD n)), some (.ol ((c ++ ex).map nameD)), x3.map Sl.sh, x4.map Sl.sh, x5.map Sl.sh]) (fun P hP => hP) ⟨rfl, [], some _, x4, x5, by rw [List.append_nil]; exact hc, fun _ => rfl, fun y hy => by simp at hy, by rw [List.append_nil]; rfl⟩ (fun i d ρ W2 hd hI => ?turn2) (fun ρ W2 hI => ?done2)
  case done2 =>
    obtain ⟨rfl, ex, x3, x4, x5, hc2, he, hall, rfl⟩ := hI
    rw [List.length_map, List.take_length] at hall
    refine ⟨rfl, c ++ ex, x3, x4, x5, hc2, ?_, rfl⟩
    cases ex with
    | nil =>
      rw [List.append_nil] at hall ⊢
      exact .inl hall
    | cons z ex =>
      refine .inr ?_
      rcases hj with hj | hj
      · cases he hj
      · rw [List.length_append, List.length_cons]; omega
  obtain ⟨rfl, ex, x3, x4, x5, hc2, he, hall, rfl⟩ := hI
  rw [List.getElem?_map] at hd
  obtain ⟨y, hy, rfl⟩ := Option.map_eq_some_iff.mp hd
  have hyc := List.mem_of_getElem? hy
  have hyN := inN hc y hyc
  show dFor _ _ _ _ [some (.sh (blD h bl)), some (.sh (nameD n)), some (.ol ((c ++ ex).map nameD)), x3.map Sl.sh, some (.sh (nameD y)), x5.map Sl.sh] W2
  refine dFor_of ((bl y).map nameD) (fun k ρ W3 => W3 = W2 ∧ ∃ (ex : List Nm) (x5 : Option D), Lc h n (c ++ ex) ∧ (Closed h c → ex = []) ∧ (∀ y ∈ c.take i, ∀ x, Pred h y x → x ∈ c ++ ex) ∧ (∀ x ∈ (bl y).take k, x ∈ c ++ ex) ∧ ρ = [some (.sh (blD h bl)), some (.sh (nameD n)), some (.ol ((c ++ ex).map nameD)), x3.map Sl.sh, some (.sh (nameD y)), x5.map Sl.sh]) (fun P hP => tab_get hyN (f := fun n => .lst ((bl n).map nameD)) hP) ⟨rfl, ex, x5, hc2, he, hall, fun x hx => by simp at hx, rfl⟩ (fun k d ρ W3 hd hI => ?turn3) (fun ρ W3 hI => ?done3)
  case done3 =>
    obtain ⟨rfl, ex, x5, hc2, he, hall, hb, rfl⟩ := hI
    rw [List.length_map, List.take_length] at hb
    refine ⟨rfl, ex, x3, some (nameD y), x5, hc2, he, fun y' hy' x hx => ?_, rfl⟩
    rw [take_snoc hy] at hy'
    rcases List.mem_append.mp hy' with hy' | hy'
    · exact hall y' hy' x hx
    · rw [List.mem_singleton] at hy'; subst hy'
      exact hb x ((hp.mem _ hyN x).mpr hx)
  obtain ⟨rfl, ex, x5, hc2, he, hall, hb, rfl⟩ := hI
  rw [List.getElem?_map] at hd
  obtain ⟨x, hx, rfl⟩ := Option.map_eq_some_iff.mp hd
  have hpx := (hp.mem y hyN x).mp (List.mem_of_getElem? hx)
  show dIfS _ _ _ _ [some (.sh (blD h bl)), some (.sh (nameD n)), some (.ol ((c ++ ex).map nameD)), x3.map Sl.sh, some (.sh (nameD y)), some (.sh (nameD x))] W3
  refine ⟨rfl, goods_names 60 (c ++ ex), ?_⟩
  rw [any_name]
  by_cases hs : x ∈ c ++ ex
  · rw [decide_eq_true hs]
    refine ⟨rfl, ex, some (nameD x), hc2, he, hall, fun z hz => ?_, rfl⟩
    rw [take_snoc hx] at hz
    rcases List.mem_append.mp hz with hz | hz
    · exact hb z hz
    · rw [List.mem_singleton] at hz; subst hz; exact hs
  · rw [decide_eq_false hs]
    have hlen := len_le hc2.nd (inN hc2)
    refine ⟨⟨_, rfl⟩, by rw [List.length_map]; show _ < 16777216; omega, rfl, ex ++ [x], some (nameD x), ⟨?_, fun z hz => ?_, fun z hz => ?_⟩, fun hcl => ?_, fun y' hy' z hz => ?_, fun z hz => ?_, ?_⟩
    · rw [← List.append_assoc, List.nodup_append]
      exact ⟨hc2.nd, by simp, fun a ha b hb => by rw [List.mem_singleton] at hb; subst hb; exact fun e => hs (e ▸ ha)⟩
    · rw [← List.append_assoc] at hz
      rcases List.mem_append.mp hz with hz | hz
      · exact hc2.r z hz
      · rw [List.mem_singleton] at hz; subst hz; exact .more (hc.r y hyc) hpx
    · rw [← List.append_assoc]; exact List.mem_append_left _ (hc2.c0 z hz)
    · exact absurd (List.mem_append_left _ (hcl y hyc x hpx)) hs
    · rw [← List.append_assoc]; exact List.mem_append_left _ (hall y' hy' z hz)
    · rw [← List.append_assoc]
      rw [take_snoc hx] at hz
      rcases List.mem_append.mp hz with hz | hz
      · exact List.mem_append_left _ (hb z hz)
      · exact List.mem_append_right _ hz
    · rw [← List.append_assoc, List.map_append (l₂ := [x])]; rfl
end K54
namespace K54
open PySem PySem.Spec L2 G TL C LV
theorem eq_src2 (s : Option Nm) (m : Nm) : eqD (srcD s) (nameD m) = decide (s = some m) := by
  cases s with
  | none =>
    have : eqD (srcD none) (nameD m) = false := by
      unfold eqD srcD nameD
      simp [D.py, pys, PyData.eqv]
    rw [this]; simp
  | some x =>
    show eqD (nameD x) (nameD m) = _
    rw [eq_nameN]
    exact decide_eq_decide.mpr ⟨fun e => by rw [e], fun e => Option.some.inj e⟩
theorem goods_srcs : ∀ rs : List (List Nat × Option Nm), goods 62 (rs.map fun r => srcD r.2) = true
  | [] => rfl
  | r :: l => by
    show (D.good 62 (srcD r.2) && goods 62 (l.map fun r => srcD r.2)) = true
    rw [goods_srcs l]
    cases r.2 <;> rfl
theorem in_srcs {m : Nm} {rs : List (List Nat × Option Nm)} {P : D → Prop} (h : ∀ b : Bool, (b = true ↔ ∃ r ∈ rs, r.2 = some m) → P (.bl b)) : dInB false (nameD m) (.lst (rs.map fun r => srcD r.2)) P := by
  refine .inr ⟨rs.map fun r => srcD r.2, .inl rfl, rfl, goods_srcs rs, h _ ?_⟩
  rw [if_neg Bool.false_ne_true, List.any_map, List.any_eq_true]
  constructor
  · rintro ⟨r, hr, e⟩
    have e : eqD (srcD r.2) (nameD m) = true := e
    rw [eq_src2, decide_eq_true_eq] at e
    exact ⟨r, hr, e⟩
  · rintro ⟨r, hr, e⟩
    refine ⟨r, hr, ?_⟩
    show eqD (srcD r.2) (nameD m) = true
    rw [eq_src2, decide_eq_true_eq]; exact e
theorem rd_law_must_see : Rd n_law_must_see 7 sp_law_must_see d_law_must_see := by
  rintro ds W Q Qx _ ⟨h, bl, cl, ord, n, m, t, ⟨key, src⟩, k, rfl, hg, hp, hc, ho, ht, hr, hm, hq⟩
  show d_law_must_see _ [some (.sh (histD h)), some (.sh (blD h bl)), some (.sh (blD h cl)), some (.sh (placesD ord)), some (.sh (nameD n)), some (.sh (.int (k : Nat))), some (.sh (nameD m)), none, none, none, none, none, none, none, none, none] W
  unfold d_law_must_see
  have hn : n ∈ namesH h := names_iff.mpr ⟨t, ht⟩
  have hnO := (ho.mem n).mpr hn
  have hmo := (ho.mem m).mpr hm
  obtain ⟨tm, htm⟩ := names_iff.mp hm
  obtain ⟨l1, l2, l3⟩ := tx_rs hg ht
  have few := names_few hg
  have lo := ord_len ho
  obtain ⟨sa, a1, a2⟩ := hist_at ht
  have a3 : (sa.map txD)[n.2]? = some (txD t) := by rw [List.getElem?_map, a2]; rfl
  obtain ⟨sb, b1, b2⟩ := hist_at htm
  have b3 : (sb.map txD)[m.2]? = some (txD tm) := by rw [List.getElem?_map, b2]; rfl
  have hrd : (t.rs.map readD)[k]? = some (readD (key, src)) := by rw [List.getElem?_map, hr]; rfl
  refine ⟨_, atI_of (i := 0) rfl, _, atI_of (hist_get a1), _, atI_of (i := 1) rfl, _, atI_of a3, gd3 ?_⟩
  refine nxg (F := dSeq _ _) [some (.sh (histD h)), some (.sh (blD h bl)), some (.sh (blD h cl)), some (.sh (placesD ord)), some (.sh (nameD n)), some (.sh (.int (k : Nat))), some (.sh (nameD m)), some (.sh (.str t.lv)), some (.sh (.tup (t.rs.map readD))), some (.sh (.tup (t.ws.map keyTD))), none, none, none, none, none, none] ?_
  refine ⟨_, atI_of hrd, gd2 ?_⟩
  refine nxg (F := dSeq _ _) [some (.sh (histD h)), some (.sh (blD h bl)), some (.sh (blD h cl)), some (.sh (placesD ord)), some (.sh (nameD n)), some (.sh (.int (k : Nat))), some (.sh (nameD m)), some (.sh (.str t.lv)), some (.sh (.tup (t.rs.map readD))), some (.sh (.tup (t.ws.map keyTD))), some (.sh (.str (mkS key))), some (.sh (srcD src)), none, none, none, none] ?_
  refine dEq_name (ite_d (fun e => hq false ⟨fun z => (nomatch z), fun z => absurd e z.other⟩) fun e1 => ?_)
  refine dEq_src (ite_d (fun e => hq false ⟨fun z => (nomatch z), fun z => absurd e z.notS⟩) fun e2 => ?_)
  refine ⟨_, atI_of (i := 0) rfl, _, atI_of (hist_get b1), _, atI_of (i := 1) rfl, _, atI_of b3, _, atI_of (i := 2) rfl, ?_⟩
  refine in_strs (neg := true) (l := tm.ws.map mkS) (.inl (congrArg D.tup (keys_D _))) ?_
  rw [if_pos rfl, mem_mkS]
  by_cases e3 : key ∈ tm.ws
  case neg =>
    rw [decide_eq_false e3]
    refine hq false ⟨fun z => (nomatch z), fun z => ?_⟩
    obtain ⟨tm', h1, h2⟩ := z.wr
    rw [htm] at h1; cases h1
    exact absurd h2 e3
  rw [decide_eq_true e3]
  have must : ∀ x : Bool, (x = true ↔ Lvl h ord n t k m) → Q (.bl x) W := fun x hx => hq x (hx.trans ⟨fun z => ⟨e1, e2, ⟨tm, htm, e3⟩, z⟩, fun z => z.lvl⟩)
  refine hno (nxs ?_)
  refine dEq_str (ite_d (fun e => ?_) fun nrc => nxs ?_)
  · refine dLc_filtG (t.rs.take k) readD (fun r => srcD r.2) (fun _ => true) (fun r => [some (.sh (histD h)), some (.sh (blD h bl)), some (.sh (blD h cl)), some (.sh (placesD ord)), some (.sh (nameD n)), some (.sh (.int (k : Nat))), some (.sh (nameD m)), some (.sh (.str t.lv)), some (.sh (.tup (t.rs.map readD))), some (.sh (.tup (t.ws.map keyTD))), some (.sh (.str (mkS key))), some (.sh (srcD src)), none, none, some (.sh (keyTD r.1)), some (.sh (srcD r.2))]) (fun j hj o => ?_) (sz _ (by rw [List.length_take]; omega)) (fun P hP => ?_) (fun r _ P hP => gd2 hP) (fun r _ P hP => hP) (fun r _ _ P hP => hP) ?_
    · simp only [List.mem_cons, List.not_mem_nil, or_false] at hj
      rcases hj with rfl | rfl <;> simp
    · show P (cutD (t.rs.map readD) none (some (k : Int))) _ _
      rw [cut_lo, ← List.map_take]; exact hP
    · rw [List.filter_eq_self.mpr fun _ _ => rfl]
      refine in_srcs fun b hb => must b (hb.trans ?_)
      have e : t.lv = lRc := e
      unfold Lvl Named
      rw [if_pos (.inl e), if_pos e]
      constructor
      · rintro ⟨⟨key, s⟩, hr, es⟩
        simp only at es
        subst es
        obtain ⟨j, hj⟩ := List.getElem?_of_mem hr
        rw [List.getElem?_take] at hj
        split at hj
        · rename_i hlt; exact ⟨j, key, hlt, hj⟩
        · cases hj
      · rintro ⟨j, key, hlt, hj⟩
        exact ⟨(key, some m), List.mem_of_getElem? (i := j) (by rw [List.getElem?_take, if_pos hlt]; exact hj), rfl⟩
  have nrc : ¬ t.lv = lRc := nrc
  refine dEq_str (ite_d (fun e => ?_) fun nra => nxs ?_)
  · refine tab_get hn (f := fun n => .lst ((bl n).map nameD)) (in_names (neg := false) (.inr rfl) (must _ ?_))
    have e : t.lv = lRa := e
    rw [if_neg Bool.false_ne_true, decide_eq_true_eq]
    unfold Lvl Named
    rw [if_pos (.inr (.inl e)), if_neg nrc, if_pos e]
    exact hp.mem n hn m
  have nra : ¬ t.lv = lRa := nra
  refine dEq_str (ite_d (fun e => ?_) fun ncc => nxs ?_)
  · refine tab_get hn (f := fun n => .lst ((cl n).map nameD)) (in_names (neg := false) (.inr rfl) (must _ ?_))
    have e : t.lv = lCc := e
    rw [if_neg Bool.false_ne_true, decide_eq_true_eq]
    unfold Lvl Named
    rw [if_pos (.inr (.inr e)), if_neg nrc, if_neg nra]
    exact hc.mem n hn m
  have ncc : ¬ t.lv = lCc := ncc
  have hl : Lvl h ord n t k m ↔ Under h ord n t (pos ord m) := by
    unfold Lvl
    rw [if_neg (fun z => z.elim nrc fun z => z.elim nra ncc)]
  refine dEq_str (ite_d (fun e => ?_) fun nser => nxs ?_)
  · refine pos_get' hmo (pos_get' hnO (must _ ?_))
    have e : t.lv = lSer := e
    rw [hl]
    unfold Under
    rw [if_pos e, decide_eq_true_eq]
    omega
  have nser : ¬ t.lv = lSer := nser
  have hu : Lvl h ord n t k m ↔ ∃ x, x ∈ namesH h ∧ (Pred h n x ∨ (t.lv = lSi ∧ pos ord x < pos ord n ∧ Share h x n)) ∧ pos ord m ≤ pos ord x := by
    rw [hl]; unfold Under; rw [if_neg nser]
  refine seq_gen (fun ρ W' => W' = W ∧ ∀ x ∈ ord, ¬ ((Pred h n x ∨ (t.lv = lSi ∧ pos ord x < pos ord n ∧ Share h x n)) ∧ pos ord m ≤ pos ord x)) (fun ρ W' hI => ?_) (fun N hN => ?_)
  · obtain ⟨rfl, hI⟩ := hI
    refine must false ⟨fun z => (nomatch z), fun z => ?_⟩
    obtain ⟨x, h1, h2⟩ := hu.mp z
    exact absurd h2 (hI x ((ho.mem x).mpr h1))
  refine dFor_of (ord.map nameD) (fun i ρ W' => W' = W ∧ (∀ x ∈ ord.take i, ¬ ((Pred h n x ∨ (t.lv = lSi ∧ pos ord x < pos ord n ∧ Share h x n)) ∧ pos ord m ≤ pos ord x)) ∧ ∃ x12 x13 : Option D, ρ = [some (.sh (histD h)), some (.sh (blD h bl)), some (.sh (blD h cl)), some (.sh (placesD ord)), some (.sh (nameD n)), some (.sh (.int (k : Nat))), some (.sh (nameD m)), some (.sh (.str t.lv)), some (.sh (.tup (t.rs.map readD))), some (.sh (.tup (t.ws.map keyTD))), some (.sh (.str (mkS key))), some (.sh (srcD src)), x12.map Sl.sh, x13.map Sl.sh, none, none]) (fun P hP => hP) ⟨rfl, fun x hx => by simp at hx, none, none, rfl⟩ (fun i d ρ W' hd hI => ?turn) (fun ρ W' hI => ?done)
  case done =>
    obtain ⟨rfl, hI, _⟩ := hI
    rw [List.length_map, List.take_length] at hI
    exact hN _ _ ⟨rfl, hI⟩
  obtain ⟨rfl, hI, x12, x13, rfl⟩ := hI
  rw [List.getElem?_map] at hd
  obtain ⟨x, hx, rfl⟩ := Option.map_eq_some_iff.mp hd
  have hxo := List.mem_of_getElem? hx
  have hxN := (ho.mem x).mp hxo
  refine tab_get hn (f := fun n => .lst ((bl n).map nameD)) (in_names (neg := false) (.inr rfl) ?_)
  rw [if_neg Bool.false_ne_true]
  refine nxg (F := dSeq _ _) [some (.sh (histD h)), some (.sh (blD h bl)), some (.sh (blD h cl)), some (.sh (placesD ord)), some (.sh (nameD n)), some (.sh (.int (k : Nat))), some (.sh (nameD m)), some (.sh (.str t.lv)), some (.sh (.tup (t.rs.map readD))), some (.sh (.tup (t.ws.map keyTD))), some (.sh (.str (mkS key))), some (.sh (srcD src)), some (.sh (nameD x)), some (.sh (.bl (decide (x ∈ bl n)))), none, none] ?_
  refine seq_gen (fun ρ W2 => W2 = W' ∧ ∃ b : Bool, (b = true ↔ (Pred h n x ∨ (t.lv = lSi ∧ pos ord x < pos ord n ∧ Share h x n))) ∧ ρ = [some (.sh (histD h)), some (.sh (blD h bl)), some (.sh (blD h cl)), some (.sh (placesD ord)), some (.sh (nameD n)), some (.sh (.int (k : Nat))), some (.sh (nameD m)), some (.sh (.str t.lv)), some (.sh (.tup (t.rs.map readD))), some (.sh (.tup (t.ws.map keyTD))), some (.sh (.str (mkS key))), some (.sh (srcD src)), some (.sh (nameD x)), some (.sh (.bl b)), none, none]) (fun ρ W2 hI2 => ?_) (fun N2 hN2 => ?_)
  · obtain ⟨rfl, b, hb, rfl⟩ := hI2
    have snoc : ¬ ((Pred h n x ∨ (t.lv = lSi ∧ pos ord x < pos ord n ∧ Share h x n)) ∧ pos ord m ≤ pos ord x) → ∀ y ∈ ord.take (i + 1), ¬ ((Pred h n y ∨ (t.lv = lSi ∧ pos ord y < pos ord n ∧ Share h y n)) ∧ pos ord m ≤ pos ord y) := fun hx2 y hy => by
      rw [take_snoc hx] at hy
      rcases List.mem_append.mp hy with hy | hy
      · exact hI y hy
      · rw [List.mem_singleton] at hy; subst hy; exact hx2
    cases b with
    | false => exact ⟨rfl, snoc (fun z => (nomatch (hb.mpr z.1))), some (nameD x), some (.bl false), rfl⟩
    | true =>
      refine pos_get' hmo (pos_get' hxo ?_)
      show (if decide (((pos ord m : Nat) : Int) ≤ (pos ord x : Nat)) = true then _ else _)
      by_cases hle : pos ord m ≤ pos ord x
      · rw [decide_eq_true (by omega)]
        exact ite_t (must true ⟨fun _ => hu.mpr ⟨x, hxN, hb.mp rfl, hle⟩, fun _ => rfl⟩)
      · rw [decide_eq_false (by omega)]
        exact ite_f ⟨rfl, snoc fun z => hle z.2, some (nameD x), some (.bl true), rfl⟩
  · have keep : ¬ (t.lv = lSi ∧ pos ord x < pos ord n ∧ Share h x n) → N2 [some (.sh (histD h)), some (.sh (blD h bl)), some (.sh (blD h cl)), some (.sh (placesD ord)), some (.sh (nameD n)), some (.sh (.int (k : Nat))), some (.sh (nameD m)), some (.sh (.str t.lv)), some (.sh (.tup (t.rs.map readD))), some (.sh (.tup (t.ws.map keyTD))), some (.sh (.str (mkS key))), some (.sh (srcD src)), some (.sh (nameD x)), some (.sh (.bl (decide (x ∈ bl n)))), none, none] W' := fun hz => by
      refine hN2 _ _ ⟨rfl, _, ?_, rfl⟩
      rw [decide_eq_true_eq, hp.mem n hn]
      exact ⟨.inl, fun z => z.elim id fun z => absurd z hz⟩
    refine dEq_str (ite_d (fun e => ?_) fun e => keep fun z => e z.1)
    refine dNe_name (ite_n (fun e2 => ?_) fun e2 => keep fun z => by rw [e2] at z; exact Nat.lt_irrefl _ z.2.1)
    refine pos_get' hxo (pos_get' hnO ?_)
    show (if decide (((pos ord x : Nat) : Int) < (pos ord n : Nat)) = true then _ else _)
    by_cases hlt : pos ord x < pos ord n
    · rw [decide_eq_true (by omega)]
      refine ite_t ⟨rfl, h, x, n, rfl, hg, hxN, hn, fun b hb => ?_⟩
      cases b with
      | false => exact keep fun z => nomatch (hb.mpr z.2.2)
      | true => exact hN2 _ _ ⟨rfl, true, ⟨fun _ => .inr ⟨e, hlt, hb.mp rfl⟩, fun _ => rfl⟩, rfl⟩
    · rw [decide_eq_false (by omega)]
      exact ite_f (keep fun z => hlt z.2.1)
end K54
namespace K54
open PySem PySem.Spec L2 G TL C LV
abbrev E4 (h : Hist) (bl cl : Nm → List Nm) (ord : List Nm) (r : G.Env) : G.Env := some (.sh (histD h)) :: some (.sh (blD h bl)) :: some (.sh (blD h cl)) :: some (.sh (.tup (ord.map nameD))) :: r
theorem rd_law_due : Rd n_law_due 4 sp_law_due d_law_due := by
  rintro ds W Q Qx _ ⟨h, bl, cl, ord, rfl, hg, hp, hc, ho, hq⟩
  show d_law_due _ (E4 h bl cl ord [none, none, none, none, none, none, none, none, none, none]) W
  unfold d_law_due
  have few := names_few hg
  have lo := ord_len ho
  refine nxs ?_
  refine seq_gen (fun ρ W' => W' = W ∧ ∃ x5 : Option D, ρ = E4 h bl cl ord [some (.on (plRow ord ord)), x5.map Sl.sh, none, none, none, none, none, none, none, none]) (fun ρ W' hI => ?_) (fun N hN => ?places)
  case places =>
    refine dFor_of (rng 0 ord.length) (fun i ρ W' => W' = W ∧ ∃ x5 : Option D, ρ = E4 h bl cl ord [some (.on (plRow ord (ord.take i))), x5.map Sl.sh, none, none, none, none, none, none, none, none]) (fun P hP => ?_) ⟨rfl, none, rfl⟩ (fun i d ρ W' hd hI => ?_) (fun ρ W' hI => ?_)
    · show -(2 ^ 62) ≤ _ ∧ _ < 2 ^ 62 ∧ P (rng 0 _) _ _
      rw [List.length_map]
      refine ⟨by omega, by omega, ?_⟩
      rw [Int.toNat_natCast]; exact hP
    · obtain ⟨rfl, x5, rfl⟩ := hI
      obtain ⟨hi, rfl⟩ := rng_get hd
      have hm : ord[i]? = some ord[i] := List.getElem?_eq_getElem hi
      generalize ord[i] = m at hm
      have hna := not_ahead ho.nd hm
      have e0 : (0 : Int) + (i : Int) = (i : Int) := by omega
      rw [e0]
      refine ⟨⟨_, rfl⟩, nameD m, atI_of (by rw [List.getElem?_map, hm]; rfl), nk_name m, by rw [List.length_map, List.length_take]; show _ < 16777216; omega, fun k z e => (old_key hna e).elim, fun _ => ⟨rfl, some (.int (i : Nat)), ?_⟩⟩
      have e1 : plRow ord (ord.take (i + 1)) = plRow ord (ord.take i) ++ [(nameD m, .int (i : Nat))] := by
        rw [take_snoc hm]
        unfold plRow
        rw [List.map_append]
        show _ ++ [(nameD m, D.int (pos ord m : Nat))] = _
        rw [pos_of ho.nd hm]
      rw [e1]; rfl
    · obtain ⟨rfl, x5, rfl⟩ := hI
      rw [rng_length, List.take_length]
      exact hN _ _ ⟨rfl, x5, rfl⟩
  obtain ⟨rfl, x5, rfl⟩ := hI
  refine dFrzN_of (kvs := plRow ord ord) rfl ?_
  rw [plRow_fst, plRow_snd ho.nd]
  show dSeq _ _ _ (E4 h bl cl ord [some (.sh (placesD ord)), x5.map Sl.sh, none, none, none, none, none, none, none, none]) W'
  refine ⟨sz 0 (by decide), nxg (F := dSeq _ _) (E4 h bl cl ord [some (.sh (placesD ord)), x5.map Sl.sh, some (.ol []), none, none, none, none, none, none, none]) ?_⟩
  have blo : ∀ n ∈ ord, ∀ m ∈ bl n, m ∈ ord := fun n hn m hm => (ho.mem m).mpr (pred_mem hg.src ((ho.mem n).mp hn) ((hp.mem n ((ho.mem n).mp hn) m).mp hm))
  refine seq_gen (fun ρ W2 => W2 = W' ∧ ∃ (L : List (Nm × Nm)) (x7 x8 : Option D), (∀ p, p ∈ L ↔ Turned h ord p) ∧ ρ = E4 h bl cl ord [some (.sh (placesD ord)), x5.map Sl.sh, some (.ol (L.map LV.pairD)), x7.map Sl.sh, x8.map Sl.sh, none, none, none, none, none]) (fun ρ W2 hI => ?_) (fun N hN => ?turned)
  case turned =>
    refine dFor_of (ord.map nameD) (fun i ρ W2 => W2 = W' ∧ ∃ (L : List (Nm × Nm)) (x7 x8 : Option D), (∀ p, p ∈ L ↔ p.2 ∈ ord.take i ∧ Pred h p.2 p.1 ∧ pos ord p.2 < pos ord p.1) ∧ L.length ≤ 288 * i ∧ ρ = E4 h bl cl ord [some (.sh (placesD ord)), x5.map Sl.sh, some (.ol (L.map LV.pairD)), x7.map Sl.sh, x8.map Sl.sh, none, none, none, none, none]) (fun P hP => hP) ⟨rfl, [], none, none, fun p => by simp, by simp, rfl⟩ (fun i d ρ W2 hd hI => ?_) (fun ρ W2 hI => ?_)
    · obtain ⟨rfl, L, x7, x8, hL, hlen, rfl⟩ := hI
      rw [List.getElem?_map] at hd
      obtain ⟨x, hx, rfl⟩ := Option.map_eq_some_iff.mp hd
      have hxo := List.mem_of_getElem? hx
      have hxN := (ho.mem x).mp hxo
      have hi := (List.getElem?_eq_some_iff.mp hx).1
      have lb := pl_len hg hp hxN
      show dFor _ _ _ _ (E4 h bl cl ord [some (.sh (placesD ord)), x5.map Sl.sh, some (.ol (L.map LV.pairD)), some (.sh (nameD x)), x8.map Sl.sh, none, none, none, none, none]) W2
      refine dFor_of ((bl x).map nameD) (fun j ρ W3 => W3 = W2 ∧ ∃ (L : List (Nm × Nm)) (x8 : Option D), (∀ p, p ∈ L ↔ (p.2 ∈ ord.take i ∧ Pred h p.2 p.1 ∧ pos ord p.2 < pos ord p.1) ∨ (p.2 = x ∧ p.1 ∈ (bl x).take j ∧ pos ord x < pos ord p.1)) ∧ L.length ≤ 288 * i + j ∧ ρ = E4 h bl cl ord [some (.sh (placesD ord)), x5.map Sl.sh, some (.ol (L.map LV.pairD)), some (.sh (nameD x)), x8.map Sl.sh, none, none, none, none, none]) (fun P hP => tab_get hxN (f := fun n => .lst ((bl n).map nameD)) hP) ⟨rfl, L, x8, fun p => by rw [hL]; simp, by omega, rfl⟩ (fun j d ρ W3 hd hI => ?_) (fun ρ W3 hI => ?_)
      · obtain ⟨rfl, L, x8, hL, hlen, rfl⟩ := hI
        rw [List.getElem?_map] at hd
        obtain ⟨y, hy, rfl⟩ := Option.map_eq_some_iff.mp hd
        have hyo := blo x hxo y (List.mem_of_getElem? hy)
        have hj := (List.getElem?_eq_some_iff.mp hy).1
        show dIfS _ _ _ _ (E4 h bl cl ord [some (.sh (placesD ord)), x5.map Sl.sh, some (.ol (L.map LV.pairD)), some (.sh (nameD x)), some (.sh (nameD y)), none, none, none, none, none]) W3
        refine pos_get' hyo (pos_get' hxo ?_)
        show (if decide (((pos ord y : Nat) : Int) > (pos ord x : Nat)) = true then _ else _)
        by_cases hlt : pos ord x < pos ord y
        · rw [decide_eq_true (by omega)]
          refine ite_t ⟨⟨_, rfl⟩, sz 2 (by decide), by rw [List.length_map]; show _ < 16777216; omega, rfl, L ++ [(y, x)], some (nameD y), fun p => ?_, by rw [List.length_append, List.length_singleton]; omega, ?_⟩
          · rw [List.mem_append, hL, List.mem_singleton, take_snoc hy, List.mem_append, List.mem_singleton]
            constructor
            · rintro ((a | a) | a)
              · exact .inl a
              · exact .inr ⟨a.1, .inl a.2.1, a.2.2⟩
              · subst a; exact .inr ⟨rfl, .inr rfl, hlt⟩
            · rintro (a | ⟨a, b | b, c⟩)
              · exact .inl (.inl a)
              · exact .inl (.inr ⟨a, b, c⟩)
              · exact .inr (Prod.ext b a)
          · rw [List.map_append]; rfl
        · rw [decide_eq_false (by omega)]
          refine ite_f ⟨rfl, L, some (nameD y), fun p => ?_, by omega, rfl⟩
          rw [hL, take_snoc hy, List.mem_append, List.mem_singleton]
          constructor
          · rintro (a | a)
            · exact .inl a
            · exact .inr ⟨a.1, .inl a.2.1, a.2.2⟩
          · rintro (a | ⟨a, b | b, c⟩)
            · exact .inl a
            · exact .inr ⟨a, b, c⟩
            · rw [b] at c; exact absurd c hlt
      · obtain ⟨rfl, L, x8, hL, hlen, rfl⟩ := hI
        rw [List.length_map] at hlen hL
        rw [List.take_length] at hL
        refine ⟨rfl, L, some (nameD x), x8, fun p => ?_, by omega, rfl⟩
        rw [hL, take_snoc hx, List.mem_append, List.mem_singleton]
        constructor
        · rintro (a | ⟨a, b, c⟩)
          · exact ⟨.inl a.1, a.2⟩
          · refine ⟨.inr a, ?_, by rw [a]; exact c⟩
            rw [a]; exact (hp.mem x hxN _).mp b
        · rintro ⟨a | a, b, c⟩
          · exact .inl ⟨a, b, c⟩
          · rw [a] at b c
            exact .inr ⟨a, (hp.mem x hxN _).mpr b, c⟩
    · obtain ⟨rfl, L, x7, x8, hL, hlen, rfl⟩ := hI
      rw [List.length_map, List.take_length] at hL
      refine hN _ _ ⟨rfl, L, x7, x8, fun p => ?_, rfl⟩
      rw [hL, ho.mem]
      exact ⟨fun z => ⟨z.1, z.2.1, z.2.2⟩, fun z => ⟨z.mem, z.pred, z.pos⟩⟩
  obtain ⟨rfl, L, x7, x8, hL, rfl⟩ := hI
  refine dFrz_of (ds := L.map LV.pairD) rfl ?_
  show dSeq _ _ _ (E4 h bl cl ord [some (.sh (placesD ord)), x5.map Sl.sh, some (.sh (.lst (L.map LV.pairD))), x7.map Sl.sh, x8.map Sl.sh, none, none, none, none, none]) W2
  cases L with
  | cons p L =>
    have : decide (((((p :: L).map LV.pairD).length : Nat) : Int) > 0) = true := decide_eq_true (by rw [List.length_map, List.length_cons]; omega)
    show (if decide (((((p :: L).map LV.pairD).length : Nat) : Int) > 0) = true then _ else _)
    rw [this]
    exact ite_t ⟨sz 1 (by decide), by simp, picked_least hL fun q hq' => ⟨sz 3 (by decide), hq _ (.inl ⟨q, hq', rfl⟩)⟩⟩
  | nil =>
  have none' : ∀ p, ¬ Turned h ord p := fun p hp => absurd ((hL p).mpr hp) List.not_mem_nil
  refine nxs ?_
  refine seq_gen (fun ρ W' => W' = W2 ∧ unseen h ord = none) (fun ρ W' hI => ?_) (fun N hN => ?seen)
  · obtain ⟨rfl, hf⟩ := hI
    exact hq _ (.inr ⟨none', by rw [hf]; rfl⟩)
  refine dFor_of ((namesH h).map nameD) (fun i ρ W' => W' = W2 ∧ firstI (fun _ n => unsN h ord n) 0 ((namesH h).take i) = none ∧ ∃ x9 x10 x11 x12 x13 : Option D, ρ = E4 h bl cl ord [some (.sh (placesD ord)), x5.map Sl.sh, some (.sh (.lst [])), x7.map Sl.sh, x8.map Sl.sh, x9.map Sl.sh, x10.map Sl.sh, x11.map Sl.sh, x12.map Sl.sh, x13.map Sl.sh]) (fun P hP => ⟨rfl, h, rfl, hg.ok, hg.val, hP⟩) ⟨rfl, rfl, none, none, none, none, none, rfl⟩ (fun i d ρ W' hd hI => ?turn) (fun ρ W' hI => ?done)
  case done =>
    obtain ⟨rfl, hf, _⟩ := hI
    rw [List.length_map, List.take_length] at hf
    exact hN _ _ ⟨rfl, hf⟩
  obtain ⟨rfl, hf, x9, x10, x11, x12, x13, rfl⟩ := hI
  rw [List.getElem?_map] at hd
  obtain ⟨n, hn, rfl⟩ := Option.map_eq_some_iff.mp hd
  obtain ⟨t, ht⟩ := names_iff.mp (List.mem_of_getElem? hn)
  obtain ⟨l1, l2, l3⟩ := tx_rs hg ht
  obtain ⟨sa, a1, a2⟩ := hist_at ht
  have a3 : (sa.map txD)[n.2]? = some (txD t) := by rw [List.getElem?_map, a2]; rfl
  have es : unsN h ord n = firstI (fun k r => unsR h ord n t k r) 0 t.rs := by unfold unsN; rw [ht]
  refine ⟨_, atI_of (i := 0) rfl, _, atI_of (hist_get a1), _, atI_of (i := 1) rfl, _, atI_of a3, _, atI_of (i := 1) rfl, ?_⟩
  show dFor _ _ _ _ (E4 h bl cl ord [some (.sh (placesD ord)), x5.map Sl.sh, some (.sh (.lst [])), x7.map Sl.sh, x8.map Sl.sh, some (.sh (nameD n)), some (.sh (.tup (t.rs.map readD))), x11.map Sl.sh, x12.map Sl.sh, x13.map Sl.sh]) W'
  refine dFor_of (rng 0 t.rs.length) (fun k ρ W2 => W2 = W' ∧ firstI (fun k r => unsR h ord n t k r) 0 (t.rs.take k) = none ∧ ∃ x11 x12 x13 : Option D, ρ = E4 h bl cl ord [some (.sh (placesD ord)), x5.map Sl.sh, some (.sh (.lst [])), x7.map Sl.sh, x8.map Sl.sh, some (.sh (nameD n)), some (.sh (.tup (t.rs.map readD))), x11.map Sl.sh, x12.map Sl.sh, x13.map Sl.sh]) (fun P hP => ?_) ⟨rfl, rfl, x11, x12, x13, rfl⟩ (fun k d ρ W2 hd hI => ?turn2) (fun ρ W2 hI => ?done2)
  · show -(2 ^ 62) ≤ _ ∧ _ < 2 ^ 62 ∧ P (rng 0 _) _ _
    rw [List.length_map]
    refine ⟨by omega, by omega, ?_⟩
    rw [Int.toNat_natCast]; exact hP
  case done2 =>
    obtain ⟨rfl, hf2, x11, x12, x13, rfl⟩ := hI
    rw [rng_length, List.take_length] at hf2
    refine ⟨rfl, ?_, some _, some _, x11, x12, x13, rfl⟩
    rw [firstI_snoc (fun _ n => unsN h ord n) hn hf]
    exact es.trans hf2
  obtain ⟨rfl, hf2, x11, x12, x13, rfl⟩ := hI
  obtain ⟨hk, rfl⟩ := rng_get hd
  have hr : t.rs[k]? = some t.rs[k] := List.getElem?_eq_getElem hk
  generalize t.rs[k] = r at hr
  have hrd : (t.rs.map readD)[k]? = some (readD r) := by rw [List.getElem?_map, hr]; rfl
  rw [show (0 : Int) + (k : Int) = (k : Int) by omega]
  refine ⟨_, atI_of hrd, _, atI_of (i := 1) rfl, ?_⟩
  show dFor _ _ _ _ (E4 h bl cl ord [some (.sh (placesD ord)), x5.map Sl.sh, some (.sh (.lst [])), x7.map Sl.sh, x8.map Sl.sh, some (.sh (nameD n)), some (.sh (.tup (t.rs.map readD))), some (.sh (.int (k : Nat))), some (.sh (srcD r.2)), x13.map Sl.sh]) W2
  have hit : ∀ m, unsR h ord n t k r = some (n, k, m) → Q (.tup [.str "seen", nameD n, .int (k : Nat), nameD m]) W2 := fun m hm => by
    have h1 := firstI_hit (fun k r => unsR h ord n t k r) hr hf2 hm
    have h2 : unseen h ord = some (n, k, m) := firstI_hit (fun _ n => unsN h ord n) hn hf (es.trans h1)
    exact hq _ (.inr ⟨none', by rw [h2]; rfl⟩)
  refine dFor_of ((namesH h).map nameD) (fun j ρ W3 => W3 = W2 ∧ firstI (fun _ m => uF h ord n t k r m) 0 ((namesH h).take j) = none ∧ ∃ x13 : Option D, ρ = E4 h bl cl ord [some (.sh (placesD ord)), x5.map Sl.sh, some (.sh (.lst [])), x7.map Sl.sh, x8.map Sl.sh, some (.sh (nameD n)), some (.sh (.tup (t.rs.map readD))), some (.sh (.int (k : Nat))), some (.sh (srcD r.2)), x13.map Sl.sh]) (fun P hP => ⟨rfl, h, rfl, hg.ok, hg.val, hP⟩) ⟨rfl, rfl, x13, rfl⟩ (fun j d ρ W3 hd hI => ?turn3) (fun ρ W3 hI => ?done3)
  case done3 =>
    obtain ⟨rfl, hf3, x13, rfl⟩ := hI
    rw [List.length_map, List.take_length] at hf3
    refine ⟨rfl, ?_, some _, some _, x13, rfl⟩
    rw [firstI_snoc (fun k r => unsR h ord n t k r) hr hf2]
    exact hf3
  obtain ⟨rfl, hf3, x13, rfl⟩ := hI
  rw [List.getElem?_map] at hd
  obtain ⟨m, hm, rfl⟩ := Option.map_eq_some_iff.mp hd
  have hmN := List.mem_of_getElem? hm
  have hmo := (ho.mem m).mpr hmN
  have yes : Hit h ord n t k r m → Q (.tup [.str "seen", nameD n, .int (k : Nat), nameD m]) W3 := fun hh =>
    hit m (firstI_hit (fun _ m => uF h ord n t k r m) hm hf3 (uF_yes hh))
  have no : ¬ Hit h ord n t k r m → firstI (fun _ m => uF h ord n t k r m) 0 ((namesH h).take (j + 1)) = none := fun hh => by
    rw [firstI_snoc (fun _ m => uF h ord n t k r m) hm hf3]; exact uF_no hh
  show dIfS _ _ _ _ (E4 h bl cl ord [some (.sh (placesD ord)), x5.map Sl.sh, some (.sh (.lst [])), x7.map Sl.sh, x8.map Sl.sh, some (.sh (nameD n)), some (.sh (.tup (t.rs.map readD))), some (.sh (.int (k : Nat))), some (.sh (srcD r.2)), some (.sh (nameD m))]) W3
  cases es2 : r.2 with
  | none =>
    refine ⟨rfl, h, bl, cl, ord, n, m, t, r, k, rfl, hg, hp, hc, ho, ht, hr, hmN, fun b hb => ?_⟩
    cases b with
    | true => exact ⟨sz 4 (by decide), yes ⟨hb.mp rfl, .inl es2⟩⟩
    | false => exact ⟨rfl, no (fun hh => (nomatch (hb.mpr hh.1))), some _, rfl⟩
  | some s =>
    have hs : s ∈ ord := (ho.mem s).mpr (src_mem hg.src ht (key := r.1) (k := k) (by rw [hr, ← es2]))
    refine pos_get' hmo (pos_get' hs ?_)
    show (if decide (((pos ord m : Nat) : Int) ≥ (pos ord s : Nat)) = true then _ else _)
    by_cases hlt : pos ord s ≤ pos ord m
    · rw [decide_eq_true (by omega)]
      refine ite_t ⟨rfl, h, bl, cl, ord, n, m, t, r, k, rfl, hg, hp, hc, ho, ht, hr, hmN, fun b hb => ?_⟩
      cases b with
      | true =>
        have mu := hb.mp rfl
        refine ⟨sz 4 (by decide), yes ⟨mu, .inr ⟨s, es2, ?_⟩⟩⟩
        rcases Nat.lt_or_eq_of_le hlt with z | z
        · exact z
        · exact absurd (by rw [es2, pos_inj hs hmo z]) mu.notS
      | false => exact ⟨rfl, no (fun hh => (nomatch (hb.mpr hh.1))), some _, rfl⟩
    · rw [decide_eq_false (by omega)]
      refine ite_f ⟨rfl, no fun hh => ?_, some _, rfl⟩
      rcases hh.2 with e | ⟨s', e, l⟩
      · rw [es2] at e; cases e
      · rw [es2] at e; cases e; omega
end K54
namespace K54
open PySem PySem.Spec L2 G TL C LV
def ordD (o : List Nm) : D := .tup (o.map nameD)
structure Part (h : Hist) (k : Nat) (o : List Nm) : Prop where
  nd : o.Nodup
  sub : ∀ x ∈ o, x ∈ namesH h
  len : o.length = k
theorem rd_law_all_orders : Rd n_law_all_orders 1 sp_law_all_orders d_law_all_orders := by
  rintro ds W Q Qx _ ⟨h, rfl, few, hq⟩
  show d_law_all_orders _ [some (.sh (.lst ((namesH h).map nameD))), none, none, none, none, none] W
  unfold d_law_all_orders
  refine ⟨sz 0 (by decide), sz 1 (by decide), ?_⟩
  refine nxg (F := dSeq _ _) [some (.sh (.lst ((namesH h).map nameD))), some (.sh (.lst [ordD []])), none, none, none, none] ?_
  refine seq_gen (fun ρ W' => W' = W ∧ ∃ (ords : List (List Nm)) (x2 x3 x4 x5 : Option D), (∀ o ∈ ords, Part h (namesH h).length o) ∧ ords.length ≤ 1000 ∧ ρ = [some (.sh (.lst ((namesH h).map nameD))), some (.sh (.lst (ords.map ordD))), x2.map Sl.sh, x3.map Sl.sh, x4.map Sl.sh, x5.map Sl.sh]) (fun ρ W' hI => ?_) (fun N hN => ?_)
  · obtain ⟨rfl, ords, x2, x3, x4, x5, ho, hl, rfl⟩ := hI
    refine hq ords (fun o hh => ?_) hl
    have p := ho o hh
    exact ⟨p.nd, fun m => ⟨p.sub m, full_of p.nd p.sub (by rw [p.len]; exact Nat.le_refl _) m⟩⟩
  refine dFor_of (rng 0 (namesH h).length) (fun i ρ W' => W' = W ∧ ∃ (ords : List (List Nm)) (x2 x3 x4 x5 : Option D), (∀ o ∈ ords, Part h i o) ∧ ords.length ≤ 4 ^ i ∧ ρ = [some (.sh (.lst ((namesH h).map nameD))), some (.sh (.lst (ords.map ordD))), x2.map Sl.sh, x3.map Sl.sh, x4.map Sl.sh, x5.map Sl.sh]) (fun P hP => ?_) ⟨rfl, [[]], none, none, none, none, fun o ho => by rw [List.mem_singleton] at ho; subst ho; exact ⟨List.nodup_nil, fun x hx => absurd hx List.not_mem_nil, rfl⟩, by decide, rfl⟩ (fun i d ρ W' hd hI => ?turn) (fun ρ W' hI => ?done)
  · show -(2 ^ 62) ≤ _ ∧ _ < 2 ^ 62 ∧ P (rng 0 _) _ _
    rw [List.length_map]
    refine ⟨by omega, by omega, ?_⟩
    rw [Int.toNat_natCast]; exact hP
  case done =>
    obtain ⟨rfl, ords, x2, x3, x4, x5, ho, hl, rfl⟩ := hI
    rw [rng_length] at ho hl
    have : (4 : Nat) ^ (namesH h).length ≤ 4 ^ 4 := Nat.pow_le_pow_right (by decide) few
    exact hN _ _ ⟨rfl, ords, x2, x3, x4, x5, ho, by omega, rfl⟩
  obtain ⟨rfl, ords, x2, x3, x4, x5, ho, hl, rfl⟩ := hI
  obtain ⟨hi, rfl⟩ := rng_get hd
  have h4 : (4 : Nat) ^ i ≤ 4 ^ 3 := Nat.pow_le_pow_right (by decide) (by omega)
  have hp1 : (4 : Nat) ^ (i + 1) = 4 ^ i * 4 := Nat.pow_succ _ _
  refine ⟨sz 0 (by decide), nxg (F := dSeq _ _) [some (.sh (.lst ((namesH h).map nameD))), some (.sh (.lst (ords.map ordD))), some (.sh (.int (0 + (i : Int)))), some (.ol []), x4.map Sl.sh, x5.map Sl.sh] ?_⟩
  refine seq_gen (fun ρ W2 => W2 = W' ∧ ∃ (L : List (List Nm)) (x4 x5 : Option D), (∀ o ∈ L, Part h (i + 1) o) ∧ L.length ≤ 4 ^ (i + 1) ∧ ρ = [some (.sh (.lst ((namesH h).map nameD))), some (.sh (.lst (ords.map ordD))), some (.sh (.int (0 + (i : Int)))), some (.ol (L.map ordD)), x4.map Sl.sh, x5.map Sl.sh]) (fun ρ W2 hI => ?_) (fun N2 hN2 => ?_)
  · obtain ⟨rfl, L, x4, x5, hL, hl, rfl⟩ := hI
    refine dFrz_of (ds := L.map ordD) rfl ?_
    exact ⟨rfl, L, some _, some _, x4, x5, hL, hl, rfl⟩
  refine dFor_of (ords.map ordD) (fun j ρ W2 => W2 = W' ∧ ∃ (L : List (List Nm)) (x4 x5 : Option D), (∀ o ∈ L, Part h (i + 1) o) ∧ L.length ≤ j * 4 ∧ ρ = [some (.sh (.lst ((namesH h).map nameD))), some (.sh (.lst (ords.map ordD))), some (.sh (.int (0 + (i : Int)))), some (.ol (L.map ordD)), x4.map Sl.sh, x5.map Sl.sh]) (fun P hP => hP) ⟨rfl, [], x4, x5, fun o ho => absurd ho List.not_mem_nil, by simp, rfl⟩ (fun j d ρ W2 hd hI => ?turn2) (fun ρ W2 hI => ?done2)
  case done2 =>
    obtain ⟨rfl, L, x4, x5, hL, hl2, rfl⟩ := hI
    rw [List.length_map] at hl2
    exact hN2 _ _ ⟨rfl, L, x4, x5, hL, by omega, rfl⟩
  obtain ⟨rfl, L, x4, x5, hL, hl2, rfl⟩ := hI
  have hj := (List.getElem?_eq_some_iff.mp hd).1
  rw [List.length_map] at hj
  rw [List.getElem?_map] at hd
  obtain ⟨o, hoj, rfl⟩ := Option.map_eq_some_iff.mp hd
  have po := ho o (List.mem_of_getElem? hoj)
  show dFor _ _ _ _ [some (.sh (.lst ((namesH h).map nameD))), some (.sh (.lst (ords.map ordD))), some (.sh (.int (0 + (i : Int)))), some (.ol (L.map ordD)), some (.sh (ordD o)), x5.map Sl.sh] W2
  refine dFor_of ((namesH h).map nameD) (fun k ρ W3 => W3 = W2 ∧ ∃ (L : List (List Nm)) (x5 : Option D), (∀ o ∈ L, Part h (i + 1) o) ∧ L.length ≤ j * 4 + k ∧ ρ = [some (.sh (.lst ((namesH h).map nameD))), some (.sh (.lst (ords.map ordD))), some (.sh (.int (0 + (i : Int)))), some (.ol (L.map ordD)), some (.sh (ordD o)), x5.map Sl.sh]) (fun P hP => hP) ⟨rfl, L, x5, hL, by omega, rfl⟩ (fun k d ρ W3 hd hI => ?turn3) (fun ρ W3 hI => ?done3)
  case done3 =>
    obtain ⟨rfl, L, x5, hL, hl3, rfl⟩ := hI
    rw [List.length_map] at hl3
    exact ⟨rfl, L, some _, x5, hL, by omega, rfl⟩
  obtain ⟨rfl, L, x5, hL, hl3, rfl⟩ := hI
  have hk := (List.getElem?_eq_some_iff.mp hd).1
  rw [List.length_map] at hk
  rw [List.getElem?_map] at hd
  obtain ⟨x, hx, rfl⟩ := Option.map_eq_some_iff.mp hd
  refine in_names (neg := true) (m := x) (l := o) (.inl rfl) ?_
  rw [if_pos rfl]
  by_cases hs : x ∈ o
  · rw [decide_eq_true hs]
    exact ⟨rfl, L, some (nameD x), hL, by omega, rfl⟩
  · rw [decide_eq_false hs]
    refine ⟨⟨_, rfl⟩, sz 1 (by decide), ?_⟩
    have pl := po.len
    refine ⟨sz _ (by rw [List.length_map, List.length_singleton]; omega), by rw [List.length_map]; show _ < 16777216; omega, rfl, L ++ [o ++ [x]], some (nameD x), fun o' ho' => ?_, by rw [List.length_append, List.length_singleton]; omega, ?_⟩
    · rcases List.mem_append.mp ho' with ho' | ho'
      · exact hL o' ho'
      · rw [List.mem_singleton] at ho'
        subst ho'
        refine ⟨?_, fun y hy => ?_, by rw [List.length_append, List.length_singleton, pl]⟩
        · rw [List.nodup_append]
          exact ⟨po.nd, by simp, fun a ha b hb => by rw [List.mem_singleton] at hb; subst hb; exact fun e => hs (e ▸ ha)⟩
        · rcases List.mem_append.mp hy with hy | hy
          · exact po.sub y hy
          · rw [List.mem_singleton] at hy; subst hy; exact List.mem_of_getElem? hx
    · rw [List.map_append]
      have : ordD (o ++ [x]) = .tup (o.map nameD ++ [nameD x]) := by unfold ordD; rw [List.map_append]; rfl
      show _ = [_, _, _, some (Sl.ol (L.map ordD ++ [ordD (o ++ [x])])), _, _]
      rw [this]; rfl
end K54
namespace K54
open PySem PySem.Spec L2 G TL C LV
theorem Els.trans {p g : Addr} {W W' W2 : Wd} (a : Els p g W W') (b : Els p g W' W2) : Els p g W W2 := fun q h1 h2 => (b q h1 h2).trans (a q h1 h2)
structure Drw (h : Hist) (o L : List Nm) : Prop where
  no : o.Nodup
  nl : L.Nodup
  mem : ∀ x, x ∈ namesH h ↔ x ∈ o ∨ x ∈ L
  dis : ∀ x ∈ o, x ∉ L
theorem rd_law_drawn_order : Rd n_law_drawn_order 3 sp_law_drawn_order d_law_drawn_order := by
  rintro ds W Q Qx _ ⟨p, g, n, h, bl, b, rfl, hg, hp, hs, hq⟩
  show d_law_drawn_order _ [some (.sh (.ref p)), some (.sh (blD h bl)), some (.sh (.bl b)), none, none, none, none, none, none] W
  unfold d_law_drawn_order
  have few := names_few hg
  refine nxg (F := dSeq _ _) [some (.sh (.ref p)), some (.sh (blD h bl)), some (.sh (.bl b)), some (.sh (.lst ((namesH h).map nameD))), none, none, none, none, none] ?_
  refine ⟨sz 0 (by decide), ?_⟩
  refine nxg (F := dSeq _ _) [some (.sh (.ref p)), some (.sh (blD h bl)), some (.sh (.bl b)), some (.sh (.lst ((namesH h).map nameD))), some (.sh (.tup [])), none, none, none, none] ?_
  refine seq_gen (fun ρ W' => Els p g W W' ∧ StOk W' p g n ∧ ∃ (o : List Nm) (x5 x6 x7 : Option D), Drw h o [] ∧ ρ = [some (.sh (.ref p)), some (.sh (blD h bl)), some (.sh (.bl b)), some (.sh (.lst [])), some (.sh (.tup (o.map nameD))), x5.map Sl.sh, x6.map Sl.sh, x7.map Sl.sh, none]) (fun ρ W' hI => ?_) (fun N hN => ?_)
  · obtain ⟨he, hs, o, x5, x6, x7, hd, rfl⟩ := hI
    exact hq o W' ⟨hd.no, fun m => by rw [hd.mem]; simp⟩ hs he
  refine dWhile_of (fun m ρ W' => Els p g W W' ∧ ∃ (o L : List Nm) (x5 x6 x7 : Option D), Drw h o L ∧ m = L.length ∧ L.length ≤ 288 ∧ StOk W' p g (n + L.length) ∧ ρ = [some (.sh (.ref p)), some (.sh (blD h bl)), some (.sh (.bl b)), some (.sh (.lst (L.map nameD))), some (.sh (.tup (o.map nameD))), x5.map Sl.sh, x6.map Sl.sh, x7.map Sl.sh, none]) _ ⟨fun _ _ _ => rfl, [], namesH h, none, none, none, ⟨List.nodup_nil, names_nd h, fun x => by simp, fun x hx => absurd hx List.not_mem_nil⟩, rfl, few, hs.less (by omega), rfl⟩ (fun m ρ W' hI => ?_)
  obtain ⟨he, o, L, x5, x6, x7, hd, rfl, hL, hs, rfl⟩ := hI
  show (if decide ((((L.map nameD).length : Nat) : Int) > 0) = true then _ else _)
  rw [List.length_map]
  by_cases h0 : L = []
  · subst h0
    rw [decide_eq_false (by simp)]
    exact ite_f (hN _ _ ⟨he, hs, o, x5, x6, x7, hd, rfl⟩)
  have hpos := List.length_pos_iff.mpr h0
  rw [decide_eq_true (by omega)]
  refine ite_t ?_
  refine nxg (F := dSeq _ _) [some (.sh (.ref p)), some (.sh (blD h bl)), some (.sh (.bl b)), some (.sh (.lst (L.map nameD))), some (.sh (.tup (o.map nameD))), some (.sh (.lst (L.map nameD))), x6.map Sl.sh, x7.map Sl.sh, none] ?_
  refine seq_gen (fun ρ W2 => W2 = W' ∧ ∃ F : List Nm, F ≠ [] ∧ (∀ x ∈ F, x ∈ L) ∧ F.length ≤ 288 ∧ ρ = [some (.sh (.ref p)), some (.sh (blD h bl)), some (.sh (.bl b)), some (.sh (.lst (L.map nameD))), some (.sh (.tup (o.map nameD))), some (.sh (.lst (F.map nameD))), x6.map Sl.sh, x7.map Sl.sh, none]) (fun ρ W2 hI => ?_) (fun N2 hN2 => ?_)
  · obtain ⟨rfl, F, hF, hFL, hFl, rfl⟩ := hI
    have hFp := List.length_pos_iff.mpr hF
    refine ⟨rfl, p, g, ((F.map nameD).length : Nat), n + (L.length - 1), rfl, by rw [List.length_map]; omega, by rw [List.length_map]; omega, hs.less (by omega), fun r W3 r0 r1 hs3 he3 => ?_⟩
    rw [List.length_map] at r1
    obtain ⟨j, rfl⟩ : ∃ j : Nat, r = (j : Int) := ⟨r.toNat, by omega⟩
    have hz : F[j]? = some (F[j]'(by omega)) := List.getElem?_eq_getElem (by omega)
    generalize F[j]'(by omega) = z at hz
    have hzL := hFL z (List.mem_of_getElem? hz)
    refine ⟨nameD z, atI_of (i := j) (by rw [List.getElem?_map, hz]; rfl), ?_⟩
    refine nxg (F := dSeq _ _) [some (.sh (.ref p)), some (.sh (blD h bl)), some (.sh (.bl b)), some (.sh (.lst (L.map nameD))), some (.sh (.tup (o.map nameD))), some (.sh (.lst (F.map nameD))), some (.sh (nameD z)), x7.map Sl.sh, none] ?_
    refine dLc_filtF L nameD nameD (fun x => !decide (x = z)) (noOwn1 (by cases x7 <;> simp)) (sz _ (by omega)) (fun P hP => hP) (fun x hx P hP => dNe_name hP) (fun x hx _ P hP => hP) ?_
    have hlt : (L.filter fun x => !decide (x = z)).length < L.length := by
      rw [List.length_filter_lt_length_iff_exists]
      exact ⟨z, hzL, by simp⟩
    refine nxg (F := dAsg _ _) [some (.sh (.ref p)), some (.sh (blD h bl)), some (.sh (.bl b)), some (.sh (.lst ((L.filter fun x => !decide (x = z)).map nameD))), some (.sh (.tup (o.map nameD))), some (.sh (.lst (F.map nameD))), some (.sh (nameD z)), x7.map Sl.sh, none] ?_
    have ol : o.length ≤ 288 := Nat.le_trans (len_le hd.no fun x hx => (hd.mem x).mpr (.inl hx)) few
    refine ⟨sz 1 (by decide), sz _ (by rw [List.length_map, List.length_singleton]; omega), _, hlt, Els.trans he he3, o ++ [z], L.filter fun x => !decide (x = z), some (.lst (F.map nameD)), some (nameD z), x7, ⟨?_, hd.nl.filter _, fun x => ?_, fun x hx => ?_⟩, rfl, by omega, hs3.less (by omega), ?_⟩
    · rw [List.nodup_append]
      exact ⟨hd.no, by simp, fun a ha b hb => by rw [List.mem_singleton] at hb; subst hb; exact fun e => hd.dis a ha (e ▸ hzL)⟩
    · rw [hd.mem, List.mem_append, List.mem_singleton, List.mem_filter, Bool.not_eq_true', decide_eq_false_iff_not]
      constructor
      · rintro (a | a)
        · exact .inl (.inl a)
        · by_cases e : x = z
          · exact .inl (.inr e)
          · exact .inr ⟨a, e⟩
      · rintro ((a | a) | a)
        · exact .inl a
        · subst a; exact .inr hzL
        · exact .inr a.1
    · rw [List.mem_filter, Bool.not_eq_true', decide_eq_false_iff_not]
      rintro ⟨a, c⟩
      rcases List.mem_append.mp hx with k | k
      · exact hd.dis x k a
      · exact c (List.mem_singleton.mp k)
    · rw [List.map_append]; rfl
  cases b with
  | false => exact hN2 _ _ ⟨rfl, L, h0, fun x hx => hx, hL, rfl⟩
  | true =>
    have inL : ∀ x ∈ L, x ∈ namesH h := fun x hx => (hd.mem x).mpr (.inr hx)
    refine dLc_filtF L nameD nameD (fun x => (bl x).all fun y => !decide (y ∈ L)) (noOwn1 (by cases x6 <;> simp)) (sz _ (by omega)) (fun P hP => hP) (fun x hx P hP => ?_) (fun x hx _ P hP => hP) ?_
    · refine dLc_mapF (bl x) nameD (fun y => .bl (!decide (y ∈ L))) (noOwn1 (by simp)) (sz _ (by have := pl_len hg hp (inL x hx); omega)) (fun P hP => tab_get (inL x hx) (f := fun n => .lst ((bl n).map nameD)) hP) (fun y _ P hP => in_names (neg := true) (.inr rfl) hP) ?_
      refine ⟨_, bls_map _ _, ?_⟩
      rw [List.all_map]
      exact hP
    · have ll := List.length_filter_le (fun x => (bl x).all fun y => !decide (y ∈ L)) L
      refine nxg (F := dIfS _ _ _) [some (.sh (.ref p)), some (.sh (blD h bl)), some (.sh (.bl true)), some (.sh (.lst (L.map nameD))), some (.sh (.tup (o.map nameD))), some (.sh (.lst ((L.filter fun x => (bl x).all fun y => !decide (y ∈ L)).map nameD))), x6.map Sl.sh, x7.map Sl.sh, none] ?_
      refine dEq_int (ite_d (fun _ => ?_) fun e => ?_)
      · exact hN2 _ _ ⟨rfl, L, h0, fun x hx => hx, hL, rfl⟩
      · refine hN2 _ _ ⟨rfl, _, fun e2 => e ?_, fun x hx => (List.mem_filter.mp hx).1, by omega, rfl⟩
        rw [e2]; rfl
theorem not_name {h : Hist} {ds : List D} {x : D} (hx : x ∈ ds) (e : isNmD x = false) : NotOrd h (.tup ds) := .inr ⟨ds, rfl, .inl ⟨x, hx, e⟩⟩
theorem not_len {h : Hist} {ds : List D} (e : ds.length ≠ (namesH h).length) : NotOrd h (.tup ds) := .inr ⟨ds, rfl, .inr e⟩
theorem vok_names {l : List Nm} {x : List D} (hl : l.length ≤ 288) (hx : x.length ≤ 1) (hv : ∀ d ∈ x, vok d = true) : vok (.tup (l.map nameD ++ x)) = true := by
  refine vok_tup.mpr ⟨by rw [List.length_append, List.length_map]; omega, fun d hd => ?_⟩
  rcases List.mem_append.mp hd with hd | hd
  · obtain ⟨m, _, rfl⟩ := List.mem_map.mp hd; rfl
  · exact hv d hd
theorem cut_last (ds : List D) : cutD ds none (some (-1)) = ds.take (ds.length - 1) := by
  unfold cutD
  have e1 : HT.sIx ds.length 0 none = 0 := rfl
  have e2 : HT.sIx ds.length ds.length (some (-1)) = ds.length - 1 := by
    show (if (-1 : Int) < 0 then ((-1 : Int) + (ds.length : Int)).toNat else min ((-1 : Int).toNat) ds.length) = _
    rw [if_pos (by decide)]; omega
  rw [e1, e2, List.drop_zero, Nat.sub_zero]
theorem rd_law_not_orders : Rd n_law_not_orders 2 sp_law_not_orders d_law_not_orders := by
  rintro ds W Q Qx _ ⟨p, g, n, h, rfl, hg, hs, hq⟩
  show d_law_not_orders _ [some (.sh (.ref p)), some (.sh (.lst ((namesH h).map nameD))), none, none, none] W
  unfold d_law_not_orders
  have few := names_few hg
  have hpos := List.length_pos_iff.mpr (names_ne hg)
  refine ⟨rfl, p, g, (((namesH h).map nameD).length : Nat), n, rfl, by rw [List.length_map]; omega, by rw [List.length_map]; omega, hs, fun r W3 r0 r1 hs3 he3 => ?_⟩
  rw [List.length_map] at r1
  obtain ⟨j, rfl⟩ : ∃ j : Nat, r = (j : Int) := ⟨r.toNat, by omega⟩
  have hz : (namesH h)[j]? = some ((namesH h)[j]'(by omega)) := List.getElem?_eq_getElem (by omega)
  generalize (namesH h)[j]'(by omega) = z at hz
  have hzN := List.mem_of_getElem? hz
  refine ⟨nameD z, atI_of (i := j) (by rw [List.getElem?_map, hz]; rfl), ?_⟩
  refine nxg (F := dSeq _ _) [some (.sh (.ref p)), some (.sh (.lst ((namesH h).map nameD))), some (.sh (nameD z)), none, none] ?_
  have fl := List.length_filter_le (fun x => !decide (x = z)) (namesH h)
  have ecut : cutD ((namesH h).map nameD) none (some (-1)) = ((namesH h).take ((namesH h).length - 1)).map nameD := by
    rw [cut_last, List.length_map, List.map_take]
  have ok1 : NotOrd h (.tup (cutD ((namesH h).map nameD) none (some (-1)))) ∧ vok (.tup (cutD ((namesH h).map nameD) none (some (-1)))) = true := by
    rw [ecut]
    have := vok_names (l := (namesH h).take ((namesH h).length - 1)) (x := []) (by rw [List.length_take]; omega) (by simp) fun d hd => absurd hd List.not_mem_nil
    rw [List.append_nil] at this
    exact ⟨not_len (by rw [List.length_map, List.length_take]; omega), this⟩
  have ok2 : NotOrd h (.tup ((namesH h).map nameD ++ [nameD z])) ∧ vok (.tup ((namesH h).map nameD ++ [nameD z])) = true :=
    ⟨not_len (by rw [List.length_append, List.length_map, List.length_singleton]; omega), vok_names few (by simp) fun d hd => by rw [List.mem_singleton] at hd; subst hd; rfl⟩
  have ok3 : NotOrd h (.lst ((namesH h).map nameD)) ∧ vok (.lst ((namesH h).map nameD)) = true := ⟨.inl rfl, rfl⟩
  have ok4 : NotOrd h .non ∧ vok .non = true := ⟨.inl rfl, rfl⟩
  have ok5 : NotOrd h (.int 5) ∧ vok (.int 5) = true := ⟨.inl rfl, rfl⟩
  have ok6 : ∀ i : Int, NotOrd h (.tup ((namesH h).map nameD ++ [.tup [.int i, .int 30]])) ∧ vok (.tup ((namesH h).map nameD ++ [.tup [.int i, .int 30]])) = true := fun i =>
    ⟨not_len (by rw [List.length_append, List.length_map, List.length_singleton]; omega), vok_names few (by simp) fun d hd => by rw [List.mem_singleton] at hd; subst hd; rfl⟩
  have ok7 : NotOrd h (.tup (((namesH h).filter fun x => !decide (x = z)).map nameD ++ [.non])) ∧ vok (.tup (((namesH h).filter fun x => !decide (x = z)).map nameD ++ [.non])) = true :=
    ⟨not_name (x := .non) (by simp) rfl, vok_names (by omega) (by simp) fun d hd => by rw [List.mem_singleton] at hd; subst hd; rfl⟩
  have ok8 : NotOrd h (.tup ((namesH h).map fun m => .lst [.int (m.1 : Nat), .int (m.2 : Nat)])) ∧ vok (.tup ((namesH h).map fun m => .lst [.int (m.1 : Nat), .int (m.2 : Nat)])) = true := by
    refine ⟨not_name (x := .lst [.int (z.1 : Nat), .int (z.2 : Nat)]) (List.mem_map.mpr ⟨z, hzN, rfl⟩) rfl, vok_tup.mpr ⟨by rw [List.length_map]; omega, fun d hd => ?_⟩⟩
    obtain ⟨m, _, rfl⟩ := List.mem_map.mp hd; rfl
  have ok9 : ∀ (i : Int) (b : Bool), NotOrd h (.tup (((namesH h).filter fun x => !decide (x = z)).map nameD ++ [.tup [.int i, .bl b]])) ∧ vok (.tup (((namesH h).filter fun x => !decide (x = z)).map nameD ++ [.tup [.int i, .bl b]])) = true := fun i b =>
    ⟨not_name (x := .tup [.int i, .bl b]) (by simp) (by show (isFromD 0 (.int i) && false) = false; rw [Bool.and_false]), vok_names (by omega) (by simp) fun d hd => by rw [List.mem_singleton] at hd; subst hd; rfl⟩
  refine ⟨sz 1 (by decide), sz _ (by rw [List.length_map, List.length_singleton]; omega), sz 2 (by decide), sz 1 (by decide), sz _ (by rw [List.length_map, List.length_singleton]; omega), sz 6 (by decide), ?_⟩
  refine nxg (F := dSeq _ _) [some (.sh (.ref p)), some (.sh (.lst ((namesH h).map nameD))), some (.sh (nameD z)), some (.ol [.tup (cutD ((namesH h).map nameD) none (some (-1))), .tup ((namesH h).map nameD ++ [nameD z]), .lst ((namesH h).map nameD), .non, .int 5, .tup ((namesH h).map nameD ++ [.tup [.int (((namesH h).map nameD).length : Nat), .int 30]])]), none] ?_
  refine ⟨⟨_, rfl⟩, ?_⟩
  refine dLc_filtF (namesH h) nameD nameD (fun x => !decide (x = z)) (noOwn1 (by simp)) (sz _ (by omega)) (fun P hP => hP) (fun x hx P hP => dNe_name hP) (fun x hx _ P hP => hP) ?_
  refine ⟨sz 1 (by decide), sz _ (by rw [List.length_map, List.length_singleton]; omega), ?_⟩
  refine dLc_mapF (namesH h) nameD (fun m => .lst [.int (m.1 : Nat), .int (m.2 : Nat)]) (noOwn1 (by simp)) (sz _ (by omega)) (fun P hP => hP) (fun x hx P hP => hP) ?_
  refine ⟨sz 2 (by decide), sz 8 (by decide), ?_⟩
  refine nxg (F := dSeq _ _) [some (.sh (.ref p)), some (.sh (.lst ((namesH h).map nameD))), some (.sh (nameD z)), some (.ol ([.tup (cutD ((namesH h).map nameD) none (some (-1))), .tup ((namesH h).map nameD ++ [nameD z]), .lst ((namesH h).map nameD), .non, .int 5, .tup ((namesH h).map nameD ++ [.tup [.int (((namesH h).map nameD).length : Nat), .int 30]])] ++ [.tup (((namesH h).filter fun x => !decide (x = z)).map nameD ++ [.non]), .tup ((namesH h).map fun m => .lst [.int (m.1 : Nat), .int (m.2 : Nat)])])), none] ?_
  have base : ∀ d ∈ ([.tup (cutD ((namesH h).map nameD) none (some (-1))), .tup ((namesH h).map nameD ++ [nameD z]), .lst ((namesH h).map nameD), .non, .int 5, .tup ((namesH h).map nameD ++ [.tup [.int (((namesH h).map nameD).length : Nat), .int 30]])] ++ [.tup (((namesH h).filter fun x => !decide (x = z)).map nameD ++ [.non]), .tup ((namesH h).map fun m => .lst [.int (m.1 : Nat), .int (m.2 : Nat)])] : List D), NotOrd h d ∧ vok d = true := fun d hd => by
    rcases List.mem_append.mp hd with hd | hd
    · rcases List.mem_cons.mp hd with rfl | hd
      · exact ok1
      rcases List.mem_cons.mp hd with rfl | hd
      · exact ok2
      rcases List.mem_cons.mp hd with rfl | hd
      · exact ok3
      rcases List.mem_cons.mp hd with rfl | hd
      · exact ok4
      rcases List.mem_cons.mp hd with rfl | hd
      · exact ok5
      rw [List.mem_singleton] at hd; subst hd
      exact ok6 _
    · rcases List.mem_cons.mp hd with rfl | hd
      · exact ok7
      rw [List.mem_singleton] at hd; subst hd
      exact ok8
  refine seq_gen (fun ρ W' => W' = W3 ∧ ∃ rows : List D, (∀ d ∈ rows, NotOrd h d ∧ vok d = true) ∧ rows.length ≤ 20 ∧ ρ = [some (.sh (.ref p)), some (.sh (.lst ((namesH h).map nameD))), some (.sh (nameD z)), some (.ol rows), none]) (fun ρ W' hI => ?_) (fun N hN => ?_)
  · obtain ⟨rfl, rows, hr, hl, rfl⟩ := hI
    refine dFrz_of (ds := rows) rfl ?_
    exact hq rows _ hr hl hs3
  refine ⟨_, atI_of (i := 1) rfl, ?_⟩
  show (if decide (((z.2 : Nat) : Int) < 2) = true then _ else _)
  by_cases h2 : z.2 < 2
  · rw [decide_eq_true (by omega)]
    refine ite_t ⟨⟨_, rfl⟩, ?_⟩
    refine dLc_filtF (namesH h) nameD nameD (fun x => !decide (x = z)) (noOwn1 (by simp)) (sz _ (by omega)) (fun P hP => hP) (fun x hx P hP => dNe_name hP) (fun x hx _ P hP => hP) ?_
    refine ⟨_, atI_of (i := 0) rfl, _, atI_of (i := 1) rfl, dEq_int ⟨sz 2 (by decide), sz 1 (by decide), sz _ (by rw [List.length_map, List.length_singleton]; omega), by show 8 < 16777216; decide, ?_⟩⟩
    refine hN _ _ ⟨rfl, _, fun d hd => ?_, ?_, rfl⟩
    · rcases List.mem_append.mp hd with hd | hd
      · exact base d hd
      · rw [List.mem_singleton] at hd; subst hd
        exact ok9 _ _
    · show 9 ≤ 20; decide
  · rw [decide_eq_false (by omega)]
    exact ite_f (hN _ _ ⟨rfl, _, base, by show 8 ≤ 20; decide, rfl⟩)
end K54
namespace K54
open PySem PySem.Spec L2 G TL C LV
theorem plain_int (i : Int) (n : Nat) : plainN n (.int i) := by cases n <;> unfold plainN <;> trivial
theorem plain_non (n : Nat) : plainN n .non := by cases n <;> unfold plainN <;> trivial
theorem plain_tup {ds : List D} {n : Nat} (h : ds.length ≤ 2000000) (h2 : ∀ d ∈ ds, plainN n d) : plainN (n + 1) (.tup ds) := by unfold plainN; exact ⟨h, h2⟩
theorem plain_str (s : Str) (n : Nat) : plainN n (.str s) := by cases n <;> unfold plainN <;> trivial
theorem plain_name (m : Nm) (n : Nat) : plainN (n + 1) (nameD m) := by
  refine plain_tup (by show 2 ≤ _; decide) fun y hy => ?_
  rcases List.mem_cons.mp hy with rfl | hy
  · exact plain_int _ _
  · rw [List.mem_singleton.mp hy]; exact plain_int _ _
theorem plain_res {h : Hist} {ord : List Nm} {d : D} (hd : Res h ord d) : plainN 5 d := by
  rcases hd with ⟨p, hp, rfl⟩ | ⟨hn, rfl⟩
  · refine plain_tup (by show 3 ≤ _; decide) fun y hy => ?_
    rcases List.mem_cons.mp hy with rfl | hy
    · exact plain_str _ _
    rcases List.mem_cons.mp hy with rfl | hy
    · exact plain_name _ _
    rw [List.mem_singleton.mp hy]; exact plain_name _ _
  · cases unseen h ord with
    | none => exact plain_non 5
    | some z =>
      obtain ⟨n, k, m⟩ := z
      refine plain_tup (by show 4 ≤ _; decide) fun y hy => ?_
      rcases List.mem_cons.mp hy with rfl | hy
      · exact plain_str _ _
      rcases List.mem_cons.mp hy with rfl | hy
      · exact plain_name _ _
      rcases List.mem_cons.mp hy with rfl | hy
      · exact plain_int _ _
      rw [List.mem_singleton.mp hy]; exact plain_name _ _
theorem plain_form : plainN 5 (.tup [.str "form"]) := by
  refine plain_tup (by show 1 ≤ _; decide) fun y hy => ?_
  rw [List.mem_singleton.mp hy]; exact plain_str _ _
abbrev E7 (ns : List Int) (p : Addr) (c ks : D) (h : Hist) (bl : Nm → List Nm) (r : G.Env) : G.Env := some (.sh (.scr ns)) :: some (.sh (.ref p)) :: some (.sh c) :: some (.sh ks) :: some (.sh (histD h)) :: some (.sh (.lst ((namesH h).map nameD))) :: some (.sh (blD h bl)) :: r
theorem rd_law : Rd n_law 1 sp_law d_law := by
  rintro ds W Q Qx _ ⟨ns, rfl, hnl, hbit, hq⟩
  show d_law _ [some (.sh (.scr ns)), none, none, none, none, none, none, none, none, none, none, none, none, none] W
  unfold d_law
  refine seq_gen (fun ρ W2 => ∃ p g : Addr, StOk W2 p g 999000 ∧ ρ = [some (.sh (.scr ns)), some (.sh (.ref p)), none, none, none, none, none, none, none, none, none, none, none, none]) (fun ρ W2 hI => ?_) (fun N hN => ⟨rfl, ns, rfl, hnl, fun z hz => ?bits, fun W2 p g hs => hN _ _ ⟨p, g, hs, rfl⟩⟩)
  case bits => exact bits_big (hbit z hz)
  obtain ⟨p, g, hs, rfl⟩ := hI
  refine seq_gen (fun ρ W3 => StOk W3 p g 998000 ∧ ∃ c : Int, ρ = [some (.sh (.scr ns)), some (.sh (.ref p)), some (.sh (.int c)), none, none, none, none, none, none, none, none, none, none, none]) (fun ρ W3 hI => ?_) (fun N hN => ⟨rfl, p, g, 4, 998999, rfl, by decide, by decide, hs.less (by omega), fun r W3 r0 r1 hs he => hN _ _ ⟨hs.less (by omega), r, rfl⟩⟩)
  obtain ⟨hs, c, rfl⟩ := hI
  refine seq_gen (fun ρ W3 => StOk W3 p g 900000 ∧ ∃ (ks : D) (h : Hist), Good h ∧ ρ = [some (.sh (.scr ns)), some (.sh (.ref p)), some (.sh (.int c)), some (.sh ks), some (.sh (histD h)), none, none, none, none, none, none, none, none, none]) (fun ρ W3 hI => ?_) (fun N hN => ?made)
  case made =>
    refine dEq_int (ite_d (fun _ => ?_) (fun _ => dEq_int (ite_d (fun _ => ?_) (fun _ => ?_))))
    · refine ⟨rfl, p, g, 8, 990000, rfl, by decide, by decide, hs.less (by omega), fun r W4 r0 r1 hs he => ?_⟩
      obtain ⟨j, rfl⟩ : ∃ j : Nat, r = j := ⟨r.toNat, by omega⟩
      refine ⟨rfl, p, g, 1 + j, 980000, rfl, by omega, hs.less (by omega), fun ks W5 kl hk hs => ?_⟩
      refine ⟨rfl, p, g, 24, 12, 2, 900000, ks, rfl, by decide, by decide, by decide, by decide, hk, fun e => by subst e; simp at kl; omega, by omega, by decide, hs.less (by omega), fun hh W6 hg hs => hN _ _ ⟨hs, _, hh, hg, rfl⟩⟩
    · refine ⟨rfl, p, g, 9, 990000, rfl, by decide, by decide, hs.less (by omega), fun r W4 r0 r1 hs he => ?_⟩
      obtain ⟨j, rfl⟩ : ∃ j : Nat, r = j := ⟨r.toNat, by omega⟩
      refine ⟨rfl, p, g, 4 + j, 980000, rfl, by omega, hs.less (by omega), fun ks W5 kl hk hs => ?_⟩
      refine ⟨rfl, p, g, 4, 4, 12, 900000, ks, rfl, by decide, by decide, by decide, by decide, hk, fun e => by subst e; simp at kl; omega, by omega, by decide, hs.less (by omega), fun hh W6 hg hs => hN _ _ ⟨hs, _, hh, hg, rfl⟩⟩
    · refine ⟨rfl, p, g, 3, 990000, rfl, by decide, by decide, hs.less (by omega), fun r W4 r0 r1 hs he => ?_⟩
      obtain ⟨j, rfl⟩ : ∃ j : Nat, r = j := ⟨r.toNat, by omega⟩
      refine ⟨rfl, p, g, 1 + j, 980000, rfl, by omega, hs.less (by omega), fun ks W5 kl hk hs => ?_⟩
      refine ⟨rfl, p, g, 5, 4, 3, 900000, ks, rfl, by decide, by decide, by decide, by decide, hk, fun e => by subst e; simp at kl; omega, by omega, by decide, hs.less (by omega), fun hh W6 hg hs => hN _ _ ⟨hs, _, hh, hg, rfl⟩⟩
  obtain ⟨hs, ks, h, hg, rfl⟩ := hI
  have few := names_few hg
  refine ⟨rfl, h, rfl, hg.ok, hg.val, ?_⟩
  refine nxg (F := dSeq _ _) [some (.sh (.scr ns)), some (.sh (.ref p)), some (.sh (.int c)), some (.sh ks), some (.sh (histD h)), some (.sh (.lst ((namesH h).map nameD))), none, none, none, none, none, none, none, none] ?_
  refine ⟨rfl, h, rfl, hg, fun bl hp => ?_⟩
  refine nxg (F := dSeq _ _) (E7 ns p (.int c) ks h bl [none, none, none, none, none, none, none]) ?_
  refine nxs ?_
  refine seq_gen (fun ρ W4 => W4 = W3 ∧ ∃ (cl : Nm → List Nm) (x8 : Option D), ClOk h cl ∧ ρ = E7 ns p (.int c) ks h bl [some (.on ((namesH h).map fun m => (nameD m, .lst ((cl m).map nameD)))), x8.map Sl.sh, none, none, none, none, none]) (fun ρ W4 hI => ?_) (fun N hN => ?clos)
  case clos =>
    refine dFor_of ((namesH h).map nameD) (fun i ρ W4 => W4 = W3 ∧ ∃ (cl : Nm → List Nm) (x8 : Option D), (∀ n ∈ (namesH h).take i, (∀ m, m ∈ cl n ↔ Reach h n m) ∧ (cl n).length ≤ 300) ∧ ρ = E7 ns p (.int c) ks h bl [some (.on (((namesH h).take i).map fun m => (nameD m, .lst ((cl m).map nameD)))), x8.map Sl.sh, none, none, none, none, none]) (fun P hP => hP) ⟨rfl, fun _ => [], none, fun n hn => by simp at hn, rfl⟩ (fun i d ρ W4 hd hI => ?_) (fun ρ W4 hI => ?_)
    · obtain ⟨rfl, cl, x8, hc, rfl⟩ := hI
      rw [List.getElem?_map] at hd
      obtain ⟨n, hn, rfl⟩ := Option.map_eq_some_iff.mp hd
      have hna := not_ahead (names_nd h) hn
      refine ⟨rfl, h, bl, n, rfl, hg, hp, List.mem_of_getElem? hn, fun l hl hll => ⟨⟨_, rfl⟩, nk_name n, by rw [List.length_map, List.length_take]; show _ < 16777216; omega, fun k z e => (old_key hna e).elim, fun _ => ⟨rfl, fun x => if x = n then l else cl x, some (nameD n), fun x hx => ?_, ?_⟩⟩⟩
      · by_cases e : x = n
        · simp only [e, if_true]; exact ⟨hl, hll⟩
        · simp only [e, if_false]
          rw [take_snoc hn] at hx
          rcases List.mem_append.mp hx with hx | hx
          · exact hc x hx
          · exact absurd (List.mem_singleton.mp hx) e
      · rw [take_snoc hn, upd_map (fun l => D.lst (l.map nameD)) cl l hna]; rfl
    · obtain ⟨rfl, cl, x8, hc, rfl⟩ := hI
      rw [List.length_map, List.take_length] at hc ⊢
      exact hN _ _ ⟨rfl, cl, x8, ⟨fun n hn => (hc n hn).1, fun n hn => (hc n hn).2⟩, rfl⟩
  obtain ⟨rfl, cl, x8, hc, rfl⟩ := hI
  refine dFrzN_of (kvs := (namesH h).map fun m => (nameD m, .lst ((cl m).map nameD))) rfl ?_
  have e1 : ((namesH h).map fun m => (nameD m, D.lst ((cl m).map nameD))).map (·.1) = (namesH h).map nameD := by rw [List.map_map]; rfl
  have e2 : ((namesH h).map fun m => (nameD m, D.lst ((cl m).map nameD))).map (·.2) = (namesH h).map fun n => .lst ((cl n).map nameD) := by rw [List.map_map]; rfl
  rw [e1, e2]
  refine ⟨sz 0 (by decide), nxg (F := dSeq _ _) (E7 ns p (.int c) ks h bl [some (.sh (blD h cl)), x8.map Sl.sh, some (.ol []), none, none, none, none]) ?_⟩
  refine seq_gen (fun ρ W5 => StOk W5 p g 100 ∧ ∃ (ords : List (List Nm)) (x10 x11 : Option D), (∀ o ∈ ords, OrdOk h o) ∧ ∀ (F : TSD) (De : EndsD), F De (E7 ns p (.int c) ks h bl [some (.sh (blD h cl)), x8.map Sl.sh, some (.sh (.lst (ords.map fun o : List Nm => D.tup (o.map nameD)))), x10.map Sl.sh, x11.map Sl.sh, none, none]) W5 → dFrz 9 F De ρ W5) (fun ρ W5 hI => ?_) (fun N hN => ?ords)
  case ords =>
    show (if decide (((((namesH h).map nameD).length : Nat) : Int) ≤ 4) = true then _ else _)
    rw [List.length_map]
    by_cases h4 : (namesH h).length ≤ 4
    · rw [decide_eq_true (by omega)]
      refine ite_t ⟨rfl, h, rfl, h4, fun ords ho hl => hN _ _ ⟨hs.less (by omega), ords, none, none, ho, fun F De k => k⟩⟩
    · rw [decide_eq_false (by omega)]
      refine ite_f ?_
      refine nxg (F := dSeq _ _) (E7 ns p (.int c) ks h bl [some (.sh (blD h cl)), x8.map Sl.sh, some (.ol []), some (.sh (.int 20)), none, none, none]) ?_
      refine seq_gen (fun ρ W5 => W5 = W4 ∧ ∃ M : Nat, M ≤ 20 ∧ ρ = E7 ns p (.int c) ks h bl [some (.sh (blD h cl)), x8.map Sl.sh, some (.ol []), some (.sh (.int (M : Nat))), none, none, none]) (fun ρ W5 hI => ?_) (fun N2 hN2 => ?_)
      · obtain ⟨rfl, M, hM, rfl⟩ := hI
        refine dFor_of (rng 0 M) (fun i ρ W6 => StOk W6 p g (100 + 302 * (20 - i)) ∧ ∃ (ords : List (List Nm)) (x11 : Option D), (∀ o ∈ ords, OrdOk h o) ∧ ords.length ≤ i ∧ ρ = E7 ns p (.int c) ks h bl [some (.sh (blD h cl)), x8.map Sl.sh, some (.ol (ords.map fun o : List Nm => D.tup (o.map nameD))), some (.sh (.int (M : Nat))), x11.map Sl.sh, none, none]) (fun P hP => ?_) ⟨hs.less (by omega), [], none, fun o ho => absurd ho List.not_mem_nil, by simp, rfl⟩ (fun i d ρ W6 hd hI => ?_) (fun ρ W6 hI => ?_)
        · show -(2 ^ 62) ≤ _ ∧ _ < 2 ^ 62 ∧ P (rng 0 _) _ _
          refine ⟨by omega, by omega, ?_⟩
          rw [Int.toNat_natCast]; exact hP
        · obtain ⟨hs, ords, x11, ho, hl, rfl⟩ := hI
          obtain ⟨hi, rfl⟩ := rng_get hd
          refine ⟨⟨_, rfl⟩, rfl, p, g, 8, 100 + 302 * (20 - (i + 1)) + 300, rfl, by decide, by decide, hs.less (by omega), fun r W7 r0 r1 hs he => ⟨rfl, p, g, 100 + 302 * (20 - (i + 1)), h, bl, decide (r > 0), rfl, hg, hp, hs.less (by omega), fun o W8 hoo hs he => ⟨by rw [List.length_map]; show _ < 16777216; omega, hs, ords ++ [o], some (.int (0 + (i : Int))), fun o' ho' => ?_, by rw [List.length_append, List.length_singleton]; omega, ?_⟩⟩⟩
          · rcases List.mem_append.mp ho' with ho' | ho'
            · exact ho o' ho'
            · rw [List.mem_singleton] at ho'; subst ho'; exact hoo
          · rw [List.map_append]; rfl
        · obtain ⟨hs, ords, x11, ho, hl, rfl⟩ := hI
          exact hN _ _ ⟨hs.less (by omega), ords, some (.int (M : Nat)), x11, ho, fun F De k => k⟩
      · show (if decide (((((namesH h).map nameD).length : Nat) : Int) > 8) = true then _ else _)
        exact ite_d (fun _ => hN2 _ _ ⟨rfl, 3, by decide, rfl⟩) (fun _ => hN2 _ _ ⟨rfl, 20, by decide, rfl⟩)
  obtain ⟨hs, ords, x10, x11, ho, hfrz⟩ := hI
  refine hfrz _ _ ?_
  refine seq_gen (fun ρ W6 => W6 = W5 ∧ ∃ x12 : Option D, ρ = E7 ns p (.int c) ks h bl [some (.sh (blD h cl)), x8.map Sl.sh, some (.sh (.lst (ords.map fun o : List Nm => D.tup (o.map nameD)))), x10.map Sl.sh, x11.map Sl.sh, x12.map Sl.sh, none]) (fun ρ W6 hI => ?_) (fun N hN => ?first)
  case first =>
    refine dFor_of (ords.map fun o : List Nm => D.tup (o.map nameD)) (fun i ρ W6 => W6 = W5 ∧ ∃ x12 : Option D, ρ = E7 ns p (.int c) ks h bl [some (.sh (blD h cl)), x8.map Sl.sh, some (.sh (.lst (ords.map fun o : List Nm => D.tup (o.map nameD)))), x10.map Sl.sh, x11.map Sl.sh, x12.map Sl.sh, none]) (fun P hP => hP) ⟨rfl, none, rfl⟩ (fun i d ρ W6 hd hI => ?_) (fun ρ W6 hI => hN _ _ hI)
    obtain ⟨rfl, x12, rfl⟩ := hI
    rw [List.getElem?_map] at hd
    obtain ⟨o, hoi, rfl⟩ := Option.map_eq_some_iff.mp hd
    have hoo := ho o (List.mem_of_getElem? hoi)
    refine ⟨rfl, h, _, rfl, hg, .inl ⟨o, rfl, hoo, fun e he => ⟨rfl, h, bl, cl, o, rfl, hg, hp, hc, hoo, fun e' he' => ?_⟩⟩⟩
    have ee := res_one he he'
    subst ee
    exact ⟨rfl, e, rfl, plain_res he, hno ⟨rfl, some _, rfl⟩⟩
  obtain ⟨rfl, x12, rfl⟩ := hI
  refine seq_gen (fun ρ W7 => True) (fun ρ W7 _ => hq _) (fun N hN => ?_)
  refine dFor_mk ⟨rfl, p, g, 50, h, rfl, hg, hs.less (by omega), fun rows W7 hr hl hs7 => ⟨fun i ρ W8 => ∃ x13 : Option D, ρ = E7 ns p (.int c) ks h bl [some (.sh (blD h cl)), x8.map Sl.sh, some (.sh (.lst (ords.map fun o : List Nm => D.tup (o.map nameD)))), x10.map Sl.sh, x11.map Sl.sh, x12.map Sl.sh, x13.map Sl.sh], ⟨none, rfl⟩, fun i d ρ W8 hd hI => ?_, fun ρ W8 hI => hN _ _ trivial⟩⟩
  obtain ⟨x13, rfl⟩ := hI
  obtain ⟨h1, h2⟩ := hr d (List.mem_of_getElem? hd)
  exact ⟨rfl, h, d, rfl, hg, .inr ⟨h1, h2, sz 1 (by decide), rfl, _, rfl, plain_form, hno ⟨some _, rfl⟩⟩⟩
end K54
namespace K54
open PySem PySem.Spec L2 G TL C LV
variable {P : Program} {w : World} {K : PySem.W.Frag} {mg : Str → Option Value} {base : Heap}
theorem ok_is_integer (T : Txt P w K mg)  : Cal P w K mg base 1 "is_integer" s_is_integer ["value"] sp_is_integer :=
  calD T.f_is_integer sc_is_integer fun f cdv A outer s H E hr => ⟨d_is_integer, (gss_one (gs_ret (ge_and (ge_callB call_isi cs_isi rfl T.b_isinstance (by decide +kernel) (ga_cons (gv 0) (ga_cons (ge_ty T.b_int (by decide +kernel)) ga_nil))) (ge_one (ge_not (ge_callB call_isi cs_isi rfl T.b_isinstance (by decide +kernel) (ga_cons (gv 0) (ga_cons (ge_ty T.b_bool (by decide +kernel)) ga_nil)))))))), rd_is_integer⟩
theorem ok_is_from (T : Txt P w K mg) (C_is_integer : Cal P w K mg base 1 "is_integer" s_is_integer ["value"] sp_is_integer) : Cal P w K mg base 2 "is_from" s_is_from ["least", "value"] sp_is_from :=
  calD T.f_is_from sc_is_from fun f cdv A outer s H E hr => ⟨d_is_from, (gss_one (gs_ret (ge_and (ge_c (takes_of rfl rfl rfl rfl) C_is_integer hr (by decide) (ga_cons (gv 1) ga_nil)) (ge_one (ge_cmp op_geA rs_cmp (gv 1) (gv 0) (nomark _)))))), rd_is_from⟩
theorem ok_is_tuple_of (T : Txt P w K mg)  : Cal P w K mg base 1 "is_tuple_of" s_is_tuple_of ["length", "value"] sp_is_tuple_of :=
  calD T.f_is_tuple_of sc_is_tuple_of fun f cdv A outer s H E hr => ⟨d_is_tuple_of, (gss_one (gs_ret (ge_and (ge_callB call_isi cs_isi rfl T.b_isinstance (by decide +kernel) (ga_cons (gv 1) (ga_cons (ge_ty T.b_tuple (by decide +kernel)) ga_nil))) (ge_one (ge_cmp (op_eqA hr.units) rs_eq (ge_callB call_len cs_len rfl T.b_len (by decide +kernel) (ga_cons (gv 1) ga_nil)) (gv 0) (nomark _)))))), rd_is_tuple_of⟩
theorem ok_is_text (T : Txt P w K mg)  : Cal P w K mg base 1 "is_text" s_is_text ["value"] sp_is_text :=
  calD T.f_is_text sc_is_text fun f cdv A outer s H E hr => ⟨d_is_text, (gss_one (gs_ret (ge_and (ge_callB call_isi cs_isi rfl T.b_isinstance (by decide +kernel) (ga_cons (gv 0) (ga_cons (ge_ty T.b_str (by decide +kernel)) ga_nil))) (ge_one (ge_callB (cr_all rfl) cs_all rfl T.b_all (by decide +kernel) (ga_cons (GN.ge (gn_lc [("sign", 1)] rfl sc_is_text.nd (gi_str (gv 0)) (blkOk_by (own := [("sign", 1)]) (N := n_is_text) (sc := defScope s_is_text) (by decide +kernel)) (by decide) (fun _ _ _ _ _ => (gg_name (i := 1) sc_is_text.nd rfl (Or.inl rfl))) (fun _ _ _ _ _ => gts_nil) (fun _ _ _ _ _ => (ge_chain op_leA op_leA rs_cmp rs_cmp (ge_gc T.c_LEAST_SIGN) (gv 1) (ge_gc T.c_GREATEST_SIGN))))) ga_nil)))))), rd_is_text⟩
theorem ok_is_level (T : Txt P w K mg)  : Cal P w K mg base 1 "is_level" s_is_level ["value"] sp_is_level :=
  calD T.f_is_level sc_is_level fun f cdv A outer s H E hr => ⟨d_is_level, (gss_one (gs_ret (ge_and (ge_callB call_isi cs_isi rfl T.b_isinstance (by decide +kernel) (ga_cons (gv 0) (ga_cons (ge_ty T.b_str (by decide +kernel)) ga_nil))) (ge_one (ge_cmp (op_inB hr.units) rs_inB (gv 0) (ge_tc T.t_LEVELS) rfl))))), rd_is_level⟩
theorem ok_level_rank (T : Txt P w K mg)  : Cal P w K mg base 1 "level_rank" s_level_rank ["level"] sp_level_rank :=
  calD T.f_level_rank sc_level_rank fun f cdv A outer s H E hr => ⟨d_level_rank, (gss_one (gs_ret (ge_indexK T.n_LEVELS (gv 0)))), rd_level_rank⟩
theorem ok_is_name_form (T : Txt P w K mg) (C_is_tuple_of : Cal P w K mg base 1 "is_tuple_of" s_is_tuple_of ["length", "value"] sp_is_tuple_of) (C_is_from : Cal P w K mg base 2 "is_from" s_is_from ["least", "value"] sp_is_from) : Cal P w K mg base 3 "is_name_form" s_is_name_form ["value"] sp_is_name_form :=
  calD T.f_is_name_form sc_is_name_form fun f cdv A outer s H E hr => ⟨d_is_name_form, (gss_one (gs_ret (ge_and (ge_c (takes_of rfl rfl rfl rfl) C_is_tuple_of hr (by decide) (ga_cons ge_int (ga_cons (gv 0) ga_nil))) (ge_one (ge_callB (cr_all rfl) cs_all rfl T.b_all (by decide +kernel) (ga_cons (GN.ge (gn_lc [("number", 1)] rfl sc_is_name_form.nd (gi_tup (gv 0)) (blkOk_by (own := [("number", 1)]) (N := n_is_name_form) (sc := defScope s_is_name_form) (by decide +kernel)) (by decide) (fun _ _ _ _ _ => (gg_name (i := 1) sc_is_name_form.nd rfl (Or.inl rfl))) (fun _ _ _ _ _ => gts_nil) (fun _ _ _ _ _ => (ge_c takes0 C_is_from hr (by decide) (ga_cons ge_int (ga_cons (gv 1) ga_nil)))))) ga_nil)))))), rd_is_name_form⟩
theorem ok_is_read_form (T : Txt P w K mg) (C_is_tuple_of : Cal P w K mg base 1 "is_tuple_of" s_is_tuple_of ["length", "value"] sp_is_tuple_of) (C_is_text : Cal P w K mg base 1 "is_text" s_is_text ["value"] sp_is_text) (C_is_name_form : Cal P w K mg base 3 "is_name_form" s_is_name_form ["value"] sp_is_name_form) : Cal P w K mg base 4 "is_read_form" s_is_read_form ["value"] sp_is_read_form :=
  calD T.f_is_read_form sc_is_read_form fun f cdv A outer s H E hr => ⟨d_is_read_form, (gss_one (gs_ret (ge_and (ge_c (takes_of rfl rfl rfl rfl) C_is_tuple_of hr (by decide) (ga_cons ge_int (ga_cons (gv 0) ga_nil))) (ge_and (ge_c (takes_of rfl rfl rfl rfl) C_is_text hr (by decide) (ga_cons (ge_ix ix_seq rs_ix (gv 0) ge_int (fun _ _ => rfl)) ga_nil)) (ge_one (ge_or (ge_cmp op_isA rs_isA (ge_ix ix_seq rs_ix (gv 0) ge_int (fun _ _ => rfl)) ge_non (nomark _)) (ge_one (ge_c (takes_of rfl rfl rfl rfl) C_is_name_form hr (by decide) (ga_cons (ge_ix ix_seq rs_ix (gv 0) ge_int (fun _ _ => rfl)) ga_nil))))))))), rd_is_read_form⟩
theorem ok_are_keys (T : Txt P w K mg) (C_is_text : Cal P w K mg base 1 "is_text" s_is_text ["value"] sp_is_text) : Cal P w K mg base 2 "are_keys" s_are_keys ["value"] sp_are_keys :=
  calD T.f_are_keys sc_are_keys fun f cdv A outer s H E hr => ⟨d_are_keys, (gss_cons (gs_if (GW.gt (gw_or (gt_not (gt_val (ge_callB call_isi cs_isi rfl T.b_isinstance (by decide +kernel) (ga_cons (gv 0) (ga_cons (ge_ty T.b_tuple (by decide +kernel)) ga_nil))))) (gw_or1 (gt_not (gt_val (ge_callB (cr_all rfl) cs_all rfl T.b_all (by decide +kernel) (ga_cons (GN.ge (gn_lc [("key", 1)] rfl sc_are_keys.nd (gi_tup (gv 0)) (blkOk_by (own := [("key", 1)]) (N := n_are_keys) (sc := defScope s_are_keys) (by decide +kernel)) (by decide) (fun _ _ _ _ _ => (gg_name (i := 1) sc_are_keys.nd rfl (Or.inl rfl))) (fun _ _ _ _ _ => gts_nil) (fun _ _ _ _ _ => (ge_c takes0 C_is_text hr (by decide) (ga_cons (gv 1) ga_nil))))) ga_nil))))))) (gss_one (gs_ret ge_bl)) gss_nil)
  (gss_one (gs_ret (ge_callB (cr_all rfl) cs_all rfl T.b_all (by decide +kernel) (ga_cons (GN.ge (gn_lc [("at", 2)] rfl sc_are_keys.nd (gi_range1 rfl T.b_range (ga_cons (ge_op op_sub rs_J (ge_callB call_len cs_len rfl T.b_len (by decide +kernel) (ga_cons (gv 0) ga_nil)) ge_int) ga_nil)) (blkOk_by (own := [("at", 2)]) (N := n_are_keys) (sc := defScope s_are_keys) (by decide +kernel)) (by decide) (fun _ _ _ _ _ => (gg_name (i := 2) sc_are_keys.nd rfl (Or.inl rfl))) (fun _ _ _ _ _ => gts_nil) (fun _ _ _ _ _ => (ge_cmp op_ltA rs_cmp (ge_ix ix_seq rs_ix (gv 0) (gv 2) (fun _ _ => rfl)) (ge_ix ix_seq rs_ix (gv 0) (ge_op op_addA rs_add (gv 2) ge_int) (fun _ _ => rfl)) (nomark _))))) ga_nil))))), rd_are_keys⟩
theorem ok_transaction_fault (T : Txt P w K mg) (C_is_tuple_of : Cal P w K mg base 1 "is_tuple_of" s_is_tuple_of ["length", "value"] sp_is_tuple_of) (C_is_level : Cal P w K mg base 1 "is_level" s_is_level ["value"] sp_is_level) (C_is_read_form : Cal P w K mg base 4 "is_read_form" s_is_read_form ["value"] sp_is_read_form) (C_are_keys : Cal P w K mg base 2 "are_keys" s_are_keys ["value"] sp_are_keys) : Cal P w K mg base 5 "transaction_fault" s_transaction_fault ["value"] sp_transaction_fault :=
  calD T.f_transaction_fault sc_transaction_fault fun f cdv A outer s H E hr => ⟨d_transaction_fault, (gss_cons (gs_if (gt_not (gt_val (ge_c (takes_of rfl rfl rfl rfl) C_is_tuple_of hr (by decide) (ga_cons ge_int (ga_cons (gv 0) ga_nil))))) (gss_one (gs_ret (ge_tup ga_nil))) gss_nil)
  (gss_cons (gs_asg (gv 0) (gg_tup rfl (ggs_cons (gg_name (i := 1) sc_transaction_fault.nd rfl (Or.inl rfl)) (ggs_cons (gg_name (i := 2) sc_transaction_fault.nd rfl (Or.inl rfl)) (ggs_cons (gg_name (i := 3) sc_transaction_fault.nd rfl (Or.inl rfl)) ggs_nil)))))
  (gss_cons (gs_if (gt_not (gt_val (ge_c (takes_of rfl rfl rfl rfl) C_is_level hr (by decide) (ga_cons (gv 1) ga_nil)))) (gss_one (gs_ret (ge_tup (ga_cons ge_int ga_nil)))) gss_nil)
  (gss_cons (gs_if (gt_not (gt_val (ge_callB call_isi cs_isi rfl T.b_isinstance (by decide +kernel) (ga_cons (gv 2) (ga_cons (ge_ty T.b_tuple (by decide +kernel)) ga_nil))))) (gss_one (gs_ret (ge_tup (ga_cons ge_int ga_nil)))) gss_nil)
  (gss_cons (gs_for (passes_of rfl) rfl (gi_enum rfl T.b_enumerate (ga_cons (gv 2) ga_nil)) (gg_tup rfl (ggs_cons (gg_name (i := 4) sc_transaction_fault.nd rfl (Or.inl rfl)) (ggs_cons (gg_name (i := 5) sc_transaction_fault.nd rfl (Or.inl rfl)) ggs_nil)))
  (gss_one (gs_if (gt_not (gt_val (ge_c (takes_of rfl rfl rfl rfl) C_is_read_form hr (by decide) (ga_cons (gv 5) ga_nil)))) (gss_one (gs_ret (ge_tup (ga_cons ge_int (ga_cons (gv 4) ga_nil))))) gss_nil)))
  (gss_one (gs_ret (ge_if (gt_val (ge_c (takes_of rfl rfl rfl rfl) C_are_keys hr (by decide) (ga_cons (gv 3) ga_nil))) ge_non (ge_tup (ga_cons ge_int ga_nil)))))))))), rd_transaction_fault⟩
theorem ok_form_fault (T : Txt P w K mg) (C_transaction_fault : Cal P w K mg base 5 "transaction_fault" s_transaction_fault ["value"] sp_transaction_fault) : Cal P w K mg base 6 "form_fault" s_form_fault ["value"] sp_form_fault :=
  calD T.f_form_fault sc_form_fault fun f cdv A outer s H E hr => ⟨d_form_fault, (gss_cons (gs_if (GW.gt (gw_or (gt_not (gt_val (ge_callB call_isi cs_isi rfl T.b_isinstance (by decide +kernel) (ga_cons (gv 0) (ga_cons (ge_ty T.b_tuple (by decide +kernel)) ga_nil))))) (gw_or1 (gt_cmp op_gtA rs_cmp (ge_callB call_len cs_len rfl T.b_len (by decide +kernel) (ga_cons (gv 0) ga_nil)) (ge_gc T.c_MOST_SESSIONS) (nomark _))))) (gss_one (gs_ret (ge_tup ga_nil))) gss_nil)
  (gss_cons (gs_for (passes_of rfl) rfl (gi_enum rfl T.b_enumerate (ga_cons (gv 0) ga_nil)) (gg_tup rfl (ggs_cons (gg_name (i := 1) sc_form_fault.nd rfl (Or.inl rfl)) (ggs_cons (gg_name (i := 2) sc_form_fault.nd rfl (Or.inl rfl)) ggs_nil)))
  (gss_cons (gs_if (GW.gt (gw_or (gt_not (gt_val (ge_callB call_isi cs_isi rfl T.b_isinstance (by decide +kernel) (ga_cons (gv 2) (ga_cons (ge_ty T.b_tuple (by decide +kernel)) ga_nil))))) (gw_or1 (GW.gt (gw_and (gt_cmp (op_eqT0 hr.units) rs_eqE (gv 2) (ge_tup ga_nil) (nomark _)) (gw_and1 (gt_cmp (op_eqA hr.units) rs_eq (ge_op op_addA rs_add (gv 1) ge_int) (ge_callB call_len cs_len rfl T.b_len (by decide +kernel) (ga_cons (gv 0) ga_nil)) (nomark _)))))))) (gss_one (gs_ret (ge_tup (ga_cons (gv 1) ga_nil)))) gss_nil)
  (gss_one (gs_for (passes_of rfl) rfl (gi_enum rfl T.b_enumerate (ga_cons (gv 2) ga_nil)) (gg_tup rfl (ggs_cons (gg_name (i := 3) sc_form_fault.nd rfl (Or.inl rfl)) (ggs_cons (gg_name (i := 4) sc_form_fault.nd rfl (Or.inl rfl)) ggs_nil)))
  (gss_cons (gs_set (i := 5) sc_form_fault.nd rfl (Or.inl rfl) (ge_c (takes_of rfl rfl rfl rfl) C_transaction_fault hr (by decide) (ga_cons (gv 4) ga_nil)))
  (gss_one (gs_if (gt_cmp op_notA rs_notA (gv 5) ge_non (nomark _)) (gss_one (gs_ret (ge_op op_addA rs_add (ge_tup (ga_cons (gv 1) (ga_cons (gv 3) ga_nil))) (gv 5)))) gss_nil)))))))
  (gss_one (gs_ret ge_non)))), rd_form_fault⟩
theorem ok_names_of (T : Txt P w K mg)  : Cal P w K mg base 1 "names_of" s_names_of ["history"] sp_names_of :=
  calD T.f_names_of sc_names_of fun f cdv A outer s H E hr => ⟨d_names_of, (gss_one (gs_ret (ge_callTy call_tuple_of cs_tup rfl T.b_tuple (by decide +kernel) (ga_cons (GN.ge (gn_lc2 [("number", 1), ("session", 2), ("index", 3)] [3] rfl sc_names_of.nd (gi_enum rfl T.b_enumerate (ga_cons (gv 0) ga_nil)) (blkOk_by (own := [("number", 1), ("session", 2), ("index", 3)]) (N := n_names_of) (sc := defScope s_names_of) (by decide +kernel)) (by decide) (by decide) (by decide) (fun _ _ _ _ _ => (gg_tup rfl (ggs_cons (gg_name (i := 1) sc_names_of.nd rfl (Or.inl rfl)) (ggs_cons (gg_name (i := 2) sc_names_of.nd rfl (Or.inl rfl)) ggs_nil)))) (fun _ _ _ _ _ => gts_nil) (fun _ _ _ _ _ => (gi_range1 rfl T.b_range (ga_cons (ge_callB call_len cs_len rfl T.b_len (by decide +kernel) (ga_cons (gv 2) ga_nil)) ga_nil))) (fun _ _ _ _ _ => (gg_name (i := 3) sc_names_of.nd rfl (Or.inl rfl))) (fun _ _ _ _ _ => gts_nil) (fun _ _ _ _ _ => (ge_tup (ga_cons (gv 1) (ga_cons (gv 3) ga_nil)))))) ga_nil)))), rd_names_of⟩
theorem ok_transaction_of (T : Txt P w K mg)  : Cal P w K mg base 1 "transaction_of" s_transaction_of ["history", "name"] sp_transaction_of :=
  calD T.f_transaction_of sc_transaction_of fun f cdv A outer s H E hr => ⟨d_transaction_of, (gss_one (gs_ret (ge_ix ix_seq rs_ix (ge_ix ix_seq rs_ix (gv 0) (ge_ix ix_seq rs_ix (gv 1) ge_int (fun _ _ => rfl)) (fun _ _ => rfl)) (ge_ix ix_seq rs_ix (gv 1) ge_int (fun _ _ => rfl)) (fun _ _ => rfl)))), rd_transaction_of⟩
theorem ok_transaction_at (T : Txt P w K mg) (C_transaction_of : Cal P w K mg base 1 "transaction_of" s_transaction_of ["history", "name"] sp_transaction_of) : Cal P w K mg base 2 "transaction_at" s_transaction_at ["history", "name"] sp_transaction_at :=
  calD T.f_transaction_at sc_transaction_at fun f cdv A outer s H E hr => ⟨d_transaction_at, (gss_cons (gs_if (GW.gt (gw_or (gt_cmp op_geA rs_cmp (ge_ix ix_seq rs_ix (gv 1) ge_int (fun _ _ => rfl)) (ge_callB call_len cs_len rfl T.b_len (by decide +kernel) (ga_cons (gv 0) ga_nil)) (nomark _)) (gw_or1 (gt_cmp op_geA rs_cmp (ge_ix ix_seq rs_ix (gv 1) ge_int (fun _ _ => rfl)) (ge_callB call_len cs_len rfl T.b_len (by decide +kernel) (ga_cons (ge_ix ix_seq rs_ix (gv 0) (ge_ix ix_seq rs_ix (gv 1) ge_int (fun _ _ => rfl)) (fun _ _ => rfl)) ga_nil)) (nomark _))))) (gss_one (gs_ret ge_non)) gss_nil)
  (gss_one (gs_ret (ge_c (takes_of rfl rfl rfl rfl) C_transaction_of hr (by decide) (ga_cons (gv 0) (ga_cons (gv 1) ga_nil)))))), rd_transaction_at⟩
theorem ok_source_fault (T : Txt P w K mg) (C_names_of : Cal P w K mg base 1 "names_of" s_names_of ["history"] sp_names_of) (C_transaction_of : Cal P w K mg base 1 "transaction_of" s_transaction_of ["history", "name"] sp_transaction_of) (C_transaction_at : Cal P w K mg base 2 "transaction_at" s_transaction_at ["history", "name"] sp_transaction_at) : Cal P w K mg base 3 "source_fault" s_source_fault ["history"] sp_source_fault :=
  calD T.f_source_fault sc_source_fault fun f cdv A outer s H E hr => ⟨d_source_fault, (gss_cons (gs_for (passes_of rfl) rfl (gi_tup (ge_c (takes_of rfl rfl rfl rfl) C_names_of hr (by decide) (ga_cons (gv 0) ga_nil))) (gg_name (i := 1) sc_source_fault.nd rfl (Or.inl rfl))
  (gss_one (gs_for (passes_of rfl) rfl (gi_enum rfl T.b_enumerate (ga_cons (ge_ix ix_seq rs_ix (ge_c (takes_of rfl rfl rfl rfl) C_transaction_of hr (by decide) (ga_cons (gv 0) (ga_cons (gv 1) ga_nil))) ge_int (fun _ _ => rfl)) ga_nil)) (gg_tup rfl (ggs_cons (gg_name (i := 2) sc_source_fault.nd rfl (Or.inl rfl)) (ggs_cons (gg_tup rfl (ggs_cons (gg_name (i := 3) sc_source_fault.nd rfl (Or.inl rfl)) (ggs_cons (gg_name (i := 4) sc_source_fault.nd rfl (Or.inl rfl)) ggs_nil))) ggs_nil)))
  (gss_cons (gs_if (gt_cmp op_isA rs_isA (gv 4) ge_non (nomark _)) (gss_one gs_cont) gss_nil)
  (gss_cons (gs_set (i := 5) sc_source_fault.nd rfl (Or.inl rfl) (ge_if (gt_cmp (op_eqA hr.units) rs_eq (gv 4) (gv 1) (nomark _)) ge_non (ge_c (takes_of rfl rfl rfl rfl) C_transaction_at hr (by decide) (ga_cons (gv 0) (ga_cons (gv 4) ga_nil)))))
  (gss_one (gs_if (GW.gt (gw_or (gt_cmp op_isA rs_isA (gv 5) ge_non (nomark _)) (gw_or1 (gt_cmp (op_niB hr.units) rs_inB (gv 3) (ge_ix ix_seq rs_ix (gv 5) ge_int (fun _ _ => rfl)) rfl)))) (gss_one (gs_ret (ge_op op_addA rs_add (gv 1) (ge_tup (ga_cons ge_int (ga_cons (gv 2) ga_nil)))))) gss_nil)))))))
  (gss_one (gs_ret ge_non))), rd_source_fault⟩
theorem ok_history_fault (T : Txt P w K mg) (C_form_fault : Cal P w K mg base 6 "form_fault" s_form_fault ["value"] sp_form_fault) (C_source_fault : Cal P w K mg base 3 "source_fault" s_source_fault ["history"] sp_source_fault) : Cal P w K mg base 7 "history_fault" s_history_fault ["value"] sp_history_fault :=
  calD T.f_history_fault sc_history_fault fun f cdv A outer s H E hr => ⟨d_history_fault, (gss_cons (gs_set (i := 1) sc_history_fault.nd rfl (Or.inl rfl) (ge_c (takes_of rfl rfl rfl rfl) C_form_fault hr (by decide) (ga_cons (gv 0) ga_nil)))
  (gss_one (gs_ret (ge_if (gt_cmp op_isA rs_isA (gv 1) ge_non (nomark _)) (ge_c (takes_of rfl rfl rfl rfl) C_source_fault hr (by decide) (ga_cons (gv 0) ga_nil)) (gv 1))))), rd_history_fault⟩
theorem ok_check_history (T : Txt P w K mg) (C_history_fault : Cal P w K mg base 7 "history_fault" s_history_fault ["value"] sp_history_fault) : Cal P w K mg base 8 "check_history" s_check_history ["history"] sp_check_history :=
  calD T.f_check_history sc_check_history fun f cdv A outer s H E hr => ⟨d_check_history, (gss_cons (gs_set (i := 1) sc_check_history.nd rfl (Or.inl rfl) (ge_c (takes_of rfl rfl rfl rfl) C_history_fault hr (by decide) (ga_cons (gv 0) ga_nil)))
  (gss_one (gs_if (gt_cmp op_notA rs_notA (gv 1) ge_non (nomark _)) (gss_one gs_never) gss_nil))), rd_check_history⟩
theorem ok_writers_of (T : Txt P w K mg) (C_names_of : Cal P w K mg base 1 "names_of" s_names_of ["history"] sp_names_of) (C_transaction_of : Cal P w K mg base 1 "transaction_of" s_transaction_of ["history", "name"] sp_transaction_of) : Cal P w K mg base 2 "writers_of" s_writers_of ["history", "key"] sp_writers_of :=
  calD T.f_writers_of sc_writers_of fun f cdv A outer s H E hr => ⟨d_writers_of, (gss_one (gs_ret (ge_callTy call_tuple_of cs_tup rfl T.b_tuple (by decide +kernel) (ga_cons (GN.ge (gn_lc [("name", 2)] rfl sc_writers_of.nd (gi_tup (ge_c (takes_of rfl rfl rfl rfl) C_names_of hr (by decide) (ga_cons (gv 0) ga_nil))) (blkOk_by (own := [("name", 2)]) (N := n_writers_of) (sc := defScope s_writers_of) (by decide +kernel)) (by decide) (fun _ _ _ _ _ => (gg_name (i := 2) sc_writers_of.nd rfl (Or.inl rfl))) (fun _ _ _ _ _ => (gts_one (gt_cmp (op_inB hr.units) rs_inB (gv 1) (ge_ix ix_seq rs_ix (ge_c takes0 C_transaction_of hr (by decide) (ga_cons (gv 0) (ga_cons (gv 2) ga_nil))) ge_int (fun _ _ => rfl)) rfl))) (fun _ _ _ _ _ => (gv 2)))) ga_nil)))), rd_writers_of⟩
theorem ok_sources_of (T : Txt P w K mg) (C_transaction_of : Cal P w K mg base 1 "transaction_of" s_transaction_of ["history", "name"] sp_transaction_of) : Cal P w K mg base 2 "sources_of" s_sources_of ["history", "name"] sp_sources_of :=
  calD T.f_sources_of sc_sources_of fun f cdv A outer s H E hr => ⟨d_sources_of, (gss_one (gs_ret (GN.ge (gn_lc [("key", 2), ("source", 3)] rfl sc_sources_of.nd (gi_tup (ge_ix ix_seq rs_ix (ge_c (takes_of rfl rfl rfl rfl) C_transaction_of hr (by decide) (ga_cons (gv 0) (ga_cons (gv 1) ga_nil))) ge_int (fun _ _ => rfl))) (blkOk_by (own := [("key", 2), ("source", 3)]) (N := n_sources_of) (sc := defScope s_sources_of) (by decide +kernel)) (by decide) (fun _ _ _ _ _ => (gg_tup rfl (ggs_cons (gg_name (i := 2) sc_sources_of.nd rfl (Or.inl rfl)) (ggs_cons (gg_name (i := 3) sc_sources_of.nd rfl (Or.inl rfl)) ggs_nil)))) (fun _ _ _ _ _ => (gts_one (gt_cmp op_notA rs_notA (gv 3) ge_non (nomark _)))) (fun _ _ _ _ _ => (gv 3)))))), rd_sources_of⟩
theorem ok_predecessors (T : Txt P w K mg) (C_names_of : Cal P w K mg base 1 "names_of" s_names_of ["history"] sp_names_of) (C_sources_of : Cal P w K mg base 2 "sources_of" s_sources_of ["history", "name"] sp_sources_of) : Cal P w K mg base 3 "predecessors" s_predecessors ["history"] sp_predecessors :=
  calD T.f_predecessors sc_predecessors fun f cdv A outer s H E hr => ⟨d_predecessors, (gss_cons (gs_setN (j := 1) sc_predecessors.nd rfl (Or.inl rfl))
  (gss_cons (gs_for (passes_of rfl) rfl (gi_tup (ge_c (takes_of rfl rfl rfl rfl) C_names_of hr (by decide) (ga_cons (gv 0) ga_nil))) (gg_name (i := 2) sc_predecessors.nd rfl (Or.inr rfl))
  (gss_cons (gs_setLc (k := 3) [("index", 4)] rfl sc_predecessors.nd rfl rfl (sw_true rfl rfl rfl (by decide +kernel)) (gi_range1 rfl T.b_range (ga_cons (ge_ix ix_seq rs_ix (gv 2) ge_int (fun _ _ => rfl)) ga_nil)) (blkOk_by (own := [("index", 4)]) (N := n_predecessors) (sc := defScope s_predecessors) (by decide +kernel)) (by decide) (fun _ _ _ _ _ => (gg_name (i := 4) sc_predecessors.nd rfl (Or.inl rfl))) (fun _ _ _ _ _ => gts_nil) (fun _ _ _ _ _ => (ge_tup (ga_cons (ge_ix ix_seq rs_ix (gv 2) ge_int (fun _ _ => rfl)) (ga_cons (gv 4) ga_nil)))))
  (gss_one (gs_nputO (j := 1) (u66 hr) (GNN.ge (gn_ndc [("other", 5)] (u66 hr) rfl sc_predecessors.nd (gi_list (GN.ge (gn_sortA (u66 hr) rfl T.b_sorted (by decide +kernel) (ge_op op_addA rs_add (gv 3) (ge_c (takes_of rfl rfl rfl rfl) C_sources_of hr (by decide) (ga_cons (gv 0) (ga_cons (gv 2) ga_nil))))))) (blkOk_by (own := [("other", 5)]) (N := n_predecessors) (sc := defScope s_predecessors) (by decide +kernel)) (by decide) (fun _ _ _ _ _ => (gg_name (i := 5) sc_predecessors.nd rfl (Or.inl rfl))) (fun _ _ _ _ _ => gts_nil) (fun _ _ _ _ _ => (gv 5)) (fun _ _ _ _ _ => ge_bl))) (gv 2)))))
  (gss_frzN 1 (gss_one (gs_ret (gv 1)))))), rd_predecessors⟩
theorem ok_closure_of (T : Txt P w K mg)  : Cal P w K mg base 1 "closure_of" s_closure_of ["before", "name"] sp_closure_of :=
  calD T.f_closure_of sc_closure_of fun f cdv A outer s H E hr => ⟨d_closure_of, (gss_cons (gs_setN (j := 2) sc_closure_of.nd rfl (Or.inl rfl))
  (gss_cons (gs_setO (i := 3) sc_closure_of.nd rfl (Or.inl rfl) (gn_keysL rfl rfl T.b_list (by decide +kernel) (ge_nget (u66 hr) (gv 0) (gv 1) (fun _ _ => rfl))))
  (gss_cons (gs_while (passes_of rfl) (gt_neO 3 hr.units (nomark _))
  (gss_cons (gs_set (i := 4) sc_closure_of.nd rfl (Or.inl rfl) (ge_popL 3))
  (gss_one (gs_if (gt_nniO 2 (u66 hr) (gv 4)) (gss_cons (gs_nputO (j := 2) (u66 hr) ge_bl (gv 4))
  (gss_one (gs_extO 3 (GN.ge (gn_keysL rfl rfl T.b_list (by decide +kernel) (ge_nget (u66 hr) (gv 0) (gv 4) (fun _ _ => rfl))))))) gss_nil))))
  (gss_frzN 2 (gss_frz 3 (gss_one (gs_ret (ge_callTy call_tuple_of cs_tup rfl T.b_tuple (by decide +kernel) (ga_cons (GN.ge (gn_sortN rfl (u66 hr) rfl T.b_sorted (by decide +kernel) (gv 2))) ga_nil))))))))), rd_closure_of⟩
theorem ok_named_before (T : Txt P w K mg) (C_transaction_of : Cal P w K mg base 1 "transaction_of" s_transaction_of ["history", "name"] sp_transaction_of) (C_closure_of : Cal P w K mg base 1 "closure_of" s_closure_of ["before", "name"] sp_closure_of) : Cal P w K mg base 2 "named_before" s_named_before ["history", "before", "name", "k"] sp_named_before :=
  calD T.f_named_before sc_named_before fun f cdv A outer s H E hr => ⟨d_named_before, (gss_cons (gs_asg (ge_c (takes_of rfl rfl rfl rfl) C_transaction_of hr (by decide) (ga_cons (gv 0) (ga_cons (gv 2) ga_nil))) (gg_tup rfl (ggs_cons (gg_name (i := 4) sc_named_before.nd rfl (Or.inl rfl)) (ggs_cons (gg_name (i := 5) sc_named_before.nd rfl (Or.inl rfl)) (ggs_cons (gg_name (i := 6) sc_named_before.nd rfl (Or.inl rfl)) ggs_nil)))))
  (gss_cons (gs_if (gt_cmp (op_eqA hr.units) rs_eq (gv 4) ge_str (nomark _)) (gss_one (gs_ret (ge_callTy call_tuple_of cs_tup rfl T.b_tuple (by decide +kernel) (ga_cons (GN.ge (gn_lc [("key", 7), ("source", 8)] rfl sc_named_before.nd (gi_tup (ge_sl sl_any ss_cut (gv 5) go_none (go_some (gv 3)))) (blkOk_by (own := [("key", 7), ("source", 8)]) (N := n_named_before) (sc := defScope s_named_before) (by decide +kernel)) (by decide) (fun _ _ _ _ _ => (gg_tup rfl (ggs_cons (gg_name (i := 7) sc_named_before.nd rfl (Or.inl rfl)) (ggs_cons (gg_name (i := 8) sc_named_before.nd rfl (Or.inl rfl)) ggs_nil)))) (fun _ _ _ _ _ => (gts_one (gt_cmp op_notA rs_notA (gv 8) ge_non (nomark _)))) (fun _ _ _ _ _ => (gv 8)))) ga_nil)))) gss_nil)
  (gss_cons (gs_if (gt_cmp (op_eqA hr.units) rs_eq (gv 4) ge_str (nomark _)) (gss_one (gs_ret (ge_keysT rfl rfl T.b_tuple (by decide +kernel) (ge_nget (u66 hr) (gv 1) (gv 2) (fun _ _ => rfl))))) gss_nil)
  (gss_one (gs_ret (ge_c (takes_of rfl rfl rfl rfl) C_closure_of hr (by decide) (ga_cons (gv 1) (ga_cons (gv 2) ga_nil)))))))), rd_named_before⟩
theorem ok_shares_write (T : Txt P w K mg) (C_transaction_of : Cal P w K mg base 1 "transaction_of" s_transaction_of ["history", "name"] sp_transaction_of) : Cal P w K mg base 2 "shares_write" s_shares_write ["history", "one", "other"] sp_shares_write :=
  calD T.f_shares_write sc_shares_write fun f cdv A outer s H E hr => ⟨d_shares_write, (gss_cons (gs_set (i := 3) sc_shares_write.nd rfl (Or.inr rfl) (ge_ix ix_seq rs_ix (ge_c (takes_of rfl rfl rfl rfl) C_transaction_of hr (by decide) (ga_cons (gv 0) (ga_cons (gv 2) ga_nil))) ge_int (fun _ _ => rfl)))
  (gss_one (gs_ret (ge_callB (cr_any rfl) cs_any rfl T.b_any (by decide +kernel) (ga_cons (GN.ge (gn_lc [("key", 4)] rfl sc_shares_write.nd (gi_tup (ge_ix ix_seq rs_ix (ge_c (takes_of rfl rfl rfl rfl) C_transaction_of hr (by decide) (ga_cons (gv 0) (ga_cons (gv 1) ga_nil))) ge_int (fun _ _ => rfl))) (blkOk_by (own := [("key", 4)]) (N := n_shares_write) (sc := defScope s_shares_write) (by decide +kernel)) (by decide) (fun _ _ _ _ _ => (gg_name (i := 4) sc_shares_write.nd rfl (Or.inl rfl))) (fun _ _ _ _ _ => gts_nil) (fun _ _ _ _ _ => (ge_cmp (op_inB hr.units) rs_inB (gv 4) (gv 3) rfl)))) ga_nil))))), rd_shares_write⟩
theorem ok_last_seen (T : Txt P w K mg) (C_transaction_of : Cal P w K mg base 1 "transaction_of" s_transaction_of ["history", "name"] sp_transaction_of) (C_shares_write : Cal P w K mg base 2 "shares_write" s_shares_write ["history", "one", "other"] sp_shares_write) : Cal P w K mg base 3 "last_seen" s_last_seen ["history", "before", "places", "name"] sp_last_seen :=
  calD T.f_last_seen sc_last_seen fun f cdv A outer s H E hr => ⟨d_last_seen, (gss_cons (gs_set (i := 4) sc_last_seen.nd rfl (Or.inl rfl) (ge_ix ix_seq rs_ix (ge_c (takes_of rfl rfl rfl rfl) C_transaction_of hr (by decide) (ga_cons (gv 0) (ga_cons (gv 3) ga_nil))) ge_int (fun _ _ => rfl)))
  (gss_cons (gs_if (gt_cmp (op_eqA hr.units) rs_eq (gv 4) ge_str (nomark _)) (gss_one (gs_ret (ge_op op_sub rs_J (ge_nget (u66 hr) (gv 2) (gv 3) (fun _ _ => rfl)) ge_int))) gss_nil)
  (gss_cons (gs_setLcO (k := 5) [("other", 6)] rfl sc_last_seen.nd rfl rfl (sw_true rfl rfl rfl (by decide +kernel)) (gi_keyD (ge_nget (u66 hr) (gv 1) (gv 3) (fun _ _ => rfl))) (blkOk_by (own := [("other", 6)]) (N := n_last_seen) (sc := defScope s_last_seen) (by decide +kernel)) (by decide) (fun _ _ _ _ _ => (gg_name (i := 6) sc_last_seen.nd rfl (Or.inl rfl))) (fun _ _ _ _ _ => gts_nil) (fun _ _ _ _ _ => (ge_nget (u66 hr) (gv 2) (gv 6) (fun _ _ => rfl))))
  (gss_cons (gs_if (gt_cmp (op_eqA hr.units) rs_eq (gv 4) ge_str (nomark _)) (gss_one (gs_augL 5 sc_last_seen.nd rfl (Or.inl rfl) (GN.ge (gn_lc [("other", 6)] rfl sc_last_seen.nd (gi_keyD (gv 2)) (blkOk_by (own := [("other", 6)]) (N := n_last_seen) (sc := defScope s_last_seen) (by decide +kernel)) (by decide) (fun _ _ _ _ _ => (gg_name (i := 6) sc_last_seen.nd rfl (Or.inl rfl))) (fun _ _ _ _ _ => (gts_one (GW.gt (gw_and (gt_cmp op_ltA rs_cmp (ge_nget (u66 hr) (gv 2) (gv 6) (fun _ _ => rfl)) (ge_nget (u66 hr) (gv 2) (gv 3) (fun _ _ => rfl)) (nomark _)) (gw_and1 (gt_val (ge_c takes0 C_shares_write hr (by decide) (ga_cons (gv 0) (ga_cons (gv 6) (ga_cons (gv 3) ga_nil)))))))))) (fun _ _ _ _ _ => (ge_nget (u66 hr) (gv 2) (gv 6) (fun _ _ => rfl))))))) gss_nil)
  (gss_frz 5 (gss_one (gs_ret (ge_pickD (cr_maxPickD rfl (u66 hr)) rfl T.b_max (by decide +kernel) (gv 5) (ge_gc T.c_NONE_SEEN))))))))), rd_last_seen⟩
theorem ok_seen_writers (T : Txt P w K mg) (C_transaction_of : Cal P w K mg base 1 "transaction_of" s_transaction_of ["history", "name"] sp_transaction_of) (C_writers_of : Cal P w K mg base 2 "writers_of" s_writers_of ["history", "key"] sp_writers_of) (C_level_rank : Cal P w K mg base 1 "level_rank" s_level_rank ["level"] sp_level_rank) (C_named_before : Cal P w K mg base 2 "named_before" s_named_before ["history", "before", "name", "k"] sp_named_before) (C_last_seen : Cal P w K mg base 3 "last_seen" s_last_seen ["history", "before", "places", "name"] sp_last_seen) : Cal P w K mg base 4 "seen_writers" s_seen_writers ["history", "before", "places", "name", "k"] sp_seen_writers :=
  calD T.f_seen_writers sc_seen_writers fun f cdv A outer s H E hr => ⟨d_seen_writers, (gss_cons (gs_asg (ge_c (takes_of rfl rfl rfl rfl) C_transaction_of hr (by decide) (ga_cons (gv 0) (ga_cons (gv 3) ga_nil))) (gg_tup rfl (ggs_cons (gg_name (i := 5) sc_seen_writers.nd rfl (Or.inl rfl)) (ggs_cons (gg_name (i := 6) sc_seen_writers.nd rfl (Or.inl rfl)) (ggs_cons (gg_name (i := 7) sc_seen_writers.nd rfl (Or.inl rfl)) ggs_nil)))))
  (gss_cons (gs_asg (ge_ix ix_seq rs_ix (gv 6) (gv 4) (fun _ _ => rfl)) (gg_tup rfl (ggs_cons (gg_name (i := 8) sc_seen_writers.nd rfl (Or.inl rfl)) (ggs_cons (gg_name (i := 9) sc_seen_writers.nd rfl (Or.inr rfl)) ggs_nil))))
  (gss_cons (gs_setLc (k := 10) [("other", 13)] rfl sc_seen_writers.nd rfl rfl (sw_true rfl rfl rfl (by decide +kernel)) (gi_tup (ge_c (takes_of rfl rfl rfl rfl) C_writers_of hr (by decide) (ga_cons (gv 0) (ga_cons (gv 8) ga_nil)))) (blkOk_by (own := [("other", 13)]) (N := n_seen_writers) (sc := defScope s_seen_writers) (by decide +kernel)) (by decide) (fun _ _ _ _ _ => (gg_name (i := 13) sc_seen_writers.nd rfl (Or.inl rfl))) (fun _ _ _ _ _ => (gts_one (GW.gt (gw_and (gt_cmp (op_neA hr.units) rs_ne (gv 13) (gv 3) (nomark _)) (gw_and1 (gt_cmp (op_neA hr.units) rs_ne (gv 13) (gv 9) (nomark _))))))) (fun _ _ _ _ _ => (gv 13)))
  (gss_cons (gs_if (gt_cmp op_leA rs_cmp (ge_c (takes_of rfl rfl rfl rfl) C_level_rank hr (by decide) (ga_cons (gv 5) ga_nil)) (ge_c (takes_of rfl rfl rfl rfl) C_level_rank hr (by decide) (ga_cons ge_str ga_nil)) (nomark _)) (gss_cons (gs_set (i := 11) sc_seen_writers.nd rfl (Or.inr rfl) (ge_c (takes_of rfl rfl rfl rfl) C_named_before hr (by decide) (ga_cons (gv 0) (ga_cons (gv 1) (ga_cons (gv 3) (ga_cons (gv 4) ga_nil))))))
  (gss_one (gs_ret (GN.ge (gn_lc [("other", 13)] rfl sc_seen_writers.nd (gi_list (gv 10)) (blkOk_by (own := [("other", 13)]) (N := n_seen_writers) (sc := defScope s_seen_writers) (by decide +kernel)) (by decide) (fun _ _ _ _ _ => (gg_name (i := 13) sc_seen_writers.nd rfl (Or.inl rfl))) (fun _ _ _ _ _ => (gts_one (gt_cmp (op_inB hr.units) rs_inB (gv 13) (gv 11) rfl))) (fun _ _ _ _ _ => (gv 13))))))) gss_nil)
  (gss_cons (gs_set (i := 12) sc_seen_writers.nd rfl (Or.inr rfl) (ge_c (takes_of rfl rfl rfl rfl) C_last_seen hr (by decide) (ga_cons (gv 0) (ga_cons (gv 1) (ga_cons (gv 2) (ga_cons (gv 3) ga_nil))))))
  (gss_one (gs_ret (GN.ge (gn_lc [("other", 13)] rfl sc_seen_writers.nd (gi_list (gv 10)) (blkOk_by (own := [("other", 13)]) (N := n_seen_writers) (sc := defScope s_seen_writers) (by decide +kernel)) (by decide) (fun _ _ _ _ _ => (gg_name (i := 13) sc_seen_writers.nd rfl (Or.inl rfl))) (fun _ _ _ _ _ => (gts_one (gt_cmp op_leA rs_cmp (ge_nget (u66 hr) (gv 2) (gv 13) (fun _ _ => rfl)) (gv 12) (nomark _)))) (fun _ _ _ _ _ => (gv 13))))))))))), rd_seen_writers⟩
theorem ok_is_order (T : Txt P w K mg) (C_is_name_form : Cal P w K mg base 3 "is_name_form" s_is_name_form ["value"] sp_is_name_form) (C_names_of : Cal P w K mg base 1 "names_of" s_names_of ["history"] sp_names_of) : Cal P w K mg base 4 "is_order" s_is_order ["history", "value"] sp_is_order :=
  calD T.f_is_order sc_is_order fun f cdv A outer s H E hr => ⟨d_is_order, (gss_cons (gs_if (GW.gt (gw_or (gt_not (gt_val (ge_callB call_isi cs_isi rfl T.b_isinstance (by decide +kernel) (ga_cons (gv 1) (ga_cons (ge_ty T.b_tuple (by decide +kernel)) ga_nil))))) (gw_or1 (gt_not (gt_val (ge_callB (cr_all rfl) cs_all rfl T.b_all (by decide +kernel) (ga_cons (GN.ge (gn_lc [("name", 2)] rfl sc_is_order.nd (gi_tup (gv 1)) (blkOk_by (own := [("name", 2)]) (N := n_is_order) (sc := defScope s_is_order) (by decide +kernel)) (by decide) (fun _ _ _ _ _ => (gg_name (i := 2) sc_is_order.nd rfl (Or.inl rfl))) (fun _ _ _ _ _ => gts_nil) (fun _ _ _ _ _ => (ge_c takes0 C_is_name_form hr (by decide) (ga_cons (gv 2) ga_nil))))) ga_nil))))))) (gss_one (gs_ret ge_bl)) gss_nil)
  (gss_one (gs_ret (ge_cmp (op_eqA hr.units) rs_eq (ge_callTy call_tuple_of cs_tup rfl T.b_tuple (by decide +kernel) (ga_cons (GN.ge (gn_sortU (u66 hr) rfl T.b_sorted (by decide +kernel) (gv 1))) ga_nil)) (ge_c (takes_of rfl rfl rfl rfl) C_names_of hr (by decide) (ga_cons (gv 0) ga_nil)) (nomark _))))), rd_is_order⟩
theorem ok_first_turned (T : Txt P w K mg)  : Cal P w K mg base 1 "first_turned" s_first_turned ["before", "places"] sp_first_turned :=
  calD T.f_first_turned sc_first_turned fun f cdv A outer s H E hr => ⟨d_first_turned, (gss_cons (gs_setLc2 (k := 2) [("other", 3), ("one", 4)] [4] rfl sc_first_turned.nd rfl rfl (sw_true rfl rfl rfl (by decide +kernel)) (gi_keyD (gv 0)) (blkOk_by (own := [("other", 3), ("one", 4)]) (N := n_first_turned) (sc := defScope s_first_turned) (by decide +kernel)) (by decide) (by decide) (by decide) (fun _ _ _ _ _ => (gg_name (i := 3) sc_first_turned.nd rfl (Or.inl rfl))) (fun _ _ _ _ _ => gts_nil) (fun _ _ _ _ _ => (gi_keyD (ge_nget (u66 hr) (gv 0) (gv 3) (fun _ _ => rfl)))) (fun _ _ _ _ _ => (gg_name (i := 4) sc_first_turned.nd rfl (Or.inl rfl))) (fun _ _ _ _ _ => (gts_one (gt_cmp op_gtA rs_cmp (ge_nget (u66 hr) (gv 1) (gv 4) (fun _ _ => rfl)) (ge_nget (u66 hr) (gv 1) (gv 3) (fun _ _ => rfl)) (nomark _)))) (fun _ _ _ _ _ => (ge_tup (ga_cons (gv 4) (ga_cons (gv 3) ga_nil)))))
  (gss_one (gs_ret (ge_pickD (cr_minPickD rfl (u66 hr)) rfl T.b_min (by decide +kernel) (gv 2) ge_non)))), rd_first_turned⟩
theorem ok_first_unseen (T : Txt P w K mg) (C_names_of : Cal P w K mg base 1 "names_of" s_names_of ["history"] sp_names_of) (C_transaction_of : Cal P w K mg base 1 "transaction_of" s_transaction_of ["history", "name"] sp_transaction_of) (C_seen_writers : Cal P w K mg base 4 "seen_writers" s_seen_writers ["history", "before", "places", "name", "k"] sp_seen_writers) : Cal P w K mg base 5 "first_unseen" s_first_unseen ["history", "before", "places"] sp_first_unseen :=
  calD T.f_first_unseen sc_first_unseen fun f cdv A outer s H E hr => ⟨d_first_unseen, (gss_cons (gs_for (passes_of rfl) rfl (gi_tup (ge_c (takes_of rfl rfl rfl rfl) C_names_of hr (by decide) (ga_cons (gv 0) ga_nil))) (gg_name (i := 3) sc_first_unseen.nd rfl (Or.inl rfl))
  (gss_one (gs_for (passes_of rfl) rfl (gi_enum rfl T.b_enumerate (ga_cons (ge_ix ix_seq rs_ix (ge_c (takes_of rfl rfl rfl rfl) C_transaction_of hr (by decide) (ga_cons (gv 0) (ga_cons (gv 3) ga_nil))) ge_int (fun _ _ => rfl)) ga_nil)) (gg_tup rfl (ggs_cons (gg_name (i := 4) sc_first_unseen.nd rfl (Or.inl rfl)) (ggs_cons (gg_tup rfl (ggs_cons (gg_name (i := 5) sc_first_unseen.nd rfl (Or.inl rfl)) (ggs_cons (gg_name (i := 6) sc_first_unseen.nd rfl (Or.inl rfl)) ggs_nil))) ggs_nil)))
  (gss_one (gs_for (passes_of rfl) rfl (gi_list (ge_c (takes_of rfl rfl rfl rfl) C_seen_writers hr (by decide) (ga_cons (gv 0) (ga_cons (gv 1) (ga_cons (gv 2) (ga_cons (gv 3) (ga_cons (gv 4) ga_nil))))))) (gg_name (i := 7) sc_first_unseen.nd rfl (Or.inl rfl))
  (gss_one (gs_if (GW.gt (gw_or (gt_cmp op_isA rs_isA (gv 6) ge_non (nomark _)) (gw_or1 (gt_cmp op_gtA rs_cmp (ge_nget (u66 hr) (gv 2) (gv 7) (fun _ _ => rfl)) (ge_nget (u66 hr) (gv 2) (gv 6) (fun _ _ => rfl)) (nomark _))))) (gss_one (gs_ret (ge_tup (ga_cons (gv 3) (ga_cons (gv 4) (ga_cons (gv 7) ga_nil)))))) gss_nil)))))))
  (gss_one (gs_ret ge_non))), rd_first_unseen⟩
theorem ok_order_fault (T : Txt P w K mg) (C_check_history : Cal P w K mg base 8 "check_history" s_check_history ["history"] sp_check_history) (C_is_order : Cal P w K mg base 4 "is_order" s_is_order ["history", "value"] sp_is_order) (C_predecessors : Cal P w K mg base 3 "predecessors" s_predecessors ["history"] sp_predecessors) (C_first_turned : Cal P w K mg base 1 "first_turned" s_first_turned ["before", "places"] sp_first_turned) (C_first_unseen : Cal P w K mg base 5 "first_unseen" s_first_unseen ["history", "before", "places"] sp_first_unseen) : Cal P w K mg base 9 "order_fault" s_order_fault ["history", "value"] sp_order_fault :=
  calD T.f_order_fault sc_order_fault fun f cdv A outer s H E hr => ⟨d_order_fault, (gss_cons (gs_expr (ge_c (takes_of rfl rfl rfl rfl) C_check_history hr (by decide) (ga_cons (gv 0) ga_nil)))
  (gss_cons (gs_if (gt_not (gt_val (ge_c (takes_of rfl rfl rfl rfl) C_is_order hr (by decide) (ga_cons (gv 0) (ga_cons (gv 1) ga_nil))))) (gss_one (gs_ret (ge_tup (ga_cons ge_str ga_nil)))) gss_nil)
  (gss_cons (gs_set (i := 2) sc_order_fault.nd rfl (Or.inl rfl) (ge_c (takes_of rfl rfl rfl rfl) C_predecessors hr (by decide) (ga_cons (gv 0) ga_nil)))
  (gss_cons (gs_setNDcO (k := 3) [("at", 6), ("name", 7)] (u66 hr) rfl sc_order_fault.nd rfl rfl (swd_true rfl rfl rfl (by decide +kernel)) (gi_enum rfl T.b_enumerate (ga_cons (gv 1) ga_nil)) (blkOk_by (own := [("at", 6), ("name", 7)]) (N := n_order_fault) (sc := defScope s_order_fault) (by decide +kernel)) (by decide) (fun _ _ _ _ _ => (gg_tup rfl (ggs_cons (gg_name (i := 6) sc_order_fault.nd rfl (Or.inl rfl)) (ggs_cons (gg_name (i := 7) sc_order_fault.nd rfl (Or.inl rfl)) ggs_nil)))) (fun _ _ _ _ _ => gts_nil) (fun _ _ _ _ _ => (gv 7)) (fun _ _ _ _ _ => (gv 6)))
  (gss_frzN 3 (gss_cons (gs_set (i := 4) sc_order_fault.nd rfl (Or.inl rfl) (ge_c (takes_of rfl rfl rfl rfl) C_first_turned hr (by decide) (ga_cons (gv 2) (ga_cons (gv 3) ga_nil))))
  (gss_cons (gs_if (gt_cmp op_notA rs_notA (gv 4) ge_non (nomark _)) (gss_one (gs_ret (ge_op op_addA rs_add (ge_tup (ga_cons ge_str ga_nil)) (gv 4)))) gss_nil)
  (gss_cons (gs_set (i := 5) sc_order_fault.nd rfl (Or.inl rfl) (ge_c (takes_of rfl rfl rfl rfl) C_first_unseen hr (by decide) (ga_cons (gv 0) (ga_cons (gv 2) (ga_cons (gv 3) ga_nil)))))
  (gss_one (gs_ret (ge_if (gt_cmp op_isA rs_isA (gv 5) ge_non (nomark _)) ge_non (ge_op op_addA rs_add (ge_tup (ga_cons ge_str ga_nil)) (gv 5))))))))))))), rd_order_fault⟩
theorem ok_law_begin (T : Txt P w K mg)  : Cal P w K mg base 1 "_law_begin" s_law_begin ["script"] sp_law_begin :=
  calD T.f_law_begin sc_law_begin fun f cdv A outer s H E hr => ⟨d_law_begin, (gss_cons (gs_set (i := 1) sc_law_begin.nd rfl (Or.inl rfl) (ge_newW (gn_lst ga_nil)))
  (gss_cons (gs_set (i := 2) sc_law_begin.nd rfl (Or.inl rfl) ge_int)
  (gss_cons (gs_for (passes_of rfl) rfl (gi_list (ge_sl sl_any ss_cut (gv 0) go_none (go_some ge_int))) (gg_name (i := 3) sc_law_begin.nd rfl (Or.inl rfl))
  (gss_one (gs_if (gt_cmp op_geA rs_cmp (gv 3) (ge_op op_pow rs_I ge_int ge_int) (nomark _)) (gss_one (gs_appW (gv 1) (gv 3))) (gss_one (gs_set (i := 2) sc_law_begin.nd rfl (Or.inl rfl) (ge_op op_mod rs_I (ge_callTy call_intA cs_int rfl T.b_int (by decide +kernel) (ga_cons (ge_op op_addA rs_add (ge_op op_mulAll rs_mulA (gv 2) ge_int) (gv 3)) ga_nil)) ge_int))))))
  (gss_one (gs_retW (gn_lst (ga_cons (gv 1) (ga_cons (gv 2) (ga_cons (ge_callB call_len cs_len rfl T.b_len (by decide +kernel) (ga_cons (gv 0) ga_nil)) ga_nil))))))))), rd_law_begin⟩
theorem ok_law_draw (T : Txt P w K mg)  : Cal P w K mg base 1 "_law_draw" s_law_draw ["state", "many"] sp_law_draw :=
  calD T.f_law_draw sc_law_draw fun f cdv A outer s H E hr => ⟨d_law_draw, (gss_cons (gs_set (i := 2) sc_law_draw.nd rfl (Or.inl rfl) (ge_ixW (gv 0) ge_int (fun _ _ => rfl)))
  (gss_cons (gs_while (passes_of rfl) (gt_cmp op_gtA rs_cmp (ge_lenW rfl T.b_len (by decide +kernel) (gv 2)) ge_int (nomark _))
  (gss_cons (gs_set (i := 3) sc_law_draw.nd rfl (Or.inl rfl) (ge_ixW (gv 2) ge_int (fun _ _ => rfl)))
  (gss_cons (gs_if (gt_cmp op_gtA rs_cmp (gv 3) ge_int (nomark _)) (gss_cons (gs_setW (ge_op op_fdivW rs_I (gv 3) (gv 1)) (gv 2) ge_int)
  (gss_one (gs_ret (ge_op op_mod rs_I (ge_callTy call_intA cs_int rfl T.b_int (by decide +kernel) (ga_cons (gv 3) ga_nil)) (gv 1))))) gss_nil)
  (gss_one (gs_popW (gv 2) ge_int)))))
  (gss_cons (gs_setW (ge_op op_addA rs_add (ge_ixW (gv 0) ge_int (fun _ _ => rfl)) ge_int) (gv 0) ge_int)
  (gss_cons (gs_set (i := 4) sc_law_draw.nd rfl (Or.inl rfl) (ge_op op_mod rs_I (ge_callTy call_intA cs_int rfl T.b_int (by decide +kernel) (ga_cons (ge_op op_addA rs_add (ge_ixW (gv 0) ge_int (fun _ _ => rfl)) (ge_op op_mulAll rs_mulA (ge_ixW (gv 0) ge_int (fun _ _ => rfl)) ge_int)) ga_nil)) ge_int))
  (gss_cons (gs_set (i := 4) sc_law_draw.nd rfl (Or.inl rfl) (ge_op op_mod rs_I (ge_callTy call_intA cs_int rfl T.b_int (by decide +kernel) (ga_cons (ge_op op_addA rs_add (ge_op op_mulAll rs_mulA (gv 4) (gv 4)) (ge_ixW (gv 0) ge_int (fun _ _ => rfl))) ga_nil)) ge_int))
  (gss_cons (gs_set (i := 4) sc_law_draw.nd rfl (Or.inl rfl) (ge_op op_mod rs_I (ge_callTy call_intA cs_int rfl T.b_int (by decide +kernel) (ga_cons (ge_op op_addA rs_add (ge_op op_mulAll rs_mulA (gv 4) (gv 4)) (ge_ixW (gv 0) ge_int (fun _ _ => rfl))) ga_nil)) ge_int))
  (gss_one (gs_ret (ge_op op_mod rs_I (ge_callTy call_intA cs_int rfl T.b_int (by decide +kernel) (ga_cons (gv 4) ga_nil)) (gv 1)))))))))), rd_law_draw⟩
theorem step_law_same (T : Txt P w K mg)  {k : Nat} {sp0 sp1 : SpD} (C_law_same : Cal P w K mg base k "_law_same" s_law_same ["actual", "due"] sp0) (hk : 0 ≤ k) (rd : ∀ ds W Qd Qx, ds.length = 2 → sp1 ds W Qd Qx → d_law_same sp0 { nx := fun _ W' => Qd .non W', rt := Qd, ex := fun cls x _ W' => Qx cls x W' } (ds.map (fun d => some (Sl.sh d)) ++ List.replicate (n_law_same.length - ds.length) none) W) : Cal P w K mg base (k + 1) "_law_same" s_law_same ["actual", "due"] sp1 :=
  calD T.f_law_same sc_law_same fun f cdv A outer s H E hr => ⟨d_law_same sp0, (gss_cons (gs_if (gt_cmp op_isA rs_isA (gv 1) ge_non (nomark _)) (gss_one (gs_ret (ge_cmp op_isA rs_isA (gv 0) ge_non (nomark _)))) gss_nil)
  (gss_cons (gs_if (gt_cmp op_isA rs_isA (gv 1) ge_bl (nomark _)) (gss_one (gs_ret (ge_cmp op_isA rs_isA (gv 0) ge_bl (nomark _)))) gss_nil)
  (gss_cons (gs_if (gt_cmp op_isA rs_isA (gv 1) ge_bl (nomark _)) (gss_one (gs_ret (ge_cmp op_isA rs_isA (gv 0) ge_bl (nomark _)))) gss_nil)
  (gss_cons (gs_if (gt_val (ge_callB call_isi cs_isi rfl T.b_isinstance (by decide +kernel) (ga_cons (gv 1) (ga_cons (ge_ty T.b_str (by decide +kernel)) ga_nil)))) (gss_one (gs_ret (ge_and (ge_callB call_isi cs_isi rfl T.b_isinstance (by decide +kernel) (ga_cons (gv 0) (ga_cons (ge_ty T.b_str (by decide +kernel)) ga_nil))) (ge_one (ge_cmp (op_eqA hr.units) rs_eq (gv 0) (gv 1) (nomark _)))))) gss_nil)
  (gss_cons (gs_if (gt_val (ge_callB call_isi cs_isi rfl T.b_isinstance (by decide +kernel) (ga_cons (gv 1) (ga_cons (ge_ty T.b_int (by decide +kernel)) ga_nil)))) (gss_one (gs_ret (ge_and (ge_callB call_isi cs_isi rfl T.b_isinstance (by decide +kernel) (ga_cons (gv 0) (ga_cons (ge_ty T.b_int (by decide +kernel)) ga_nil))) (ge_and (ge_not (ge_callB call_isi cs_isi rfl T.b_isinstance (by decide +kernel) (ga_cons (gv 0) (ga_cons (ge_ty T.b_bool (by decide +kernel)) ga_nil)))) (ge_one (ge_cmp (op_eqA hr.units) rs_eq (gv 0) (gv 1) (nomark _))))))) gss_nil)
  (gss_cons (gs_if (gt_val (ge_callB call_isi cs_isi rfl T.b_isinstance (by decide +kernel) (ga_cons (gv 1) (ga_cons (ge_ty T.b_tuple (by decide +kernel)) ga_nil)))) (gss_one (gs_if (gt_not (gt_val (ge_callB call_isi cs_isi rfl T.b_isinstance (by decide +kernel) (ga_cons (gv 0) (ga_cons (ge_ty T.b_tuple (by decide +kernel)) ga_nil))))) (gss_one (gs_ret ge_bl)) gss_nil)) (gss_one (gs_if (gt_not (gt_val (ge_callB call_isi cs_isi rfl T.b_isinstance (by decide +kernel) (ga_cons (gv 0) (ga_cons (ge_ty T.b_list (by decide +kernel)) ga_nil))))) (gss_one (gs_ret ge_bl)) gss_nil)))
  (gss_cons (gs_if (gt_cmp (op_neA hr.units) rs_ne (ge_callB call_len cs_len rfl T.b_len (by decide +kernel) (ga_cons (gv 0) ga_nil)) (ge_callB call_len cs_len rfl T.b_len (by decide +kernel) (ga_cons (gv 1) ga_nil)) (nomark _)) (gss_one (gs_ret ge_bl)) gss_nil)
  (gss_cons (gs_for (passes_of rfl) rfl (gi_zip rfl T.b_zip (ga_cons (gv 0) (ga_cons (gv 1) ga_nil))) (gg_tup rfl (ggs_cons (gg_name (i := 2) sc_law_same.nd rfl (Or.inl rfl)) (ggs_cons (gg_name (i := 3) sc_law_same.nd rfl (Or.inl rfl)) ggs_nil)))
  (gss_one (gs_if (gt_not (gt_val (ge_c (takes_of rfl rfl rfl rfl) C_law_same hr (Nat.le_refl _) (ga_cons (gv 2) (ga_cons (gv 3) ga_nil))))) (gss_one (gs_ret ge_bl)) gss_nil)))
  (gss_one (gs_ret ge_bl)))))))))), rd⟩
theorem ok_law_same (T : Txt P w K mg)  : Cal P w K mg base 7 "_law_same" s_law_same ["actual", "due"] sp_law_same := by
  have c0 := step_law_same (P := P) (w := w) (base := base) T  (cal_no (k := 1) T.f_law_same) (by decide) (rdn_law_same 0 spNo fun m h => by cases h)
  have c1 := step_law_same T  c0 (by decide) (rdn_law_same 1 (spn_law_same 0) fun m h => by cases h; rfl)
  have c2 := step_law_same T  c1 (by decide) (rdn_law_same 2 (spn_law_same 1) fun m h => by cases h; rfl)
  have c3 := step_law_same T  c2 (by decide) (rdn_law_same 3 (spn_law_same 2) fun m h => by cases h; rfl)
  have c4 := step_law_same T  c3 (by decide) (rdn_law_same 4 (spn_law_same 3) fun m h => by cases h; rfl)
  have c5 := step_law_same T  c4 (by decide) (rdn_law_same 5 (spn_law_same 4) fun m h => by cases h; rfl)
  exact c5
theorem ok_law_keys (T : Txt P w K mg) (C_law_draw : Cal P w K mg base 1 "_law_draw" s_law_draw ["state", "many"] sp_law_draw) : Cal P w K mg base 2 "_law_keys" s_law_keys ["state", "many"] sp_law_keys :=
  calD T.f_law_keys sc_law_keys fun f cdv A outer s H E hr => ⟨d_law_keys, (gss_cons (gs_set (i := 2) sc_law_keys.nd rfl (Or.inr rfl) ge_str)
  (gss_cons (gs_set (i := 3) sc_law_keys.nd rfl (Or.inl rfl) (ge_cmp (op_eqA hr.units) rs_eq (ge_c (takes_of rfl rfl rfl rfl) C_law_draw hr (by decide) (ga_cons (gv 0) (ga_cons ge_int ga_nil))) ge_int (nomark _)))
  (gss_cons (gs_setO (i := 4) sc_law_keys.nd rfl (Or.inl rfl) (gn_lst ga_nil))
  (gss_cons (gs_for (passes_of rfl) rfl (gi_range1 rfl T.b_range (ga_cons (gv 1) ga_nil)) (gg_name (i := 5) sc_law_keys.nd rfl (Or.inl rfl))
  (gss_cons (gs_set (i := 6) sc_law_keys.nd rfl (Or.inl rfl) (ge_ix ix_seq rs_ix ge_str (gv 5) (fun _ _ => rfl)))
  (gss_cons (gs_if (gt_not (gt_val (gv 3))) (gss_one (gs_set (i := 6) sc_law_keys.nd rfl (Or.inl rfl) (ge_strM PySem.F.slot_str_join PySem.F.type_str_join mt_joinA ms_join ge_str (ga_cons (GN.ge (gn_lc [("j", 7)] rfl sc_law_keys.nd (gi_range1 rfl T.b_range (ga_cons (ge_c (takes_of rfl rfl rfl rfl) C_law_draw hr (by decide) (ga_cons (gv 0) (ga_cons ge_int ga_nil))) ga_nil)) (blkOk_by (own := [("j", 7)]) (N := n_law_keys) (sc := defScope s_law_keys) (by decide +kernel)) (by decide) (fun _ _ _ _ _ => (gg_name (i := 7) sc_law_keys.nd rfl (Or.inl rfl))) (fun _ _ _ _ _ => gts_nil) (fun _ _ _ _ _ => (ge_ix ix_seq rs_ix (gv 2) (ge_c takes0 C_law_draw hr (by decide) (ga_cons (gv 0) (ga_cons (ge_callB call_len cs_len rfl T.b_len (by decide +kernel) (ga_cons (gv 2) ga_nil)) ga_nil))) (fun _ _ => rfl))))) ga_nil)))) gss_nil)
  (gss_cons (gs_while (passes_of rfl) (gt_inO 4 (gv 6))
  (gss_one (gs_set (i := 6) sc_law_keys.nd rfl (Or.inl rfl) (ge_op op_addA rs_add (gv 6) ge_str))))
  (gss_one (gs_app (i := 4) (gv 6)))))))
  (gss_frz 4 (gss_one (gs_ret (gv 4)))))))), rd_law_keys⟩
theorem ok_law_parts (T : Txt P w K mg) (C_law_draw : Cal P w K mg base 1 "_law_draw" s_law_draw ["state", "many"] sp_law_draw) : Cal P w K mg base 2 "_law_parts" s_law_parts ["state", "listed", "keys", "reads"] sp_law_parts :=
  calD T.f_law_parts sc_law_parts fun f cdv A outer s H E hr => ⟨d_law_parts, (gss_cons (gs_setN (j := 4) sc_law_parts.nd rfl (Or.inr rfl))
  (gss_cons (gs_for (passes_of rfl) rfl (gi_list (gv 1)) (gg_name (i := 5) sc_law_parts.nd rfl (Or.inr rfl))
  (gss_one (gs_nputO (j := 4) (u66 hr) (ge_callTy call_tuple_of cs_tup rfl T.b_tuple (by decide +kernel) (ga_cons (GN.ge (gn_sortA (u66 hr) rfl T.b_sorted (by decide +kernel) (GN.ge (gn_lc [("key", 9)] rfl sc_law_parts.nd (gi_list (gv 2)) (blkOk_by (own := [("key", 9)]) (N := n_law_parts) (sc := defScope s_law_parts) (by decide +kernel)) (by decide) (fun _ _ _ _ _ => (gg_name (i := 9) sc_law_parts.nd rfl (Or.inl rfl))) (fun _ _ _ _ _ => (gts_one (gt_cmp (op_eqA hr.units) rs_eq (ge_c takes0 C_law_draw hr (by decide) (ga_cons (gv 0) (ga_cons ge_int ga_nil))) ge_int (nomark _)))) (fun _ _ _ _ _ => (gv 9)))))) ga_nil)) (gv 5))))
  (gss_frzN 4 (gss_cons (gs_setN (j := 6) sc_law_parts.nd rfl (Or.inl rfl))
  (gss_cons (gs_for (passes_of rfl) rfl (gi_list (gv 1)) (gg_name (i := 5) sc_law_parts.nd rfl (Or.inr rfl))
  (gss_cons (gs_setO (i := 7) sc_law_parts.nd rfl (Or.inl rfl) (gn_lst ga_nil))
  (gss_cons (gs_for (passes_of rfl) rfl (gi_range1 rfl T.b_range (ga_cons (ge_c (takes_of rfl rfl rfl rfl) C_law_draw hr (by decide) (ga_cons (gv 0) (ga_cons (ge_op op_addA rs_add (gv 3) ge_int) ga_nil))) ga_nil)) (gg_name (i := 8) sc_law_parts.nd rfl (Or.inl rfl))
  (gss_cons (gs_set (i := 9) sc_law_parts.nd rfl (Or.inr rfl) (ge_ix ix_seq rs_ix (gv 2) (ge_c (takes_of rfl rfl rfl rfl) C_law_draw hr (by decide) (ga_cons (gv 0) (ga_cons (ge_callB call_len cs_len rfl T.b_len (by decide +kernel) (ga_cons (gv 2) ga_nil)) ga_nil))) (fun _ _ => rfl)))
  (gss_cons (gs_set (i := 10) sc_law_parts.nd rfl (Or.inl rfl) (ge_op op_addA rs_add (ge_lst (ga_cons ge_non ga_nil)) (GN.ge (gn_lc [("other", 12)] rfl sc_law_parts.nd (gi_list (gv 1)) (blkOk_by (own := [("other", 12)]) (N := n_law_parts) (sc := defScope s_law_parts) (by decide +kernel)) (by decide) (fun _ _ _ _ _ => (gg_name (i := 12) sc_law_parts.nd rfl (Or.inl rfl))) (fun _ _ _ _ _ => (gts_one (GW.gt (gw_and (gt_cmp (op_neA hr.units) rs_ne (gv 12) (gv 5) (nomark _)) (gw_and1 (gt_cmp (op_inB hr.units) rs_inB (gv 9) (ge_nget (u66 hr) (gv 4) (gv 12) (fun _ _ => rfl)) rfl)))))) (fun _ _ _ _ _ => (gv 12))))))
  (gss_one (gs_app (i := 7) (ge_tup (ga_cons (gv 9) (ga_cons (ge_ix ix_seq rs_ix (gv 10) (ge_c (takes_of rfl rfl rfl rfl) C_law_draw hr (by decide) (ga_cons (gv 0) (ga_cons (ge_callB call_len cs_len rfl T.b_len (by decide +kernel) (ga_cons (gv 10) ga_nil)) ga_nil))) (fun _ _ => rfl)) ga_nil))))))))
  (gss_frz 7 (gss_cons (gs_set (i := 11) sc_law_parts.nd rfl (Or.inl rfl) (ge_ix ix_seq rs_ix (ge_lst (ga_cons ge_str (ga_cons ge_str (ga_cons ge_str (ga_cons ge_str (ga_cons ge_str (ga_cons ge_str ga_nil))))))) (ge_c (takes_of rfl rfl rfl rfl) C_law_draw hr (by decide) (ga_cons (gv 0) (ga_cons ge_int ga_nil))) (fun _ _ => rfl)))
  (gss_one (gs_nputO (j := 6) (u66 hr) (ge_tup (ga_cons (gv 11) (ga_cons (ge_callTy call_tuple_of cs_tup rfl T.b_tuple (by decide +kernel) (ga_cons (gv 7) ga_nil)) (ga_cons (ge_nget (u66 hr) (gv 4) (gv 5) (fun _ _ => rfl)) ga_nil)))) (gv 5))))))))
  (gss_frzN 6 (gss_one (gs_ret (gv 6))))))))), rd_law_parts⟩
theorem ok_law_history (T : Txt P w K mg) (C_law_draw : Cal P w K mg base 1 "_law_draw" s_law_draw ["state", "many"] sp_law_draw) (C_law_parts : Cal P w K mg base 2 "_law_parts" s_law_parts ["state", "listed", "keys", "reads"] sp_law_parts) : Cal P w K mg base 3 "_law_history" s_law_history ["state", "most", "sessions", "keys", "reads"] sp_law_history :=
  calD T.f_law_history sc_law_history fun f cdv A outer s H E hr => ⟨d_law_history, (gss_cons (gs_set (i := 5) sc_law_history.nd rfl (Or.inr rfl) (GN.ge (gn_lc [("k", 11)] rfl sc_law_history.nd (gi_range1 rfl T.b_range (ga_cons (ge_op op_addA rs_add ge_int (ge_c (takes_of rfl rfl rfl rfl) C_law_draw hr (by decide) (ga_cons (gv 0) (ga_cons (gv 1) ga_nil)))) ga_nil)) (blkOk_by (own := [("k", 11)]) (N := n_law_history) (sc := defScope s_law_history) (by decide +kernel)) (by decide) (fun _ _ _ _ _ => (gg_name (i := 11) sc_law_history.nd rfl (Or.inl rfl))) (fun _ _ _ _ _ => gts_nil) (fun _ _ _ _ _ => (ge_c takes0 C_law_draw hr (by decide) (ga_cons (gv 0) (ga_cons (gv 2) ga_nil)))))))
  (gss_cons (gs_set (i := 6) sc_law_history.nd rfl (Or.inr rfl) (GN.ge (gn_lc [("s", 8)] rfl sc_law_history.nd (gi_range1 rfl T.b_range (ga_cons (ge_op op_addA rs_add (ge_callB (cr_maxA rfl) cs_max1A rfl T.b_max (by decide +kernel) (ga_cons (gv 5) ga_nil)) ge_int) ga_nil)) (blkOk_by (own := [("s", 8)]) (N := n_law_history) (sc := defScope s_law_history) (by decide +kernel)) (by decide) (fun _ _ _ _ _ => (gg_name (i := 8) sc_law_history.nd rfl (Or.inl rfl))) (fun _ _ _ _ _ => gts_nil) (fun _ _ _ _ _ => (ge_count (gv 5) (gv 8))))))
  (gss_cons (gs_setO (i := 7) sc_law_history.nd rfl (Or.inl rfl) (gn_lst ga_nil))
  (gss_cons (gs_for (passes_of rfl) rfl (gi_range1 rfl T.b_range (ga_cons (ge_callB call_len cs_len rfl T.b_len (by decide +kernel) (ga_cons (gv 6) ga_nil)) ga_nil)) (gg_name (i := 8) sc_law_history.nd rfl (Or.inl rfl))
  (gss_one (gs_for (passes_of rfl) rfl (gi_range1 rfl T.b_range (ga_cons (ge_ix ix_seq rs_ix (gv 6) (gv 8) (fun _ _ => rfl)) ga_nil)) (gg_name (i := 9) sc_law_history.nd rfl (Or.inl rfl))
  (gss_one (gs_app (i := 7) (ge_tup (ga_cons (gv 8) (ga_cons (gv 9) ga_nil))))))))
  (gss_frz 7 (gss_cons (gs_set (i := 10) sc_law_history.nd rfl (Or.inr rfl) (ge_c (takes_of rfl rfl rfl rfl) C_law_parts hr (by decide) (ga_cons (gv 0) (ga_cons (gv 7) (ga_cons (gv 3) (ga_cons (gv 4) ga_nil))))))
  (gss_one (gs_ret (ge_callTy call_tuple_of cs_tup rfl T.b_tuple (by decide +kernel) (ga_cons (GN.ge (gn_lc [("s", 8)] rfl sc_law_history.nd (gi_range1 rfl T.b_range (ga_cons (ge_callB call_len cs_len rfl T.b_len (by decide +kernel) (ga_cons (gv 6) ga_nil)) ga_nil)) (blkOk_by (own := [("s", 8)]) (N := n_law_history) (sc := defScope s_law_history) (by decide +kernel)) (by decide) (fun _ _ _ _ _ => (gg_name (i := 8) sc_law_history.nd rfl (Or.inr rfl))) (fun _ _ _ _ _ => gts_nil) (fun _ _ _ _ _ => (ge_callTy call_tuple_of cs_tup rfl T.b_tuple (by decide +kernel) (ga_cons (GN.ge (gn_lc [("i", 9)] rfl sc_law_history.nd (gi_range1 rfl T.b_range (ga_cons (ge_ix ix_seq rs_ix (gv 6) (gv 8) (fun _ _ => rfl)) ga_nil)) (blkOk_by (own := [("i", 9)]) (N := n_law_history) (sc := bs_law_history_3) (by decide +kernel)) (by decide) (fun _ _ _ _ _ => (gg_name (i := 9) sc_law_history.nd rfl (Or.inl rfl))) (fun _ _ _ _ _ => gts_nil) (fun _ _ _ _ _ => (ge_nget (u66 hr) (gv 10) (ge_tup (ga_cons (gv 8) (ga_cons (gv 9) ga_nil))) (fun _ _ => rfl))))) ga_nil))))) ga_nil)))))))))), rd_law_history⟩
theorem ok_law_names (T : Txt P w K mg)  : Cal P w K mg base 1 "_law_names" s_law_names ["history"] sp_law_names :=
  calD T.f_law_names sc_law_names fun f cdv A outer s H E hr => ⟨d_law_names, (gss_cons (gs_setO (i := 1) sc_law_names.nd rfl (Or.inl rfl) (gn_lst ga_nil))
  (gss_cons (gs_for (passes_of rfl) rfl (gi_range1 rfl T.b_range (ga_cons (ge_callB call_len cs_len rfl T.b_len (by decide +kernel) (ga_cons (gv 0) ga_nil)) ga_nil)) (gg_name (i := 2) sc_law_names.nd rfl (Or.inl rfl))
  (gss_one (gs_for (passes_of rfl) rfl (gi_range1 rfl T.b_range (ga_cons (ge_callB call_len cs_len rfl T.b_len (by decide +kernel) (ga_cons (ge_ix ix_seq rs_ix (gv 0) (gv 2) (fun _ _ => rfl)) ga_nil)) ga_nil)) (gg_name (i := 3) sc_law_names.nd rfl (Or.inl rfl))
  (gss_one (gs_app (i := 1) (ge_tup (ga_cons (gv 2) (ga_cons (gv 3) ga_nil))))))))
  (gss_frz 1 (gss_one (gs_ret (gv 1)))))), rd_law_names⟩
theorem ok_law_before (T : Txt P w K mg) (C_law_names : Cal P w K mg base 1 "_law_names" s_law_names ["history"] sp_law_names) : Cal P w K mg base 2 "_law_before" s_law_before ["history"] sp_law_before :=
  calD T.f_law_before sc_law_before fun f cdv A outer s H E hr => ⟨d_law_before, (gss_cons (gs_setN (j := 1) sc_law_before.nd rfl (Or.inl rfl))
  (gss_cons (gs_for (passes_of rfl) rfl (gi_list (ge_c (takes_of rfl rfl rfl rfl) C_law_names hr (by decide) (ga_cons (gv 0) ga_nil))) (gg_name (i := 2) sc_law_before.nd rfl (Or.inr rfl))
  (gss_cons (gs_setLcO (k := 3) [("i", 6)] rfl sc_law_before.nd rfl rfl (sw_true rfl rfl rfl (by decide +kernel)) (gi_range1 rfl T.b_range (ga_cons (ge_ix ix_seq rs_ix (gv 2) ge_int (fun _ _ => rfl)) ga_nil)) (blkOk_by (own := [("i", 6)]) (N := n_law_before) (sc := defScope s_law_before) (by decide +kernel)) (by decide) (fun _ _ _ _ _ => (gg_name (i := 6) sc_law_before.nd rfl (Or.inl rfl))) (fun _ _ _ _ _ => gts_nil) (fun _ _ _ _ _ => (ge_tup (ga_cons (ge_ix ix_seq rs_ix (gv 2) ge_int (fun _ _ => rfl)) (ga_cons (gv 6) ga_nil)))))
  (gss_cons (gs_for (passes_of rfl) rfl (gi_tup (ge_ix ix_seq rs_ix (ge_ix ix_seq rs_ix (ge_ix ix_seq rs_ix (gv 0) (ge_ix ix_seq rs_ix (gv 2) ge_int (fun _ _ => rfl)) (fun _ _ => rfl)) (ge_ix ix_seq rs_ix (gv 2) ge_int (fun _ _ => rfl)) (fun _ _ => rfl)) ge_int (fun _ _ => rfl))) (gg_tup rfl (ggs_cons (gg_name (i := 4) sc_law_before.nd rfl (Or.inl rfl)) (ggs_cons (gg_name (i := 5) sc_law_before.nd rfl (Or.inl rfl)) ggs_nil)))
  (gss_one (gs_if (GW.gt (gw_and (gt_cmp op_notA rs_notA (gv 5) ge_non (nomark _)) (gw_and1 (gt_niNO 3 hr.units (gv 5))))) (gss_one (gs_app (i := 3) (gv 5))) gss_nil)))
  (gss_frz 3 (gss_one (gs_nputO (j := 1) (u66 hr) (gv 3) (gv 2)))))))
  (gss_frzN 1 (gss_one (gs_ret (gv 1)))))), rd_law_before⟩
theorem ok_law_closure (T : Txt P w K mg)  : Cal P w K mg base 1 "_law_closure" s_law_closure ["before", "name"] sp_law_closure :=
  calD T.f_law_closure sc_law_closure fun f cdv A outer s H E hr => ⟨d_law_closure, (gss_cons (gs_setO (i := 2) sc_law_closure.nd rfl (Or.inl rfl) (gn_list rfl T.b_list (by decide +kernel) (ge_nget (u66 hr) (gv 0) (gv 1) (fun _ _ => rfl))))
  (gss_cons (gs_for (passes_of rfl) rfl (gi_range1 rfl T.b_range (ga_cons (ge_lenN rfl T.b_len (by decide +kernel) (gv 0)) ga_nil)) (gg_name (i := 3) sc_law_closure.nd rfl (Or.inl rfl))
  (gss_one (gs_for (passes_of rfl) rfl (gi_list (GN.ge (gn_copyO 2 rfl T.b_list (by decide +kernel)))) (gg_name (i := 4) sc_law_closure.nd rfl (Or.inl rfl))
  (gss_one (gs_for (passes_of rfl) rfl (gi_list (ge_nget (u66 hr) (gv 0) (gv 4) (fun _ _ => rfl))) (gg_name (i := 5) sc_law_closure.nd rfl (Or.inl rfl))
  (gss_one (gs_if (gt_niNO 2 hr.units (gv 5)) (gss_one (gs_app (i := 2) (gv 5))) gss_nil)))))))
  (gss_frz 2 (gss_one (gs_ret (GN.ge (gn_sortA (u66 hr) rfl T.b_sorted (by decide +kernel) (gv 2)))))))), rd_law_closure⟩
theorem ok_law_shares (T : Txt P w K mg)  : Cal P w K mg base 1 "_law_shares" s_law_shares ["history", "one", "other"] sp_law_shares :=
  calD T.f_law_shares sc_law_shares fun f cdv A outer s H E hr => ⟨d_law_shares, (gss_cons (gs_set (i := 3) sc_law_shares.nd rfl (Or.inr rfl) (ge_ix ix_seq rs_ix (ge_ix ix_seq rs_ix (ge_ix ix_seq rs_ix (gv 0) (ge_ix ix_seq rs_ix (gv 2) ge_int (fun _ _ => rfl)) (fun _ _ => rfl)) (ge_ix ix_seq rs_ix (gv 2) ge_int (fun _ _ => rfl)) (fun _ _ => rfl)) ge_int (fun _ _ => rfl)))
  (gss_one (gs_ret (ge_callB (cr_any rfl) cs_any rfl T.b_any (by decide +kernel) (ga_cons (GN.ge (gn_lc [("key", 4)] rfl sc_law_shares.nd (gi_tup (ge_ix ix_seq rs_ix (ge_ix ix_seq rs_ix (ge_ix ix_seq rs_ix (gv 0) (ge_ix ix_seq rs_ix (gv 1) ge_int (fun _ _ => rfl)) (fun _ _ => rfl)) (ge_ix ix_seq rs_ix (gv 1) ge_int (fun _ _ => rfl)) (fun _ _ => rfl)) ge_int (fun _ _ => rfl))) (blkOk_by (own := [("key", 4)]) (N := n_law_shares) (sc := defScope s_law_shares) (by decide +kernel)) (by decide) (fun _ _ _ _ _ => (gg_name (i := 4) sc_law_shares.nd rfl (Or.inl rfl))) (fun _ _ _ _ _ => gts_nil) (fun _ _ _ _ _ => (ge_cmp (op_inB hr.units) rs_inB (gv 4) (gv 3) rfl)))) ga_nil))))), rd_law_shares⟩
theorem ok_law_must_see (T : Txt P w K mg) (C_law_shares : Cal P w K mg base 1 "_law_shares" s_law_shares ["history", "one", "other"] sp_law_shares) : Cal P w K mg base 2 "_law_must_see" s_law_must_see ["history", "before", "closures", "places", "t3", "k", "t2"] sp_law_must_see :=
  calD T.f_law_must_see sc_law_must_see fun f cdv A outer s H E hr => ⟨d_law_must_see, (gss_cons (gs_asg (ge_ix ix_seq rs_ix (ge_ix ix_seq rs_ix (gv 0) (ge_ix ix_seq rs_ix (gv 4) ge_int (fun _ _ => rfl)) (fun _ _ => rfl)) (ge_ix ix_seq rs_ix (gv 4) ge_int (fun _ _ => rfl)) (fun _ _ => rfl)) (gg_tup rfl (ggs_cons (gg_name (i := 7) sc_law_must_see.nd rfl (Or.inl rfl)) (ggs_cons (gg_name (i := 8) sc_law_must_see.nd rfl (Or.inl rfl)) (ggs_cons (gg_name (i := 9) sc_law_must_see.nd rfl (Or.inl rfl)) ggs_nil)))))
  (gss_cons (gs_asg (ge_ix ix_seq rs_ix (gv 8) (gv 5) (fun _ _ => rfl)) (gg_tup rfl (ggs_cons (gg_name (i := 10) sc_law_must_see.nd rfl (Or.inl rfl)) (ggs_cons (gg_name (i := 11) sc_law_must_see.nd rfl (Or.inl rfl)) ggs_nil))))
  (gss_cons (gs_if (GW.gt (gw_or (gt_cmp (op_eqA hr.units) rs_eq (gv 6) (gv 4) (nomark _)) (gw_or (gt_cmp (op_eqA hr.units) rs_eq (gv 6) (gv 11) (nomark _)) (gw_or1 (gt_cmp (op_niB hr.units) rs_inB (gv 10) (ge_ix ix_seq rs_ix (ge_ix ix_seq rs_ix (ge_ix ix_seq rs_ix (gv 0) (ge_ix ix_seq rs_ix (gv 6) ge_int (fun _ _ => rfl)) (fun _ _ => rfl)) (ge_ix ix_seq rs_ix (gv 6) ge_int (fun _ _ => rfl)) (fun _ _ => rfl)) ge_int (fun _ _ => rfl)) rfl))))) (gss_one (gs_ret ge_bl)) gss_nil)
  (gss_cons (gs_if (gt_cmp (op_eqA hr.units) rs_eq (gv 7) ge_str (nomark _)) (gss_one (gs_ret (ge_cmp (op_inB hr.units) rs_inB (gv 6) (GN.ge (gn_lc [("other", 14), ("one", 15)] rfl sc_law_must_see.nd (gi_tup (ge_sl sl_any ss_cut (gv 8) go_none (go_some (gv 5)))) (blkOk_by (own := [("other", 14), ("one", 15)]) (N := n_law_must_see) (sc := defScope s_law_must_see) (by decide +kernel)) (by decide) (fun _ _ _ _ _ => (gg_tup rfl (ggs_cons (gg_name (i := 14) sc_law_must_see.nd rfl (Or.inl rfl)) (ggs_cons (gg_name (i := 15) sc_law_must_see.nd rfl (Or.inl rfl)) ggs_nil)))) (fun _ _ _ _ _ => gts_nil) (fun _ _ _ _ _ => (gv 15)))) rfl))) gss_nil)
  (gss_cons (gs_if (gt_cmp (op_eqA hr.units) rs_eq (gv 7) ge_str (nomark _)) (gss_one (gs_ret (ge_cmp (op_inB hr.units) rs_inB (gv 6) (ge_nget (u66 hr) (gv 1) (gv 4) (fun _ _ => rfl)) rfl))) gss_nil)
  (gss_cons (gs_if (gt_cmp (op_eqA hr.units) rs_eq (gv 7) ge_str (nomark _)) (gss_one (gs_ret (ge_cmp (op_inB hr.units) rs_inB (gv 6) (ge_nget (u66 hr) (gv 2) (gv 4) (fun _ _ => rfl)) rfl))) gss_nil)
  (gss_cons (gs_if (gt_cmp (op_eqA hr.units) rs_eq (gv 7) ge_str (nomark _)) (gss_one (gs_ret (ge_cmp op_ltA rs_cmp (ge_nget (u66 hr) (gv 3) (gv 6) (fun _ _ => rfl)) (ge_nget (u66 hr) (gv 3) (gv 4) (fun _ _ => rfl)) (nomark _)))) gss_nil)
  (gss_cons (gs_for (passes_of rfl) rfl (gi_keyD (gv 3)) (gg_name (i := 12) sc_law_must_see.nd rfl (Or.inl rfl))
  (gss_cons (gs_set (i := 13) sc_law_must_see.nd rfl (Or.inl rfl) (ge_cmp (op_inB hr.units) rs_inB (gv 12) (ge_nget (u66 hr) (gv 1) (gv 4) (fun _ _ => rfl)) rfl))
  (gss_cons (gs_if (GW.gt (gw_and (gt_cmp (op_eqA hr.units) rs_eq (gv 7) ge_str (nomark _)) (gw_and (gt_cmp (op_neA hr.units) rs_ne (gv 12) (gv 4) (nomark _)) (gw_and (gt_cmp op_ltA rs_cmp (ge_nget (u66 hr) (gv 3) (gv 12) (fun _ _ => rfl)) (ge_nget (u66 hr) (gv 3) (gv 4) (fun _ _ => rfl)) (nomark _)) (gw_and1 (gt_val (ge_c (takes_of rfl rfl rfl rfl) C_law_shares hr (by decide) (ga_cons (gv 0) (ga_cons (gv 12) (ga_cons (gv 4) ga_nil)))))))))) (gss_one (gs_set (i := 13) sc_law_must_see.nd rfl (Or.inl rfl) ge_bl)) gss_nil)
  (gss_one (gs_if (GW.gt (gw_and (gt_val (gv 13)) (gw_and1 (gt_cmp op_leA rs_cmp (ge_nget (u66 hr) (gv 3) (gv 6) (fun _ _ => rfl)) (ge_nget (u66 hr) (gv 3) (gv 12) (fun _ _ => rfl)) (nomark _))))) (gss_one (gs_ret ge_bl)) gss_nil)))))
  (gss_one (gs_ret ge_bl)))))))))), rd_law_must_see⟩
theorem ok_law_due (T : Txt P w K mg) (C_law_names : Cal P w K mg base 1 "_law_names" s_law_names ["history"] sp_law_names) (C_law_must_see : Cal P w K mg base 2 "_law_must_see" s_law_must_see ["history", "before", "closures", "places", "t3", "k", "t2"] sp_law_must_see) : Cal P w K mg base 3 "_law_due" s_law_due ["history", "before", "closures", "order"] sp_law_due :=
  calD T.f_law_due sc_law_due fun f cdv A outer s H E hr => ⟨d_law_due, (gss_cons (gs_setN (j := 4) sc_law_due.nd rfl (Or.inl rfl))
  (gss_cons (gs_for (passes_of rfl) rfl (gi_range1 rfl T.b_range (ga_cons (ge_callB call_len cs_len rfl T.b_len (by decide +kernel) (ga_cons (gv 3) ga_nil)) ga_nil)) (gg_name (i := 5) sc_law_due.nd rfl (Or.inl rfl))
  (gss_one (gs_nputO (j := 4) (u66 hr) (gv 5) (ge_ix ix_seq rs_ix (gv 3) (gv 5) (fun _ _ => rfl)))))
  (gss_frzN 4 (gss_cons (gs_setO (i := 6) sc_law_due.nd rfl (Or.inl rfl) (gn_lst ga_nil))
  (gss_cons (gs_for (passes_of rfl) rfl (gi_tup (gv 3)) (gg_name (i := 7) sc_law_due.nd rfl (Or.inl rfl))
  (gss_one (gs_for (passes_of rfl) rfl (gi_list (ge_nget (u66 hr) (gv 1) (gv 7) (fun _ _ => rfl))) (gg_name (i := 8) sc_law_due.nd rfl (Or.inl rfl))
  (gss_one (gs_if (gt_cmp op_gtA rs_cmp (ge_nget (u66 hr) (gv 4) (gv 8) (fun _ _ => rfl)) (ge_nget (u66 hr) (gv 4) (gv 7) (fun _ _ => rfl)) (nomark _)) (gss_one (gs_app (i := 6) (ge_tup (ga_cons (gv 8) (ga_cons (gv 7) ga_nil))))) gss_nil)))))
  (gss_frz 6 (gss_cons (gs_if (gt_cmp op_gtA rs_cmp (ge_callB call_len cs_len rfl T.b_len (by decide +kernel) (ga_cons (gv 6) ga_nil)) ge_int (nomark _)) (gss_one (gs_ret (ge_op op_addA rs_add (ge_tup (ga_cons ge_str ga_nil)) (ge_pick (cr_minPick rfl (u66 hr)) rfl T.b_min (by decide +kernel) (gv 6))))) gss_nil)
  (gss_cons (gs_for (passes_of rfl) rfl (gi_list (ge_c (takes_of rfl rfl rfl rfl) C_law_names hr (by decide) (ga_cons (gv 0) ga_nil))) (gg_name (i := 9) sc_law_due.nd rfl (Or.inl rfl))
  (gss_cons (gs_set (i := 10) sc_law_due.nd rfl (Or.inl rfl) (ge_ix ix_seq rs_ix (ge_ix ix_seq rs_ix (ge_ix ix_seq rs_ix (gv 0) (ge_ix ix_seq rs_ix (gv 9) ge_int (fun _ _ => rfl)) (fun _ _ => rfl)) (ge_ix ix_seq rs_ix (gv 9) ge_int (fun _ _ => rfl)) (fun _ _ => rfl)) ge_int (fun _ _ => rfl)))
  (gss_one (gs_for (passes_of rfl) rfl (gi_range1 rfl T.b_range (ga_cons (ge_callB call_len cs_len rfl T.b_len (by decide +kernel) (ga_cons (gv 10) ga_nil)) ga_nil)) (gg_name (i := 11) sc_law_due.nd rfl (Or.inl rfl))
  (gss_cons (gs_set (i := 12) sc_law_due.nd rfl (Or.inl rfl) (ge_ix ix_seq rs_ix (ge_ix ix_seq rs_ix (gv 10) (gv 11) (fun _ _ => rfl)) ge_int (fun _ _ => rfl)))
  (gss_one (gs_for (passes_of rfl) rfl (gi_list (ge_c (takes_of rfl rfl rfl rfl) C_law_names hr (by decide) (ga_cons (gv 0) ga_nil))) (gg_name (i := 13) sc_law_due.nd rfl (Or.inl rfl))
  (gss_one (gs_if (GW.gt (gw_or (gt_cmp op_isA rs_isA (gv 12) ge_non (nomark _)) (gw_or1 (gt_cmp op_geA rs_cmp (ge_nget (u66 hr) (gv 4) (gv 13) (fun _ _ => rfl)) (ge_nget (u66 hr) (gv 4) (gv 12) (fun _ _ => rfl)) (nomark _))))) (gss_one (gs_if (gt_val (ge_c (takes_of rfl rfl rfl rfl) C_law_must_see hr (by decide) (ga_cons (gv 0) (ga_cons (gv 1) (ga_cons (gv 2) (ga_cons (gv 4) (ga_cons (gv 9) (ga_cons (gv 11) (ga_cons (gv 13) ga_nil))))))))) (gss_one (gs_ret (ge_tup (ga_cons ge_str (ga_cons (gv 9) (ga_cons (gv 11) (ga_cons (gv 13) ga_nil))))))) gss_nil)) gss_nil)))))))))
  (gss_one (gs_ret ge_non)))))))))), rd_law_due⟩
theorem ok_law_all_orders (T : Txt P w K mg)  : Cal P w K mg base 1 "_law_all_orders" s_law_all_orders ["listed"] sp_law_all_orders :=
  calD T.f_law_all_orders sc_law_all_orders fun f cdv A outer s H E hr => ⟨d_law_all_orders, (gss_cons (gs_set (i := 1) sc_law_all_orders.nd rfl (Or.inl rfl) (ge_lst (ga_cons (ge_tup ga_nil) ga_nil)))
  (gss_cons (gs_for (passes_of rfl) rfl (gi_range1 rfl T.b_range (ga_cons (ge_callB call_len cs_len rfl T.b_len (by decide +kernel) (ga_cons (gv 0) ga_nil)) ga_nil)) (gg_name (i := 2) sc_law_all_orders.nd rfl (Or.inl rfl))
  (gss_cons (gs_setO (i := 3) sc_law_all_orders.nd rfl (Or.inl rfl) (gn_lst ga_nil))
  (gss_cons (gs_for (passes_of rfl) rfl (gi_list (gv 1)) (gg_name (i := 4) sc_law_all_orders.nd rfl (Or.inl rfl))
  (gss_one (gs_for (passes_of rfl) rfl (gi_list (gv 0)) (gg_name (i := 5) sc_law_all_orders.nd rfl (Or.inl rfl))
  (gss_one (gs_if (gt_cmp (op_niB hr.units) rs_inB (gv 5) (gv 4) rfl) (gss_one (gs_app (i := 3) (ge_op op_addA rs_add (gv 4) (ge_tup (ga_cons (gv 5) ga_nil))))) gss_nil)))))
  (gss_frz 3 (gss_one (gs_set (i := 1) sc_law_all_orders.nd rfl (Or.inl rfl) (gv 3)))))))
  (gss_one (gs_ret (gv 1))))), rd_law_all_orders⟩
theorem ok_law_drawn_order (T : Txt P w K mg) (C_law_draw : Cal P w K mg base 1 "_law_draw" s_law_draw ["state", "many"] sp_law_draw) : Cal P w K mg base 2 "_law_drawn_order" s_law_drawn_order ["state", "before", "keeping"] sp_law_drawn_order :=
  calD T.f_law_drawn_order sc_law_drawn_order fun f cdv A outer s H E hr => ⟨d_law_drawn_order, (gss_cons (gs_set (i := 3) sc_law_drawn_order.nd rfl (Or.inr rfl) (GN.ge (gn_keysL rfl rfl T.b_list (by decide +kernel) (gv 1))))
  (gss_cons (gs_set (i := 4) sc_law_drawn_order.nd rfl (Or.inl rfl) (ge_tup ga_nil))
  (gss_cons (gs_while (passes_of rfl) (gt_cmp op_gtA rs_cmp (ge_callB call_len cs_len rfl T.b_len (by decide +kernel) (ga_cons (gv 3) ga_nil)) ge_int (nomark _))
  (gss_cons (gs_set (i := 5) sc_law_drawn_order.nd rfl (Or.inl rfl) (gv 3))
  (gss_cons (gs_if (gt_val (gv 2)) (gss_cons (gs_setLc (k := 5) [("name", 6)] rfl sc_law_drawn_order.nd rfl rfl (sw_true rfl rfl rfl (by decide +kernel)) (gi_list (gv 3)) (blkOk_by (own := [("name", 6)]) (N := n_law_drawn_order) (sc := defScope s_law_drawn_order) (by decide +kernel)) (by decide) (fun _ _ _ _ _ => (gg_name (i := 6) sc_law_drawn_order.nd rfl (Or.inl rfl))) (fun _ _ _ _ _ => (gts_one (gt_val (ge_callB (cr_all rfl) cs_all rfl T.b_all (by decide +kernel) (ga_cons (GN.ge (gn_lc [("one", 8)] rfl sc_law_drawn_order.nd (gi_list (ge_nget (u66 hr) (gv 1) (gv 6) (fun _ _ => rfl))) (blkOk_by (own := [("one", 8)]) (N := n_law_drawn_order) (sc := bs_law_drawn_order_1) (by decide +kernel)) (by decide) (fun _ _ _ _ _ => (gg_name (i := 8) sc_law_drawn_order.nd rfl (Or.inl rfl))) (fun _ _ _ _ _ => gts_nil) (fun _ _ _ _ _ => (ge_cmp (op_niB hr.units) rs_inB (gv 8) (gv 3) rfl)))) ga_nil))))) (fun _ _ _ _ _ => (gv 6)))
  (gss_one (gs_if (gt_cmp (op_eqA hr.units) rs_eq (ge_callB call_len cs_len rfl T.b_len (by decide +kernel) (ga_cons (gv 5) ga_nil)) ge_int (nomark _)) (gss_one (gs_set (i := 5) sc_law_drawn_order.nd rfl (Or.inl rfl) (gv 3))) gss_nil))) gss_nil)
  (gss_cons (gs_set (i := 6) sc_law_drawn_order.nd rfl (Or.inr rfl) (ge_ix ix_seq rs_ix (gv 5) (ge_c (takes_of rfl rfl rfl rfl) C_law_draw hr (by decide) (ga_cons (gv 0) (ga_cons (ge_callB call_len cs_len rfl T.b_len (by decide +kernel) (ga_cons (gv 5) ga_nil)) ga_nil))) (fun _ _ => rfl)))
  (gss_cons (gs_set (i := 3) sc_law_drawn_order.nd rfl (Or.inr rfl) (GN.ge (gn_lc [("other", 7)] rfl sc_law_drawn_order.nd (gi_list (gv 3)) (blkOk_by (own := [("other", 7)]) (N := n_law_drawn_order) (sc := defScope s_law_drawn_order) (by decide +kernel)) (by decide) (fun _ _ _ _ _ => (gg_name (i := 7) sc_law_drawn_order.nd rfl (Or.inl rfl))) (fun _ _ _ _ _ => (gts_one (gt_cmp (op_neA hr.units) rs_ne (gv 7) (gv 6) (nomark _)))) (fun _ _ _ _ _ => (gv 7)))))
  (gss_one (gs_set (i := 4) sc_law_drawn_order.nd rfl (Or.inl rfl) (ge_op op_addA rs_add (gv 4) (ge_tup (ga_cons (gv 6) ga_nil))))))))))
  (gss_one (gs_ret (gv 4)))))), rd_law_drawn_order⟩
theorem ok_law_not_orders (T : Txt P w K mg) (C_law_draw : Cal P w K mg base 1 "_law_draw" s_law_draw ["state", "many"] sp_law_draw) : Cal P w K mg base 2 "_law_not_orders" s_law_not_orders ["state", "listed"] sp_law_not_orders :=
  calD T.f_law_not_orders sc_law_not_orders fun f cdv A outer s H E hr => ⟨d_law_not_orders, (gss_cons (gs_set (i := 2) sc_law_not_orders.nd rfl (Or.inr rfl) (ge_ix ix_seq rs_ix (gv 1) (ge_c (takes_of rfl rfl rfl rfl) C_law_draw hr (by decide) (ga_cons (gv 0) (ga_cons (ge_callB call_len cs_len rfl T.b_len (by decide +kernel) (ga_cons (gv 1) ga_nil)) ga_nil))) (fun _ _ => rfl)))
  (gss_cons (gs_setO (i := 3) sc_law_not_orders.nd rfl (Or.inl rfl) (gn_lst (ga_cons (ge_callTy call_tuple_of cs_tup rfl T.b_tuple (by decide +kernel) (ga_cons (ge_sl sl_any ss_cut (gv 1) go_none (go_some (ge_neg ge_int))) ga_nil)) (ga_cons (ge_op op_addA rs_add (ge_callTy call_tuple_of cs_tup rfl T.b_tuple (by decide +kernel) (ga_cons (gv 1) ga_nil)) (ge_tup (ga_cons (gv 2) ga_nil))) (ga_cons (ge_callTy call_list_of cs_list rfl T.b_list (by decide +kernel) (ga_cons (gv 1) ga_nil)) (ga_cons ge_non (ga_cons ge_int (ga_cons (ge_op op_addA rs_add (ge_callTy call_tuple_of cs_tup rfl T.b_tuple (by decide +kernel) (ga_cons (gv 1) ga_nil)) (ge_tup (ga_cons (ge_tup (ga_cons (ge_callB call_len cs_len rfl T.b_len (by decide +kernel) (ga_cons (gv 1) ga_nil)) (ga_cons ge_int ga_nil))) ga_nil))) ga_nil))))))))
  (gss_cons (gs_setO (i := 3) sc_law_not_orders.nd rfl (Or.inl rfl) (gn_catO 3 (ge_lst (ga_cons (ge_op op_addA rs_add (ge_callTy call_tuple_of cs_tup rfl T.b_tuple (by decide +kernel) (ga_cons (GN.ge (gn_lc [("other", 4)] rfl sc_law_not_orders.nd (gi_list (gv 1)) (blkOk_by (own := [("other", 4)]) (N := n_law_not_orders) (sc := defScope s_law_not_orders) (by decide +kernel)) (by decide) (fun _ _ _ _ _ => (gg_name (i := 4) sc_law_not_orders.nd rfl (Or.inl rfl))) (fun _ _ _ _ _ => (gts_one (gt_cmp (op_neA hr.units) rs_ne (gv 4) (gv 2) (nomark _)))) (fun _ _ _ _ _ => (gv 4)))) ga_nil)) (ge_tup (ga_cons ge_non ga_nil))) (ga_cons (ge_callTy call_tuple_of cs_tup rfl T.b_tuple (by decide +kernel) (ga_cons (GN.ge (gn_lc [("other", 4)] rfl sc_law_not_orders.nd (gi_list (gv 1)) (blkOk_by (own := [("other", 4)]) (N := n_law_not_orders) (sc := defScope s_law_not_orders) (by decide +kernel)) (by decide) (fun _ _ _ _ _ => (gg_name (i := 4) sc_law_not_orders.nd rfl (Or.inl rfl))) (fun _ _ _ _ _ => gts_nil) (fun _ _ _ _ _ => (ge_callTy call_list_of cs_list rfl T.b_list (by decide +kernel) (ga_cons (gv 4) ga_nil))))) ga_nil)) ga_nil)))))
  (gss_cons (gs_if (gt_cmp op_ltA rs_cmp (ge_ix ix_seq rs_ix (gv 2) ge_int (fun _ _ => rfl)) ge_int (nomark _)) (gss_one (gs_app (i := 3) (ge_op op_addA rs_add (ge_callTy call_tuple_of cs_tup rfl T.b_tuple (by decide +kernel) (ga_cons (GN.ge (gn_lc [("other", 4)] rfl sc_law_not_orders.nd (gi_list (gv 1)) (blkOk_by (own := [("other", 4)]) (N := n_law_not_orders) (sc := defScope s_law_not_orders) (by decide +kernel)) (by decide) (fun _ _ _ _ _ => (gg_name (i := 4) sc_law_not_orders.nd rfl (Or.inl rfl))) (fun _ _ _ _ _ => (gts_one (gt_cmp (op_neA hr.units) rs_ne (gv 4) (gv 2) (nomark _)))) (fun _ _ _ _ _ => (gv 4)))) ga_nil)) (ge_tup (ga_cons (ge_tup (ga_cons (ge_ix ix_seq rs_ix (gv 2) ge_int (fun _ _ => rfl)) (ga_cons (ge_cmp (op_eqA hr.units) rs_eq (ge_ix ix_seq rs_ix (gv 2) ge_int (fun _ _ => rfl)) ge_int (nomark _)) ga_nil))) ga_nil))))) gss_nil)
  (gss_frz 3 (gss_one (gs_ret (gv 3)))))))), rd_law_not_orders⟩
theorem ok_law (T : Txt P w K mg) (C_law_begin : Cal P w K mg base 1 "_law_begin" s_law_begin ["script"] sp_law_begin) (C_law_draw : Cal P w K mg base 1 "_law_draw" s_law_draw ["state", "many"] sp_law_draw) (C_law_keys : Cal P w K mg base 2 "_law_keys" s_law_keys ["state", "many"] sp_law_keys) (C_law_history : Cal P w K mg base 3 "_law_history" s_law_history ["state", "most", "sessions", "keys", "reads"] sp_law_history) (C_law_names : Cal P w K mg base 1 "_law_names" s_law_names ["history"] sp_law_names) (C_law_before : Cal P w K mg base 2 "_law_before" s_law_before ["history"] sp_law_before) (C_law_closure : Cal P w K mg base 1 "_law_closure" s_law_closure ["before", "name"] sp_law_closure) (C_law_all_orders : Cal P w K mg base 1 "_law_all_orders" s_law_all_orders ["listed"] sp_law_all_orders) (C_law_drawn_order : Cal P w K mg base 2 "_law_drawn_order" s_law_drawn_order ["state", "before", "keeping"] sp_law_drawn_order) (C_law_same : Cal P w K mg base 7 "_law_same" s_law_same ["actual", "due"] sp_law_same) (C_law_due : Cal P w K mg base 3 "_law_due" s_law_due ["history", "before", "closures", "order"] sp_law_due) (C_order_fault : Cal P w K mg base 9 "order_fault" s_order_fault ["history", "value"] sp_order_fault) (C_law_not_orders : Cal P w K mg base 2 "_law_not_orders" s_law_not_orders ["state", "listed"] sp_law_not_orders) : Cal P w K mg base 10 "law" s_law ["script"] sp_law :=
  calD T.f_law sc_law fun f cdv A outer s H E hr => ⟨d_law, (gss_cons (gs_set (i := 1) sc_law.nd rfl (Or.inl rfl) (ge_c (takes_of rfl rfl rfl rfl) C_law_begin hr (by decide) (ga_cons (gv 0) ga_nil)))
  (gss_cons (gs_set (i := 2) sc_law.nd rfl (Or.inl rfl) (ge_c (takes_of rfl rfl rfl rfl) C_law_draw hr (by decide) (ga_cons (gv 1) (ga_cons ge_int ga_nil))))
  (gss_cons (gs_if (gt_cmp (op_eqA hr.units) rs_eq (gv 2) ge_int (nomark _)) (gss_cons (gs_set (i := 3) sc_law.nd rfl (Or.inl rfl) (ge_c (takes_of rfl rfl rfl rfl) C_law_keys hr (by decide) (ga_cons (gv 1) (ga_cons (ge_op op_addA rs_add ge_int (ge_c (takes_of rfl rfl rfl rfl) C_law_draw hr (by decide) (ga_cons (gv 1) (ga_cons ge_int ga_nil)))) ga_nil))))
  (gss_one (gs_set (i := 4) sc_law.nd rfl (Or.inl rfl) (ge_c (takes_of rfl rfl rfl rfl) C_law_history hr (by decide) (ga_cons (gv 1) (ga_cons ge_int (ga_cons ge_int (ga_cons (gv 3) (ga_cons ge_int ga_nil))))))))) (gss_one (gs_if (gt_cmp (op_eqA hr.units) rs_eq (gv 2) ge_int (nomark _)) (gss_cons (gs_set (i := 3) sc_law.nd rfl (Or.inl rfl) (ge_c (takes_of rfl rfl rfl rfl) C_law_keys hr (by decide) (ga_cons (gv 1) (ga_cons (ge_op op_addA rs_add ge_int (ge_c (takes_of rfl rfl rfl rfl) C_law_draw hr (by decide) (ga_cons (gv 1) (ga_cons ge_int ga_nil)))) ga_nil))))
  (gss_one (gs_set (i := 4) sc_law.nd rfl (Or.inl rfl) (ge_c (takes_of rfl rfl rfl rfl) C_law_history hr (by decide) (ga_cons (gv 1) (ga_cons ge_int (ga_cons ge_int (ga_cons (gv 3) (ga_cons ge_int ga_nil))))))))) (gss_cons (gs_set (i := 3) sc_law.nd rfl (Or.inl rfl) (ge_c (takes_of rfl rfl rfl rfl) C_law_keys hr (by decide) (ga_cons (gv 1) (ga_cons (ge_op op_addA rs_add ge_int (ge_c (takes_of rfl rfl rfl rfl) C_law_draw hr (by decide) (ga_cons (gv 1) (ga_cons ge_int ga_nil)))) ga_nil))))
  (gss_one (gs_set (i := 4) sc_law.nd rfl (Or.inl rfl) (ge_c (takes_of rfl rfl rfl rfl) C_law_history hr (by decide) (ga_cons (gv 1) (ga_cons ge_int (ga_cons ge_int (ga_cons (gv 3) (ga_cons ge_int ga_nil))))))))))))
  (gss_cons (gs_set (i := 5) sc_law.nd rfl (Or.inl rfl) (ge_c (takes_of rfl rfl rfl rfl) C_law_names hr (by decide) (ga_cons (gv 4) ga_nil)))
  (gss_cons (gs_set (i := 6) sc_law.nd rfl (Or.inl rfl) (ge_c (takes_of rfl rfl rfl rfl) C_law_before hr (by decide) (ga_cons (gv 4) ga_nil)))
  (gss_cons (gs_setN (j := 7) sc_law.nd rfl (Or.inl rfl))
  (gss_cons (gs_for (passes_of rfl) rfl (gi_list (gv 5)) (gg_name (i := 8) sc_law.nd rfl (Or.inl rfl))
  (gss_one (gs_nputO (j := 7) (u66 hr) (ge_c (takes_of rfl rfl rfl rfl) C_law_closure hr (by decide) (ga_cons (gv 6) (ga_cons (gv 8) ga_nil))) (gv 8))))
  (gss_frzN 7 (gss_cons (gs_setO (i := 9) sc_law.nd rfl (Or.inl rfl) (gn_lst ga_nil))
  (gss_cons (gs_if (gt_cmp op_leA rs_cmp (ge_callB call_len cs_len rfl T.b_len (by decide +kernel) (ga_cons (gv 5) ga_nil)) ge_int (nomark _)) (gss_one (gs_set (i := 9) sc_law.nd rfl (Or.inl rfl) (ge_c (takes_of rfl rfl rfl rfl) C_law_all_orders hr (by decide) (ga_cons (gv 5) ga_nil)))) (gss_cons (gs_set (i := 10) sc_law.nd rfl (Or.inl rfl) ge_int)
  (gss_cons (gs_if (gt_cmp op_gtA rs_cmp (ge_callB call_len cs_len rfl T.b_len (by decide +kernel) (ga_cons (gv 5) ga_nil)) ge_int (nomark _)) (gss_one (gs_set (i := 10) sc_law.nd rfl (Or.inl rfl) ge_int)) gss_nil)
  (gss_one (gs_for (passes_of rfl) rfl (gi_range1 rfl T.b_range (ga_cons (gv 10) ga_nil)) (gg_name (i := 11) sc_law.nd rfl (Or.inl rfl))
  (gss_one (gs_app (i := 9) (ge_c (takes_of rfl rfl rfl rfl) C_law_drawn_order hr (by decide) (ga_cons (gv 1) (ga_cons (gv 6) (ga_cons (ge_cmp op_gtA rs_cmp (ge_c (takes_of rfl rfl rfl rfl) C_law_draw hr (by decide) (ga_cons (gv 1) (ga_cons ge_int ga_nil))) ge_int (nomark _)) ga_nil)))))))))))
  (gss_frz 9 (gss_cons (gs_for (passes_of rfl) rfl (gi_list (gv 9)) (gg_name (i := 12) sc_law.nd rfl (Or.inl rfl))
  (gss_one (gs_if (gt_not (gt_val (ge_c (takes_of rfl rfl rfl rfl) C_law_same hr (by decide) (ga_cons (ge_c (takes_of rfl rfl rfl rfl) C_order_fault hr (by decide) (ga_cons (gv 4) (ga_cons (gv 12) ga_nil))) (ga_cons (ge_c (takes_of rfl rfl rfl rfl) C_law_due hr (by decide) (ga_cons (gv 4) (ga_cons (gv 6) (ga_cons (gv 7) (ga_cons (gv 12) ga_nil))))) ga_nil))))) (gss_one (gs_ret ge_bl)) gss_nil)))
  (gss_cons (gs_for (passes_of rfl) rfl (gi_list (ge_c (takes_of rfl rfl rfl rfl) C_law_not_orders hr (by decide) (ga_cons (gv 1) (ga_cons (gv 5) ga_nil)))) (gg_name (i := 13) sc_law.nd rfl (Or.inl rfl))
  (gss_one (gs_if (gt_not (gt_val (ge_c (takes_of rfl rfl rfl rfl) C_law_same hr (by decide) (ga_cons (ge_c (takes_of rfl rfl rfl rfl) C_order_fault hr (by decide) (ga_cons (gv 4) (ga_cons (gv 13) ga_nil))) (ga_cons (ge_tup (ga_cons ge_str ga_nil)) ga_nil))))) (gss_one (gs_ret ge_bl)) gss_nil)))
  (gss_one (gs_ret ge_bl))))))))))))))), rd_law⟩
theorem txt_mk {P : Program} {w : World} {K : PySem.W.Frag} {h : Heap} {mg : Str → Option Value} (X : K.In h)
  (GN : h.Ns mainGlobals mg)
  {f0 : Addr} {oc0 kV0 dc0 pm0 cd0 ct0 : Value} {od0 an0 : Option Addr} {sl0 : Array (Option Value)}
  (a0 : PySem.W.nsIn K mainGlobals "is_integer" = some (some (.ref f0)))
  (l0 : K.lookup f0 = some ⟨oc0, od0, .func (PySem.W.fnOf "is_integer" "is_integer" (defArgs s_is_integer) (defBody s_is_integer) (defScope s_is_integer) .none kV0 dc0 pm0 an0 cd0 ct0), sl0⟩)
  (c0 : PySem.W.codeIn K cd0 "is_integer" = true) (k0 : PySem.W.keepIn K (.ref f0) = true)
  {f1 : Addr} {oc1 kV1 dc1 pm1 cd1 ct1 : Value} {od1 an1 : Option Addr} {sl1 : Array (Option Value)}
  (a1 : PySem.W.nsIn K mainGlobals "is_from" = some (some (.ref f1)))
  (l1 : K.lookup f1 = some ⟨oc1, od1, .func (PySem.W.fnOf "is_from" "is_from" (defArgs s_is_from) (defBody s_is_from) (defScope s_is_from) .none kV1 dc1 pm1 an1 cd1 ct1), sl1⟩)
  (c1 : PySem.W.codeIn K cd1 "is_from" = true) (k1 : PySem.W.keepIn K (.ref f1) = true)
  {f2 : Addr} {oc2 kV2 dc2 pm2 cd2 ct2 : Value} {od2 an2 : Option Addr} {sl2 : Array (Option Value)}
  (a2 : PySem.W.nsIn K mainGlobals "is_tuple_of" = some (some (.ref f2)))
  (l2 : K.lookup f2 = some ⟨oc2, od2, .func (PySem.W.fnOf "is_tuple_of" "is_tuple_of" (defArgs s_is_tuple_of) (defBody s_is_tuple_of) (defScope s_is_tuple_of) .none kV2 dc2 pm2 an2 cd2 ct2), sl2⟩)
  (c2 : PySem.W.codeIn K cd2 "is_tuple_of" = true) (k2 : PySem.W.keepIn K (.ref f2) = true)
  {f3 : Addr} {oc3 kV3 dc3 pm3 cd3 ct3 : Value} {od3 an3 : Option Addr} {sl3 : Array (Option Value)}
  (a3 : PySem.W.nsIn K mainGlobals "is_text" = some (some (.ref f3)))
  (l3 : K.lookup f3 = some ⟨oc3, od3, .func (PySem.W.fnOf "is_text" "is_text" (defArgs s_is_text) (defBody s_is_text) (defScope s_is_text) .none kV3 dc3 pm3 an3 cd3 ct3), sl3⟩)
  (c3 : PySem.W.codeIn K cd3 "is_text" = true) (k3 : PySem.W.keepIn K (.ref f3) = true)
  {f4 : Addr} {oc4 kV4 dc4 pm4 cd4 ct4 : Value} {od4 an4 : Option Addr} {sl4 : Array (Option Value)}
  (a4 : PySem.W.nsIn K mainGlobals "is_level" = some (some (.ref f4)))
  (l4 : K.lookup f4 = some ⟨oc4, od4, .func (PySem.W.fnOf "is_level" "is_level" (defArgs s_is_level) (defBody s_is_level) (defScope s_is_level) .none kV4 dc4 pm4 an4 cd4 ct4), sl4⟩)
  (c4 : PySem.W.codeIn K cd4 "is_level" = true) (k4 : PySem.W.keepIn K (.ref f4) = true)
  {f5 : Addr} {oc5 kV5 dc5 pm5 cd5 ct5 : Value} {od5 an5 : Option Addr} {sl5 : Array (Option Value)}
  (a5 : PySem.W.nsIn K mainGlobals "level_rank" = some (some (.ref f5)))
  (l5 : K.lookup f5 = some ⟨oc5, od5, .func (PySem.W.fnOf "level_rank" "level_rank" (defArgs s_level_rank) (defBody s_level_rank) (defScope s_level_rank) .none kV5 dc5 pm5 an5 cd5 ct5), sl5⟩)
  (c5 : PySem.W.codeIn K cd5 "level_rank" = true) (k5 : PySem.W.keepIn K (.ref f5) = true)
  {f6 : Addr} {oc6 kV6 dc6 pm6 cd6 ct6 : Value} {od6 an6 : Option Addr} {sl6 : Array (Option Value)}
  (a6 : PySem.W.nsIn K mainGlobals "is_name_form" = some (some (.ref f6)))
  (l6 : K.lookup f6 = some ⟨oc6, od6, .func (PySem.W.fnOf "is_name_form" "is_name_form" (defArgs s_is_name_form) (defBody s_is_name_form) (defScope s_is_name_form) .none kV6 dc6 pm6 an6 cd6 ct6), sl6⟩)
  (c6 : PySem.W.codeIn K cd6 "is_name_form" = true) (k6 : PySem.W.keepIn K (.ref f6) = true)
  {f7 : Addr} {oc7 kV7 dc7 pm7 cd7 ct7 : Value} {od7 an7 : Option Addr} {sl7 : Array (Option Value)}
  (a7 : PySem.W.nsIn K mainGlobals "is_read_form" = some (some (.ref f7)))
  (l7 : K.lookup f7 = some ⟨oc7, od7, .func (PySem.W.fnOf "is_read_form" "is_read_form" (defArgs s_is_read_form) (defBody s_is_read_form) (defScope s_is_read_form) .none kV7 dc7 pm7 an7 cd7 ct7), sl7⟩)
  (c7 : PySem.W.codeIn K cd7 "is_read_form" = true) (k7 : PySem.W.keepIn K (.ref f7) = true)
  {f8 : Addr} {oc8 kV8 dc8 pm8 cd8 ct8 : Value} {od8 an8 : Option Addr} {sl8 : Array (Option Value)}
  (a8 : PySem.W.nsIn K mainGlobals "are_keys" = some (some (.ref f8)))
  (l8 : K.lookup f8 = some ⟨oc8, od8, .func (PySem.W.fnOf "are_keys" "are_keys" (defArgs s_are_keys) (defBody s_are_keys) (defScope s_are_keys) .none kV8 dc8 pm8 an8 cd8 ct8), sl8⟩)
  (c8 : PySem.W.codeIn K cd8 "are_keys" = true) (k8 : PySem.W.keepIn K (.ref f8) = true)
  {f9 : Addr} {oc9 kV9 dc9 pm9 cd9 ct9 : Value} {od9 an9 : Option Addr} {sl9 : Array (Option Value)}
  (a9 : PySem.W.nsIn K mainGlobals "transaction_fault" = some (some (.ref f9)))
  (l9 : K.lookup f9 = some ⟨oc9, od9, .func (PySem.W.fnOf "transaction_fault" "transaction_fault" (defArgs s_transaction_fault) (defBody s_transaction_fault) (defScope s_transaction_fault) .none kV9 dc9 pm9 an9 cd9 ct9), sl9⟩)
  (c9 : PySem.W.codeIn K cd9 "transaction_fault" = true) (k9 : PySem.W.keepIn K (.ref f9) = true)
  {f10 : Addr} {oc10 kV10 dc10 pm10 cd10 ct10 : Value} {od10 an10 : Option Addr} {sl10 : Array (Option Value)}
  (a10 : PySem.W.nsIn K mainGlobals "form_fault" = some (some (.ref f10)))
  (l10 : K.lookup f10 = some ⟨oc10, od10, .func (PySem.W.fnOf "form_fault" "form_fault" (defArgs s_form_fault) (defBody s_form_fault) (defScope s_form_fault) .none kV10 dc10 pm10 an10 cd10 ct10), sl10⟩)
  (c10 : PySem.W.codeIn K cd10 "form_fault" = true) (k10 : PySem.W.keepIn K (.ref f10) = true)
  {f11 : Addr} {oc11 kV11 dc11 pm11 cd11 ct11 : Value} {od11 an11 : Option Addr} {sl11 : Array (Option Value)}
  (a11 : PySem.W.nsIn K mainGlobals "names_of" = some (some (.ref f11)))
  (l11 : K.lookup f11 = some ⟨oc11, od11, .func (PySem.W.fnOf "names_of" "names_of" (defArgs s_names_of) (defBody s_names_of) (defScope s_names_of) .none kV11 dc11 pm11 an11 cd11 ct11), sl11⟩)
  (c11 : PySem.W.codeIn K cd11 "names_of" = true) (k11 : PySem.W.keepIn K (.ref f11) = true)
  {f12 : Addr} {oc12 kV12 dc12 pm12 cd12 ct12 : Value} {od12 an12 : Option Addr} {sl12 : Array (Option Value)}
  (a12 : PySem.W.nsIn K mainGlobals "transaction_of" = some (some (.ref f12)))
  (l12 : K.lookup f12 = some ⟨oc12, od12, .func (PySem.W.fnOf "transaction_of" "transaction_of" (defArgs s_transaction_of) (defBody s_transaction_of) (defScope s_transaction_of) .none kV12 dc12 pm12 an12 cd12 ct12), sl12⟩)
  (c12 : PySem.W.codeIn K cd12 "transaction_of" = true) (k12 : PySem.W.keepIn K (.ref f12) = true)
  {f13 : Addr} {oc13 kV13 dc13 pm13 cd13 ct13 : Value} {od13 an13 : Option Addr} {sl13 : Array (Option Value)}
  (a13 : PySem.W.nsIn K mainGlobals "transaction_at" = some (some (.ref f13)))
  (l13 : K.lookup f13 = some ⟨oc13, od13, .func (PySem.W.fnOf "transaction_at" "transaction_at" (defArgs s_transaction_at) (defBody s_transaction_at) (defScope s_transaction_at) .none kV13 dc13 pm13 an13 cd13 ct13), sl13⟩)
  (c13 : PySem.W.codeIn K cd13 "transaction_at" = true) (k13 : PySem.W.keepIn K (.ref f13) = true)
  {f14 : Addr} {oc14 kV14 dc14 pm14 cd14 ct14 : Value} {od14 an14 : Option Addr} {sl14 : Array (Option Value)}
  (a14 : PySem.W.nsIn K mainGlobals "source_fault" = some (some (.ref f14)))
  (l14 : K.lookup f14 = some ⟨oc14, od14, .func (PySem.W.fnOf "source_fault" "source_fault" (defArgs s_source_fault) (defBody s_source_fault) (defScope s_source_fault) .none kV14 dc14 pm14 an14 cd14 ct14), sl14⟩)
  (c14 : PySem.W.codeIn K cd14 "source_fault" = true) (k14 : PySem.W.keepIn K (.ref f14) = true)
  {f15 : Addr} {oc15 kV15 dc15 pm15 cd15 ct15 : Value} {od15 an15 : Option Addr} {sl15 : Array (Option Value)}
  (a15 : PySem.W.nsIn K mainGlobals "history_fault" = some (some (.ref f15)))
  (l15 : K.lookup f15 = some ⟨oc15, od15, .func (PySem.W.fnOf "history_fault" "history_fault" (defArgs s_history_fault) (defBody s_history_fault) (defScope s_history_fault) .none kV15 dc15 pm15 an15 cd15 ct15), sl15⟩)
  (c15 : PySem.W.codeIn K cd15 "history_fault" = true) (k15 : PySem.W.keepIn K (.ref f15) = true)
  {f16 : Addr} {oc16 kV16 dc16 pm16 cd16 ct16 : Value} {od16 an16 : Option Addr} {sl16 : Array (Option Value)}
  (a16 : PySem.W.nsIn K mainGlobals "check_history" = some (some (.ref f16)))
  (l16 : K.lookup f16 = some ⟨oc16, od16, .func (PySem.W.fnOf "check_history" "check_history" (defArgs s_check_history) (defBody s_check_history) (defScope s_check_history) .none kV16 dc16 pm16 an16 cd16 ct16), sl16⟩)
  (c16 : PySem.W.codeIn K cd16 "check_history" = true) (k16 : PySem.W.keepIn K (.ref f16) = true)
  {f17 : Addr} {oc17 kV17 dc17 pm17 cd17 ct17 : Value} {od17 an17 : Option Addr} {sl17 : Array (Option Value)}
  (a17 : PySem.W.nsIn K mainGlobals "writers_of" = some (some (.ref f17)))
  (l17 : K.lookup f17 = some ⟨oc17, od17, .func (PySem.W.fnOf "writers_of" "writers_of" (defArgs s_writers_of) (defBody s_writers_of) (defScope s_writers_of) .none kV17 dc17 pm17 an17 cd17 ct17), sl17⟩)
  (c17 : PySem.W.codeIn K cd17 "writers_of" = true) (k17 : PySem.W.keepIn K (.ref f17) = true)
  {f18 : Addr} {oc18 kV18 dc18 pm18 cd18 ct18 : Value} {od18 an18 : Option Addr} {sl18 : Array (Option Value)}
  (a18 : PySem.W.nsIn K mainGlobals "sources_of" = some (some (.ref f18)))
  (l18 : K.lookup f18 = some ⟨oc18, od18, .func (PySem.W.fnOf "sources_of" "sources_of" (defArgs s_sources_of) (defBody s_sources_of) (defScope s_sources_of) .none kV18 dc18 pm18 an18 cd18 ct18), sl18⟩)
  (c18 : PySem.W.codeIn K cd18 "sources_of" = true) (k18 : PySem.W.keepIn K (.ref f18) = true)
  {f19 : Addr} {oc19 kV19 dc19 pm19 cd19 ct19 : Value} {od19 an19 : Option Addr} {sl19 : Array (Option Value)}
  (a19 : PySem.W.nsIn K mainGlobals "predecessors" = some (some (.ref f19)))
  (l19 : K.lookup f19 = some ⟨oc19, od19, .func (PySem.W.fnOf "predecessors" "predecessors" (defArgs s_predecessors) (defBody s_predecessors) (defScope s_predecessors) .none kV19 dc19 pm19 an19 cd19 ct19), sl19⟩)
  (c19 : PySem.W.codeIn K cd19 "predecessors" = true) (k19 : PySem.W.keepIn K (.ref f19) = true)
  {f20 : Addr} {oc20 kV20 dc20 pm20 cd20 ct20 : Value} {od20 an20 : Option Addr} {sl20 : Array (Option Value)}
  (a20 : PySem.W.nsIn K mainGlobals "closure_of" = some (some (.ref f20)))
  (l20 : K.lookup f20 = some ⟨oc20, od20, .func (PySem.W.fnOf "closure_of" "closure_of" (defArgs s_closure_of) (defBody s_closure_of) (defScope s_closure_of) .none kV20 dc20 pm20 an20 cd20 ct20), sl20⟩)
  (c20 : PySem.W.codeIn K cd20 "closure_of" = true) (k20 : PySem.W.keepIn K (.ref f20) = true)
  {f21 : Addr} {oc21 kV21 dc21 pm21 cd21 ct21 : Value} {od21 an21 : Option Addr} {sl21 : Array (Option Value)}
  (a21 : PySem.W.nsIn K mainGlobals "named_before" = some (some (.ref f21)))
  (l21 : K.lookup f21 = some ⟨oc21, od21, .func (PySem.W.fnOf "named_before" "named_before" (defArgs s_named_before) (defBody s_named_before) (defScope s_named_before) .none kV21 dc21 pm21 an21 cd21 ct21), sl21⟩)
  (c21 : PySem.W.codeIn K cd21 "named_before" = true) (k21 : PySem.W.keepIn K (.ref f21) = true)
  {f22 : Addr} {oc22 kV22 dc22 pm22 cd22 ct22 : Value} {od22 an22 : Option Addr} {sl22 : Array (Option Value)}
  (a22 : PySem.W.nsIn K mainGlobals "shares_write" = some (some (.ref f22)))
  (l22 : K.lookup f22 = some ⟨oc22, od22, .func (PySem.W.fnOf "shares_write" "shares_write" (defArgs s_shares_write) (defBody s_shares_write) (defScope s_shares_write) .none kV22 dc22 pm22 an22 cd22 ct22), sl22⟩)
  (c22 : PySem.W.codeIn K cd22 "shares_write" = true) (k22 : PySem.W.keepIn K (.ref f22) = true)
  {f23 : Addr} {oc23 kV23 dc23 pm23 cd23 ct23 : Value} {od23 an23 : Option Addr} {sl23 : Array (Option Value)}
  (a23 : PySem.W.nsIn K mainGlobals "last_seen" = some (some (.ref f23)))
  (l23 : K.lookup f23 = some ⟨oc23, od23, .func (PySem.W.fnOf "last_seen" "last_seen" (defArgs s_last_seen) (defBody s_last_seen) (defScope s_last_seen) .none kV23 dc23 pm23 an23 cd23 ct23), sl23⟩)
  (c23 : PySem.W.codeIn K cd23 "last_seen" = true) (k23 : PySem.W.keepIn K (.ref f23) = true)
  {f24 : Addr} {oc24 kV24 dc24 pm24 cd24 ct24 : Value} {od24 an24 : Option Addr} {sl24 : Array (Option Value)}
  (a24 : PySem.W.nsIn K mainGlobals "seen_writers" = some (some (.ref f24)))
  (l24 : K.lookup f24 = some ⟨oc24, od24, .func (PySem.W.fnOf "seen_writers" "seen_writers" (defArgs s_seen_writers) (defBody s_seen_writers) (defScope s_seen_writers) .none kV24 dc24 pm24 an24 cd24 ct24), sl24⟩)
  (c24 : PySem.W.codeIn K cd24 "seen_writers" = true) (k24 : PySem.W.keepIn K (.ref f24) = true)
  {f25 : Addr} {oc25 kV25 dc25 pm25 cd25 ct25 : Value} {od25 an25 : Option Addr} {sl25 : Array (Option Value)}
  (a25 : PySem.W.nsIn K mainGlobals "is_order" = some (some (.ref f25)))
  (l25 : K.lookup f25 = some ⟨oc25, od25, .func (PySem.W.fnOf "is_order" "is_order" (defArgs s_is_order) (defBody s_is_order) (defScope s_is_order) .none kV25 dc25 pm25 an25 cd25 ct25), sl25⟩)
  (c25 : PySem.W.codeIn K cd25 "is_order" = true) (k25 : PySem.W.keepIn K (.ref f25) = true)
  {f26 : Addr} {oc26 kV26 dc26 pm26 cd26 ct26 : Value} {od26 an26 : Option Addr} {sl26 : Array (Option Value)}
  (a26 : PySem.W.nsIn K mainGlobals "first_turned" = some (some (.ref f26)))
  (l26 : K.lookup f26 = some ⟨oc26, od26, .func (PySem.W.fnOf "first_turned" "first_turned" (defArgs s_first_turned) (defBody s_first_turned) (defScope s_first_turned) .none kV26 dc26 pm26 an26 cd26 ct26), sl26⟩)
  (c26 : PySem.W.codeIn K cd26 "first_turned" = true) (k26 : PySem.W.keepIn K (.ref f26) = true)
  {f27 : Addr} {oc27 kV27 dc27 pm27 cd27 ct27 : Value} {od27 an27 : Option Addr} {sl27 : Array (Option Value)}
  (a27 : PySem.W.nsIn K mainGlobals "first_unseen" = some (some (.ref f27)))
  (l27 : K.lookup f27 = some ⟨oc27, od27, .func (PySem.W.fnOf "first_unseen" "first_unseen" (defArgs s_first_unseen) (defBody s_first_unseen) (defScope s_first_unseen) .none kV27 dc27 pm27 an27 cd27 ct27), sl27⟩)
  (c27 : PySem.W.codeIn K cd27 "first_unseen" = true) (k27 : PySem.W.keepIn K (.ref f27) = true)
  {f28 : Addr} {oc28 kV28 dc28 pm28 cd28 ct28 : Value} {od28 an28 : Option Addr} {sl28 : Array (Option Value)}
  (a28 : PySem.W.nsIn K mainGlobals "order_fault" = some (some (.ref f28)))
  (l28 : K.lookup f28 = some ⟨oc28, od28, .func (PySem.W.fnOf "order_fault" "order_fault" (defArgs s_order_fault) (defBody s_order_fault) (defScope s_order_fault) .none kV28 dc28 pm28 an28 cd28 ct28), sl28⟩)
  (c28 : PySem.W.codeIn K cd28 "order_fault" = true) (k28 : PySem.W.keepIn K (.ref f28) = true)
  {f29 : Addr} {oc29 kV29 dc29 pm29 cd29 ct29 : Value} {od29 an29 : Option Addr} {sl29 : Array (Option Value)}
  (a29 : PySem.W.nsIn K mainGlobals "_law_begin" = some (some (.ref f29)))
  (l29 : K.lookup f29 = some ⟨oc29, od29, .func (PySem.W.fnOf "_law_begin" "_law_begin" (defArgs s_law_begin) (defBody s_law_begin) (defScope s_law_begin) .none kV29 dc29 pm29 an29 cd29 ct29), sl29⟩)
  (c29 : PySem.W.codeIn K cd29 "_law_begin" = true) (k29 : PySem.W.keepIn K (.ref f29) = true)
  {f30 : Addr} {oc30 kV30 dc30 pm30 cd30 ct30 : Value} {od30 an30 : Option Addr} {sl30 : Array (Option Value)}
  (a30 : PySem.W.nsIn K mainGlobals "_law_draw" = some (some (.ref f30)))
  (l30 : K.lookup f30 = some ⟨oc30, od30, .func (PySem.W.fnOf "_law_draw" "_law_draw" (defArgs s_law_draw) (defBody s_law_draw) (defScope s_law_draw) .none kV30 dc30 pm30 an30 cd30 ct30), sl30⟩)
  (c30 : PySem.W.codeIn K cd30 "_law_draw" = true) (k30 : PySem.W.keepIn K (.ref f30) = true)
  {f31 : Addr} {oc31 kV31 dc31 pm31 cd31 ct31 : Value} {od31 an31 : Option Addr} {sl31 : Array (Option Value)}
  (a31 : PySem.W.nsIn K mainGlobals "_law_same" = some (some (.ref f31)))
  (l31 : K.lookup f31 = some ⟨oc31, od31, .func (PySem.W.fnOf "_law_same" "_law_same" (defArgs s_law_same) (defBody s_law_same) (defScope s_law_same) .none kV31 dc31 pm31 an31 cd31 ct31), sl31⟩)
  (c31 : PySem.W.codeIn K cd31 "_law_same" = true) (k31 : PySem.W.keepIn K (.ref f31) = true)
  {f32 : Addr} {oc32 kV32 dc32 pm32 cd32 ct32 : Value} {od32 an32 : Option Addr} {sl32 : Array (Option Value)}
  (a32 : PySem.W.nsIn K mainGlobals "_law_keys" = some (some (.ref f32)))
  (l32 : K.lookup f32 = some ⟨oc32, od32, .func (PySem.W.fnOf "_law_keys" "_law_keys" (defArgs s_law_keys) (defBody s_law_keys) (defScope s_law_keys) .none kV32 dc32 pm32 an32 cd32 ct32), sl32⟩)
  (c32 : PySem.W.codeIn K cd32 "_law_keys" = true) (k32 : PySem.W.keepIn K (.ref f32) = true)
  {f33 : Addr} {oc33 kV33 dc33 pm33 cd33 ct33 : Value} {od33 an33 : Option Addr} {sl33 : Array (Option Value)}
  (a33 : PySem.W.nsIn K mainGlobals "_law_parts" = some (some (.ref f33)))
  (l33 : K.lookup f33 = some ⟨oc33, od33, .func (PySem.W.fnOf "_law_parts" "_law_parts" (defArgs s_law_parts) (defBody s_law_parts) (defScope s_law_parts) .none kV33 dc33 pm33 an33 cd33 ct33), sl33⟩)
  (c33 : PySem.W.codeIn K cd33 "_law_parts" = true) (k33 : PySem.W.keepIn K (.ref f33) = true)
  {f34 : Addr} {oc34 kV34 dc34 pm34 cd34 ct34 : Value} {od34 an34 : Option Addr} {sl34 : Array (Option Value)}
  (a34 : PySem.W.nsIn K mainGlobals "_law_history" = some (some (.ref f34)))
  (l34 : K.lookup f34 = some ⟨oc34, od34, .func (PySem.W.fnOf "_law_history" "_law_history" (defArgs s_law_history) (defBody s_law_history) (defScope s_law_history) .none kV34 dc34 pm34 an34 cd34 ct34), sl34⟩)
  (c34 : PySem.W.codeIn K cd34 "_law_history" = true) (k34 : PySem.W.keepIn K (.ref f34) = true)
  {f35 : Addr} {oc35 kV35 dc35 pm35 cd35 ct35 : Value} {od35 an35 : Option Addr} {sl35 : Array (Option Value)}
  (a35 : PySem.W.nsIn K mainGlobals "_law_names" = some (some (.ref f35)))
  (l35 : K.lookup f35 = some ⟨oc35, od35, .func (PySem.W.fnOf "_law_names" "_law_names" (defArgs s_law_names) (defBody s_law_names) (defScope s_law_names) .none kV35 dc35 pm35 an35 cd35 ct35), sl35⟩)
  (c35 : PySem.W.codeIn K cd35 "_law_names" = true) (k35 : PySem.W.keepIn K (.ref f35) = true)
  {f36 : Addr} {oc36 kV36 dc36 pm36 cd36 ct36 : Value} {od36 an36 : Option Addr} {sl36 : Array (Option Value)}
  (a36 : PySem.W.nsIn K mainGlobals "_law_before" = some (some (.ref f36)))
  (l36 : K.lookup f36 = some ⟨oc36, od36, .func (PySem.W.fnOf "_law_before" "_law_before" (defArgs s_law_before) (defBody s_law_before) (defScope s_law_before) .none kV36 dc36 pm36 an36 cd36 ct36), sl36⟩)
  (c36 : PySem.W.codeIn K cd36 "_law_before" = true) (k36 : PySem.W.keepIn K (.ref f36) = true)
  {f37 : Addr} {oc37 kV37 dc37 pm37 cd37 ct37 : Value} {od37 an37 : Option Addr} {sl37 : Array (Option Value)}
  (a37 : PySem.W.nsIn K mainGlobals "_law_closure" = some (some (.ref f37)))
  (l37 : K.lookup f37 = some ⟨oc37, od37, .func (PySem.W.fnOf "_law_closure" "_law_closure" (defArgs s_law_closure) (defBody s_law_closure) (defScope s_law_closure) .none kV37 dc37 pm37 an37 cd37 ct37), sl37⟩)
  (c37 : PySem.W.codeIn K cd37 "_law_closure" = true) (k37 : PySem.W.keepIn K (.ref f37) = true)
  {f38 : Addr} {oc38 kV38 dc38 pm38 cd38 ct38 : Value} {od38 an38 : Option Addr} {sl38 : Array (Option Value)}
  (a38 : PySem.W.nsIn K mainGlobals "_law_shares" = some (some (.ref f38)))
  (l38 : K.lookup f38 = some ⟨oc38, od38, .func (PySem.W.fnOf "_law_shares" "_law_shares" (defArgs s_law_shares) (defBody s_law_shares) (defScope s_law_shares) .none kV38 dc38 pm38 an38 cd38 ct38), sl38⟩)
  (c38 : PySem.W.codeIn K cd38 "_law_shares" = true) (k38 : PySem.W.keepIn K (.ref f38) = true)
  {f39 : Addr} {oc39 kV39 dc39 pm39 cd39 ct39 : Value} {od39 an39 : Option Addr} {sl39 : Array (Option Value)}
  (a39 : PySem.W.nsIn K mainGlobals "_law_must_see" = some (some (.ref f39)))
  (l39 : K.lookup f39 = some ⟨oc39, od39, .func (PySem.W.fnOf "_law_must_see" "_law_must_see" (defArgs s_law_must_see) (defBody s_law_must_see) (defScope s_law_must_see) .none kV39 dc39 pm39 an39 cd39 ct39), sl39⟩)
  (c39 : PySem.W.codeIn K cd39 "_law_must_see" = true) (k39 : PySem.W.keepIn K (.ref f39) = true)
  {f40 : Addr} {oc40 kV40 dc40 pm40 cd40 ct40 : Value} {od40 an40 : Option Addr} {sl40 : Array (Option Value)}
  (a40 : PySem.W.nsIn K mainGlobals "_law_due" = some (some (.ref f40)))
  (l40 : K.lookup f40 = some ⟨oc40, od40, .func (PySem.W.fnOf "_law_due" "_law_due" (defArgs s_law_due) (defBody s_law_due) (defScope s_law_due) .none kV40 dc40 pm40 an40 cd40 ct40), sl40⟩)
  (c40 : PySem.W.codeIn K cd40 "_law_due" = true) (k40 : PySem.W.keepIn K (.ref f40) = true)
  {f41 : Addr} {oc41 kV41 dc41 pm41 cd41 ct41 : Value} {od41 an41 : Option Addr} {sl41 : Array (Option Value)}
  (a41 : PySem.W.nsIn K mainGlobals "_law_all_orders" = some (some (.ref f41)))
  (l41 : K.lookup f41 = some ⟨oc41, od41, .func (PySem.W.fnOf "_law_all_orders" "_law_all_orders" (defArgs s_law_all_orders) (defBody s_law_all_orders) (defScope s_law_all_orders) .none kV41 dc41 pm41 an41 cd41 ct41), sl41⟩)
  (c41 : PySem.W.codeIn K cd41 "_law_all_orders" = true) (k41 : PySem.W.keepIn K (.ref f41) = true)
  {f42 : Addr} {oc42 kV42 dc42 pm42 cd42 ct42 : Value} {od42 an42 : Option Addr} {sl42 : Array (Option Value)}
  (a42 : PySem.W.nsIn K mainGlobals "_law_drawn_order" = some (some (.ref f42)))
  (l42 : K.lookup f42 = some ⟨oc42, od42, .func (PySem.W.fnOf "_law_drawn_order" "_law_drawn_order" (defArgs s_law_drawn_order) (defBody s_law_drawn_order) (defScope s_law_drawn_order) .none kV42 dc42 pm42 an42 cd42 ct42), sl42⟩)
  (c42 : PySem.W.codeIn K cd42 "_law_drawn_order" = true) (k42 : PySem.W.keepIn K (.ref f42) = true)
  {f43 : Addr} {oc43 kV43 dc43 pm43 cd43 ct43 : Value} {od43 an43 : Option Addr} {sl43 : Array (Option Value)}
  (a43 : PySem.W.nsIn K mainGlobals "_law_not_orders" = some (some (.ref f43)))
  (l43 : K.lookup f43 = some ⟨oc43, od43, .func (PySem.W.fnOf "_law_not_orders" "_law_not_orders" (defArgs s_law_not_orders) (defBody s_law_not_orders) (defScope s_law_not_orders) .none kV43 dc43 pm43 an43 cd43 ct43), sl43⟩)
  (c43 : PySem.W.codeIn K cd43 "_law_not_orders" = true) (k43 : PySem.W.keepIn K (.ref f43) = true)
  {f44 : Addr} {oc44 kV44 dc44 pm44 cd44 ct44 : Value} {od44 an44 : Option Addr} {sl44 : Array (Option Value)}
  (a44 : PySem.W.nsIn K mainGlobals "law" = some (some (.ref f44)))
  (l44 : K.lookup f44 = some ⟨oc44, od44, .func (PySem.W.fnOf "law" "law" (defArgs s_law) (defBody s_law) (defScope s_law) .none kV44 dc44 pm44 an44 cd44 ct44), sl44⟩)
  (c44 : PySem.W.codeIn K cd44 "law" = true) (k44 : PySem.W.keepIn K (.ref f44) = true)
  (z_all : PySem.W.nsIn K mainGlobals "all" = some none)
  (z_any : PySem.W.nsIn K mainGlobals "any" = some none)
  (z_bool : PySem.W.nsIn K mainGlobals "bool" = some none)
  (z_enumerate : PySem.W.nsIn K mainGlobals "enumerate" = some none)
  (z_int : PySem.W.nsIn K mainGlobals "int" = some none)
  (z_isinstance : PySem.W.nsIn K mainGlobals "isinstance" = some none)
  (z_len : PySem.W.nsIn K mainGlobals "len" = some none)
  (z_list : PySem.W.nsIn K mainGlobals "list" = some none)
  (z_max : PySem.W.nsIn K mainGlobals "max" = some none)
  (z_min : PySem.W.nsIn K mainGlobals "min" = some none)
  (z_range : PySem.W.nsIn K mainGlobals "range" = some none)
  (z_sorted : PySem.W.nsIn K mainGlobals "sorted" = some none)
  (z_str : PySem.W.nsIn K mainGlobals "str" = some none)
  (z_tuple : PySem.W.nsIn K mainGlobals "tuple" = some none)
  (z_zip : PySem.W.nsIn K mainGlobals "zip" = some none)
  {t_GREATEST_SIGN : Tok}
  (v_GREATEST_SIGN : PySem.W.nsIn K mainGlobals "GREATEST_SIGN" = some (some (.str "~" t_GREATEST_SIGN)))
  {t_LEAST_SIGN : Tok}
  (v_LEAST_SIGN : PySem.W.nsIn K mainGlobals "LEAST_SIGN" = some (some (.str " " t_LEAST_SIGN)))
  {t_MOST_SESSIONS : Tok}
  (v_MOST_SESSIONS : PySem.W.nsIn K mainGlobals "MOST_SESSIONS" = some (some (.int 12 t_MOST_SESSIONS)))
  {t_NONE_SEEN : Tok}
  (v_NONE_SEEN : PySem.W.nsIn K mainGlobals "NONE_SEEN" = some (some (.int (-1) t_NONE_SEEN)))
  {m0_LEVELS m1_LEVELS m2_LEVELS m3_LEVELS m4_LEVELS m5_LEVELS : Tok} {gN_LEVELS : Addr} {nN_LEVELS : Nat} {sN_LEVELS : Array (Option Value)} (vN_LEVELS : PySem.W.nsIn K mainGlobals "LEVELS" = some (some (.ref gN_LEVELS))) (wN_LEVELS : K.lookup gN_LEVELS = some ⟨.type "tuple", none, .seq #[.str "rc" m0_LEVELS, .str "ra" m1_LEVELS, .str "cc" m2_LEVELS, .str "pc" m3_LEVELS, .str "si" m4_LEVELS, .str "ser" m5_LEVELS] nN_LEVELS, sN_LEVELS⟩)
  {t0_LEVELS t1_LEVELS t2_LEVELS t3_LEVELS t4_LEVELS t5_LEVELS : Tok}
  {g_LEVELS : Addr} {d_LEVELS : Option Addr} {n_LEVELS : Nat} {s_LEVELS : Array (Option Value)} (v_LEVELS : PySem.W.nsIn K mainGlobals "LEVELS" = some (some (.ref g_LEVELS))) (w_LEVELS : K.lookup g_LEVELS = some ⟨.type "tuple", d_LEVELS, .seq #[.str "rc" t0_LEVELS, .str "ra" t1_LEVELS, .str "cc" t2_LEVELS, .str "pc" t3_LEVELS, .str "si" t4_LEVELS, .str "ser" t5_LEVELS] n_LEVELS, s_LEVELS⟩) : Txt P w K mg where
  f_is_integer := def_mk X GN a0 l0 c0 k0 fun _ _ _ _ _ _ us hl => match us, hl with | [_], _ => rfl
  f_is_from := def_mk X GN a1 l1 c1 k1 fun _ _ _ _ _ _ us hl => match us, hl with | [_, _], _ => rfl
  f_is_tuple_of := def_mk X GN a2 l2 c2 k2 fun _ _ _ _ _ _ us hl => match us, hl with | [_, _], _ => rfl
  f_is_text := def_mk X GN a3 l3 c3 k3 fun _ _ _ _ _ _ us hl => match us, hl with | [_], _ => rfl
  f_is_level := def_mk X GN a4 l4 c4 k4 fun _ _ _ _ _ _ us hl => match us, hl with | [_], _ => rfl
  f_level_rank := def_mk X GN a5 l5 c5 k5 fun _ _ _ _ _ _ us hl => match us, hl with | [_], _ => rfl
  f_is_name_form := def_mk X GN a6 l6 c6 k6 fun _ _ _ _ _ _ us hl => match us, hl with | [_], _ => rfl
  f_is_read_form := def_mk X GN a7 l7 c7 k7 fun _ _ _ _ _ _ us hl => match us, hl with | [_], _ => rfl
  f_are_keys := def_mk X GN a8 l8 c8 k8 fun _ _ _ _ _ _ us hl => match us, hl with | [_], _ => rfl
  f_transaction_fault := def_mk X GN a9 l9 c9 k9 fun _ _ _ _ _ _ us hl => match us, hl with | [_], _ => rfl
  f_form_fault := def_mk X GN a10 l10 c10 k10 fun _ _ _ _ _ _ us hl => match us, hl with | [_], _ => rfl
  f_names_of := def_mk X GN a11 l11 c11 k11 fun _ _ _ _ _ _ us hl => match us, hl with | [_], _ => rfl
  f_transaction_of := def_mk X GN a12 l12 c12 k12 fun _ _ _ _ _ _ us hl => match us, hl with | [_, _], _ => rfl
  f_transaction_at := def_mk X GN a13 l13 c13 k13 fun _ _ _ _ _ _ us hl => match us, hl with | [_, _], _ => rfl
  f_source_fault := def_mk X GN a14 l14 c14 k14 fun _ _ _ _ _ _ us hl => match us, hl with | [_], _ => rfl
  f_history_fault := def_mk X GN a15 l15 c15 k15 fun _ _ _ _ _ _ us hl => match us, hl with | [_], _ => rfl
  f_check_history := def_mk X GN a16 l16 c16 k16 fun _ _ _ _ _ _ us hl => match us, hl with | [_], _ => rfl
  f_writers_of := def_mk X GN a17 l17 c17 k17 fun _ _ _ _ _ _ us hl => match us, hl with | [_, _], _ => rfl
  f_sources_of := def_mk X GN a18 l18 c18 k18 fun _ _ _ _ _ _ us hl => match us, hl with | [_, _], _ => rfl
  f_predecessors := def_mk X GN a19 l19 c19 k19 fun _ _ _ _ _ _ us hl => match us, hl with | [_], _ => rfl
  f_closure_of := def_mk X GN a20 l20 c20 k20 fun _ _ _ _ _ _ us hl => match us, hl with | [_, _], _ => rfl
  f_named_before := def_mk X GN a21 l21 c21 k21 fun _ _ _ _ _ _ us hl => match us, hl with | [_, _, _, _], _ => rfl
  f_shares_write := def_mk X GN a22 l22 c22 k22 fun _ _ _ _ _ _ us hl => match us, hl with | [_, _, _], _ => rfl
  f_last_seen := def_mk X GN a23 l23 c23 k23 fun _ _ _ _ _ _ us hl => match us, hl with | [_, _, _, _], _ => rfl
  f_seen_writers := def_mk X GN a24 l24 c24 k24 fun _ _ _ _ _ _ us hl => match us, hl with | [_, _, _, _, _], _ => rfl
  f_is_order := def_mk X GN a25 l25 c25 k25 fun _ _ _ _ _ _ us hl => match us, hl with | [_, _], _ => rfl
  f_first_turned := def_mk X GN a26 l26 c26 k26 fun _ _ _ _ _ _ us hl => match us, hl with | [_, _], _ => rfl
  f_first_unseen := def_mk X GN a27 l27 c27 k27 fun _ _ _ _ _ _ us hl => match us, hl with | [_, _, _], _ => rfl
  f_order_fault := def_mk X GN a28 l28 c28 k28 fun _ _ _ _ _ _ us hl => match us, hl with | [_, _], _ => rfl
  f_law_begin := def_mk X GN a29 l29 c29 k29 fun _ _ _ _ _ _ us hl => match us, hl with | [_], _ => rfl
  f_law_draw := def_mk X GN a30 l30 c30 k30 fun _ _ _ _ _ _ us hl => match us, hl with | [_, _], _ => rfl
  f_law_same := def_mk X GN a31 l31 c31 k31 fun _ _ _ _ _ _ us hl => match us, hl with | [_, _], _ => rfl
  f_law_keys := def_mk X GN a32 l32 c32 k32 fun _ _ _ _ _ _ us hl => match us, hl with | [_, _], _ => rfl
  f_law_parts := def_mk X GN a33 l33 c33 k33 fun _ _ _ _ _ _ us hl => match us, hl with | [_, _, _, _], _ => rfl
  f_law_history := def_mk X GN a34 l34 c34 k34 fun _ _ _ _ _ _ us hl => match us, hl with | [_, _, _, _, _], _ => rfl
  f_law_names := def_mk X GN a35 l35 c35 k35 fun _ _ _ _ _ _ us hl => match us, hl with | [_], _ => rfl
  f_law_before := def_mk X GN a36 l36 c36 k36 fun _ _ _ _ _ _ us hl => match us, hl with | [_], _ => rfl
  f_law_closure := def_mk X GN a37 l37 c37 k37 fun _ _ _ _ _ _ us hl => match us, hl with | [_, _], _ => rfl
  f_law_shares := def_mk X GN a38 l38 c38 k38 fun _ _ _ _ _ _ us hl => match us, hl with | [_, _, _], _ => rfl
  f_law_must_see := def_mk X GN a39 l39 c39 k39 fun _ _ _ _ _ _ us hl => match us, hl with | [_, _, _, _, _, _, _], _ => rfl
  f_law_due := def_mk X GN a40 l40 c40 k40 fun _ _ _ _ _ _ us hl => match us, hl with | [_, _, _, _], _ => rfl
  f_law_all_orders := def_mk X GN a41 l41 c41 k41 fun _ _ _ _ _ _ us hl => match us, hl with | [_], _ => rfl
  f_law_drawn_order := def_mk X GN a42 l42 c42 k42 fun _ _ _ _ _ _ us hl => match us, hl with | [_, _, _], _ => rfl
  f_law_not_orders := def_mk X GN a43 l43 c43 k43 fun _ _ _ _ _ _ us hl => match us, hl with | [_, _], _ => rfl
  f_law := def_mk X GN a44 l44 c44 k44 fun _ _ _ _ _ _ us hl => match us, hl with | [_], _ => rfl
  b_all := PySem.W.mg_none_of X GN z_all
  b_any := PySem.W.mg_none_of X GN z_any
  b_bool := PySem.W.mg_none_of X GN z_bool
  b_enumerate := PySem.W.mg_none_of X GN z_enumerate
  b_int := PySem.W.mg_none_of X GN z_int
  b_isinstance := PySem.W.mg_none_of X GN z_isinstance
  b_len := PySem.W.mg_none_of X GN z_len
  b_list := PySem.W.mg_none_of X GN z_list
  b_max := PySem.W.mg_none_of X GN z_max
  b_min := PySem.W.mg_none_of X GN z_min
  b_range := PySem.W.mg_none_of X GN z_range
  b_sorted := PySem.W.mg_none_of X GN z_sorted
  b_str := PySem.W.mg_none_of X GN z_str
  b_tuple := PySem.W.mg_none_of X GN z_tuple
  b_zip := PySem.W.mg_none_of X GN z_zip
  c_GREATEST_SIGN := ⟨_, PySem.W.mg_of X GN v_GREATEST_SIGN, ⟨_, rfl⟩⟩
  c_LEAST_SIGN := ⟨_, PySem.W.mg_of X GN v_LEAST_SIGN, ⟨_, rfl⟩⟩
  c_MOST_SESSIONS := ⟨_, PySem.W.mg_of X GN v_MOST_SESSIONS, ⟨_, rfl⟩⟩
  c_NONE_SEEN := ⟨_, PySem.W.mg_of X GN v_NONE_SEEN, ⟨_, rfl⟩⟩
  n_LEVELS := tupNo_mk (PySem.W.mg_of X GN vN_LEVELS) wN_LEVELS (.cons ⟨_, rfl⟩ (.cons ⟨_, rfl⟩ (.cons ⟨_, rfl⟩ (.cons ⟨_, rfl⟩ (.cons ⟨_, rfl⟩ (.cons ⟨_, rfl⟩ .nil)))))) (by show 6 ≤ 16777216; decide)
  t_LEVELS := tupAt_mk (PySem.W.mg_of X GN v_LEVELS) w_LEVELS (.cons ⟨_, rfl⟩ (.cons ⟨_, rfl⟩ (.cons ⟨_, rfl⟩ (.cons ⟨_, rfl⟩ (.cons ⟨_, rfl⟩ (.cons ⟨_, rfl⟩ .nil)))))) (by show 6 ≤ 16777216; decide)
theorem law_cal (T : Txt P w K mg) : Cal P w K mg base 10 "law" s_law ["script"] sp_law := by
  have C_is_integer : Cal P w K mg base 1 "is_integer" s_is_integer ["value"] sp_is_integer := ok_is_integer T 
  have C_is_from : Cal P w K mg base 2 "is_from" s_is_from ["least", "value"] sp_is_from := ok_is_from T C_is_integer
  have C_is_tuple_of : Cal P w K mg base 1 "is_tuple_of" s_is_tuple_of ["length", "value"] sp_is_tuple_of := ok_is_tuple_of T 
  have C_is_text : Cal P w K mg base 1 "is_text" s_is_text ["value"] sp_is_text := ok_is_text T 
  have C_is_level : Cal P w K mg base 1 "is_level" s_is_level ["value"] sp_is_level := ok_is_level T 
  have C_level_rank : Cal P w K mg base 1 "level_rank" s_level_rank ["level"] sp_level_rank := ok_level_rank T 
  have C_is_name_form : Cal P w K mg base 3 "is_name_form" s_is_name_form ["value"] sp_is_name_form := ok_is_name_form T C_is_tuple_of C_is_from
  have C_is_read_form : Cal P w K mg base 4 "is_read_form" s_is_read_form ["value"] sp_is_read_form := ok_is_read_form T C_is_tuple_of C_is_text C_is_name_form
  have C_are_keys : Cal P w K mg base 2 "are_keys" s_are_keys ["value"] sp_are_keys := ok_are_keys T C_is_text
  have C_transaction_fault : Cal P w K mg base 5 "transaction_fault" s_transaction_fault ["value"] sp_transaction_fault := ok_transaction_fault T C_is_tuple_of C_is_level C_is_read_form C_are_keys
  have C_form_fault : Cal P w K mg base 6 "form_fault" s_form_fault ["value"] sp_form_fault := ok_form_fault T C_transaction_fault
  have C_names_of : Cal P w K mg base 1 "names_of" s_names_of ["history"] sp_names_of := ok_names_of T 
  have C_transaction_of : Cal P w K mg base 1 "transaction_of" s_transaction_of ["history", "name"] sp_transaction_of := ok_transaction_of T 
  have C_transaction_at : Cal P w K mg base 2 "transaction_at" s_transaction_at ["history", "name"] sp_transaction_at := ok_transaction_at T C_transaction_of
  have C_source_fault : Cal P w K mg base 3 "source_fault" s_source_fault ["history"] sp_source_fault := ok_source_fault T C_names_of C_transaction_of C_transaction_at
  have C_history_fault : Cal P w K mg base 7 "history_fault" s_history_fault ["value"] sp_history_fault := ok_history_fault T C_form_fault C_source_fault
  have C_check_history : Cal P w K mg base 8 "check_history" s_check_history ["history"] sp_check_history := ok_check_history T C_history_fault
  have C_writers_of : Cal P w K mg base 2 "writers_of" s_writers_of ["history", "key"] sp_writers_of := ok_writers_of T C_names_of C_transaction_of
  have C_sources_of : Cal P w K mg base 2 "sources_of" s_sources_of ["history", "name"] sp_sources_of := ok_sources_of T C_transaction_of
  have C_predecessors : Cal P w K mg base 3 "predecessors" s_predecessors ["history"] sp_predecessors := ok_predecessors T C_names_of C_sources_of
  have C_closure_of : Cal P w K mg base 1 "closure_of" s_closure_of ["before", "name"] sp_closure_of := ok_closure_of T 
  have C_named_before : Cal P w K mg base 2 "named_before" s_named_before ["history", "before", "name", "k"] sp_named_before := ok_named_before T C_transaction_of C_closure_of
  have C_shares_write : Cal P w K mg base 2 "shares_write" s_shares_write ["history", "one", "other"] sp_shares_write := ok_shares_write T C_transaction_of
  have C_last_seen : Cal P w K mg base 3 "last_seen" s_last_seen ["history", "before", "places", "name"] sp_last_seen := ok_last_seen T C_transaction_of C_shares_write
  have C_seen_writers : Cal P w K mg base 4 "seen_writers" s_seen_writers ["history", "before", "places", "name", "k"] sp_seen_writers := ok_seen_writers T C_transaction_of C_writers_of C_level_rank C_named_before C_last_seen
  have C_is_order : Cal P w K mg base 4 "is_order" s_is_order ["history", "value"] sp_is_order := ok_is_order T C_is_name_form C_names_of
  have C_first_turned : Cal P w K mg base 1 "first_turned" s_first_turned ["before", "places"] sp_first_turned := ok_first_turned T 
  have C_first_unseen : Cal P w K mg base 5 "first_unseen" s_first_unseen ["history", "before", "places"] sp_first_unseen := ok_first_unseen T C_names_of C_transaction_of C_seen_writers
  have C_order_fault : Cal P w K mg base 9 "order_fault" s_order_fault ["history", "value"] sp_order_fault := ok_order_fault T C_check_history C_is_order C_predecessors C_first_turned C_first_unseen
  have C_law_begin : Cal P w K mg base 1 "_law_begin" s_law_begin ["script"] sp_law_begin := ok_law_begin T 
  have C_law_draw : Cal P w K mg base 1 "_law_draw" s_law_draw ["state", "many"] sp_law_draw := ok_law_draw T 
  have C_law_same : Cal P w K mg base 7 "_law_same" s_law_same ["actual", "due"] sp_law_same := ok_law_same T 
  have C_law_keys : Cal P w K mg base 2 "_law_keys" s_law_keys ["state", "many"] sp_law_keys := ok_law_keys T C_law_draw
  have C_law_parts : Cal P w K mg base 2 "_law_parts" s_law_parts ["state", "listed", "keys", "reads"] sp_law_parts := ok_law_parts T C_law_draw
  have C_law_history : Cal P w K mg base 3 "_law_history" s_law_history ["state", "most", "sessions", "keys", "reads"] sp_law_history := ok_law_history T C_law_draw C_law_parts
  have C_law_names : Cal P w K mg base 1 "_law_names" s_law_names ["history"] sp_law_names := ok_law_names T 
  have C_law_before : Cal P w K mg base 2 "_law_before" s_law_before ["history"] sp_law_before := ok_law_before T C_law_names
  have C_law_closure : Cal P w K mg base 1 "_law_closure" s_law_closure ["before", "name"] sp_law_closure := ok_law_closure T 
  have C_law_shares : Cal P w K mg base 1 "_law_shares" s_law_shares ["history", "one", "other"] sp_law_shares := ok_law_shares T 
  have C_law_must_see : Cal P w K mg base 2 "_law_must_see" s_law_must_see ["history", "before", "closures", "places", "t3", "k", "t2"] sp_law_must_see := ok_law_must_see T C_law_shares
  have C_law_due : Cal P w K mg base 3 "_law_due" s_law_due ["history", "before", "closures", "order"] sp_law_due := ok_law_due T C_law_names C_law_must_see
  have C_law_all_orders : Cal P w K mg base 1 "_law_all_orders" s_law_all_orders ["listed"] sp_law_all_orders := ok_law_all_orders T 
  have C_law_drawn_order : Cal P w K mg base 2 "_law_drawn_order" s_law_drawn_order ["state", "before", "keeping"] sp_law_drawn_order := ok_law_drawn_order T C_law_draw
  have C_law_not_orders : Cal P w K mg base 2 "_law_not_orders" s_law_not_orders ["state", "listed"] sp_law_not_orders := ok_law_not_orders T C_law_draw
  have C_law : Cal P w K mg base 10 "law" s_law ["script"] sp_law := ok_law T C_law_begin C_law_draw C_law_keys C_law_history C_law_names C_law_before C_law_closure C_law_all_orders C_law_drawn_order C_law_same C_law_due C_order_fault C_law_not_orders
  exact C_law
theorem all_mk {P : Program} {w : World} {K : PySem.W.Frag} {h : Heap} {mg : Str → Option Value} {fa : Addr} (hm : mg "law" = some (.ref fa)) (X : K.In h)
  (GN : h.Ns mainGlobals mg)
  {f0 : Addr} {oc0 kV0 dc0 pm0 cd0 ct0 : Value} {od0 an0 : Option Addr} {sl0 : Array (Option Value)}
  (a0 : PySem.W.nsIn K mainGlobals "is_integer" = some (some (.ref f0)))
  (l0 : K.lookup f0 = some ⟨oc0, od0, .func (PySem.W.fnOf "is_integer" "is_integer" (defArgs s_is_integer) (defBody s_is_integer) (defScope s_is_integer) .none kV0 dc0 pm0 an0 cd0 ct0), sl0⟩)
  (c0 : PySem.W.codeIn K cd0 "is_integer" = true) (k0 : PySem.W.keepIn K (.ref f0) = true)
  {f1 : Addr} {oc1 kV1 dc1 pm1 cd1 ct1 : Value} {od1 an1 : Option Addr} {sl1 : Array (Option Value)}
  (a1 : PySem.W.nsIn K mainGlobals "is_from" = some (some (.ref f1)))
  (l1 : K.lookup f1 = some ⟨oc1, od1, .func (PySem.W.fnOf "is_from" "is_from" (defArgs s_is_from) (defBody s_is_from) (defScope s_is_from) .none kV1 dc1 pm1 an1 cd1 ct1), sl1⟩)
  (c1 : PySem.W.codeIn K cd1 "is_from" = true) (k1 : PySem.W.keepIn K (.ref f1) = true)
  {f2 : Addr} {oc2 kV2 dc2 pm2 cd2 ct2 : Value} {od2 an2 : Option Addr} {sl2 : Array (Option Value)}
  (a2 : PySem.W.nsIn K mainGlobals "is_tuple_of" = some (some (.ref f2)))
  (l2 : K.lookup f2 = some ⟨oc2, od2, .func (PySem.W.fnOf "is_tuple_of" "is_tuple_of" (defArgs s_is_tuple_of) (defBody s_is_tuple_of) (defScope s_is_tuple_of) .none kV2 dc2 pm2 an2 cd2 ct2), sl2⟩)
  (c2 : PySem.W.codeIn K cd2 "is_tuple_of" = true) (k2 : PySem.W.keepIn K (.ref f2) = true)
  {f3 : Addr} {oc3 kV3 dc3 pm3 cd3 ct3 : Value} {od3 an3 : Option Addr} {sl3 : Array (Option Value)}
  (a3 : PySem.W.nsIn K mainGlobals "is_text" = some (some (.ref f3)))
  (l3 : K.lookup f3 = some ⟨oc3, od3, .func (PySem.W.fnOf "is_text" "is_text" (defArgs s_is_text) (defBody s_is_text) (defScope s_is_text) .none kV3 dc3 pm3 an3 cd3 ct3), sl3⟩)
  (c3 : PySem.W.codeIn K cd3 "is_text" = true) (k3 : PySem.W.keepIn K (.ref f3) = true)
  {f4 : Addr} {oc4 kV4 dc4 pm4 cd4 ct4 : Value} {od4 an4 : Option Addr} {sl4 : Array (Option Value)}
  (a4 : PySem.W.nsIn K mainGlobals "is_level" = some (some (.ref f4)))
  (l4 : K.lookup f4 = some ⟨oc4, od4, .func (PySem.W.fnOf "is_level" "is_level" (defArgs s_is_level) (defBody s_is_level) (defScope s_is_level) .none kV4 dc4 pm4 an4 cd4 ct4), sl4⟩)
  (c4 : PySem.W.codeIn K cd4 "is_level" = true) (k4 : PySem.W.keepIn K (.ref f4) = true)
  {f5 : Addr} {oc5 kV5 dc5 pm5 cd5 ct5 : Value} {od5 an5 : Option Addr} {sl5 : Array (Option Value)}
  (a5 : PySem.W.nsIn K mainGlobals "level_rank" = some (some (.ref f5)))
  (l5 : K.lookup f5 = some ⟨oc5, od5, .func (PySem.W.fnOf "level_rank" "level_rank" (defArgs s_level_rank) (defBody s_level_rank) (defScope s_level_rank) .none kV5 dc5 pm5 an5 cd5 ct5), sl5⟩)
  (c5 : PySem.W.codeIn K cd5 "level_rank" = true) (k5 : PySem.W.keepIn K (.ref f5) = true)
  {f6 : Addr} {oc6 kV6 dc6 pm6 cd6 ct6 : Value} {od6 an6 : Option Addr} {sl6 : Array (Option Value)}
  (a6 : PySem.W.nsIn K mainGlobals "is_name_form" = some (some (.ref f6)))
  (l6 : K.lookup f6 = some ⟨oc6, od6, .func (PySem.W.fnOf "is_name_form" "is_name_form" (defArgs s_is_name_form) (defBody s_is_name_form) (defScope s_is_name_form) .none kV6 dc6 pm6 an6 cd6 ct6), sl6⟩)
  (c6 : PySem.W.codeIn K cd6 "is_name_form" = true) (k6 : PySem.W.keepIn K (.ref f6) = true)
  {f7 : Addr} {oc7 kV7 dc7 pm7 cd7 ct7 : Value} {od7 an7 : Option Addr} {sl7 : Array (Option Value)}
  (a7 : PySem.W.nsIn K mainGlobals "is_read_form" = some (some (.ref f7)))
  (l7 : K.lookup f7 = some ⟨oc7, od7, .func (PySem.W.fnOf "is_read_form" "is_read_form" (defArgs s_is_read_form) (defBody s_is_read_form) (defScope s_is_read_form) .none kV7 dc7 pm7 an7 cd7 ct7), sl7⟩)
  (c7 : PySem.W.codeIn K cd7 "is_read_form" = true) (k7 : PySem.W.keepIn K (.ref f7) = true)
  {f8 : Addr} {oc8 kV8 dc8 pm8 cd8 ct8 : Value} {od8 an8 : Option Addr} {sl8 : Array (Option Value)}
  (a8 : PySem.W.nsIn K mainGlobals "are_keys" = some (some (.ref f8)))
  (l8 : K.lookup f8 = some ⟨oc8, od8, .func (PySem.W.fnOf "are_keys" "are_keys" (defArgs s_are_keys) (defBody s_are_keys) (defScope s_are_keys) .none kV8 dc8 pm8 an8 cd8 ct8), sl8⟩)
  (c8 : PySem.W.codeIn K cd8 "are_keys" = true) (k8 : PySem.W.keepIn K (.ref f8) = true)
  {f9 : Addr} {oc9 kV9 dc9 pm9 cd9 ct9 : Value} {od9 an9 : Option Addr} {sl9 : Array (Option Value)}
  (a9 : PySem.W.nsIn K mainGlobals "transaction_fault" = some (some (.ref f9)))
  (l9 : K.lookup f9 = some ⟨oc9, od9, .func (PySem.W.fnOf "transaction_fault" "transaction_fault" (defArgs s_transaction_fault) (defBody s_transaction_fault) (defScope s_transaction_fault) .none kV9 dc9 pm9 an9 cd9 ct9), sl9⟩)
  (c9 : PySem.W.codeIn K cd9 "transaction_fault" = true) (k9 : PySem.W.keepIn K (.ref f9) = true)
  {f10 : Addr} {oc10 kV10 dc10 pm10 cd10 ct10 : Value} {od10 an10 : Option Addr} {sl10 : Array (Option Value)}
  (a10 : PySem.W.nsIn K mainGlobals "form_fault" = some (some (.ref f10)))
  (l10 : K.lookup f10 = some ⟨oc10, od10, .func (PySem.W.fnOf "form_fault" "form_fault" (defArgs s_form_fault) (defBody s_form_fault) (defScope s_form_fault) .none kV10 dc10 pm10 an10 cd10 ct10), sl10⟩)
  (c10 : PySem.W.codeIn K cd10 "form_fault" = true) (k10 : PySem.W.keepIn K (.ref f10) = true)
  {f11 : Addr} {oc11 kV11 dc11 pm11 cd11 ct11 : Value} {od11 an11 : Option Addr} {sl11 : Array (Option Value)}
  (a11 : PySem.W.nsIn K mainGlobals "names_of" = some (some (.ref f11)))
  (l11 : K.lookup f11 = some ⟨oc11, od11, .func (PySem.W.fnOf "names_of" "names_of" (defArgs s_names_of) (defBody s_names_of) (defScope s_names_of) .none kV11 dc11 pm11 an11 cd11 ct11), sl11⟩)
  (c11 : PySem.W.codeIn K cd11 "names_of" = true) (k11 : PySem.W.keepIn K (.ref f11) = true)
  {f12 : Addr} {oc12 kV12 dc12 pm12 cd12 ct12 : Value} {od12 an12 : Option Addr} {sl12 : Array (Option Value)}
  (a12 : PySem.W.nsIn K mainGlobals "transaction_of" = some (some (.ref f12)))
  (l12 : K.lookup f12 = some ⟨oc12, od12, .func (PySem.W.fnOf "transaction_of" "transaction_of" (defArgs s_transaction_of) (defBody s_transaction_of) (defScope s_transaction_of) .none kV12 dc12 pm12 an12 cd12 ct12), sl12⟩)
  (c12 : PySem.W.codeIn K cd12 "transaction_of" = true) (k12 : PySem.W.keepIn K (.ref f12) = true)
  {f13 : Addr} {oc13 kV13 dc13 pm13 cd13 ct13 : Value} {od13 an13 : Option Addr} {sl13 : Array (Option Value)}
  (a13 : PySem.W.nsIn K mainGlobals "transaction_at" = some (some (.ref f13)))
  (l13 : K.lookup f13 = some ⟨oc13, od13, .func (PySem.W.fnOf "transaction_at" "transaction_at" (defArgs s_transaction_at) (defBody s_transaction_at) (defScope s_transaction_at) .none kV13 dc13 pm13 an13 cd13 ct13), sl13⟩)
  (c13 : PySem.W.codeIn K cd13 "transaction_at" = true) (k13 : PySem.W.keepIn K (.ref f13) = true)
  {f14 : Addr} {oc14 kV14 dc14 pm14 cd14 ct14 : Value} {od14 an14 : Option Addr} {sl14 : Array (Option Value)}
  (a14 : PySem.W.nsIn K mainGlobals "source_fault" = some (some (.ref f14)))
  (l14 : K.lookup f14 = some ⟨oc14, od14, .func (PySem.W.fnOf "source_fault" "source_fault" (defArgs s_source_fault) (defBody s_source_fault) (defScope s_source_fault) .none kV14 dc14 pm14 an14 cd14 ct14), sl14⟩)
  (c14 : PySem.W.codeIn K cd14 "source_fault" = true) (k14 : PySem.W.keepIn K (.ref f14) = true)
  {f15 : Addr} {oc15 kV15 dc15 pm15 cd15 ct15 : Value} {od15 an15 : Option Addr} {sl15 : Array (Option Value)}
  (a15 : PySem.W.nsIn K mainGlobals "history_fault" = some (some (.ref f15)))
  (l15 : K.lookup f15 = some ⟨oc15, od15, .func (PySem.W.fnOf "history_fault" "history_fault" (defArgs s_history_fault) (defBody s_history_fault) (defScope s_history_fault) .none kV15 dc15 pm15 an15 cd15 ct15), sl15⟩)
  (c15 : PySem.W.codeIn K cd15 "history_fault" = true) (k15 : PySem.W.keepIn K (.ref f15) = true)
  {f16 : Addr} {oc16 kV16 dc16 pm16 cd16 ct16 : Value} {od16 an16 : Option Addr} {sl16 : Array (Option Value)}
  (a16 : PySem.W.nsIn K mainGlobals "check_history" = some (some (.ref f16)))
  (l16 : K.lookup f16 = some ⟨oc16, od16, .func (PySem.W.fnOf "check_history" "check_history" (defArgs s_check_history) (defBody s_check_history) (defScope s_check_history) .none kV16 dc16 pm16 an16 cd16 ct16), sl16⟩)
  (c16 : PySem.W.codeIn K cd16 "check_history" = true) (k16 : PySem.W.keepIn K (.ref f16) = true)
  {f17 : Addr} {oc17 kV17 dc17 pm17 cd17 ct17 : Value} {od17 an17 : Option Addr} {sl17 : Array (Option Value)}
  (a17 : PySem.W.nsIn K mainGlobals "writers_of" = some (some (.ref f17)))
  (l17 : K.lookup f17 = some ⟨oc17, od17, .func (PySem.W.fnOf "writers_of" "writers_of" (defArgs s_writers_of) (defBody s_writers_of) (defScope s_writers_of) .none kV17 dc17 pm17 an17 cd17 ct17), sl17⟩)
  (c17 : PySem.W.codeIn K cd17 "writers_of" = true) (k17 : PySem.W.keepIn K (.ref f17) = true)
  {f18 : Addr} {oc18 kV18 dc18 pm18 cd18 ct18 : Value} {od18 an18 : Option Addr} {sl18 : Array (Option Value)}
  (a18 : PySem.W.nsIn K mainGlobals "sources_of" = some (some (.ref f18)))
  (l18 : K.lookup f18 = some ⟨oc18, od18, .func (PySem.W.fnOf "sources_of" "sources_of" (defArgs s_sources_of) (defBody s_sources_of) (defScope s_sources_of) .none kV18 dc18 pm18 an18 cd18 ct18), sl18⟩)
  (c18 : PySem.W.codeIn K cd18 "sources_of" = true) (k18 : PySem.W.keepIn K (.ref f18) = true)
  {f19 : Addr} {oc19 kV19 dc19 pm19 cd19 ct19 : Value} {od19 an19 : Option Addr} {sl19 : Array (Option Value)}
  (a19 : PySem.W.nsIn K mainGlobals "predecessors" = some (some (.ref f19)))
  (l19 : K.lookup f19 = some ⟨oc19, od19, .func (PySem.W.fnOf "predecessors" "predecessors" (defArgs s_predecessors) (defBody s_predecessors) (defScope s_predecessors) .none kV19 dc19 pm19 an19 cd19 ct19), sl19⟩)
  (c19 : PySem.W.codeIn K cd19 "predecessors" = true) (k19 : PySem.W.keepIn K (.ref f19) = true)
  {f20 : Addr} {oc20 kV20 dc20 pm20 cd20 ct20 : Value} {od20 an20 : Option Addr} {sl20 : Array (Option Value)}
  (a20 : PySem.W.nsIn K mainGlobals "closure_of" = some (some (.ref f20)))
  (l20 : K.lookup f20 = some ⟨oc20, od20, .func (PySem.W.fnOf "closure_of" "closure_of" (defArgs s_closure_of) (defBody s_closure_of) (defScope s_closure_of) .none kV20 dc20 pm20 an20 cd20 ct20), sl20⟩)
  (c20 : PySem.W.codeIn K cd20 "closure_of" = true) (k20 : PySem.W.keepIn K (.ref f20) = true)
  {f21 : Addr} {oc21 kV21 dc21 pm21 cd21 ct21 : Value} {od21 an21 : Option Addr} {sl21 : Array (Option Value)}
  (a21 : PySem.W.nsIn K mainGlobals "named_before" = some (some (.ref f21)))
  (l21 : K.lookup f21 = some ⟨oc21, od21, .func (PySem.W.fnOf "named_before" "named_before" (defArgs s_named_before) (defBody s_named_before) (defScope s_named_before) .none kV21 dc21 pm21 an21 cd21 ct21), sl21⟩)
  (c21 : PySem.W.codeIn K cd21 "named_before" = true) (k21 : PySem.W.keepIn K (.ref f21) = true)
  {f22 : Addr} {oc22 kV22 dc22 pm22 cd22 ct22 : Value} {od22 an22 : Option Addr} {sl22 : Array (Option Value)}
  (a22 : PySem.W.nsIn K mainGlobals "shares_write" = some (some (.ref f22)))
  (l22 : K.lookup f22 = some ⟨oc22, od22, .func (PySem.W.fnOf "shares_write" "shares_write" (defArgs s_shares_write) (defBody s_shares_write) (defScope s_shares_write) .none kV22 dc22 pm22 an22 cd22 ct22), sl22⟩)
  (c22 : PySem.W.codeIn K cd22 "shares_write" = true) (k22 : PySem.W.keepIn K (.ref f22) = true)
  {f23 : Addr} {oc23 kV23 dc23 pm23 cd23 ct23 : Value} {od23 an23 : Option Addr} {sl23 : Array (Option Value)}
  (a23 : PySem.W.nsIn K mainGlobals "last_seen" = some (some (.ref f23)))
  (l23 : K.lookup f23 = some ⟨oc23, od23, .func (PySem.W.fnOf "last_seen" "last_seen" (defArgs s_last_seen) (defBody s_last_seen) (defScope s_last_seen) .none kV23 dc23 pm23 an23 cd23 ct23), sl23⟩)
  (c23 : PySem.W.codeIn K cd23 "last_seen" = true) (k23 : PySem.W.keepIn K (.ref f23) = true)
  {f24 : Addr} {oc24 kV24 dc24 pm24 cd24 ct24 : Value} {od24 an24 : Option Addr} {sl24 : Array (Option Value)}
  (a24 : PySem.W.nsIn K mainGlobals "seen_writers" = some (some (.ref f24)))
  (l24 : K.lookup f24 = some ⟨oc24, od24, .func (PySem.W.fnOf "seen_writers" "seen_writers" (defArgs s_seen_writers) (defBody s_seen_writers) (defScope s_seen_writers) .none kV24 dc24 pm24 an24 cd24 ct24), sl24⟩)
  (c24 : PySem.W.codeIn K cd24 "seen_writers" = true) (k24 : PySem.W.keepIn K (.ref f24) = true)
  {f25 : Addr} {oc25 kV25 dc25 pm25 cd25 ct25 : Value} {od25 an25 : Option Addr} {sl25 : Array (Option Value)}
  (a25 : PySem.W.nsIn K mainGlobals "is_order" = some (some (.ref f25)))
  (l25 : K.lookup f25 = some ⟨oc25, od25, .func (PySem.W.fnOf "is_order" "is_order" (defArgs s_is_order) (defBody s_is_order) (defScope s_is_order) .none kV25 dc25 pm25 an25 cd25 ct25), sl25⟩)
  (c25 : PySem.W.codeIn K cd25 "is_order" = true) (k25 : PySem.W.keepIn K (.ref f25) = true)
  {f26 : Addr} {oc26 kV26 dc26 pm26 cd26 ct26 : Value} {od26 an26 : Option Addr} {sl26 : Array (Option Value)}
  (a26 : PySem.W.nsIn K mainGlobals "first_turned" = some (some (.ref f26)))
  (l26 : K.lookup f26 = some ⟨oc26, od26, .func (PySem.W.fnOf "first_turned" "first_turned" (defArgs s_first_turned) (defBody s_first_turned) (defScope s_first_turned) .none kV26 dc26 pm26 an26 cd26 ct26), sl26⟩)
  (c26 : PySem.W.codeIn K cd26 "first_turned" = true) (k26 : PySem.W.keepIn K (.ref f26) = true)
  {f27 : Addr} {oc27 kV27 dc27 pm27 cd27 ct27 : Value} {od27 an27 : Option Addr} {sl27 : Array (Option Value)}
  (a27 : PySem.W.nsIn K mainGlobals "first_unseen" = some (some (.ref f27)))
  (l27 : K.lookup f27 = some ⟨oc27, od27, .func (PySem.W.fnOf "first_unseen" "first_unseen" (defArgs s_first_unseen) (defBody s_first_unseen) (defScope s_first_unseen) .none kV27 dc27 pm27 an27 cd27 ct27), sl27⟩)
  (c27 : PySem.W.codeIn K cd27 "first_unseen" = true) (k27 : PySem.W.keepIn K (.ref f27) = true)
  {f28 : Addr} {oc28 kV28 dc28 pm28 cd28 ct28 : Value} {od28 an28 : Option Addr} {sl28 : Array (Option Value)}
  (a28 : PySem.W.nsIn K mainGlobals "order_fault" = some (some (.ref f28)))
  (l28 : K.lookup f28 = some ⟨oc28, od28, .func (PySem.W.fnOf "order_fault" "order_fault" (defArgs s_order_fault) (defBody s_order_fault) (defScope s_order_fault) .none kV28 dc28 pm28 an28 cd28 ct28), sl28⟩)
  (c28 : PySem.W.codeIn K cd28 "order_fault" = true) (k28 : PySem.W.keepIn K (.ref f28) = true)
  {f29 : Addr} {oc29 kV29 dc29 pm29 cd29 ct29 : Value} {od29 an29 : Option Addr} {sl29 : Array (Option Value)}
  (a29 : PySem.W.nsIn K mainGlobals "_law_begin" = some (some (.ref f29)))
  (l29 : K.lookup f29 = some ⟨oc29, od29, .func (PySem.W.fnOf "_law_begin" "_law_begin" (defArgs s_law_begin) (defBody s_law_begin) (defScope s_law_begin) .none kV29 dc29 pm29 an29 cd29 ct29), sl29⟩)
  (c29 : PySem.W.codeIn K cd29 "_law_begin" = true) (k29 : PySem.W.keepIn K (.ref f29) = true)
  {f30 : Addr} {oc30 kV30 dc30 pm30 cd30 ct30 : Value} {od30 an30 : Option Addr} {sl30 : Array (Option Value)}
  (a30 : PySem.W.nsIn K mainGlobals "_law_draw" = some (some (.ref f30)))
  (l30 : K.lookup f30 = some ⟨oc30, od30, .func (PySem.W.fnOf "_law_draw" "_law_draw" (defArgs s_law_draw) (defBody s_law_draw) (defScope s_law_draw) .none kV30 dc30 pm30 an30 cd30 ct30), sl30⟩)
  (c30 : PySem.W.codeIn K cd30 "_law_draw" = true) (k30 : PySem.W.keepIn K (.ref f30) = true)
  {f31 : Addr} {oc31 kV31 dc31 pm31 cd31 ct31 : Value} {od31 an31 : Option Addr} {sl31 : Array (Option Value)}
  (a31 : PySem.W.nsIn K mainGlobals "_law_same" = some (some (.ref f31)))
  (l31 : K.lookup f31 = some ⟨oc31, od31, .func (PySem.W.fnOf "_law_same" "_law_same" (defArgs s_law_same) (defBody s_law_same) (defScope s_law_same) .none kV31 dc31 pm31 an31 cd31 ct31), sl31⟩)
  (c31 : PySem.W.codeIn K cd31 "_law_same" = true) (k31 : PySem.W.keepIn K (.ref f31) = true)
  {f32 : Addr} {oc32 kV32 dc32 pm32 cd32 ct32 : Value} {od32 an32 : Option Addr} {sl32 : Array (Option Value)}
  (a32 : PySem.W.nsIn K mainGlobals "_law_keys" = some (some (.ref f32)))
  (l32 : K.lookup f32 = some ⟨oc32, od32, .func (PySem.W.fnOf "_law_keys" "_law_keys" (defArgs s_law_keys) (defBody s_law_keys) (defScope s_law_keys) .none kV32 dc32 pm32 an32 cd32 ct32), sl32⟩)
  (c32 : PySem.W.codeIn K cd32 "_law_keys" = true) (k32 : PySem.W.keepIn K (.ref f32) = true)
  {f33 : Addr} {oc33 kV33 dc33 pm33 cd33 ct33 : Value} {od33 an33 : Option Addr} {sl33 : Array (Option Value)}
  (a33 : PySem.W.nsIn K mainGlobals "_law_parts" = some (some (.ref f33)))
  (l33 : K.lookup f33 = some ⟨oc33, od33, .func (PySem.W.fnOf "_law_parts" "_law_parts" (defArgs s_law_parts) (defBody s_law_parts) (defScope s_law_parts) .none kV33 dc33 pm33 an33 cd33 ct33), sl33⟩)
  (c33 : PySem.W.codeIn K cd33 "_law_parts" = true) (k33 : PySem.W.keepIn K (.ref f33) = true)
  {f34 : Addr} {oc34 kV34 dc34 pm34 cd34 ct34 : Value} {od34 an34 : Option Addr} {sl34 : Array (Option Value)}
  (a34 : PySem.W.nsIn K mainGlobals "_law_history" = some (some (.ref f34)))
  (l34 : K.lookup f34 = some ⟨oc34, od34, .func (PySem.W.fnOf "_law_history" "_law_history" (defArgs s_law_history) (defBody s_law_history) (defScope s_law_history) .none kV34 dc34 pm34 an34 cd34 ct34), sl34⟩)
  (c34 : PySem.W.codeIn K cd34 "_law_history" = true) (k34 : PySem.W.keepIn K (.ref f34) = true)
  {f35 : Addr} {oc35 kV35 dc35 pm35 cd35 ct35 : Value} {od35 an35 : Option Addr} {sl35 : Array (Option Value)}
  (a35 : PySem.W.nsIn K mainGlobals "_law_names" = some (some (.ref f35)))
  (l35 : K.lookup f35 = some ⟨oc35, od35, .func (PySem.W.fnOf "_law_names" "_law_names" (defArgs s_law_names) (defBody s_law_names) (defScope s_law_names) .none kV35 dc35 pm35 an35 cd35 ct35), sl35⟩)
  (c35 : PySem.W.codeIn K cd35 "_law_names" = true) (k35 : PySem.W.keepIn K (.ref f35) = true)
  {f36 : Addr} {oc36 kV36 dc36 pm36 cd36 ct36 : Value} {od36 an36 : Option Addr} {sl36 : Array (Option Value)}
  (a36 : PySem.W.nsIn K mainGlobals "_law_before" = some (some (.ref f36)))
  (l36 : K.lookup f36 = some ⟨oc36, od36, .func (PySem.W.fnOf "_law_before" "_law_before" (defArgs s_law_before) (defBody s_law_before) (defScope s_law_before) .none kV36 dc36 pm36 an36 cd36 ct36), sl36⟩)
  (c36 : PySem.W.codeIn K cd36 "_law_before" = true) (k36 : PySem.W.keepIn K (.ref f36) = true)
  {f37 : Addr} {oc37 kV37 dc37 pm37 cd37 ct37 : Value} {od37 an37 : Option Addr} {sl37 : Array (Option Value)}
  (a37 : PySem.W.nsIn K mainGlobals "_law_closure" = some (some (.ref f37)))
  (l37 : K.lookup f37 = some ⟨oc37, od37, .func (PySem.W.fnOf "_law_closure" "_law_closure" (defArgs s_law_closure) (defBody s_law_closure) (defScope s_law_closure) .none kV37 dc37 pm37 an37 cd37 ct37), sl37⟩)
  (c37 : PySem.W.codeIn K cd37 "_law_closure" = true) (k37 : PySem.W.keepIn K (.ref f37) = true)
  {f38 : Addr} {oc38 kV38 dc38 pm38 cd38 ct38 : Value} {od38 an38 : Option Addr} {sl38 : Array (Option Value)}
  (a38 : PySem.W.nsIn K mainGlobals "_law_shares" = some (some (.ref f38)))
  (l38 : K.lookup f38 = some ⟨oc38, od38, .func (PySem.W.fnOf "_law_shares" "_law_shares" (defArgs s_law_shares) (defBody s_law_shares) (defScope s_law_shares) .none kV38 dc38 pm38 an38 cd38 ct38), sl38⟩)
  (c38 : PySem.W.codeIn K cd38 "_law_shares" = true) (k38 : PySem.W.keepIn K (.ref f38) = true)
  {f39 : Addr} {oc39 kV39 dc39 pm39 cd39 ct39 : Value} {od39 an39 : Option Addr} {sl39 : Array (Option Value)}
  (a39 : PySem.W.nsIn K mainGlobals "_law_must_see" = some (some (.ref f39)))
  (l39 : K.lookup f39 = some ⟨oc39, od39, .func (PySem.W.fnOf "_law_must_see" "_law_must_see" (defArgs s_law_must_see) (defBody s_law_must_see) (defScope s_law_must_see) .none kV39 dc39 pm39 an39 cd39 ct39), sl39⟩)
  (c39 : PySem.W.codeIn K cd39 "_law_must_see" = true) (k39 : PySem.W.keepIn K (.ref f39) = true)
  {f40 : Addr} {oc40 kV40 dc40 pm40 cd40 ct40 : Value} {od40 an40 : Option Addr} {sl40 : Array (Option Value)}
  (a40 : PySem.W.nsIn K mainGlobals "_law_due" = some (some (.ref f40)))
  (l40 : K.lookup f40 = some ⟨oc40, od40, .func (PySem.W.fnOf "_law_due" "_law_due" (defArgs s_law_due) (defBody s_law_due) (defScope s_law_due) .none kV40 dc40 pm40 an40 cd40 ct40), sl40⟩)
  (c40 : PySem.W.codeIn K cd40 "_law_due" = true) (k40 : PySem.W.keepIn K (.ref f40) = true)
  {f41 : Addr} {oc41 kV41 dc41 pm41 cd41 ct41 : Value} {od41 an41 : Option Addr} {sl41 : Array (Option Value)}
  (a41 : PySem.W.nsIn K mainGlobals "_law_all_orders" = some (some (.ref f41)))
  (l41 : K.lookup f41 = some ⟨oc41, od41, .func (PySem.W.fnOf "_law_all_orders" "_law_all_orders" (defArgs s_law_all_orders) (defBody s_law_all_orders) (defScope s_law_all_orders) .none kV41 dc41 pm41 an41 cd41 ct41), sl41⟩)
  (c41 : PySem.W.codeIn K cd41 "_law_all_orders" = true) (k41 : PySem.W.keepIn K (.ref f41) = true)
  {f42 : Addr} {oc42 kV42 dc42 pm42 cd42 ct42 : Value} {od42 an42 : Option Addr} {sl42 : Array (Option Value)}
  (a42 : PySem.W.nsIn K mainGlobals "_law_drawn_order" = some (some (.ref f42)))
  (l42 : K.lookup f42 = some ⟨oc42, od42, .func (PySem.W.fnOf "_law_drawn_order" "_law_drawn_order" (defArgs s_law_drawn_order) (defBody s_law_drawn_order) (defScope s_law_drawn_order) .none kV42 dc42 pm42 an42 cd42 ct42), sl42⟩)
  (c42 : PySem.W.codeIn K cd42 "_law_drawn_order" = true) (k42 : PySem.W.keepIn K (.ref f42) = true)
  {f43 : Addr} {oc43 kV43 dc43 pm43 cd43 ct43 : Value} {od43 an43 : Option Addr} {sl43 : Array (Option Value)}
  (a43 : PySem.W.nsIn K mainGlobals "_law_not_orders" = some (some (.ref f43)))
  (l43 : K.lookup f43 = some ⟨oc43, od43, .func (PySem.W.fnOf "_law_not_orders" "_law_not_orders" (defArgs s_law_not_orders) (defBody s_law_not_orders) (defScope s_law_not_orders) .none kV43 dc43 pm43 an43 cd43 ct43), sl43⟩)
  (c43 : PySem.W.codeIn K cd43 "_law_not_orders" = true) (k43 : PySem.W.keepIn K (.ref f43) = true)
  {f44 : Addr} {oc44 kV44 dc44 pm44 cd44 ct44 : Value} {od44 an44 : Option Addr} {sl44 : Array (Option Value)}
  (a44 : PySem.W.nsIn K mainGlobals "law" = some (some (.ref f44)))
  (l44 : K.lookup f44 = some ⟨oc44, od44, .func (PySem.W.fnOf "law" "law" (defArgs s_law) (defBody s_law) (defScope s_law) .none kV44 dc44 pm44 an44 cd44 ct44), sl44⟩)
  (c44 : PySem.W.codeIn K cd44 "law" = true) (k44 : PySem.W.keepIn K (.ref f44) = true)
  (z_all : PySem.W.nsIn K mainGlobals "all" = some none)
  (z_any : PySem.W.nsIn K mainGlobals "any" = some none)
  (z_bool : PySem.W.nsIn K mainGlobals "bool" = some none)
  (z_enumerate : PySem.W.nsIn K mainGlobals "enumerate" = some none)
  (z_int : PySem.W.nsIn K mainGlobals "int" = some none)
  (z_isinstance : PySem.W.nsIn K mainGlobals "isinstance" = some none)
  (z_len : PySem.W.nsIn K mainGlobals "len" = some none)
  (z_list : PySem.W.nsIn K mainGlobals "list" = some none)
  (z_max : PySem.W.nsIn K mainGlobals "max" = some none)
  (z_min : PySem.W.nsIn K mainGlobals "min" = some none)
  (z_range : PySem.W.nsIn K mainGlobals "range" = some none)
  (z_sorted : PySem.W.nsIn K mainGlobals "sorted" = some none)
  (z_str : PySem.W.nsIn K mainGlobals "str" = some none)
  (z_tuple : PySem.W.nsIn K mainGlobals "tuple" = some none)
  (z_zip : PySem.W.nsIn K mainGlobals "zip" = some none)
  {t_GREATEST_SIGN : Tok}
  (v_GREATEST_SIGN : PySem.W.nsIn K mainGlobals "GREATEST_SIGN" = some (some (.str "~" t_GREATEST_SIGN)))
  {t_LEAST_SIGN : Tok}
  (v_LEAST_SIGN : PySem.W.nsIn K mainGlobals "LEAST_SIGN" = some (some (.str " " t_LEAST_SIGN)))
  {t_MOST_SESSIONS : Tok}
  (v_MOST_SESSIONS : PySem.W.nsIn K mainGlobals "MOST_SESSIONS" = some (some (.int 12 t_MOST_SESSIONS)))
  {t_NONE_SEEN : Tok}
  (v_NONE_SEEN : PySem.W.nsIn K mainGlobals "NONE_SEEN" = some (some (.int (-1) t_NONE_SEEN)))
  {m0_LEVELS m1_LEVELS m2_LEVELS m3_LEVELS m4_LEVELS m5_LEVELS : Tok} {gN_LEVELS : Addr} {nN_LEVELS : Nat} {sN_LEVELS : Array (Option Value)} (vN_LEVELS : PySem.W.nsIn K mainGlobals "LEVELS" = some (some (.ref gN_LEVELS))) (wN_LEVELS : K.lookup gN_LEVELS = some ⟨.type "tuple", none, .seq #[.str "rc" m0_LEVELS, .str "ra" m1_LEVELS, .str "cc" m2_LEVELS, .str "pc" m3_LEVELS, .str "si" m4_LEVELS, .str "ser" m5_LEVELS] nN_LEVELS, sN_LEVELS⟩)
  {t0_LEVELS t1_LEVELS t2_LEVELS t3_LEVELS t4_LEVELS t5_LEVELS : Tok}
  {g_LEVELS : Addr} {d_LEVELS : Option Addr} {n_LEVELS : Nat} {s_LEVELS : Array (Option Value)} (v_LEVELS : PySem.W.nsIn K mainGlobals "LEVELS" = some (some (.ref g_LEVELS))) (w_LEVELS : K.lookup g_LEVELS = some ⟨.type "tuple", d_LEVELS, .seq #[.str "rc" t0_LEVELS, .str "ra" t1_LEVELS, .str "cc" t2_LEVELS, .str "pc" t3_LEVELS, .str "si" t4_LEVELS, .str "ser" t5_LEVELS] n_LEVELS, s_LEVELS⟩) :
  ∃ fd : FuncData, (∀ (s : Shared) (u : Value), BindsTo s fd ⟨[u], []⟩ [("script", u)]) ∧ ∀ base : Heap, K.In base → base.Ns mainGlobals mg → FnG P w K mg base 10 fa fd ["script"] (toSp ⟨K, w⟩ 1 sp_law) := by
  have T : Txt P w K mg := txt_mk X GN a0 l0 c0 k0 a1 l1 c1 k1 a2 l2 c2 k2 a3 l3 c3 k3 a4 l4 c4 k4 a5 l5 c5 k5 a6 l6 c6 k6 a7 l7 c7 k7 a8 l8 c8 k8 a9 l9 c9 k9 a10 l10 c10 k10 a11 l11 c11 k11 a12 l12 c12 k12 a13 l13 c13 k13 a14 l14 c14 k14 a15 l15 c15 k15 a16 l16 c16 k16 a17 l17 c17 k17 a18 l18 c18 k18 a19 l19 c19 k19 a20 l20 c20 k20 a21 l21 c21 k21 a22 l22 c22 k22 a23 l23 c23 k23 a24 l24 c24 k24 a25 l25 c25 k25 a26 l26 c26 k26 a27 l27 c27 k27 a28 l28 c28 k28 a29 l29 c29 k29 a30 l30 c30 k30 a31 l31 c31 k31 a32 l32 c32 k32 a33 l33 c33 k33 a34 l34 c34 k34 a35 l35 c35 k35 a36 l36 c36 k36 a37 l37 c37 k37 a38 l38 c38 k38 a39 l39 c39 k39 a40 l40 c40 k40 a41 l41 c41 k41 a42 l42 c42 k42 a43 l43 c43 k43 a44 l44 c44 k44 z_all z_any z_bool z_enumerate z_int z_isinstance z_len z_list z_max z_min z_range z_sorted z_str z_tuple z_zip v_GREATEST_SIGN v_LEAST_SIGN v_MOST_SESSIONS v_NONE_SEEN vN_LEVELS wN_LEVELS v_LEVELS w_LEVELS
  obtain ⟨fd, hb, hF⟩ := law_fn (P := P) (w := w) T.f_law (fun _ _ _ _ _ _ _ => rfl) (fun base => law_cal T) hm
  exact ⟨fd, hb, fun base _ _ => hF base⟩
end K54
open PySem PySem.W PyProof.Rows in
set_option maxRecDepth 100000 in
set_option maxHeartbeats 0 in
theorem PySem.Challenge.cw_heldlevels_k54_faults_of_orders_holds : PySem.Challenge.rw_heldlevels_k54_faults_of_orders.Holds := by
  w_on; o_law; k_head; (case hw => w_witness2)
  k_fill
  refine G.walkX (n := 63) (k := 10) (x := "script") (sp := fun w => G.toSp ⟨_, w⟩ 1 G.spTrue) (by decide +kernel) (by decide) rfl ⟨⟨rfl, by decide, by decide⟩, rfl⟩ (fun w h Y => PySem.W.kIn_of Y) ?F (fun w H a ns h1 h2 _ hS => G.toSp_true h1 h2 hS)
  case F =>
    intro w mg fa h XP KX GN hmg
    refine' K54.all_mk hmg KX GN ?a0 ?l0 ?c0 ?k0 ?a1 ?l1 ?c1 ?k1 ?a2 ?l2 ?c2 ?k2 ?a3 ?l3 ?c3 ?k3 ?a4 ?l4 ?c4 ?k4 ?a5 ?l5 ?c5 ?k5 ?a6 ?l6 ?c6 ?k6 ?a7 ?l7 ?c7 ?k7 ?a8 ?l8 ?c8 ?k8 ?a9 ?l9 ?c9 ?k9 ?a10 ?l10 ?c10 ?k10 ?a11 ?l11 ?c11 ?k11 ?a12 ?l12 ?c12 ?k12 ?a13 ?l13 ?c13 ?k13 ?a14 ?l14 ?c14 ?k14 ?a15 ?l15 ?c15 ?k15 ?a16 ?l16 ?c16 ?k16 ?a17 ?l17 ?c17 ?k17 ?a18 ?l18 ?c18 ?k18 ?a19 ?l19 ?c19 ?k19 ?a20 ?l20 ?c20 ?k20 ?a21 ?l21 ?c21 ?k21 ?a22 ?l22 ?c22 ?k22 ?a23 ?l23 ?c23 ?k23 ?a24 ?l24 ?c24 ?k24 ?a25 ?l25 ?c25 ?k25 ?a26 ?l26 ?c26 ?k26 ?a27 ?l27 ?c27 ?k27 ?a28 ?l28 ?c28 ?k28 ?a29 ?l29 ?c29 ?k29 ?a30 ?l30 ?c30 ?k30 ?a31 ?l31 ?c31 ?k31 ?a32 ?l32 ?c32 ?k32 ?a33 ?l33 ?c33 ?k33 ?a34 ?l34 ?c34 ?k34 ?a35 ?l35 ?c35 ?k35 ?a36 ?l36 ?c36 ?k36 ?a37 ?l37 ?c37 ?k37 ?a38 ?l38 ?c38 ?k38 ?a39 ?l39 ?c39 ?k39 ?a40 ?l40 ?c40 ?k40 ?a41 ?l41 ?c41 ?k41 ?a42 ?l42 ?c42 ?k42 ?a43 ?l43 ?c43 ?k43 ?a44 ?l44 ?c44 ?k44 ?z_all ?z_any ?z_bool ?z_enumerate ?z_int ?z_isinstance ?z_len ?z_list ?z_max ?z_min ?z_range ?z_sorted ?z_str ?z_tuple ?z_zip ?v_GREATEST_SIGN ?v_LEAST_SIGN ?v_MOST_SESSIONS ?v_NONE_SEEN ?vN_LEVELS ?wN_LEVELS ?v_LEVELS ?w_LEVELS
    (case a0 => k_is)
    (case l0 => k_is)
    (case c0 => k_is)
    (case k0 => k_is)
    (case a1 => k_is)
    (case l1 => k_is)
    (case c1 => k_is)
    (case k1 => k_is)
    (case a2 => k_is)
    (case l2 => k_is)
    (case c2 => k_is)
    (case k2 => k_is)
    (case a3 => k_is)
    (case l3 => k_is)
    (case c3 => k_is)
    (case k3 => k_is)
    (case a4 => k_is)
    (case l4 => k_is)
    (case c4 => k_is)
    (case k4 => k_is)
    (case a5 => k_is)
    (case l5 => k_is)
    (case c5 => k_is)
    (case k5 => k_is)
    (case a6 => k_is)
    (case l6 => k_is)
    (case c6 => k_is)
    (case k6 => k_is)
    (case a7 => k_is)
    (case l7 => k_is)
    (case c7 => k_is)
    (case k7 => k_is)
    (case a8 => k_is)
    (case l8 => k_is)
    (case c8 => k_is)
    (case k8 => k_is)
    (case a9 => k_is)
    (case l9 => k_is)
    (case c9 => k_is)
    (case k9 => k_is)
    (case a10 => k_is)
    (case l10 => k_is)
    (case c10 => k_is)
    (case k10 => k_is)
    (case a11 => k_is)
    (case l11 => k_is)
    (case c11 => k_is)
    (case k11 => k_is)
    (case a12 => k_is)
    (case l12 => k_is)
    (case c12 => k_is)
    (case k12 => k_is)
    (case a13 => k_is)
    (case l13 => k_is)
    (case c13 => k_is)
    (case k13 => k_is)
    (case a14 => k_is)
    (case l14 => k_is)
    (case c14 => k_is)
    (case k14 => k_is)
    (case a15 => k_is)
    (case l15 => k_is)
    (case c15 => k_is)
    (case k15 => k_is)
    (case a16 => k_is)
    (case l16 => k_is)
    (case c16 => k_is)
    (case k16 => k_is)
    (case a17 => k_is)
    (case l17 => k_is)
    (case c17 => k_is)
    (case k17 => k_is)
    (case a18 => k_is)
    (case l18 => k_is)
    (case c18 => k_is)
    (case k18 => k_is)
    (case a19 => k_is)
    (case l19 => k_is)
    (case c19 => k_is)
    (case k19 => k_is)
    (case a20 => k_is)
    (case l20 => k_is)
    (case c20 => k_is)
    (case k20 => k_is)
    (case a21 => k_is)
    (case l21 => k_is)
    (case c21 => k_is)
    (case k21 => k_is)
    (case a22 => k_is)
    (case l22 => k_is)
    (case c22 => k_is)
    (case k22 => k_is)
    (case a23 => k_is)
    (case l23 => k_is)
    (case c23 => k_is)
    (case k23 => k_is)
    (case a24 => k_is)
    (case l24 => k_is)
    (case c24 => k_is)
    (case k24 => k_is)
    (case a25 => k_is)
    (case l25 => k_is)
    (case c25 => k_is)
    (case k25 => k_is)
    (case a26 => k_is)
    (case l26 => k_is)
    (case c26 => k_is)
    (case k26 => k_is)
    (case a27 => k_is)
    (case l27 => k_is)
    (case c27 => k_is)
    (case k27 => k_is)
    (case a28 => k_is)
    (case l28 => k_is)
    (case c28 => k_is)
    (case k28 => k_is)
    (case a29 => k_is)
    (case l29 => k_is)
    (case c29 => k_is)
    (case k29 => k_is)
    (case a30 => k_is)
    (case l30 => k_is)
    (case c30 => k_is)
    (case k30 => k_is)
    (case a31 => k_is)
    (case l31 => k_is)
    (case c31 => k_is)
    (case k31 => k_is)
    (case a32 => k_is)
    (case l32 => k_is)
    (case c32 => k_is)
    (case k32 => k_is)
    (case a33 => k_is)
    (case l33 => k_is)
    (case c33 => k_is)
    (case k33 => k_is)
    (case a34 => k_is)
    (case l34 => k_is)
    (case c34 => k_is)
    (case k34 => k_is)
    (case a35 => k_is)
    (case l35 => k_is)
    (case c35 => k_is)
    (case k35 => k_is)
    (case a36 => k_is)
    (case l36 => k_is)
    (case c36 => k_is)
    (case k36 => k_is)
    (case a37 => k_is)
    (case l37 => k_is)
    (case c37 => k_is)
    (case k37 => k_is)
    (case a38 => k_is)
    (case l38 => k_is)
    (case c38 => k_is)
    (case k38 => k_is)
    (case a39 => k_is)
    (case l39 => k_is)
    (case c39 => k_is)
    (case k39 => k_is)
    (case a40 => k_is)
    (case l40 => k_is)
    (case c40 => k_is)
    (case k40 => k_is)
    (case a41 => k_is)
    (case l41 => k_is)
    (case c41 => k_is)
    (case k41 => k_is)
    (case a42 => k_is)
    (case l42 => k_is)
    (case c42 => k_is)
    (case k42 => k_is)
    (case a43 => k_is)
    (case l43 => k_is)
    (case c43 => k_is)
    (case k43 => k_is)
    (case a44 => k_is)
    (case l44 => k_is)
    (case c44 => k_is)
    (case k44 => k_is)
    (case z_all => k_is)
    (case z_any => k_is)
    (case z_bool => k_is)
    (case z_enumerate => k_is)
    (case z_int => k_is)
    (case z_isinstance => k_is)
    (case z_len => k_is)
    (case z_list => k_is)
    (case z_max => k_is)
    (case z_min => k_is)
    (case z_range => k_is)
    (case z_sorted => k_is)
    (case z_str => k_is)
    (case z_tuple => k_is)
    (case z_zip => k_is)
    (case v_GREATEST_SIGN => k_is)
    (case v_LEAST_SIGN => k_is)
    (case v_MOST_SESSIONS => k_is)
    (case v_NONE_SEEN => k_is)
    (case vN_LEVELS => k_is)
    (case wN_LEVELS => k_is)
    (case v_LEVELS => k_is)
    (case w_LEVELS => k_is)
#print axioms PySem.Challenge.cw_heldlevels_k54_faults_of_orders_holds
