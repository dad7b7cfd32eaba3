import PyProof.Rows.All
import Wide.All
import OpenK.AllK
import Wide.FinOn
import KE.KStateDown
import HandS.Base
import HandS.Call
import HandS.List
import HandS.Comp
import HandS.Exc
import HandS.Dict
import HandS.HeadHook1
import HandS.HeadHook2
import HandS.Head0
import HandS.Head1
import HandS.Head2
import HandS.HeadEnd
import HandS.Words
import HandS.WordsList
import HandS.WordsDict
import HandS.WordsExc
import HandS.Ends
import HandS.Iter
import HandS.Text
import HandS.CallSlots
import HandS.ExcOwn
import HandS.Defaults
import HandS.ExcInit
import HandS.IsInst
import HandS.TupAny
import HandS.TupMul
import HandS.Style
import HandS.RaiseMore
import KE.KUnpackStar
import HandS.ExcField
import HandS.ExcIs
import KE.KExcIs
import HandS.SetTxt0
import HandS.SetFor
import HandS.Set
import PyProof.Rows.SortShellAny
import HandS.NoneIn
import HandS.Deep
import KE.KRevSl
import HandS.StrSplit
import HandS.FStr
import HandS.ReplaceLit
import HandS.Steps
import HandS.Star
import HandS.Property
import HandS.MakeKw
import KE.KIsAll
import OpenK.KOps
import HandS.Flow
import HandS.TryOnly
import KE.KExcInit
import PySem.Challenge.RW_tombkeeper_k03_exceptions_apart
set_option Elab.async false
set_option linter.all false
set_option maxRecDepth 100000
set_option maxHeartbeats 4000000
namespace DE
open PySem L2

inductive D where
  | non | bl (b : Bool) | int (i : Int) | str (s : Str) | ty (n : String) | glo (x : Str)
  | tup (xs : List D) | lst (xs : List D) | scr (xs : List D)
  | dK (kvs : List (Key × D)) | dT (kvs : List (List Key × D))
  | obj (c : Str) (fs : List (Str × D))
  | own (k : Nat)
  /-- the exception that a suite holds: where it, its dict stand; its fields -/
  | xcp (a dd : Nat) (fs : List (Str × D))
  /-- an exception of the program's own, as a value -/
  | exo (c : Str) (fs : List (Str × D))

/-- what is owned (by its number), what is hidden -/
structure Ow where
  l : List Addr
  u : List Addr
def Ow.no (O : Ow) (a : Addr) : Prop := a ∉ O.l ∧ a ∉ O.u
def Ow.add (O : Ow) (p : Addr) : Ow := ⟨O.l ++ [p], O.u⟩
/-- a list written by the top -/
def WrL (K : PySem.W.Frag) (a : Addr) (xs : List V) : Prop := SqL K (fun _ => none) a xs
def WrT (K : PySem.W.Frag) (a : Addr) (xs : List V) : Prop := SqT K (fun _ => none) a xs
theorem sqT_of {K : PySem.W.Frag} {H : Hp} {a : Addr} {xs : List V} (h : H a = some (.tup xs) ∨ WrT K a xs) : SqT K H a xs := by
  rcases h with h | (h | ⟨_, h⟩) | h
  · exact .inl (.inl h)
  · cases h
  · cases h
  · exact .inr h
theorem sqL_of {K : PySem.W.Frag} {H : Hp} {a : Addr} {xs : List V} (h : Rd H a (.lst xs) ∨ WrL K a xs) : SqL K H a xs := by
  rcases h with h | (h | ⟨_, h⟩) | h
  · exact .inl h
  · cases h
  · cases h
  · exact .inr h

mutual
def Rep (K : PySem.W.Frag) (O : Ow) (H : Hp) : D → V → Prop
  | .non, v => v = .non
  | .bl b, v => v = .bl b
  | .int i, v => v = .int i
  | .str s, v => v = .str s
  | .ty n, v => v = .ty n
  | .glo x, v => v = .ref (He.ga K x)
  | .tup ds, v => ∃ a xs, v = .ref a ∧ (H a = some (.tup xs) ∨ WrT K a xs) ∧ Reps K O H ds xs
  | .lst ds, v => ∃ a xs, v = .ref a ∧ O.no a ∧ H a = some (.lst xs) ∧ Reps K O H ds xs
  | .scr ds, v => ∃ a xs, v = .ref a ∧ ((O.no a ∧ Rd H a (.lst xs)) ∨ WrL K a xs) ∧ Reps K O H ds xs
  | .dK kvs, v => ∃ a vs, v = .ref a ∧ O.no a ∧ Rd H a (.dK vs) ∧ RepK K O H kvs vs
  | .dT kvs, v => ∃ a vs, v = .ref a ∧ O.no a ∧ Rd H a (.dT vs) ∧ RepT K O H kvs vs
  | .obj c fs, v => ∃ a dx vs, v = .ref a ∧ O.no a ∧ H a = some (.ins (He.ga K c) dx vs) ∧ RepF K O H fs vs
  | .own k, v => ∃ a, O.l[k]? = some a ∧ v = .ref a
  | .xcp a dd fs, v => v = .ref a ∧ ∃ vs, O.no dd ∧ H dd = some (.xd vs) ∧ RepF K O H fs vs
  | .exo c fs, v => ∃ a dd vs, v = .ref a ∧ O.no a ∧ H a = some (L2.exo a (He.ga K c) dd) ∧ (∀ y, dd = some y → O.no y ∧ H y = some (.xd vs)) ∧ (dd = none → vs = []) ∧ RepF K O H fs vs
def Reps (K : PySem.W.Frag) (O : Ow) (H : Hp) : List D → List V → Prop
  | [], vs => vs = []
  | d :: ds, vs => ∃ v r, vs = v :: r ∧ Rep K O H d v ∧ Reps K O H ds r
def RepK (K : PySem.W.Frag) (O : Ow) (H : Hp) : List (Key × D) → List (Key × V) → Prop
  | [], vs => vs = []
  | (k, d) :: ds, vs => ∃ v r, vs = (k, v) :: r ∧ Rep K O H d v ∧ RepK K O H ds r
def RepT (K : PySem.W.Frag) (O : Ow) (H : Hp) : List (List Key × D) → List (List Key × V) → Prop
  | [], vs => vs = []
  | (k, d) :: ds, vs => ∃ v r, vs = (k, v) :: r ∧ Rep K O H d v ∧ RepT K O H ds r
def RepF (K : PySem.W.Frag) (O : Ow) (H : Hp) : List (Str × D) → List (Str × V) → Prop
  | [], vs => vs = []
  | (k, d) :: ds, vs => ∃ v r, vs = (k, v) :: r ∧ Rep K O H d v ∧ RepF K O H ds r
end

/-- what stands in the store: the object at a is d's top -/
def Cell (K : PySem.W.Frag) (O : Ow) (H : Hp) (a : Addr) : D → Prop
  | .lst ds => ∃ xs, H a = some (.lst xs) ∧ Reps K O H ds xs
  | .dK kvs => ∃ vs, H a = some (.dK vs) ∧ RepK K O H kvs vs
  | .dT kvs => ∃ vs, H a = some (.dT vs) ∧ RepT K O H kvs vs
  | .obj c fs => ∃ dx vs, H a = some (.ins (He.ga K c) dx vs) ∧ RepF K O H fs vs
  | _ => False
abbrev Sto := List D
/-- what may be hidden: no tuple, nothing locked, no error's dict -/
def Solid (o : HO) : Prop := (∀ xs, o ≠ .tup xs) ∧ (∀ ob u, o ≠ .frz ob u) ∧ ∀ vs, o ≠ .xd vs
structure WF (K : PySem.W.Frag) (O : Ow) (H : Hp) (S : Sto) : Prop where
  nd : O.l.Nodup
  len : S.length = O.l.length
  cell : ∀ (k : Nat) a d, O.l[k]? = some a → S[k]? = some d → Cell K O H a d
  hid : ∀ a ∈ O.u, a ∉ O.l ∧ ∃ o, H a = some o ∧ Solid o
/-- H' goes on from H: all but what is owned stands; what is newly owned or hidden was not there -/
structure Ext (O : Ow) (H : Hp) (O' : Ow) (H' : Hp) : Prop where
  pre : ∃ m, O'.l = O.l ++ m ∧ ∀ a ∈ m, H a = none
  preu : ∃ m, O'.u = m ++ O.u ∧ ∀ a ∈ m, H a = none
  keep : ∀ a o, a ∉ O.l → H a = some o → H' a = some o
  tups : ∀ a xs, H a = some (.tup xs) → H' a = some (.tup xs)
  there : ∀ a, H a ≠ none → H' a ≠ none
/-- .. what is hidden may have changed, too -/
structure ExtW (O : Ow) (H : Hp) (O' : Ow) (H' : Hp) : Prop where
  at_ : ∀ (k : Nat) a, O.l[k]? = some a → O'.l[k]? = some a
  notin : ∀ a o, O.no a → H a = some o → O'.no a
  keep : ∀ a o, O.no a → H a = some o → H' a = some o
  tups : ∀ a xs, H a = some (.tup xs) → H' a = some (.tup xs)
  frzs : ∀ a o u, H a = some (.frz o u) → H' a = some (.frz o u)
theorem Ext.refl {O H} : Ext O H O H := ⟨⟨[], by simp, fun _ h => by cases h⟩, ⟨[], by simp, fun _ h => by cases h⟩, fun _ _ _ h => h, fun _ _ h => h, fun _ h => h⟩
theorem Ext.trans {O H O1 H1 O2 H2} (e : Ext O H O1 H1) (f : Ext O1 H1 O2 H2) : Ext O H O2 H2 := by
  obtain ⟨m, q1, hm⟩ := e.pre
  obtain ⟨m2, q2, hm2⟩ := f.pre
  obtain ⟨n, p1, hn⟩ := e.preu
  obtain ⟨n2, p2, hn2⟩ := f.preu
  have back : ∀ a, H1 a = none → H a = none := fun a h => by
    cases q : H a with
    | none => rfl
    | some o => exact absurd h (e.there a (by rw [q]; exact fun z => nomatch z))
  refine ⟨⟨m ++ m2, by rw [q2, q1]; simp, fun a ha => ?_⟩, ⟨n2 ++ n, by rw [p2, p1]; simp, fun a ha => ?_⟩, fun a o na h => ?_, fun a xs h => f.tups a xs (e.tups a xs h), fun a h => f.there a (e.there a h)⟩
  · rcases List.mem_append.mp ha with h | h
    · exact hm a h
    · exact back a (hm2 a h)
  · rcases List.mem_append.mp ha with h | h
    · exact back a (hn2 a h)
    · exact hn a h
  · refine f.keep a o (fun z => ?_) (e.keep a o na h)
    rw [q1] at z
    rcases List.mem_append.mp z with z | z
    · exact na z
    · rw [hm a z] at h; cases h
theorem Ext.at {O H O' H'} (e : Ext O H O' H') {k : Nat} {a} (h : O.l[k]? = some a) : O'.l[k]? = some a := by
  obtain ⟨m, q, hm⟩ := e.pre
  rw [q, List.getElem?_append_left (List.getElem?_eq_some_iff.mp h).1]; exact h
theorem Ext.notin {O H O' H' a o} (e : Ext O H O' H') (na : O.no a) (h : H a = some o) : O'.no a := by
  obtain ⟨m, q, hm⟩ := e.pre
  obtain ⟨n, p, hn⟩ := e.preu
  refine ⟨fun z => ?_, fun z => ?_⟩
  · rw [q] at z
    rcases List.mem_append.mp z with z | z
    · exact na.1 z
    · rw [hm a z] at h; cases h
  · rw [p] at z
    rcases List.mem_append.mp z with z | z
    · rw [hn a z] at h; cases h
    · exact na.2 z
theorem WF.cases {K O H S} (w : WF K O H S) {a : Addr} (ha : a ∈ O.l ∨ a ∈ O.u) : ∃ o, H a = some o ∧ (∀ xs, o ≠ .tup xs) ∧ ∀ ob u, o ≠ .frz ob u := by
  rcases ha with ha | ha
  · obtain ⟨k, hk⟩ := List.mem_iff_getElem?.mp ha
    have hl : k < S.length := by rw [w.len]; exact (List.getElem?_eq_some_iff.mp hk).1
    have c := w.cell k a S[k] hk (by simp [hl])
    cases q : S[k] <;> rw [q] at c <;> simp only [Cell] at c
    all_goals first
      | exact c.elim
      | (obtain ⟨xs, c, _⟩ := c; exact ⟨_, c, (fun _ z => by cases z), (fun _ _ z => by cases z)⟩)
      | (obtain ⟨dx, xs, c, _⟩ := c; exact ⟨_, c, (fun _ z => by cases z), (fun _ _ z => by cases z)⟩)
  · obtain ⟨_, o, c, h1, h2, _⟩ := w.hid a ha
    exact ⟨_, c, h1, h2⟩
theorem WF.nofrz {K O H S} (w : WF K O H S) : ∀ a, a ∈ O.l ∨ a ∈ O.u → ∀ o u, H a ≠ some (.frz o u) := fun a ha o u h => by
  obtain ⟨o', h', _, n⟩ := w.cases ha
  rw [h] at h'; exact n o u (Option.some.inj h').symm
theorem WF.there {K O H S} (w : WF K O H S) : ∀ a, a ∈ O.l ∨ a ∈ O.u → H a ≠ none := fun a ha h => by
  obtain ⟨o', h', _, n⟩ := w.cases ha
  rw [h] at h'; cases h'
theorem WF.notup {K O H S} (w : WF K O H S) : ∀ a, a ∈ O.l ∨ a ∈ O.u → ∀ xs, H a ≠ some (.tup xs) := fun a ha u h => by
  obtain ⟨o', h', n, _⟩ := w.cases ha
  rw [h] at h'; exact n u (Option.some.inj h').symm
theorem Ext.w {K O H O' H' S} (e : Ext O H O' H') (w : WF K O H S) : ExtW O H O' H' :=
  ⟨fun _ _ h => e.at h, fun _ _ n h => e.notin n h, fun a o n h => e.keep a o n.1 h, e.tups, fun a o u h => e.keep a _ (fun z => w.nofrz a (.inl z) o u h) h⟩
theorem ExtW.rd {O H O' H' a u} (e : ExtW O H O' H') (na : O.no a) (h : Rd H a u) : O'.no a ∧ Rd H' a u := by
  rcases h with h | ⟨o, h⟩
  · exact ⟨e.notin _ _ na h, .inl (e.keep _ _ na h)⟩
  · exact ⟨e.notin _ _ na h, .inr ⟨o, e.keep _ _ na h⟩⟩
theorem ExtW.sqT {K O H O' H' a xs} (e : ExtW O H O' H') (h : SqT K H a xs) : SqT K H' a xs := by
  rcases h with (h | ⟨o, h⟩) | h
  · exact .inl (.inl (e.tups _ _ h))
  · exact .inl (.inr ⟨o, e.frzs _ _ _ h⟩)
  · exact .inr h
section
variable {K : PySem.W.Frag} {O O' : Ow} {H H' : Hp}
mutual
theorem Rep.mono (e : ExtW O H O' H') : ∀ {d : D} {v : V}, Rep K O H d v → Rep K O' H' d v
  | .non, _, h => h
  | .bl _, _, h => h
  | .int _, _, h => h
  | .str _, _, h => h
  | .ty _, _, h => h
  | .glo _, _, h => h
  | .tup _, _, h => by
    obtain ⟨a, xs, rfl, h1, h2⟩ := h
    exact ⟨a, xs, rfl, h1.imp (e.tups _ _) id, Reps.mono e h2⟩
  | .lst _, _, h => by
    obtain ⟨a, xs, rfl, n, h1, h2⟩ := h
    exact ⟨a, xs, rfl, e.notin _ _ n h1, e.keep _ _ n h1, Reps.mono e h2⟩
  | .scr _, _, h => by
    obtain ⟨a, xs, rfl, h1, h2⟩ := h
    refine ⟨a, xs, rfl, ?_, Reps.mono e h2⟩
    rcases h1 with ⟨n, h1⟩ | h1
    · exact .inl (e.rd n h1)
    · exact .inr h1
  | .dK _, _, h => by
    obtain ⟨a, xs, rfl, n, h1, h2⟩ := h
    exact ⟨a, xs, rfl, (e.rd n h1).1, (e.rd n h1).2, RepK.mono e h2⟩
  | .dT _, _, h => by
    obtain ⟨a, xs, rfl, n, h1, h2⟩ := h
    exact ⟨a, xs, rfl, (e.rd n h1).1, (e.rd n h1).2, RepT.mono e h2⟩
  | .obj _ _, _, h => by
    obtain ⟨a, dx, xs, rfl, n, h1, h2⟩ := h
    exact ⟨a, dx, xs, rfl, e.notin _ _ n h1, e.keep _ _ n h1, RepF.mono e h2⟩
  | .own _, _, h => by
    obtain ⟨a, h1, rfl⟩ := h
    exact ⟨a, e.at_ _ _ h1, rfl⟩
  | .xcp _ _ _, _, h => by
    obtain ⟨rfl, vs, n, h1, h2⟩ := h
    exact ⟨rfl, vs, e.notin _ _ n h1, e.keep _ _ n h1, RepF.mono e h2⟩
  | .exo _ _, _, h => by
    obtain ⟨a, dd, vs, rfl, n, h1, m, z, h3⟩ := h
    exact ⟨a, dd, vs, rfl, e.notin _ _ n h1, e.keep _ _ n h1, fun y q => ⟨e.notin _ _ (m y q).1 (m y q).2, e.keep _ _ (m y q).1 (m y q).2⟩, z, RepF.mono e h3⟩
theorem Reps.mono (e : ExtW O H O' H') : ∀ {d : List D} {v : List V}, Reps K O H d v → Reps K O' H' d v
  | [], _, h => h
  | _ :: _, _, h => by
    obtain ⟨v, r, rfl, h1, h2⟩ := h
    exact ⟨v, r, rfl, Rep.mono e h1, Reps.mono e h2⟩
theorem RepK.mono (e : ExtW O H O' H') : ∀ {d : List (Key × D)} {v : List (Key × V)}, RepK K O H d v → RepK K O' H' d v
  | [], _, h => h
  | (_, _) :: _, _, h => by
    obtain ⟨v, r, rfl, h1, h2⟩ := h
    exact ⟨v, r, rfl, Rep.mono e h1, RepK.mono e h2⟩
theorem RepT.mono (e : ExtW O H O' H') : ∀ {d : List (List Key × D)} {v : List (List Key × V)}, RepT K O H d v → RepT K O' H' d v
  | [], _, h => h
  | (_, _) :: _, _, h => by
    obtain ⟨v, r, rfl, h1, h2⟩ := h
    exact ⟨v, r, rfl, Rep.mono e h1, RepT.mono e h2⟩
theorem RepF.mono (e : ExtW O H O' H') : ∀ {d : List (Str × D)} {v : List (Str × V)}, RepF K O H d v → RepF K O' H' d v
  | [], _, h => h
  | (_, _) :: _, _, h => by
    obtain ⟨v, r, rfl, h1, h2⟩ := h
    exact ⟨v, r, rfl, Rep.mono e h1, RepF.mono e h2⟩
end
theorem Cell.mono {a : Addr} {d : D} (e : ExtW O H O' H') (h : Cell K O H a d) (k : H' a = H a) : Cell K O' H' a d := by
  cases d <;> simp only [Cell] at h ⊢
  case lst => obtain ⟨xs, h1, h2⟩ := h; exact ⟨xs, k.trans h1, h2.mono e⟩
  case dK => obtain ⟨xs, h1, h2⟩ := h; exact ⟨xs, k.trans h1, h2.mono e⟩
  case dT => obtain ⟨xs, h1, h2⟩ := h; exact ⟨xs, k.trans h1, h2.mono e⟩
  case obj => obtain ⟨dx, xs, h1, h2⟩ := h; exact ⟨dx, xs, k.trans h1, h2.mono e⟩
theorem Reps.length : ∀ {ds : List D} {vs : List V}, Reps K O H ds vs → ds.length = vs.length
  | [], _, h => by cases h; rfl
  | _ :: _, _, h => by
    obtain ⟨v, r, rfl, _, h2⟩ := h
    simp [Reps.length h2]
theorem Reps.append : ∀ {ds es : List D} {vs us : List V}, Reps K O H ds vs → Reps K O H es us → Reps K O H (ds ++ es) (vs ++ us)
  | [], _, _, _, h, h' => by cases h; exact h'
  | _ :: _, _, _, _, h, h' => by
    obtain ⟨v, r, rfl, h1, h2⟩ := h
    exact ⟨v, r ++ _, rfl, h1, Reps.append h2 h'⟩
theorem Reps.get : ∀ {ds : List D} {vs : List V} {i : Nat} {d : D}, Reps K O H ds vs → ds[i]? = some d → ∃ v, vs[i]? = some v ∧ Rep K O H d v
  | [], _, _, _, _, e => by simp at e
  | _ :: _, _, 0, _, h, e => by
    obtain ⟨v, r, rfl, h1, h2⟩ := h
    simp at e; subst e; exact ⟨v, rfl, h1⟩
  | _ :: _, _, i + 1, _, h, e => by
    obtain ⟨v, r, rfl, h1, h2⟩ := h
    exact Reps.get (i := i) h2 (by simpa using e)
theorem Reps.get' : ∀ {ds : List D} {vs : List V} {i : Nat} {v : V}, Reps K O H ds vs → vs[i]? = some v → ∃ d, ds[i]? = some d ∧ Rep K O H d v
  | [], _, _, _, h, e => by cases h; simp at e
  | _ :: _, _, 0, _, h, e => by
    obtain ⟨v, r, rfl, h1, h2⟩ := h
    simp at e; subst e; exact ⟨_, rfl, h1⟩
  | _ :: _, _, i + 1, _, h, e => by
    obtain ⟨v, r, rfl, h1, h2⟩ := h
    exact Reps.get' (i := i) h2 (by simpa using e)
theorem Reps.set {d : D} {v : V} (hr : Rep K O H d v) : ∀ {ds : List D} {vs : List V} (i : Nat), Reps K O H ds vs → Reps K O H (ds.set i d) (vs.set i v)
  | [], _, _, h => by cases h; exact rfl
  | _ :: _, _, 0, h => by
    obtain ⟨u, r, rfl, h1, h2⟩ := h
    exact ⟨v, r, rfl, hr, h2⟩
  | _ :: _, _, i + 1, h => by
    obtain ⟨u, r, rfl, h1, h2⟩ := h
    exact ⟨u, _, rfl, h1, Reps.set hr i h2⟩
theorem Reps.take : ∀ {ds : List D} {vs : List V} (n : Nat), Reps K O H ds vs → Reps K O H (ds.take n) (vs.take n)
  | _, _, 0, _ => by simp [Reps]
  | [], _, _ + 1, h => by cases h; exact rfl
  | _ :: _, _, n + 1, h => by
    obtain ⟨u, r, rfl, h1, h2⟩ := h
    exact ⟨u, _, rfl, h1, Reps.take n h2⟩
theorem Reps.drop : ∀ {ds : List D} {vs : List V} (n : Nat), Reps K O H ds vs → Reps K O H (ds.drop n) (vs.drop n)
  | _, _, 0, h => by simpa using h
  | [], _, _ + 1, h => by cases h; exact rfl
  | _ :: _, _, n + 1, h => by
    obtain ⟨u, r, rfl, h1, h2⟩ := h
    exact Reps.drop n h2
end

/-! ### environments -/
abbrev Env := List (Option D)
def RepO (K : PySem.W.Frag) (O : Ow) (H : Hp) : Option D → Option V → Prop
  | none, _ => True
  | some d, u => ∃ v, u = some v ∧ Rep K O H d v
inductive REnv (K : PySem.W.Frag) (O : Ow) (H : Hp) : Env → St → Prop where
  | nil : REnv K O H [] []
  | cons {d v ρ σ} : RepO K O H d v → REnv K O H ρ σ → REnv K O H (d :: ρ) (v :: σ)
section
variable {K : PySem.W.Frag} {O O' : Ow} {H H' : Hp}
theorem REnv.mono (e : ExtW O H O' H') : ∀ {ρ : Env} {σ : St}, REnv K O H ρ σ → REnv K O' H' ρ σ
  | _, _, .nil => .nil
  | _, _, .cons (d := none) h t => .cons trivial (t.mono e)
  | _, _, .cons (d := some _) ⟨v, e1, h⟩ t => .cons ⟨v, e1, h.mono e⟩ (t.mono e)
theorem REnv.get : ∀ {ρ : Env} {σ : St} {i : Nat} {d : D}, REnv K O H ρ σ → ρ[i]? = some (some d) → ∃ v, σ[i]? = some (some v) ∧ Rep K O H d v
  | _, _, _, _, .nil, e => by simp at e
  | _, _, 0, _, .cons h t, e => by
    simp at e; subst e
    obtain ⟨v, rfl, h⟩ := h
    exact ⟨v, rfl, h⟩
  | _, _, i + 1, _, .cons h t, e => by
    simpa using REnv.get (i := i) t (by simpa using e)
theorem REnv.set {d : D} {v : V} (hr : Rep K O H d v) : ∀ {ρ : Env} {σ : St} (i : Nat), REnv K O H ρ σ → REnv K O H (ρ.set i (some d)) (σ.set i (some v))
  | _, _, _, .nil => .nil
  | _, _, 0, .cons h t => .cons ⟨v, rfl, hr⟩ t
  | _, _, i + 1, .cons h t => .cons h (REnv.set hr i t)
theorem REnv.unset {u : Option V} : ∀ {ρ : Env} {σ : St} (i : Nat), REnv K O H ρ σ → REnv K O H (ρ.set i none) (σ.set i u)
  | _, _, _, .nil => .nil
  | _, _, 0, .cons h t => .cons trivial t
  | _, _, i + 1, .cons h t => .cons h (REnv.unset i t)
theorem REnv.app : ∀ {ρ : Env} {σ : St}, REnv K O H ρ σ → ∀ n, REnv K O H (ρ ++ List.replicate n none) (σ ++ List.replicate n none)
  | _, _, .nil, 0 => .nil
  | _, _, .nil, n + 1 => .cons trivial (REnv.app .nil n)
  | _, _, .cons h t, n => .cons h (t.app n)
theorem REnv.of : ∀ {ds : List D} {vs : List V}, Reps K O H ds vs → REnv K O H (ds.map some) (vs.map some)
  | [], _, h => by cases h; exact .nil
  | _ :: _, _, h => by
    obtain ⟨u, r, rfl, h1, h2⟩ := h
    exact .cons ⟨u, rfl, h1⟩ (REnv.of h2)
end
structure Stt (K : PySem.W.Frag) (O : Ow) (H : Hp) (ρ : Env) (σ : St) (S : Sto) : Prop where
  wf : WF K O H S
  env : REnv K O H ρ σ

/-! ### results -/
/-- an exception of the program's own: its class, its fields -/
structure Exc where
  c : Str
  fs : List (Str × D)
inductive RE (α : Type) where
  | ok (a : α) (S : Sto) | exc (x : Exc) (S : Sto) | bad
def RE.bind {α β : Type} (r : RE α) (f : α → Sto → RE β) : RE β := match r with
  | .ok a S => f a S
  | .exc x S => .exc x S
  | .bad => .bad
@[simp] theorem RE.bind_ok {α β : Type} (a : α) (S : Sto) (f : α → Sto → RE β) : (RE.ok a S).bind f = f a S := id rfl
@[simp] theorem RE.bind_exc {α β : Type} (x : Exc) (S : Sto) (f : α → Sto → RE β) : (RE.exc x S).bind f = .exc x S := id rfl
@[simp] theorem RE.bind_bad {α β : Type} (f : α → Sto → RE β) : (RE.bad : RE α).bind f = .bad := id rfl
abbrev ME := Env → Sto → RE D
abbrev MT := Env → Sto → RE Bool
abbrev MA := Env → Sto → RE (List D)
inductive RS where
  | nx (ρ : Env) (S : Sto) | rt (d : D) (S : Sto) | bk (ρ : Env) (S : Sto) | ct (ρ : Env) (S : Sto) | exc (x : Exc) (ρ : Env) (S : Sto) | bad
abbrev MS := Env → Sto → RS
def RepX (K : PySem.W.Frag) (O : Ow) (H : Hp) (x : Exc) (cls : Value) (dx : Option Addr) : Prop :=
  cls = .ref (He.ga K x.c) ∧ ∃ a vs, dx = some a ∧ H a = some (.xd vs) ∧ RepF K O H x.fs vs

/-- what is wanted behind an expression: Rl says how the datum shows -/
def After {α β : Type} (K : PySem.W.Frag) (W : WX) (Rl : Ow → Hp → α → β → Prop) (ρ : Env) (σ : St) (O : Ow) (H : Hp) (Q : β → Hp → Prop) : RE α → Prop
  | .ok d S' => ∀ O' H' v, Ext O H O' H' → Stt K O' H' ρ σ S' → Rl O' H' d v → Q v H'
  | .exc x S' => ∀ O' H' cls dx, Ext O H O' H' → Stt K O' H' ρ σ S' → RepX K O' H' x cls dx → W cls dx σ H'
  | .bad => False
section
variable {K : PySem.W.Frag} {W : WX} {ρ : Env} {σ : St} {O O' : Ow} {H H' : Hp} {S : Sto} {α β γ δ : Type}
theorem After.mono {Rl : Ow → Hp → α → β → Prop} {Q : β → Hp → Prop} {r : RE α} (h : After K W Rl ρ σ O H Q r) (e : Ext O H O' H') : After K W Rl ρ σ O' H' Q r := by
  cases r with
  | ok d S' => exact fun O2 H2 v e2 st rl => h O2 H2 v (e.trans e2) st rl
  | exc x S' => exact fun O2 H2 cls dx e2 st rl => h O2 H2 cls dx (e.trans e2) st rl
  | bad => exact h
theorem After.seq {Rl : Ow → Hp → α → β → Prop} {Rm : Ow → Hp → γ → δ → Prop} {Q : δ → Hp → Prop} {Q1 : β → Hp → Prop} {r : RE α} {g : α → Sto → RE γ} (h : After K W Rm ρ σ O H Q (r.bind g))
    (k : ∀ d S1 O1 H1 v, Ext O H O1 H1 → Stt K O1 H1 ρ σ S1 → Rl O1 H1 d v → After K W Rm ρ σ O1 H1 Q (g d S1) → Q1 v H1) : After K W Rl ρ σ O H Q1 r := by
  cases r with
  | ok d S' => exact fun O1 H1 v e st rl => k d S' O1 H1 v e st rl (After.mono h e)
  | exc x S' => exact fun O2 H2 cls dx e2 st rl => h O2 H2 cls dx e2 st rl
  | bad => exact h.elim
theorem After.ok {Rl : Ow → Hp → α → β → Prop} {Q : β → Hp → Prop} {d : α} {v : β} (h : After K W Rl ρ σ O H Q (.ok d S)) (st : Stt K O H ρ σ S) (r : Rl O H d v) : Q v H := h O H v .refl st r
end
/-- readings of data -/
def tE (K : PySem.W.Frag) (W : WX) (f : ME) : TE := fun σ H Q => ∃ O ρ S, Stt K O H ρ σ S ∧ After K W (Rep K) ρ σ O H Q (f ρ S)
def tT (K : PySem.W.Frag) (W : WX) (f : MT) : TT := fun σ H Q => ∃ O ρ S, Stt K O H ρ σ S ∧ After K W (fun _ _ a b => a = b) ρ σ O H Q (f ρ S)
def tA (K : PySem.W.Frag) (W : WX) (f : MA) : TA := fun σ H Q => ∃ O ρ S, Stt K O H ρ σ S ∧ After K W (Reps K) ρ σ O H Q (f ρ S)
structure DE (X : Cx) (W : WX) (e : Expr) (f : ME) : Prop where
  pe : PE X e (tE X.K W f)
structure DT (X : Cx) (W : WX) (e : Expr) (f : MT) : Prop where
  pt : PT X e (tT X.K W f)
structure DW (X : Cx) (W : WX) (e : Expr) (f : MT) : Prop where
  pw : PW X e (tT X.K W f)
structure DA (X : Cx) (W : WX) (es : List Expr) (f : MA) : Prop where
  pa : PA X es (tA X.K W f)
theorem PE.imp {X : Cx} {e : Expr} {t t' : TE} (h : PE X e t) (k : ∀ σ H Q, t' σ H Q → t σ H Q) : PE X e t' := ⟨fun pins s σ H Q I q => h.run pins s σ H Q I (k σ H Q q)⟩
theorem PT.imp {X : Cx} {e : Expr} {t t' : TT} (h : PT X e t) (k : ∀ σ H Q, t' σ H Q → t σ H Q) : PT X e t' := ⟨fun pins s σ H Q I q => h.run pins s σ H Q I (k σ H Q q)⟩
theorem PW.imp {X : Cx} {e : Expr} {t t' : TT} (h : PW X e t) (k : ∀ σ H Q, t' σ H Q → t σ H Q) : PW X e t' := ⟨fun wh pins s σ H Q I q => h.run wh pins s σ H Q I (k σ H Q q)⟩
theorem PA.imp {X : Cx} {e : List Expr} {t t' : TA} (h : PA X e t) (k : ∀ σ H Q, t' σ H Q → t σ H Q) : PA X e t' := ⟨fun p pins s σ H Q I q => h.run p pins s σ H Q I (k σ H Q q)⟩
theorem PS.imp {X : Cx} {e : Stmt} {t t' : TS} (h : PS X e t) (k : ∀ D σ H, t' D σ H → t D σ H) : PS X e t' := ⟨fun pins s σ H D I q => h.run pins s σ H D I (k D σ H q)⟩
theorem PSs.imp {X : Cx} {e : List Stmt} {t t' : TS} (h : PSs X e t) (k : ∀ D σ H, t' D σ H → t D σ H) : PSs X e t' := ⟨fun pins s σ H D I q => h.run pins s σ H D I (k D σ H q)⟩

section
variable {X : Cx} {W : WX} {a b c : Expr} {f g h : ME} {pos : Pos}
/-! ### names, constants -/
def dVar (i : Nat) : ME := fun ρ S => match ρ[i]? with
  | some (some d) => .ok d S
  | _ => .bad
def dC (d : D) : ME := fun _ S => .ok d S
theorem de_var (i : Nat) {x : Str} (hN : X.N[i]? = some x) (hv : Vis X.env.scope x) (hd : (x == ("__debug__" : Str)) = false := by decide) (hcd : (x == ("__classdict__" : Str)) = false := by decide) : DE X W (.Name x pos) (dVar i) := ⟨PE.imp (pe_var hN hv hd hcd) fun σ H Q ⟨O, ρ, S, st, h⟩ => by
  unfold dVar at h
  split at h
  · rename_i d q
    obtain ⟨v, e, r⟩ := st.env.get q
    exact ⟨v, e, h.ok st r⟩
  · exact h.elim⟩
theorem de_const {d : D} {v : V} (hp : PE X a (tC v)) (r : ∀ O H, Rep X.K O H d v) : DE X W a (dC d) := ⟨PE.imp hp fun σ H Q ⟨O, ρ, S, st, h⟩ => After.ok h st (r O H)⟩
theorem de_int {i j} : DE X W (.Constant (.int i) j pos) (dC (.int i)) := de_const pe_int fun _ _ => rfl
theorem de_bl {i j} : DE X W (.Constant (.bool i) j pos) (dC (.bl i)) := de_const pe_bl fun _ _ => rfl
theorem de_non {j} : DE X W (.Constant .none j pos) (dC .non) := de_const pe_non fun _ _ => rfl
theorem de_str {i j} : DE X W (.Constant (.str i) j pos) (dC (.str i)) := de_const pe_str fun _ _ => rfl
/-! ### operators -/
/-- a rule of the layer for values, seen by data -/
def OpD (X : Cx) (r : R2) (op : D → D → Sto → RE D) : Prop :=
  ∀ (W : WX) (ρ : Env) (σ : St) (O : Ow) (H : Hp) (S : Sto) (x y : V) (d e : D) (Q : VK), Stt X.K O H ρ σ S → Rep X.K O H d x → Rep X.K O H e y → After X.K W (Rep X.K) ρ σ O H Q (op d e S) → r x y H Q
def dBin (op : D → D → Sto → RE D) (f g : ME) : ME := fun ρ S => (f ρ S).bind fun d S1 => (g ρ S1).bind fun e S2 => op d e S2
theorem bin_imp {r : R2} {op : D → D → Sto → RE D} (ho : OpD X r op) {σ : St} {H : Hp} {Q : VK} (h : tE X.K W (dBin op f g) σ H Q) : tOp r (tE X.K W f) (tE X.K W g) σ H Q := by
  obtain ⟨O, ρ, S, st, h⟩ := h
  refine ⟨O, ρ, S, st, After.seq h fun d S1 O1 H1 v e1 st1 r1 h1 => ⟨O1, ρ, S1, st1, After.seq h1 fun d2 S2 O2 H2 u e2 st2 r2 h2 => ?_⟩⟩
  exact ho W ρ σ O2 H2 S2 v u d d2 Q st2 (r1.mono (e2.w st1.wf)) r2 h2
theorem de_op {op : Operator} {r : R2} {o : D → D → Sto → RE D} (hr : OpR X (binaryOp op) r) (ho : OpD X r o) (ha : DE X W a f) (hb : DE X W b g) : DE X W (.BinOp a op b pos) (dBin o f g) :=
  ⟨PE.imp (pe_op hr ha.pe hb.pe) fun _ _ _ h => bin_imp ho h⟩
theorem de_cmp {op : CmpOp} {r : R2} {o : D → D → Sto → RE D} (hr : OpR X (compareOp op) r) (ho : OpD X r o) (ha : DE X W a f) (hb : DE X W b g) (hm : behindInMarks op b = false) : DE X W (.Compare a [op] [b] pos) (dBin o f g) :=
  ⟨PE.imp (pe_cmpR hr ha.pe hb.pe hm) fun _ _ _ h => bin_imp ho h⟩
/-- a value that is a bool, as a test -/
def dTest (f : ME) : MT := fun ρ S => (f ρ S).bind fun d S1 => match d with
  | .bl b => .ok b S1
  | _ => .bad
theorem test_imp {t : TE} {σ : St} {H : Hp} {Q : Bool → Hp → Prop} (ht : ∀ σ H Q, tE X.K W f σ H Q → t σ H Q) (h : tT X.K W (dTest f) σ H Q) : tTest t σ H Q := by
  obtain ⟨O, ρ, S, st, h⟩ := h
  refine ht σ H _ ⟨O, ρ, S, st, After.seq h fun d S1 O1 H1 v e1 st1 r1 h1 => ?_⟩
  cases d with
  | bl b => exact ⟨b, r1, After.ok h1 st1 rfl⟩
  | _ => exact h1.elim
theorem dt_cmp {op : CmpOp} {r : R2} {o : D → D → Sto → RE D} (hr : OpR X (compareOp op) r) (ho : OpD X r o) (ha : DE X W a f) (hb : DE X W b g) (hm : behindInMarks op b = false) : DT X W (.Compare a [op] [b] pos) (dTest (dBin o f g)) :=
  ⟨PT.imp (pt_cmpR hr ha.pe hb.pe hm) fun _ _ _ h => test_imp (fun _ _ _ q => bin_imp ho q) h⟩
theorem dt_val (ha : DE X W a f) (he : ∀ whole, isTrue a X.env whole = (do let v ← whole; standAt a.pos; holding [v] (truthy v)) := by intro _; rfl) : DT X W a (dTest f) :=
  ⟨PT.imp (pt_val ha.pe he) fun _ _ _ h => test_imp (fun _ _ _ q => q) h⟩
/-! ### and, or, not -/
variable {tf tg : MT} {rest : List Expr}
def dAndT (f g : MT) : MT := fun ρ S => (f ρ S).bind fun d S1 => if d = true then g ρ S1 else .ok false S1
def dOrT (f g : MT) : MT := fun ρ S => (f ρ S).bind fun d S1 => if d = true then .ok true S1 else g ρ S1
def dNotT (f : MT) : MT := fun ρ S => (f ρ S).bind fun d S1 => .ok (!d) S1
theorem dw_and1 (ha : DT X W a tf) : DW X W (.BoolOp .And [a] pos) tf := ⟨pw_and1 ha.pt⟩
theorem dw_or1 (ha : DT X W a tf) : DW X W (.BoolOp .Or [a] pos) tf := ⟨pw_or1 ha.pt⟩
theorem dw_and (ha : DT X W a tf) (hb : DW X W (.BoolOp .And (b :: rest) pos) tg) : DW X W (.BoolOp .And (a :: b :: rest) pos) (dAndT tf tg) :=
  ⟨PW.imp (pw_and ha.pt hb.pw) fun σ H Q ⟨O, ρ, S, st, h⟩ => ⟨O, ρ, S, st, After.seq h fun d S1 O1 H1 v e1 st1 r1 h1 => by
    subst r1
    cases d with
    | true => exact iteT ⟨O1, ρ, S1, st1, h1⟩
    | false => exact iteF (After.ok h1 st1 rfl)⟩⟩
theorem dw_or (ha : DT X W a tf) (hb : DW X W (.BoolOp .Or (b :: rest) pos) tg) : DW X W (.BoolOp .Or (a :: b :: rest) pos) (dOrT tf tg) :=
  ⟨PW.imp (pw_or ha.pt hb.pw) fun σ H Q ⟨O, ρ, S, st, h⟩ => ⟨O, ρ, S, st, After.seq h fun d S1 O1 H1 v e1 st1 r1 h1 => by
    subst r1
    cases d with
    | true => exact iteT (After.ok h1 st1 rfl)
    | false => exact iteF ⟨O1, ρ, S1, st1, h1⟩⟩⟩
theorem DW.dt (h : DW X W a tf) : DT X W a tf := ⟨PW.pt h.pw⟩
theorem dt_not (ha : DT X W a tf) : DT X W (.UnaryOp .Not a pos) (dNotT tf) :=
  ⟨PT.imp (pt_not ha.pt) fun σ H Q ⟨O, ρ, S, st, h⟩ => ⟨O, ρ, S, st, After.seq h fun d S1 O1 H1 v e1 st1 r1 h1 => by
    subst r1
    exact After.ok h1 st1 rfl⟩⟩
def dAnd (f g : ME) : ME := fun ρ S => (f ρ S).bind fun d S1 => match d with
  | .bl true => g ρ S1
  | .bl false => .ok (.bl false) S1
  | _ => .bad
def dOr (f g : ME) : ME := fun ρ S => (f ρ S).bind fun d S1 => match d with
  | .bl false => g ρ S1
  | .bl true => .ok (.bl true) S1
  | _ => .bad
def dNot (f : ME) : ME := fun ρ S => (f ρ S).bind fun d S1 => match d with
  | .bl b => .ok (.bl (!b)) S1
  | _ => .bad
theorem de_one {op} (h : DE X W a f) : DE X W (.BoolOp op [a] pos) f := ⟨pe_one h.pe⟩
theorem de_and (ha : DE X W a f) (hb : DE X W (.BoolOp .And (b :: rest) pos) g) : DE X W (.BoolOp .And (a :: b :: rest) pos) (dAnd f g) :=
  ⟨PE.imp (pe_and ha.pe hb.pe) fun σ H Q ⟨O, ρ, S, st, h⟩ => ⟨O, ρ, S, st, After.seq h fun d S1 O1 H1 v e1 st1 r1 h1 => by
    cases d with
    | bl k =>
      cases k with
      | true => exact ⟨true, r1, iteT ⟨O1, ρ, S1, st1, h1⟩⟩
      | false => exact ⟨false, r1, iteF (After.ok h1 st1 rfl)⟩
    | _ => exact h1.elim⟩⟩
theorem de_or (ha : DE X W a f) (hb : DE X W (.BoolOp .Or (b :: rest) pos) g) : DE X W (.BoolOp .Or (a :: b :: rest) pos) (dOr f g) :=
  ⟨PE.imp (pe_or ha.pe hb.pe) fun σ H Q ⟨O, ρ, S, st, h⟩ => ⟨O, ρ, S, st, After.seq h fun d S1 O1 H1 v e1 st1 r1 h1 => by
    cases d with
    | bl k =>
      cases k with
      | true => exact ⟨true, r1, iteT (After.ok h1 st1 rfl)⟩
      | false => exact ⟨false, r1, iteF ⟨O1, ρ, S1, st1, h1⟩⟩
    | _ => exact h1.elim⟩⟩
theorem de_not (ha : DE X W a f) : DE X W (.UnaryOp .Not a pos) (dNot f) :=
  ⟨PE.imp (pe_not ha.pe) fun σ H Q ⟨O, ρ, S, st, h⟩ => ⟨O, ρ, S, st, After.seq h fun d S1 O1 H1 v e1 st1 r1 h1 => by
    cases d with
    | bl k => exact ⟨k, r1, After.ok h1 st1 rfl⟩
    | _ => exact h1.elim⟩⟩
def dIfE (t : MT) (f g : ME) : ME := fun ρ S => (t ρ S).bind fun d S1 => if d = true then f ρ S1 else g ρ S1
theorem de_if (hc : DT X W c tf) (ha : DE X W a f) (hb : DE X W b g) : DE X W (.IfExp c a b pos) (dIfE tf f g) :=
  ⟨PE.imp (pe_ifExp hc.pt ha.pe hb.pe) fun σ H Q ⟨O, ρ, S, st, h⟩ => ⟨O, ρ, S, st, After.seq h fun d S1 O1 H1 v e1 st1 r1 h1 => by
    subst r1
    cases d with
    | true => exact iteT ⟨O1, ρ, S1, st1, h1⟩
    | false => exact iteF ⟨O1, ρ, S1, st1, h1⟩⟩⟩
/-- a < b < c -/
def dChain (o p : D → D → Sto → RE D) (f g h : ME) : ME := fun ρ S => (f ρ S).bind fun x S1 => (g ρ S1).bind fun y S2 => (o x y S2).bind fun d S3 => match d with
  | .bl true => (h ρ S3).bind fun z S4 => p y z S4
  | .bl false => .ok (.bl false) S3
  | _ => .bad
/-! ### arguments -/
variable {es : List Expr} {ta : MA}
def aNil : MA := fun _ S => .ok [] S
def aCons (f : ME) (g : MA) : MA := fun ρ S => (f ρ S).bind fun d S1 => (g ρ S1).bind fun ds S2 => .ok (d :: ds) S2
theorem da_nil : DA X W [] aNil := ⟨PA.imp pa_nil fun σ H Q ⟨O, ρ, S, st, h⟩ => After.ok h st rfl⟩
theorem da_cons (ha : DE X W a f) (hr : DA X W es ta) (hs : starEach (a :: es) X.env = (false, eval a X.env) :: starEach es X.env := by rfl) : DA X W (a :: es) (aCons f ta) :=
  ⟨PA.imp (pa_cons ha.pe hr.pa hs) fun σ H Q ⟨O, ρ, S, st, h⟩ => ⟨O, ρ, S, st, After.seq h fun d S1 O1 H1 v e1 st1 r1 h1 => ⟨O1, ρ, S1, st1, After.seq h1 fun d2 S2 O2 H2 u e2 st2 r2 h2 =>
    After.ok h2 st2 ⟨v, u, rfl, r1.mono (e2.w st1.wf), r2⟩⟩⟩⟩
end
end DE

namespace DE
open PySem L2

/-! ### new objects, objects changed -/
section
variable {K : PySem.W.Frag} {O : Ow} {H : Hp} {ρ : DE.Env} {σ : St} {S : Sto}
theorem upd_there {H : Hp} {p : Addr} {o : HO} (a : Addr) (h : H a ≠ none) : upd H p o a ≠ none := by
  by_cases z : a = p
  · subst z; rw [upd_same]; exact fun z => nomatch z
  · rw [upd_ne z]; exact h
theorem ext_new {p : Addr} {o : HO} (hp : H p = none) : Ext O H O (upd H p o) :=
  ⟨⟨[], by simp, fun _ h => by cases h⟩, ⟨[], by simp, fun _ h => by cases h⟩, fun a u _ h => by rw [upd_ne (ne_of_none h hp)]; exact h, fun a u h => by rw [upd_ne (ne_of_none h hp)]; exact h, upd_there⟩
theorem Stt.no (st : Stt K O H ρ σ S) {p : Addr} (hp : H p = none) : O.no p := ⟨fun z => st.wf.there p (.inl z) hp, fun z => st.wf.there p (.inr z) hp⟩
theorem Stt.new (st : Stt K O H ρ σ S) {p : Addr} {o : HO} (hp : H p = none) : Ext O H O (upd H p o) ∧ Stt K O (upd H p o) ρ σ S := by
  have e : Ext O H O (upd H p o) := ext_new hp
  have nw : ∀ a, a ∈ O.l ∨ a ∈ O.u → a ≠ p := fun a ha z => st.wf.there a ha (z ▸ hp)
  refine ⟨e, ⟨st.wf.nd, st.wf.len, fun k a d h1 h2 => (st.wf.cell k a d h1 h2).mono (e.w st.wf) (upd_ne (nw a (.inl (List.mem_of_getElem? h1)))), fun a ha => ?_⟩, st.env.mono (e.w st.wf)⟩
  rw [upd_ne (nw a (.inr ha))]
  exact st.wf.hid a ha
theorem Stt.newO (st : Stt K O H ρ σ S) {p : Addr} {o : HO} {d : D} (hp : H p = none) (c : Ext O H (O.add p) (upd H p o) → Cell K (O.add p) (upd H p o) p d) : Ext O H (O.add p) (upd H p o) ∧ Stt K (O.add p) (upd H p o) ρ σ (S ++ [d]) := by
  have e0 : Ext O H O (upd H p o) := ext_new hp
  have nw : ∀ a, a ∈ O.l ∨ a ∈ O.u → a ≠ p := fun a ha z => st.wf.there a ha (z ▸ hp)
  have e : Ext O H (O.add p) (upd H p o) := ⟨⟨[p], rfl, fun a h => by rw [List.mem_singleton.mp h]; exact hp⟩, ⟨[], by simp [Ow.add], fun _ h => by cases h⟩, e0.keep, e0.tups, e0.there⟩
  refine ⟨e, ⟨?_, by simp [Ow.add, st.wf.len], fun k a d' h1 h2 => ?_, fun a ha => ?_⟩, st.env.mono (e.w st.wf)⟩
  · show (O.l ++ [p]).Nodup
    rw [List.nodup_append]
    exact ⟨st.wf.nd, by simp, fun a ha b hb => by rw [List.mem_singleton.mp hb]; exact nw a (.inl ha)⟩
  · have h1 : (O.l ++ [p])[k]? = some a := h1
    by_cases hk : k < O.l.length
    · rw [List.getElem?_append_left hk] at h1
      rw [List.getElem?_append_left (by rw [st.wf.len]; exact hk)] at h2
      exact (st.wf.cell k a d' h1 h2).mono (e.w st.wf) (upd_ne (nw a (.inl (List.mem_of_getElem? h1))))
    · have hk' : k = O.l.length := by
        have := (List.getElem?_eq_some_iff.mp h1).1
        simp at this; omega
      subst hk'
      rw [List.getElem?_append_right (Nat.le_refl _)] at h1
      rw [List.getElem?_append_right (Nat.le_of_eq st.wf.len), st.wf.len] at h2
      simp at h1 h2
      subst h1 h2
      exact c e
  · have ha : a ∈ O.u := ha
    rw [upd_ne (nw a (.inr ha))]
    refine ⟨fun z => ?_, (st.wf.hid a ha).2⟩
    rcases List.mem_append.mp (show a ∈ O.l ++ [p] from z) with z | z
    · exact (st.wf.hid a ha).1 z
    · exact nw a (.inr ha) (List.mem_singleton.mp z)
theorem Stt.mut (st : Stt K O H ρ σ S) {k : Nat} {a : Addr} {o : HO} {d : D} (hk : O.l[k]? = some a) (c : Ext O H O (upd H a o) → Cell K O (upd H a o) a d) : Ext O H O (upd H a o) ∧ Stt K O (upd H a o) ρ σ (S.set k d) := by
  have ha := List.mem_of_getElem? hk
  have e : Ext O H O (upd H a o) := ⟨⟨[], by simp, fun _ h => by cases h⟩, ⟨[], by simp, fun _ h => by cases h⟩, fun b u nb h => by rw [upd_ne (show b ≠ a from fun z => nb (z ▸ ha))]; exact h, fun b u h => by rw [upd_ne (show b ≠ a from fun z => st.wf.notup a (.inl ha) u (z ▸ h))]; exact h, upd_there⟩
  refine ⟨e, ⟨st.wf.nd, by simp [st.wf.len], fun j b d' h1 h2 => ?_, fun b hb => ?_⟩, st.env.mono (e.w st.wf)⟩
  · by_cases hj : k = j
    · subst hj
      rw [h1] at hk; cases hk
      rw [List.getElem?_set_self (by rw [st.wf.len]; exact (List.getElem?_eq_some_iff.mp h1).1)] at h2
      cases h2
      exact c e
    · rw [List.getElem?_set_ne hj] at h2
      refine (st.wf.cell j b d' h1 h2).mono (e.w st.wf) (upd_ne fun z => hj ?_)
      subst z
      exact ((List.getElem_inj st.wf.nd).mp ((List.getElem?_eq_some_iff.mp hk).2.trans (List.getElem?_eq_some_iff.mp h1).2.symm))
  · rw [upd_ne (show b ≠ a from fun z => (st.wf.hid b hb).1 (z ▸ ha))]
    exact st.wf.hid b hb
theorem Stt.own (st : Stt K O H ρ σ S) {k : Nat} {d : D} (hs : S[k]? = some d) : ∃ a, O.l[k]? = some a ∧ Cell K O H a d := by
  have hl : k < O.l.length := by rw [← st.wf.len]; exact (List.getElem?_eq_some_iff.mp hs).1
  exact ⟨O.l[k], by simp [hl], st.wf.cell k _ d (by simp [hl]) hs⟩
/-! ### hidden lists -/
theorem solid_lst {xs : List V} : Solid (.lst xs) := ⟨(fun _ z => by cases z), (fun _ _ z => by cases z), (fun _ z => by cases z)⟩
def Ow.hide (O : Ow) (p : Addr) : Ow := ⟨O.l, p :: O.u⟩
/-- a new hidden list -/
theorem Stt.hide (st : Stt K O H ρ σ S) {p : Addr} {xs : List V} (hp : H p = none) : Ext O H (O.hide p) (upd H p (.lst xs)) ∧ Stt K (O.hide p) (upd H p (.lst xs)) ρ σ S := by
  have e0 : Ext O H O (upd H p (.lst xs)) := ext_new hp
  have nw : ∀ a, a ∈ O.l ∨ a ∈ O.u → a ≠ p := fun a ha z => st.wf.there a ha (z ▸ hp)
  have e : Ext O H (O.hide p) (upd H p (.lst xs)) := ⟨⟨[], by simp [Ow.hide], fun _ h => by cases h⟩, ⟨[p], rfl, fun a h => by rw [List.mem_singleton.mp h]; exact hp⟩, e0.keep, e0.tups, e0.there⟩
  refine ⟨e, ⟨st.wf.nd, st.wf.len, fun k a d h1 h2 => (st.wf.cell k a d h1 h2).mono (e.w st.wf) (upd_ne (nw a (.inl (List.mem_of_getElem? h1)))), fun a ha => ?_⟩, st.env.mono (e.w st.wf)⟩
  rcases List.mem_cons.mp (show a ∈ p :: O.u from ha) with z | z
  · subst z
    exact ⟨fun z => nw a (.inl z) rfl, _, upd_same, solid_lst⟩
  · rw [upd_ne (nw a (.inr z))]; exact st.wf.hid a z
/-- a hidden list changes -/
theorem extW_hid (w : WF K O H S) {p : Addr} {xs : List V} (hp : p ∈ O.u) : ExtW O H O (upd H p (.lst xs)) :=
  ⟨fun _ _ h => h, fun _ _ n _ => n, fun a o n h => by rw [upd_ne (show a ≠ p from fun z => n.2 (z ▸ hp))]; exact h, fun a u h => by rw [upd_ne (show a ≠ p from fun z => w.notup p (.inr hp) u (z ▸ h))]; exact h, fun a o u h => by rw [upd_ne (show a ≠ p from fun z => w.nofrz p (.inr hp) o u (z ▸ h))]; exact h⟩
theorem Stt.hid (st : Stt K O H ρ σ S) {p : Addr} {xs : List V} (hp : p ∈ O.u) : Stt K O (upd H p (.lst xs)) ρ σ S := by
  have e := extW_hid (xs := xs) st.wf hp
  refine ⟨⟨st.wf.nd, st.wf.len, fun k a d h1 h2 => (st.wf.cell k a d h1 h2).mono e (upd_ne fun z => (st.wf.hid p hp).1 (z ▸ List.mem_of_getElem? h1)), fun a ha => ?_⟩, st.env.mono e⟩
  by_cases z : a = p
  · subst z; exact ⟨(st.wf.hid a ha).1, _, upd_same, solid_lst⟩
  · rw [upd_ne z]; exact st.wf.hid a ha
/-- nothing is hidden any more -/
theorem extW_bare {u : List Addr} (hu : ∀ a ∈ u, a ∈ O.u) : ExtW O H ⟨O.l, u⟩ H := ⟨fun _ _ h => h, fun _ _ n _ => ⟨n.1, fun z => n.2 (hu _ z)⟩, fun _ _ _ h => h, fun _ _ h => h, fun _ _ _ h => h⟩
theorem Stt.bare (st : Stt K O H ρ σ S) {u : List Addr} (hu : ∀ a ∈ u, a ∈ O.u) : Stt K ⟨O.l, u⟩ H ρ σ S :=
  ⟨⟨st.wf.nd, st.wf.len, fun k a d h1 h2 => (st.wf.cell k a d h1 h2).mono (extW_bare hu) rfl, fun a ha => st.wf.hid a (hu a ha)⟩, st.env.mono (extW_bare hu)⟩
end

def cap : Nat := 100000
theorem cap_line {n : Nat} (h : n ≤ cap) : n ≤ sizeLine := Nat.le_trans h (by decide)
theorem cap_lt {n : Nat} (h : n < cap) : n < sizeLine := Nat.lt_of_lt_of_le h (by decide)

section
variable {X : Cx} {W : WX} {a b c : Expr} {f g h : ME} {pos : Pos} {es : List Expr} {fa : MA}
/-! ### displays -/
def dTup (f : MA) : ME := fun ρ S => (f ρ S).bind fun ds S1 => if ds.length ≤ cap then .ok (.tup ds) S1 else .bad
def dLst (f : MA) : ME := fun ρ S => (f ρ S).bind fun ds S1 => if ds.length ≤ cap then .ok (.lst ds) S1 else .bad
/-- a new list that will change -/
def dLstO (f : MA) : ME := fun ρ S => (f ρ S).bind fun ds S1 => if ds.length ≤ cap then .ok (.own S1.length) (S1 ++ [.lst ds]) else .bad
theorem de_tup {x1} (h : DA X W es fa) : DE X W (.Tuple es x1 pos) (dTup fa) := ⟨PE.imp (pe_tup h.pa) fun σ H Q ⟨O, ρ, S, st, h⟩ => ⟨O, ρ, S, st, After.seq h fun ds S1 O1 H1 vs e1 st1 r1 h1 => by
  by_cases hl : ds.length ≤ cap
  · simp only [hl, if_true] at h1
    refine ⟨by rw [← r1.length]; exact cap_line hl, fun p hp => ?_⟩
    obtain ⟨e2, st2⟩ := st1.new (o := .tup vs) hp
    exact h1 O1 _ _ e2 st2 ⟨p, vs, rfl, .inl upd_same, r1.mono (e2.w st1.wf)⟩
  · simp only [hl, if_false] at h1; exact h1.elim⟩⟩
theorem de_lst (h : DA X W es fa) : DE X W (.List es pos) (dLst fa) := ⟨PE.imp (pe_lst h.pa) fun σ H Q ⟨O, ρ, S, st, h⟩ => ⟨O, ρ, S, st, After.seq h fun ds S1 O1 H1 vs e1 st1 r1 h1 => by
  by_cases hl : ds.length ≤ cap
  · simp only [hl, if_true] at h1
    refine ⟨by rw [← r1.length]; exact cap_line hl, fun p hp => ?_⟩
    obtain ⟨e2, st2⟩ := st1.new (o := .lst vs) hp
    exact h1 O1 _ _ e2 st2 ⟨p, vs, rfl, st1.no hp, upd_same, r1.mono (e2.w st1.wf)⟩
  · simp only [hl, if_false] at h1; exact h1.elim⟩⟩
theorem getElem?_snoc {α : Type} (l : List α) (x : α) : (l ++ [x])[l.length]? = some x := by simp
theorem de_lstO (h : DA X W es fa) : DE X W (.List es pos) (dLstO fa) := ⟨PE.imp (pe_lst h.pa) fun σ H Q ⟨O, ρ, S, st, h⟩ => ⟨O, ρ, S, st, After.seq h fun ds S1 O1 H1 vs e1 st1 r1 h1 => by
  by_cases hl : ds.length ≤ cap
  · simp only [hl, if_true] at h1
    refine ⟨by rw [← r1.length]; exact cap_line hl, fun p hp => ?_⟩
    obtain ⟨e2, st2⟩ := st1.newO (o := .lst vs) (d := .lst ds) hp fun e => ⟨vs, upd_same, r1.mono (e.w st1.wf)⟩
    exact h1 _ _ _ e2 st2 ⟨p, by rw [st1.wf.len]; exact getElem?_snoc _ _, rfl⟩
  · simp only [hl, if_false] at h1; exact h1.elim⟩⟩
end

/-! ### statements -/
def AfterS (K : PySem.W.Frag) (W : WX) (D' : Ends) (O : Ow) (H : Hp) : RS → Prop
  | .nx ρ' S' => ∀ O' H' σ', Ext O H O' H' → Stt K O' H' ρ' σ' S' → D'.nx σ' H'
  | .bk ρ' S' => ∀ O' H' σ', Ext O H O' H' → Stt K O' H' ρ' σ' S' → D'.bk σ' H'
  | .ct ρ' S' => ∀ O' H' σ', Ext O H O' H' → Stt K O' H' ρ' σ' S' → D'.ct σ' H'
  | .rt d S' => ∀ O' H' v, Ext O H O' H' → WF K O' H' S' → Rep K O' H' d v → D'.rt v H'
  | .exc x ρ' S' => ∀ O' H' σ' cls dx, Ext O H O' H' → Stt K O' H' ρ' σ' S' → RepX K O' H' x cls dx → W cls dx σ' H'
  | .bad => False
def RE.stm {α : Type} (r : RE α) (ρ : DE.Env) (k : α → Sto → RS) : RS := match r with
  | .ok a S => k a S
  | .exc x S => .exc x ρ S
  | .bad => .bad
@[simp] theorem RE.stm_ok {α : Type} (a : α) (S : Sto) (ρ : DE.Env) (k : α → Sto → RS) : (RE.ok a S).stm ρ k = k a S := id rfl
@[simp] theorem RE.stm_exc {α : Type} (x : Exc) (S : Sto) (ρ : DE.Env) (k : α → Sto → RS) : (RE.exc x S).stm ρ k = .exc x ρ S := id rfl
@[simp] theorem RE.stm_bad {α : Type} (ρ : DE.Env) (k : α → Sto → RS) : (RE.bad : RE α).stm ρ k = .bad := id rfl
section
variable {K : PySem.W.Frag} {W : WX} {D' : Ends} {ρ : DE.Env} {σ : St} {O O' : Ow} {H H' : Hp} {S : Sto} {α β : Type}
theorem AfterS.mono {r : RS} (h : AfterS K W D' O H r) (e : Ext O H O' H') : AfterS K W D' O' H' r := by
  cases r with
  | nx ρ' S' => exact fun O2 H2 σ' e2 st => h O2 H2 σ' (e.trans e2) st
  | bk ρ' S' => exact fun O2 H2 σ' e2 st => h O2 H2 σ' (e.trans e2) st
  | ct ρ' S' => exact fun O2 H2 σ' e2 st => h O2 H2 σ' (e.trans e2) st
  | rt d S' => exact fun O2 H2 v e2 w r => h O2 H2 v (e.trans e2) w r
  | exc x ρ' S' => exact fun O2 H2 σ' cls dx e2 st rl => h O2 H2 σ' cls dx (e.trans e2) st rl
  | bad => exact h
theorem AfterS.seqE {Rl : Ow → Hp → α → β → Prop} {Q1 : β → Hp → Prop} {r : RE α} {k : α → Sto → RS} (h : AfterS K W D' O H (r.stm ρ k))
    (kk : ∀ d S1 O1 H1 v, Ext O H O1 H1 → Stt K O1 H1 ρ σ S1 → Rl O1 H1 d v → AfterS K W D' O1 H1 (k d S1) → Q1 v H1) : After K W Rl ρ σ O H Q1 r := by
  cases r with
  | ok d S' => exact fun O1 H1 v e st rl => kk d S' O1 H1 v e st rl (AfterS.mono h e)
  | exc x S' => exact fun O2 H2 cls dx e2 st rl => h O2 H2 σ cls dx e2 st rl
  | bad => exact h.elim
end
def tS (K : PySem.W.Frag) (W : WX) (f : MS) : TS := fun D' σ H => ∃ O ρ S, Stt K O H ρ σ S ∧ AfterS K W D' O H (f ρ S)
structure DS (X : Cx) (W : WX) (s : Stmt) (f : MS) : Prop where
  ps : PS X s (tS X.K W f)
structure DSs (X : Cx) (W : WX) (s : List Stmt) (f : MS) : Prop where
  pss : PSs X s (tS X.K W f)
section
variable {X : Cx} {W : WX} {a b c : Expr} {f g h : ME} {pos : Pos} {s : Stmt} {ss : List Stmt} {F G : MS} {tf : MT}
def sNil : MS := fun ρ S => .nx ρ S
def sSeq (f g : MS) : MS := fun ρ S => match f ρ S with
  | .nx ρ1 S1 => g ρ1 S1
  | r => r
theorem AfterS.of_seq {K : PySem.W.Frag} {D' : Ends} {O : Ow} {H : Hp} {r : RS} {g : MS} (h : AfterS K W D' O H (match r with | .nx ρ1 S1 => g ρ1 S1 | r => r)) : AfterS K W { D' with nx := tS K W g D' } O H r := by
  cases r with
  | nx ρ1 S1 => exact fun O' H' σ' e st => ⟨O', ρ1, S1, st, AfterS.mono h e⟩
  | bk ρ1 S1 => exact h
  | ct ρ1 S1 => exact h
  | rt d S1 => exact h
  | exc x ρ1 S1 => exact h
  | bad => exact h
theorem dss_nil : DSs X W [] sNil := ⟨PSs.imp pss_nil fun D' σ H ⟨O, ρ, S, st, h⟩ => h O H σ .refl st⟩
theorem dss_one (h : DS X W s F) : DSs X W [s] F := ⟨pss_one h.ps⟩
theorem dss_cons (h1 : DS X W s F) (h2 : DSs X W ss G) : DSs X W (s :: ss) (sSeq F G) := ⟨PSs.imp (pss_cons h1.ps h2.pss) fun D' σ H ⟨O, ρ, S, st, h⟩ => ⟨O, ρ, S, st, AfterS.of_seq h⟩⟩
theorem ds_pass : DS X W (.Pass pos) sNil := ⟨PS.imp ps_pass fun D' σ H ⟨O, ρ, S, st, h⟩ => h O H σ .refl st⟩
def sBreak : MS := fun ρ S => .bk ρ S
def sCont : MS := fun ρ S => .ct ρ S
theorem ds_break : DS X W (.Break pos) sBreak := ⟨PS.imp ps_break fun D' σ H ⟨O, ρ, S, st, h⟩ => h O H σ .refl st⟩
theorem ds_continue : DS X W (.Continue pos) sCont := ⟨PS.imp ps_continue fun D' σ H ⟨O, ρ, S, st, h⟩ => h O H σ .refl st⟩
theorem ds_doc {x j pos'} : DS X W (.Expr (.Constant (.str x) j pos) pos') sNil := ⟨PS.imp ps_doc fun D' σ H ⟨O, ρ, S, st, h⟩ => h O H σ .refl st⟩
def sExpr (f : ME) : MS := fun ρ S => (f ρ S).stm ρ fun _ S1 => .nx ρ S1
theorem ds_expr (h : DE X W a f) (hs : swapsWith a none pos.line X.env = pure false := by rfl) : DS X W (.Expr a pos) (sExpr f) :=
  ⟨PS.imp (ps_expr h.pe hs) fun D' σ H ⟨O, ρ, S, st, h⟩ => ⟨O, ρ, S, st, AfterS.seqE h fun d S1 O1 H1 v e1 st1 r1 h1 => h1 O1 H1 σ .refl st1⟩⟩
def sRet (f : ME) : MS := fun ρ S => (f ρ S).stm ρ fun d S1 => .rt d S1
theorem ds_ret (h : DE X W a f) : DS X W (.Return (some a) pos) (sRet f) :=
  ⟨PS.imp (ps_ret h.pe) fun D' σ H ⟨O, ρ, S, st, h⟩ => ⟨O, ρ, S, st, AfterS.seqE h fun d S1 O1 H1 v e1 st1 r1 h1 => h1 O1 H1 v .refl st1.wf r1⟩⟩
def sRetN : MS := fun _ S => .rt .non S
theorem ds_retN : DS X W (.Return none pos) sRetN := ⟨PS.imp ps_retN fun D' σ H ⟨O, ρ, S, st, h⟩ => h O H .non .refl st.wf rfl⟩
def sIf (t : MT) (f g : MS) : MS := fun ρ S => (t ρ S).stm ρ fun b S1 => if b = true then f ρ S1 else g ρ S1
theorem ds_if {xs ys : List Stmt} (hc : DT X W c tf) (ha : DSs X W xs F) (hb : DSs X W ys G) : DS X W (.If c xs ys pos) (sIf tf F G) :=
  ⟨PS.imp (ps_if hc.pt ha.pss hb.pss) fun D' σ H ⟨O, ρ, S, st, h⟩ => ⟨O, ρ, S, st, AfterS.seqE h fun d S1 O1 H1 v e1 st1 r1 h1 => by
    subst r1
    cases d with
    | true => exact iteT ⟨O1, ρ, S1, st1, h1⟩
    | false => exact iteF ⟨O1, ρ, S1, st1, h1⟩⟩⟩
/-! ### targets -/
abbrev MG := D → DE.Env → Option DE.Env
abbrev MGs := List D → DE.Env → Option DE.Env
theorem wipe_set {σ : St} {i : Nat} {x : Option V} : ∀ {vs : List Nat}, i ∈ vs → wipe (σ.set i x) vs = wipe σ vs
  | v :: vs, h => by
    unfold wipe
    by_cases e : i = v
    · subst e
      by_cases hi : i ∈ vs
      · rw [wipe_set hi]
      · have : ∀ vs : List Nat, wipe (σ.set i x) vs = (wipe σ vs).set i (if i ∈ vs then none else x) ∨ wipe (σ.set i x) vs = wipe σ vs := by
          intro vs
          induction vs with
          | nil => left; simp [wipe]
          | cons u us ih =>
            unfold wipe
            rcases ih with ih | ih
            · rw [ih]
              by_cases e : i = u
              · subst e; right; rw [List.set_set]
              · left
                rw [List.set_comm _ _ e]
                congr 1
                simp [e]
            · right; rw [ih]
        rcases this vs with q | q
        · rw [q, List.set_set]
        · rw [q]
    · have hi : i ∈ vs := by
        rcases List.mem_cons.mp h with z | z
        · exact absurd z e
        · exact z
      rw [wipe_set hi]
/-- is: the slots that the target stores -/
def Only1 (is : List Nat) (σ σ' : St) : Prop := ∀ vs : List Nat, (∀ i ∈ is, i ∈ vs) → wipe σ' vs = wipe σ vs
def tG (K : PySem.W.Frag) (is : List Nat) (g : MG) : TG := fun v σ H Q => ∃ O ρ S d ρ', Stt K O H ρ σ S ∧ Rep K O H d v ∧ g d ρ = some ρ' ∧ ∀ σ', Stt K O H ρ' σ' S → Only1 is σ σ' → Q σ' H
def tGs (K : PySem.W.Frag) (is : List Nat) (g : MGs) : TGs := fun v σ H Q => ∃ O ρ S d ρ', Stt K O H ρ σ S ∧ Reps K O H d v ∧ g d ρ = some ρ' ∧ ∀ σ', Stt K O H ρ' σ' S → Only1 is σ σ' → Q σ' H
structure DG (X : Cx) (t : Expr) (is : List Nat) (g : MG) : Prop where
  pg : PG X t (tG X.K is g)
structure DGs (X : Cx) (t : List Expr) (is : List Nat) (g : MGs) : Prop where
  pgs : PGs X t (tGs X.K is g)
theorem PG.imp {X : Cx} {e : Expr} {t t' : TG} (h : PG X e t) (k : ∀ v σ H Q, t' v σ H Q → t v σ H Q) : PG X e t' := ⟨fun pins s σ H v u Q I r q => h.run pins s σ H v u Q I r (k _ _ _ _ q)⟩
theorem PGs.imp {X : Cx} {e : List Expr} {t t' : TGs} (h : PGs X e t) (k : ∀ v σ H Q, t' v σ H Q → t v σ H Q) : PGs X e t' := ⟨fun pins s σ H v u Q I r q => h.run pins s σ H v u Q I r (k _ _ _ _ q)⟩
def gN (i : Nat) : MG := fun d ρ => some (ρ.set i (some d))
theorem dg_name (i : Nat) {x : Str} (hN : X.N.Nodup) (hi : X.N[i]? = some x) (hx : Loc X.env.scope x) (hf : X.fn x = true ∨ X.env.scope.names.lookup x = some .local := by first | exact .inl rfl | exact .inr rfl | assumption) : DG X (.Name x pos) [i] (gN i) :=
  ⟨PG.imp (pg_name hN hi hx hf) fun v σ H Q ⟨O, ρ, S, d, ρ', st, r, e, k⟩ => by
    cases e
    exact k _ ⟨st.wf, st.env.set r i⟩ fun vs hv => wipe_set (hv i (by simp))⟩
def gsNil : MGs := fun ds ρ => match ds with
  | [] => some ρ
  | _ => none
def gsCons (g : MG) (h : MGs) : MGs := fun ds ρ => match ds with
  | d :: r => (g d ρ).bind (h r)
  | _ => none
end
end DE

namespace DE
open PySem PySem.Spec PyProof.Rows L2
section
variable {X : Cx} {W : WX} {a b c : Expr} {f g h : ME} {pos : Pos} {s : Stmt} {ss : List Stmt} {F G : MS} {tf : MT}
theorem dgs_nil : DGs X [] [] gsNil := ⟨PGs.imp pgs_nil fun v σ H Q ⟨O, ρ, S, d, ρ', st, r, e, k⟩ => by
  cases d with
  | nil =>
    cases r
    cases e
    exact ⟨rfl, k _ st fun _ _ => rfl⟩
  | cons _ _ => cases e⟩
theorem dgs_cons {e : Expr} {es : List Expr} {is js : List Nat} {g1 : MG} {g2 : MGs} (h1 : DG X e is g1) (h2 : DGs X es js g2)
    (hs : (assignEach (e :: es) X.env).map (·.2) = assign e X.env :: (assignEach es X.env).map (·.2) := by rfl) : DGs X (e :: es) (is ++ js) (gsCons g1 g2) :=
  ⟨PGs.imp (pgs_cons h1.pg h2.pgs hs) fun v σ H Q ⟨O, ρ, S, d, ρ', st, r, e, k⟩ => by
    cases d with
    | nil => cases e
    | cons d ds =>
      obtain ⟨v, vr, rfl, r1, r2⟩ := r
      have e' : (g1 d ρ).bind (g2 ds) = some ρ' := e
      cases q : g1 d ρ with
      | none => rw [q] at e'; cases e'
      | some ρ1 =>
        rw [q] at e'
        exact ⟨v, vr, rfl, O, ρ, S, d, ρ1, st, r1, q, fun σ1 st1 w1 => ⟨O, ρ1, S, ds, ρ', st1, r2, e', fun σ2 st2 w2 => k σ2 st2 fun vs hv => (w2 vs fun i hi => hv i (List.mem_append_right _ hi)).trans (w1 vs fun i hi => hv i (List.mem_append_left _ hi))⟩⟩⟩
def gT (n : Nat) (g : MGs) : MG := fun d ρ => match d with
  | .tup ds => if ds.length = n then g ds ρ else none
  | _ => none
theorem dg_tup {es : List Expr} {k : Nat} {is : List Nat} {g1 : MGs} {n : Nat} (hc : X.calm = true) (h : DGs X es is g1)
    (hn : (assignEach es X.env).length = n := by rfl) (hst : (assignEach es X.env).findIdx? (·.1) = none := by rfl) : DG X (.Tuple es k pos) is (gT n g1) :=
  ⟨PG.imp (pg_tup hc h.pgs hn hst) fun v σ H Q ⟨O, ρ, S, d, ρ', st, r, e, k⟩ => by
    cases d with
    | tup ds =>
      obtain ⟨a, xs, rfl, h1, h2⟩ := r
      by_cases hl : ds.length = n
      · have e' : (if ds.length = n then g1 ds ρ else none) = some ρ' := e
        rw [if_pos hl] at e'
        exact ⟨a, xs, rfl, sqT_of h1, h2.length ▸ hl, O, ρ, S, ds, ρ', st, h2, e', k⟩
      · have e' : (if ds.length = n then g1 ds ρ else none) = some ρ' := e
        rw [if_neg hl] at e'; cases e'
    | _ => cases e⟩
def sAsg (f : ME) (g : MG) : MS := fun ρ S => (f ρ S).stm ρ fun d S1 => match g d ρ with
  | some ρ1 => .nx ρ1 S1
  | none => .bad
theorem asg_imp {is : List Nat} {g1 : MG} {D' : Ends} {σ : L2.St} {H : Hp} (h : tS X.K W (sAsg f g1) D' σ H) : tAsg (tE X.K W f) (tG X.K is g1) D' σ H := by
  obtain ⟨O, ρ, S, st, h⟩ := h
  refine ⟨O, ρ, S, st, AfterS.seqE h fun d S1 O1 H1 v e1 st1 r1 h1 => ?_⟩
  cases q : g1 d ρ with
  | none => rw [q] at h1; exact h1.elim
  | some ρ1 =>
    rw [q] at h1
    exact ⟨O1, ρ, S1, d, ρ1, st1, r1, q, fun σ' st' _ => h1 O1 H1 σ' .refl st'⟩
theorem ds_asg {tg : Expr} {is : List Nat} {g1 : MG} (he : DE X W a f) (hg : DG X tg is g1) (hs : swapsWithSole [tg] a pos.line X.env = pure false := by rfl) (hw : swappedStores [tg] a X.env = pure none := by rfl) (h1 : (assignEach [tg] X.env).map (·.2) = [assign tg X.env] := by rfl) : DS X W (.Assign [tg] a pos) (sAsg f g1) :=
  ⟨PS.imp (ps_asg he.pe hg.pg hs hw h1) fun _ _ _ h => asg_imp h⟩
theorem ds_set (i : Nat) {x : Str} {pos' : Pos} (hN : X.N.Nodup) (hi : X.N[i]? = some x) (hx : Loc X.env.scope x) (he : DE X W a f) (hs : swapsWith a (some (.Name x pos')) pos.line X.env = pure false := by rfl) (hf : X.fn x = true ∨ X.env.scope.names.lookup x = some .local := by first | exact .inl rfl | exact .inr rfl | assumption) :
    DS X W (.Assign [.Name x pos'] a pos) (sAsg f (gN i)) :=
  ⟨PS.imp (ps_set hN hi hx he.pe hs hf) fun D' σ H ⟨O, ρ, S, st, h⟩ => ⟨O, ρ, S, st, AfterS.seqE h fun d S1 O1 H1 v e1 st1 r1 h1 => h1 O1 H1 _ .refl ⟨st1.wf, st1.env.set r1 i⟩⟩⟩
/-! ### what is walked -/
def Walks (K : PySem.W.Frag) (O : Ow) (H : Hp) (ds : List D) (J : It) : Prop :=
  ∀ O' H' S ρ σ, Ext O H O' H' → Stt K O' H' ρ σ S → ∀ i, (∀ d, ds[i]? = some d → J.go i H' ∧ ∀ x H'', J.yld i H' x H'' → Ext O' H' O' H'' ∧ (∀ ρ' σ' S', Stt K O' H' ρ' σ' S' → Stt K O' H'' ρ' σ' S') ∧ Rep K O' H'' d x) ∧ (i = ds.length → J.stop i H')
def tI (K : PySem.W.Frag) (W : WX) (f : MA) : TI := fun σ H R => ∃ O ρ S, Stt K O H ρ σ S ∧ After K W (Walks K) ρ σ O H R (f ρ S)
structure DI (X : Cx) (W : WX) (tg e : Expr) (f : MA) : Prop where
  pi : PI X tg e (tI X.K W f)
theorem PI.imp {X : Cx} {tg e : Expr} {t t' : TI} (h : PI X tg e t) (k : ∀ σ H Q, t' σ H Q → t σ H Q) : PI X tg e t' := ⟨fun pins s σ H Q I q => h.run pins s σ H Q I (k σ H Q q)⟩
theorem Walks.same {K : PySem.W.Frag} {O : Ow} {H H' : Hp} (e : H' = H) : Ext O H O H' ∧ (∀ ρ' σ' S', Stt K O H ρ' σ' S' → Stt K O H' ρ' σ' S') := by
  subst e; exact ⟨.refl, fun _ _ _ h => h⟩
theorem walks_list {K : PySem.W.Frag} {O : Ow} {H : Hp} {ds : List D} {xs : List V} {a : Addr} (h1 : (O.no a ∧ Rd H a (.lst xs)) ∨ WrL K a xs) (h2 : Reps K O H ds xs) {S0 : Sto} (w0 : WF K O H S0)
    : Walks K O H ds (Itl K a) := by
  intro O' H' S ρ σ e st i
  have hs : SqL K H' a xs := by
    rcases h1 with ⟨n, h1⟩ | h1
    · exact .inl ((e.w w0).rd n h1).2
    · rcases h1 with h1 | h1
      · rcases h1 with h1 | ⟨_, h1⟩ <;> cases h1
      · exact .inr h1
  have r := h2.mono (e.w w0)
  refine ⟨fun d hd => ?_, fun hi => ?_⟩
  · obtain ⟨v, hv, rv⟩ := r.get hd
    refine ⟨⟨xs, v, hs, hv⟩, fun x H'' y => ?_⟩
    obtain ⟨eH, y⟩ := y
    obtain ⟨e1, e2⟩ := Walks.same (K := K) (O := O') eH
    subst eH
    have := y xs hs
    rw [hv] at this
    cases this
    exact ⟨e1, e2, rv⟩
  · exact ⟨xs, hs, by rw [hi, r.length]; exact Nat.le_refl _⟩

theorem walks_tup {K : PySem.W.Frag} {O : Ow} {H : Hp} {ds : List D} {xs : List V} {a : Addr} (h1 : SqT K H a xs) (h2 : Reps K O H ds xs) {S0 : Sto} (w0 : WF K O H S0) : Walks K O H ds (Itt K a) := by
  intro O' H' S ρ σ e st i
  have hs : SqT K H' a xs := (e.w w0).sqT h1
  have r := h2.mono (e.w w0)
  refine ⟨fun d hd => ?_, fun hi => ?_⟩
  · obtain ⟨v, hv, rv⟩ := r.get hd
    refine ⟨⟨xs, v, hs, hv⟩, fun x H'' y => ?_⟩
    obtain ⟨eH, y⟩ := y
    obtain ⟨e1, e2⟩ := Walks.same (K := K) (O := O') eH
    subst eH
    have := y xs hs
    rw [hv] at this
    cases this
    exact ⟨e1, e2, rv⟩
  · exact ⟨xs, hs, by rw [hi, r.length]; exact Nat.le_refl _⟩
def dSigns (s : Str) : List D := s.cps.toList.map fun c => .str ⟨#[c]⟩
theorem walks_str {K : PySem.W.Frag} {O : Ow} {H : Hp} {s : Str} : Walks K O H (dSigns s) (Its s) := by
  intro O' H' S ρ σ e st i
  refine ⟨fun d hd => ?_, fun hi => ?_⟩
  · have hl : i < s.cps.size := by
      have := (List.getElem?_eq_some_iff.mp hd).1
      simpa [dSigns] using this
    refine ⟨hl, fun x H'' y => ?_⟩
    obtain ⟨eH, c, hc, rfl⟩ := y
    obtain ⟨e1, e2⟩ := Walks.same (K := K) (O := O') eH
    refine ⟨e1, e2, ?_⟩
    unfold dSigns at hd
    rw [List.getElem?_map, Array.getElem?_toList, hc] at hd
    cases hd
    rfl
  · show s.cps.size ≤ i
    rw [hi]; simp [dSigns]
def rangeD (lo : Int) (n : Nat) : List D := (List.range n).map fun (i : Nat) => .int (lo + (i : Int))
theorem walks_range {K : PySem.W.Frag} {O : Ow} {H : Hp} {lo : Int} {n : Nat} : Walks K O H (rangeD lo n) (Itr lo n) := by
  intro O' H' S ρ σ e st i
  refine ⟨fun d hd => ?_, fun hi => ?_⟩
  · have hl : i < n := by
      have := (List.getElem?_eq_some_iff.mp hd).1
      simpa [rangeD] using this
    refine ⟨hl, fun x H'' y => ?_⟩
    obtain ⟨eH, rfl⟩ := y
    obtain ⟨e1, e2⟩ := Walks.same (K := K) (O := O') eH
    refine ⟨e1, e2, ?_⟩
    unfold rangeD at hd
    rw [List.getElem?_map, List.getElem?_range hl] at hd
    cases hd
    rfl
  · show n ≤ i
    rw [hi]; simp [rangeD]
/-- a list, a tuple, a text: by what the value turns out to be -/
def iAny (K : PySem.W.Frag) (te : TE) : TI := fun σ H R => te σ H fun v H1 => (∃ a, v = .ref a ∧ (∃ xs, SqL K H1 a xs) ∧ R (Itl K a) H1) ∨ (∃ a, v = .ref a ∧ (∃ xs, SqT K H1 a xs) ∧ R (Itt K a) H1) ∨ ∃ x, v = .str x ∧ R (Its x) H1
theorem pi_any {tg e : Expr} {te : TE} (he : PE X e te) : PI X tg e (iAny X.K te) := by
  refine ⟨fun pins s σ H R I h => ?_⟩
  refine thn (he.run pins s σ H _ I h) fun v s1 ⟨x, H1, I1, r1, q1⟩ => ?_
  rcases q1 with q1 | q1 | q1
  · obtain ⟨a, e, ⟨xs, hq⟩, q⟩ := q1
    subst e
    cases r1
    obtain ⟨its, rv, p, hz⟩ := I1.list hq
    refine wpAny_pyIter_list p.isList ?_
    refine ⟨s1.heap.objs.size, [s1.heap.objs.size], _, _, H1, rfl, I1.kept (t' := s1.toks) fun b o e => Heap.get?_push_of_some _ e, turn_list a _, ⟨_, Heap.get?_push_size _ rfl, rfl, rfl⟩, fun b hb => ?_, q⟩
    have e : b = s1.heap.objs.size := by simpa using hb
    subst e
    exact I1.fpOk (Nat.le_refl _) (I1.hok.fresh (Nat.le_refl _))
  · obtain ⟨a, e, ⟨xs, hq⟩, q⟩ := q1
    subst e
    cases r1
    obtain ⟨its, rv, p, hz⟩ := I1.tuple hq
    refine wpAny_pyIter_tuple (show s1.heap.IsTuple a its.toArray from p) ?_
    refine ⟨s1.heap.objs.size, [s1.heap.objs.size], _, _, H1, rfl, I1.kept (t' := s1.toks) fun b o e => Heap.get?_push_of_some _ e, turn_tuple a _, ⟨_, Heap.get?_push_size _ rfl, rfl, rfl⟩, fun b hb => ?_, q⟩
    have e : b = s1.heap.objs.size := by simpa using hb
    subst e
    exact I1.fpOk (Nat.le_refl _) (I1.hok.fresh (Nat.le_refl _))
  · obtain ⟨y, ex, q⟩ := q1
    subst ex
    obtain ⟨t, rfl⟩ := r1
    cases ha : y.cps.all (· < 128)
    · exact wpAny_pyIter_wide ha (pi_one (tk := s1.toks) I1 _ (turn_str _ y t "str_iterator" (.inr rfl)) ⟨_, Heap.get?_push_size _ rfl, rfl, rfl⟩ q)
    · exact wpAny_pyIter_ascii ha (pi_one (tk := s1.toks) I1 _ (turn_str _ y t "str_ascii_iterator" (.inl rfl)) ⟨_, Heap.get?_push_size _ rfl, rfl, rfl⟩ q)
def itemsOf : D → Option (List D)
  | .lst ds => some ds
  | .scr ds => some ds
  | .tup ds => some ds
  | .str s => some (dSigns s)
  | _ => none
def iOf (f : ME) : MA := fun ρ S => (f ρ S).bind fun d S1 => match itemsOf d with
  | some ds => .ok ds S1
  | none => .bad
theorem di_any {tg : Expr} (ha : DE X W a f) : DI X W tg a (iOf f) := ⟨PI.imp (pi_any ha.pe) fun σ H R ⟨O, ρ, S, st, h⟩ => ⟨O, ρ, S, st, After.seq h fun d S1 O1 H1 v e1 st1 r1 h1 => by
  cases d with
  | lst ds =>
    obtain ⟨p, xs, rfl, h1', h2, h3⟩ := r1
    exact .inl ⟨p, rfl, ⟨xs, .inl (.inl h2)⟩, After.ok h1 st1 (walks_list (.inl ⟨h1', .inl h2⟩) h3 st1.wf)⟩
  | scr ds =>
    obtain ⟨p, xs, rfl, h2, h3⟩ := r1
    refine .inl ⟨p, rfl, ⟨xs, ?_⟩, After.ok h1 st1 (walks_list h2 h3 st1.wf)⟩
    rcases h2 with ⟨_, h2⟩ | h2
    · exact .inl h2
    · rcases h2 with h2 | h2
      · rcases h2 with h2 | ⟨_, h2⟩ <;> cases h2
      · exact .inr h2
  | tup ds =>
    obtain ⟨p, xs, rfl, h2, h3⟩ := r1
    exact .inr (.inl ⟨p, rfl, ⟨xs, sqT_of h2⟩, After.ok h1 st1 (walks_tup (sqT_of h2) h3 st1.wf)⟩)
  | str s => exact .inr (.inr ⟨s, r1, After.ok h1 st1 walks_str⟩)
  | _ => exact h1.elim⟩⟩
def iR1 (f : MA) : MA := fun ρ S => (f ρ S).bind fun ds S1 => match ds with
  | [.int n] => if -(2 ^ 62) ≤ n ∧ n < 2 ^ 62 then .ok (rangeD 0 n.toNat) S1 else .bad
  | _ => .bad
def iR2 (f : MA) : MA := fun ρ S => (f ρ S).bind fun ds S1 => match ds with
  | [.int m, .int n] => if -(2 ^ 62) ≤ m ∧ m < 2 ^ 62 ∧ -(2 ^ 62) ≤ n ∧ n < 2 ^ 62 then .ok (rangeD m (n - m).toNat) S1 else .bad
  | _ => .bad
theorem Reps.one {K : PySem.W.Frag} {O H} {d : D} {vs : List V} (h : Reps K O H [d] vs) : ∃ v, vs = [v] ∧ Rep K O H d v := by
  obtain ⟨v, r, rfl, h1, h2⟩ := h
  cases h2
  exact ⟨v, rfl, h1⟩
theorem Reps.two {K : PySem.W.Frag} {O H} {d e : D} {vs : List V} (h : Reps K O H [d, e] vs) : ∃ v u, vs = [v, u] ∧ Rep K O H d v ∧ Rep K O H e u := by
  obtain ⟨v, r, rfl, h1, h2⟩ := h
  obtain ⟨u, rfl, h3⟩ := h2.one
  exact ⟨v, u, rfl, h1, h3⟩
theorem di_range1 {tg : Expr} {p : Pos} {fa : MA} (hg : Gl X "range") (hm : X.mg "range" = none) (ha : DA X W [a] fa) (hs : starEach [a] X.env = [(false, eval a X.env)] := by rfl) : DI X W tg (.Call (.Name "range" p) [a] [] pos) (iR1 fa) :=
  ⟨PI.imp (pi_range1 hg hm ha.pa hs) fun σ H R ⟨O, ρ, S, st, h⟩ => ⟨O, ρ, S, st, After.seq h fun d S1 O1 H1 v e1 st1 r1 h1 => by
    rcases d with _ | ⟨d, _ | ⟨d2, ds⟩⟩
    · exact h1.elim
    · cases d with
      | int n =>
        obtain ⟨u, rfl, r⟩ := r1.one
        have h1' : After X.K W (Walks X.K) ρ σ O1 H1 R (if -(2 ^ 62) ≤ n ∧ n < 2 ^ 62 then RE.ok (rangeD 0 n.toNat) S1 else .bad) := h1
        split at h1'
        · rename_i hn
          exact ⟨n, by rw [show u = V.int n from r], hn.1, hn.2, After.ok h1' st1 walks_range⟩
        · exact h1'.elim
      | _ => exact h1.elim
    · cases d <;> exact h1.elim⟩⟩
theorem di_range2 {tg : Expr} {p : Pos} {fa : MA} (hg : Gl X "range") (hm : X.mg "range" = none) (ha : DA X W [a, b] fa) (hs : starEach [a, b] X.env = [(false, eval a X.env), (false, eval b X.env)] := by rfl) (hs2 : starEach [b] X.env = [(false, eval b X.env)] := by rfl) : DI X W tg (.Call (.Name "range" p) [a, b] [] pos) (iR2 fa) :=
  ⟨PI.imp (pi_range2 hg hm ha.pa hs hs2) fun σ H R ⟨O, ρ, S, st, h⟩ => ⟨O, ρ, S, st, After.seq h fun d S1 O1 H1 v e1 st1 r1 h1 => by
    rcases d with _ | ⟨d, _ | ⟨d2, _ | ⟨d3, ds⟩⟩⟩
    · exact h1.elim
    · cases d <;> exact h1.elim
    · cases d with
      | int m => cases d2 with
        | int n =>
          obtain ⟨u, w, rfl, r, r'⟩ := r1.two
          have h1' : After X.K W (Walks X.K) ρ σ O1 H1 R (if -(2 ^ 62) ≤ m ∧ m < 2 ^ 62 ∧ -(2 ^ 62) ≤ n ∧ n < 2 ^ 62 then RE.ok (rangeD m (n - m).toNat) S1 else .bad) := h1
          split at h1'
          · rename_i hn
            exact ⟨m, n, by rw [show u = V.int m from r, show w = V.int n from r'], hn, After.ok h1' st1 walks_range⟩
          · exact h1'.elim
        | _ => exact h1.elim
      | _ => exact h1.elim
    · cases d <;> first | exact h1.elim | (cases d2 <;> exact h1.elim)⟩⟩
/-! ### for -/
def loopS (g : MG) (body : MS) : List D → MS
  | [], ρ, S => .nx ρ S
  | d :: ds, ρ, S => match g d ρ with
    | none => .bad
    | some ρ1 => match body ρ1 S with
      | .nx ρ2 S2 => loopS g body ds ρ2 S2
      | .ct ρ2 S2 => loopS g body ds ρ2 S2
      | .bk ρ2 S2 => .nx ρ2 S2
      | r => r
def sFor (i : MA) (g : MG) (body : MS) : MS := fun ρ S => (i ρ S).stm ρ fun ds S1 => loopS g body ds ρ S1
theorem drop_of {α : Type} {l : List α} {i : Nat} {d : α} (h : l[i]? = some d) : l.drop i = d :: l.drop (i + 1) := by
  obtain ⟨hl, e⟩ := List.getElem?_eq_some_iff.mp h
  rw [← e]; exact List.drop_eq_getElem_cons hl
theorem ds_for {tg iter : Expr} {body : List Stmt} {fi : MA} {is : List Nat} {g1 : MG} (hp : PassesOwn (model X.prog X.w) X.A X.env X.xe) (hc : X.calm = true) (hi : DI X W tg iter fi) (hg : DG X tg is g1) (hb : DSs X W body F) (hs : ∀ x, foldedSetIterable iter X.env x = pure x := by intro _; rfl) : DS X W (.For tg iter body [] pos) (sFor fi g1 F) :=
  ⟨PS.imp (ps_for hp hc hi.pi hg.pg hb.pss hs) fun D' σ H ⟨O, ρ, S, st, h⟩ => ⟨O, ρ, S, st, AfterS.seqE h fun ds S1 O1 H1 J e1 st1 w1 h1 => by
    refine ⟨fun i m σ2 H2 => m = ds.length - i ∧ i ≤ ds.length ∧ ∃ O2 ρ2 S2, Ext O1 H1 O2 H2 ∧ Stt X.K O2 H2 ρ2 σ2 S2 ∧ AfterS X.K W D' O2 H2 (loopS g1 F (ds.drop i) ρ2 S2), ⟨_, rfl, Nat.zero_le _, O1, ρ, S1, .refl, st1, h1⟩, ?_⟩
    rintro i m σ2 H2 ⟨rfl, hi, O2, ρ2, S2, e2, st2, h2⟩
    have ww := w1 O2 H2 S2 ρ2 σ2 e2 st2 i
    by_cases hlt : i < ds.length
    · have hd : ds[i]? = some ds[i] := by simp [hlt]
      obtain ⟨go, yl⟩ := ww.1 _ hd
      rw [drop_of hd] at h2
      refine .inr ⟨go, fun σ' H' => ∃ O3 ρ3 S3, Ext O1 H1 O3 H' ∧ Stt X.K O3 H' ρ3 σ' S3 ∧ AfterS X.K W D' O3 H' (loopS g1 F (ds.drop (i + 1)) ρ3 S3), fun σ' H' hn => ⟨_, by omega, rfl, hlt, hn⟩, fun x H' y => ?_⟩
      obtain ⟨e3, st3, r3⟩ := yl x H' y
      have h3 : AfterS X.K W D' O2 H2 (match g1 ds[i] ρ2 with | none => .bad | some ρ1 => match F ρ1 S2 with | .nx ρ2 S2 => loopS g1 F (ds.drop (i + 1)) ρ2 S2 | .ct ρ2 S2 => loopS g1 F (ds.drop (i + 1)) ρ2 S2 | .bk ρ2 S2 => .nx ρ2 S2 | r => r) := h2
      cases q : g1 ds[i] ρ2 with
      | none => rw [q] at h3; exact h3.elim
      | some ρ4 =>
        rw [q] at h3
        refine ⟨O2, ρ2, S2, _, ρ4, st3 _ _ _ st2, r3, q, fun σ4 st4 _ => ⟨O2, ρ4, S2, st4, ?_⟩⟩
        have h4 : AfterS X.K W D' O2 H' (match F ρ4 S2 with | .nx ρ2 S2 => loopS g1 F (ds.drop (i + 1)) ρ2 S2 | .ct ρ2 S2 => loopS g1 F (ds.drop (i + 1)) ρ2 S2 | .bk ρ2 S2 => .nx ρ2 S2 | r => r) := AfterS.mono h3 e3
        cases qf : F ρ4 S2 with
        | nx ρ5 S5 => rw [qf] at h4; exact fun O' H5 σ5 e5 st5 => ⟨O', ρ5, S5, (e2.trans e3).trans e5, st5, AfterS.mono h4 e5⟩
        | ct ρ5 S5 => rw [qf] at h4; exact fun O' H5 σ5 e5 st5 => ⟨O', ρ5, S5, (e2.trans e3).trans e5, st5, AfterS.mono h4 e5⟩
        | bk ρ5 S5 => rw [qf] at h4; exact fun O' H5 σ5 e5 st5 => h4 O' H5 σ5 e5 st5
        | rt d5 S5 => rw [qf] at h4; exact h4
        | exc x5 ρ5 S5 => rw [qf] at h4; exact h4
        | bad => rw [qf] at h4; exact h4
    · have e : i = ds.length := by omega
      have h3 : AfterS X.K W D' O2 H2 (.nx ρ2 S2) := by
        have : ds.drop i = [] := by rw [e]; simp
        rw [this] at h2; exact h2
      exact .inl ⟨ww.2 e, h3 O2 H2 σ2 .refl st2⟩⟩⟩
end
end DE

namespace DE
open PySem PySem.Spec PyProof.Rows L2
section
variable {X : Cx} {W : WX} {a b c : Expr} {f g h : ME} {pos : Pos} {s : Stmt} {ss : List Stmt} {F G : MS} {tf : MT}
/-! ### list comprehensions -/
def wipeD (ρ : DE.Env) : List Nat → DE.Env
  | [] => ρ
  | v :: vs => (wipeD ρ vs).set v none
theorem wipe_env {K : PySem.W.Frag} {O : Ow} {H : Hp} {ρ : DE.Env} {σ : L2.St} (r : REnv K O H ρ σ) : ∀ vs, REnv K O H (wipeD ρ vs) (wipe σ vs)
  | [] => r
  | v :: vs => (wipe_env r vs).unset v
def loopC (own : List Nat) (g : MG) (t : MT) (e : ME) (ρ : DE.Env) : List D → Sto → RE (List D)
  | [], S => .ok [] S
  | d :: ds, S => match g d (wipeD ρ own) with
    | none => .bad
    | some ρ1 => match t ρ1 S with
      | .ok true S1 => (match e ρ1 S1 with
        | .ok v S2 => (loopC own g t e ρ ds S2).bind fun vs S3 => .ok (v :: vs) S3
        | _ => .bad)
      | .ok false S1 => loopC own g t e ρ ds S1
      | _ => .bad
def dLC (own : List Nat) (i : MA) (g : MG) (t : MT) (e : ME) : ME := fun ρ S => (i ρ S).bind fun ds S1 => if ds.length ≤ cap then (loopC own g t e ρ ds S1).bind fun vs S2 => .ok (.lst vs) S2 else .bad
abbrev W0 : WX := fun _ _ _ _ => False
structure DTs (X : Cx) (W : WX) (es : List Expr) (f : MT) : Prop where
  pts : PTs X es (tT X.K W f)
def mYes : MT := fun _ S => .ok true S
theorem dts_nil : DTs X W [] mYes := ⟨⟨fun pins s σ H Q I ⟨O, ρ, S, st, h⟩ => pts_nil.run pins s σ H Q I (After.ok h st rfl)⟩⟩
theorem dts_one (h : DT X W c tf) : DTs X W [c] tf := ⟨pts_one h.pt⟩

theorem wipe_wipe (σ : L2.St) : ∀ vs : List Nat, wipe (wipe σ vs) vs = wipe σ vs := fun vs => by
  apply List.ext_getElem?
  intro i
  by_cases hi : i ∈ vs
  · have : ∀ (τ : L2.St) , (wipe τ vs)[i]? = if i < τ.length then some none else none := fun τ => by
      split
      · rename_i hl
        cases q : (wipe τ vs)[i]? with
        | none => rw [List.getElem?_eq_none_iff, wipe_length] at q; omega
        | some o =>
          cases o with
          | none => rfl
          | some v => exact absurd hi (wipe_some q).2
      · rename_i hl
        rw [List.getElem?_eq_none_iff, wipe_length]; omega
    rw [this, this, wipe_length]
  · rw [wipe_out hi]
theorem lc_imp {own : List (Str × Nat)} {fi : MA} {is : List Nat} {g1 : MG} {ft : MT} (hv : ∀ i ∈ is, i ∈ own.map (·.2)) : ∀ σ H Q, tE X.K W (dLC (own.map (·.2)) fi g1 ft f) σ H Q → tLc (tI X.K W fi) (tG X.K is g1) (tT X.K W0 ft) (tE X.K W0 f) (own.map (·.2)) σ H Q :=
  fun σ H Q ⟨O, ρ, S, st, h⟩ => ⟨O, ρ, S, st, After.seq h fun ds S1 O1 H1 J e1 st1 w1 h1 => by
    intro p hp
    have hl : ds.length ≤ cap := by
      by_cases hl : ds.length ≤ cap
      · exact hl
      · simp only [hl, if_false] at h1; exact h1.elim
    simp only [hl, if_true] at h1
    obtain ⟨eh, sth⟩ := st1.hide (xs := []) hp
    refine ⟨fun i m H2 => m = ds.length - i ∧ i ≤ ds.length ∧ ∃ O2 S2 acc accV, p ∈ O2.u ∧ Ext O1 H1 O2 H2 ∧ Stt X.K O2 H2 ρ σ S2 ∧ H2 p = some (.lst accV) ∧ acc.length ≤ i ∧ Reps X.K O2 H2 acc accV ∧
        After X.K W (Rep X.K) ρ σ O1 H1 Q ((loopC (own.map (·.2)) g1 ft f ρ (ds.drop i) S2).bind fun vs S3 => .ok (.lst (acc ++ vs)) S3), ⟨_, rfl, Nat.zero_le _, _, S1, [], [], List.mem_cons_self, eh, sth, upd_same, Nat.le_refl _, rfl, h1⟩, ?_⟩
    rintro i m H2 ⟨rfl, hi, O2, S2, acc, accV, hu, e2, st2, hp2, ha, r2, h2⟩
    have ww := w1 O2 H2 S2 ρ σ e2 st2 i
    by_cases hlt : i < ds.length
    · have hd : ds[i]? = some ds[i] := by simp [hlt]
      obtain ⟨go, yl⟩ := ww.1 _ hd
      rw [drop_of hd] at h2
      refine .inr ⟨go, fun H' => ∃ O3 S3 acc3 accV3, p ∈ O3.u ∧ Ext O1 H1 O3 H' ∧ Stt X.K O3 H' ρ σ S3 ∧ H' p = some (.lst accV3) ∧ acc3.length ≤ i + 1 ∧ Reps X.K O3 H' acc3 accV3 ∧
        After X.K W (Rep X.K) ρ σ O1 H1 Q ((loopC (own.map (·.2)) g1 ft f ρ (ds.drop (i + 1)) S3).bind fun vs S3 => .ok (.lst (acc3 ++ vs)) S3), fun H' hn => ⟨_, by omega, rfl, hlt, hn⟩, fun x H' y => ?_⟩
      obtain ⟨e3, st3, r3⟩ := yl x H' y
      have st2' := st3 _ _ _ st2
      have hp' : ∀ {O4 H4}, Ext O2 H' O4 H4 → H4 p = some (.lst accV) := fun e4 => (e3.trans e4).keep p _ (st2.wf.hid p hu).1 hp2
      have hu' : ∀ {O4 H4}, Ext O2 H' O4 H4 → p ∈ O4.u := fun e4 => by
        obtain ⟨m, q, _⟩ := e4.preu
        rw [q]; exact List.mem_append_right _ hu
      cases q : g1 ds[i] (wipeD ρ (own.map (·.2))) with
      | none => simp only [loopC, q] at h2; exact h2.elim
      | some ρ1 =>
        refine ⟨O2, wipeD ρ (own.map (·.2)), S2, _, ρ1, ⟨st2'.wf, wipe_env st2'.env _⟩, r3, q, fun σ4 st4 only => ⟨(only _ hv).trans (wipe_wipe _ _), O2, ρ1, S2, st4, ?_⟩⟩
        cases qt : ft ρ1 S2 with
        | bad => simp only [loopC, q, qt] at h2; exact h2.elim
        | exc _ _ => simp only [loopC, q, qt] at h2; exact h2.elim
        | ok bt S5 =>
          intro O5 H5 bb e5 st5 rb
          subst rb
          cases bt with
          | false =>
            refine iteF ⟨O5, S5, acc, accV, hu' e5, e2.trans (e3.trans e5), ⟨st5.wf, st2'.env.mono (e5.w st2'.wf)⟩, hp' e5, by omega, r2.mono ((e3.trans e5).w st2.wf), ?_⟩
            simp only [loopC, q, qt] at h2
            exact h2
          | true =>
            refine iteT ⟨O5, ρ1, S5, st5, ?_⟩
            cases qf : f ρ1 S5 with
            | bad => simp only [loopC, q, qt, qf] at h2; exact h2.elim
            | exc _ _ => simp only [loopC, q, qt, qf] at h2; exact h2.elim
            | ok v6 S6 =>
              intro O6 H6 y6 e6 st6 r6
              have e56 := e5.trans e6
              have st6' : Stt X.K O6 H6 ρ σ S6 := ⟨st6.wf, st2'.env.mono (e56.w st2'.wf)⟩
              have ra : Reps X.K O6 H6 acc accV := r2.mono ((e3.trans e56).w st2.wf)
              have ew := extW_hid (xs := accV ++ [y6]) st6.wf (hu' e56)
              refine ⟨accV, hp' e56, ?_, O6, S6, acc ++ [v6], accV ++ [y6], hu' e56, ?_, st6'.hid (hu' e56), upd_same, by simp; omega, Reps.append (ra.mono ew) ⟨y6, [], rfl, r6.mono ew, rfl⟩, ?_⟩
              · rw [← ra.length]
                exact cap_lt (by omega)
              · have e7 := e2.trans (e3.trans e56)
                refine ⟨e7.pre, e7.preu, fun a o na ho => ?_, fun a u ho => ?_, fun a ho => upd_there a (e7.there a ho)⟩
                · rw [upd_ne (ne_of_none ho hp)]; exact e7.keep a o na ho
                · rw [upd_ne (ne_of_none ho hp)]; exact e7.tups a u ho
              · simp only [loopC, q, qt, qf] at h2
                have e8 : ∀ vs : List D, acc ++ [v6] ++ vs = acc ++ v6 :: vs := fun vs => by simp
                simp only [e8]
                cases ql : loopC (own.map (·.2)) g1 ft f ρ (ds.drop (i + 1)) S6 with
                | ok vs S7 => rw [ql] at h2; exact h2
                | exc _ _ => rw [ql] at h2; exact h2
                | bad => rw [ql] at h2; exact h2
    · have e : i = ds.length := by omega
      refine .inl ⟨ww.2 e, ?_⟩
      have hd : ds.drop i = [] := by rw [e]; simp
      rw [hd] at h2
      have h3 : After X.K W (Rep X.K) ρ σ O1 H1 Q (.ok (.lst (acc ++ [])) S2) := h2
      rw [List.append_nil] at h3
      have hsub : ∀ a ∈ O1.u, a ∈ O2.u := fun a ha => by
        obtain ⟨m, q, _⟩ := e2.preu
        rw [q]; exact List.mem_append_right _ ha
      refine h3 ⟨O2.l, O1.u⟩ H2 _ ⟨e2.pre, ⟨[], rfl, fun _ h => by cases h⟩, e2.keep, e2.tups, e2.there⟩ (st2.bare hsub) ⟨p, accV, rfl, ⟨(st2.wf.hid p hu).1, fun z => st1.wf.there p (.inr z) hp⟩, hp2, r2.mono (extW_bare hsub)⟩⟩
theorem de_lc {elt tg iter : Expr} {ifs : List Expr} {scope : Scope} {own : List (Str × Nat)} {vs : List Nat} {fi : MA} {is : List Nat} {g1 : MG} {ft : MT} (hc : X.calm = true) (hN : X.N.Nodup) (hi : DI X W tg iter fi) (ok : BlkOk X.N X.env.scope scope own)
    (hg : ∀ (s : Shared) (H : Hp) (C : Addr) (cl : List (Str × Addr)) (fp : List Addr), DG (X.blk s H scope (compEnvC scope cl C X.env) fp) tg is g1) (ht : ∀ (s : Shared) (H : Hp) (C : Addr) (cl : List (Str × Addr)) (fp : List Addr), DTs (X.blk s H scope (compEnvC scope cl C X.env) fp) W0 ifs ft)
    (he : ∀ (s : Shared) (H : Hp) (C : Addr) (cl : List (Str × Addr)) (fp : List Addr), DE (X.blk s H scope (compEnvC scope cl C X.env) fp) W0 elt f) (hv : ∀ i ∈ is, i ∈ vs) (hvs : vs = own.map (·.2) := by rfl) (hs : ∀ x, foldedSetIterable iter X.env x = pure x := by intro _; rfl) :
    DE X W (.ListComp elt [⟨tg, iter, ifs, 0⟩] scope pos) (dLC vs fi g1 ft f) := by
  subst hvs
  exact ⟨PE.imp (pe_lc (g := tG X.K is g1) (tt := tT X.K W0 ft) (te := tE X.K W0 f) hc hN hi.pi ok (fun s H C cl fp => (hg s H C cl fp).pg) (fun s H C cl fp => (ht s H C cl fp).pts) (fun s H C cl fp => (he s H C cl fp).pe) hs) fun σ H Q h => lc_imp hv σ H Q h⟩
theorem ds_setLc (i : Nat) {y : Str} {py spos : Pos} {elt tg iter : Expr} {ifs : List Expr} {scope : Scope} {own : List (Str × Nat)} {vs : List Nat} {fi : MA} {is : List Nat} {g1 : MG} {ft : MT} (hc : X.calm = true) (hN : X.N.Nodup) (hy : X.N[i]? = some y) (hyl : X.env.scope.names.lookup y = some .local)
    (hsw : swapsWith (.ListComp elt [⟨tg, iter, ifs, 0⟩] scope pos) (some (.Name y py)) spos.line X.env = pure true) (hi : DI X W tg iter fi) (ok : BlkOk X.N X.env.scope scope own)
    (hg : ∀ (s : Shared) (H : Hp) (C : Addr) (cl : List (Str × Addr)) (fp : List Addr), DG (X.blk s H scope (compEnvC scope cl C X.env) fp) tg is g1) (ht : ∀ (s : Shared) (H : Hp) (C : Addr) (cl : List (Str × Addr)) (fp : List Addr), DTs (X.blk s H scope (compEnvC scope cl C X.env) fp) W0 ifs ft)
    (he : ∀ (s : Shared) (H : Hp) (C : Addr) (cl : List (Str × Addr)) (fp : List Addr), DE (X.blk s H scope (compEnvC scope cl C X.env) fp) W0 elt f) (hv : ∀ i ∈ is, i ∈ vs) (hvs : vs = own.map (·.2) := by rfl) (hs : ∀ x, foldedSetIterable iter X.env x = pure x := by intro _; rfl) :
    DS X W (.Assign [.Name y py] (.ListComp elt [⟨tg, iter, ifs, 0⟩] scope pos) spos) (sAsg (dLC vs fi g1 ft f) (gN i)) := by
  subst hvs
  exact ⟨PS.imp (ps_setLc (g := tG X.K is g1) (tt := tT X.K W0 ft) (te := tE X.K W0 f) hc hN hy hyl hsw hi.pi ok (fun s H C cl fp => (hg s H C cl fp).pg) (fun s H C cl fp => (ht s H C cl fp).pts) (fun s H C cl fp => (he s H C cl fp).pe) hs) fun D' σ H ⟨O, ρ, S, st, h⟩ =>
    lc_imp hv σ H _ ⟨O, ρ, S, st, AfterS.seqE h fun d S1 O1 H1 v e1 st1 r1 h1 => h1 O1 H1 _ .refl ⟨st1.wf, st1.env.set r1 i⟩⟩⟩
end
/-! ### defs and their calls -/
def AfterF (K : PySem.W.Frag) (O : Ow) (H : Hp) (Q : VK) (E : XK) : RE D → Prop
  | .ok d S' => ∀ O' H' v, Ext O H O' H' → WF K O' H' S' → Rep K O' H' d v → Q v H'
  | .exc x S' => ∀ O' H' cls dx, Ext O H O' H' → WF K O' H' S' → RepX K O' H' x cls dx → E cls dx H'
  | .bad => False
abbrev FD := List D → Sto → RE D
def spD (K : PySem.W.Frag) (n : Nat) (F : FD) : Sp := fun vs H Q E => ∃ O S ds, WF K O H S ∧ Reps K O H ds vs ∧ ds.length = n ∧ AfterF K O H Q E (F ds S)
def fnD (n : Nat) (B : MS) : FD := fun ds S => match B (ds.map some ++ List.replicate (n - ds.length) none) S with
  | .nx _ S' => .ok .non S'
  | .rt d S' => .ok d S'
  | .exc x _ S' => .exc x S'
  | _ => .bad
abbrev WD (E : XK) : WX := fun cls d _ H => E cls d H
section
variable {P : Program} {w : World} {K : PySem.W.Frag} {mg : Str → Option Value} {base : Heap} {x qual : Str} {params : Arguments} {body : List Stmt} {scope : Scope} {dvs : List V} {kws : List (Str × V)} {f : Addr} {fd : FuncData} {N ps : List Str} {k : Nat} {B : MS}
/-- a def's context -/
abbrev XOf (P : Program) (w : World) (K : PySem.W.Frag) (mg : Str → Option Value) (base : Heap) (N : List Str) (qual : Str) (scope : Scope) (f : Addr) (cdv : Value) (A : Around) (outer : List PySem.Env) (s : Shared) (H : Hp) (E : XK) : Cx :=
  cxOf (L2.CX P w) P w K mg base N qual scope f cdv A outer s H E
theorem fn_data (F : FunD K x qual params body scope dvs kws f fd) (S : FnScope N ps scope)
    (hbody : ∀ (cdv : Value) (A : Around) (outer : List PySem.Env) (s : Shared) (H : Hp) (E : XK), Room k (A.deeper (envOfC qual scope s.heap.objs.size f cdv)) → DSs (XOf P w K mg base N qual scope f cdv A outer s H E) (WD E) body B) :
    FnOk P w K mg base (L2.CX P w) (k + 1) f fd ps (spD K ps.length (fnD N.length B)) := by
  refine F.ok S (fun vs H Q E h => ?_) (fun cdv A outer s H vs Q E hr h => ?_)
  · obtain ⟨O, S', ds, _, r, hl, _⟩ := h
    rw [← r.length]; exact hl
  · obtain ⟨O, S', ds, wf, r, hl, h⟩ := h
    refine ⟨_, (hbody cdv A outer s H E hr).pss, O, _, S', ⟨wf, by rw [L2.start, ← r.length]; exact (REnv.of r).app (N.length - ds.length)⟩, ?_⟩
    · unfold fnD at h
      cases q : B (ds.map some ++ List.replicate (N.length - ds.length) none) S' with
      | nx ρ1 S1 => rw [q] at h; exact fun O' H' σ' e st => h O' H' .non e st.wf rfl
      | rt d S1 => rw [q] at h; exact fun O' H' v e st rd => h O' H' v e st rd
      | exc x ρ1 S1 => rw [q] at h; exact fun O' H' σ' cls dx e st rx => h O' H' cls dx e st.wf rx
      | bk _ _ => rw [q] at h; exact h.elim
      | ct _ _ => rw [q] at h; exact h.elim
      | bad => rw [q] at h; exact h.elim
end
section
variable {X : Cx} {W : WX} {x : Str} {p pos : Pos} {e : Expr} {es : List Expr} {k n : Nat} {f : Addr} {fd : FuncData} {ps : List Str} {dvs : List V} {dsv : List Value} {F : FD} {fa : MA}
/-- a call; dd: what the defaults are -/
def dCall (n : Nat) (F : FD) (dd : List D) (fa : MA) : ME := fun ρ S => (fa ρ S).bind fun ds S1 => if (ds ++ dd).length = n then F (ds ++ dd) S1 else .bad
theorem call_imp {E : L2.St → XK} {dd : List D} (hE : ∀ σ cls dx H, W cls dx σ H → E σ cls dx H) (hdd : ∀ O H, Reps X.K O H dd dvs) {σ : L2.St} {H : Hp} {Q : VK} (h : tE X.K W (dCall n F dd fa) σ H Q) : tCallSD (spD X.K n F) dvs E (tA X.K W fa) σ H Q := by
  obtain ⟨O, ρ, S, st, h⟩ := h
  refine ⟨O, ρ, S, st, After.seq h fun ds S1 O1 H1 vs e1 st1 r1 h1 => ?_⟩
  by_cases hl : (ds ++ dd).length = n
  · simp only [hl, if_true] at h1
    refine ⟨O1, S1, ds ++ dd, st1.wf, r1.append (hdd O1 H1), hl, ?_⟩
    cases q : F (ds ++ dd) S1 with
    | ok d S' => rw [q] at h1; exact fun O' H' v e wf r => h1 O' H' v e ⟨wf, st1.env.mono (e.w st1.wf)⟩ r
    | exc y S' => rw [q] at h1; exact fun O' H' cls dx e wf r => hE _ _ _ _ (h1 O' H' cls dx e ⟨wf, st1.env.mono (e.w st1.wf)⟩ r)
    | bad => rw [q] at h1; exact h1
  · simp only [hl, if_false] at h1; exact h1.elim
theorem de_call {dd : List D} (G : FnOk X.prog X.w X.K X.mg X.base (L2.CX X.prog X.w) k f fd ps (spD X.K n F)) (hr : Room k X.A) (hg : Gl X x) (hm : X.mg x = some (.ref f)) (hk : PySem.W.keepIn X.K (.ref f) = true) (hb : Binds X.K fd ps dsv) (hd : Vals dvs dsv)
    (hdd : ∀ O H, Reps X.K O H dd dvs) (tk : Takes X W) (ha : DA X W (e :: es) fa) (hdb : (x == ("__debug__" : Str)) = false := by decide) (he : starEach (e :: es) X.env = (false, eval e X.env) :: starEach es X.env := by rfl) (hpl : (backTo pos (starEach es X.env)).any (·.1) = false := by rfl) :
    DE X W (.Call (.Name x p) (e :: es) [] pos) (dCall n F dd fa) :=
  ⟨PE.imp (pe_callSD G hr hg hm hk hb hd (fun σ => passAt tk σ) ha.pa hdb he hpl) fun _ _ _ h => call_imp (fun _ _ _ _ q => q) hdd h⟩
/-- built-ins -/
def CaD (X : Cx) (r : List V → Hp → VK → Prop) (op : FD) : Prop :=
  ∀ (W : WX) (ρ : DE.Env) (σ : L2.St) (O : Ow) (H : Hp) (S : Sto) (vs : List V) (ds : List D) (Q : VK), Stt X.K O H ρ σ S → Reps X.K O H ds vs → After X.K W (Rep X.K) ρ σ O H Q (op ds S) → r vs H Q
def dBlt (op : FD) (fa : MA) : ME := fun ρ S => (fa ρ S).bind fun ds S1 => op ds S1
theorem blt_imp {r : List V → Hp → VK → Prop} {op : FD} (ho : CaD X r op) {σ : L2.St} {H : Hp} {Q : VK} (h : tE X.K W (dBlt op fa) σ H Q) : tCB r (tA X.K W fa) σ H Q := by
  obtain ⟨O, ρ, S, st, h⟩ := h
  exact ⟨O, ρ, S, st, After.seq h fun ds S1 O1 H1 vs e1 st1 r1 h1 => ho W ρ σ O1 H1 S1 vs ds Q st1 r1 h1⟩
theorem de_blt {id : String} {r : List V → Hp → VK → Prop} {op : FD} (hc : CallR X (.builtin id) r) (ho : CaD X r op) (hg : Gl X x) (hm : X.mg x = none) (hv : bootBuiltins x = some (.builtin id)) (ha : DA X W (e :: es) fa) (hn : x ≠ "__name__" := by decide) (hdb : (x == ("__debug__" : Str)) = false := by decide)
    (he : starEach (e :: es) X.env = (false, eval e X.env) :: starEach es X.env := by rfl) (hpl : (backTo pos (starEach es X.env)).any (·.1) = false := by rfl) : DE X W (.Call (.Name x p) (e :: es) [] pos) (dBlt op fa) :=
  ⟨PE.imp (pe_callB hc hg hm hv ha.pa hn hdb he hpl) fun _ _ _ h => blt_imp ho h⟩
theorem de_bty {T : String} {r : List V → Hp → VK → Prop} {op : FD} (hc : CallR X (.type T) r) (ho : CaD X r op) (hg : Gl X x) (hm : X.mg x = none) (hv : bootBuiltins x = some (.type T)) (ha : DA X W (e :: es) fa) (hn : x ≠ "__name__" := by decide) (hdb : (x == ("__debug__" : Str)) = false := by decide)
    (he : starEach (e :: es) X.env = (false, eval e X.env) :: starEach es X.env := by rfl) (hpl : (backTo pos (starEach es X.env)).any (·.1) = false := by rfl) : DE X W (.Call (.Name x p) (e :: es) [] pos) (dBlt op fa) :=
  ⟨PE.imp (pe_callTy hc hg hm hv ha.pa hn hdb he hpl) fun _ _ _ h => blt_imp ho h⟩
end
end DE

set_option maxHeartbeats 4000000
namespace DE
open PySem PySem.Spec PyProof.Rows L2
def RD (K : PySem.W.Frag) (op : D → D → Sto → RE D) : R2 := fun x y H Q => ∃ W ρ σ O S d e, Stt K O H ρ σ S ∧ Rep K O H d x ∧ Rep K O H e y ∧ After K W (Rep K) ρ σ O H Q (op d e S)
theorem opD_RD {X : Cx} {op : D → D → Sto → RE D} : OpD X (RD X.K op) op := fun W ρ σ O H S x y d e Q st r1 r2 h => ⟨W, ρ, σ, O, S, d, e, st, r1, r2, h⟩
section
variable {X : Cx} {W : WX} {a b c : Expr} {f g h : ME} {pos : Pos}
theorem de_bin {op : Operator} {o : D → D → Sto → RE D} (hr : OpR X (binaryOp op) (RD X.K o)) (ha : DE X W a f) (hb : DE X W b g) : DE X W (.BinOp a op b pos) (dBin o f g) := de_op hr opD_RD ha hb
theorem de_rel {op : CmpOp} {o : D → D → Sto → RE D} (hr : OpR X (compareOp op) (RD X.K o)) (ha : DE X W a f) (hb : DE X W b g) (hm : behindInMarks op b = false := by first | exact nomark _ | rfl) : DE X W (.Compare a [op] [b] pos) (dBin o f g) := de_cmp hr opD_RD ha hb hm
theorem dt_rel {op : CmpOp} {o : D → D → Sto → RE D} (hr : OpR X (compareOp op) (RD X.K o)) (ha : DE X W a f) (hb : DE X W b g) (hm : behindInMarks op b = false := by first | exact nomark _ | rfl) : DT X W (.Compare a [op] [b] pos) (dTest (dBin o f g)) := dt_cmp hr opD_RD ha hb hm
/-! ### arithmetic -/
def oAdd : D → D → Sto → RE D
  | .int i, .int j, S => .ok (.int (i + j)) S
  | .str x, .str y, S => if x.length + y.length ≤ cap then .ok (.str (x ++ y)) S else .bad
  | .lst xs, .lst ys, S => if xs.length + ys.length ≤ cap then .ok (.lst (xs ++ ys)) S else .bad
  | .tup xs, .tup ys, S => if xs.length + ys.length ≤ cap then .ok (.tup (xs ++ ys)) S else .bad
  | _, _, _ => .bad
theorem ite_ok {α : Type} {c : Prop} [Decidable c] {r : RE α} {P : RE α → Prop} (h : P (if c then r else .bad)) (nb : ¬ P .bad) : c ∧ P r := by
  by_cases hc : c
  · rw [if_pos hc] at h; exact ⟨hc, h⟩
  · rw [if_neg hc] at h; exact absurd h nb
theorem After.ite {α β : Type} {K : PySem.W.Frag} {W : WX} {ρ : DE.Env} {σ : L2.St} {O : Ow} {H : Hp} {Rl : Ow → Hp → α → β → Prop} {Q : β → Hp → Prop} {c : Prop} [Decidable c] {r : RE α} (h : After K W Rl ρ σ O H Q (if c then r else .bad)) : c ∧ After K W Rl ρ σ O H Q r :=
  ite_ok (P := fun r => After K W Rl ρ σ O H Q r) h fun z => z
theorem op_oAdd : OpR X (binaryOp .Add) (RD X.K oAdd) := by
  intro pins s σ H x y v u Q I rx ry ⟨W, ρ, σ', O, S, d, e, st, r1, r2, h⟩
  cases d <;> cases e <;> try exact h.elim
  · rename_i i j
    exact op_add pins s σ H x y v u Q I rx ry ⟨i, j, r1, r2, After.ok h st rfl⟩
  · rename_i i j
    obtain ⟨hc, h⟩ := After.ite h
    exact op_add_str pins s σ H x y v u Q I rx ry ⟨i, j, r1, r2, cap_line hc, After.ok h st rfl⟩
  · rename_i ds es
    obtain ⟨hc, h⟩ := After.ite h
    obtain ⟨p, xs, rfl, h1, q1⟩ := r1
    obtain ⟨q, ys, rfl, h2, q2⟩ := r2
    refine op_catA pins s σ H _ _ v u Q I rx ry ⟨p, q, xs, ys, rfl, rfl, sqT_of h1, sqT_of h2, by rw [← q1.length, ← q2.length]; exact cap_line hc, fun e => ?_, fun _ e => ?_, fun _ _ t ht => ?_⟩
    · subst e
      cases ds with
      | nil => exact After.ok h st ⟨q, ys, rfl, h2, q2⟩
      | cons _ _ => obtain ⟨_, _, e, _⟩ := q1; cases e
    · subst e
      cases es with
      | nil => exact After.ok h st ⟨p, xs, rfl, h1, by rw [List.append_nil]; exact q1⟩
      | cons _ _ => obtain ⟨_, _, e, _⟩ := q2; cases e
    · obtain ⟨e2, st2⟩ := st.new (o := .tup (xs ++ ys)) ht
      exact h O _ _ e2 st2 ⟨t, _, rfl, .inl upd_same, (q1.mono (e2.w st.wf)).append (q2.mono (e2.w st.wf))⟩
  · rename_i ds es
    obtain ⟨hc, h⟩ := After.ite h
    obtain ⟨p, xs, rfl, n1, h1, q1⟩ := r1
    obtain ⟨q, ys, rfl, n2, h2, q2⟩ := r2
    refine op_cat pins s σ H _ _ v u Q I rx ry ⟨p, q, xs, ys, rfl, rfl, h1, h2, by rw [← q1.length, ← q2.length]; exact cap_line hc, fun t ht => ?_⟩
    obtain ⟨e2, st2⟩ := st.new (o := .lst (xs ++ ys)) ht
    exact h O _ _ e2 st2 ⟨t, _, rfl, st.no ht, upd_same, (q1.mono (e2.w st.wf)).append (q2.mono (e2.w st.wf))⟩
/-- ints -/
def oI (C : Int → Int → Bool) (g : Int → Int → D) : D → D → Sto → RE D
  | .int i, .int j, S => if C i j = true then .ok (g i j) S else .bad
  | _, _, _ => .bad
theorem op_I {f : Value → Value → Sem Value} {P : Int → Int → Prop} {gv : Int → Int → V} {C : Int → Int → Bool} {gd : Int → Int → D} (hr : OpR X f (rI P gv)) (hC : ∀ i j, C i j = true → P i j) (hg : ∀ O H i j, Rep X.K O H (gd i j) (gv i j)) : OpR X f (RD X.K (oI C gd)) := by
  intro pins s σ H x y v u Q I rx ry ⟨W, ρ, σ', O, S, d, e, st, r1, r2, h⟩
  cases d <;> cases e <;> try exact h.elim
  rename_i i j
  obtain ⟨hc, h⟩ := After.ite h
  exact hr pins s σ H x y v u Q I rx ry ⟨i, j, r1, r2, hC i j hc, After.ok h st (hg _ _ _ _)⟩
theorem op_I0 {f : Value → Value → Sem Value} {gv : Int → Int → V} {gd : Int → Int → D} (hr : OpR X f (rI0 gv)) (hg : ∀ O H i j, Rep X.K O H (gd i j) (gv i j)) : OpR X f (RD X.K (oI (fun _ _ => true) gd)) := by
  intro pins s σ H x y v u Q I rx ry ⟨W, ρ, σ', O, S, d, e, st, r1, r2, h⟩
  cases d <;> cases e <;> try exact h.elim
  rename_i i j
  have h' : After X.K W (Rep X.K) ρ σ' O H Q (.ok (gd i j) S) := h
  exact hr pins s σ H x y v u Q I rx ry ⟨i, j, r1, r2, After.ok h' st (hg _ _ _ _)⟩
def oSub := oI (fun _ _ => true) fun i j => .int (i - j)
theorem op_oSub : OpR X (binaryOp .Sub) (RD X.K oSub) := op_I0 op_sub fun _ _ _ _ => rfl
def lim64 : Int := 18446744073709551616
def oFDiv := oI (fun i j => decide (0 < j ∧ j < 1073741824)) fun i j => .int (i / j)
theorem op_oFDiv : OpR X (binaryOp .FloorDiv) (RD X.K oFDiv) := op_I op_fdiv (fun i j h => by unfold CDiv; simpa using h) fun _ _ _ _ => rfl
def oMod := oI (fun i j => decide (0 < j)) fun i j => .int (i % j)
theorem op_oMod : OpR X (binaryOp .Mod) (RD X.K oMod) := op_I op_mod (fun i j h => of_decide_eq_true h) fun _ _ _ _ => rfl
def oPow := oI (fun i j => decide (0 ≤ j ∧ j ≤ 1000000 ∧ i.natAbs < lim64.toNat)) fun i j => .int (i ^ j.toNat)
theorem op_oPow : OpR X (binaryOp .Pow) (RD X.K oPow) := op_I op_pow (fun i j h => by have := of_decide_eq_true h; refine ⟨this.1, this.2.1, ?_⟩; simpa [lim64] using this.2.2) fun _ _ _ _ => rfl
/-- a text so many times -/
def mulS (x : Str) (n : Int) : Str := ⟨(List.replicate n.toNat x.cps.toList).flatten.toArray⟩
theorem fold_app (x : Array Nat) : ∀ (n : Nat) (acc : Array Nat), (List.replicate n x).foldl (· ++ ·) acc = acc ++ (List.replicate n x.toList).flatten.toArray
  | 0, acc => by simp
  | n + 1, acc => by
    rw [List.replicate_succ, List.foldl_cons, fold_app x n, List.replicate_succ, List.flatten_cons, Array.append_assoc]
    congr 1
    apply Array.ext'
    simp
theorem mulS_eq (x : Str) (n : Int) : (⟨(List.replicate n.toNat x.cps).foldl (· ++ ·) #[]⟩ : Str) = mulS x n := by
  unfold mulS
  rw [fold_app]
  simp
theorem mulS_len (x : Str) (n : Int) : (mulS x n).length = n.toNat * x.length := by
  show (((List.replicate n.toNat x.cps.toList).flatten.toArray)).size = n.toNat * x.cps.size
  rw [List.size_toArray]
  generalize n.toNat = m
  induction m with
  | zero => simp
  | succ m ih => rw [List.replicate_succ, List.flatten_cons, List.length_append, ih, Array.length_toList]; rw [Nat.succ_mul]; omega
theorem str_ext {x y : Str} (h : x.cps.toList = y.cps.toList) : x = y := by
  obtain ⟨a⟩ := x
  obtain ⟨b⟩ := y
  have : a = b := Array.ext' h
  rw [this]
theorem mul_text {prog : Program} {w : World} {A : Around} {E : Value → Shared → Prop} {s : Shared} {x : Str} {n : Int} {t u : Tok} {Q : Value → Shared → Prop} (h2 : n ≤ 100000) (h0 : -100000 ≤ n) (h3 : n.toNat * x.length ≤ 100000) (h4 : x.length ≤ 100000)
    (h : ∀ tk tk', Q (.str (mulS x n) tk) { s with toks := tk' }) : wpAny (model prog w) A (binaryOp .Mult (.str x t) (.int n u)) Q E s := by
  refine PySem.P.mul_str (by
      have a : ¬ n < -(2 ^ 63 : Int) := by omega
      have b : ¬ n ≥ 2 ^ 63 := by omega
      rw [decide_eq_false a, decide_eq_false b]; rfl) (fun h1 _ => ?_) (fun _ _ => ?_) ?_
  · have h5 : (x.length : Int) * n ≤ 100000 := by
      have : ((n.toNat * x.length : Nat) : Int) ≤ 100000 := by omega
      rw [Int.natCast_mul, Int.toNat_of_nonneg (by omega)] at this
      rw [Int.mul_comm]; exact this
    intro hgt
    have : (x.length : Int) ≤ (2 ^ 63 - 1) / n := by
      rw [Int.le_ediv_iff_mul_le (by omega)]
      omega
    omega
  · show decide (x.length * n.toNat > sizeLine) = false
    rw [Nat.mul_comm]
    exact decide_eq_false (Nat.not_lt.mpr (Nat.le_trans h3 (by decide)))
  · by_cases hn : n < 1
    · rw [if_pos hn]
      have e : mulS x n = Str.empty := by
        have : n.toNat = 0 := by omega
        unfold mulS; rw [this]; rfl
      have := h s.toks (s.toks + 1)
      rw [e] at this
      exact ⟨by decide, this⟩
    · rw [if_neg hn]
      by_cases hq : (n == 1 || x.length == 0) = true
      · rw [if_pos hq]
        have e : mulS x n = x := by
          rcases Bool.or_eq_true _ _ ▸ hq with z | z
          · have : n = 1 := by simpa using z
            subst this
            apply str_ext
            simp [mulS]
          · have z : x.cps.size = 0 := (show x.length = 0 by simpa using z)
            have z' : x.cps = #[] := by simpa using z
            apply str_ext
            unfold mulS
            rw [z']
            simp
        have := h t s.toks
        rw [e] at this
        exact this
      · rw [if_neg hq, mulS_eq]
        exact ⟨by rw [mulS_len]; exact Nat.le_trans h3 (by decide), h _ _⟩
def oMul : D → D → Sto → RE D
  | .int i, .int j, S => if (-lim64 < i ∧ i < lim64) ∨ (-lim64 < j ∧ j < lim64) then .ok (.int (i * j)) S else .bad
  | .str x, .int n, S => if n ≤ 100000 ∧ -100000 ≤ n ∧ n.toNat * x.length ≤ 100000 ∧ x.length ≤ 100000 then .ok (.str (mulS x n)) S else .bad
  | .lst xs, .int n, S => if -100000 ≤ n ∧ n ≤ 100000 ∧ xs.length * n.toNat ≤ cap then .ok (.lst (List.replicate n.toNat xs).flatten) S else .bad
  | _, _, _ => .bad
theorem Reps.rep {K : PySem.W.Frag} {O : Ow} {H : Hp} {ds : List D} {vs : List V} (r : Reps K O H ds vs) : ∀ n, Reps K O H (List.replicate n ds).flatten (List.replicate n vs).flatten
  | 0 => rfl
  | n + 1 => by
    rw [List.replicate_succ, List.flatten_cons, List.replicate_succ, List.flatten_cons]
    exact r.append (Reps.rep r n)
theorem op_oMul : OpR X (binaryOp .Mult) (RD X.K oMul) := by
  intro pins s σ H x y v u Q I rx ry ⟨W, ρ, σ', O, S, d, e, st, r1, r2, h⟩
  cases d <;> cases e <;> try exact h.elim
  · rename_i i j
    obtain ⟨hc, h⟩ := After.ite h
    exact op_mul pins s σ H x y v u Q I rx ry ⟨i, j, r1, r2, hc, After.ok h st rfl⟩
  · rename_i z n
    obtain ⟨hc, h⟩ := After.ite h
    cases (show x = V.str z from r1)
    cases (show y = V.int n from r2)
    obtain ⟨t, rfl⟩ := rx
    obtain ⟨t', rfl⟩ := ry
    exact mul_text hc.1 hc.2.1 hc.2.2.1 hc.2.2.2 fun tk tk' => ⟨.str _, H, I.tok tk', ⟨_, rfl⟩, After.ok h st rfl⟩
  · rename_i ds n
    obtain ⟨hc, h⟩ := After.ite h
    obtain ⟨p, xs, rfl, n1, h1, q1⟩ := r1
    refine op_rep pins s σ H _ _ v u Q I rx ry ⟨p, n, xs, rfl, r2, h1, by omega, by omega, by rw [← q1.length]; exact cap_line hc.2.2, fun t ht => ?_⟩
    obtain ⟨e2, st2⟩ := st.new (o := .lst (List.replicate n.toNat xs).flatten) ht
    exact h O _ _ e2 st2 ⟨t, _, rfl, st.no ht, upd_same, (q1.mono (e2.w st.wf)).rep _⟩
/-! ### comparisons -/
def strLt (x y : Str) : Bool := decide (x.cps.toList < y.cps.toList)
def oLt : D → D → Sto → RE D
  | .int i, .int j, S => .ok (.bl (decide (i < j))) S
  | .str x, .str y, S => .ok (.bl (strLt x y)) S
  | _, _, _ => .bad
theorem op_oLt : OpR X (compareOp .Lt) (RD X.K oLt) := by
  intro pins s σ H x y v u Q I rx ry ⟨W, ρ, σ', O, S, d, e, st, r1, r2, h⟩
  cases d <;> cases e <;> try exact h.elim
  · rename_i i j
    exact op_lt pins s σ H x y v u Q I rx ry ⟨i, j, r1, r2, After.ok h st rfl⟩
  · rename_i i j
    exact op_lt_str pins s σ H x y v u Q I rx ry ⟨i, j, r1, r2, After.ok h st rfl⟩
def oGt : D → D → Sto → RE D
  | .int i, .int j, S => .ok (.bl (decide (j < i))) S
  | .str x, .str y, S => .ok (.bl (strLt y x)) S
  | _, _, _ => .bad
def oLe : D → D → Sto → RE D
  | .int i, .int j, S => .ok (.bl (decide (i ≤ j))) S
  | .str x, .str y, S => .ok (.bl (!strLt y x)) S
  | _, _, _ => .bad
def oGe : D → D → Sto → RE D
  | .int i, .int j, S => .ok (.bl (decide (j ≤ i))) S
  | .str x, .str y, S => .ok (.bl (!strLt x y)) S
  | _, _, _ => .bad
theorem op_oGt : OpR X (compareOp .Gt) (RD X.K oGt) := by
  intro pins s σ H x y v u Q I rx ry ⟨W, ρ, σ', O, S, d, e, st, r1, r2, h⟩
  cases d <;> cases e <;> try exact h.elim
  · rename_i i j
    exact op_gt pins s σ H x y v u Q I rx ry ⟨i, j, r1, r2, After.ok h st rfl⟩
  · rename_i i j
    exact op_gt_str pins s σ H x y v u Q I rx ry ⟨i, j, r1, r2, After.ok h st rfl⟩
theorem dec_not {a b : List Nat} : decide (a ≤ b) = !decide (b < a) := by
  by_cases h : b < a
  · rw [decide_eq_true h, decide_eq_false (fun z => z h)]; rfl
  · rw [decide_eq_false h, decide_eq_true (show a ≤ b from h)]; rfl
theorem op_oLe : OpR X (compareOp .LtE) (RD X.K oLe) := by
  intro pins s σ H x y v u Q I rx ry ⟨W, ρ, σ', O, S, d, e, st, r1, r2, h⟩
  cases d <;> cases e <;> try exact h.elim
  · rename_i i j
    exact op_le pins s σ H x y v u Q I rx ry ⟨i, j, r1, r2, After.ok h st rfl⟩
  · rename_i i j
    exact op_le_str pins s σ H x y v u Q I rx ry ⟨i, j, r1, r2, by first | exact After.ok h st rfl | (have := After.ok h st (v := .bl _) rfl; simpa [strLt, dec_not] using this)⟩
theorem op_oGe : OpR X (compareOp .GtE) (RD X.K oGe) := by
  intro pins s σ H x y v u Q I rx ry ⟨W, ρ, σ', O, S, d, e, st, r1, r2, h⟩
  cases d <;> cases e <;> try exact h.elim
  · rename_i i j
    exact op_ge pins s σ H x y v u Q I rx ry ⟨i, j, r1, r2, After.ok h st rfl⟩
  · rename_i i j
    exact op_ge_str pins s σ H x y v u Q I rx ry ⟨i, j, r1, r2, by first | exact After.ok h st rfl | (have := After.ok h st (v := .bl _) rfl; simpa [strLt, dec_not] using this)⟩
/-! equality of data -/
mutual
def toPy : D → Option PyData
  | .non => some .none
  | .bl b => some (.bool b)
  | .int i => some (.int i)
  | .str x => some (.str x)
  | .tup ds => (toPys ds).map .tuple
  | .lst ds => (toPys ds).map .list
  | _ => none
def toPys : List D → Option (List PyData)
  | [] => some []
  | d :: ds => match toPy d, toPys ds with
    | some p, some ps => some (p :: ps)
    | _, _ => none
end
mutual
theorem dp_of {K : PySem.W.Frag} {O : Ow} {H : Hp} : ∀ {d : D} {p : PyData} {v : V}, toPy d = some p → Rep K O H d v → Dp K H v p
  | .non, _, _, e, r => by cases e; cases r; exact .non
  | .bl _, _, _, e, r => by cases e; cases r; exact .bl _
  | .int _, _, _, e, r => by cases e; cases r; exact .int _
  | .str _, _, _, e, r => by cases e; cases r; exact .str _
  | .tup ds, _, _, e, r => by
    obtain ⟨a, xs, rfl, h1, h2⟩ := r
    simp only [toPy] at e
    cases q : toPys ds with
    | none => rw [q] at e; cases e
    | some ps => rw [q] at e; cases e; exact .tup (sqT_of h1) (dps_of q h2)
  | .lst ds, _, _, e, r => by
    obtain ⟨a, xs, rfl, n, h1, h2⟩ := r
    simp only [toPy] at e
    cases q : toPys ds with
    | none => rw [q] at e; cases e
    | some ps => rw [q] at e; cases e; exact .lst (SqL.of h1) (dps_of q h2)
  | .ty _, _, _, e, _ => by cases e
  | .glo _, _, _, e, _ => by cases e
  | .scr _, _, _, e, _ => by cases e
  | .dK _, _, _, e, _ => by cases e
  | .dT _, _, _, e, _ => by cases e
  | .obj _ _, _, _, e, _ => by cases e
  | .own _, _, _, e, _ => by cases e
  | .xcp _ _ _, _, _, e, _ => by cases e
  | .exo _ _, _, _, e, _ => by cases e
theorem dps_of {K : PySem.W.Frag} {O : Ow} {H : Hp} : ∀ {ds : List D} {ps : List PyData} {vs : List V}, toPys ds = some ps → Reps K O H ds vs → DpAll K H vs ps
  | [], _, _, e, r => by cases e; cases r; exact .nil
  | d :: ds, _, _, e, r => by
    obtain ⟨v, vr, rfl, r1, r2⟩ := r
    simp only [toPys] at e
    cases q : toPy d with
    | none => rw [q] at e; cases e
    | some p =>
      cases q2 : toPys ds with
      | none => rw [q, q2] at e; cases e
      | some ps => rw [q, q2] at e; cases e; exact .cons (dp_of q r1) (dps_of q2 r2)
end
def eqD (d e : D) : Option Bool := match toPy d, toPy e with
  | some p, some q => if SeqAt.shaped p = true ∧ SeqAt.shaped q = true then some (PyData.eqv p q) else none
  | _, _ => none
def oEq (d e : D) (S : Sto) : RE D := match eqD d e with
  | some b => .ok (.bl b) S
  | none => .bad
def oNe (d e : D) (S : Sto) : RE D := match eqD d e with
  | some b => .ok (.bl (!b)) S
  | none => .bad
theorem eqD_some {d e : D} {b : Bool} (h : eqD d e = some b) : ∃ p q, toPy d = some p ∧ toPy e = some q ∧ SeqAt.shaped p = true ∧ SeqAt.shaped q = true ∧ b = PyData.eqv p q := by
  unfold eqD at h
  split at h
  · rename_i p q h1 h2
    split at h
    · rename_i hs
      cases h
      exact ⟨p, q, h1, h2, hs.1, hs.2, rfl⟩
    · cases h
  · cases h
theorem op_oEq (hu : X.A.units + 64 < cLine) : OpR X (compareOp .Eq) (RD X.K oEq) := by
  intro pins s σ H x y v u Q I rx ry ⟨W, ρ, σ', O, S, d, e, st, r1, r2, h⟩
  unfold oEq at h
  split at h
  · rename_i b hb
    obtain ⟨p, q, e1, e2, s1, s2, rfl⟩ := eqD_some hb
    exact op_eqD hu pins s σ H x y v u Q I rx ry ⟨p, q, dp_of e1 r1, dp_of e2 r2, s1, s2, After.ok h st rfl⟩
  · exact h.elim
theorem op_oNe (hu : X.A.units + 64 < cLine) : OpR X (compareOp .NotEq) (RD X.K oNe) := by
  intro pins s σ H x y v u Q I rx ry ⟨W, ρ, σ', O, S, d, e, st, r1, r2, h⟩
  unfold oNe at h
  split at h
  · rename_i b hb
    obtain ⟨p, q, e1, e2, s1, s2, rfl⟩ := eqD_some hb
    exact op_neD hu pins s σ H x y v u Q I rx ry ⟨p, q, dp_of e1 r1, dp_of e2 r2, s1, s2, After.ok h st rfl⟩
  · exact h.elim
/-! is -/
def isNon : D → Bool
  | .non => true
  | _ => false
def oIs : D → D → Sto → RE D
  | d, .non, S => .ok (.bl (isNon d)) S
  | .bl a, .bl b, S => .ok (.bl (decide (a = b))) S
  | _, _, _ => .bad
def oIsNot : D → D → Sto → RE D
  | d, .non, S => .ok (.bl (!isNon d)) S
  | .bl a, .bl b, S => .ok (.bl (!decide (a = b))) S
  | _, _, _ => .bad
theorem isNon_rep {K : PySem.W.Frag} {O : Ow} {H : Hp} {d : D} {v : V} (r : Rep K O H d v) : decide (v = V.non) = isNon d := by
  cases d <;> simp only [isNon, decide_eq_true_eq, decide_eq_false_iff_not]
  case non => exact r
  case bl => cases (show v = _ from r); exact fun z => nomatch z
  case int => cases (show v = _ from r); exact fun z => nomatch z
  case str => cases (show v = _ from r); exact fun z => nomatch z
  case ty => cases (show v = _ from r); exact fun z => nomatch z
  case glo => cases (show v = _ from r); exact fun z => nomatch z
  case tup => obtain ⟨a, xs, rfl, _⟩ := r; exact fun z => nomatch z
  case lst => obtain ⟨a, xs, rfl, _⟩ := r; exact fun z => nomatch z
  case scr => obtain ⟨a, xs, rfl, _⟩ := r; exact fun z => nomatch z
  case dK => obtain ⟨a, xs, rfl, _⟩ := r; exact fun z => nomatch z
  case dT => obtain ⟨a, xs, rfl, _⟩ := r; exact fun z => nomatch z
  case obj => obtain ⟨a, dx, xs, rfl, _⟩ := r; exact fun z => nomatch z
  case own => obtain ⟨a, _, rfl⟩ := r; exact fun z => nomatch z
  case xcp => obtain ⟨rfl, _⟩ := r; exact fun z => nomatch z
  case exo => obtain ⟨a, dd, vs, rfl, _⟩ := r; exact fun z => nomatch z
theorem op_oIs : OpR X (compareOp .Is) (RD X.K oIs) := by
  intro pins s σ H x y v u Q I rx ry ⟨W, ρ, σ', O, S, d, e, st, r1, r2, h⟩
  cases e
  case non =>
    have h' : After X.K W (Rep X.K) ρ σ' O H Q (.ok (.bl (isNon d)) S) := by cases d <;> exact h
    refine op_isN pins s σ H x y v u Q I rx ry ⟨r2, ?_⟩
    rw [isNon_rep r1]
    exact After.ok h' st rfl
  case bl b =>
    cases d <;> try exact h.elim
    rename_i a
    exact op_isBl pins s σ H x y v u Q I rx ry ⟨a, b, r1, r2, After.ok h st rfl⟩
  all_goals (cases d <;> exact h.elim)
theorem op_oIsNot : OpR X (compareOp .IsNot) (RD X.K oIsNot) := by
  intro pins s σ H x y v u Q I rx ry ⟨W, ρ, σ', O, S, d, e, st, r1, r2, h⟩
  cases e
  case non =>
    have h' : After X.K W (Rep X.K) ρ σ' O H Q (.ok (.bl (!isNon d)) S) := by cases d <;> exact h
    refine op_notN pins s σ H x y v u Q I rx ry ⟨r2, ?_⟩
    rw [isNon_rep r1]
    exact After.ok h' st rfl
  case bl b =>
    cases d <;> try exact h.elim
    rename_i a
    exact op_notBl pins s σ H x y v u Q I rx ry ⟨a, b, r1, r2, After.ok h st rfl⟩
  all_goals (cases d <;> exact h.elim)
end
end DE

set_option maxHeartbeats 4000000
namespace DE
open PySem PySem.Spec PyProof.Rows L2
section
variable {X : Cx} {W : WX} {a b c : Expr} {f g h : ME} {pos : Pos} {es : List Expr} {fa : MA}
/-! ### globals -/
theorem de_glob {x : Str} {d : D} {v : V} {u : Value} (hg : Gl X x) (hm : X.mg x = some u) (r : RelV v u) (rd : ∀ O H, Rep X.K O H d v) (hd : (x == ("__debug__" : Str)) = false := by decide) : DE X W (.Name x pos) (dC d) := de_const (pe_glob hg hm r hd) rd
theorem de_ty {x : Str} {n : String} (hg : Gl X x) (hm : X.mg x = none) (hv : bootBuiltins x = some (.type n)) (hn : x ≠ "__name__" := by decide) (hd : (x == ("__debug__" : Str)) = false := by decide) : DE X W (.Name x pos) (dC (.ty n)) := de_const (pe_bltn (v := .ty n) hg hm hv rfl hn hd) fun _ _ => rfl
/-! ### in -/
def toV : D → Option V
  | .non => some .non
  | .bl b => some (.bl b)
  | .int i => some (.int i)
  | .str x => some (.str x)
  | _ => none
def toVs : List D → Option (List V)
  | [] => some []
  | d :: ds => match toV d, toVs ds with
    | some p, some ps => some (p :: ps)
    | _, _ => none
theorem toV_rep {K : PySem.W.Frag} {O : Ow} {H : Hp} {d : D} {v w : V} (e : toV d = some w) (r : Rep K O H d v) : v = w ∧ flatV v = true := by
  cases d <;> simp only [toV] at e <;> cases e
  all_goals (cases (show v = _ from r); exact ⟨rfl, rfl⟩)
theorem toVs_rep {K : PySem.W.Frag} {O : Ow} {H : Hp} : ∀ {ds : List D} {vs ws : List V}, toVs ds = some ws → Reps K O H ds vs → vs = ws ∧ vs.all flatV = true
  | [], _, _, e, r => by cases e; cases r; exact ⟨rfl, rfl⟩
  | d :: ds, _, _, e, r => by
    obtain ⟨v, vr, rfl, r1, r2⟩ := r
    simp only [toVs] at e
    cases q : toV d with
    | none => rw [q] at e; cases e
    | some p =>
      cases q2 : toVs ds with
      | none => rw [q, q2] at e; cases e
      | some ps =>
        rw [q, q2] at e; cases e
        obtain ⟨e1, f1⟩ := toV_rep q r1
        obtain ⟨e2, f2⟩ := toVs_rep q2 r2
        exact ⟨by rw [e1, e2], by simp [f1, f2]⟩
def inS (x y : Str) : Bool := if x.cps.size = 1 then decide (x.cps.getD 0 0 ∈ y.cps.toList) else !(Builtin.Str.occurrences y x 0 y.length 1).isEmpty
/-- x in y, where it is told -/
def inD (d e : D) : Option Bool := match d, e with
  | .str x, .str y => some (inS x y)
  | d, .lst ds => match toV d, toVs ds with
    | some v, some vs => some (inV v vs)
    | _, _ => none
  | d, .tup ds => match toV d, toVs ds with
    | some v, some vs => some (inV v vs)
    | _, _ => none
  | _, _ => none
def oIn (d e : D) (S : Sto) : RE D := match inD d e with
  | some b => .ok (.bl b) S
  | none => .bad
def oNotIn (d e : D) (S : Sto) : RE D := match inD d e with
  | some b => .ok (.bl (!b)) S
  | none => .bad
theorem str1 {x : Str} (h : x.cps.size = 1) : x = ⟨#[x.cps.getD 0 0]⟩ := by
  obtain ⟨⟨l⟩⟩ := x
  match l, h with
  | [c], _ => rfl
theorem op_oIn : OpR X (compareOp .In) (RD X.K oIn) := by
  intro pins s σ H x y v u Q I rx ry ⟨W, ρ, σ', O, S, d, e, st, r1, r2, h⟩
  unfold oIn at h
  split at h
  case h_2 => exact h.elim
  rename_i b hb
  unfold inD at hb
  split at hb
  · rename_i z y'
    cases hb
    unfold inS at h
    split at h
    · rename_i h1
      refine op_in_sign pins s σ H x y v u Q I rx ry ⟨z.cps.getD 0 0, y', ?_, r2, After.ok h st rfl⟩
      rw [← str1 h1]; exact r1
    · exact op_in_str pins s σ H x y v u Q I rx ry ⟨z, y', r1, r2, After.ok h st rfl⟩
  · rename_i ds
    split at hb
    · rename_i w ws q1 q2
      cases hb
      obtain ⟨p, xs, rfl, n1, h1, q⟩ := r2
      obtain ⟨e1, f1⟩ := toV_rep q1 r1
      obtain ⟨e2, f2⟩ := toVs_rep q2 q
      subst e1 e2
      exact op_in_seq pins s σ H _ _ v u Q I rx ry ⟨p, xs, rfl, .inl (SqL.of h1), f1, f2, After.ok h st rfl⟩
    · cases hb
  · rename_i ds
    split at hb
    · rename_i w ws q1 q2
      cases hb
      obtain ⟨p, xs, rfl, h1, q⟩ := r2
      obtain ⟨e1, f1⟩ := toV_rep q1 r1
      obtain ⟨e2, f2⟩ := toVs_rep q2 q
      subst e1 e2
      exact op_in_seq pins s σ H _ _ v u Q I rx ry ⟨p, xs, rfl, .inr (sqT_of h1), f1, f2, After.ok h st rfl⟩
    · cases hb
  · cases hb
theorem op_oNotIn : OpR X (compareOp .NotIn) (RD X.K oNotIn) := by
  intro pins s σ H x y v u Q I rx ry ⟨W, ρ, σ', O, S, d, e, st, r1, r2, h⟩
  unfold oNotIn at h
  split at h
  case h_2 => exact h.elim
  rename_i b hb
  unfold inD at hb
  split at hb
  · rename_i z y'
    cases hb
    unfold inS at h
    split at h
    · rename_i h1
      refine op_notIn_sign pins s σ H x y v u Q I rx ry ⟨z.cps.getD 0 0, y', ?_, r2, After.ok h st rfl⟩
      rw [← str1 h1]; exact r1
    · exact op_notIn_str pins s σ H x y v u Q I rx ry ⟨z, y', r1, r2, After.ok h st rfl⟩
  · rename_i ds
    split at hb
    · rename_i w ws q1 q2
      cases hb
      obtain ⟨p, xs, rfl, n1, h1, q⟩ := r2
      obtain ⟨e1, f1⟩ := toV_rep q1 r1
      obtain ⟨e2, f2⟩ := toVs_rep q2 q
      subst e1 e2
      exact op_notIn_seq pins s σ H _ _ v u Q I rx ry ⟨p, xs, rfl, .inl (SqL.of h1), f1, f2, After.ok h st rfl⟩
    · cases hb
  · rename_i ds
    split at hb
    · rename_i w ws q1 q2
      cases hb
      obtain ⟨p, xs, rfl, h1, q⟩ := r2
      obtain ⟨e1, f1⟩ := toV_rep q1 r1
      obtain ⟨e2, f2⟩ := toVs_rep q2 q
      subst e1 e2
      exact op_notIn_seq pins s σ H _ _ v u Q I rx ry ⟨p, xs, rfl, .inr (sqT_of h1), f1, f2, After.ok h st rfl⟩
    · cases hb
  · cases hb
/-! ### subscripts -/
/-- the list or tuple at a datum -/
def seqOf (S : Sto) : D → Option (List D)
  | .lst ds => some ds
  | .tup ds => some ds
  | .scr ds => some ds
  | .own k => match S[k]? with
    | some (.lst ds) => some ds
    | _ => none
  | _ => none
theorem seq_rep {K : PySem.W.Frag} {O : Ow} {H : Hp} {ρ : DE.Env} {σ : L2.St} {S : Sto} {d : D} {v : V} {ds : List D} (st : Stt K O H ρ σ S) (e : seqOf S d = some ds) (r : Rep K O H d v) : ∃ p xs, v = .ref p ∧ (SqL K H p xs ∨ SqT K H p xs) ∧ Reps K O H ds xs := by
  cases d <;> simp only [seqOf] at e <;> try cases e
  case tup => obtain ⟨p, xs, rfl, h, q⟩ := r; exact ⟨p, xs, rfl, .inr (sqT_of h), q⟩
  case lst => obtain ⟨p, xs, rfl, _, h, q⟩ := r; exact ⟨p, xs, rfl, .inl (SqL.of h), q⟩
  case scr =>
    obtain ⟨p, xs, rfl, h, q⟩ := r
    refine ⟨p, xs, rfl, .inl ?_, q⟩
    rcases h with ⟨_, h⟩ | h
    · exact .inl h
    · rcases h with h | h
      · rcases h with h | ⟨_, h⟩ <;> cases h
      · exact .inr h
  case own k =>
    obtain ⟨p, h, rfl⟩ := r
    split at e
    · rename_i ds' hk
      cases e
      obtain ⟨xs, h1, q⟩ := st.wf.cell k p _ h hk
      exact ⟨p, xs, rfl, .inl (SqL.of h1), q⟩
    · cases e
def oIx (d e : D) (S : Sto) : RE D := match e with
  | .int i => (match d with
    | .str x => if x.length ≤ cap then (match atI x.cps.toList i with
      | some c => .ok (.str ⟨#[c]⟩) S
      | none => .bad) else .bad
    | d => match seqOf S d with
      | some ds => (match atI ds i with
        | some z => .ok z S
        | none => .bad)
      | none => .bad)
  | _ => .bad
theorem atI_len {α β : Type} {xs : List α} {ys : List β} {i : Int} {z : α} (hl : xs.length = ys.length) (h : atI xs i = some z) : ∃ j : Nat, ixN ys.length i = some j ∧ xs[j]? = some z := by
  unfold atI at h
  rw [hl] at h
  cases q : ixN ys.length i with
  | none => rw [q] at h; cases h
  | some j => rw [q] at h; exact ⟨j, rfl, h⟩
theorem ix_oIx : IxR X (RD X.K oIx) := by
  intro value slice pins s σ H x y v u Q I rx ry ⟨W, ρ, σ', O, S, d, e, st, r1, r2, h⟩ hs
  cases e <;> try exact h.elim
  rename_i i
  have seqc : ∀ ds, seqOf S d = some ds → (∀ z, atI ds i = some z → After X.K W (Rep X.K) ρ σ' O H Q (.ok z S)) → atI ds i ≠ none → wpAny (model X.prog X.w) X.A (subscriptTail value slice v u) (EP X pins σ Q) X.xe s := fun ds e1 hz nn => by
    cases q : atI ds i with
    | none => exact absurd q nn
    | some z =>
      obtain ⟨p, xs, rfl, hs', rs⟩ := seq_rep st e1 r1
      obtain ⟨j, hj, hz'⟩ := atI_len (ys := xs) rs.length q
      obtain ⟨vz, hv, rz⟩ := rs.get hz'
      have ha : atI xs i = some vz := by unfold atI; rw [hj]; exact hv
      have fin := After.ok (hz z q) st rz
      rcases hs' with hs' | hs'
      · exact ix_list value slice pins s σ H _ y v u Q I rx ry ⟨p, xs, i, vz, rfl, r2, hs', ha, fin⟩ hs
      · exact ix_tup value slice pins s σ H _ y v u Q I rx ry ⟨p, xs, i, vz, rfl, r2, hs', ha, fin⟩ hs
  have seqd : (∀ S' , oIx d (.int i) S' = match seqOf S' d with | some ds => (match atI ds i with | some z => .ok z S' | none => .bad) | none => .bad) → wpAny (model X.prog X.w) X.A (subscriptTail value slice v u) (EP X pins σ Q) X.xe s := fun he => by
    rw [he] at h
    cases q : seqOf S d with
    | none => rw [q] at h; exact h.elim
    | some ds =>
      rw [q] at h
      refine seqc ds q (fun z hz => ?_) fun hn => ?_
      · simp only [hz] at h; exact h
      · simp only [hn] at h; exact h.elim
  cases d
  case str z =>
    obtain ⟨hc, h⟩ := After.ite (show After X.K W (Rep X.K) ρ σ' O H Q (if z.length ≤ cap then (match atI z.cps.toList i with | some c => .ok (.str ⟨#[c]⟩) S | none => .bad) else .bad) from h)
    cases q : atI z.cps.toList i with
    | none => rw [q] at h; exact h.elim
    | some c =>
      rw [q] at h
      exact ix_str value slice pins s σ H x y v u Q I rx ry ⟨z, i, c, r1, r2, cap_line hc, q, After.ok h st rfl⟩ hs
  all_goals exact seqd fun _ => rfl
theorem de_ix (ha : DE X W a f) (hb : DE X W b g) (hs : PlainIx b := by exact fun _ _ => rfl) : DE X W (.Subscript a b pos) (dBin oIx f g) := ⟨PE.imp (pe_ix ix_oIx ha.pe hb.pe hs) fun _ _ _ h => bin_imp opD_RD h⟩
/-! ### slices -/
def cutD {α : Type} (xs : List α) (lo hi : Option Int) : List α := (xs.drop (HT.sIx xs.length 0 lo)).take (HT.sIx xs.length xs.length hi - HT.sIx xs.length 0 lo)
def slD (d : D) (lo hi : Option Int) (S : Sto) : RE D := match d with
  | .str x => if x.length ≤ cap then .ok (.str (cutS x lo hi)) S else .bad
  | .tup ds => .ok (.tup (cutD ds lo hi)) S
  | .lst ds => .ok (.lst (cutD ds lo hi)) S
  | _ => .bad
abbrev MO := DE.Env → Sto → RE (Option Int)
def oNoPart : MO := fun _ S => .ok none S
def oPart (f : ME) : MO := fun ρ S => (f ρ S).bind fun d S1 => match d with
  | .int i => .ok (some i) S1
  | _ => .bad
def tO (K : PySem.W.Frag) (W : WX) (f : MO) : TO := fun σ H Q => ∃ O ρ S, Stt K O H ρ σ S ∧ After K W (fun _ _ a b => a = b) ρ σ O H Q (f ρ S)
structure DPo (X : Cx) (W : WX) (e : Option Expr) (f : MO) : Prop where
  po : PO X e (tO X.K W f)
theorem PO.imp {X : Cx} {e : Option Expr} {t t' : TO} (h : PO X e t) (k : ∀ σ H Q, t' σ H Q → t σ H Q) : PO X e t' := ⟨fun pins s σ H Q I q => h.run pins s σ H Q I (k σ H Q q)⟩
theorem dpo_none : DPo X W none oNoPart := ⟨PO.imp po_none fun σ H Q ⟨O, ρ, S, st, h⟩ => After.ok h st rfl⟩
theorem dpo_some (ha : DE X W a f) : DPo X W (some a) (oPart f) := ⟨PO.imp (po_some ha.pe) fun σ H Q ⟨O, ρ, S, st, h⟩ => ⟨O, ρ, S, st, After.seq h fun d S1 O1 H1 v e1 st1 r1 h1 => by
  cases d with
  | int i => exact ⟨i, r1, After.ok h1 st1 rfl⟩
  | _ => exact h1.elim⟩⟩
def dSl (f : ME) (lo hi : MO) : ME := fun ρ S => (f ρ S).bind fun d S1 => (lo ρ S1).bind fun l S2 => (hi ρ S2).bind fun u S3 => slD d l u S3
theorem Reps.cut {K : PySem.W.Frag} {O : Ow} {H : Hp} {ds : List D} {vs : List V} (r : Reps K O H ds vs) (lo hi : Option Int) : Reps K O H (cutD ds lo hi) (cutV vs lo hi) := by
  unfold cutD cutV
  rw [r.length]
  exact (r.drop _).take _
def rSlD (K : PySem.W.Frag) : V → Option Int → Option Int → Hp → VK → Prop := fun x lo hi H Q => ∃ W ρ σ O S d, Stt K O H ρ σ S ∧ Rep K O H d x ∧ After K W (Rep K) ρ σ O H Q (slD d lo hi S)
theorem sl_slD : SlR X (rSlD X.K) := by
  intro pins s σ H x v vl vu lo hi sl Q I rx hsl pl pu ⟨W, ρ, σ', O, S, d, st, r1, h⟩
  cases d <;> try exact h.elim
  case str z =>
    obtain ⟨hc, h⟩ := After.ite (show After X.K W (Rep X.K) ρ σ' O H Q (if z.length ≤ cap then .ok (.str (cutS z lo hi)) S else .bad) from h)
    exact sl_str pins s σ H x v vl vu lo hi sl Q I rx hsl pl pu ⟨z, r1, cap_line hc, After.ok h st rfl⟩
  case tup ds =>
    obtain ⟨p, xs, rfl, h1, q1⟩ := r1
    refine sl_tupA pins s σ H _ v vl vu lo hi sl Q I rx hsl pl pu ⟨p, xs, rfl, sqT_of h1, fun hw => ?_, fun hw t ht => ?_⟩
    · have e : cutD ds lo hi = ds := by
        unfold cutD
        rw [q1.length, hw.1, hw.2]
        simp [← q1.length]
      have h' : After X.K W (Rep X.K) ρ σ' O H Q (.ok (.tup (cutD ds lo hi)) S) := h
      rw [e] at h'
      exact After.ok h' st ⟨p, xs, rfl, h1, q1⟩
    · obtain ⟨e2, st2⟩ := st.new (o := .tup (cutV xs lo hi)) ht
      exact h O _ _ e2 st2 ⟨t, _, rfl, .inl upd_same, (q1.mono (e2.w st.wf)).cut lo hi⟩
  case lst ds =>
    obtain ⟨p, xs, rfl, n1, h1, q1⟩ := r1
    refine sl_list pins s σ H _ v vl vu lo hi sl Q I rx hsl pl pu ⟨p, xs, rfl, SqL.of h1, fun t ht => ?_⟩
    obtain ⟨e2, st2⟩ := st.new (o := .lst (cutV xs lo hi)) ht
    exact h O _ _ e2 st2 ⟨t, _, rfl, st.no ht, upd_same, (q1.mono (e2.w st.wf)).cut lo hi⟩
theorem de_sl {lo hi : Option Expr} {p2 : Pos} {fl fh : MO} (ha : DE X W a f) (hl : DPo X W lo fl) (hh : DPo X W hi fh) : DE X W (.Subscript a (.Slice lo hi none p2) pos) (dSl f fl fh) :=
  ⟨PE.imp (pe_slice sl_slD ha.pe hl.po hh.po) fun σ H Q ⟨O, ρ, S, st, h⟩ => ⟨O, ρ, S, st, After.seq h fun d S1 O1 H1 v e1 st1 r1 h1 => ⟨O1, ρ, S1, st1, After.seq h1 fun l S2 O2 H2 v2 e2 st2 r2 h2 => ⟨O2, ρ, S2, st2, After.seq h2 fun u S3 O3 H3 v3 e3 st3 r3 h3 => by
    subst r2 r3
    exact ⟨W, ρ, σ, O3, S3, d, st3, r1.mono ((e2.trans e3).w st1.wf), h3⟩⟩⟩⟩⟩
end
end DE

set_option maxHeartbeats 4000000
namespace DE
open PySem PySem.Spec PyProof.Rows L2
def RC (K : PySem.W.Frag) (op : FD) : List V → Hp → VK → Prop := fun vs H Q => ∃ W ρ σ O S ds, Stt K O H ρ σ S ∧ Reps K O H ds vs ∧ After K W (Rep K) ρ σ O H Q (op ds S)
theorem caD_RC {X : Cx} {op : FD} : CaD X (RC X.K op) op := fun W ρ σ O H S vs ds Q st r h => ⟨W, ρ, σ, O, S, ds, st, r, h⟩
section
variable {X : Cx} {W : WX} {a b c : Expr} {f g h : ME} {pos : Pos} {es : List Expr} {fa : MA} {e : Expr} {x : Str} {p : Pos}
theorem de_bf {id : String} {op : FD} (hc : CallR X (.builtin id) (RC X.K op)) (hg : Gl X x) (hm : X.mg x = none) (hv : bootBuiltins x = some (.builtin id)) (ha : DA X W (e :: es) fa) (hn : x ≠ "__name__" := by decide) (hdb : (x == ("__debug__" : Str)) = false := by decide)
    (he : starEach (e :: es) X.env = (false, eval e X.env) :: starEach es X.env := by rfl) (hpl : (backTo pos (starEach es X.env)).any (·.1) = false := by rfl) : DE X W (.Call (.Name x p) (e :: es) [] pos) (dBlt op fa) := de_blt hc caD_RC hg hm hv ha hn hdb he hpl
theorem de_bt {T : String} {op : FD} (hc : CallR X (.type T) (RC X.K op)) (hg : Gl X x) (hm : X.mg x = none) (hv : bootBuiltins x = some (.type T)) (ha : DA X W (e :: es) fa) (hn : x ≠ "__name__" := by decide) (hdb : (x == ("__debug__" : Str)) = false := by decide)
    (he : starEach (e :: es) X.env = (false, eval e X.env) :: starEach es X.env := by rfl) (hpl : (backTo pos (starEach es X.env)).any (·.1) = false := by rfl) : DE X W (.Call (.Name x p) (e :: es) [] pos) (dBlt op fa) := de_bty hc caD_RC hg hm hv ha hn hdb he hpl
/-! ### len -/
def oLen : FD := fun ds S => match ds with
  | [d] => (match d with
    | .str z => if z.length ≤ cap then .ok (.int z.length) S else .bad
    | d => match seqOf S d with
      | some ds => .ok (.int ds.length) S
      | none => .bad)
  | _ => .bad
theorem RepK.length {K : PySem.W.Frag} {O : Ow} {H : Hp} : ∀ {ds : List (Key × D)} {vs : List (Key × V)}, RepK K O H ds vs → ds.length = vs.length
  | [], _, h => by cases h; rfl
  | (_, _) :: _, _, h => by
    obtain ⟨v, r, rfl, _, h2⟩ := h
    simp [RepK.length h2]
theorem c_oLen : CallR X (.builtin "len") (RC X.K oLen) := by
  intro pins s σ H vs us Q I rv ⟨W, ρ, σ', O, S, ds, st, r, h⟩
  rcases ds with _ | ⟨d, _ | ⟨_, _⟩⟩
  · exact h.elim
  · obtain ⟨v, rfl, r1⟩ := r.one
    have seqc : oLen [d] S = (match seqOf S d with | some ds => .ok (.int ds.length) S | none => .bad) → wpAny (model X.prog X.w) X.A (call (.builtin "len") us) (EP X pins σ Q) X.xe s := fun he => by
      rw [he] at h
      cases q : seqOf S d with
      | none => rw [q] at h; exact h.elim
      | some es =>
        rw [q] at h
        obtain ⟨p, xs, rfl, hs', rs⟩ := seq_rep st q r1
        exact call_len_seq pins s σ H _ us Q I rv ⟨p, xs, rfl, hs', by rw [← rs.length]; exact After.ok h st rfl⟩
    cases d
    case str z =>
      obtain ⟨hc, h⟩ := After.ite (show After X.K W (Rep X.K) ρ σ' O H Q (if z.length ≤ cap then .ok (.int z.length) S else .bad) from h)
      exact call_len pins s σ H _ us Q I rv ⟨v, z.length, rfl, by cases (show v = V.str z from r1); exact ⟨cap_line hc, rfl⟩, After.ok h st rfl⟩
    all_goals exact seqc rfl
  · exact h.elim
/-! ### isinstance -/
def tyName : D → Option String
  | .non => some "NoneType"
  | .bl _ => some "bool"
  | .int _ => some "int"
  | .str _ => some "str"
  | .tup _ => some "tuple"
  | .lst _ => some "list"
  | .dK _ => some "dict"
  | _ => none
def tyList : List String := ["NoneType", "bool", "int", "str", "tuple", "list", "dict"]
def subT (a n : String) : Bool := a == n || (a == "bool" && n == "int")
theorem kit_sub : ∀ a ∈ tyList, ∀ n ∈ tyList, kitB a n = some (subT a n) := by decide +kernel
def tyNamesOf : List D → Option (List String)
  | [] => some []
  | .ty n :: ds => if n ∈ tyList then (tyNamesOf ds).map (n :: ·) else none
  | _ => none
def oIsi : FD := fun ds S => match ds with
  | [d, .ty n] => (match tyName d with
    | some a => if n ∈ tyList then .ok (.bl (subT a n)) S else .bad
    | none => .bad)
  | [d, .tup ts] => (match tyName d, tyNamesOf ts with
    | some a, some ns => .ok (.bl (ns.any (subT a))) S
    | _, _ => .bad)
  | _ => .bad
theorem tyName_in {d : D} {a : String} (h : tyName d = some a) : a ∈ tyList := by
  cases d <;> simp only [tyName] at h <;> cases h <;> decide
theorem tyName_rep {K : PySem.W.Frag} {O : Ow} {H : Hp} {d : D} {v : V} {a : String} (h : tyName d = some a) (r : Rep K O H d v) : TyX K H v (.type a) := by
  cases d <;> simp only [tyName] at h <;> cases h
  case non => cases (show v = _ from r); exact .base .non
  case bl => cases (show v = _ from r); exact .base (.bl _)
  case int => cases (show v = _ from r); exact .base (.int _)
  case str => cases (show v = _ from r); exact .base (.str _)
  case tup =>
    obtain ⟨p, xs, rfl, h1, _⟩ := r
    rcases h1 with h1 | (h1 | ⟨o, h1⟩) | ⟨o, its, n, h1, h2, _⟩
    · exact .base (.tup h1)
    · cases h1
    · cases h1
    · exact .kTuple h1 h2
  case lst => obtain ⟨p, xs, rfl, _, h1, _⟩ := r; exact .base (.lst h1)
  case dK =>
    obtain ⟨p, xs, rfl, _, h1, _⟩ := r
    rcases h1 with h1 | ⟨o, h1⟩
    · exact .base (.dK h1)
    · exact .fDict h1
theorem tyNames_v {K : PySem.W.Frag} {O : Ow} {H : Hp} : ∀ {ts : List D} {ns : List String} {vs : List V}, tyNamesOf ts = some ns → Reps K O H ts vs → Paired ClsV vs (ns.map Value.type) ∧ ∀ n ∈ ns, n ∈ tyList
  | [], _, _, e, r => by cases e; cases r; exact ⟨.nil, fun _ h => by cases h⟩
  | t :: ts, _, _, e, r => by
    obtain ⟨v, vr, rfl, r1, r2⟩ := r
    cases t <;> simp only [tyNamesOf] at e <;> try cases e
    rename_i n
    split at e
    · rename_i hn
      cases q : tyNamesOf ts with
      | none => rw [q] at e; cases e
      | some ns =>
        rw [q] at e; cases e
        obtain ⟨h1, h2⟩ := tyNames_v q r2
        cases (show v = _ from r1)
        exact ⟨.cons (.ty n) h1, fun m hm => by
          rcases List.mem_cons.mp (show m ∈ n :: ns from hm) with e | hm
          · rw [e]; exact hn
          · exact h2 m hm⟩
    · cases e
theorem kitAny_sub {K : PySem.W.Frag} {a : String} (ha : a ∈ tyList) : ∀ {ns : List String}, (∀ n ∈ ns, n ∈ tyList) → PySem.W.kitAny K (.type a) (ns.map Value.type) = some (ns.any (subT a))
  | [], _ => rfl
  | n :: ns, h => by
    have h1 := kit_ty (K := K) (kit_sub a ha n (h n List.mem_cons_self))
    refine kitAny_cons h1 (fun hb => ?_) fun hb => ?_
    · rw [List.any_cons, hb, Bool.false_or]
      exact kitAny_sub ha fun m hm => h m (List.mem_cons_of_mem _ hm)
    · rw [List.any_cons, hb, Bool.true_or]
theorem c_oIsi : CallR X (.builtin "isinstance") (RC X.K oIsi) := by
  intro pins s σ H vs us Q I rv ⟨W, ρ, σ', O, S, ds, st, r, h⟩
  rcases ds with _ | ⟨d, _ | ⟨d2, _ | ⟨d3, ds⟩⟩⟩
  · exact h.elim
  · exact h.elim
  · obtain ⟨v, u, rfl, r1, r2⟩ := r.two
    cases d2 <;> try exact h.elim
    case ty n =>
      have h' : After X.K W (Rep X.K) ρ σ' O H Q (match tyName d with | some a => if n ∈ tyList then .ok (.bl (subT a n)) S else .bad | none => .bad) := h
      cases q : tyName d with
      | none => rw [q] at h'; exact h'.elim
      | some a =>
        rw [q] at h'
        obtain ⟨hn, h'⟩ := After.ite h'
        exact call_isi pins s σ H _ us Q I rv ⟨v, u, _, _, _, rfl, by cases (show u = _ from r2); exact .ty n, tyName_rep q r1, kit_ty (kit_sub a (tyName_in q) n hn), After.ok h' st rfl⟩
    case tup ts =>
      have h' : After X.K W (Rep X.K) ρ σ' O H Q (match tyName d, tyNamesOf ts with | some a, some ns => .ok (.bl (ns.any (subT a))) S | _, _ => .bad) := h
      cases q : tyName d with
      | none => rw [q] at h'; exact h'.elim
      | some a =>
        cases q2 : tyNamesOf ts with
        | none => rw [q, q2] at h'; exact h'.elim
        | some ns =>
          rw [q, q2] at h'
          obtain ⟨p, xs, rfl, h1, h2⟩ := r2
          obtain ⟨k1, k2⟩ := tyNames_v q2 h2
          rcases h1 with h1 | (h1 | ⟨o, h1⟩) | ⟨o, its, n, h1, h2, h3, h4, h5⟩
          · exact call_isiT pins s σ H _ us Q I rv ⟨v, p, xs, _, _, _, rfl, h1, k1, tyName_rep q r1, kitAny_sub (tyName_in q) k2, After.ok h' st rfl⟩
          · cases h1
          · cases h1
          · obtain ⟨oc, od, dt, sl⟩ := o
            simp only at h2 h3
            subst h2 h3
            have e3 := ClsV.all k1 h5
            have e4 : its = (ns.map Value.type).toArray := by rw [← e3]
            subst e4
            exact call_isiK pins s σ H _ us Q I rv ⟨v, p, od, ns.map Value.type, n, sl, _, _, rfl, h1, tyName_rep q r1, kitAny_sub (tyName_in q) k2, After.ok h' st rfl⟩
  · cases d2 <;> exact h.elim
/-! ### all, any, min, max -/
def blsOf : List D → Option (List Bool)
  | [] => some []
  | .bl b :: ds => (blsOf ds).map (b :: ·)
  | _ => none
def oAll : FD := fun ds S => match ds with
  | [.lst xs] => (match blsOf xs with
    | some bs => .ok (.bl (bs.all id)) S
    | none => .bad)
  | _ => .bad
def oAny : FD := fun ds S => match ds with
  | [.lst xs] => (match blsOf xs with
    | some bs => .ok (.bl (bs.any id)) S
    | none => .bad)
  | _ => .bad
theorem bls_rep {K : PySem.W.Frag} {O : Ow} {H : Hp} : ∀ {ds : List D} {bs : List Bool} {vs : List V}, blsOf ds = some bs → Reps K O H ds vs → vs = bs.map V.bl
  | [], _, _, e, r => by cases e; cases r; rfl
  | d :: ds, _, _, e, r => by
    obtain ⟨v, vr, rfl, r1, r2⟩ := r
    cases d <;> simp only [blsOf] at e <;> try cases e
    cases q : blsOf ds with
    | none => rw [q] at e; cases e
    | some bs => rw [q] at e; cases e; rw [show v = _ from r1, bls_rep q r2]; rfl
theorem c_oAll (hc : X.calm = true) : CallR X (.builtin "all") (RC X.K oAll) := by
  intro pins s σ H vs us Q I rv ⟨W, ρ, σ', O, S, ds, st, r, h⟩
  unfold oAll at h
  split at h
  · rename_i xs
    obtain ⟨v, rfl, r1⟩ := r.one
    split at h
    · rename_i bs hb
      obtain ⟨p, ys, rfl, n, h1, h2⟩ := r1
      have e := bls_rep hb h2
      subst e
      exact cr_all hc pins s σ H _ us Q I rv ⟨p, bs, rfl, SqL.of h1, After.ok h st rfl⟩
    · exact h.elim
  · exact h.elim
theorem c_oAny (hc : X.calm = true) : CallR X (.builtin "any") (RC X.K oAny) := by
  intro pins s σ H vs us Q I rv ⟨W, ρ, σ', O, S, ds, st, r, h⟩
  unfold oAny at h
  split at h
  · rename_i xs
    obtain ⟨v, rfl, r1⟩ := r.one
    split at h
    · rename_i bs hb
      obtain ⟨p, ys, rfl, n, h1, h2⟩ := r1
      have e := bls_rep hb h2
      subst e
      exact cr_any hc pins s σ H _ us Q I rv ⟨p, bs, rfl, SqL.of h1, After.ok h st rfl⟩
    · exact h.elim
  · exact h.elim
def oMax : FD := fun ds S => match ds with
  | [.int i, .int j] => .ok (.int (if j > i then j else i)) S
  | _ => .bad
def oMin : FD := fun ds S => match ds with
  | [.int i, .int j] => .ok (.int (if j < i then j else i)) S
  | _ => .bad
theorem c_oMax (hc : X.calm = true) : CallR X (.builtin "max") (RC X.K oMax) := by
  intro pins s σ H vs us Q I rv ⟨W, ρ, σ', O, S, ds, st, r, h⟩
  unfold oMax at h
  split at h
  · rename_i i j
    obtain ⟨v, u, rfl, r1, r2⟩ := r.two
    exact call_max2 hc pins s σ H _ us Q I rv ⟨i, j, by rw [show v = _ from r1, show u = _ from r2], After.ok h st rfl⟩
  · exact h.elim
theorem c_oMin (hc : X.calm = true) : CallR X (.builtin "min") (RC X.K oMin) := by
  intro pins s σ H vs us Q I rv ⟨W, ρ, σ', O, S, ds, st, r, h⟩
  unfold oMin at h
  split at h
  · rename_i i j
    obtain ⟨v, u, rfl, r1, r2⟩ := r.two
    exact call_min2 hc pins s σ H _ us Q I rv ⟨i, j, by rw [show v = _ from r1, show u = _ from r2], After.ok h st rfl⟩
  · exact h.elim
/-! ### repr of a truth value, list(..), tuple(..) -/
def reprB (b : Bool) : Str := if b then "True" else "False"
def oReprB : FD := fun ds S => match ds with
  | [.bl b] => .ok (.str (reprB b)) S
  | _ => .bad
theorem c_oReprB : CallR X (.builtin "repr") (RC X.K oReprB) := by
  intro pins s σ H vs us Q I rv ⟨W, ρ, σ', O, S, ds, st, r, h⟩
  unfold oReprB at h
  split at h
  · rename_i b
    obtain ⟨v, rfl, r1⟩ := r.one
    obtain ⟨u, rfl, ru⟩ := vals1 rv
    cases (show v = _ from r1)
    cases (show u = _ from ru)
    exact PySem.P.repr_of_bool ⟨.str _, H, I.tok _, ⟨_, rfl⟩, After.ok h st rfl⟩
  · exact h.elim
def oList : FD := fun ds S => match ds with
  | [d] => (match seqOf S d with
    | some xs => .ok (.lst xs) S
    | none => .bad)
  | _ => .bad
theorem c_oList : CallR X (.type "list") (RC X.K oList) := by
  intro pins s σ H vs us Q I rv ⟨W, ρ, σ', O, S, ds, st, r, h⟩
  unfold oList at h
  split at h
  · rename_i d
    obtain ⟨v, rfl, r1⟩ := r.one
    split at h
    · rename_i xs hx
      obtain ⟨p, ys, rfl, hs, rs⟩ := seq_rep st hx r1
      refine call_list_of pins s σ H _ us Q I rv ⟨p, ys, rfl, hs, fun l hl => ?_⟩
      obtain ⟨e2, st2⟩ := st.new (o := .lst ys) hl
      exact h O _ _ e2 st2 ⟨l, _, rfl, st.no hl, upd_same, rs.mono (e2.w st.wf)⟩
    · exact h.elim
  · exact h.elim
def listAt (S : Sto) : D → Option (List D)
  | .lst ds => some ds
  | .scr ds => some ds
  | .own k => match S[k]? with
    | some (.lst ds) => some ds
    | _ => none
  | _ => none
theorem list_rep {K : PySem.W.Frag} {O : Ow} {H : Hp} {ρ : DE.Env} {σ : L2.St} {S : Sto} {d : D} {v : V} {ds : List D} (st : Stt K O H ρ σ S) (e : listAt S d = some ds) (r : Rep K O H d v) : ∃ p xs, v = .ref p ∧ SqL K H p xs ∧ Reps K O H ds xs := by
  cases d
  case lst => cases e; obtain ⟨p, xs, rfl, _, h, q⟩ := r; exact ⟨p, xs, rfl, SqL.of h, q⟩
  case scr =>
    cases e
    obtain ⟨p, xs, rfl, h, q⟩ := r
    exact ⟨p, xs, rfl, sqL_of (h.imp (fun z => z.2) id), q⟩
  case own k =>
    obtain ⟨p, h, rfl⟩ := r
    simp only [listAt] at e
    split at e
    · rename_i ds' hk
      cases e
      obtain ⟨xs, h1, q⟩ := st.wf.cell k p _ h hk
      exact ⟨p, xs, rfl, SqL.of h1, q⟩
    · cases e
  all_goals (simp only [listAt] at e; cases e)
def oTuple : FD := fun ds S => match ds with
  | [.tup xs] => .ok (.tup xs) S
  | [d] => (match listAt S d with
    | some xs => .ok (.tup xs) S
    | none => .bad)
  | _ => .bad
theorem c_oTuple : CallR X (.type "tuple") (RC X.K oTuple) := by
  intro pins s σ H vs us Q I rv ⟨W, ρ, σ', O, S, ds, st, r, h⟩
  unfold oTuple at h
  split at h
  · obtain ⟨v, rfl, r1⟩ := r.one
    obtain ⟨p, ys, rfl, h1, q⟩ := r1
    exact call_tuple_of pins s σ H _ us Q I rv ⟨p, ys, rfl, .inr ⟨sqT_of h1, After.ok h st ⟨p, ys, rfl, h1, q⟩⟩⟩
  · obtain ⟨v, rfl, r1⟩ := r.one
    split at h
    · rename_i xs hx
      obtain ⟨p, ys, rfl, hs, rs⟩ := list_rep st hx r1
      refine call_tuple_of pins s σ H _ us Q I rv ⟨p, ys, rfl, .inl ⟨hs, fun l hl => ?_⟩⟩
      obtain ⟨e2, st2⟩ := st.new (o := .tup ys) hl
      exact h O _ _ e2 st2 ⟨l, _, rfl, .inl upd_same, rs.mono (e2.w st.wf)⟩
    · exact h.elim
  · exact h.elim
end
/-! ### methods of texts -/
section
variable {X : Cx} {W : WX} {o e : Expr} {f g : ME} {apos pos : Pos}
/-- a method of one argument of a text -/
def dM1 (op : Str → D → Sto → RE D) (f g : ME) : ME := fun ρ S => (f ρ S).bind fun d S1 => match d with
  | .str x => (g ρ S1).bind fun e S2 => op x e S2
  | _ => .bad
def M1D (K : PySem.W.Frag) (r : V → List V → Hp → VK → Prop) (op : Str → D → Sto → RE D) : Prop :=
  ∀ (W : WX) (ρ : DE.Env) (σ : L2.St) (O : Ow) (H : Hp) (S : Sto) (x : Str) (y : V) (e : D) (Q : VK), Stt K O H ρ σ S → Rep K O H e y → After K W (Rep K) ρ σ O H Q (op x e S) → r (.str x) [y] H Q
theorem m1_imp {r : V → List V → Hp → VK → Prop} {op : Str → D → Sto → RE D} (ho : M1D X.K r op) {σ : L2.St} {H : Hp} {Q : VK} (h : tE X.K W (dM1 op f g) σ H Q) : tM1 r (tE X.K W f) (tE X.K W g) σ H Q := by
  obtain ⟨O, ρ, S, st, h⟩ := h
  refine ⟨O, ρ, S, st, After.seq h fun d S1 O1 H1 v e1 st1 r1 h1 => ?_⟩
  cases d <;> try exact h1.elim
  cases (show v = _ from r1)
  exact ⟨⟨_, rfl⟩, O1, ρ, S1, st1, After.seq h1 fun e S2 O2 H2 y e2 st2 r2 h2 => ho W ρ σ O2 H2 S2 _ y e Q st2 r2 h2⟩
def strsOf : List D → Option (List Str)
  | [] => some []
  | .str x :: ds => (strsOf ds).map (x :: ·)
  | _ => none
theorem strs_rep {K : PySem.W.Frag} {O : Ow} {H : Hp} : ∀ {ds : List D} {bs : List Str} {vs : List V}, strsOf ds = some bs → Reps K O H ds vs → vs = bs.map V.str
  | [], _, _, e, r => by cases e; cases r; rfl
  | d :: ds, _, _, e, r => by
    obtain ⟨v, vr, rfl, r1, r2⟩ := r
    cases d <;> simp only [strsOf] at e <;> try cases e
    cases q : strsOf ds with
    | none => rw [q] at e; cases e
    | some bs => rw [q] at e; cases e; rw [show v = _ from r1, strs_rep q r2]; rfl
def oJoin (x : Str) (d : D) (S : Sto) : RE D := match seqOf S d with
  | some ds => (match strsOf ds with
    | some ys => if (ys.map (·.length)).sum + ys.length * x.length ≤ cap then .ok (.str (Txt.join x ys)) S else .bad
    | none => .bad)
  | none => .bad
theorem de_join (ho : DE X W o f) (he : DE X W e g) (hs : starEach [e] X.env = [(false, eval e X.env)] := by rfl) (hbase : attributeBase o "join" X.env (eval o X.env) = eval o X.env := by rfl) (hline : (apos.endLine == pos.line) = true := by rfl) :
    DE X W (.Call (.Attribute o "join" apos) [e] [] pos) (dM1 oJoin f g) :=
  ⟨PE.imp (pe_join ho.pe he.pe hs hbase hline) fun _ _ _ h => m1_imp (fun W ρ σ O H S x y e Q st r h => by
    unfold oJoin at h
    split at h
    · rename_i ds hd
      split at h
      · rename_i ys hy
        obtain ⟨hc, h⟩ := After.ite h
        obtain ⟨p, xs, rfl, hs, rs⟩ := seq_rep st hd r
        have e := strs_rep hy rs
        subst e
        exact ⟨x, p, ys, rfl, rfl, hs, Nat.le_trans hc (by decide), After.ok h st rfl⟩
      · exact h.elim
    · exact h.elim) h⟩
end
end DE

set_option maxHeartbeats 4000000
namespace DE
open PySem PySem.Spec PyProof.Rows L2
section
variable {X : Cx} {W : WX} {o e i : Expr} {es : List Expr} {f g h : ME} {fa : MA} {apos pos p2 : Pos}
/-- xs.append(e), xs a list that changes -/
def dApp (f : ME) (g : MA) : ME := fun ρ S => (f ρ S).bind fun d S1 => match d with
  | .own k => (match S1[k]? with
    | some (.lst _) => (g ρ S1).bind fun es S2 => (match es, S2[k]? with
      | [e], some (.lst ds) => if ds.length < cap then .ok .non (S2.set k (.lst (ds ++ [e]))) else .bad
      | _, _ => .bad)
    | _ => .bad)
  | _ => .bad
theorem de_app (ho : DE X W o f) (ha : DA X W (e :: es) fa)
    (hbase : attributeBase o "append" X.env (eval o X.env) = eval o X.env := by rfl)
    (hfew : ((backTo pos (starEach (e :: es) X.env)).all (fun x => !x.1) && (backToKw pos (keywordEach [] X.env)).all (fun x => x.1.isSome)
      && decide ((e :: es).length + ([] : List Keyword).length + (if ([] : List Keyword).isEmpty then 0 else 1) < 30)) = true := by rfl)
    (hline : (apos.endLine == pos.line) = true := by rfl) (hs : starEach (e :: es) X.env = (false, eval e X.env) :: starEach es X.env := by rfl) (hplain : (backTo pos (starEach es X.env)).any (·.1) = false := by rfl) :
    DE X W (.Call (.Attribute o "append" apos) (e :: es) [] pos) (dApp f fa) :=
  ⟨PE.imp (pe_bm PySem.F.plainAttrs_list PySem.F.slot_list_append PySem.F.type_list_append mt_append ho.pe ha.pa hbase hfew hline hs hplain) fun σ H Q ⟨O, ρ, S, st, h⟩ => ⟨O, ρ, S, st, After.seq h fun d S1 O1 H1 v e1 st1 r1 h1 => by
    cases d <;> try exact h1.elim
    rename_i k
    obtain ⟨a, ha, rfl⟩ := r1
    have h1' : After X.K W (Rep X.K) ρ σ O1 H1 Q (match S1[k]? with
      | some (.lst _) => (fa ρ S1).bind fun es S2 => (match es, S2[k]? with
        | [e], some (.lst ds) => if ds.length < cap then .ok .non (S2.set k (.lst (ds ++ [e]))) else .bad
        | _, _ => .bad)
      | _ => .bad) := h1
    split at h1'
    · rename_i ds hk
      obtain ⟨xs, hx, rx⟩ := st1.wf.cell k a _ ha hk
      refine ⟨.inl ⟨rfl, xs, SqL.of hx⟩, O1, ρ, S1, st1, After.seq h1' fun es S2 O2 H2 vs e2 st2 r2 h2 => ?_⟩
      split at h2
      · rename_i z ds2 hk2
        obtain ⟨v, rfl, rv⟩ := r2.one
        obtain ⟨hc, h2⟩ := After.ite h2
        have ha2 := e2.at ha
        obtain ⟨ys, hy, ry⟩ := st2.wf.cell k a _ ha2 hk2
        refine ⟨a, ys, v, rfl, rfl, hy, by rw [← ry.length]; exact cap_lt hc, ?_⟩
        obtain ⟨e3, st3⟩ := st2.mut (o := .lst (ys ++ [v])) (d := .lst (ds2 ++ [z])) ha2 fun e3 => ⟨_, upd_same, (ry.mono (e3.w st2.wf)).append ⟨v, [], rfl, rv.mono (e3.w st2.wf), rfl⟩⟩
        exact h2 O2 _ _ e3 st3 rfl
      · exact h2.elim
    · exact h1'.elim⟩⟩
/-- xs[i] = e, xs a list that changes -/
def sSetIx (f fo fi : ME) : MS := fun ρ S => (f ρ S).stm ρ fun d S1 => (fo ρ S1).stm ρ fun o S2 => (fi ρ S2).stm ρ fun i S3 => match o, i with
  | .own k, .int n => (match S3[k]? with
    | some (.lst ds) => (match ixN ds.length n with
      | some j => .nx ρ (S3.set k (.lst (ds.set j d)))
      | none => .bad)
    | _ => .bad)
  | _, _ => .bad
theorem ds_setIx (he : DE X W e f) (ho : DE X W o g) (hi : DE X W i h) (hs : swapsWithSole [.Subscript o i p2] e pos.line X.env = pure false := by rfl) (hw : swappedStores [.Subscript o i p2] e X.env = pure none := by rfl) (h1 : (assignEach [.Subscript o i p2] X.env).map (·.2) = [assign (.Subscript o i p2) X.env] := by rfl)
    (harm : ∀ v, assign (.Subscript o i p2) X.env v = (do let ov ← holding [v] (eval o X.env); let iv ← holding [v, ov] (eval i X.env); standAt p2; holding [v, ov, iv] (setItem ov iv v); release [v, ov, iv] []) := by intro _; rfl) :
    DS X W (.Assign [.Subscript o i p2] e pos) (sSetIx f g h) :=
  ⟨PS.imp (ps_asg he.pe (pg_sub ho.pe hi.pe set_list harm) hs hw h1) fun D' σ H ⟨O, ρ, S, st, h⟩ => ⟨O, ρ, S, st, AfterS.seqE h fun d S1 O1 H1 v e1 st1 r1 h1 => ⟨O1, ρ, S1, st1, AfterS.seqE h1 fun od S2 O2 H2 vo e2 st2 r2 h2 => ⟨O2, ρ, S2, st2, AfterS.seqE h2 fun idt S3 O3 H3 vi e3 st3 r3 h3 => by
    cases od <;> try exact h3.elim
    cases idt <;> try exact h3.elim
    rename_i k n
    have h4 : AfterS X.K W D' O3 H3 (match S3[k]? with | some (.lst ds) => (match ixN ds.length n with | some j => .nx ρ (S3.set k (.lst (ds.set j d))) | none => .bad) | _ => .bad) := h3
    obtain ⟨a, ha, rfl⟩ := r2
    split at h4
    · rename_i ds hk
      split at h4
      · rename_i j hj
        have ha3 := e3.at ha
        obtain ⟨ys, hy, ry⟩ := st3.wf.cell k a _ ha3 hk
        refine ⟨a, ys, n, j, rfl, r3, hy, by rw [← ry.length]; exact hj, ?_⟩
        have r1' := r1.mono ((e2.trans e3).w st1.wf)
        obtain ⟨e5, st5⟩ := st3.mut (o := .lst (ys.set j v)) (d := .lst (ds.set j d)) ha3 fun e5 => ⟨_, upd_same, Reps.set (r1'.mono (e5.w st3.wf)) j (ry.mono (e5.w st3.wf))⟩
        exact h4 O3 _ σ e5 st5
      · exact h4.elim
    · exact h4.elim⟩⟩⟩⟩
theorem chain_imp {o1 o2 : D → D → Sto → RE D} {σ : L2.St} {H : Hp} {Q : VK} (hq : tE X.K W (dChain o1 o2 f g h) σ H Q) :
    tE X.K W f σ H fun x H1 => tE X.K W g σ H1 fun y H2 => RD X.K o1 x y H2 fun z H3 => ∃ k, z = .bl k ∧ if k = true then tE X.K W h σ H3 fun w H4 => RD X.K o2 y w H4 Q else Q (.bl false) H3 := by
  obtain ⟨O, ρ, S, st, hq⟩ := hq
  refine ⟨O, ρ, S, st, After.seq hq fun x S1 O1 H1 v1 e1 st1 r1 h1 => ⟨O1, ρ, S1, st1, After.seq h1 fun y S2 O2 H2 v2 e2 st2 r2 h2 => ?_⟩⟩
  refine ⟨W, ρ, σ, O2, S2, x, y, st2, r1.mono (e2.w st1.wf), r2, After.seq h2 fun d S3 O3 H3 v3 e3 st3 r3 h3 => ?_⟩
  cases d <;> try exact h3.elim
  rename_i k
  refine ⟨k, r3, ?_⟩
  cases k with
  | true => exact iteT ⟨O3, ρ, S3, st3, After.seq h3 fun z S4 O4 H4 v4 e4 st4 r4 h4 => ⟨W, ρ, σ, O4, S4, y, z, st4, r2.mono ((e3.trans e4).w st2.wf), r4, h4⟩⟩
  | false => exact iteF (After.ok h3 st3 rfl)
theorem de_chain {a b c : Expr} {op op' : CmpOp} {o1 o2 : D → D → Sto → RE D} (h1 : OpR X (compareOp op) (RD X.K o1)) (h2 : OpR X (compareOp op') (RD X.K o2)) (ha : DE X W a f) (hb : DE X W b g) (hc : DE X W c h)
    (hm : lastMarks [op, op'] [b, c] = false := by with_unfolding_all rfl) : DE X W (.Compare a [op, op'] [b, c] pos) (dChain o1 o2 f g h) := ⟨PE.imp (pe_chain h1 h2 ha.pe hb.pe hc.pe hm) fun _ _ _ q => chain_imp q⟩
theorem dt_chain {a b c : Expr} {op op' : CmpOp} {o1 o2 : D → D → Sto → RE D} (h1 : OpR X (compareOp op) (RD X.K o1)) (h2 : OpR X (compareOp op') (RD X.K o2)) (ha : DE X W a f) (hb : DE X W b g) (hc : DE X W c h)
    (hm : lastMarks [op, op'] [b, c] = false := by with_unfolding_all rfl) : DT X W (.Compare a [op, op'] [b, c] pos) (dTest (dChain o1 o2 f g h)) := ⟨PT.imp (pt_chain h1 h2 ha.pe hb.pe hc.pe hm) fun _ _ _ q => test_imp (fun _ _ _ z => chain_imp z) q⟩
/-! ### -e -/
def dNeg (f : ME) : ME := fun ρ S => (f ρ S).bind fun d S1 => match d with
  | .int i => .ok (.int (-i)) S1
  | _ => .bad
theorem de_neg (ha : DE X W e f) : DE X W (.UnaryOp .USub e pos) (dNeg f) := ⟨PE.imp (pe_un un_neg ha.pe) fun σ H Q ⟨O, ρ, S, st, h⟩ => ⟨O, ρ, S, st, After.seq h fun d S1 O1 H1 v e1 st1 r1 h1 => by
  cases d <;> try exact h1.elim
  exact ⟨_, r1, After.ok h1 st1 rfl⟩⟩⟩
/-- an empty dict -/
def dDictE : ME := fun _ S => .ok (.dK []) S
theorem de_dict0 : DE X W (.Dict [] [] pos) dDictE := ⟨PE.imp pe_dnewK fun σ H Q ⟨O, ρ, S, st, h⟩ => fun p hp => by
  obtain ⟨e2, st2⟩ := st.new (o := .dK []) hp
  exact h O _ _ e2 st2 ⟨p, [], rfl, st.no hp, .inl upd_same, rfl⟩⟩
end
/-! ### short words -/
section
variable {X : Cx} {W : WX} {x : Str} {pos : Pos}
theorem dv (i : Nat) (hN : X.N[i]? = some x := by rfl) (hv : Vis X.env.scope x := by first | exact Or.inl rfl | exact Or.inr (Or.inl rfl) | exact Or.inr (Or.inr rfl)) (hd : (x == ("__debug__" : Str)) = false := by decide) (hcd : (x == ("__classdict__" : Str)) = false := by decide) : DE X W (.Name x pos) (dVar i) := de_var i hN hv hd hcd
theorem de_gstr {z : Str} (h : ∃ t, X.mg x = some (.str z t)) (hg : Gl X x := by rfl) (hd : (x == ("__debug__" : Str)) = false := by decide) : DE X W (.Name x pos) (dC (.str z)) := by
  obtain ⟨t, h⟩ := h
  exact de_glob (v := .str z) hg h ⟨t, rfl⟩ (fun _ _ => rfl) hd
theorem de_gint {z : Int} (h : ∃ t, X.mg x = some (.int z t)) (hg : Gl X x := by rfl) (hd : (x == ("__debug__" : Str)) = false := by decide) : DE X W (.Name x pos) (dC (.int z)) := by
  obtain ⟨t, h⟩ := h
  exact de_glob (v := .int z) hg h ⟨t, rfl⟩ (fun _ _ => rfl) hd
end
/-! ### defs by their names -/
section
variable {P : Program} {w : World} {K : PySem.W.Frag} {mg : Str → Option Value} {base : Heap}
structure Fn (P : Program) (w : World) (K : PySem.W.Frag) (mg : Str → Option Value) (base : Heap) (k : Nat) (x : Str) (n : Nat) (F : FD) : Prop where
  ok : ∃ fd ps, FnOk P w K mg base (L2.CX P w) k (He.ga K x) fd ps (spD K n F) ∧ Binds K fd ps []
  gl : mg x = some (.ref (He.ga K x))
  kp : PySem.W.keepIn K (.ref (He.ga K x)) = true
theorem Fn.imp {k n : Nat} {x : Str} {F G : FD} (h : Fn P w K mg base k x n F) (hk : ∀ ds S, G ds S ≠ .bad → F ds S = G ds S) : Fn P w K mg base k x n G := by
  obtain ⟨⟨fd, ps, h1, h2⟩, h3, h4⟩ := h
  refine ⟨⟨fd, ps, h1.imp (fun vs H Q E hh => ?_), h2⟩, h3, h4⟩
  obtain ⟨O, S, ds, wf, r, hl, h⟩ := hh
  refine ⟨O, S, ds, wf, r, hl, ?_⟩
  rw [hk ds S fun z => by rw [z] at h; exact h]
  exact h
end
section
variable {X : Cx} {W : WX} {e : Expr} {es : List Expr} {x : Str} {k j n : Nat} {F : FD} {fa : MA} {p pos : Pos}
theorem de_fn (G : Fn X.prog X.w X.K X.mg X.base k x n F) (hr : Room j X.A) (hg : Gl X x) (tk : Takes X W) (ha : DA X W (e :: es) fa) (hk : k ≤ j := by decide) (hdb : (x == ("__debug__" : Str)) = false := by decide) (he : starEach (e :: es) X.env = (false, eval e X.env) :: starEach es X.env := by rfl) (hpl : (backTo pos (starEach es X.env)).any (·.1) = false := by rfl) :
    DE X W (.Call (.Name x p) (e :: es) [] pos) (dCall n F [] fa) := by
  obtain ⟨fd, ps, h1, h2⟩ := G.ok
  exact de_call h1 (hr.mono hk) hg G.gl G.kp h2 .nil (fun _ _ => rfl) tk ha hdb he hpl
end
/-- what may leave, whatever the world -/
def CXA : CXT := fun outer H s E u s' => ∃ P w, L2.CX P w outer H s E u s'
theorem fn_any {P : Program} {w : World} {K : PySem.W.Frag} {mg : Str → Option Value} {base : Heap} {k : Nat} {f : Addr} {fd : FuncData} {ps : List Str} {sp : Sp} (F : FnOk P w K mg base (L2.CX P w) k f fd ps sp) : FnOk P w K mg base CXA k f fd ps sp :=
  ⟨F.len, fun A outer s H args us vs Q E hr he hb hv hs => codeAny_mono (F.run A outer s H args us vs Q E hr he hb hv hs) fun r s' h => by
    cases r with
    | error e => exact ⟨P, w, h⟩
    | ok f => cases f <;> exact h⟩
theorem CXA.no {H : Hp} {s : Shared} {e : Value} {s' : Shared} (h : CXA [] H s (fun _ _ _ => False) e s') : False := by
  obtain ⟨P, w, _, _, _, _, _, _, _, _, _, _, _, _, z⟩ := h
  exact z
end DE

set_option maxHeartbeats 4000000
namespace DE
open PySem PySem.Spec PyProof.Rows L2
/-! ### match -/
abbrev Bd := List (Nat × D)
/-- none: not told; some none: no match -/
abbrev MP := D → Option (Option Bd)
def BRel (X : Cx) (O : Ow) (H : Hp) : List (Str × Value) → Bd → Prop := Paired fun p q => X.N[q.1]? = some p.1 ∧ X.env.scope.names.lookup p.1 = some .local ∧ ∃ v, RelV v p.2 ∧ Rep X.K O H q.2 v
def MRel (X : Cx) (O : Ow) (H : Hp) : Option (List (Str × Value)) → Option Bd → Prop
  | none, none => True
  | some bs, some bd => BRel X O H bs bd
  | _, _ => False
structure DPt (X : Cx) (p : Pattern) (f : MP) : Prop where
  run : ∀ pins s σ H v u O ρ S d r, Inv X pins σ H s → RelV v u → Stt X.K O H ρ σ S → Rep X.K O H d v → f d = some r → wpAny (model X.prog X.w) X.A (matchPattern p X.env u) (fun bs s' => ∃ H', Inv X pins σ H' s' ∧ Ext O H O H' ∧ Stt X.K O H' ρ σ S ∧ MRel X O H' bs r) X.xe s
structure DPs (X : Cx) (ps : List Pattern) (f : List D → Option (Option Bd)) : Prop where
  run : ∀ pins s σ H vs us O ρ S ds r, Inv X pins σ H s → Vals vs us → Stt X.K O H ρ σ S → Reps X.K O H ds vs → f ds = some r → wpAny (model X.prog X.w) X.A (matchEach ps X.env us) (fun bs s' => ∃ H', Inv X pins σ H' s' ∧ Ext O H O H' ∧ Stt X.K O H' ρ σ S ∧ MRel X O H' bs r) X.xe s
theorem BRel.mono {X : Cx} {O : Ow} {H H' : Hp} (e : ExtW O H O H') : ∀ {a : List (Str × Value)} {b : Bd}, BRel X O H a b → BRel X O H' a b
  | _, _, .nil => .nil
  | _, _, .cons ⟨h1, h2, v, h3, h4⟩ t => .cons ⟨h1, h2, v, h3, h4.mono e⟩ (BRel.mono e t)
theorem BRel.app {X : Cx} {O : Ow} {H : Hp} : ∀ {a b : List (Str × Value)} {c d : Bd}, BRel X O H a c → BRel X O H b d → BRel X O H (a ++ b) (c ++ d)
  | _, _, _, _, .nil, h => h
  | _, _, _, _, .cons r t, h => .cons r (BRel.app t h)
section
variable {X : Cx} {W : WX} {pos : Pos}
/-- a name -/
def pNm (i : Nat) : MP := fun d => some (some [(i, d)])
def pAny : MP := fun _ => some (some [])
theorem dp_name (i : Nat) {x : Str} (hi : X.N[i]? = some x := by rfl) (hl : X.env.scope.names.lookup x = some .local := by rfl) : DPt X (.MatchAs none (some x) pos) (pNm i) := ⟨fun pins s σ H v u O ρ S d r I rv st rd e => by
  cases e
  exact wpAny_matchPattern_Capture ⟨H, I, .refl, st, .cons ⟨hi, hl, v, rv, rd⟩ .nil⟩⟩
theorem dp_any : DPt X (.MatchAs none none pos) pAny := ⟨fun pins s σ H v u O ρ S d r I rv st rd e => by
  cases e
  exact wpAny_matchPattern_Capture ⟨H, I, .refl, st, .nil⟩⟩
/-- a written text -/
def pStr (x : Str) : MP := fun d => (eqD d (.str x)).map fun b => if b = true then some [] else none
theorem dp_str {x : Str} {j} {pos' : Pos} (hu : X.A.units + 64 < cLine) : DPt X (.MatchValue (.Constant (.str x) j pos') pos) (pStr x) := ⟨fun pins s σ H v u O ρ S d r I rv st rd e => by
  unfold pStr at e
  cases q : eqD d (.str x) with
  | none => rw [q] at e; cases e
  | some b =>
    rw [q] at e
    cases e
    refine wpAny_matchPattern_Value (thn ((pe_str (X := X) (x := x) (j := j) (pos := pos')).run pins s σ H (fun y H1 => y = .str x ∧ H1 = H) I ⟨rfl, rfl⟩) fun u2 s1 ⟨y, H1, I1, r1, ey, eH⟩ => ?_)
    subst ey eH
    obtain ⟨p, q', e1, e2, s1', s2', rfl⟩ := eqD_some q
    refine thn (op_eqD hu pins s1 σ H1 v (.str x) u u2 (fun z H2 => z = .bl (PyData.eqv p q') ∧ H2 = H1) I1 rv r1 ⟨p, q', dp_of e1 rd, dp_of (K := X.K) (O := O) (H := H1) e2 (show Rep X.K O H1 (.str x) (.str x) from rfl), s1', s2', rfl, rfl⟩) fun c s2 ⟨z, H2, I2, r2, ez, eH⟩ => ?_
    subst ez eH
    cases r2
    refine wpAny_truthy_bool ?_
    cases PyData.eqv p q' with
    | true => exact ⟨_, I2, .refl, st, .nil⟩
    | false => exact ⟨_, I2, .refl, st, trivial⟩⟩
/-- None -/
def pNon : MP := fun d => match d with
  | .non => some (some [])
  | .bl _ => some none
  | .int _ => some none
  | .str _ => some none
  | .tup _ => some none
  | .lst _ => some none
  | _ => none
theorem dp_non : DPt X (.MatchSingleton .none pos) pNon := ⟨fun pins s σ H v u O ρ S d r I rv st rd e => by
  cases d <;> simp only [pNon] at e <;> cases e
  case non => cases (show v = _ from rd); cases (show u = _ from rv); exact wpAny_matchPattern_Singleton_None ⟨H, I, .refl, st, .nil⟩
  case bl => cases (show v = _ from rd); cases (show u = _ from rv); exact wpAny_matchPattern_Singleton_miss rfl ⟨H, I, .refl, st, trivial⟩
  case int => cases (show v = _ from rd); obtain ⟨t, rfl⟩ := (show ∃ t, u = _ from rv); exact wpAny_matchPattern_Singleton_miss rfl ⟨H, I, .refl, st, trivial⟩
  case str => cases (show v = _ from rd); obtain ⟨t, rfl⟩ := (show ∃ t, u = _ from rv); exact wpAny_matchPattern_Singleton_miss rfl ⟨H, I, .refl, st, trivial⟩
  case tup => obtain ⟨a, xs, rfl, _⟩ := rd; cases (show u = _ from rv); exact wpAny_matchPattern_Singleton_miss rfl ⟨H, I, .refl, st, trivial⟩
  case lst => obtain ⟨a, xs, rfl, _⟩ := rd; cases (show u = _ from rv); exact wpAny_matchPattern_Singleton_miss rfl ⟨H, I, .refl, st, trivial⟩⟩
/-- one by one -/
def psNil : List D → Option (Option Bd) := fun _ => some (some [])
def psCons (f : MP) (g : List D → Option (Option Bd)) : List D → Option (Option Bd) := fun ds => match ds with
  | [] => none
  | d :: r => (f d).bind fun x => match x with
    | none => some none
    | some bs => (g r).map fun y => match y with
      | none => none
      | some cs => some (bs ++ cs)
theorem dps_nil : DPs X [] psNil := ⟨fun pins s σ H vs us O ρ S ds r I rv st rd e => by
  cases e
  exact wpAny_matchEach_nil ⟨H, I, .refl, st, .nil⟩⟩
theorem dps_cons {p : Pattern} {ps : List Pattern} {f : MP} {g : List D → Option (Option Bd)} (h1 : DPt X p f) (h2 : DPs X ps g) (hp : p.isStar = false := by rfl) : DPs X (p :: ps) (psCons f g) := ⟨fun pins s σ H vs us O ρ S ds r I rv st rd e => by
  rcases ds with _ | ⟨d, ds⟩
  · cases e
  obtain ⟨v, vr, rfl, r1, r2⟩ := rd
  cases rv with
  | cons rv1 rv2 =>
    have e : (f d).bind _ = some r := e
    cases q : f d with
    | none => rw [q] at e; cases e
    | some x =>
      rw [q] at e
      refine wpAny_matchEach_cons (thn (h1.run pins s σ H _ _ O ρ S d x I rv1 st r1 q) fun bs s1 ⟨H1, I1, g1, st1, m1⟩ => ?_) hp
      cases x with
      | none =>
        cases e
        cases bs with
        | none => exact ⟨H1, I1, g1, st1, trivial⟩
        | some _ => exact m1.elim
      | some bd =>
        cases bs with
        | none => exact m1.elim
        | some bs =>
          have e : (g ds).map _ = some r := e
          cases q2 : g ds with
          | none => rw [q2] at e; cases e
          | some y =>
            rw [q2] at e
            cases e
            refine thn (h2.run pins s1 σ H1 _ _ O ρ S ds y I1 rv2 st1 (r2.mono (g1.w st.wf)) q2) fun cs s2 ⟨H2, I2, g2, st2, m2⟩ => ?_
            cases y with
            | none =>
              cases cs with
              | none => exact ⟨H2, I2, g1.trans g2, st2, trivial⟩
              | some _ => exact m2.elim
            | some cd =>
              cases cs with
              | none => exact m2.elim
              | some cs => exact ⟨H2, I2, g1.trans g2, st2, BRel.app (BRel.mono (g2.w st1.wf) m1) m2⟩⟩
/-- the star at the end -/
def psStar (i : Nat) : List D → Option (Option Bd) := fun ds => match ds with
  | [d] => some (some [(i, d)])
  | _ => none
theorem dps_star (i : Nat) {x : Str} (hi : X.N[i]? = some x := by rfl) (hl : X.env.scope.names.lookup x = some .local := by rfl) : DPs X [.MatchStar (some x) pos] (psStar i) := ⟨fun pins s σ H vs us O ρ S ds r I rv st rd e => by
  rcases ds with _ | ⟨d, _ | ⟨_, _⟩⟩
  · cases e
  · cases e
    obtain ⟨v, vr, rfl, r1, r2⟩ := rd
    cases r2
    cases rv with
    | cons rv1 rv2 =>
      cases rv2
      refine PySem.W.kun_each (wpAny_matchEach_nil ?_)
      exact ⟨H, I, .refl, st, .cons ⟨hi, hl, v, rv1, r1⟩ .nil⟩
  · cases e⟩
/-- a row of just n -/
def pSeq (n : Nat) (g : List D → Option (Option Bd)) : MP := fun d => match d with
  | .tup ds => if ds.length = n then g ds else some none
  | .lst ds => if ds.length = n then g ds else some none
  | _ => none
theorem ext_kept {h h' : Heap} (e : Heap.ExtBut h.objs.size h h') : ∀ b u, h.get? b = some u → h'.get? b = some u := fun b u z => e b u (Nat.ne_of_lt (Heap.lt_size z)) z
theorem plain_is {h : Heap} {a : Addr} {its : Array Value} (p : PlainL h a its) : h.IsList a its := by
  obtain ⟨o, n, h1, h2, h3, h4⟩ := p
  exact ⟨o, h1, h2, n, h4⟩
theorem dp_seq {ps : List Pattern} {g : List D → Option (Option Bd)} {n : Nat} (hc : X.calm = true) (h : DPs X ps g) (hn : ps.length = n := by rfl) (hstar : ps.findIdx? (·.isStar) = none := by rfl)
    (hwild : (ps.all fun p => p.isWildcard || (p.isStar && p.names.isEmpty)) = false := by rfl) : DPt X (.MatchSequence ps pos) (pSeq n g) := ⟨fun pins s σ H v u O ρ S d r I rv st rd e => by
  cases d <;> simp only [pSeq] at e <;> try cases e
  case tup ds =>
    obtain ⟨a, xs, rfl, h1, h2⟩ := rd
    cases (show u = _ from rv)
    obtain ⟨its, rvs, ht, hz⟩ := I.tuple (sqT_of h1)
    have hl : its.length = xs.length := rvs.length.symm
    have hfit : ((its.toArray).size : Int) < 2 ^ 63 := by
      rw [List.size_toArray, hl]
      rw [sizeLine_eq] at hz
      omega
    by_cases hm : ds.length = n
    · rw [if_pos hm] at e
      have hsz : its.toArray.size = ps.length := by rw [List.size_toArray, hl, ← h2.length, hm, hn]
      refine matchSeq_tuple_hit ht hfit hsz ?_ hstar hwild
      rw [← hsz]
      refine unpackItems_tuple (I.ok.hd hc) (show IsTup s.heap a its.toArray from ht) fun h' eb => ?_
      exact h.run pins _ σ H xs its O ρ S ds r (I.kept (t' := s.toks + 1 + 1) (ext_kept eb)) rvs st h2 e
    · rw [if_neg hm] at e
      cases e
      exact matchSeq_tuple_miss ht hfit (by rw [List.size_toArray, hl, ← h2.length, hn]; exact hm) ⟨H, I.tok _, .refl, st, trivial⟩ hstar hwild
  case lst ds =>
    obtain ⟨a, xs, rfl, h0, h1, h2⟩ := rd
    cases (show u = _ from rv)
    obtain ⟨its, rvs, ht, hz⟩ := I.list (SqL.of h1)
    have hl : its.length = xs.length := rvs.length.symm
    have hfit : ((its.toArray).size : Int) < 2 ^ 63 := by
      rw [List.size_toArray, hl]
      rw [sizeLine_eq] at hz
      omega
    by_cases hm : ds.length = n
    · rw [if_pos hm] at e
      have hsz : its.toArray.size = ps.length := by rw [List.size_toArray, hl, ← h2.length, hm, hn]
      refine matchSeq_list_hit (plain_is ht) hfit hsz ?_ hstar hwild
      rw [← hsz]
      refine PySem.W.kun_itemsOf (I.ok.hd hc) (plain_is (show PlainL s.heap a its.toArray from ht)) fun h' eb => ?_
      exact h.run pins _ σ H xs its O ρ S ds r (I.kept (t' := s.toks + 1 + 1) (ext_kept eb)) rvs st h2 e
    · rw [if_neg hm] at e
      cases e
      exact matchSeq_list_miss (plain_is ht) hfit (by rw [List.size_toArray, hl, ← h2.length, hn]; exact hm) ⟨H, I.tok _, .refl, st, trivial⟩ hstar hwild⟩
/-- a row with a star at its end; n patterns, the star counted -/
def pSeqS (n : Nat) (g : List D → Option (Option Bd)) : MP := fun d => match d with
  | .tup ds => if ds.length ≤ 16384 then (if ds.length + 1 < n then some none else g (ds.take (n - 1) ++ [.lst (ds.drop (n - 1))])) else none
  | .lst ds => if ds.length ≤ 16384 then (if ds.length + 1 < n then some none else g (ds.take (n - 1) ++ [.lst (ds.drop (n - 1))])) else none
  | _ => none
theorem star_listU {prog : Program} {w : World} {A : Around} {E : Value → Shared → Prop} {s : Shared} {l : Addr} {items : Array Value} {n : Nat} {Q : List Value → Shared → Prop} (hl : s.heap.IsList l items) (hh : A.handled = none) (hi : n - 1 < n) (hn : n ≤ items.size + 1) (hz : items.size ≤ 16384)
    (h : ∀ (h' : Heap) (tk : Nat), (∀ b o, s.heap.get? b = some o → h'.get? b = some o) → Q (items.toList.take (n - 1) ++ [.ref h'.objs.size]) { s with heap := h'.push { cls := .type "list", data := .seq (items.toList.drop (n - 1)).toArray }, toks := tk }) : wpAny (model prog w) A (unpackItems (.ref l) n (some (n - 1))) Q E s := by
  have hlt : l ≠ s.heap.objs.size := by obtain ⟨o, ho, _⟩ := hl; exact Nat.ne_of_lt (Heap.lt_size ho)
  unfold unpackItems
  refine wpAny_bind ?_
  unfold notIterableAtAll
  refine wpAny_bind (wpAny_specialOf hl.typeIs slot_list_iter.lookup ?_)
  refine wpAny_pure ?_
  simp only [Bool.false_eq_true, if_false]
  refine wpAny_bind (wpAny_holding (wpAny_pyIter_list hl ?_))
  refine wpAny_bind (wpAny_holding (PySem.W.kun_draw hlt (n - 1) 0 _ _ ⟨_, Heap.get?_push_size _ rfl, rfl, rfl⟩ (hl.push _) (by omega) fun h₁ hit₁ hs₁ => ?_))
  have hl₁ : h₁.IsList l items := (hl.push _).extBut hs₁.extBut hlt
  rw [Nat.zero_add] at hit₁
  have hit₁' := hit₁
  obtain ⟨oi, hoi, _⟩ := hit₁'
  have hl₁' := hl₁
  obtain ⟨ol, hol, _⟩ := hl₁'
  rw [List.drop_zero]
  have hfl : (items.toList.take (n - 1)).length = n - 1 := by rw [List.length_take, Array.length_toList]; omega
  rw [if_neg (show ¬ ((items.toList.take (n - 1)).length < n - 1) by rw [hfl]; omega)]
  refine wpAny_bind (wpAny_holding (PySem.W.kun_collect (s := { s with heap := h₁ }) (T := "list_iterator") (.inr (.inr (.inl rfl))) (Walks.list (A := A.in1) hh s.heap.objs.size l hlt items) (fun j u st => st.1.typeIs) (k := n - 1) (by omega) ⟨hit₁, hl₁⟩ (Heap.lt_size hoi) (Heap.lt_size hol) (fun h₂ tk hk => ?_) (by rw [sizeLine_eq]; omega)))
  have hrl : (items.toList.drop (n - 1)).length = items.size - (n - 1) := by rw [List.length_drop, Array.length_toList]
  show wpAny _ _ (if (items.toList.drop (n - 1)).length < n - 1 - (n - 1) then _ else _) _ _ _
  rw [if_neg (by omega)]
  show wpAny _ _ (newList ((items.toList.drop (n - 1)).take ((items.toList.drop (n - 1)).length - (n - 1 - (n - 1)))) >>= fun d => pure (items.toList.take (n - 1) ++ [d] ++ (items.toList.drop (n - 1)).drop ((items.toList.drop (n - 1)).length - (n - 1 - (n - 1))))) _ _ _
  rw [Nat.sub_self, Nat.sub_zero, List.take_length, List.drop_length]
  have he : Heap.ExtBut s.heap.objs.size s.heap h₂ := fun b o hb e => hk b o hb (hs₁.extBut b o hb (Heap.get?_push_of_some _ e))
  refine wpAny_bind (wpAny_newList ?_ (by rw [hrl, sizeLine_eq]; omega))
  refine wpAny_pure ?_
  rw [List.append_nil]
  exact h h₂ tk (ext_kept he)
theorem star_tupU {prog : Program} {w : World} {A : Around} {E : Value → Shared → Prop} {s : Shared} {l : Addr} {items : Array Value} {n : Nat} {Q : List Value → Shared → Prop} (hl : IsTup s.heap l items) (hh : A.handled = none) (hi : n - 1 < n) (hn : n ≤ items.size + 1) (hz : items.size ≤ 16384)
    (h : ∀ (h' : Heap) (tk : Nat), (∀ b o, s.heap.get? b = some o → h'.get? b = some o) → Q (items.toList.take (n - 1) ++ [.ref h'.objs.size]) { s with heap := h'.push { cls := .type "list", data := .seq (items.toList.drop (n - 1)).toArray }, toks := tk }) : wpAny (model prog w) A (unpackItems (.ref l) n (some (n - 1))) Q E s := by
  have hlt : l ≠ s.heap.objs.size := by obtain ⟨o, ho, _⟩ := hl; exact Nat.ne_of_lt (Heap.lt_size ho)
  unfold unpackItems
  refine wpAny_bind ?_
  unfold notIterableAtAll
  refine wpAny_bind (wpAny_specialOf hl.typeIs slot_tuple_iter.lookup ?_)
  refine wpAny_pure ?_
  simp only [Bool.false_eq_true, if_false]
  refine wpAny_bind (wpAny_holding (iter_tuple hl ?_))
  refine wpAny_bind (wpAny_holding (draw_tuple hlt (n - 1) 0 _ _ ⟨_, Heap.get?_push_size _ rfl, rfl, rfl⟩ (hl.push _) (by omega) fun h₁ hit₁ hs₁ => ?_))
  have hl₁ : IsTup h₁ l items := (hl.push _).extBut hs₁.extBut hlt
  rw [Nat.zero_add] at hit₁
  have hit₁' := hit₁
  obtain ⟨oi, hoi, _⟩ := hit₁'
  have hl₁' := hl₁
  obtain ⟨ol, hol, _⟩ := hl₁'
  rw [List.drop_zero]
  have hfl : (items.toList.take (n - 1)).length = n - 1 := by rw [List.length_take, Array.length_toList]; omega
  rw [if_neg (show ¬ ((items.toList.take (n - 1)).length < n - 1) by rw [hfl]; omega)]
  refine wpAny_bind (wpAny_holding (PySem.W.kun_collect (s := { s with heap := h₁ }) (T := "tuple_iterator") (.inr (.inr (.inr rfl))) (Walks.tuple (A := A.in1) hh s.heap.objs.size l hlt items) (fun j u st => st.1.typeIs) (k := n - 1) (by omega) ⟨hit₁, hl₁⟩ (Heap.lt_size hoi) (Heap.lt_size hol) (fun h₂ tk hk => ?_) (by rw [sizeLine_eq]; omega)))
  have hrl : (items.toList.drop (n - 1)).length = items.size - (n - 1) := by rw [List.length_drop, Array.length_toList]
  show wpAny _ _ (if (items.toList.drop (n - 1)).length < n - 1 - (n - 1) then _ else _) _ _ _
  rw [if_neg (by omega)]
  show wpAny _ _ (newList ((items.toList.drop (n - 1)).take ((items.toList.drop (n - 1)).length - (n - 1 - (n - 1)))) >>= fun d => pure (items.toList.take (n - 1) ++ [d] ++ (items.toList.drop (n - 1)).drop ((items.toList.drop (n - 1)).length - (n - 1 - (n - 1))))) _ _ _
  rw [Nat.sub_self, Nat.sub_zero, List.take_length, List.drop_length]
  have he : Heap.ExtBut s.heap.objs.size s.heap h₂ := fun b o hb e => hk b o hb (hs₁.extBut b o hb (Heap.get?_push_of_some _ e))
  refine wpAny_bind (wpAny_newList ?_ (by rw [hrl, sizeLine_eq]; omega))
  refine wpAny_pure ?_
  rw [List.append_nil]
  exact h h₂ tk (ext_kept he)
theorem Reps.take2 {K : PySem.W.Frag} {O : Ow} {H : Hp} : ∀ {ds : List D} {vs : List V} (n : Nat), Reps K O H ds vs → Reps K O H (ds.take n) (vs.take n) ∧ Reps K O H (ds.drop n) (vs.drop n)
  | [], _, n, r => by cases r; simp only [List.take_nil, List.drop_nil]; exact ⟨rfl, rfl⟩
  | d :: ds, _, 0, r => ⟨rfl, r⟩
  | d :: ds, _, n + 1, r => by
    obtain ⟨v, vs, rfl, h1, h2⟩ := r
    obtain ⟨a, b⟩ := Reps.take2 n h2
    exact ⟨⟨v, vs.take n, rfl, h1, a⟩, b⟩
theorem Vals.take : ∀ {vs : List V} {us : List Value} (n : Nat), Vals vs us → Vals (vs.take n) (us.take n) ∧ Vals (vs.drop n) (us.drop n)
  | _, _, 0, r => ⟨.nil, r⟩
  | _, _, n + 1, .nil => ⟨.nil, .nil⟩
  | _, _, n + 1, .cons a r => by
    obtain ⟨x, y⟩ := Vals.take n r
    exact ⟨.cons a x, y⟩
theorem Vals.app1 : ∀ {vs : List V} {us : List Value} {v : V} {u : Value}, Vals vs us → RelV v u → Vals (vs ++ [v]) (us ++ [u])
  | _, _, _, _, .nil, h => .cons h .nil
  | _, _, _, _, .cons a r, h => .cons a (Vals.app1 r h)
theorem Reps.app1 {K : PySem.W.Frag} {O : Ow} {H : Hp} : ∀ {ds : List D} {vs : List V} {d : D} {v : V}, Reps K O H ds vs → Rep K O H d v → Reps K O H (ds ++ [d]) (vs ++ [v])
  | [], _, _, _, r, h => by cases r; exact ⟨_, _, rfl, h, rfl⟩
  | d :: ds, _, _, _, r, h => by
    obtain ⟨v, vs, rfl, h1, h2⟩ := r
    exact ⟨v, _, rfl, h1, Reps.app1 h2 h⟩
/-- behind the unpacking: the new list is at its place -/
theorem star_next {g : List D → Option (Option Bd)} {ps : List Pattern} (h : DPs X ps g) {pins : List (Addr × Obj)} {s : Shared} {σ : L2.St} {H : Hp} {O : Ow} {ρ : DE.Env} {S : Sto} {ds : List D} {xs : List V} {its : List Value} {n : Nat} {r : Option Bd} {tk0 : Nat} (I : Inv X pins σ H s) (rvs : Vals xs its) (hz : xs.length ≤ sizeLine) (st : Stt X.K O H ρ σ S) (h2 : Reps X.K O H ds xs)
    (e : g (ds.take (n - 1) ++ [.lst (ds.drop (n - 1))]) = some r) (h' : Heap) (tk : Nat) (kp : ∀ b o, s.heap.get? b = some o → h'.get? b = some o) :
    wpAny (model X.prog X.w) X.A (matchEach ps X.env (its.take (n - 1) ++ [.ref h'.objs.size])) (fun bs s' => ∃ H', Inv X pins σ H' s' ∧ Ext O H O H' ∧ Stt X.K O H' ρ σ S ∧ MRel X O H' bs r) X.xe { s with heap := h'.push { cls := .type "list", data := .seq (its.drop (n - 1)).toArray }, toks := tk } := by
  have I0 : Inv X pins σ H { s with heap := h', toks := tk } := I.kept kp
  have hf : H h'.objs.size = none := I0.hok.fresh (Nat.le_refl _)
  obtain ⟨e2, st2⟩ := st.new (o := .lst (xs.drop (n - 1))) hf
  obtain ⟨v1, v2⟩ := Vals.take (n - 1) rvs
  obtain ⟨q1, q2⟩ := Reps.take2 (n - 1) (h2.mono (e2.w st.wf))
  have I2 : Inv X pins σ (upd H h'.objs.size (.lst (xs.drop (n - 1)))) { s with heap := h'.push { cls := .type "list", data := .seq (its.drop (n - 1)).toArray }, toks := tk } := I0.laid (t' := tk) (fun b u e => Heap.get?_push_of_some _ e) (Nat.le_refl _) ⟨by rw [List.length_drop]; omega, its.drop (n - 1), 0, v2, Heap.get?_push_size _ rfl⟩
  refine thn (h.run pins _ σ _ (xs.take (n - 1) ++ [.ref h'.objs.size]) _ O ρ S _ r I2 (Vals.app1 v1 (show RelV (.ref h'.objs.size) (.ref h'.objs.size) from rfl)) st2 (Reps.app1 q1 (show Rep X.K O (upd H h'.objs.size (.lst (xs.drop (n - 1)))) (.lst (ds.drop (n - 1))) (.ref h'.objs.size) from ⟨h'.objs.size, _, rfl, st.no hf, upd_same, q2⟩)) e) fun bs s2 ⟨H2, I3, g3, st3, m3⟩ => ⟨H2, I3, e2.trans g3, st3, m3⟩
theorem dp_seqS {ps : List Pattern} {g : List D → Option (Option Bd)} {n : Nat} (hc : X.calm = true) (h : DPs X ps g) (hn : ps.length = n := by rfl) (hstar : ps.findIdx? (·.isStar) = some (n - 1) := by rfl)
    (hwild : (ps.all fun p => p.isWildcard || (p.isStar && p.names.isEmpty)) = false := by rfl) (hname : (ps[n - 1]?.elim [] (·.names)).isEmpty = false := by rfl) (h1n : 1 < n := by decide) : DPt X (.MatchSequence ps pos) (pSeqS n g) := ⟨fun pins s σ H v u O ρ S d r I rv st rd e => by
  cases d <;> simp only [pSeqS] at e <;> try cases e
  case tup ds =>
    obtain ⟨a, xs, rfl, h1, h2⟩ := rd
    cases (show u = _ from rv)
    obtain ⟨its, rvs, ht, hz⟩ := I.tuple (sqT_of h1)
    have hl : its.length = xs.length := rvs.length.symm
    have hsz : its.toArray.size = ds.length := by rw [List.size_toArray, hl, ← h2.length]
    split at e
    · rename_i hk
      have hfit : ((its.toArray).size : Int) < 2 ^ 63 := by rw [hsz]; omega
      split at e
      · rename_i hm
        cases e
        exact PySem.W.kun_fewT ht hfit hstar (by omega) (by rw [hsz]; omega) ⟨H, I.tok _, .refl, st, trivial⟩
      · rename_i hm
        refine PySem.W.kun_seqT ht hfit hstar hwild hname (by omega) (by rw [hsz]; omega) ?_
        rw [hn]
        refine star_tupU (s := { s with toks := s.toks + 1 + 1 }) (show IsTup s.heap a its.toArray from ht) (I.ok.hd hc) (by omega) (by rw [hsz]; omega) (by rw [hsz]; omega) fun h' tk kp => ?_
        exact star_next h (s := { s with toks := s.toks + 1 + 1 }) (tk0 := 0) (I.tok _) rvs hz st h2 e h' tk kp
    · cases e
  case lst ds =>
    obtain ⟨a, xs, rfl, h0, h1, h2⟩ := rd
    cases (show u = _ from rv)
    obtain ⟨its, rvs, ht, hz⟩ := I.list (SqL.of h1)
    have hl : its.length = xs.length := rvs.length.symm
    have hsz : its.toArray.size = ds.length := by rw [List.size_toArray, hl, ← h2.length]
    split at e
    · rename_i hk
      have hfit : ((its.toArray).size : Int) < 2 ^ 63 := by rw [hsz]; omega
      split at e
      · rename_i hm
        cases e
        exact PySem.W.kun_fewL (plain_is ht) hfit hstar (by omega) (by rw [hsz]; omega) ⟨H, I.tok _, .refl, st, trivial⟩
      · rename_i hm
        refine PySem.W.kun_seqL (plain_is ht) hfit hstar hwild hname (by omega) (by rw [hsz]; omega) ?_
        rw [hn]
        refine star_listU (s := { s with toks := s.toks + 1 + 1 }) (plain_is (show PlainL s.heap a its.toArray from ht)) (I.ok.hd hc) (by omega) (by rw [hsz]; omega) (by rw [hsz]; omega) fun h' tk kp => ?_
        exact star_next h (s := { s with toks := s.toks + 1 + 1 }) (tk0 := 0) (I.tok _) rvs hz st h2 e h' tk kp
    · cases e⟩
/-! ### cases -/
def bindB : Bd → DE.Env → DE.Env
  | [], ρ => ρ
  | (i, d) :: r, ρ => bindB r (ρ.set i (some d))
def mCs : List (MP × MS) → D → MS
  | [], _ => sNil
  | (p, b) :: r, d => fun ρ S => match p d with
    | none => .bad
    | some none => mCs r d ρ S
    | some (some bs) => b (bindB bs ρ) S
structure DCs (X : Cx) (W : WX) (cs : List MatchCase) (f : List (MP × MS)) : Prop where
  run : ∀ pins s σ H D' v u O ρ S d first, Inv X pins σ H s → RelV v u → Stt X.K O H ρ σ S → Rep X.K O H d v → AfterS X.K W D' O H (mCs f d ρ S) → wpAny (model X.prog X.w) X.A (matchCases cs X.env u first) (SP X pins D') X.xe s
theorem dcs_nil : DCs X W [] [] := ⟨fun pins s σ H D' v u O ρ S d first I rv st rd h => wpAny_matchCases_nil ⟨σ, H, I, h O H σ .refl st⟩⟩
theorem bind_ok (hN : X.N.Nodup) {A : Around} {M : Model} {E : Value → Shared → Prop} {pins : List (Addr × Obj)} {H : Hp} {O : Ow} {S : Sto} : ∀ {bs : List (Str × Value)} {bd : Bd} {σ : L2.St} {ρ : DE.Env} {s : Shared} {Q : Unit → Shared → Prop}, BRel X O H bs bd → Inv X pins σ H s → Stt X.K O H ρ σ S →
    (∀ s' σ', Inv X pins σ' H s' → Stt X.K O H (bindB bd ρ) σ' S → Q () s') → wpAny M A (assignInOrder (bs.map fun (n, _) => bindName X.env n) (bs.map (·.2))) Q E s
  | _, _, σ, ρ, s, Q, .nil, I, st, k => wpAny_assignInOrder_none (k s σ I st)
  | _, _, σ, ρ, s, Q, .cons (a := p) (b := q) ⟨hi, hl, v, rv, rd⟩ t, I, st, k => by
    refine wpAny_assignInOrder_more ?_
    refine wpAny_bindName (x := p.1) (v := p.2) ?_
    refine store_ok I hN hi (.inl hl) rv (fun s' I' => ?_) (.inr hl)
    exact bind_ok hN t I' ⟨st.wf, st.env.set rd _⟩ k
theorem dcs_cons {p : Pattern} {b : List Stmt} {cs : List MatchCase} {f : MP} {F : MS} {r : List (MP × MS)} (hN : X.N.Nodup) (hp : DPt X p f) (hb : DSs X W b F) (hr : DCs X W cs r) : DCs X W (⟨p, none, b⟩ :: cs) ((f, F) :: r) := ⟨fun pins s σ H D' v u O ρ S d first I rv st rd h => by
  cases q : f d with
  | none => simp only [mCs, q] at h; exact h.elim
  | some y =>
    refine wpAny_matchCases_cons (thn (hp.run pins s σ H v u O ρ S d y I rv st rd q) fun bs s1 ⟨H1, I1, g1, st1, m1⟩ => ?_)
    cases y with
    | none =>
      simp only [mCs, q] at h
      cases bs with
      | none => exact hr.run pins s1 σ H1 D' v u O ρ S d false I1 rv st1 (rd.mono (g1.w st.wf)) (h.mono g1)
      | some _ => exact m1.elim
    | some bd =>
      simp only [mCs, q] at h
      cases bs with
      | none => exact m1.elim
      | some bs =>
        exact bind_ok hN m1 I1 st1 fun s2 σ2 I2 st2 => hb.pss.run pins s2 σ2 H1 D' I2 ⟨O, _, S, st2, h.mono g1⟩⟩
def sMatch (f : ME) (cs : List (MP × MS)) : MS := fun ρ S => (f ρ S).stm ρ fun d S1 => mCs cs d ρ S1
theorem ds_match {e : Expr} {f : ME} {cs : List MatchCase} {r : List (MP × MS)} (he : DE X W e f) (h : DCs X W cs r) : DS X W (.Match e cs pos) (sMatch f r) := ⟨⟨fun pins s σ H D' I ⟨O, ρ, S, st, q⟩ => by
  refine wpAny_Match (thn (he.pe.run pins s σ H (fun v H1 => ∃ O1 d S1, Stt X.K O1 H1 ρ σ S1 ∧ Rep X.K O1 H1 d v ∧ AfterS X.K W D' O1 H1 (mCs r d ρ S1)) I ⟨O, ρ, S, st, AfterS.seqE q fun d S1 O1 H1 v e1 st1 r1 h1 => ⟨O1, d, S1, st1, r1, h1⟩⟩) fun u s1 ⟨v, H1, I1, rv, O1, d, S1, st1, r1, h1⟩ => ?_)
  exact h.run pins s1 σ H1 D' v u O1 ρ S1 d true I1 rv st1 r1 h1⟩⟩
end
end DE

set_option maxHeartbeats 4000000
namespace DE
open PySem PySem.Spec PyProof.Rows L2
/-! ### facts of one's own at the end of the top -/
abbrev Xb := PySem.W.Frag → Bool
def obsX (fa : List He.Fa) (fn : List He.DefD) (xs : List Xb) (K : PySem.W.Frag) : He.AlD × Bool := (He.obsD fa fn K, xs.all fun f => f K)
def obsXG (n : Nat) (fa : List He.Fa) (fn : List He.DefD) (xs : List Xb) (g : Addr → Option Obj) : He.AlD × Bool := obsX fa fn xs (He.frG g (He.asD g n))
def hookX (n : Nat) (fa : List He.Fa) (fn : List He.DefD) (xs : List Xb) : PySem.W.Hook where
  α := He.AlD × Bool
  obs := fun s => obsXG n fa fn xs s.heap.get?
  val := fun _ => (He.valD fn, true)
  says := fun _ h => ∃ K : PySem.W.Frag, K.In h ∧ He.SaysD fa fn K ∧ (xs.all fun f => f K) = true
  of := fun _ _ e => ⟨_, He.frG_in, congrArg Prod.fst e, congrArg Prod.snd e⟩
  keeps := fun _ _ _ ⟨K, a, b, c⟩ k => ⟨K, a.keeps k, b, c⟩
theorem obsXG_eq {n : Nat} {fa : List He.Fa} {fn : List He.DefD} {xs : List Xb} {g : Addr → Option Obj} {s : Shared} (h : ∀ a, g a = s.heap.get? a) : obsXG n fa fn xs g = (hookX n fa fn xs).obs s := by
  rw [show g = s.heap.get? from funext h]; rfl
/-! ### what is asked of a class of errors -/
def oexB (K : PySem.W.Frag) (C : Addr) : Bool := (match K.lookup C with
  | some ⟨.type t, _, .cls cd, sl⟩ => t == "type" && (match cd.mro, sl.toList with
    | .ref C' :: bm, [_, _, _, _, some (.builtin n), _] => C' == C && (n == "ValueError.__new__" && (!cd.hasDel && (cd.hasDict && PySem.HandSPX.refsVE bm)))
    | _, _ => false)
  | _ => false) && (decide (PySem.W.findIn K (.ref C) "__setattr__" = some (some (.builtin "object.__setattr__"))) && (decide (PySem.W.subIn K (.ref C) (.type "BaseException") = some true) &&
    (decide (PySem.W.typeIn K (.ref C) = some (.type "type")) && PySem.W.keepIn K (.ref C))))
theorem oexB_ok {K : PySem.W.Frag} {C : Addr} (h : oexB K C = true) : OexC K C := by
  unfold oexB at h
  simp only [Bool.and_eq_true, decide_eq_true_eq] at h
  obtain ⟨h0, h1, h2, h3, h4⟩ := h
  refine ⟨?_, h1, h2, h3, h4⟩
  split at h0
  case h_2 => cases h0
  case h_1 t dd cd sl q =>
    rw [Bool.and_eq_true] at h0
    obtain ⟨ht, h0⟩ := h0
    split at h0
    case h_2 => cases h0
    case h_1 C' bm k0 k1 k2 k3 n k5 hm hs =>
      simp only [Bool.and_eq_true, beq_iff_eq, Bool.not_eq_true'] at h0 ht
      obtain ⟨e1, e2, e3, e4, e5⟩ := h0
      obtain ⟨nm, bs, mro, ns, qn, hd, sn, sub, ab, col, del⟩ := cd
      dsimp only at hm e3 e4
      obtain ⟨sl⟩ := sl
      dsimp only at hs
      subst hm e1 e2 e3 e4 ht hs
      exact ⟨nm, qn, ns, bs, bm, sn, sub, ab, col, dd, k0, k1, k2, k3, k5, q, e5⟩
/-- .. for isinstance -/
def kcB (K : PySem.W.Frag) (C : Addr) : Bool := (PySem.W.clsIn K C).isSome && (decide (PySem.W.findIn K (.ref C) "__class__" = some (some (.builtin "object.__class__"))) && (decide (PySem.W.specialIn K (.builtin "object.__class__") "__get__" = some (some (.builtin "getset_descriptor.__get__"))) &&
  (decide (PySem.W.takesIn K (.builtin "object.__class__") = some true) && decide (PySem.W.mroIn K C (.type "object") = some true))))
theorem kcB_kit {K : PySem.W.Frag} {C x : Addr} {ox : Obj} {od : Option Obj} (h : kcB K C = true) (T : XfC K C) : PySem.W.KitX K (.ref x) (.ref C) (fun h => PySem.W.InstAt h x ox C od) := by
  unfold kcB at h
  simp only [Bool.and_eq_true, decide_eq_true_eq] at h
  obtain ⟨h0, h1, h2, h3, h4⟩ := h
  exact PySem.W.kitx_exc h0 T.ga T.gg T.exC h1 h2 h3 h4
/-- the class c, of one field f -/
def x1B (c f : Str) : Xb := fun K => oexB K (He.ga K c) && (xfB K (He.ga K c) && (kcB K (He.ga K c) && (decide (PySem.W.findIn K (.ref (He.ga K c)) f = some none) &&
  (decide (PySem.W.findIn K (.ref (He.ga K c)) "__init__" = some (some (.ref (He.fAd K (c, some "__init__"))))) && decide (PySem.W.typeIn K (.ref (He.fAd K (c, some "__init__"))) = some (.type "function"))))))
structure X1 (K : PySem.W.Frag) (c f : Str) : Prop where
  o : OexC K (He.ga K c)
  x : XfC K (He.ga K c)
  k : kcB K (He.ga K c) = true
  n : PySem.W.findIn K (.ref (He.ga K c)) f = some none
  i : PySem.W.findIn K (.ref (He.ga K c)) "__init__" = some (some (.ref (He.fAd K (c, some "__init__"))))
  t : PySem.W.typeIn K (.ref (He.fAd K (c, some "__init__"))) = some (.type "function")
theorem x1B_ok {K : PySem.W.Frag} {c f : Str} (h : x1B c f K = true) : X1 K c f := by
  unfold x1B at h
  simp only [Bool.and_eq_true, decide_eq_true_eq] at h
  obtain ⟨h1, h2, h3, h4, h5, h6⟩ := h
  exact ⟨oexB_ok h1, xfB_ok h2, h3, h4, h5, h6⟩
/-- who is caught, who is an instance of what -/
def xmB (t : List ((Str × Str) × Bool)) : Xb := fun K => t.all fun q => decide (PySem.W.exmOne K (.ref (He.ga K q.1.1)) (.ref (He.ga K q.1.2)) = some q.2)
def xgB (t : List ((Str × Str) × Bool)) : Xb := fun K => t.all fun q => decide (PySem.W.kitOne K (.ref (He.ga K q.1.1)) (.ref (He.ga K q.1.2)) = some q.2)
def xtB (t : List ((Str × String) × Bool)) : Xb := fun K => t.all fun q => decide (PySem.W.kitOne K (.ref (He.ga K q.1.1)) (.type q.1.2) = some q.2)
theorem mem_of_lookup {α β : Type} [BEq α] [LawfulBEq α] : ∀ {l : List (α × β)} {a : α} {b : β}, l.lookup a = some b → (a, b) ∈ l
  | [], _, _, h => by cases h
  | (c, d) :: r, a, b, h => by
    rw [List.lookup_cons] at h
    by_cases e : a == c
    · rw [e] at h
      cases h
      rw [eq_of_beq e]
      exact List.mem_cons_self
    · simp only [Bool.not_eq_true] at e
      rw [e] at h
      exact List.mem_cons_of_mem _ (mem_of_lookup h)
theorem xmB_ok {K : PySem.W.Frag} {t : List ((Str × Str) × Bool)} (h : xmB t K = true) {c d : Str} {b : Bool} (l : t.lookup (c, d) = some b) : PySem.W.exmOne K (.ref (He.ga K c)) (.ref (He.ga K d)) = some b := of_decide_eq_true (List.all_eq_true.mp h _ (mem_of_lookup l))
theorem xgB_ok {K : PySem.W.Frag} {t : List ((Str × Str) × Bool)} (h : xgB t K = true) {c d : Str} {b : Bool} (l : t.lookup (c, d) = some b) : PySem.W.kitOne K (.ref (He.ga K c)) (.ref (He.ga K d)) = some b := of_decide_eq_true (List.all_eq_true.mp h _ (mem_of_lookup l))
theorem xtB_ok {K : PySem.W.Frag} {t : List ((Str × String) × Bool)} (h : xtB t K = true) {c : Str} {d : String} {b : Bool} (l : t.lookup (c, d) = some b) : PySem.W.kitOne K (.ref (He.ga K c)) (.type d) = some b := of_decide_eq_true (List.all_eq_true.mp h _ (mem_of_lookup l))
/-! ### __init__ of one field -/
def exSp (K : PySem.W.Frag) (f : Str) : Sp := fun vs H Q E => ∃ a C v, vs = [.ref a, v] ∧ OexC K C ∧ PySem.W.findIn K (.ref C) f = some none ∧ H a = some (exo a C none) ∧ ∀ dx, H dx = none → dx ≠ a → Q .non (upd (upd H dx (exd dx [(f, v)])) a (exo a C (some dx)))
theorem init_of {P : Program} {w : World} {K : PySem.W.Frag} {mg : Str → Option Value} {base : Heap} {x qual f : Str} {params : Arguments} {scope : Scope} {kws : List (Str × V)} {g : Addr} {fd : FuncData} {p1 p2 p3 p4 : Pos} {body : List Stmt}
    (F : FunD K x qual params body scope [] kws g fd) (hb : body = [.Assign [.Attribute (.Name "self" p1) f p2] (.Name "value" p3) p4]) (S : FnScope ["self", "value"] ["self", "value"] scope)
    (h1 : scope.names.lookup ("self" : Str) = some .local) (h2 : scope.names.lookup ("value" : Str) = some .local) : FnOk P w K mg base (L2.CX P w) 1 g fd ["self", "value"] (exSp K f) := by
  subst hb
  refine F.ok S (fun vs H Q E h => ?_) (fun cdv A outer s H vs Q E hr h => ?_)
  · obtain ⟨_, _, _, rfl, _⟩ := h; rfl
  · obtain ⟨a, C, v, rfl, T, hn, ha, q⟩ := h
    refine ⟨_, pss_one (ps_ost (pe_var (i := 0) rfl (.inl h1)) (pe_var (i := 1) rfl (.inl h2))), ⟨v, rfl, .ref a, rfl, a, C, rfl, T, hn, .inl ⟨ha, fun dx hd ne => q dx hd ne⟩⟩⟩
/-- a class of errors of the program: of one field, ready to be made -/
structure Err (P : Program) (w : World) (K : PySem.W.Frag) (mg : Str → Option Value) (base : Heap) (c f : Str) : Prop where
  x : X1 K c f
  ok : ∃ fd, FnOk P w K mg base (L2.CX P w) 1 (He.fAd K (c, some "__init__")) fd ["self", "value"] (exSp K f) ∧ Binds K fd ["self", "value"] []
  gl : mg c = some (.ref (He.ga K c))
section
variable {X : Cx} {W : WX} {x : Str} {p pos pos2 : Pos} {e : Expr} {j : Nat} {c f : Str} {g : ME}
/-- raise c(e) -/
def sRaise (c f : Str) (g : ME) : MS := fun ρ S => (g ρ S).stm ρ fun d S1 => .exc ⟨c, [(f, d)]⟩ ρ S1
theorem upd_twice {H : Hp} {a b : Addr} {o o2 u v : HO} (ha : H a = none) (hb : H b = none) (ne : b ≠ a) : upd (del (upd (upd (upd H a o) b u) a o2) a) b v = upd H b v := by
  funext y
  by_cases h1 : y = b
  · subst h1; rw [upd_same, upd_same]
  · rw [upd_ne h1, upd_ne h1]
    by_cases h2 : y = a
    · subst h2; rw [del_same, ha]
    · rw [del_ne h2, upd_ne h2, upd_ne h1, upd_ne h2]
theorem ds_raise (E : Err X.prog X.w X.K X.mg X.base c f) (hr : Room j X.A) (hc : X.calm = true) (hg : Gl X c) (tk : Takes X W) (he : DE X W e g) (hj : 2 ≤ j := by decide) (hdb : (c == ("__debug__" : Str)) = false := by decide)
    (hs : starEach (e :: []) X.env = (false, eval e X.env) :: starEach [] X.env := by rfl) (hpl : (backTo pos (starEach [] X.env)).any (·.1) = false := by rfl) : DS X W (.Raise (some (.Call (.Name c p) [e] [] pos)) none pos2) (sRaise c f g) := by
  obtain ⟨fd, F1, hb⟩ := E.ok
  refine ⟨PS.imp (ps_raise hc tk (pmk_oex (X := X) (ds := []) (dvs := []) E.x.o E.x.i E.x.t F1 (hr.mono hj) hb .nil passL hg E.gl (pa_cons he.pe pa_nil hs) hdb hs hpl)) ?_⟩
  intro D' σ H ⟨O, ρ, S, st, h⟩
  refine ⟨O, ρ, S, st, AfterS.seqE h fun d S1 O1 H1 v e1 st1 r1 h1 => ?_⟩
  refine ⟨by simp, fun a ha => ⟨a, He.ga X.K c, v, by simp, E.x.o, E.x.n, upd_same, fun dx hdx ne => ?_⟩⟩
  have hd1 : H1 dx = none := by rw [upd_ne ne] at hdx; exact hdx
  refine ⟨rfl, dx, _, upd_same, by rw [upd_ne ne, upd_same], hd1, ?_⟩
  rw [upd_twice ha hd1 ne]
  obtain ⟨e2, st2⟩ := st1.new (o := .xd [(f, v)]) hd1
  exact h1 O1 _ σ _ _ e2 st2 ⟨rfl, dx, _, rfl, upd_same, v, [], rfl, r1.mono (e2.w st1.wf), rfl⟩
/-! ### try: .. except c as n: .. -/
def RS.unset (i : Nat) : RS → RS
  | .nx ρ S => .nx (ρ.set i none) S
  | .bk ρ S => .bk (ρ.set i none) S
  | .ct ρ S => .ct (ρ.set i none) S
  | .rt d S => .rt d S
  | _ => .bad
/-- cl: who is caught; hm: what is done then -/
def sTry (fb : MS) (cl : Str → Option Bool) (i : Nat) (hm : Exc → Nat → Nat → MS) : MS := fun ρ S => match fb ρ S with
  | .exc x ρ1 S1 => (match cl x.c with
    | none => .bad
    | some true => (hm x 0 0 (ρ1.set i (some (.xcp 0 0 x.fs))) S1).unset i
    | some false => .exc x ρ1 S1)
  | r => r
theorem AfterS.unset {K : PySem.W.Frag} {D' : Ends} {O : Ow} {H : Hp} {i : Nat} {r : RS} (h : AfterS K W D' O H (r.unset i)) :
    AfterS K W0 { nx := fun σ' H' => D'.nx (σ'.set i none) H', rt := D'.rt, bk := fun σ' H' => D'.bk (σ'.set i none) H', ct := fun σ' H' => D'.ct (σ'.set i none) H' } O H r := by
  cases r with
  | nx ρ S => exact fun O' H' σ' e st => h O' H' _ e ⟨st.wf, st.env.unset i⟩
  | bk ρ S => exact fun O' H' σ' e st => h O' H' _ e ⟨st.wf, st.env.unset i⟩
  | ct ρ S => exact fun O' H' σ' e st => h O' H' _ e ⟨st.wf, st.env.unset i⟩
  | rt d S => exact h
  | exc x ρ S => exact h.elim
  | bad => exact h.elim
/-- the fields' dict is not owned -/
theorem Stt.noXd {K : PySem.W.Frag} {O : Ow} {H : Hp} {ρ : DE.Env} {σ : L2.St} {S : Sto} (st : Stt K O H ρ σ S) {d : Addr} {vs : List (Str × V)} (h : H d = some (.xd vs)) : O.no d := by
  refine ⟨fun z => ?_, fun z => ?_⟩
  · obtain ⟨k, hk⟩ := List.mem_iff_getElem?.mp z
    have hl : k < S.length := by rw [st.wf.len]; exact (List.getElem?_eq_some_iff.mp hk).1
    have c := st.wf.cell k d S[k] hk (by simp [hl])
    cases q : S[k] <;> rw [q] at c <;> simp only [Cell] at c
    all_goals first
      | exact c
      | (obtain ⟨xs, c, _⟩ := c; rw [h] at c; cases c)
      | (obtain ⟨dx, xs, c, _⟩ := c; rw [h] at c; cases c)
  · obtain ⟨_, o, c, _, _, q⟩ := st.wf.hid d z
    rw [h] at c; cases c; exact q _ rfl
/-- what stands behind the clause's head -/
def tHnd (K : PySem.W.Frag) (cl : Str → Option Bool) (i : Nat) (hm : Exc → Nat → Nat → MS) (a : Addr) (cls : Value) (d : Option Addr) : TS := fun D' σ H => ∃ (x : Exc) (dd : Addr) (O : Ow) (ρ : DE.Env) (S : Sto), cls = .ref (He.ga K x.c) ∧ d = some dd ∧ cl x.c = some true ∧
  Stt K O H (ρ.set i (some (.xcp a dd x.fs))) σ S ∧ AfterS K W0 D' O H (hm x a dd (ρ.set i (some (.xcp a dd x.fs))) S)
theorem ds_try {body suite : List Stmt} {b₀ : Stmt} {n : Str} {np pos' : Pos} {fb : MS} {i : Nat} {cl : Str → Option Bool} {hm : Exc → Nat → Nat → MS} (hs : X.stack = X.env :: X.outer) (hf : X.env.frame = some X.env.locals) (hN : X.N.Nodup) (hi : X.N[i]? = some n) (hln : X.env.kindOf n = some .local)
    (hx : Names X x (.ref (He.ga X.K x))) (tk : Takes X W) (hcl : ∀ c b, cl c = some b → PySem.W.exmOne X.K (.ref (He.ga X.K c)) (.ref (He.ga X.K x)) = some b)
    (hb : ∀ (W' : WX) (pn : List (Addr × Obj)) (xe : Value → Shared → Prop), Takes (X.tr pn xe) W' → PassesOwn (model X.prog X.w) X.A X.env xe → DSs (X.tr pn xe) W' body fb)
    (hh : ∀ (y : Exc) (a dd : Addr) (oe : Obj) (pn : List (Addr × Obj)), cl y.c = some true → Zc (.ref (He.ga X.K y.c)) (some dd) oe → (∃ vs, oe.data = .fields vs) → DSs (X.suite a ((a, oe) :: pn)) W0 (b₀ :: suite) (hm y a dd))
    (hu : ∀ (y : Exc) (a dd : Nat) (ρ : DE.Env) (S : Sto), cl y.c = some true → (hm y a dd (ρ.set i (some (.xcp a dd y.fs))) S).unset i = (hm y 0 0 (ρ.set i (some (.xcp 0 0 y.fs))) S).unset i) :
    DS X W (.Try body [.ExceptHandler (some (.Name x np)) (some n) (b₀ :: suite) pos'] [] [] pos) (sTry fb cl i hm) := by
  refine ⟨PS.imp (ps_try_as (tb := fun W' => tS X.K W' fb) (ts := tHnd X.K cl i hm) hs hf hN hi hln hx tk (fun W' pn xe t p => (hb W' pn xe t p).pss) fun a oe cls d pn hz hd => ⟨?_⟩) ?_⟩
  · rintro pins s σ H D' I ⟨y, dd, O, ρ, S, rfl, rfl, hc, st, h⟩
    exact (hh y a dd oe pn hc hz hd).pss.run pins s σ H D' I ⟨O, _, S, st, h⟩
  · intro D' σ H ⟨O, ρ, S, st, h⟩
    refine ⟨O, ρ, S, st, ?_⟩
    unfold sTry at h
    cases q : fb ρ S with
    | nx ρ1 S1 => rw [q] at h; exact h
    | bk ρ1 S1 => rw [q] at h; exact h
    | ct ρ1 S1 => rw [q] at h; exact h
    | rt d S1 => rw [q] at h; exact h
    | bad => rw [q] at h; exact h
    | exc y ρ1 S1 =>
      rw [q] at h
      rintro O1 H1 σ1 cls dx e1 st1 ⟨rfl, dd, vs, rfl, hd, rf⟩
      cases q2 : cl y.c with
      | none => simp only [q2] at h; exact h.elim
      | some b =>
        refine ⟨b, hcl _ _ q2, fun eb a ha => ?_, fun eb => ?_⟩
        · subst eb
          simp only [q2] at h
          rw [← hu y a dd ρ1 S1 q2] at h
          have rr : Rep X.K O1 H1 (.xcp a dd y.fs) (.ref a) := ⟨rfl, vs, st1.noXd hd, hd, rf⟩
          exact ⟨y, dd, O1, ρ1, S1, rfl, rfl, q2, ⟨st1.wf, st1.env.set rr i⟩, AfterS.unset (AfterS.mono h e1)⟩
        · subst eb
          simp only [q2] at h
          exact h O1 H1 σ1 _ _ e1 st1 ⟨rfl, dd, vs, rfl, hd, rf⟩
/-! ### in the suite -/
/-- n.f -/
def dXf (a dd : Nat) (f : Str) (g : ME) : ME := fun ρ S => (g ρ S).bind fun d S1 => match d with
  | .xcp a' dd' fs => if a' = a ∧ dd' = dd then (match fs.lookup f with
    | some d => .ok d S1
    | none => .bad) else .bad
  | _ => .bad
theorem repF_lookup {K : PySem.W.Frag} {O : Ow} {H : Hp} {f : Str} : ∀ {fs : List (Str × D)} {vs : List (Str × V)} {d : D}, RepF K O H fs vs → fs.lookup f = some d → ∃ v, vs.lookup f = some v ∧ Rep K O H d v
  | [], _, _, _, e => by cases e
  | (k, d0) :: r, _, d, h, e => by
    obtain ⟨v, vr, rfl, h1, h2⟩ := h
    rw [List.lookup_cons] at e ⊢
    cases q : f == k with
    | true => rw [q] at e; cases e; exact ⟨v, rfl, h1⟩
    | false => rw [q] at e; exact repF_lookup h2 e
theorem de_xf {a dd : Addr} {oe : Obj} {pn : List (Addr × Obj)} {n : Str} {y : Str} (T : XfC X.K (He.ga X.K y)) (hno : PySem.W.findIn X.K (.ref (He.ga X.K y)) n = some none) (hz : Zc (.ref (He.ga X.K y)) (some dd) oe) (hf : ∃ vs, oe.data = .fields vs)
    (he : DE (X.suite a ((a, oe) :: pn)) W e g) (hb : attributeBase e n X.env (eval e X.env) = eval e X.env := by rfl) : DE (X.suite a ((a, oe) :: pn)) W (.Attribute e n pos) (dXf a dd n g) :=
  ⟨PE.imp (pe_xf T hno hz hf he.pe hb) fun σ H Q ⟨O, ρ, S, st, h⟩ => ⟨O, ρ, S, st, After.seq h fun d S1 O1 H1 v e1 st1 r1 h1 => by
    cases d <;> try exact h1.elim
    rename_i a' dd' fs
    obtain ⟨rfl, vs, nd, hd, rf⟩ := r1
    by_cases hc : a' = a ∧ dd' = dd
    · obtain ⟨rfl, rfl⟩ := hc
      simp only [and_self, if_true] at h1
      cases q : fs.lookup n with
      | none => simp only [q] at h1; exact h1.elim
      | some d =>
        simp only [q] at h1
        obtain ⟨v, hv, rv⟩ := repF_lookup rf q
        exact ⟨rfl, rfl, _, vs, v, rfl, hd, hv, After.ok h1 st1 rv⟩
    · simp only [hc, if_false] at h1; exact h1.elim⟩⟩
/-- isinstance(n, c) -/
def oXi (a dd : Nat) (kt : D → Option Bool) : FD := fun ds S => match ds with
  | [.xcp a' dd' _, t] => if a' = a ∧ dd' = dd then (match kt t with
    | some b => .ok (.bl b) S
    | none => .bad) else .bad
  | _ => .bad
theorem c_oXi {a : Addr} {dd : Addr} {oe : Obj} {pn : List (Addr × Obj)} {y : Str} {kt : D → Option Bool} (T : XfC X.K (He.ga X.K y)) (hk : kcB X.K (He.ga X.K y) = true) (hz : Zc (.ref (He.ga X.K y)) (some dd) oe) (hf : ∃ vs, oe.data = .fields vs)
    (ht : ∀ t b, kt t = some b → ∃ cv, (∀ K O H v u, K = X.K → Rep K O H t v → RelV v u → u = cv) ∧ PySem.W.kitOne X.K (.ref (He.ga X.K y)) cv = some b) : CallR (X.suite a ((a, oe) :: pn)) (.builtin "isinstance") (RC X.K (oXi a dd kt)) := by
  intro pins s σ H vs us Q I rv ⟨W, ρ, σ', O, S, ds, st, r, h⟩
  unfold oXi at h
  split at h
  · rename_i a' dd' fs t
    obtain ⟨v, u, rfl, r1, r2⟩ := r.two
    by_cases ha : a' = a ∧ dd' = dd
    · obtain ⟨rfl, rfl⟩ := ha
      simp only [and_self, if_true] at h
      cases q : kt t with
      | none => simp only [q] at h; exact h.elim
      | some b =>
        simp only [q] at h
        obtain ⟨cv, hc, hk1⟩ := ht t b q
        obtain ⟨rfl, vs', nd, hdd, _⟩ := r1
        cases rv with
        | cons rx rr =>
          cases rr with
          | cons rt rr =>
            cases rr
            cases rx
            have ec := hc _ O H u _ rfl r2 rt
            subst ec
            obtain ⟨hget, _⟩ := I.pin (a', oe) (List.mem_append.mpr (.inl List.mem_cons_self))
            obtain ⟨fv, hv⟩ := hf
            obtain ⟨z1, z2⟩ := hz
            obtain ⟨mA, hns, _⟩ := (show ObjOk X.prog X.w H s.heap dd' (.xd vs') from I.hok dd' _ hdd)
            obtain ⟨od, ho, _⟩ := lookIn_ns hns
            have J : PySem.W.InstAt s.heap a' oe (He.ga X.K y) (some od) := ⟨hget, z1, by unfold PySem.W.notCls; rw [hv] <;> rfl, by rw [z2]; exact ho⟩
            exact PySem.W.kia_one (kcB_kit hk T) I.kIn J hk1 (fun z => nomatch z) fun tk => ⟨.bl b, H, I.kept (t' := tk) fun _ _ z => z, rfl, After.ok h st rfl⟩
    · simp only [ha, if_false] at h; exact h.elim
  · exact h.elim
end
end DE

set_option maxHeartbeats 4000000
namespace DE
open PySem PySem.Spec PyProof.Rows L2 PySem.Froz
/-! ### sorted(set(t)), t a tuple of texts -/
/-- the set at a holds the texts l, each once, and can be walked -/
structure StrS (P : Program) (w : World) (h : Heap) (a : Addr) (l : List Str) : Prop where
  ex : ∃ es ep t, h.get? a = some (sObj "set" (es, ep, t)) ∧ TxOk P w (es, ep, t) l ∧ Ris t.place.toList ∧ (w.params.followText "set-order" = true ∨ t.led = true)
  nd : l.Nodup
section
variable {P : Program} {w : World} {A : Around} {E : Value → Shared → Prop} {s : Shared} {h h' : Heap} {a : Addr} {l : List Str}
theorem StrS.keep (R : StrS P w h a l) (k : ∀ o, h.get? a = some o → h'.get? a = some o) : StrS P w h' a l := by
  obtain ⟨⟨es, ep, t, g, r⟩, n⟩ := R
  exact ⟨⟨es, ep, t, k _ g, r⟩, n⟩
theorem tail_ris {ep : Nat} {es : Array (Int × Value)} {t : SetTable} {b : Bool} (r : Ris t.place.toList) : Ris (tailTx ep es t b).2.2.place.toList ∧ (tailTx ep es t b).2.2.led = t.led := by
  unfold tailTx
  split
  · exact ⟨relayAll_ris _ _ _, relayAll_led _ _ _⟩
  · exact ⟨r, rfl⟩
theorem add_ris {es : Array (Int × Value)} {ep : Nat} {t : SetTable} {z : Int} {v : Value} (r : Ris t.place.toList) : Ris (addTx z v (es, ep, t)).2.2.place.toList ∧ (addTx z v (es, ep, t)).2.2.led = t.led := by
  unfold addTx
  have r1 : Ris (if (layNew t es z v).2.1.plain = true then { (layNew t es z v).2.1 with plain := false } else (layNew t es z v).2.1).place.toList := by
    split <;> exact layNew_ris t es z v r
  have e1 : (if (layNew t es z v).2.1.plain = true then { (layNew t es z v).2.1 with plain := false } else (layNew t es z v).2.1).led = t.led := by
    split <;> exact layNew_led t es z v
  obtain ⟨q1, q2⟩ := tail_ris (ep := ep) (es := (layNew t es z v).1) (b := (layNew t es z v).2.2.1) r1
  exact ⟨q1, q2.trans e1⟩
/-- a text put in, new or not -/
theorem StrS.add {k : Str} {u : Tok} {Q : Bool → Shared → Prop} (R : StrS P w s.heap a l) (hb : l.length + 1 < scanBound)
    (hQ : ∀ h' b, Heap.SameBut a s.heap h' → StrS P w h' a (if k ∈ l then l else k :: l) → Q b { s with heap := h' }) : wpAny (model P w) A (setAddHashed a (.str k u) (hashStr w k)) Q E s := by
  obtain ⟨⟨es, ep, t, g, F, r, ld⟩, n⟩ := R
  by_cases hk : k ∈ l
  · rw [if_pos hk] at hQ
    have same := hQ s.heap false (Heap.SameBut.refl a s.heap) ⟨⟨es, ep, t, g, F, r, ld⟩, n⟩
    have ki : (strKind P w).is k (.str k u) = true := is_str k u
    have hd : (sObj "set" (es, ep, t)).data = .set es ep t := rfl
    have he : ElemsOf (strKind P w) es.toList := F.el
    have hf : t.fits es.size = true := F.fit
    have hz : es.size < scanBound := by
      have : es.size = l.length := F.sz
      omega
    unfold setAddHashed setAddHashedIn
    refine wpAny_holding (wpAny_bind (wpAny_setState_of g hd hf ?_))
    dsimp only
    rw [byScan_of rfl hz he, if_pos rfl]
    unfold setAddByScan
    refine wpAny_bind (wpAny_bind (wpAny_rule (wpAny_bind (wpAny_setScan_of (k := k) ki g hd hf he ?_))))
    cases q : List.findIdx? (fun e => (strKind P w).is k e.2) es.toList with
    | none =>
      obtain ⟨e, m1, m2⟩ := (F.mem k).mp hk
      have := List.findIdx?_eq_none_iff.mp q e m1
      rw [m2] at this; cases this
    | some i => exact wpAny_pure (wpAny_pure same)
  · rw [if_neg hk] at hQ
    refine add_x g F hk hb (hQ _ true (Heap.SameBut.update s.heap a _) ⟨⟨_, _, _, get_upd _ g rfl, add_ok u F, (add_ris r).1, ?_⟩, List.nodup_cons.mpr ⟨hk, n⟩⟩)
    exact ld.imp id fun z => (add_ris r).2.trans z
def putAll : List Str → List Str → List Str
  | l, [] => l
  | l, k :: r => putAll (if k ∈ l then l else k :: l) r
theorem putAll_len : ∀ {r l : List Str}, (putAll l r).length ≤ l.length + r.length
  | [], l => Nat.le_refl _
  | k :: r, l => by
    have h := putAll_len (r := r) (l := if k ∈ l then l else k :: l)
    have h2 : (if k ∈ l then l else k :: l).length ≤ l.length + 1 := by split <;> simp
    show (putAll _ r).length ≤ l.length + (r.length + 1)
    omega
theorem mem_putAll {k : Str} : ∀ {r l : List Str}, k ∈ putAll l r ↔ k ∈ l ∨ k ∈ r
  | [], l => by simp [putAll]
  | x :: r, l => by
    show k ∈ putAll (if x ∈ l then l else x :: l) r ↔ _
    rw [mem_putAll]
    by_cases h : x ∈ l
    · rw [if_pos h]
      constructor
      · rintro (z | z)
        · exact .inl z
        · exact .inr (List.mem_cons_of_mem _ z)
      · rintro (z | z)
        · exact .inl z
        · rcases List.mem_cons.mp z with rfl | z
          · exact .inl h
          · exact .inr z
    · rw [if_neg h, List.mem_cons, List.mem_cons]
      constructor
      · rintro ((z | z) | z)
        · exact .inr (.inl z)
        · exact .inl z
        · exact .inr (.inr z)
      · rintro (z | z | z)
        · exact .inl (.inr z)
        · exact .inl (.inl z)
        · exact .inr z
/-- set.update's loop over texts -/
theorem strs_loop {I D : Addr} {fp wr : List Addr} {G : Array GenState → Array GenState → Prop} {n : Nat} {Pv : Nat → Value → Prop} {St : Nat → Shared → Prop} {R : Result → Shared → Prop} (W : WalksS P w A.in1 I fp wr G n Pv St) (hD : D ∉ fp)
    {xs : List Str} (hn : n = xs.length) (hb : xs.length + 1 < scanBound) (hv : ∀ i v, Pv i v → ∃ k t, xs[i]? = some k ∧ v = .str k t) :
    ∀ (m i : Nat) (l : List Str) (s : Shared), n - i = m → i ≤ n → l.length ≤ i → St i s → StrS P w s.heap D l → (∀ s', Moved (D :: wr) G s s' → StrS P w s'.heap D (putAll l (xs.drop i)) → R (.ok (.ret .none)) s') →
      codeAny (model P w) A (.builtin "set.update.loop" ⟨[.ref D, .ref I], []⟩) R s := by
  have nw : D ∉ wr := fun z => hD (W.sub _ z)
  have wider : ∀ b ∈ wr, b ∈ D :: wr := fun _ z => .tail _ z
  intro m
  induction m with
  | zero =>
    intro i l s e1 e2 _ a1 a2 k
    have hi : i = n := by omega
    refine codeAny_builtin F.entry_set_update_loop (by
      rw [Around.under_plainId F.plain_set_update_loop _]
      refine (show wpAny _ A.in1 (pyNext (.ref I) >>= _) _ _ s from wpAny_bind (W.done s _ _ (hi ▸ a1) fun s1 mv => ?_))
      refine (show wpAny _ A.in1 (ret Value.none) _ _ s1 from wpAny_pure (k s1 (mv.mono wider) ?_))
      rw [hi, hn, List.drop_length]
      exact a2.keep fun o z => mv.heap D o nw z)
  | succ m ih =>
    intro i l s e1 e2 e3 a1 a2 k
    have hi : i < n := by omega
    refine codeAny_builtin F.entry_set_update_loop (by
      rw [Around.under_plainId F.plain_set_update_loop _]
      refine (show wpAny _ A.in1 (pyNext (.ref I) >>= _) _ _ s from wpAny_bind (W.item i s _ _ hi a1 fun v s1 pv st1 mv => ?_))
      obtain ⟨y, tk, hy, rfl⟩ := hv i v pv
      refine (show wpAny _ A.in1 (holding [Value.str y tk] (setAdd D (.str y tk)) >>= _) _ _ s1 from wpAny_bind (wpAny_holding ?_))
      unfold setAdd
      refine wpAny_holding (wpAny_bind ((strKind P w).pyHash (is_str y tk) ?_))
      have a3 : StrS P w s1.heap D l := a2.keep fun o z => mv.heap D o nw z
      refine StrS.add (s := { s1 with toks := s1.toks + 1 }) a3 (by omega) fun h2 b sb a4 => ?_
      have ed : xs.drop i = y :: xs.drop (i + 1) := by
        obtain ⟨q1, q2⟩ := List.getElem?_eq_some_iff.mp hy
        rw [List.drop_eq_getElem_cons q1, q2]
      have ln : (if y ∈ l then l else y :: l).length ≤ i + 1 := by
        split
        · omega
        · simp; omega
      refine wpAny_pure ⟨plainId_quiet F.plain_set_update_loop _, ih (i + 1) _ _ (by omega) hi ln (W.frame _ s1 _ _ st1 (Nat.le_succ _) fun c hc o z => ?_) a4 fun s3 mv3 a5 => ?_⟩
      · rw [sb.2 c fun z2 => hD (z2 ▸ hc)]; exact z
      · refine k s3 (Moved.trans W.gtrans ((mv.mono wider).then_heap (Nat.le_succ _) fun c o hc z => ?_) mv3) ?_
        · rw [sb.2 c fun z2 => hc (z2 ▸ List.mem_cons_self)]; exact z
        · rw [ed]; exact a5)
abbrev mtS (w : World) : Obj := { cls := .type "set", dict := none, data := .set #[] 0 (.fresh 0 0 (!w.params.followText "set-order")) }
theorem mtS_ok {hp : Heap} {b : Addr} (e : hp.get? b = some (mtS w)) : StrS P w hp b [] := by
  refine ⟨⟨#[], 0, _, e, TxOk.nil (by rfl), List.Pairwise.nil, ?_⟩, List.nodup_nil⟩
  show _ ∨ (!w.params.followText "set-order") = true
  cases w.params.followText "set-order" <;> simp
set_option maxHeartbeats 8000000 in
theorem set_tup {t : Addr} {items : Array Value} {xs : List Str} {Q : Value → Shared → Prop} (hh : A.handled = none) (ht : IsTup s.heap t items) (sz : items.size = xs.length) (hi : ∀ (i : Nat) (v : Value), items[i]? = some v → ∃ k u, xs[i]? = some k ∧ v = .str k u) (hb : xs.length + 1 < scanBound)
    (done : ∀ (hp : Heap) (tk : Nat), StrS P w hp s.heap.objs.size (putAll [] xs) → (∀ b o, s.heap.get? b = some o → hp.get? b = some o) → Q (.ref s.heap.objs.size) { s with heap := hp, toks := tk }) :
    wpAny (model P w) A (call (.type "set") [.ref t]) Q E s := by
  obtain ⟨cls0, tail0, m0⟩ := F.called_set.mro
  have (eq := _) c1 := F.called_set.made
  have (eq := _) c2 := F.called_set.sub
  have (eq := _) c3 := F.called_set.notType
  have (eq := _) c4 := F.called_set.canCreate
  have (eq := _) c5 := F.typeCall_set_1 (.ref t)
  refine wpAny_call (codeAny_of_tree (show wpAny _ _ (callAny (.type "set") _) _ _ _ from wpAny_pure ⟨Code.quiet_builtin _ (by decide +kernel), codeAny_builtin F.entry_type_call ?_⟩))
  rw [Around.under_plain (weight_type_call_type "set" [.ref t] []) rfl]
  repeat (any_goals (first | assumption | wp_step))
  refine codeAny_mono (code_set_led1 (.ref t) (E := E) (Q₁ := fun u s1 => u = .ref s.heap.objs.size ∧ s1 = { s with heap := s.heap.push (mtS w) }) ⟨rfl, rfl⟩) ?_
  rintro (er | fl) s1 hr
  · exact hr
  cases fl <;> try exact hr.elim
  obtain ⟨rfl, rfl⟩ := hr
  have g0 : (s.heap.push (mtS w)).get? s.heap.objs.size = some (mtS w) := Heap.get?_push_size _ rfl
  have ty : Shared.TypeIs { s with heap := s.heap.push (mtS w) } (.ref s.heap.objs.size) "set" := ⟨_, g0, rfl⟩
  have c6 := F.called_set.init.lookup
  have c7 := F.called_set.init.bind (.ref s.heap.objs.size)
  repeat (any_goals (first | assumption | wp_step))
  refine codeAny_mono (codeAny_call_builtin (R := wants (fun r s2 => r = .none ∧ ∃ hp tk, s2 = { s with heap := hp, toks := tk } ∧ StrS P w hp s.heap.objs.size (putAll [] xs) ∧ ∀ b o, s.heap.get? b = some o → hp.get? b = some o) E) F.called_set.init.plain F.entry_set_init (check_set_init_1 ty ?_)) ?_
  · obtain ⟨⟨oc, od, dt, sl⟩, ho, hc, nn, hd⟩ := ht
    dsimp only at hc hd
    subst hc hd
    have q1 := F.sub_tuple_set
    have q2 := F.sub_tuple_frozenset
    have q3 : (Value.type "tuple" == Value.type "dict") = false := by decide
    have ho1 : (s.heap.push (mtS w)).get? t = some { cls := .type "tuple", dict := od, data := .seq items nn, slots := sl } := Heap.get?_push_of_some _ ho
    have tp : (s.heap.push (mtS w)).IsTuple t items := ⟨_, ho1, rfl, nn, rfl⟩
    unfold Builtin.«set.__init__» noKeywords Builtin.Frozenset.updateFrom
    generalize eIt : pyIter = it
    wp_walk
    subst eIt
    refine wpAny_pyIter_tuple tp (wpAny_bind (wpAny_runValue ?_))
    have lt : t < s.heap.objs.size := Heap.lt_size ho
    have sp : (s.heap.push (mtS w)).objs.size = s.heap.objs.size + 1 := Heap.size_push ..
    have n1 : t ≠ (s.heap.push (mtS w)).objs.size := fun z => absurd (z.trans sp) (Nat.ne_of_lt (Nat.lt_succ_of_lt lt))
    have n2 : s.heap.objs.size ∉ [(s.heap.push (mtS w)).objs.size, t] := fun z => by
      rcases List.mem_cons.mp z with z | z
      · exact absurd (z.trans sp) (Nat.ne_of_lt (Nat.lt_succ_self _))
      · exact absurd (List.mem_singleton.mp z).symm (Nat.ne_of_lt lt)
    have g1 : ((s.heap.push (mtS w)).push { cls := .type "tuple_iterator", data := .fields #[.ref t, .int 0 0] }).get? s.heap.objs.size = some (mtS w) := Heap.get?_push_of_some _ g0
    refine strs_loop ((Walks.tuple (show A.in1.in1.in1.handled = none by simp [hh]) _ t n1 items).toS) n2 sz hb hi (items.size - 0) 0 [] _ rfl (Nat.zero_le _) (Nat.le_refl _) ⟨⟨_, Heap.get?_push_size _ rfl, rfl, rfl⟩, tp.push _⟩ (mtS_ok g1) fun s5 mv R5 => ?_
    obtain ⟨h5, g5, d5, t5, o5⟩ := s5
    obtain rfl : g5 = s.gens := mv.gens
    obtain rfl : d5 = s.drawn := mv.drawn
    obtain rfl : o5 = s.os := mv.os
    refine (show wpAny _ _ _ _ _ _ from wpAny_pure (show wpAny _ _ (ret Value.none) _ _ _ from wpAny_pure ⟨rfl, h5, t5, rfl, R5, fun b o z => ?_⟩))
    have lb : b < s.heap.objs.size := Heap.lt_size z
    refine mv.heap b o (fun y => ?_) (Heap.get?_push_of_some _ (Heap.get?_push_of_some _ z))
    rcases List.mem_cons.mp y with y | y
    · exact absurd y (Nat.ne_of_lt lb)
    · exact absurd ((List.mem_singleton.mp y).trans sp) (Nat.ne_of_lt (Nat.lt_succ_of_lt lb))
  · rintro (er | fl) s6 hr
    · exact hr
    cases fl <;> try exact hr.elim
    obtain ⟨rfl, h6, t6, rfl, R6, k6⟩ := hr
    repeat (any_goals (first | assumption | wp_step))
    exact done h6 t6 R6 k6
end
end DE

set_option maxHeartbeats 4000000
namespace DE
open PySem PySem.Spec PyProof.Rows L2 PySem.Froz
/-! ### rows of texts, rising -/
abbrev Asc (l : List Str) : Prop := l.Pairwise fun x y => strLt x y = true
theorem strLt_irr (x : Str) : strLt x x = false := by unfold strLt; simp [List.lt_irrefl]
theorem strLt_tr {x y z : Str} (h : strLt x y = true) (k : strLt y z = true) : strLt x z = true := by
  unfold strLt at *
  simp only [decide_eq_true_eq] at *
  exact List.lt_trans h k
theorem strLt_tot {x y : Str} (h : strLt x y = false) (k : strLt y x = false) : x = y := by
  unfold strLt at *
  simp only [decide_eq_false_iff_not] at *
  obtain ⟨⟨x⟩⟩ := x
  obtain ⟨⟨y⟩⟩ := y
  have : x = y := List.le_antisymm (List.not_lt.mp k) (List.not_lt.mp h)
  rw [this]
def insS (k : Str) : List Str → List Str
  | [] => [k]
  | x :: r => if strLt k x = true then k :: x :: r else if strLt x k = true then x :: insS k r else x :: r
def sortD (l : List Str) : List Str := l.foldr insS []
theorem mem_insS {k y : Str} : ∀ {l : List Str}, y ∈ insS k l ↔ y = k ∨ y ∈ l
  | [] => by simp [insS]
  | x :: r => by
    unfold insS
    split
    · simp
    · rename_i h1
      split
      · rw [List.mem_cons, mem_insS, List.mem_cons]
        constructor
        · rintro (z | z | z)
          · exact .inr (.inl z)
          · exact .inl z
          · exact .inr (.inr z)
        · rintro (z | z | z)
          · exact .inr (.inl z)
          · exact .inl z
          · exact .inr (.inr z)
      · rename_i h2
        have e := strLt_tot (by simpa using h1) (by simpa using h2)
        subst e
        constructor
        · exact .inr
        · rintro (z | z)
          · rw [z]; exact List.mem_cons_self
          · exact z
theorem asc_insS {k : Str} : ∀ {l : List Str}, Asc l → Asc (insS k l)
  | [], _ => List.pairwise_singleton _ _
  | x :: r, h => by
    obtain ⟨h1, h2⟩ := List.pairwise_cons.mp h
    unfold insS
    split
    · rename_i q
      refine List.pairwise_cons.mpr ⟨fun y hy => ?_, h⟩
      rcases List.mem_cons.mp hy with z | z
      · rw [z]; exact q
      · exact strLt_tr q (h1 y z)
    · split
      · rename_i q
        refine List.pairwise_cons.mpr ⟨fun y hy => ?_, asc_insS h2⟩
        rcases mem_insS.mp hy with z | z
        · rw [z]; exact q
        · exact h1 y z
      · exact h
theorem sortD_asc : ∀ l : List Str, Asc (sortD l)
  | [] => List.Pairwise.nil
  | x :: r => asc_insS (sortD_asc r)
theorem mem_sortD {y : Str} : ∀ {l : List Str}, y ∈ sortD l ↔ y ∈ l
  | [] => Iff.rfl
  | x :: r => by
    show y ∈ insS x (sortD r) ↔ _
    rw [mem_insS, mem_sortD, List.mem_cons]
theorem asc_ext : ∀ {l m : List Str}, Asc l → Asc m → (∀ k, k ∈ l ↔ k ∈ m) → l = m
  | [], [], _, _, _ => rfl
  | [], y :: m, _, _, h => absurd ((h y).mpr List.mem_cons_self) (by simp)
  | x :: l, [], _, _, h => absurd ((h x).mp List.mem_cons_self) (by simp)
  | x :: l, y :: m, a, b, h => by
    obtain ⟨a1, a2⟩ := List.pairwise_cons.mp a
    obtain ⟨b1, b2⟩ := List.pairwise_cons.mp b
    have exy : x = y := by
      rcases List.mem_cons.mp ((h x).mp List.mem_cons_self) with e | hx
      · exact e
      · rcases List.mem_cons.mp ((h y).mpr List.mem_cons_self) with e | hy
        · exact e.symm
        · have q := strLt_tr (a1 y hy) (b1 x hx)
          rw [strLt_irr] at q; cases q
    subst exy
    congr 1
    refine asc_ext a2 b2 fun k => ?_
    have hk := h k
    rw [List.mem_cons, List.mem_cons] at hk
    constructor
    · intro z
      rcases hk.mp (.inr z) with e | z'
      · subst e
        have q := a1 k z
        rw [strLt_irr] at q; cases q
      · exact z'
    · intro z
      rcases hk.mpr (.inr z) with e | z'
      · subst e
        have q := b1 k z
        rw [strLt_irr] at q; cases q
      · exact z'
/-- a row is its sorted self just if it rises -/
theorem eq_sortD {l : List Str} : l = sortD l ↔ Asc l := ⟨fun e => e ▸ sortD_asc l, fun a => asc_ext a (sortD_asc l) fun k => mem_sortD.symm⟩
theorem rising_le : ∀ {l : List Str} {p : Str}, risingS p l = true → (p :: l).Pairwise fun x y => strLt y x = false
  | [], p, _ => List.pairwise_singleton _ _
  | x :: r, p, h => by
    have h' : (!ltCps x.cps.toList p.cps.toList && risingS x r) = true := h
    obtain ⟨h1, h2⟩ := Bool.and_eq_true_iff.mp h'
    have ih := rising_le h2
    have h3 : strLt x p = false := by
      rw [ltCps_eq] at h1
      exact Bool.not_eq_true' _ ▸ h1
    refine List.pairwise_cons.mpr ⟨fun y hy => ?_, ih⟩
    rcases List.mem_cons.mp hy with e | hy
    · rw [e]; exact h3
    · have h4 := (List.pairwise_cons.mp ih).1 y hy
      cases q : strLt y p with
      | false => rfl
      | true =>
        by_cases e : x = y
        · rw [← e, h3] at q; cases q
        · cases q2 : strLt x y with
          | true => rw [strLt_tr q2 q] at h3; cases h3
          | false => exact absurd (strLt_tot q2 h4) e
theorem asc_of_sorted {l : List Str} (h : sortedS l = true) (n : l.Nodup) : Asc l := by
  cases l with
  | nil => exact List.Pairwise.nil
  | cons x r =>
    refine (List.pairwise_and_iff.mpr ⟨rising_le h, n⟩ : List.Pairwise _ _).imp fun {a b} ⟨h1, h2⟩ => ?_
    cases q : strLt a b with
    | true => rfl
    | false => exact absurd (strLt_tot q h1) h2
theorem perm_of_sub : ∀ {l m : List Str}, l.Nodup → (∀ k ∈ l, k ∈ m) → m.length = l.length → m.Perm l
  | [], m, _, _, e => by rw [List.length_eq_zero_iff.mp e]
  | x :: l, m, n, h, e => by
    obtain ⟨n1, n2⟩ := List.nodup_cons.mp n
    have hx := h x List.mem_cons_self
    have p := List.perm_cons_erase hx
    refine p.trans (List.Perm.cons x (perm_of_sub n2 (fun k hk => ?_) ?_))
    · exact (List.mem_erase_of_ne (fun z : k = x => n1 (z ▸ hk))).mpr (h k (List.mem_cons_of_mem _ hk))
    · rw [List.length_erase_of_mem hx, e]; rfl
section
variable {P : Program} {w : World} {A : Around} {E : Value → Shared → Prop} {s : Shared} {a : Addr} {l : List Str}
theorem strOf_is {k : Str} {v : Value} (h : (PySem.strKind P w).is k v = true) : strOf v = k ∧ ∃ x t, v = .str x t := by
  obtain ⟨t, rfl⟩ := Value.isStrOf_shape h
  exact ⟨rfl, _, _, rfl⟩
/-- sorted(a set of texts) -/
theorem sorted_set_strs {Q : Value → Shared → Prop} (R : StrS P w s.heap a l) (hh : A.handled = none) (hb : l.length < scanBound)
    (done : ∀ (s' : Shared) (p : Addr) (out : Array Value) (c : Nat), (∀ b o, s.heap.get? b = some o → s'.heap.get? b = some o) → s'.gens = s.gens → s'.os = s.os → s.heap.objs.size ≤ p → s'.heap.get? p = some (seqObj "list" out c) → StrsAre out.toList (sortD l) → Q (.ref p) s') :
    wpAny (model P w) A (call (.builtin "sorted") [.ref a]) Q E s := by
  obtain ⟨⟨es, ep, t, g, F, r, ld⟩, n⟩ := R
  have hz : es.size = l.length := F.sz
  refine Calls.call_function_entry kind_sorted plain_sorted entry_sorted (args_sorted1 _) (by
    unfold Builtin.«sorted»
    refine wpAny_bind (m := checkCount "sorted" 1 1 _) (wpAny_pure (wpAny_bind (collect_set (A := A.in1) hh ⟨_, g, rfl, rfl⟩ F.fit (show es.size < scanBound by omega) r ld fun s1 vs k1 z1 g1 o1 pm => ?_)))
    have len : vs.length = l.length := by rw [pm.length_eq, List.length_map, Array.length_toList, hz]
    have allS : ∀ v ∈ vs, ∃ k, (PySem.strKind P w).is k v = true := fun v hv => by
      obtain ⟨e, m1, rfl⟩ := List.mem_map.mp (pm.mem_iff.mp hv)
      obtain ⟨⟨k, m2, _⟩, _⟩ := F.el e m1
      exact ⟨k, m2⟩
    have SA := strsAre_map vs fun v hv => (strOf_is (allS v hv).choose_spec).2
    have pl : (vs.map strOf).Perm l := perm_of_sub n (fun k hk => by
      obtain ⟨e, m1, m2⟩ := (F.mem k).mp hk
      exact List.mem_map.mpr ⟨e.2, pm.mem_iff.mpr (List.mem_map_of_mem m1), (strOf_is m2).1⟩) (by rw [List.length_map, len])
    have lz : vs.length ≤ sizeLine := by rw [len]; exact fits_of_scanBound (n := l.length) hb
    refine wpAny_bind (wpAny_newList ?_ lz)
    have at1 : (s1.heap.push (seqObj "list" vs.toArray 0)).get? s1.heap.objs.size = some (seqObj "list" vs.toArray 0) := Heap.get?_push_size _ rfl
    refine wpAny_bind (wpAny_holding (wpAny_call_entry slot_list_sort ⟨_, at1, rfl⟩ entry_list_sort (list_sort_treeKAny strKind_oneLt at1 SA.keysOf (fun v₁ v₂ rest e => keyKind_strs (by rw [← e]; exact SA)) lz fun st a1 a2 => ⟨_, rfl, ?_⟩) (args_list_sort _)))
    obtain ⟨ys, y1, y2, y3⟩ := sorted_out_str SA a1 a2
    have ey : ys = sortD l := asc_ext (asc_of_sorted y3 ((y2.trans pl).nodup_iff.mpr n)) (sortD_asc l) fun k => ((y2.trans pl).mem_iff).trans mem_sortD.symm
    rw [ey] at y1
    obtain ⟨c, hc⟩ := sortedHeap_at (vs := vs) (out := (arrOf st).map (·.2)) at1
    refine wpAny_pure ⟨_, rfl, done _ s1.heap.objs.size _ c (fun b o z => ?_) g1 o1 z1 hc y1⟩
    have q := k1 b o z
    have lt := Heap.lt_size q
    refine (sortedHeap_old (Nat.ne_of_lt lt) (by rw [size_push']; exact Nat.lt_succ_of_lt lt)).trans ?_
    exact Heap.get?_push_of_some _ q)
end
/-! ### the rule -/
def dSS (f : ME) : ME := fun ρ S => (f ρ S).bind fun d S1 => match d with
  | .tup ds => (match strsOf ds with
    | some xs => if xs.length < 4000 then .ok (.lst ((sortD xs).map .str)) S1 else .bad
    | none => .bad)
  | _ => .bad
theorem reps_strs {K : PySem.W.Frag} {O : Ow} {H : Hp} : ∀ {xs : List Str}, Reps K O H (xs.map .str) (xs.map .str)
  | [] => rfl
  | x :: r => ⟨.str x, r.map .str, rfl, rfl, reps_strs⟩
theorem strs_at2 : ∀ {vs : List Value} {xs : List Str} {i : Nat} {v : Value}, StrsAre vs xs → vs[i]? = some v → ∃ k u, xs[i]? = some k ∧ v = .str k u
  | _, _, _, _, .nil, h => by simp at h
  | _, _, 0, _, .cons y t r, h => by simp at h; exact ⟨y, t, rfl, h.symm⟩
  | _, _, i + 1, _, .cons y t r, h => by simpa using strs_at2 (i := i) r (by simpa using h)
theorem insS_len {k : Str} : ∀ {l : List Str}, (insS k l).length ≤ l.length + 1
  | [] => Nat.le_refl _
  | x :: r => by
    unfold insS
    split
    · simp
    · split
      · have := insS_len (k := k) (l := r)
        simp; omega
      · simp
theorem sortD_len : ∀ {l : List Str}, (sortD l).length ≤ l.length
  | [] => Nat.le_refl _
  | x :: r => Nat.le_trans insS_len (Nat.succ_le_succ sortD_len)
theorem sortD_put {l : List Str} : sortD (putAll [] l) = sortD l := asc_ext (sortD_asc _) (sortD_asc _) fun k => by
  rw [mem_sortD, mem_sortD, mem_putAll]; simp
section
variable {X : Cx} {W : WX} {a : Expr} {f : ME} {p p2 q pos : Pos}
theorem de_ss (hc : X.calm = true) (hg : Gl X "sorted") (hm : X.mg "sorted" = none) (hg2 : Gl X "set") (hm2 : X.mg "set" = none) (he : DE X W a f) (na : starEach [a] X.env = (false, eval a X.env) :: starEach [] X.env := by rfl) :
    DE X W (.Call (.Name "sorted" p) [.Call (.Name "set" p2) [a] [] q] [] pos) (dSS f) := ⟨⟨fun pins s σ H Q I ⟨O, ρ, S, st, h⟩ => by
  refine Call_ (ld_blt I hg hm (show bootBuiltins "sorted" = some (.builtin "sorted") by decide +kernel) ?_)
  refine PyProof.Rows.callWith_builtin1 (PyProof.Rows.args_cons ?_ rfl) rfl rfl
  refine Call_ (ld_blt I hg2 hm2 (show bootBuiltins "set" = some (.type "set") by decide +kernel) ?_)
  refine PyProof.Rows.callWith_type1 (PyProof.Rows.args_cons (thn (he.pe.run pins s σ H (fun v H1 => ∃ O1 d S1, Stt X.K O1 H1 ρ σ S1 ∧ Rep X.K O1 H1 d v ∧ After X.K W (Rep X.K) ρ σ O1 H1 Q (match d with
    | .tup ds => (match strsOf ds with
      | some xs => if xs.length < 4000 then .ok (.lst ((sortD xs).map .str)) S1 else .bad
      | none => .bad)
    | _ => .bad)) I ⟨O, ρ, S, st, After.seq h fun d S1 O1 H1 v e1 st1 r1 h1 => ⟨O1, d, S1, st1, r1, h1⟩⟩) fun u s1 ⟨v, H1, I1, rv, O1, d, S1, st1, r1, h1⟩ => PyProof.Rows.args_nil ?_) na) na rfl
  cases d <;> try exact h1.elim
  rename_i ds
  cases e : strsOf ds with
  | none => simp only [e] at h1; exact h1.elim
  | some xs =>
    by_cases hl : xs.length < 4000
    · simp only [e, hl, if_true] at h1
      obtain ⟨t, vs, rfl, ht, rs⟩ := r1
      obtain rfl := strs_rep e rs
      cases rv
      obtain ⟨its, rvs, tp, _⟩ := I1.tuple (sqT_of ht)
      have SA : StrsAre its xs := rvs.strs
      have ln : its.toArray.size = xs.length := by rw [List.size_toArray]; exact (rvs.length.symm).trans (List.length_map _)
      refine set_tup (I1.ok.hd hc) tp ln (fun i v hv => strs_at2 SA (by simpa using hv)) (by unfold scanBound; omega) fun hp tk R k1 => PyProof.Rows.args_nil ?_
      have I2 : Inv X pins σ H1 { s1 with heap := hp, toks := tk } := I1.kept k1
      have lp : (putAll [] xs).length < scanBound := by
        have := putAll_len (r := xs) (l := [])
        unfold scanBound
        simp at this
        omega
      refine sorted_set_strs R (I2.ok.hd hc) lp fun s3 b out c k3 g3 o3 z3 at3 y3 => ?_
      rw [sortD_put] at y3
      have hn : H1 b = none := I2.hok.fresh z3
      obtain ⟨e2, st2⟩ := st1.new (o := .lst ((sortD xs).map V.str)) hn
      have lz : ((sortD xs).map V.str).length ≤ sizeLine := by
        have := sortD_len (l := xs)
        rw [List.length_map, sizeLine_eq]; omega
      have J : Inv X pins σ (upd H1 b (.lst ((sortD xs).map V.str))) s3 := I2.call' (ch := []) o3 (Un.laid k3 z3 hn) (I2.hok.laid k3 z3 ⟨lz, out.toList, c, vals_of_strs y3, at3⟩) (by rw [g3]; exact I2.bare) (fun _ z => nomatch z)
      exact ⟨.ref b, _, J, rfl, h1 O1 _ _ e2 st2 ⟨b, _, rfl, st1.no hn, upd_same, reps_strs⟩⟩
    · simp only [e, hl, if_false] at h1; exact h1.elim⟩⟩
end
end DE

set_option maxHeartbeats 4000000
namespace DE
open PySem PySem.Spec PyProof.Rows L2
section
variable {X : Cx} {W : WX} {a : Expr} {f : ME} {p pos pos' : Pos} {e : Expr}
/-! ### int(..) of a number -/
def oInt : FD := fun ds S => match ds with
  | [.int i] => .ok (.int i) S
  | [.bl b] => .ok (.int (if b then 1 else 0)) S
  | _ => .bad
theorem c_oInt : CallR X (.type "int") (RC X.K oInt) := by
  intro pins s σ H vs us Q I rv ⟨W, ρ, σ', O, S, ds, st, r, h⟩
  unfold oInt at h
  split at h
  · obtain ⟨v, rfl, r1⟩ := r.one
    exact call_int1 pins s σ H _ us Q I rv (.inl ⟨_, by rw [show v = _ from r1], After.ok h st rfl⟩)
  · obtain ⟨v, rfl, r1⟩ := r.one
    exact call_int1 pins s σ H _ us Q I rv (.inr ⟨_, by rw [show v = _ from r1], After.ok h st rfl⟩)
  · exact h.elim
/-! ### a tuple so many times -/
def oMul2 : D → D → Sto → RE D := fun d e S => match d, e with
  | .tup xs, .int n => if xs ≠ [] ∧ 2 ≤ n ∧ n ≤ 1000 ∧ xs.length ≤ 1000 then .ok (.tup (List.replicate n.toNat xs).flatten) S else .bad
  | _, _ => .bad
theorem op_oMul2 : OpR X (binaryOp .Mult) (RD X.K oMul2) := by
  intro pins s σ H x y v u Q I rx ry ⟨W, ρ, σ', O, S, d, e, st, r1, r2, h⟩
  unfold oMul2 at h
  split at h
  · rename_i xs n
    obtain ⟨⟨c1, c2, c3, c4⟩, h⟩ := After.ite h
    obtain ⟨l, vs, rfl, hl, rs⟩ := r1
    refine op_repT pins s σ H _ _ v u Q I rx ry ⟨l, n, vs, rfl, r2, sqT_of hl, fun z => c1 ?_, c2, c3, by rw [← rs.length]; exact c4, fun t ht => ?_⟩
    · cases xs with
      | nil => rfl
      | cons _ _ => obtain ⟨_, _, q, _⟩ := rs; rw [z] at q; cases q
    · obtain ⟨e2, st2⟩ := st.new (o := .tup (List.replicate n.toNat vs).flatten) ht
      exact h O _ _ e2 st2 ⟨t, _, rfl, .inl upd_same, (rs.mono (e2.w st.wf)).rep _⟩
  · exact h.elim
/-! ### lists that change: a sum -/
def lstAt (S : Sto) : D → Option (List D)
  | .lst ds => some ds
  | .own k => match S[k]? with
    | some (.lst ds) => some ds
    | _ => none
  | _ => none
theorem lstAt_rep {K : PySem.W.Frag} {O : Ow} {H : Hp} {ρ : DE.Env} {σ : L2.St} {S : Sto} {d : D} {v : V} {ds : List D} (st : Stt K O H ρ σ S) (e : lstAt S d = some ds) (r : Rep K O H d v) : ∃ p xs, v = .ref p ∧ H p = some (.lst xs) ∧ Reps K O H ds xs := by
  cases d <;> simp only [lstAt] at e <;> try cases e
  case lst => obtain ⟨p, xs, rfl, _, h, q⟩ := r; exact ⟨p, xs, rfl, h, q⟩
  case own k =>
    obtain ⟨p, h, rfl⟩ := r
    split at e
    · rename_i ds' hk
      cases e
      obtain ⟨xs, h1, q⟩ := st.wf.cell k p _ h hk
      exact ⟨p, xs, rfl, h1, q⟩
    · cases e
def oAddL (d e : D) (S : Sto) : RE D := match lstAt S d, lstAt S e with
  | some xs, some ys => if xs.length + ys.length ≤ cap then .ok (.lst (xs ++ ys)) S else .bad
  | _, _ => .bad
def oAddO (d e : D) (S : Sto) : RE D := match lstAt S d, lstAt S e with
  | some xs, some ys => if xs.length + ys.length ≤ cap then .ok (.own S.length) (S ++ [.lst (xs ++ ys)]) else .bad
  | _, _ => .bad
theorem op_oAddL : OpR X (binaryOp .Add) (RD X.K oAddL) := by
  intro pins s σ H x y v u Q I rx ry ⟨W, ρ, σ', O, S, d, e, st, r1, r2, h⟩
  unfold oAddL at h
  split at h
  · rename_i xs ys q1 q2
    obtain ⟨hc, h⟩ := After.ite h
    obtain ⟨a, vs, rfl, h1, s1⟩ := lstAt_rep st q1 r1
    obtain ⟨b, us, rfl, h2, s2⟩ := lstAt_rep st q2 r2
    refine op_cat pins s σ H _ _ v u Q I rx ry ⟨a, b, vs, us, rfl, rfl, h1, h2, by rw [← s1.length, ← s2.length]; exact cap_line hc, fun t ht => ?_⟩
    obtain ⟨e2, st2⟩ := st.new (o := .lst (vs ++ us)) ht
    exact h O _ _ e2 st2 ⟨t, _, rfl, st.no ht, upd_same, (s1.mono (e2.w st.wf)).append (s2.mono (e2.w st.wf))⟩
  · exact h.elim
theorem op_oAddO : OpR X (binaryOp .Add) (RD X.K oAddO) := by
  intro pins s σ H x y v u Q I rx ry ⟨W, ρ, σ', O, S, d, e, st, r1, r2, h⟩
  unfold oAddO at h
  split at h
  · rename_i xs ys q1 q2
    obtain ⟨hc, h⟩ := After.ite h
    obtain ⟨a, vs, rfl, h1, s1⟩ := lstAt_rep st q1 r1
    obtain ⟨b, us, rfl, h2, s2⟩ := lstAt_rep st q2 r2
    refine op_cat pins s σ H _ _ v u Q I rx ry ⟨a, b, vs, us, rfl, rfl, h1, h2, by rw [← s1.length, ← s2.length]; exact cap_line hc, fun t ht => ?_⟩
    obtain ⟨e2, st2⟩ := st.newO (o := .lst (vs ++ us)) (d := .lst (xs ++ ys)) ht fun ex => ⟨vs ++ us, upd_same, (s1.mono (ex.w st.wf)).append (s2.mono (ex.w st.wf))⟩
    exact h _ _ _ e2 st2 ⟨t, by rw [st.wf.len]; exact getElem?_snoc _ _, rfl⟩
  · exact h.elim
/-! ### a tuple of the module's -/
def dvD : He.Dv → D
  | .non => .non
  | .bl b => .bl b
  | .int i => .int i
  | .str x => .str x
  | .ty n => .ty n
  | .glo x => .glo x
  | _ => .own 0
def dvOk : He.Dv → Bool
  | .non => true | .bl _ => true | .int _ => true | .str _ => true | .ty _ => true | .glo _ => true
  | _ => false
theorem dv_rep {K : PySem.W.Frag} {O : Ow} {H : Hp} : ∀ {vs : List He.Dv}, vs.all dvOk = true → Reps K O H (vs.map dvD) (vs.map (He.Dv.v K))
  | [], _ => rfl
  | v :: r, h => by
    rw [List.all_cons, Bool.and_eq_true] at h
    refine ⟨_, _, rfl, ?_, dv_rep h.2⟩
    cases v <;> first | rfl | exact absurd (show false = true from h.1) (by decide)
theorem de_gtup {x : Str} {vs : List He.Dv} (hg : Gl X x) (hm : X.mg x = some (.ref (He.ga X.K x))) (ht : He.tupB X.K x vs = true) (ho : vs.all dvOk = true := by decide) (hdb : (x == ("__debug__" : Str)) = false := by decide) : DE X W (.Name x pos) (dC (.tup (vs.map dvD))) :=
  ⟨⟨fun pins s σ H Q I ⟨O, ρ, S, st, h⟩ => ld_glob I hg hm ⟨.ref _, H, I, rfl, After.ok h st ⟨_, _, rfl, .inr (He.tupB_ok ht _), dv_rep ho⟩⟩ hdb⟩⟩
/-! ### name op= e -/
def sAug (i : Nat) (g : ME) : MS := fun ρ S => match ρ[i]? with
  | some (some (.int a)) => (g ρ S).stm ρ fun e S1 => match e with
    | .int b => .nx (ρ.set i (some (.int (a + b)))) S1
    | _ => .bad
  | _ => .bad
theorem ds_aug (i : Nat) {x : Str} (hN : X.N.Nodup) (hi : X.N[i]? = some x) (hx : Loc X.env.scope x) (he : DE X W e f) (hf : X.fn x = true ∨ X.env.scope.names.lookup x = some .local := by first | exact .inl rfl | exact .inr rfl | assumption) : DS X W (.AugAssign (.Name x pos') .Add e pos) (sAug i f) :=
  ⟨PS.imp (ps_aug hN hi hx he.pe ip_add hf) fun D' σ H ⟨O, ρ, S, st, h⟩ => by
    unfold sAug at h
    split at h
    · rename_i a q
      obtain ⟨v, hv, r0⟩ := st.env.get q
      refine ⟨v, hv, O, ρ, S, st, AfterS.seqE h fun d S1 O1 H1 u e1 st1 r1 h1 => ?_⟩
      cases d <;> try exact h1.elim
      rename_i b
      exact ⟨a, b, r0, r1, h1 O1 H1 _ .refl ⟨st1.wf, st1.env.set (d := .int (a + b)) (v := .int (a + b)) rfl i⟩⟩
    · exact h.elim⟩
/-! ### a, b = x, y with plain names -/
def sPar (i j : Nat) (fa : MA) : MS := fun ρ S => (fa ρ S).stm ρ fun ds S1 => match ds with
  | [d, e] => .nx ((ρ.set i (some d)).set j (some e)) S1
  | _ => .bad
theorem ds_par (i j : Nat) {x y : Str} {b : Expr} {fa : MA} {px py pt : Pos} {kt k2 pt2} (hc : X.calm = true) (hN : X.N.Nodup) (ha : DA X W [a, b] fa) (hi : X.N[i]? = some x := by rfl) (hj : X.N[j]? = some y := by rfl) (hij : i ≠ j := by decide)
    (hx : X.env.scope.names.lookup x = some .local := by rfl) (hy : X.env.scope.names.lookup y = some .local := by rfl)
    (hw : swappedStores [.Tuple [.Name x px, .Name y py] kt pt] (.Tuple [a, b] k2 pt2) X.env = pure (some [x, y]) := by rfl)
    (hs : swapsWithSole [.Tuple [.Name x px, .Name y py] kt pt] (.Tuple [a, b] k2 pt2) pos.line X.env = pure false := by rfl) :
    DS X W (.Assign [.Tuple [.Name x px, .Name y py] kt pt] (.Tuple [a, b] k2 pt2) pos) (sPar i j fa) :=
  ⟨PS.imp (ps_par hc hN hi hj hij hx hy ha.pa hw hs) fun D' σ H ⟨O, ρ, S, st, h⟩ => ⟨O, ρ, S, st, AfterS.seqE h fun ds S1 O1 H1 vs e1 st1 r1 h1 => by
    rcases ds with _ | ⟨d, _ | ⟨e, _ | ⟨_, _⟩⟩⟩
    · exact h1.elim
    · exact h1.elim
    · obtain ⟨v, u, rfl, q1, q2⟩ := r1.two
      exact ⟨v, u, rfl, h1 O1 H1 _ .refl ⟨st1.wf, (st1.env.set q1 i).set q2 j⟩⟩
    · exact h1.elim⟩⟩
/-- nothing is told -/
theorem dss_bad {ss : List Stmt} : DSs X W ss (fun _ _ => .bad) := ⟨⟨fun pins s σ H D' I ⟨O, ρ, S, st, h⟩ => h.elim⟩⟩
/-! ### a, b = a tuple or a list -/
def gTL (n : Nat) (g : MGs) : MG := fun d ρ => match d with
  | .tup ds => if ds.length = n then g ds ρ else none
  | .lst ds => if ds.length = n then g ds ρ else none
  | _ => none
theorem dg_tl {es : List Expr} {k : Nat} {is : List Nat} {g1 : MGs} {n : Nat} (hc : X.calm = true) (h : DGs X es is g1)
    (hn : (assignEach es X.env).length = n := by rfl) (hst : (assignEach es X.env).findIdx? (·.1) = none := by rfl) : DG X (.Tuple es k pos) is (gTL n g1) :=
  ⟨⟨fun pins s σ H v u Q I rv ⟨O, ρ, S, d, ρ', st, r, e, kk⟩ => by
    cases d <;> try cases e
    case tup ds =>
      obtain ⟨a, xs, rfl, h1, h2⟩ := r
      have e' : (if ds.length = n then g1 ds ρ else none) = some ρ' := e
      by_cases hl : ds.length = n
      · rw [if_pos hl] at e'
        exact (pg_tup hc h.pgs hn hst).run pins s σ H _ u Q I rv ⟨a, xs, rfl, sqT_of h1, h2.length ▸ hl, O, ρ, S, ds, ρ', st, h2, e', kk⟩
      · rw [if_neg hl] at e'; cases e'
    case lst ds =>
      obtain ⟨a, xs, rfl, _, h1, h2⟩ := r
      have e' : (if ds.length = n then g1 ds ρ else none) = some ρ' := e
      by_cases hl : ds.length = n
      · rw [if_pos hl] at e'
        exact (pg_unl hc h.pgs hn hst).run pins s σ H _ u Q I rv ⟨a, xs, rfl, SqL.of h1, h2.length ▸ hl, O, ρ, S, ds, ρ', st, h2, e', kk⟩
      · rw [if_neg hl] at e'; cases e'⟩⟩
end
end DE

set_option maxHeartbeats 4000000
namespace DE
open PySem PySem.Spec PyProof.Rows L2
/-! ### defs that are promised only where no repr is under way -/
structure FnGd (P : Program) (w : World) (K : PySem.W.Frag) (mg : Str → Option Value) (base : Heap) (k : Nat) (f : Addr) (fd : FuncData) (ps : List Str) (sp : Sp) : Prop where
  len : ∀ vs H Q E, sp vs H Q E → vs.length = ps.length
  run : ∀ (A : Around) (outer : List PySem.Env) (s : Shared) (H : Hp) (args : Args) (us : List Value) (vs : List V) (Q : VK) (E : XK), Room k A → A.guards = some [] → Env0 P w K mg base A outer s H → BindsTo s fd args (ps.zip us) → Vals vs us → sp vs H Q E →
    codeAny (model P w) A (.call (.ref f) args) (CR (L2.CX P w) outer P w H s Q E) s
section
variable {P : Program} {w : World} {K : PySem.W.Frag} {mg : Str → Option Value} {base : Heap} {k : Nat} {f : Addr} {fd : FuncData} {x qual : Str} {params : Arguments} {body : List Stmt} {scope : Scope} {dvs : List V} {kws : List (Str × V)} {N ps : List Str} {sp : Sp} {B : MS}
theorem FnGd.of (F : FunD K x qual params body scope dvs kws f fd) (S : FnScope N ps scope) (len : ∀ vs H Q E, sp vs H Q E → vs.length = ps.length)
    (go : ∀ (cdv : Value) (A : Around) (outer : List PySem.Env) (s : Shared) (H : Hp) (vs : List V) (Q : VK) (E : XK), Room k (A.deeper (envOfC qual scope s.heap.objs.size f cdv)) → A.guards = some [] → sp vs H Q E →
      ∃ t, PSs (XOf P w K mg base N qual scope f cdv A outer s H E) body t ∧ t { nx := fun _ H' => Q .non H', rt := Q } (start N vs) H) : FnGd P w K mg base (k + 1) f fd ps sp := by
  obtain ⟨oc, od, dV, kV, doc, pm, an, cdv, ct, osl, rfl, lk, hcd, _, _⟩ := F.ex
  refine ⟨len, fun A outer s H args us vs Q E room gd e0 bnd rel hs => ?_⟩
  have inK : K.In s.heap := e0.mod.kin.keeps (fun b o z => (e0.bs b o z).1)
  have locals_ : ∀ y ∈ ps.zip us, scope.names.lookup y.1 = some .local ∨ (scope.names.lookup y.1 = some .cell ∧ ((cellsFrom (s.heap.objs.size + 1) scope.names []).lookup y.1).isSome = true) := by
    rintro ⟨n, v⟩ hy
    exact (S.par n (List.of_mem_zip hy).1).imp id fun z => ⟨z, PySem.W.cellsFrom_some _ _ _ (.inl z)⟩
  refine codeAny_call_function room.depth (inK _ _ lk) rfl S.co S.gen rfl (PySem.W.codeRec_of inK hcd) (bnd _ _ _ _ (wpAny_newFunctionEnv_cells S.kind locals_ fun env ev s1 ic => ?_))
  subst ev
  obtain ⟨t, run, hq⟩ := go cdv A outer s H vs Q E (room.deeper _) gd hs
  have J : Inv (XOf P w K mg base N qual scope f cdv A outer s H E) [] (start N vs) H s1 := inv_start S room.hd e0 (len _ _ _ _ hs) rel ic
  have out : ∀ {σ' : L2.St} {H' : Hp} {v : V} {u : Value} {s' : Shared}, Inv (XOf P w K mg base N qual scope f cdv A outer s H E) [] σ' H' s' → RelV v u → Q v H' → CE outer P w H s Q u s' :=
    fun I' r q => ⟨_, _, I'.os, I'.bare, I'.base, I'.hok, r, q⟩
  refine ⟨e0.mod.nolimit.keeps (fun b o z => ic.toInCall.keep b o (e0.bs b o z).1), codeAny_func (wpAny_mono (run.run [] s1 (start N vs) H _ J hq) (fun fl s' z => ?_) fun _ _ z => z)⟩
  rcases fl with _ | _ | _ | u
  all_goals first
    | exact (let ⟨v, σ', H', I', r, q⟩ := z; out I' r q)
    | exact (let ⟨σ', H', I', q⟩ := z; out (v := .non) (u := .none) I' rfl q)
    | exact (let ⟨_, _, _, q⟩ := z; q.elim)
theorem fn_dataG (F : FunD K x qual params body scope dvs kws f fd) (S : FnScope N ps scope)
    (go : ∀ (cdv : Value) (A : Around) (outer : List PySem.Env) (s : Shared) (H : Hp) (E : XK), Room k (A.deeper (envOfC qual scope s.heap.objs.size f cdv)) → A.guards = some [] → DSs (XOf P w K mg base N qual scope f cdv A outer s H E) (WD E) body B) :
    FnGd P w K mg base (k + 1) f fd ps (spD K ps.length (fnD N.length B)) := by
  refine .of F S (fun vs H Q E ⟨O, S', ds, _, r, hl, _⟩ => by rw [← r.length]; exact hl) (fun cdv A outer s H vs Q E hr gd ⟨O, S', ds, wf, r, hl, h⟩ => ?_)
  refine ⟨_, (go cdv A outer s H E hr gd).pss, O, _, S', ⟨wf, by rw [L2.start, ← r.length]; exact (REnv.of r).app (N.length - ds.length)⟩, ?_⟩
  unfold fnD at h
  cases q : B (ds.map some ++ List.replicate (N.length - ds.length) none) S' with
  | nx ρ1 S1 => rw [q] at h; exact fun O' H' σ' e st => h O' H' .non e st.wf rfl
  | rt d S1 => rw [q] at h; exact fun O' H' v e st rd => h O' H' v e st rd
  | exc x ρ1 S1 => rw [q] at h; exact fun O' H' σ' cls dx e st rx => h O' H' cls dx e st.wf rx
  | bk _ _ => rw [q] at h; exact h.elim
  | ct _ _ => rw [q] at h; exact h.elim
  | bad => rw [q] at h; exact h.elim
end
section
variable {X : Cx} {W : WX} {x : Str} {p pos : Pos} {e : Expr} {es : List Expr} {k j n : Nat} {f : Addr} {fd : FuncData} {ps : List Str} {sp : Sp} {F : FD} {fa : MA}
/-- a call of such a def -/
theorem run_G {pins : List (Addr × Obj)} {σ : L2.St} {H : Hp} {s : Shared} {Q : VK} {E : L2.St → XK} {us : List Value} {vs : List V} (G : FnGd X.prog X.w X.K X.mg X.base k f fd ps sp) (room : Room k X.A) (gd : X.A.guards = some []) (bnd : Binds X.K fd ps []) (px : PassesAt (L2.CX X.prog X.w) X σ (E σ))
    (I : Inv X pins σ H s) (rel : Vals vs us) (h : sp vs H Q (E σ)) : wpAny (model X.prog X.w) X.A (call (.ref f) us) (EP X pins σ Q) X.xe s := by
  have hl : (us ++ []).length = ps.length := by rw [List.append_nil, ← rel.length]; exact G.len _ _ _ _ h
  have b := bnd s us I.kIn hl
  rw [List.append_nil] at b
  refine wpAny_call (codeAny_mono (G.run X.A X.stack s H ⟨us, []⟩ us vs Q (E σ) room gd I.env0 b rel h) ?_)
  rintro (er | fl) s' z
  · exact px pins H s er s' I z
  · rcases fl with _ | _ | _ | u
    all_goals first
      | exact I.after z
      | exact z.elim
theorem de_callG (G : FnGd X.prog X.w X.K X.mg X.base k f fd ps (spD X.K n F)) (room : Room k X.A) (gd : X.A.guards = some []) (hg : Gl X x) (hm : X.mg x = some (.ref f)) (hk : PySem.W.keepIn X.K (.ref f) = true) (bnd : Binds X.K fd ps []) (tk : Takes X W) (ha : DA X W (e :: es) fa)
    (hdb : (x == ("__debug__" : Str)) = false := by decide) (he : starEach (e :: es) X.env = (false, eval e X.env) :: starEach es X.env := by rfl) (hpl : (backTo pos (starEach es X.env)).any (·.1) = false := by rfl) : DE X W (.Call (.Name x p) (e :: es) [] pos) (dCall n F [] fa) :=
  ⟨⟨fun pins s σ H Q I h => by
    have h2 : tCallSD (spD X.K n F) [] (WE W) (tA X.K W fa) σ H Q := call_imp (dd := []) (dvs := []) (fun _ _ _ _ q => q) (fun _ _ => rfl) h
    refine wpAny_Call_Name_kw (ld_glob I hg hm ?_ hdb)
    refine PySem.W.callWith_K (h₀ := X.base) I.ok.mod.kin hk (thn (ha.pa.run pos pins s σ H _ I h2) fun us s1 ⟨vs, H1, I1, r, q⟩ => ⟨I1.kIn, ?_⟩) he hpl
    have q : spD X.K n F (vs ++ []) H1 Q (WE W σ) := q
    rw [List.append_nil] at q
    exact run_G G room gd bnd (passAt tk σ) I1 r q⟩⟩
/-- a def by its name, with a promise over data -/
structure FnG (P : Program) (w : World) (K : PySem.W.Frag) (mg : Str → Option Value) (base : Heap) (k : Nat) (x : Str) (n : Nat) (F : FD) : Prop where
  ok : ∃ fd ps, FnGd P w K mg base k (He.ga K x) fd ps (spD K n F) ∧ Binds K fd ps []
  gl : mg x = some (.ref (He.ga K x))
  kp : PySem.W.keepIn K (.ref (He.ga K x)) = true
theorem de_fnG (G : FnG X.prog X.w X.K X.mg X.base k x n F) (hr : Room j X.A) (gd : X.A.guards = some []) (hg : Gl X x) (tk : Takes X W) (ha : DA X W (e :: es) fa) (hk : k ≤ j := by decide) (hdb : (x == ("__debug__" : Str)) = false := by decide)
    (he : starEach (e :: es) X.env = (false, eval e X.env) :: starEach es X.env := by rfl) (hpl : (backTo pos (starEach es X.env)).any (·.1) = false := by rfl) : DE X W (.Call (.Name x p) (e :: es) [] pos) (dCall n F [] fa) := by
  obtain ⟨fd, ps, h1, h2⟩ := G.ok
  exact de_callG h1 (hr.mono hk) gd hg G.gl G.kp h2 tk ha hdb he hpl
end
/-! ### the head -/
/-- what is tracked at the head: the script, if it is none of the module's own objects -/
def H0 (K : PySem.W.Frag) (a : Addr) (o : Obj) (ns : List Int) : Hp := fun b => if b = a ∧ K.lookup a = none then some (.frz o (.lst (ns.map V.int))) else none
theorem H0_some {K : PySem.W.Frag} {a b : Addr} {o : Obj} {ns : List Int} {u : HO} (h : H0 K a o ns b = some u) : b = a ∧ K.lookup a = none ∧ u = .frz o (.lst (ns.map V.int)) := by
  unfold H0 at h
  by_cases c : b = a ∧ K.lookup a = none
  · rw [if_pos c] at h; exact ⟨c.1, c.2, (Option.some.inj h).symm⟩
  · rw [if_neg c] at h; cases h
theorem law_callG {P : Program} {w : World} {K : PySem.W.Frag} {mg mb : Str → Option Value} {k : Nat} {fa a : Addr} {fd : FuncData} {x : Str} {sp : Sp} {s : Shared} {vs : List Value} {ns : List Int} (KX : K.In s.heap) (hns : s.heap.Ns mainGlobals mg) (hb : s.heap.Ns builtinsNs mb)
    (hbb : ∀ x : Str, x ≠ "__name__" → mb x = bootBuiltins x) (lim : s.heap.NoLimit) (hg : s.gens = #[]) (ha : s.heap.get? a = some { cls := .type "list", data := .seq vs.toArray }) (hi : IntsAre vs ns) (hl : ns.length ≤ sizeLine) (hr : Room k callerA)
    (F : ∀ base : Heap, K.In base → base.Ns mainGlobals mg → FnGd P w K mg base k fa fd [x] sp) (hbind : ∀ (s : Shared) (u : Value), BindsTo s fd ⟨[u], []⟩ [(x, u)]) (hsp : ∀ H : Hp, SqL K H a (ns.map V.int) → sp [.ref a] H (fun v _ => v = .bl true) fun _ _ _ => False) :
    codeAny (model P w) callerA (.call (.ref fa) ⟨[.ref a], []⟩) (fun r s' => r = .ok (.ret (.bool true)) ∧ OldK s.heap s'.heap ∧ s'.os = s.os ∧ AllBare s'.gens) s := by
  have rv := vals_ints hi
  have lv : vs.length = ns.length := hi.length
  generalize hH : H0 K a { cls := .type "list", data := .seq vs.toArray } ns = H
  have only : ∀ {b u}, H b = some u → b = a ∧ K.lookup a = none ∧ u = .frz { cls := .type "list", data := .seq vs.toArray } (.lst (ns.map V.int)) := fun {b u} z => H0_some (hH ▸ z)
  have sq : SqL K H a (ns.map V.int) := by
    cases q : K.lookup a with
    | none => exact .inl (.inr ⟨_, by rw [← hH]; exact if_pos ⟨rfl, q⟩⟩)
    | some o =>
      have e := (KX a o q).symm.trans ha
      cases e
      exact .inr ⟨_, vs.toArray, _, q, rfl, rfl, rfl, by rw [List.size_toArray, lv]; exact hl, by simpa using rv⟩
  have hok : HOk P w H s.heap := fun b u z => by
    obtain ⟨rfl, _, rfl⟩ := only z
    exact ⟨ha, by rw [List.length_map]; exact hl, vs, _, rv, ha⟩
  have dictN : ∀ {b : Addr} {o : Obj} {es : Array DictEntry} {ep : Nat}, s.heap.get? b = some o → o.data = .dict es ep → H b = none := fun {b o es ep} z d => by
    cases q : H b with
    | none => rfl
    | some u =>
      obtain ⟨rfl, _, _⟩ := only q
      rw [ha] at z
      cases z
      exact absurd (show Data.seq vs.toArray _ = Data.dict es ep from d) (fun z => nomatch z)
  have ns' : ∀ {b : Addr} {m : Str → Option Value}, s.heap.Ns b m → (hidT s.heap H).Ns b m := fun {b m} ⟨o, es, ep, z, d, r⟩ => ⟨o, es, ep, hidT_get z (dictN z d), d, r⟩
  have KB : K.In (hidT s.heap H) := fun b o z => hidT_get (KX b o z) (by
    cases q : H b with
    | none => rfl
    | some u =>
      obtain ⟨rfl, q2, _⟩ := only q
      rw [q2] at z; cases z)
  have M : Mod K mg (hidT s.heap H) := by
    obtain ⟨mc, l1, l2⟩ := lim
    exact ⟨KB, ns' hns, ⟨mb, ns' hb, hbb⟩, mc, ns' l1, l2⟩
  have e0 : Env0 P w K mg (hidT s.heap H) callerA [] s H := ⟨rfl, M, fun b o z => of_hidT z, Nat.le_of_eq (hidT_size _ _), trivial, fun b z => absurd (show b ∈ ([] : List Addr) from z) (by simp), hok, .of_eq hg⟩
  refine codeAny_mono ((F _ KB (ns' hns)).run callerA [] s H ⟨[.ref a], []⟩ [.ref a] [.ref a] _ _ hr rfl e0 (hbind s (.ref a)) (.cons rfl .nil) (hsp H sq)) ?_
  rintro (er | fl) s' z
  · exact (CXA.no ⟨P, w, z⟩).elim
  · rcases fl with _ | _ | _ | u
    all_goals first
      | exact z.elim
      | skip
    obtain ⟨v, H', os, bare, un, hok', r', q⟩ := z
    obtain rfl : v = .bl true := q
    obtain rfl : u = Value.bool true := r'
    refine ⟨rfl, OldK.of_keep fun b o z => ?_, os, bare⟩
    cases q : H b with
    | none => exact un.keep b o z q (fun y => absurd (show b ∈ ([] : List Addr) from y) (by simp)) (by simp)
    | some u =>
      obtain ⟨rfl, _, rfl⟩ := only q
      obtain ⟨e2, _⟩ := hok' b _ (un.frzs b _ _ q)
      rw [ha] at z
      cases z
      exact e2
end DE

set_option maxHeartbeats 4000000
namespace DE
open PySem PySem.Spec PyProof.Rows L2
theorem walk_G {l : PySem.W.OpenLaw} {n k : Nat} {q : Program} {loose : List Str} {XP : (Str → Option Value) → Heap → Prop} {YP : World → Heap → Prop} {d : DefRec} {x : Str} (hn : l.most = some n) (hn2 : n ≤ sizeLine) (hdf : d.params.defaults = []) (hr : Room k callerA)
    (F : ∀ (w : World) (mg : Str → Option Value) (fa : Addr) (h : Heap), YP w h → h.Ns mainGlobals mg → mg d.name = some (.ref fa) → ∃ (K : PySem.W.Frag) (fd : FuncData) (sp : Sp), K.In h ∧ (∀ (s : Shared) (u : Value), BindsTo s fd ⟨[u], []⟩ [(x, u)]) ∧
      (∀ (H : Hp) (a : Addr) (ns : List Int), ns.length ≤ n → SqL K H a (ns.map V.int) → sp [.ref a] H (fun v _ => v = .bl true) fun _ _ _ => False) ∧ ∀ base : Heap, K.In base → base.Ns mainGlobals mg → FnGd l.prog w K mg base k fa fd [x] sp) :
    PySem.W.WalkO q loose XP YP l.row.toRowW d [] (fun f vs => PySem.call f vs) :=
  Att.attach_call hn hdf fun w s0 s1 mg mb fa o pm cd doc a vs ns G Y ho hd hcd hmg hobj hints hlen hg => by
    obtain ⟨K, fd, sp, KX, hb, hsp, hF⟩ := F w mg fa _ Y G.T.g hmg
    exact law_callG KX G.T.g G.T.b G.T.builtins G.T.nolimit hg hobj hints (Nat.le_trans hlen hn2) hr hF hb fun H hS => hsp H a ns hlen hS
/-! ### repr -/
def reprOf (p : PyData) : Option Str := if p.showable = true ∧ p.depth ≤ 60 ∧ p.shown.length ≤ cap then some p.shown else none
def oRepr : FD := fun ds S => match ds with
  | [.dK []] => .ok (.str (Str.ofString "{}")) S
  | [d] => (match (toPy d).bind reprOf with
    | some x => .ok (.str x) S
    | none => .bad)
  | _ => .bad
mutual
theorem toPy_nd : ∀ {d : D} {p : PyData}, toPy d = some p → p.hasDict = false
  | .non, _, e => by cases e; rfl
  | .bl _, _, e => by cases e; rfl
  | .int _, _, e => by cases e; rfl
  | .str _, _, e => by cases e; rfl
  | .tup ds, _, e => by
    simp only [toPy] at e
    cases q : toPys ds with
    | none => rw [q] at e; cases e
    | some ps => rw [q] at e; cases e; simpa only [PyData.hasDict] using toPys_nd q
  | .lst ds, _, e => by
    simp only [toPy] at e
    cases q : toPys ds with
    | none => rw [q] at e; cases e
    | some ps => rw [q] at e; cases e; simpa only [PyData.hasDict] using toPys_nd q
  | .ty _, _, e => by cases e
  | .glo _, _, e => by cases e
  | .scr _, _, e => by cases e
  | .dK _, _, e => by cases e
  | .dT _, _, e => by cases e
  | .obj _ _, _, e => by cases e
  | .own _, _, e => by cases e
  | .xcp _ _ _, _, e => by cases e
  | .exo _ _, _, e => by cases e
theorem toPys_nd : ∀ {ds : List D} {ps : List PyData}, toPys ds = some ps → PyData.hasDictAll ps = false
  | [], _, e => by cases e; rfl
  | d :: ds, _, e => by
    simp only [toPys] at e
    cases q : toPy d with
    | none => rw [q] at e; cases e
    | some p =>
      cases q2 : toPys ds with
      | none => rw [q, q2] at e; cases e
      | some ps => rw [q, q2] at e; cases e; simp [PyData.hasDictAll, toPy_nd q, toPys_nd q2]
end
section
variable {X : Cx}
theorem c_oRepr (gd : X.A.guards = some []) (hu : X.A.units + 64 < cLine) : CallR X (.builtin "repr") (RC X.K oRepr) := by
  intro pins s σ H vs us Q I rv ⟨W, ρ, σ', O, S, ds, st, r, h⟩
  unfold oRepr at h
  split at h
  · obtain ⟨v, rfl, r1⟩ := r.one
    obtain ⟨a, vs', rfl, _, hd, hk⟩ := r1
    cases hk
    cases rv with
    | cons ru rr =>
      cases rr
      cases ru
      obtain ⟨_, ns, kv, kvr, o, es, ep, ho, hex, hdt, _, hp, _⟩ := dk_rd I.hok hd
      cases kvr
      obtain ⟨es⟩ := es
      cases es with
      | cons _ _ => cases hp
      | nil =>
        have rd : Reads s.heap (.ref a) (.dict []) (a :: [] ++ []) := Reads.dict ho hex.1 hdt .nil .nil
        have ne : sysModules ∉ (a :: [] ++ [] : List Addr) := fun z => by
          have := List.mem_singleton.mp (show sysModules ∈ [a] from z)
          rw [this] at ns
          simp at ns
        have sh : (PyData.dict []).shown = Str.ofString "{}" := by decide +kernel
        refine repr_of_reads' rd rfl (fun _ => ne) gd (by have : (PyData.dict []).depth = 1 := rfl; omega) (fun _ _ z => z) (fun h2 u2 tk k2 => ⟨.str _, H, I.kept (t' := tk) k2, ⟨_, rfl⟩, ?_⟩) (by decide +kernel)
        rw [sh]
        exact After.ok h st rfl
  · rename_i d _
    obtain ⟨v, rfl, r1⟩ := r.one
    cases e : toPy d with
    | none => rw [e] at h; exact h.elim
    | some p =>
      rw [e] at h
      have h' : After X.K W (Rep X.K) ρ σ' O H Q (match reprOf p with | some x => .ok (.str x) S | none => .bad) := h
      unfold reprOf at h'
      by_cases c : p.showable = true ∧ p.depth ≤ 60 ∧ p.shown.length ≤ cap
      · rw [if_pos c] at h'
        obtain ⟨c1, c2, c3⟩ := c
        have dp := dp_of e r1
        cases rv with
        | cons ru rr =>
          cases rr
          rename_i u
          have fin : ∀ (tk : Tok), RelV (.str p.shown) (.str p.shown tk) := fun tk => ⟨tk, rfl⟩
          obtain ⟨as, rd⟩ := Dp.reads I p v u dp ru
          have nd : p.hasDict = false := toPy_nd e
          have ref : isDisplay p = true → ∃ a, u = .ref a := isRef_of_reads rd
          cases hp : p with
          | none => subst hp; cases rd; exact PySem.P.repr_of_none ⟨.str _, H, I.tok _, ⟨_, rfl⟩, After.ok h' st rfl⟩
          | bool b => subst hp; cases rd; exact PySem.P.repr_of_bool ⟨.str _, H, I.tok _, ⟨_, rfl⟩, After.ok h' st rfl⟩
          | int i =>
            subst hp
            cases rd
            exact PySem.P.repr_of_int (by simpa [PyData.showable] using c1) ⟨.str _, H, I.tok _, ⟨_, rfl⟩, After.ok h' st rfl⟩
          | str x =>
            subst hp
            cases rd
            exact PySem.P.repr_of_str ⟨.str _, H, I.tok _, ⟨_, rfl⟩, After.ok h' st rfl⟩ (cap_line c3)
          | list xs =>
            subst hp
            obtain ⟨a, rfl⟩ := ref rfl
            exact repr_of_reads' rd c1 (PyData.noDict_hsm nd) gd (by omega) (fun _ _ z => z) (fun h2 u2 tk k2 => ⟨.str _, H, I.kept (t' := tk) k2, ⟨_, rfl⟩, After.ok h' st rfl⟩) (cap_line c3)
          | tuple xs =>
            subst hp
            obtain ⟨a, rfl⟩ := ref rfl
            exact repr_of_reads' rd c1 (PyData.noDict_hsm nd) gd (by omega) (fun _ _ z => z) (fun h2 u2 tk k2 => ⟨.str _, H, I.kept (t' := tk) k2, ⟨_, rfl⟩, After.ok h' st rfl⟩) (cap_line c3)
          | dict kvs => subst hp; cases dp
      · rw [if_neg c] at h'; exact h'.elim
  · exact h.elim
end
end DE

set_option maxHeartbeats 4000000
namespace DE
open PySem PySem.Spec PyProof.Rows L2
/-- who is an instance of what: tables of names, of built-in types -/
def ktD (c : Str) (tg : List ((Str × Str) × Bool)) (tt : List ((Str × String) × Bool)) : D → Option Bool
  | .glo x => tg.lookup (c, x)
  | .ty n => tt.lookup (c, n)
  | _ => none
theorem ktD_ok {K0 : PySem.W.Frag} {c : Str} {tg : List ((Str × Str) × Bool)} {tt : List ((Str × String) × Bool)} (h1 : xgB tg K0 = true) (h2 : xtB tt K0 = true) : ∀ t b, ktD c tg tt t = some b →
    ∃ cv, (∀ K O H v u, K = K0 → Rep K O H t v → RelV v u → u = cv) ∧ PySem.W.kitOne K0 (.ref (He.ga K0 c)) cv = some b := by
  intro t b h
  cases t <;> simp only [ktD] at h <;> try cases h
  case glo x =>
    refine ⟨.ref (He.ga K0 x), fun K O H v u e r ru => ?_, xgB_ok h1 h⟩
    subst e
    cases (show v = _ from r)
    exact ru
  case ty n =>
    refine ⟨.type n, fun K O H v u e r ru => ?_, xtB_ok h2 h⟩
    cases (show v = _ from r)
    exact ru
/-- just c is caught -/
def cl1 (c : Str) : Str → Option Bool := fun d => if d = c then some true else none
theorem cl1_eq {c d : Str} {b : Bool} (h : cl1 c d = some b) : d = c ∧ b = true := by
  unfold cl1 at h
  by_cases e : d = c
  · rw [if_pos e] at h; cases h; exact ⟨e, rfl⟩
  · rw [if_neg e] at h; cases h
theorem cl1_ok {K : PySem.W.Frag} {x : Str} (h : PySem.W.exmOne K (.ref (He.ga K x)) (.ref (He.ga K x)) = some true) : ∀ c b, cl1 x c = some b → PySem.W.exmOne K (.ref (He.ga K c)) (.ref (He.ga K x)) = some b := by
  intro c b e
  obtain ⟨rfl, rfl⟩ := cl1_eq e
  exact h
/-! ### for simp -/
@[simp] theorem unset_nx (i : Nat) (ρ : DE.Env) (S : Sto) : RS.unset i (.nx ρ S) = .nx (ρ.set i none) S := id rfl
@[simp] theorem unset_rt (i : Nat) (d : D) (S : Sto) : RS.unset i (.rt d S) = .rt d S := id rfl
@[simp] theorem unset_bad (i : Nat) : RS.unset i .bad = .bad := id rfl
@[simp] theorem unset_exc (i : Nat) (x : Exc) (ρ : DE.Env) (S : Sto) : RS.unset i (.exc x ρ S) = .bad := id rfl
theorem unset_stm {α : Type} {i : Nat} {ρ : DE.Env} {r : RE α} {k : α → Sto → RS} : RS.unset i (r.stm ρ k) = (match r with | .ok a S => RS.unset i (k a S) | _ => .bad) := by
  cases r <;> rfl
theorem set3 {ρ : DE.Env} {i j : Nat} {v d : Option D} (h : i ≠ j) : ((ρ.set i v).set j d).set i none = (ρ.set i none).set j d := by
  rw [List.set_comm _ _ h, List.set_set, List.set_comm _ _ (Ne.symm h)]
theorem getset {ρ : DE.Env} {i : Nat} {v : Option D} : (ρ.set i v)[i]? = if i < ρ.length then some v else none := by
  by_cases h : i < ρ.length
  · rw [if_pos h, List.getElem?_set_self h]
  · rw [if_neg h, List.getElem?_eq_none (by simpa using h)]
end DE

set_option maxHeartbeats 4000000
namespace DE
open PySem PySem.Spec PyProof.Rows L2
/-! ### list.index -/
/-- where the first item stands that is equal to p -/
def firstEq (p : PyData) : List PyData → Option Nat
  | [] => none
  | q :: r => if PyData.eqv q p = true then some 0 else (firstEq p r).map (· + 1)
theorem firstEq_ok {p : PyData} : ∀ {l : List PyData} {j : Nat}, firstEq p l = some j → ∃ z, l[j]? = some z ∧ PyData.eqv z p = true ∧ ∀ (m : Nat) (z' : PyData), m < j → l[m]? = some z' → PyData.eqv z' p = false
  | [], _, h => by cases h
  | q :: r, j, h => by
    unfold firstEq at h
    by_cases c : PyData.eqv q p = true
    · rw [if_pos c] at h
      cases h
      exact ⟨q, rfl, c, fun m _ hm => by omega⟩
    · rw [if_neg c] at h
      cases e : firstEq p r with
      | none => rw [e] at h; cases h
      | some i =>
        rw [e] at h
        cases h
        obtain ⟨z, h1, h2, h3⟩ := firstEq_ok e
        refine ⟨z, by simpa using h1, h2, fun m z' hm hz => ?_⟩
        cases m with
        | zero =>
          simp at hz
          subst hz
          simpa using c
        | succ m => exact h3 m z' (by have q : m + 1 < i + 1 := hm; omega) (by simpa using hz)
def oIndex (d e : D) (S : Sto) : RE D := match d with
  | .lst ds => (match toPys ds, toPy e with
    | some ps, some p => if SeqAt.shaped (.list ps) = true ∧ SeqAt.shaped p = true then (match firstEq p ps with
      | some j => .ok (.int j) S
      | none => .bad) else .bad
    | _, _ => .bad)
  | _ => .bad
/-- d.index(e): the list stands, then the thing -/
def dIndex (f g : ME) : ME := fun ρ S => (f ρ S).bind fun d S1 => match d with
  | .lst _ => (g ρ S1).bind fun e S2 => oIndex d e S2
  | _ => .bad
section
variable {X : Cx} {W : WX} {o e : Expr} {f g : ME} {apos pos : Pos}
theorem de_index (hu : X.A.units + 65 < cLine) (ho : DE X W o f) (he : DE X W e g) (hbase : attributeBase o "index" X.env (eval o X.env) = eval o X.env := by rfl)
    (hfew : ((backTo pos (starEach (e :: []) X.env)).all (fun x => !x.1) && (backToKw pos (keywordEach [] X.env)).all (fun x => x.1.isSome) && decide ((e :: []).length + ([] : List Keyword).length + (if ([] : List Keyword).isEmpty then 0 else 1) < 30)) = true := by rfl)
    (hline : (apos.endLine == pos.line) = true := by rfl) (hs : starEach (e :: []) X.env = (false, eval e X.env) :: starEach [] X.env := by rfl) (hplain : (backTo pos (starEach [] X.env)).any (·.1) = false := by rfl) :
    DE X W (.Call (.Attribute o "index" apos) [e] [] pos) (dIndex f g) :=
  ⟨PE.imp (pe_bm PySem.F.plainAttrs_list PySem.F.slot_list_index PySem.F.type_list_index (mt_indexD hu) ho.pe (pa_cons he.pe pa_nil hs) hbase hfew hline hs hplain) fun σ H Q ⟨O, ρ, S, st, h⟩ => ⟨O, ρ, S, st, After.seq h fun d S1 O1 H1 v e1 st1 r1 h1 => by
    cases d <;> try exact h1.elim
    rename_i ds
    obtain ⟨a, xs, rfl, na, ha, rs⟩ := r1
    refine ⟨.inl ⟨rfl, _, SqL.of ha⟩, O1, ρ, S1, st1, After.seq h1 fun e2 S2 O2 H2 y ex st2 r2 h2 => ?_⟩
    have rl : Rep X.K O2 H2 (.lst ds) (.ref a) := Rep.mono (ex.w st1.wf) (show Rep X.K O1 H1 (.lst ds) (.ref a) from ⟨a, xs, rfl, na, ha, rs⟩)
    have h2 : After X.K W (Rep X.K) ρ σ O2 H2 Q (oIndex (.lst ds) e2 S2) := h2
    unfold oIndex at h2
    simp only at h2
    cases q1 : toPys ds with
    | none => rw [q1] at h2; exact h2.elim
    | some ps =>
      cases q2 : toPy e2 with
      | none => rw [q1, q2] at h2; exact h2.elim
      | some p =>
        rw [q1, q2] at h2
        obtain ⟨⟨s1, s2⟩, h2⟩ := After.ite h2
        cases q3 : firstEq p ps with
        | none => rw [q3] at h2; exact h2.elim
        | some j =>
          rw [q3] at h2
          obtain ⟨z, z1, z2, z3⟩ := firstEq_ok q3
          have dl : Dp X.K H2 (.ref a) (.list ps) := dp_of (d := .lst ds) (by simp only [toPy, q1, Option.map_some]) rl
          exact ⟨a, y, p, ps, j, z, rfl, rfl, dl, dp_of q2 r2, s1, s2, z1, z2, z3, After.ok h2 st2 rfl⟩⟩⟩
end
end DE

set_option maxHeartbeats 4000000
namespace DE
open PySem PySem.Spec PyProof.Rows L2
/-! ### t[::-1], t a tuple -/
theorem filterMap_all {α β : Type} {f : α → Option β} {g : α → β} : ∀ {l : List α}, (∀ x ∈ l, f x = some (g x)) → l.filterMap f = l.map g
  | [], _ => rfl
  | x :: r, h => by
    rw [List.filterMap_cons_some (h x List.mem_cons_self), filterMap_all fun y hy => h y (List.mem_cons_of_mem _ hy), List.map_cons]
theorem rev_pick (xs : Array Value) : (List.range xs.size).filterMap (fun (k : Nat) => xs[(((xs.size : Int) - 1) + (k : Int) * (-1)).toNat]?) = xs.toList.reverse := by
  apply List.ext_getElem?
  intro i
  have e : ∀ k ∈ List.range xs.size, xs[(((xs.size : Int) - 1) + (k : Int) * (-1)).toNat]? = some (xs[xs.size - 1 - k]?.getD .none) := fun k hk => by
    have hk := List.mem_range.mp hk
    have : (((xs.size : Int) - 1) + (k : Int) * (-1)).toNat = xs.size - 1 - k := by omega
    rw [this, Array.getElem?_eq_getElem (by omega)]
    rfl
  rw [filterMap_all e, List.getElem?_map]
  by_cases hi : i < xs.size
  · rw [List.getElem?_range hi, List.getElem?_reverse (by simpa using hi)]
    show some (xs[xs.size - 1 - i]?.getD Value.none) = _
    rw [Array.getElem?_toList, Array.length_toList, Array.getElem?_eq_getElem (show xs.size - 1 - i < xs.size by omega)]
    rfl
  · rw [List.getElem?_eq_none (by simpa using hi), List.getElem?_eq_none (by simpa using hi)]
    rfl
section
variable {prog : Program} {w : World} {A : Around} {E : Value → Shared → Prop} {s : Shared}
theorem applied_rev {sl : Addr} {vl vu vs : Value} {n : Nat} {Q : Int × Int × Nat → Shared → Prop} (hs : s.heap.IsSliceOf sl vl vu vs) (pl : IsPart vl none) (pu : IsPart vu none) (ps : IsPart vs (some (-1)))
    (h : Q ((n : Int) - 1, -1, n) s) : wpAny (model prog w) A (Builtin.Slice.sliceApplied (.ref sl) (pure (n : Int))) Q E s := by
  obtain ⟨o, g, c, d⟩ := id hs
  unfold Builtin.Slice.sliceApplied Builtin.Slice.sliceFields
  refine wpAny_bind (wpAny_bind (wpAny_field g d (x := vl) rfl (wpAny_bind (wpAny_field g d (x := vu) rfl (wpAny_bind (wpAny_field g d (x := vs) rfl (wpAny_pure ?_)))))))
  refine wpAny_bind (HT.slicePart_ ps ?_)
  refine (show wpAny _ _ (if ((-1 : Int) == 0) = true then _ else _) _ _ s from ?_)
  rw [if_neg (by decide)]
  refine wpAny_bind (HT.slicePart_ pl (wpAny_bind (HT.slicePart_ pu (wpAny_bind (wpAny_pure ?_)))))
  have e1 : Builtin.Slice.sliceAdjust none none (-1) (n : Int) = ((n : Int) - 1, -1) := rfl
  have e2 : Builtin.Slice.slicePlaces ((n : Int) - 1) (-1) (-1) = n := by
    unfold Builtin.Slice.slicePlaces
    rw [if_neg (by decide)]
    by_cases z : (n : Int) - 1 > -1
    · rw [if_pos z]
      first
        | (simp; done)
        | (simp; omega)
    · rw [if_neg z]
      first
        | (simp; done)
        | (simp; omega)
  refine (show wpAny _ _ (match Builtin.Slice.sliceAdjust none none (-1) (n : Int) with | (lo, hi) => pure (lo, (-1 : Int), Builtin.Slice.slicePlaces lo hi (-1))) _ _ s from ?_)
  rw [e1]
  refine (show wpAny _ _ (pure ((n : Int) - 1, (-1 : Int), Builtin.Slice.slicePlaces ((n : Int) - 1) (-1) (-1))) _ _ s from ?_)
  rw [e2]
  exact wpAny_pure h
theorem getItem_rev {t sl : Addr} {items : Array Value} {vl vu vs : Value} {Q : Value → Shared → Prop} (ht : IsTup s.heap t items) (hs : s.heap.IsSliceOf sl vl vu vs) (pl : IsPart vl none) (pu : IsPart vu none) (ps : IsPart vs (some (-1)))
    (h : Q (.ref s.heap.objs.size) { s with heap := s.heap.push { cls := .type "tuple", data := .seq items.toList.reverse.toArray } }) (hz : items.size ≤ sizeLine) : wpAny (model prog w) A (getItem (.ref t) (.ref sl)) Q E s := by
  have zo : sizeOk (.seq items.toList.reverse.toArray) := by
    show items.toList.reverse.toArray.size ≤ sizeLine
    simpa using hz
  obtain ⟨o, g, c, d⟩ := id hs
  have ts : s.TypeIs (.ref sl) "slice" := ⟨o, g, c⟩
  unfold getItem
  try with_reducible refine wpAny_holding ?_
  first
    | refine wpAny_bind (wpAny_pure ?_)
    | skip
  refine wpAny_bind (wpAny_sequenceKey ht.typeIs (by decide) (wpAny_bind (wpAny_callSpecial?_slot (name := Str.ofString "__getitem__") ht.typeIs slot_tuple_getitem (wpAny_call_entry slot_tuple_getitem ht.typeIs entry_tuple_getitem ?_ (args_tuple_getitem _ _)))))
  refine (show wpAny _ _ (Builtin.Tuple.tupleItemsOf (.ref t) >>= _) _ _ s from wpAny_bind (tupleItemsOf_ ht (wpAny_bind (wpAny_typeOf ts ?_))))
  rw [if_pos (by decide)]
  refine wpAny_bind (applied_rev (n := items.size) hs pl pu ps ?_)
  have no : ¬ (((items.size : Int) - 1 == 0 && (-1 : Int) == 1 && items.size == items.size) = true) := by simp
  refine (show wpAny _ _ (if ((items.size : Int) - 1 == 0 && (-1 : Int) == 1 && items.size == items.size) = true then _ else _) _ _ s from ?_)
  rw [if_neg no, rev_pick]
  first
    | exact wpAny_bind (m := Builtin.Tuple.tupleExact _) (wpAny_newObj_type (wpAny_pure ⟨_, rfl, wpAny_pure h⟩) zo)
    | exact wpAny_bind (m := Builtin.Tuple.tupleExact _) (wpAny_newObj_type (wpAny_bind (wpAny_pure (wpAny_pure ⟨_, rfl, wpAny_pure h⟩))) zo)
    | exact wpAny_bind (wpAny_bind (m := Builtin.Tuple.tupleExact _) (wpAny_newObj_type (wpAny_pure (wpAny_pure ⟨_, rfl, wpAny_pure h⟩)) zo))
    | exact wpAny_bind (wpAny_bind (m := Builtin.Tuple.tupleExact _) (wpAny_newObj_type (wpAny_pure ⟨_, rfl, wpAny_pure h⟩) zo))
end
/-- the datum turned round -/
def dRev (f : ME) : ME := fun ρ S => (f ρ S).bind fun d S1 => match d with
  | .tup ds => .ok (.tup ds.reverse) S1
  | _ => .bad
theorem vals_rev : ∀ {xs : List V} {us : List Value}, Vals xs us → Vals xs.reverse us.reverse
  | _, _, .nil => .nil
  | _, _, .cons h r => by
    rw [List.reverse_cons, List.reverse_cons]
    exact (vals_rev r).snoc h
theorem Reps.rev {K : PySem.W.Frag} {O : Ow} {H : Hp} : ∀ {ds : List D} {vs : List V}, Reps K O H ds vs → Reps K O H ds.reverse vs.reverse
  | [], _, h => by cases h; exact rfl
  | d :: ds, _, h => by
    obtain ⟨v, r, rfl, h1, h2⟩ := h
    rw [List.reverse_cons, List.reverse_cons]
    exact (Reps.rev h2).append ⟨v, [], rfl, h1, rfl⟩
section
variable {X : Cx} {W : WX} {e : Expr} {f : ME} {k : Option Str} {p1 p2 p3 pos : Pos}
theorem de_rev {k : Nat} (he : DE X W e f) : DE X W (.Subscript e (.Slice none none (some (.UnaryOp .USub (.Constant (.int 1) k p1) p2)) p3) pos) (dRev f) := ⟨⟨fun pins s σ H Q I ⟨O, ρ, S, st, h⟩ => by
  refine Subscript_ (thn (he.pe.run pins s σ H (fun v H1 => ∃ O1 d S1, Stt X.K O1 H1 ρ σ S1 ∧ Rep X.K O1 H1 d v ∧ After X.K W (Rep X.K) ρ σ O1 H1 Q (match d with | .tup ds => .ok (.tup ds.reverse) S1 | _ => .bad)) I ⟨O, ρ, S, st, After.seq h fun d S1 O1 H1 v e1 st1 r1 h1 => ⟨O1, d, S1, st1, r1, h1⟩⟩) fun u s1 ⟨v, H1, I1, rv, O1, d, S1, st1, r1, h1⟩ => ?_)
  cases d <;> try exact h1.elim
  rename_i ds
  obtain ⟨a, xs, rfl, hx, rs⟩ := r1
  cases rv
  have mn : PO X (some (.UnaryOp .USub (.Constant (.int 1) k p1) p2)) (tPart (tUn (rU fun i => .int (-i)) (tC (.int 1)))) := po_some (pe_un un_neg pe_int)
  refine wpAny_Slice (thn (po_none.run pins s1 σ H1 (fun o H2 => o = none ∧ H2 = H1) I1 ⟨rfl, rfl⟩) fun vl s2 ⟨l, H2, I2, pl, el, e2⟩ => ?_)
  subst el e2
  refine thn (po_none.run pins s2 σ H2 (fun o H3 => o = none ∧ H3 = H2) I2 ⟨rfl, rfl⟩) fun vu s3 ⟨u, H3, I3, pu, eu, e3⟩ => ?_
  subst eu e3
  refine thn (mn.run pins s3 σ H3 (fun o H4 => o = some (-1) ∧ H4 = H3) I3 ⟨1, rfl, -1, rfl, rfl, rfl⟩) fun vs s4 ⟨o, H4, I4, ps, eo, e4⟩ => ?_
  subst eo e4
  have I5 : Inv X pins σ H4 { s4 with heap := s4.heap.push { cls := .type "slice", data := .fields #[vl, vu, vs] } } := I4.kept (t' := s4.toks) fun b ob q => Heap.get?_push_of_some _ q
  obtain ⟨its, r, ht, hz⟩ := I5.tuple (sqT_of hx)
  have ln := r.length
  refine (show wpAny (model X.prog X.w) X.A (subscriptTail e (.Slice none none (some (.UnaryOp .USub (.Constant (.int 1) k p1) p2)) p3) (.ref a) (.ref s4.heap.objs.size)) (EP X pins σ Q) X.xe { s4 with heap := s4.heap.push { cls := .type "slice", data := .fields #[vl, vu, vs] } } from ?_)
  refine tail_any (ops := [.ref a, .ref s4.heap.objs.size]) ht.typeIs slot_tuple_getitem.lookup (getItem_rev ht (Heap.IsSliceOf.new _ vl vu vs) pl pu ps ?_ (by rw [List.size_toArray]; omega)) (by with_unfolding_all rfl)
  have hn := I5.hok.fresh (Nat.le_refl _)
  obtain ⟨e6, st6⟩ := st1.new (o := .tup xs.reverse) hn
  refine ⟨.ref _, _, I5.laid (t' := s4.toks) (o := .tup xs.reverse) (fun b ob q => Heap.get?_push_of_some _ q) (Nat.le_refl _) ?_, rfl, h1 O1 _ _ e6 st6 ⟨_, _, rfl, .inl upd_same, (rs.mono (e6.w st1.wf)).rev⟩⟩
  refine ⟨by rw [List.length_reverse]; exact hz, its.reverse, vals_rev r, _, Heap.get?_push_size _ rfl, rfl, 0, rfl⟩⟩⟩
end
/-- the first def of a class statement's suite -/
def clsDef : Stmt → Stmt
  | .ClassDef _ _ _ (d :: _) _ _ _ _ _ _ _ => d
  | s => s
theorem hu0 {j : Nat} {A : Around} (r : Room j A) : A.units + 65 < cLine := by have := r.un; omega
end DE

set_option maxHeartbeats 4000000
namespace DE
open PySem PySem.Spec PyProof.Rows L2
section
variable {X : Cx} {W : WX} {a b c o e : Expr} {f g h : ME} {pos : Pos} {tf : MT} {F : MS} {es : List Expr} {fa : MA}
/-! ### while -/
def whileN (t : MT) (b : MS) : Nat → MS
  | 0 => fun _ _ => .bad
  | n + 1 => fun ρ S => (t ρ S).stm ρ fun c S1 => if c = true then (match b ρ S1 with
    | .nx ρ2 S2 => whileN t b n ρ2 S2
    | .ct ρ2 S2 => whileN t b n ρ2 S2
    | .bk ρ2 S2 => .nx ρ2 S2
    | r => r) else .nx ρ S1
theorem ds_while {body : List Stmt} (n : Nat) (hp : PassesOwn (model X.prog X.w) X.A X.env X.xe) (hc : DT X W c tf) (hb : DSs X W body F) : DS X W (.While c body [] pos) (whileN tf F n) :=
  ⟨PS.imp (ps_while hp hc.pt hb.pss) fun D' σ H ⟨O, ρ, S, st, h⟩ => by
    refine ⟨fun m σ2 H2 => ∃ O2 ρ2 S2, Ext O H O2 H2 ∧ Stt X.K O2 H2 ρ2 σ2 S2 ∧ AfterS X.K W D' O2 H2 (whileN tf F m ρ2 S2), ⟨n, O, ρ, S, .refl, st, h⟩, ?_⟩
    rintro m σ2 H2 ⟨O2, ρ2, S2, e2, st2, h2⟩
    cases m with
    | zero => exact h2.elim
    | succ m =>
      refine ⟨O2, ρ2, S2, st2, AfterS.seqE h2 fun d S3 O3 H3 v e3 st3 r3 h3 => ?_⟩
      subst r3
      cases d with
      | false =>
        rw [if_neg (by simp)] at h3
        rw [if_neg (by simp)]
        exact h3 O3 H3 σ2 .refl st3
      | true =>
        rw [if_pos rfl] at h3
        rw [if_pos rfl]
        refine ⟨fun σ4 H4 => ∃ O4 ρ4 S4, Ext O H O4 H4 ∧ Stt X.K O4 H4 ρ4 σ4 S4 ∧ AfterS X.K W D' O4 H4 (whileN tf F m ρ4 S4), fun σ4 H4 z => ⟨m, Nat.lt_succ_self _, z⟩, O3, ρ2, S3, st3, ?_⟩
        cases q : F ρ2 S3 with
        | nx ρ5 S5 => rw [q] at h3; exact fun O' H5 σ5 e5 st5 => ⟨O', ρ5, S5, (e2.trans e3).trans e5, st5, AfterS.mono h3 e5⟩
        | ct ρ5 S5 => rw [q] at h3; exact fun O' H5 σ5 e5 st5 => ⟨O', ρ5, S5, (e2.trans e3).trans e5, st5, AfterS.mono h3 e5⟩
        | bk ρ5 S5 => rw [q] at h3; exact fun O' H5 σ5 e5 st5 => h3 O' H5 σ5 e5 st5
        | rt d5 S5 => rw [q] at h3; exact h3
        | exc x5 ρ5 S5 => rw [q] at h3; exact h3
        | bad => rw [q] at h3; exact h3⟩
/-! ### methods of texts -/
def MtD (K : PySem.W.Frag) (r : V → List V → Hp → VK → Prop) (op : Str → List D → Sto → RE D) : Prop :=
  ∀ (W : WX) (ρ : DE.Env) (σ : L2.St) (O : Ow) (H : Hp) (S : Sto) (x : Str) (ys : List V) (ds : List D) (Q : VK), Stt K O H ρ σ S → Reps K O H ds ys → After K W (Rep K) ρ σ O H Q (op x ds S) → r (.str x) ys H Q
def dTM (op : Str → List D → Sto → RE D) (f : ME) (fa : MA) : ME := fun ρ S => (f ρ S).bind fun d S1 => match d with
  | .str x => (fa ρ S1).bind fun ds S2 => op x ds S2
  | _ => .bad
theorem de_tm {name : Str} {id : String} {apos cpos : Pos} {r : V → List V → Hp → VK → Prop} {op : Str → List D → Sto → RE D} (slot : Slot "str" name id) (hty : typeOf (.builtin id) = pure (.type "method_descriptor")) (hm : MtR X id r) (hop : MtD X.K r op) (ho : DE X W o f) (ha : DA X W (e :: es) fa)
    (hbase : attributeBase o name X.env (eval o X.env) = eval o X.env := by rfl)
    (hfew : ((backTo cpos (starEach (e :: es) X.env)).all (fun x => !x.1) && (backToKw cpos (keywordEach [] X.env)).all (fun x => x.1.isSome)
      && decide ((e :: es).length + ([] : List Keyword).length + (if ([] : List Keyword).isEmpty then 0 else 1) < 30)) = true := by rfl)
    (hline : (apos.endLine == cpos.line) = true := by rfl) (hs : starEach (e :: es) X.env = (false, eval e X.env) :: starEach es X.env := by rfl) (hplain : (backTo cpos (starEach es X.env)).any (·.1) = false := by rfl) :
    DE X W (.Call (.Attribute o name apos) (e :: es) [] cpos) (dTM op f fa) :=
  ⟨PE.imp (pe_bm PySem.F.plainAttrs_str slot hty hm ho.pe ha.pa hbase hfew hline hs hplain) fun σ H Q ⟨O, ρ, S, st, h⟩ => ⟨O, ρ, S, st, After.seq h fun d S1 O1 H1 v e1 st1 r1 h1 => by
    cases d <;> try exact h1.elim
    cases (show v = _ from r1)
    exact ⟨rfl, O1, ρ, S1, st1, After.seq h1 fun ds S2 O2 H2 ys e2 st2 r2 h2 => hop W ρ σ O2 H2 S2 _ ys ds Q st2 r2 h2⟩⟩⟩
theorem new_strs {K : PySem.W.Frag} {O : Ow} {H : Hp} {ρ : DE.Env} {σ : L2.St} {S : Sto} {Q : VK} {ys : List Str} (st : Stt K O H ρ σ S) (h : After K W (Rep K) ρ σ O H Q (.ok (.lst (ys.map D.str)) S)) : rNewStrs ys H Q := fun p hp => by
  obtain ⟨e2, st2⟩ := st.new (o := .lst (ys.map V.str)) hp
  exact h O _ _ e2 st2 ⟨p, _, rfl, st.no hp, upd_same, reps_strs⟩
theorem len_ne {y : Str} (h : y.length ≠ 0) : (y.length == 0) = false := by simpa using h
def oSplit (x : Str) (ds : List D) (S : Sto) : RE D := match ds with
  | [.str y] => if y.length ≠ 0 ∧ x.length + 2 ≤ cap then .ok (.lst ((Txt.split x y).map .str)) S else .bad
  | _ => .bad
theorem m_oSplit {K : PySem.W.Frag} : MtD K (fun x xs H Q => ∃ a b, x = .str a ∧ xs = [.str b] ∧ (b.length == 0) = false ∧ a.length + 2 ≤ sizeLine ∧ rNewStrs (Txt.split a b) H Q) oSplit := by
  intro W ρ σ O H S x ys ds Q st r h
  unfold oSplit at h
  split at h
  · obtain ⟨hc, h⟩ := After.ite h
    obtain ⟨v, rfl, q⟩ := r.one
    cases (show v = _ from q)
    exact ⟨x, _, rfl, rfl, len_ne hc.1, cap_line hc.2, new_strs st h⟩
  · exact h.elim
def oSplitM (x : Str) (ds : List D) (S : Sto) : RE D := match ds with
  | [.str y, .int k] => if y.length ≠ 0 ∧ x.length + 2 ≤ cap ∧ 0 ≤ k ∧ k < 1000000 then .ok (.lst ((Txt.splitMax x y k).map .str)) S else .bad
  | _ => .bad
theorem m_oSplitM {K : PySem.W.Frag} : MtD K (fun x xs H Q => ∃ (a b : Str) (k : Int), x = .str a ∧ xs = [.str b, .int k] ∧ (b.length == 0) = false ∧ -(2 ^ 63) ≤ k ∧ k < 2 ^ 63 ∧ a.length + 2 ≤ sizeLine ∧ rNewStrs (Txt.splitMax a b k) H Q) oSplitM := by
  intro W ρ σ O H S x ys ds Q st r h
  unfold oSplitM at h
  split at h
  · obtain ⟨hc, h⟩ := After.ite h
    obtain ⟨v, u, rfl, q1, q2⟩ := r.two
    cases (show v = _ from q1)
    cases (show u = _ from q2)
    exact ⟨x, _, _, rfl, rfl, len_ne hc.1, by omega, by omega, cap_line hc.2.1, new_strs st h⟩
  · exact h.elim
def oCount (x : Str) (ds : List D) (S : Sto) : RE D := match ds with
  | [.str y] => .ok (.int (Txt.count x y)) S
  | _ => .bad
theorem m_oCount {K : PySem.W.Frag} : MtD K (fun x xs H Q => ∃ a b, x = .str a ∧ xs = [.str b] ∧ Q (.int (Txt.count a b)) H) oCount := by
  intro W ρ σ O H S x ys ds Q st r h
  unfold oCount at h
  split at h
  · obtain ⟨v, rfl, q⟩ := r.one
    cases (show v = _ from q)
    exact ⟨x, _, rfl, rfl, After.ok h st rfl⟩
  · exact h.elim
def oStarts (x : Str) (ds : List D) (S : Sto) : RE D := match ds with
  | [.str y] => .ok (.bl (Txt.startswith x y)) S
  | _ => .bad
theorem m_oStarts {K : PySem.W.Frag} : MtD K (fun x xs H Q => ∃ a b, x = .str a ∧ xs = [.str b] ∧ Q (.bl (Txt.startswith a b)) H) oStarts := by
  intro W ρ σ O H S x ys ds Q st r h
  unfold oStarts at h
  split at h
  · obtain ⟨v, rfl, q⟩ := r.one
    cases (show v = _ from q)
    exact ⟨x, _, rfl, rfl, After.ok h st rfl⟩
  · exact h.elim
/-! ### int, str -/
def oIntS : FD := fun ds S => match ds with
  | [.str x] => (match PySem.intText? x with
    | some n => if x.length ≤ 640 then .ok (.int n) S else .bad
    | none => .bad)
  | _ => .bad
theorem c_oIntS : CallR X (.type "int") (RC X.K oIntS) := by
  intro pins s σ H vs us Q I rv ⟨W, ρ, σ', O, S, ds, st, r, h⟩
  unfold oIntS at h
  split at h
  · obtain ⟨v, rfl, r1⟩ := r.one
    cases (show v = _ from r1)
    split at h
    · rename_i n hn
      obtain ⟨hc, h⟩ := After.ite h
      exact call_int_str pins s σ H _ us Q I rv ⟨_, n, rfl, hn, hc, After.ok h st rfl⟩
    · exact h.elim
  · exact h.elim
def oIntA : FD := fun ds S => match ds with
  | [.str x] => oIntS [.str x] S
  | ds => oInt ds S
theorem c_oIntA : CallR X (.type "int") (RC X.K oIntA) := by
  intro pins s σ H vs us Q I rv ⟨W, ρ, σ', O, S, ds, st, r, h⟩
  unfold oIntA at h
  split at h
  · exact c_oIntS pins s σ H vs us Q I rv ⟨W, ρ, σ', O, S, _, st, r, h⟩
  · exact c_oInt pins s σ H vs us Q I rv ⟨W, ρ, σ', O, S, _, st, r, h⟩
def oStr : FD := fun ds S => match ds with
  | [.str x] => .ok (.str x) S
  | [.int i] => if i.natAbs.log2 < 1920 then .ok (.str (Str.ofString (toString i))) S else .bad
  | _ => .bad
theorem c_oStr : CallR X (.type "str") (RC X.K oStr) := by
  intro pins s σ H vs us Q I rv ⟨W, ρ, σ', O, S, ds, st, r, h⟩
  unfold oStr at h
  split at h
  · obtain ⟨v, rfl, r1⟩ := r.one
    cases (show v = _ from r1)
    exact SkE.call_str_str pins s σ H _ us Q I rv ⟨_, rfl, After.ok h st rfl⟩
  · obtain ⟨v, rfl, r1⟩ := r.one
    cases (show v = _ from r1)
    obtain ⟨hc, h⟩ := After.ite h
    exact call_str_int pins s σ H _ us Q I rv ⟨_, rfl, hc, After.ok h st rfl⟩
  · exact h.elim
/-! ### f-strings -/
/-- {x} -/
def dFmt (f : ME) : ME := fun ρ S => (f ρ S).bind fun d S1 => match d with
  | .str x => if x.length ≤ cap then .ok (.str x) S1 else .bad
  | .int i => if i.natAbs.log2 < 1920 then .ok (.str (Str.ofString (toString i))) S1 else .bad
  | _ => .bad
theorem de_fmt (ha : DE X W a f) : DE X W (.FormattedValue a (-1) none pos) (dFmt f) :=
  ⟨PE.imp (pe_fmt ha.pe) fun σ H Q ⟨O, ρ, S, st, h⟩ => ⟨O, ρ, S, st, After.seq h fun d S1 O1 H1 v e1 st1 r1 h1 => by
    cases d <;> try exact h1.elim
    · cases (show v = _ from r1)
      obtain ⟨hc, h1⟩ := After.ite h1
      exact .inr ⟨_, rfl, hc, After.ok h1 st1 rfl⟩
    · cases (show v = _ from r1)
      obtain ⟨hc, h1⟩ := After.ite h1
      exact .inl ⟨_, rfl, cap_line hc, After.ok h1 st1 rfl⟩⟩⟩
def dJs : List ME → Str → ME
  | [], acc => fun _ S => .ok (.str acc) S
  | f :: fs, acc => fun ρ S => (f ρ S).bind fun d S1 => match d with
    | .str y => if (acc ++ y).length ≤ cap then dJs fs (acc ++ y) ρ S1 else .bad
    | _ => .bad
inductive DJs (X : Cx) (W : WX) : List Expr → List ME → Prop where
  | nil : DJs X W [] []
  | cons {e : Expr} {f : ME} {es : List Expr} {fs : List ME} (h : DE X W e f) (r : DJs X W es fs) : DJs X W (e :: es) (f :: fs)
theorem DJs.pj {es : List Expr} {fs : List ME} (h : DJs X W es fs) : PJ X es (fs.map (tE X.K W)) := by
  induction h with
  | nil => exact .nil
  | cons h r ih => exact .cons h.pe ih
theorem js_imp : ∀ (fs : List ME) (acc : Str) {σ : L2.St} {H : Hp} {Q : VK}, tE X.K W (dJs fs acc) σ H Q → tJs (fs.map (tE X.K W)) acc σ H fun out H1 => Q (.str out) H1
  | [], acc, σ, H, Q, ⟨O, ρ, S, st, h⟩ => After.ok (d := D.str acc) (v := V.str acc) h st rfl
  | f :: fs, acc, σ, H, Q, ⟨O, ρ, S, st, h⟩ => ⟨O, ρ, S, st, After.seq h fun d S1 O1 H1 v e1 st1 r1 h1 => by
    cases d <;> try exact h1.elim
    rename_i y
    cases (show v = _ from r1)
    obtain ⟨hc, h1⟩ := After.ite h1
    exact ⟨y, rfl, cap_line hc, js_imp fs (acc ++ y) ⟨O1, ρ, S1, st1, h1⟩⟩⟩
theorem de_js {v1 v2 : Expr} {rest : List Expr} {fs : List ME} (h : DJs X W (v1 :: v2 :: rest) fs) : DE X W (.JoinedStr (v1 :: v2 :: rest) pos) (dJs fs Str.empty) :=
  ⟨PE.imp (pe_joined h.pj) fun _ _ _ h => js_imp _ _ h⟩
/-! ### a, b, c = x, y, z -/
def sPar3 (i j l : Nat) (fa : MA) : MS := fun ρ S => (fa ρ S).stm ρ fun ds S1 => match ds with
  | [d, e, f] => .nx (((ρ.set i (some d)).set j (some e)).set l (some f)) S1
  | _ => .bad
theorem ds_par3 (i j l : Nat) {x y z : Str} {b c : Expr} {fa : MA} {px py pz pt : Pos} {kt k2 pt2} (hc : X.calm = true) (hN : X.N.Nodup) (ha : DA X W [a, b, c] fa) (hi : X.N[i]? = some x := by rfl) (hj : X.N[j]? = some y := by rfl) (hl : X.N[l]? = some z := by rfl)
    (hij : i ≠ j := by decide) (hil : i ≠ l := by decide) (hjl : j ≠ l := by decide)
    (hx : X.env.scope.names.lookup x = some .local := by rfl) (hy : X.env.scope.names.lookup y = some .local := by rfl) (hz : X.env.scope.names.lookup z = some .local := by rfl)
    (hw : swappedStores [.Tuple [.Name x px, .Name y py, .Name z pz] kt pt] (.Tuple [a, b, c] k2 pt2) X.env = pure (some [x, y, z]) := by rfl)
    (hs : swapsWithSole [.Tuple [.Name x px, .Name y py, .Name z pz] kt pt] (.Tuple [a, b, c] k2 pt2) pos.line X.env = pure false := by rfl) :
    DS X W (.Assign [.Tuple [.Name x px, .Name y py, .Name z pz] kt pt] (.Tuple [a, b, c] k2 pt2) pos) (sPar3 i j l fa) :=
  ⟨PS.imp (ps_par3 hc hN hi hj hl hij hil hjl hx hy hz ha.pa hw hs) fun D' σ H ⟨O, ρ, S, st, h⟩ => ⟨O, ρ, S, st, AfterS.seqE h fun ds S1 O1 H1 vs e1 st1 r1 h1 => by
    rcases ds with _ | ⟨d, _ | ⟨e, _ | ⟨f, _ | ⟨_, _⟩⟩⟩⟩
    · exact h1.elim
    · exact h1.elim
    · exact h1.elim
    · obtain ⟨v, vr, rfl, q1, u, ur, rfl, q2, w, wr, rfl, q3, rfl⟩ := r1
      exact ⟨v, u, w, rfl, h1 O1 H1 _ .refl ⟨st1.wf, ((st1.env.set q1 i).set q2 j).set q3 l⟩⟩
    · exact h1.elim⟩⟩
/-! ### replace of written texts, where a text was written ahead -/
structure DET (X : Cx) (W : WX) (e : Expr) (f : ME) : Prop where
  pet : PET X e (tE X.K W f)
theorem DE.t (h : DE X W a f) : DET X W a f := ⟨CwR.PET.of h.pe⟩
def dRep (y z : Str) (f : ME) : ME := fun ρ S => (f ρ S).bind fun d S1 => match d with
  | .str x => if x.length + (x.length + 1) * z.length ≤ cap then .ok (.str (Txt.replace x y z)) S1 else .bad
  | _ => .bad
theorem rep_imp {y z : Str} {σ : L2.St} {H : Hp} {Q : VK} (h : tE X.K W (dRep y z f) σ H Q) : CwR.tReplC (tE X.K W f) y z σ H Q := by
  obtain ⟨O, ρ, S, st, h⟩ := h
  refine ⟨O, ρ, S, st, After.seq h fun d S1 O1 H1 v e1 st1 r1 h1 => ?_⟩
  cases d <;> try exact h1.elim
  cases (show v = _ from r1)
  obtain ⟨hc, h1⟩ := After.ite h1
  exact ⟨_, rfl, Nat.le_trans hc (by decide), After.ok h1 st1 rfl⟩
theorem PET.imp {e : Expr} {t t' : TE} (h : PET X e t) (k : ∀ σ H Q, t' σ H Q → t σ H Q) : PET X e t' := fun pins s σ H Q h0 I q => h pins s σ H Q h0 I (k σ H Q q)
theorem det_rep {y z : Str} {j k : Nat} {c0 c1 apos : Pos} (ho : DET X W o f) (hyz : (y == z) = false := by decide +kernel)
    (hst : starEach [.Constant (.str y) j c0, .Constant (.str z) k c1] X.env = [(false, eval (.Constant (.str y) j c0) X.env), (false, eval (.Constant (.str z) k c1) X.env)] := by rfl)
    (hbase : attributeBase o "replace" X.env (eval o X.env) = eval o X.env := by rfl) (hline : (apos.endLine == pos.line) = true := by rfl) :
    DET X W (.Call (.Attribute o "replace" apos) [.Constant (.str y) j c0, .Constant (.str z) k c1] [] pos) (dRep y z f) :=
  ⟨PET.imp (CwR.pet_replT ho.pet hyz hst hbase hline) fun _ _ _ h => rep_imp h⟩
/-- 'x' + e -/
theorem de_strT {x : Str} {j : Nat} {p1 : Pos} {op : D → D → Sto → RE D} {bo : Operator} (hr : OpR X (binaryOp bo) (RD X.K op)) (hb : DET X W b g) : DE X W (.BinOp (.Constant (.str x) j p1) bo b pos) (dBin op (dC (.str x)) g) := by
  refine ⟨⟨fun pins s σ H Q I h => ?_⟩⟩
  have h2 := bin_imp (f := dC (.str x)) opD_RD h
  obtain ⟨O, ρ, S, st, h3⟩ := h2
  have h4 : tE X.K W g σ H fun y H2 => RD X.K op (.str x) y H2 Q := h3 O H (.str x) .refl st rfl
  refine wpAny_BinOp (Calls.Constant_str ?_)
  refine thn (hb.pet pins { s with toks := s.toks + 1 } σ H _ (by show 1 ≤ s.toks + 1; omega) (I.tok _) h4) fun u s2 ⟨y, H2, I2, r2, q2⟩ => ?_
  exact hr pins s2 σ H2 (.str x) y _ u Q I2 ⟨_, rfl⟩ r2 q2
/-! ### x += e, ints or texts -/
def sAugA (i : Nat) (g : ME) : MS := fun ρ S => match ρ[i]? with
  | some (some (.int a)) => (g ρ S).stm ρ fun e S1 => match e with
    | .int b => .nx (ρ.set i (some (.int (a + b)))) S1
    | _ => .bad
  | some (some (.str a)) => (g ρ S).stm ρ fun e S1 => match e with
    | .str b => if a.length + b.length ≤ cap then .nx (ρ.set i (some (.str (a ++ b)))) S1 else .bad
    | _ => .bad
  | _ => .bad
def ipA : V → V → Hp → VK → Prop := fun x y H Q => (∃ i j, x = .int i ∧ y = .int j ∧ Q (.int (i + j)) H) ∨ rAddS x y H Q
theorem ip_addA : PIp X .Add ipA := by
  intro pins s σ H x y v u Q I rx ry h
  rcases h with ⟨i, j, rfl, rfl, q⟩ | h
  · obtain ⟨t, rfl⟩ := (show ∃ t, v = Value.int i t from rx)
    obtain ⟨t', rfl⟩ := (show ∃ t', u = Value.int j t' from ry)
    exact PyProof.Rows.iadd_int ⟨.int (i + j), H, I.tok _, ⟨_, rfl⟩, q⟩
  · exact in_addS pins s σ H x y v u Q I rx ry h
theorem ds_augA (i : Nat) {x : Str} {e : Expr} {f : ME} {pos' : Pos} (hN : X.N.Nodup) (hi : X.N[i]? = some x) (hx : Loc X.env.scope x) (he : DE X W e f) (hf : X.fn x = true ∨ X.env.scope.names.lookup x = some .local := by first | exact .inl rfl | exact .inr rfl | assumption) : DS X W (.AugAssign (.Name x pos') .Add e pos) (sAugA i f) :=
  ⟨PS.imp (ps_aug hN hi hx he.pe ip_addA hf) fun D' σ H ⟨O, ρ, S, st, h⟩ => by
    unfold sAugA at h
    split at h
    · rename_i a q
      obtain ⟨v, hv, r⟩ := st.env.get q
      cases (show v = _ from r)
      refine ⟨_, hv, O, ρ, S, st, AfterS.seqE h fun d S1 O1 H1 u e1 st1 r1 h1 => ?_⟩
      cases d <;> try exact h1.elim
      rename_i b
      cases (show u = _ from r1)
      exact .inl ⟨_, _, rfl, rfl, h1 O1 H1 _ .refl ⟨st1.wf, st1.env.set (d := .int (a + b)) (v := .int (a + b)) rfl i⟩⟩
    · rename_i a q
      obtain ⟨v, hv, r⟩ := st.env.get q
      cases (show v = _ from r)
      refine ⟨_, hv, O, ρ, S, st, AfterS.seqE h fun d S1 O1 H1 u e1 st1 r1 h1 => ?_⟩
      cases d <;> try exact h1.elim
      rename_i b
      cases (show u = _ from r1)
      simp only at h1
      split at h1
      · rename_i hc
        exact .inr ⟨_, _, rfl, rfl, cap_line hc, h1 O1 H1 _ .refl ⟨st1.wf, st1.env.set (d := .str (a ++ b)) (v := .str (a ++ b)) rfl i⟩⟩
      · exact h1.elim
    · exact h.elim⟩
end
end DE

set_option maxHeartbeats 4000000
namespace DE
open PySem PySem.Spec PyProof.Rows L2
section
variable {X : Cx} {W : WX} {o a b e : Expr} {f g : ME} {es : List Expr} {fa : MA} {apos pos : Pos}
/-! ### behind it a token is out -/
structure DEK (X : Cx) (W : WX) (e : Expr) (f : ME) : Prop where
  run : ∀ pins s σ H Q, Inv X pins σ H s → tE X.K W f σ H Q → wpAny (model X.prog X.w) X.A (eval e X.env) (fun u s1 => 1 ≤ s1.toks ∧ EP X pins σ Q u s1) X.xe s
theorem DEK.de (h : DEK X W e f) : DE X W e f := ⟨⟨fun pins s σ H Q I q => wpAny_mono (h.run pins s σ H Q I q) (fun _ _ z => z.2) fun _ _ z => z⟩⟩
theorem dek_str {x : Str} {j : Nat} : DEK X W (.Constant (.str x) j pos) (dC (.str x)) := ⟨fun pins s σ H Q I ⟨O, ρ, S, st, h⟩ => Calls.Constant_str ⟨by show 1 ≤ s.toks + 1; omega, .str x, H, I.tok _, ⟨_, rfl⟩, After.ok h st rfl⟩⟩
theorem dek_m1 {id : String} {name : Str} {r : V → List V → Hp → VK → Prop} {op : Str → D → Sto → RE D} (slot : Slot "str" name id) (ty : typeOf (.builtin id) = pure (.type "method_descriptor")) (rule : MtR X id r) (hop : M1D X.K r op) (h : DEK X W o f) (he : DE X W e g)
    (hs : starEach [e] X.env = [(false, eval e X.env)] := by rfl) (hbase : attributeBase o name X.env (eval o X.env) = eval o X.env := by rfl) (hline : (apos.endLine == pos.line) = true := by rfl) :
    DEK X W (.Call (.Attribute o name apos) [e] [] pos) (dM1 op f g) := ⟨fun pins s σ H Q I q => by
  have q2 := m1_imp hop q
  refine PySem.Call_method1 hbase hs hline (wpAny_mono (h.run pins s σ H _ I q2) (fun v s1 ⟨hk, x, H1, I1, r1, q1⟩ => ?_) fun _ _ z => z)
  obtain ⟨⟨y, rfl⟩, q1⟩ := q1
  obtain ⟨t, rfl⟩ := _root_.id r1
  refine ⟨"str", _, PySem.F.plainAttrs_str, slot, ty, typeIs_str _ _ _, (fun _ e => nomatch e), Calls.callWith_builtin rfl (Calls.evalArgs_plain (Calls.spliced_cons ?_))⟩
  refine wpAny_mono (wpAny_toks_of hk (he.pe.run pins s1 σ H1 _ I1 q1)) (fun u s2 ⟨hk2, y, H2, I2, r2, q2⟩ => Calls.spliced_nil ?_) (fun _ _ z => z.2)
  exact wpAny_mono (wpAny_toks_of hk2 (rule pins s2 σ H2 _ [y] _ [u] Q I2 r1 (.cons r2 .nil) q2)) (fun _ _ z => z) fun _ _ z => z.2⟩
theorem dek_join (h : DEK X W o f) (he : DE X W e g) (hs : starEach [e] X.env = [(false, eval e X.env)] := by rfl) (hbase : attributeBase o "join" X.env (eval o X.env) = eval o X.env := by rfl) (hline : (apos.endLine == pos.line) = true := by rfl) :
    DEK X W (.Call (.Attribute o "join" apos) [e] [] pos) (dM1 oJoin f g) :=
  dek_m1 PySem.F.slot_str_join PySem.F.type_str_join mt_join (fun W ρ σ O H S x y e Q st r h => by
    unfold oJoin at h
    split at h
    · rename_i ds hd
      split at h
      · rename_i ys hy
        obtain ⟨hc, h⟩ := After.ite h
        obtain ⟨p, xs, rfl, hs, rs⟩ := seq_rep st hd r
        have e := strs_rep hy rs
        subst e
        exact ⟨x, p, ys, rfl, rfl, hs, Nat.le_trans hc (by decide), After.ok h st rfl⟩
      · exact h.elim
    · exact h.elim) h he hs hbase hline
theorem dek_sl {lo hi : Option Expr} {p2 : Pos} {fl fh : MO} (ha : DEK X W a f) (hl : DPo X W lo fl) (hh : DPo X W hi fh) : DEK X W (.Subscript a (.Slice lo hi none p2) pos) (dSl f fl fh) := ⟨fun pins s σ H Q I ⟨O, ρ, S, st, h⟩ => by
  have q : tSl (rSlD X.K) (tE X.K W f) (tO X.K W fl) (tO X.K W fh) σ H Q := ⟨O, ρ, S, st, After.seq h fun d S1 O1 H1 v e1 st1 r1 h1 => ⟨O1, ρ, S1, st1, After.seq h1 fun l S2 O2 H2 v2 e2 st2 r2 h2 => ⟨O2, ρ, S2, st2, After.seq h2 fun u S3 O3 H3 v3 e3 st3 r3 h3 => by
    subst r2 r3
    exact ⟨W, ρ, σ, O3, S3, d, st3, r1.mono ((e2.trans e3).w st1.wf), h3⟩⟩⟩⟩
  refine Subscript_ (wpAny_mono (ha.run pins s σ H _ I q) (fun v s1 ⟨hk, x, H1, I1, r1, q1⟩ => ?_) fun _ _ z => z)
  have old : wpAny (model X.prog X.w) X.A (eval (.Slice lo hi none p2) X.env) (fun i s2 => wpAny (model X.prog X.w) X.A (subscriptTail a (.Slice lo hi none p2) v i) (EP X pins σ Q) X.xe s2) X.xe s1 := by
    refine wpAny_Slice (thn (hl.po.run pins s1 σ H1 _ I1 q1) fun vl s2 ⟨l, H2, I2, pl, q2⟩ => thn (hh.po.run pins s2 σ H2 _ I2 q2) fun vu s3 ⟨u, H3, I3, pu, q3⟩ => ?_)
    rw [evalPart_none]
    refine wpAny_pure ?_
    have I4 : Inv X pins σ H3 { s3 with heap := s3.heap.push { cls := .type "slice", data := .fields #[vl, vu, .none] } } := I3.kept (t' := s3.toks) fun b ob q => Heap.get?_push_of_some _ q
    obtain ⟨T, id, hT, ht, hg⟩ := sl_slD pins { s3 with heap := s3.heap.push { cls := .type "slice", data := .fields #[vl, vu, .none] } } σ H3 x v vl vu l u s3.heap.objs.size Q I4 r1 (Heap.IsSliceOf.new ..) pl pu q3
    show wpAny (model X.prog X.w) X.A (subscriptTail a (.Slice lo hi none p2) v (.ref s3.heap.objs.size)) (EP X pins σ Q) X.xe { s3 with heap := s3.heap.push { cls := .type "slice", data := .fields #[vl, vu, .none] } }
    exact tail_any (ops := [.ref s3.heap.objs.size, v]) ht hT hg (by with_unfolding_all rfl)
  exact wpAny_mono (wpAny_toks_of hk old) (fun i s2 ⟨hk2, q⟩ => wpAny_mono (wpAny_toks_of hk2 q) (fun _ _ z => z) fun _ _ z => z.2) fun _ _ z => z.2⟩
theorem dek_rep {y z : Str} {j k : Nat} {c0 c1 : Pos} (ho : DEK X W o f) (hyz : (y == z) = false := by decide +kernel)
    (hst : starEach [.Constant (.str y) j c0, .Constant (.str z) k c1] X.env = [(false, eval (.Constant (.str y) j c0) X.env), (false, eval (.Constant (.str z) k c1) X.env)] := by rfl)
    (hbase : attributeBase o "replace" X.env (eval o X.env) = eval o X.env := by rfl) (hline : (apos.endLine == pos.line) = true := by rfl) :
    DEK X W (.Call (.Attribute o "replace" apos) [.Constant (.str y) j c0, .Constant (.str z) k c1] [] pos) (dRep y z f) := ⟨fun pins s σ H Q I h => by
  have q2 := rep_imp h
  refine PySem.Call_method2 hbase hst hline (wpAny_mono (ho.run pins s σ H _ I q2) (fun v s1 ⟨hk, v', H1, I1, r1, q1⟩ => ?_) fun _ _ z => z)
  obtain ⟨x, e1, hb, q⟩ := q1
  subst e1
  obtain ⟨tx, e2⟩ := r1
  subst e2
  refine ⟨"str", _, PySem.F.plainAttrs_str, PySem.F.slot_str_replace, PySem.F.type_str_replace, typeIs_str _ _ _, (fun _ e => nomatch e), Calls.callWith_builtin rfl (Calls.evalArgs_plain (Calls.spliced_cons ?_))⟩
  refine Calls.Constant_str (Calls.spliced_cons (Calls.Constant_str (Calls.spliced_nil ?_)))
  have h0 : 1 ≤ ({ s1 with toks := s1.toks + 1 + 1 } : Shared).toks := by show 1 ≤ s1.toks + 1 + 1; omega
  exact wpAny_mono (wpAny_toks_of h0 (PySem.SC.replace (E := X.xe) (by show s1.toks ≠ 0; omega) (by show s1.toks + 1 ≠ 0; omega) (by show s1.toks ≠ s1.toks + 1; omega) hyz hb fun t' k => (show EP X pins σ Q (.str (Txt.replace x y z) t') _ from ⟨.str (Txt.replace x y z), H1, I1.tok k, ⟨t', rfl⟩, q⟩))) (fun _ _ z => z) fun _ _ z => z.2⟩
/-- .. where the first text is put together -/
theorem dek_rep2 {y1 y2 z : Str} {j j2 k : Nat} {c0 c2 c1 cb : Pos} (ho : DEK X W o f) (hyz : ((y1 ++ y2) == z) = false := by decide +kernel) (n1 : (y1.length == 0) = false := by decide +kernel) (n2 : (y2.length == 0) = false := by decide +kernel) (nz : (y1 ++ y2).length ≤ 1000 := by decide +kernel)
    (hst : starEach [.BinOp (.Constant (.str y1) j c0) .Add (.Constant (.str y2) j2 c2) cb, .Constant (.str z) k c1] X.env = [(false, eval (.BinOp (.Constant (.str y1) j c0) .Add (.Constant (.str y2) j2 c2) cb) X.env), (false, eval (.Constant (.str z) k c1) X.env)] := by rfl)
    (hbase : attributeBase o "replace" X.env (eval o X.env) = eval o X.env := by rfl) (hline : (apos.endLine == pos.line) = true := by rfl) :
    DEK X W (.Call (.Attribute o "replace" apos) [.BinOp (.Constant (.str y1) j c0) .Add (.Constant (.str y2) j2 c2) cb, .Constant (.str z) k c1] [] pos) (dRep (y1 ++ y2) z f) := ⟨fun pins s σ H Q I h => by
  have q2 := rep_imp h
  refine PySem.Call_method2 hbase hst hline (wpAny_mono (ho.run pins s σ H _ I q2) (fun v s1 ⟨hk, v', H1, I1, r1, q1⟩ => ?_) fun _ _ z => z)
  obtain ⟨x, e1, hb, q⟩ := q1
  subst e1
  obtain ⟨tx, e2⟩ := r1
  subst e2
  refine ⟨"str", _, PySem.F.plainAttrs_str, PySem.F.slot_str_replace, PySem.F.type_str_replace, typeIs_str _ _ _, (fun _ e => nomatch e), Calls.callWith_builtin rfl (Calls.evalArgs_plain (Calls.spliced_cons ?_))⟩
  refine wpAny_BinOp (Calls.Constant_str (Calls.Constant_str ?_))
  refine P.add_str ?_
  rw [n1, n2]
  simp only [Bool.false_eq_true, if_false]
  refine ⟨Nat.le_trans nz (by decide), ?_⟩
  refine Calls.spliced_cons (Calls.Constant_str (Calls.spliced_nil ?_))
  have h0 : 1 ≤ ({ s1 with toks := s1.toks + 1 + 1 + 1 + 1 } : Shared).toks := by show 1 ≤ s1.toks + 1 + 1 + 1 + 1; omega
  exact wpAny_mono (wpAny_toks_of h0 (PySem.SC.replace (E := X.xe) (by show s1.toks + 1 + 1 ≠ 0; omega) (by show s1.toks + 1 + 1 + 1 ≠ 0; omega) (by show s1.toks + 1 + 1 ≠ s1.toks + 1 + 1 + 1; omega) hyz hb fun t' k => (show EP X pins σ Q (.str (Txt.replace x (y1 ++ y2) z) t') _ from ⟨.str (Txt.replace x (y1 ++ y2) z), H1, I1.tok k, ⟨t', rfl⟩, q⟩))) (fun _ _ z => z) fun _ _ z => z.2⟩
/-! ### displays behind a written text -/
structure DAT (X : Cx) (W : WX) (es : List Expr) (f : MA) : Prop where
  pat : PAT X es (tA X.K W f)
theorem dat_nil : DAT X W [] aNil := ⟨fun pos pins s σ H Q h0 I h => da_nil.pa.run pos pins s σ H Q I h⟩
theorem dat_cons (ha : DET X W e f) (hr : DAT X W es fa) (hs : starEach (e :: es) X.env = (false, eval e X.env) :: starEach es X.env := by rfl) : DAT X W (e :: es) (aCons f fa) := ⟨fun pos pins s σ H Q h0 I ⟨O, ρ, S, st, h⟩ => by
  refine pat_cons ha.pet hr.pat hs pos pins s σ H Q h0 I ⟨O, ρ, S, st, After.seq h fun d S1 O1 H1 v e1 st1 r1 h1 => ⟨O1, ρ, S1, st1, After.seq h1 fun ds S2 O2 H2 vs e2 st2 r2 h2 => ?_⟩⟩
  exact After.ok h2 st2 ⟨v, vs, rfl, r1.mono (e2.w st1.wf), r2⟩⟩
theorem da_strT {x : Str} {j : Nat} {p : Pos} (h : DAT X W es fa) (hs : starEach (.Constant (.str x) j p :: es) X.env = (false, eval (.Constant (.str x) j p) X.env) :: starEach es X.env := by rfl) : DA X W (.Constant (.str x) j p :: es) (aCons (dC (.str x)) fa) := ⟨⟨fun pos pins s σ H Q I ⟨O, ρ, S, st, h3⟩ => by
  rw [hs]
  show wpAny _ _ (spliced ((false, eval (.Constant (.str x) j p) X.env) :: backTo pos (starEach es X.env))) _ _ s
  refine Calls.spliced_cons (Calls.Constant_str ?_)
  refine thn (h.pat pos pins { s with toks := s.toks + 1 } σ H (fun xs H2 => Q (.str x :: xs) H2) (by show 1 ≤ s.toks + 1; omega) (I.tok _) ⟨O, ρ, S, st, After.seq h3 fun ds S2 O2 H2 vs e2 st2 r2 h2 => After.ok h2 st2 ⟨.str x, vs, rfl, rfl, r2⟩⟩) fun us s2 ⟨xs, H2, I2, r2, q2⟩ => ⟨.str x :: xs, H2, I2, .cons ⟨_, rfl⟩ r2, q2⟩⟩⟩
/-! ### [.., *x] -/
def aStar (f : ME) (fa : MA) : MA := fun ρ S => (f ρ S).bind fun d S1 => match seqOf S1 d with
  | some ds => (fa ρ S1).bind fun es S2 => .ok (ds ++ es) S2
  | none => .bad
theorem da_star {p : Pos} (he : DE X W e f) (hr : DA X W es fa) (hs : starEach (.Starred e p :: es) X.env = (true, eval e X.env) :: starEach es X.env := by rfl) : DA X W (.Starred e p :: es) (aStar f fa) := ⟨PA.imp (StX.pa_star he.pe hr.pa hs) fun σ H Q ⟨O, ρ, S, st, h⟩ => ⟨O, ρ, S, st, After.seq h fun d S1 O1 H1 v e1 st1 r1 h1 => by
  split at h1
  · rename_i ds hd
    obtain ⟨q, xs, rfl, hq, rs⟩ := seq_rep st1 hd r1
    refine ⟨q, xs, rfl, hq.symm, O1, ρ, S1, st1, After.seq h1 fun es S2 O2 H2 vs e2 st2 r2 h2 => ?_⟩
    exact After.ok h2 st2 ((rs.mono (e2.w st1.wf)).append r2)
  · exact h1.elim⟩⟩
end
end DE

set_option maxHeartbeats 4000000
namespace DE
open PySem L2
/-! ### calls whose store is their own -/
mutual
/-- nothing owned in it -/
def nown : D → Bool
  | .non => true
  | .bl _ => true
  | .int _ => true
  | .str _ => true
  | .ty _ => true
  | .glo _ => true
  | .tup ds => nowns ds
  | .lst ds => nowns ds
  | .scr ds => nowns ds
  | .dK kvs => nownK kvs
  | .dT kvs => nownT kvs
  | .obj _ fs => nownF fs
  | .exo _ fs => nownF fs
  | .own _ => false
  | .xcp _ _ _ => false
def nowns : List D → Bool
  | [] => true
  | d :: ds => nown d && nowns ds
def nownK : List (Key × D) → Bool
  | [] => true
  | (_, d) :: ds => nown d && nownK ds
def nownT : List (List Key × D) → Bool
  | [] => true
  | (_, d) :: ds => nown d && nownT ds
def nownF : List (Str × D) → Bool
  | [] => true
  | (_, d) :: ds => nown d && nownF ds
end
mutual
/-- no list in it -/
def nolst : D → Bool
  | .non => true
  | .bl _ => true
  | .int _ => true
  | .str _ => true
  | .ty _ => true
  | .glo _ => true
  | .tup ds => nolsts ds
  | .lst _ => false
  | .scr _ => false
  | .dK kvs => nolstK kvs
  | .dT kvs => nolstT kvs
  | .obj _ fs => nolstF fs
  | .exo _ fs => nolstF fs
  | .own _ => false
  | .xcp _ _ _ => false
def nolsts : List D → Bool
  | [] => true
  | d :: ds => nolst d && nolsts ds
def nolstK : List (Key × D) → Bool
  | [] => true
  | (_, d) :: ds => nolst d && nolstK ds
def nolstT : List (List Key × D) → Bool
  | [] => true
  | (_, d) :: ds => nolst d && nolstT ds
def nolstF : List (Str × D) → Bool
  | [] => true
  | (_, d) :: ds => nolst d && nolstF ds
end
/-- from one ownership to another: what is not owned there is not owned here (lists: if fl is off) -/
def Cap (fl : Bool) (O' O : Ow) (H : Hp) : Prop := ∀ a o, O'.no a → H a = some o → (fl = true → ∀ xs, o ≠ .lst xs) → O.no a
section
variable {K : PySem.W.Frag} {O O' : Ow} {H : Hp} {fl : Bool}
mutual
theorem Rep.cap (c : Cap fl O' O H) (hs : ∀ a o xs, O'.no a → H a = some (.frz o (.lst xs)) → O.no a) : ∀ {d : D} {v : V}, nown d = true → (fl = true → nolst d = true) → Rep K O' H d v → Rep K O H d v
  | .non, _, _, _, h => h
  | .bl _, _, _, _, h => h
  | .int _, _, _, _, h => h
  | .str _, _, _, _, h => h
  | .ty _, _, _, _, h => h
  | .glo _, _, _, _, h => h
  | .tup ds, _, n, l, h => by
    obtain ⟨a, xs, rfl, h1, h2⟩ := h
    exact ⟨a, xs, rfl, h1, Reps.cap c hs (by simpa only [nown] using n) (fun e => by simpa only [nolst] using l e) h2⟩
  | .lst ds, _, n, l, h => by
    obtain ⟨a, xs, rfl, m, h1, h2⟩ := h
    have nf : ¬ fl = true := fun e => absurd (l e) (by simp [nolst])
    exact ⟨a, xs, rfl, c _ _ m h1 (fun e => absurd e nf), h1, Reps.cap c hs (by simpa only [nown] using n) (fun e => absurd e nf) h2⟩
  | .scr ds, _, n, l, h => by
    obtain ⟨a, xs, rfl, h1, h2⟩ := h
    have nf : ¬ fl = true := fun e => absurd (l e) (by simp [nolst])
    refine ⟨a, xs, rfl, ?_, Reps.cap c hs (by simpa only [nown] using n) (fun e => absurd e nf) h2⟩
    rcases h1 with ⟨m, h1⟩ | h1
    · refine .inl ⟨?_, h1⟩
      rcases h1 with h1 | ⟨o, h1⟩
      · exact c _ _ m h1 (fun e => absurd e nf)
      · exact hs _ _ _ m h1
    · exact .inr h1
  | .dK kvs, _, n, l, h => by
    obtain ⟨a, xs, rfl, m, h1, h2⟩ := h
    refine ⟨a, xs, rfl, ?_, h1, RepK.cap c hs (by simpa only [nown] using n) (fun e => by simpa only [nolst] using l e) h2⟩
    rcases h1 with h1 | ⟨o, h1⟩
    · exact c _ _ m h1 (fun _ _ e => nomatch e)
    · exact c _ _ m h1 (fun _ _ e => nomatch e)
  | .dT kvs, _, n, l, h => by
    obtain ⟨a, xs, rfl, m, h1, h2⟩ := h
    refine ⟨a, xs, rfl, ?_, h1, RepT.cap c hs (by simpa only [nown] using n) (fun e => by simpa only [nolst] using l e) h2⟩
    rcases h1 with h1 | ⟨o, h1⟩
    · exact c _ _ m h1 (fun _ _ e => nomatch e)
    · exact c _ _ m h1 (fun _ _ e => nomatch e)
  | .obj _ fs, _, n, l, h => by
    obtain ⟨a, dx, xs, rfl, m, h1, h2⟩ := h
    exact ⟨a, dx, xs, rfl, c _ _ m h1 (fun _ _ e => nomatch e), h1, RepF.cap c hs (by simpa only [nown] using n) (fun e => by simpa only [nolst] using l e) h2⟩
  | .exo _ fs, _, n, l, h => by
    obtain ⟨a, dd, vs, rfl, m, h1, m2, z, h3⟩ := h
    exact ⟨a, dd, vs, rfl, c _ _ m h1 (fun _ _ e => nomatch e), h1, fun y q => ⟨c _ _ (m2 y q).1 (m2 y q).2 (fun _ _ e => nomatch e), (m2 y q).2⟩, z, RepF.cap c hs (by simpa only [nown] using n) (fun e => by simpa only [nolst] using l e) h3⟩
  | .own _, _, n, _, _ => by simp [nown] at n
  | .xcp _ _ _, _, n, _, _ => by simp [nown] at n
theorem Reps.cap (c : Cap fl O' O H) (hs : ∀ a o xs, O'.no a → H a = some (.frz o (.lst xs)) → O.no a) : ∀ {d : List D} {v : List V}, nowns d = true → (fl = true → nolsts d = true) → Reps K O' H d v → Reps K O H d v
  | [], _, _, _, h => h
  | _ :: _, _, n, l, h => by
    obtain ⟨v, r, rfl, h1, h2⟩ := h
    simp only [nowns, nolsts, Bool.and_eq_true] at n l
    exact ⟨v, r, rfl, Rep.cap c hs n.1 (fun e => (l e).1) h1, Reps.cap c hs n.2 (fun e => (l e).2) h2⟩
theorem RepK.cap (c : Cap fl O' O H) (hs : ∀ a o xs, O'.no a → H a = some (.frz o (.lst xs)) → O.no a) : ∀ {d : List (Key × D)} {v : List (Key × V)}, nownK d = true → (fl = true → nolstK d = true) → RepK K O' H d v → RepK K O H d v
  | [], _, _, _, h => h
  | (_, _) :: _, _, n, l, h => by
    obtain ⟨v, r, rfl, h1, h2⟩ := h
    simp only [nownK, nolstK, Bool.and_eq_true] at n l
    exact ⟨v, r, rfl, Rep.cap c hs n.1 (fun e => (l e).1) h1, RepK.cap c hs n.2 (fun e => (l e).2) h2⟩
theorem RepT.cap (c : Cap fl O' O H) (hs : ∀ a o xs, O'.no a → H a = some (.frz o (.lst xs)) → O.no a) : ∀ {d : List (List Key × D)} {v : List (List Key × V)}, nownT d = true → (fl = true → nolstT d = true) → RepT K O' H d v → RepT K O H d v
  | [], _, _, _, h => h
  | (_, _) :: _, _, n, l, h => by
    obtain ⟨v, r, rfl, h1, h2⟩ := h
    simp only [nownT, nolstT, Bool.and_eq_true] at n l
    exact ⟨v, r, rfl, Rep.cap c hs n.1 (fun e => (l e).1) h1, RepT.cap c hs n.2 (fun e => (l e).2) h2⟩
theorem RepF.cap (c : Cap fl O' O H) (hs : ∀ a o xs, O'.no a → H a = some (.frz o (.lst xs)) → O.no a) : ∀ {d : List (Str × D)} {v : List (Str × V)}, nownF d = true → (fl = true → nolstF d = true) → RepF K O' H d v → RepF K O H d v
  | [], _, _, _, h => h
  | (_, _) :: _, _, n, l, h => by
    obtain ⟨v, r, rfl, h1, h2⟩ := h
    simp only [nownF, nolstF, Bool.and_eq_true] at n l
    exact ⟨v, r, rfl, Rep.cap c hs n.1 (fun e => (l e).1) h1, RepF.cap c hs n.2 (fun e => (l e).2) h2⟩
end
end
/-! what is owned becomes a tree -/
def mapO {α β : Type} (f : α → Option β) : List α → Option (List β)
  | [] => some []
  | d :: ds => match f d, mapO f ds with
    | some e, some es => some (e :: es)
    | _, _ => none
def sndO {α : Type} (f : D → Option D) (p : α × D) : Option (α × D) := (f p.2).map fun d => (p.1, d)
def frz (S : Sto) : Nat → D → Option D
  | 0, _ => none
  | n + 1, d => match d with
    | .own k => (match S[k]? with
      | some (.lst ds) => (mapO (frz S n) ds).map .lst
      | some (.dK kvs) => (mapO (sndO (frz S n)) kvs).map .dK
      | some (.dT kvs) => (mapO (sndO (frz S n)) kvs).map .dT
      | some (.obj c fs) => (mapO (sndO (frz S n)) fs).map (.obj c)
      | _ => none)
    | .tup ds => (mapO (frz S n) ds).map .tup
    | .lst ds => (mapO (frz S n) ds).map .lst
    | .dK kvs => (mapO (sndO (frz S n)) kvs).map .dK
    | .dT kvs => (mapO (sndO (frz S n)) kvs).map .dT
    | .obj c fs => (mapO (sndO (frz S n)) fs).map (.obj c)
    | .exo c fs => (mapO (sndO (frz S n)) fs).map (.exo c)
    | .xcp _ _ _ => none
    | .scr _ => none
    | d => some d
section
variable {K : PySem.W.Frag} {O O2 : Ow} {H : Hp} {S : Sto}
theorem frz_list {f : D → Option D} (h : ∀ d e v, f d = some e → Rep K O H d v → Rep K O2 H e v) : ∀ {ds es : List D} {vs : List V}, mapO f ds = some es → Reps K O H ds vs → Reps K O2 H es vs
  | [], es, _, e, r => by cases e; exact r
  | d :: ds, es, _, e, r => by
    obtain ⟨v, r', rfl, h1, h2⟩ := r
    simp only [mapO] at e
    cases q : f d with
    | none => simp only [q] at e; cases e
    | some d' =>
      cases q2 : mapO f ds with
      | none => simp only [q, q2] at e; cases e
      | some ds' => simp only [q, q2] at e; cases e; exact ⟨v, r', rfl, h _ _ _ q h1, frz_list h q2 h2⟩
theorem frz_K {f : D → Option D} (h : ∀ d e v, f d = some e → Rep K O H d v → Rep K O2 H e v) : ∀ {ds es : List (Key × D)} {vs : List (Key × V)}, mapO (sndO f) ds = some es → RepK K O H ds vs → RepK K O2 H es vs
  | [], es, _, e, r => by cases e; exact r
  | (k, d) :: ds, es, _, e, r => by
    obtain ⟨v, r', rfl, h1, h2⟩ := r
    simp only [mapO, sndO] at e
    cases q : f d with
    | none => simp only [q, Option.map] at e; cases e
    | some d' =>
      cases q2 : mapO (sndO f) ds with
      | none => simp only [q, q2, Option.map] at e; cases e
      | some ds' => simp only [q, q2, Option.map] at e; cases e; exact ⟨v, r', rfl, h _ _ _ q h1, frz_K h q2 h2⟩
theorem frz_T {f : D → Option D} (h : ∀ d e v, f d = some e → Rep K O H d v → Rep K O2 H e v) : ∀ {ds es : List (List Key × D)} {vs : List (List Key × V)}, mapO (sndO f) ds = some es → RepT K O H ds vs → RepT K O2 H es vs
  | [], es, _, e, r => by cases e; exact r
  | (k, d) :: ds, es, _, e, r => by
    obtain ⟨v, r', rfl, h1, h2⟩ := r
    simp only [mapO, sndO] at e
    cases q : f d with
    | none => simp only [q, Option.map] at e; cases e
    | some d' =>
      cases q2 : mapO (sndO f) ds with
      | none => simp only [q, q2, Option.map] at e; cases e
      | some ds' => simp only [q, q2, Option.map] at e; cases e; exact ⟨v, r', rfl, h _ _ _ q h1, frz_T h q2 h2⟩
theorem frz_F {f : D → Option D} (h : ∀ d e v, f d = some e → Rep K O H d v → Rep K O2 H e v) : ∀ {ds es : List (Str × D)} {vs : List (Str × V)}, mapO (sndO f) ds = some es → RepF K O H ds vs → RepF K O2 H es vs
  | [], es, _, e, r => by cases e; exact r
  | (k, d) :: ds, es, _, e, r => by
    obtain ⟨v, r', rfl, h1, h2⟩ := r
    simp only [mapO, sndO] at e
    cases q : f d with
    | none => simp only [q, Option.map] at e; cases e
    | some d' =>
      cases q2 : mapO (sndO f) ds with
      | none => simp only [q, q2, Option.map] at e; cases e
      | some ds' => simp only [q, q2, Option.map] at e; cases e; exact ⟨v, r', rfl, h _ _ _ q h1, frz_F h q2 h2⟩
theorem omap {α β : Type} {x : Option α} {f : α → β} {b : β} (h : x.map f = some b) : ∃ a, x = some a ∧ b = f a := by
  cases x with
  | none => cases h
  | some a => cases h; exact ⟨a, rfl, rfl⟩
/-- O2: owned by nobody inside -/
theorem frz_rep (w : WF K O H S) (hl : ∀ a ∈ O.l, O2.no a) (hc : ∀ a, O.no a → H a ≠ none → O2.no a) : ∀ (n : Nat) (d e : D) (v : V), frz S n d = some e → Rep K O H d v → Rep K O2 H e v
  | 0, _, _, _, h, _ => by cases h
  | n + 1, d, e, v, h, r => by
    have ih := frz_rep w hl hc n
    have nn : ∀ {a : Addr} {o : HO}, O.no a → H a = some o → O2.no a := fun m h => hc _ m (by rw [h]; exact fun z => nomatch z)
    have nr : ∀ {a : Addr} {o : HO}, O.no a → Rd H a o → O2.no a := fun m h => by
      rcases h with h | ⟨_, h⟩
      · exact nn m h
      · exact nn m h
    cases d with
    | non => cases h; exact r
    | bl b => cases h; exact r
    | int i => cases h; exact r
    | str x => cases h; exact r
    | ty x => cases h; exact r
    | glo x => cases h; exact r
    | tup ds =>
      obtain ⟨es, q, rfl⟩ := omap (show (mapO (frz S n) ds).map D.tup = some e from h)
      obtain ⟨a, xs, rfl, h1, h2⟩ := r
      exact ⟨a, xs, rfl, h1, frz_list ih q h2⟩
    | lst ds =>
      obtain ⟨es, q, rfl⟩ := omap (show (mapO (frz S n) ds).map D.lst = some e from h)
      obtain ⟨a, xs, rfl, m, h1, h2⟩ := r
      exact ⟨a, xs, rfl, nn m h1, h1, frz_list ih q h2⟩
    | scr ds => cases h
    | dK ds =>
      obtain ⟨es, q, rfl⟩ := omap (show (mapO (sndO (frz S n)) ds).map D.dK = some e from h)
      obtain ⟨a, xs, rfl, m, h1, h2⟩ := r
      exact ⟨a, xs, rfl, nr m h1, h1, frz_K ih q h2⟩
    | dT ds =>
      obtain ⟨es, q, rfl⟩ := omap (show (mapO (sndO (frz S n)) ds).map D.dT = some e from h)
      obtain ⟨a, xs, rfl, m, h1, h2⟩ := r
      exact ⟨a, xs, rfl, nr m h1, h1, frz_T ih q h2⟩
    | obj c ds =>
      obtain ⟨es, q, rfl⟩ := omap (show (mapO (sndO (frz S n)) ds).map (D.obj c) = some e from h)
      obtain ⟨a, dx, xs, rfl, m, h1, h2⟩ := r
      exact ⟨a, dx, xs, rfl, nn m h1, h1, frz_F ih q h2⟩
    | exo c ds =>
      obtain ⟨es, q, rfl⟩ := omap (show (mapO (sndO (frz S n)) ds).map (D.exo c) = some e from h)
      obtain ⟨a, dd, xs, rfl, m, h1, m2, z, h3⟩ := r
      exact ⟨a, dd, xs, rfl, nn m h1, h1, fun y q => ⟨nn (m2 y q).1 (m2 y q).2, (m2 y q).2⟩, z, frz_F ih q h3⟩
    | xcp a b c => cases h
    | own k =>
      obtain ⟨a, ha, rfl⟩ := r
      have hm := List.mem_of_getElem? ha
      simp only [frz] at h
      cases q : S[k]? with
      | none => simp only [q] at h; cases h
      | some d0 =>
        have c := w.cell k a d0 ha q
        simp only [q] at h
        cases d0 <;> try (cases h)
        case lst ds =>
          obtain ⟨es, q2, rfl⟩ := omap h
          obtain ⟨xs, h1, h2⟩ := c
          exact ⟨a, xs, rfl, hl a hm, h1, frz_list ih q2 h2⟩
        case dK ds =>
          obtain ⟨es, q2, rfl⟩ := omap h
          obtain ⟨xs, h1, h2⟩ := c
          exact ⟨a, xs, rfl, hl a hm, .inl h1, frz_K ih q2 h2⟩
        case dT ds =>
          obtain ⟨es, q2, rfl⟩ := omap h
          obtain ⟨xs, h1, h2⟩ := c
          exact ⟨a, xs, rfl, hl a hm, .inl h1, frz_T ih q2 h2⟩
        case obj cn ds =>
          obtain ⟨es, q2, rfl⟩ := omap h
          obtain ⟨dx, xs, h1, h2⟩ := c
          exact ⟨a, dx, xs, rfl, hl a hm, h1, frz_F ih q2 h2⟩
end

/-! ### a def whose store is its own -/
/-- the arguments; were there owned lists among them -/
def frzA (S : Sto) : List D → Option (List D × Bool)
  | [] => some ([], false)
  | d :: ds => match frzA S ds with
    | none => none
    | some (es, b) => if nown d = true then some (d :: es, b) else (match d with
      | .own k => (match S[k]? with
        | some (.lst xs) => if nowns xs = true then some (.lst xs :: es, true) else none
        | _ => none)
      | _ => none)
def outD (b : Bool) (S' : Sto) (d : D) : Option D := (if nown d = true then some d else frz S' 50 d).bind fun e => if nown e = true ∧ (b = true → nolst e = true) then some e else none
def outF (b : Bool) (S' : Sto) : List (Str × D) → Option (List (Str × D)) := mapO (sndO (outD b S'))
def pureF (F : FD) : FD := fun ds S => match frzA S ds with
  | none => .bad
  | some (es, b) => (match F es [] with
    | .ok d S' => (match outD b S' d with
      | some e => .ok e S
      | none => .bad)
    | .exc x S' => (match outF b S' x.fs with
      | some fs => .exc ⟨x.c, fs⟩ S
      | none => .bad)
    | .bad => .bad)
/-- the addresses of the owned lists that are handed in -/
def own0 (O : Ow) (P : List Addr) : Ow := ⟨[], (O.l ++ O.u).filter fun a => decide (a ∉ P)⟩
section
variable {K : PySem.W.Frag} {O : Ow} {H : Hp} {S : Sto}
theorem own0_no {P : List Addr} {a : Addr} (h : O.no a) : (own0 O P).no a := ⟨by simp [own0], fun z => by
  have := (List.mem_filter.mp z).1
  rcases List.mem_append.mp this with z | z
  · exact h.1 z
  · exact h.2 z⟩
theorem own0_in {P : List Addr} {a : Addr} (h : a ∈ P) : (own0 O P).no a := ⟨by simp [own0], fun z => by
  have := (List.mem_filter.mp z).2
  simp at this
  exact this h⟩
theorem cap_in {P : List Addr} : Cap false O (own0 O P) H := fun a o n _ _ => own0_no n
theorem rep_in {P : List Addr} {d : D} {v : V} (h : nown d = true) (r : Rep K O H d v) : Rep K (own0 O P) H d v := r.cap cap_in (fun _ _ _ n _ => own0_no n) h (fun e => nomatch e)
theorem reps_in {P : List Addr} {d : List D} {v : List V} (h : nowns d = true) (r : Reps K O H d v) : Reps K (own0 O P) H d v := r.cap cap_in (fun _ _ _ n _ => own0_no n) h (fun e => nomatch e)
theorem frzA_rep (w : WF K O H S) : ∀ {ds es : List D} {b : Bool} {vs : List V}, frzA S ds = some (es, b) → Reps K O H ds vs → ∃ P : List Addr, (b = false → P = []) ∧ (∀ p ∈ P, p ∈ O.l ∧ ∃ xs, H p = some (.lst xs)) ∧ ∀ P', (∀ p ∈ P, p ∈ P') → Reps K (own0 O P') H es vs
  | [], _, _, _, h, r => by cases h; exact ⟨[], fun _ => rfl, fun _ h => (nomatch h), fun _ _ => r⟩
  | d :: ds, es, b, vs, h, r => by
    obtain ⟨v, vr, rfl, r1, r2⟩ := r
    simp only [frzA] at h
    cases q : frzA S ds with
    | none => simp only [q] at h; cases h
    | some p =>
      obtain ⟨es', b'⟩ := p
      obtain ⟨P, h1, h2, h3⟩ := frzA_rep w q r2
      simp only [q] at h
      by_cases hn : nown d = true
      · rw [if_pos hn] at h
        cases h
        exact ⟨P, h1, h2, fun P' hp => ⟨v, vr, rfl, rep_in hn r1, h3 P' hp⟩⟩
      · rw [if_neg hn] at h
        cases d <;> try (cases h)
        rename_i k
        obtain ⟨a, ha, rfl⟩ := r1
        simp only at h
        cases q2 : S[k]? with
        | none => simp only [q2] at h; cases h
        | some d0 =>
          have c := w.cell k a d0 ha q2
          simp only [q2] at h
          cases d0 <;> try (cases h)
          rename_i xs
          simp only at h
          by_cases hx : nowns xs = true
          · rw [if_pos hx] at h
            cases h
            obtain ⟨ys, e1, e2⟩ := c
            refine ⟨a :: P, fun e => (nomatch e), fun p hp => ?_, fun P' hp => ⟨.ref a, vr, rfl, ⟨a, ys, rfl, own0_in (hp a List.mem_cons_self), e1, reps_in hx e2⟩, h3 P' fun p z => hp p (List.mem_cons_of_mem _ z)⟩⟩
            rcases List.mem_cons.mp hp with rfl | hp
            · exact ⟨List.mem_of_getElem? ha, ys, e1⟩
            · exact h2 p hp
          · rw [if_neg hx] at h; cases h
theorem own0_wf (w : WF K O H S) (P : List Addr) : WF K (own0 O P) H [] := by
  refine ⟨.nil, rfl, fun k a d h => by simp [own0] at h, fun a ha => ⟨by simp [own0], ?_⟩⟩
  have hm := (List.mem_filter.mp ha).1
  rcases List.mem_append.mp hm with z | z
  · obtain ⟨k, hk⟩ := List.mem_iff_getElem?.mp z
    have hl : k < S.length := by rw [w.len]; exact (List.getElem?_eq_some_iff.mp hk).1
    have c := w.cell k a S[k] hk (by simp [hl])
    cases q : S[k] <;> rw [q] at c <;> simp only [Cell] at c
    all_goals first
      | exact c.elim
      | (obtain ⟨xs, c, _⟩ := c; exact ⟨_, c, (fun _ z => by cases z), (fun _ _ z => by cases z), (fun _ z => by cases z)⟩)
      | (obtain ⟨dx, xs, c, _⟩ := c; exact ⟨_, c, (fun _ z => by cases z), (fun _ _ z => by cases z), (fun _ z => by cases z)⟩)
  · exact (w.hid a z).2
/-- behind: what stood stands -/
theorem own0_ext {P : List Addr} {O' : Ow} {H' : Hp} (e : Ext (own0 O P) H O' H') : Ext O H O H' :=
  ⟨⟨[], by simp, fun _ h => by cases h⟩, ⟨[], by simp, fun _ h => by cases h⟩, fun a o _ h => e.keep a o (by simp [own0]) h, e.tups, e.there⟩
theorem own0_back (w : WF K O H S) {P : List Addr} {O' : Ow} {H' : Hp} (e : Ext (own0 O P) H O' H') : WF K O H' S := by
  have x := (own0_ext e).w w
  refine ⟨w.nd, w.len, fun k a d h1 h2 => (w.cell k a d h1 h2).mono x ?_, fun a ha => ?_⟩
  · cases q : H a with
    | none => exact absurd q (w.there a (.inl (List.mem_of_getElem? h1)))
    | some o => exact e.keep a o (by simp [own0]) q
  · obtain ⟨n, o, h, s⟩ := w.hid a ha
    exact ⟨n, o, e.keep a o (by simp [own0]) h, s⟩
theorem own0_cap (w : WF K O H S) {P : List Addr} (hP : ∀ p ∈ P, p ∈ O.l ∧ ∃ xs, H p = some (.lst xs)) {b : Bool} (hb : b = false → P = []) {O' : Ow} {H' : Hp} (e : Ext (own0 O P) H O' H') : Cap b O' O H' := by
  intro a o n h hf
  obtain ⟨m, q, _⟩ := e.preu
  have nu : a ∉ (own0 O P).u := fun z => n.2 (by rw [q]; exact List.mem_append_right _ z)
  by_cases hp : a ∈ P
  · cases b with
    | false => rw [hb rfl] at hp; cases hp
    | true =>
      obtain ⟨_, xs, hx⟩ := hP a hp
      rw [e.keep a _ (by simp [own0]) hx] at h
      exact absurd (Option.some.inj h).symm (hf rfl xs)
  · have : a ∉ O.l ++ O.u := fun z => nu (List.mem_filter.mpr ⟨z, by simpa using hp⟩)
    exact ⟨fun z => this (List.mem_append_left _ z), fun z => this (List.mem_append_right _ z)⟩
theorem own0_frz (w : WF K O H S) {P : List Addr} (hP : ∀ p ∈ P, p ∈ O.l ∧ ∃ xs, H p = some (.lst xs)) {O' : Ow} {H' : Hp} (e : Ext (own0 O P) H O' H') : ∀ a o xs, O'.no a → H' a = some (.frz o (.lst xs)) → O.no a := by
  intro a o xs n h
  obtain ⟨m, q, _⟩ := e.preu
  have nu : a ∉ (own0 O P).u := fun z => n.2 (by rw [q]; exact List.mem_append_right _ z)
  have wb := own0_back w e
  exact ⟨fun z => wb.nofrz a (.inl z) _ _ h, fun z => wb.nofrz a (.inr z) _ _ h⟩
theorem out_rep (w : WF K O H S) {P : List Addr} (hP : ∀ p ∈ P, p ∈ O.l ∧ ∃ xs, H p = some (.lst xs)) {b : Bool} (hb : b = false → P = []) {O' : Ow} {H' : Hp} (e : Ext (own0 O P) H O' H') {S' : Sto} (w' : WF K O' H' S') {d d' : D} {v : V} (h : outD b S' d = some d') (r : Rep K O' H' d v) : Rep K O H' d' v := by
  unfold outD at h
  have key : ∀ {x : D}, nown x = true ∧ (b = true → nolst x = true) → Rep K ⟨[], O'.u⟩ H' x v → Rep K O H' x v := fun {x} hx rx => by
    refine rx.cap (fl := b) (fun a o n ho hf => ?_) (fun a o xs n ho => ?_) hx.1 hx.2
    · by_cases hm : a ∈ O'.l
      · obtain ⟨m, q, hm2⟩ := e.pre
        have : a ∈ m := by rw [q] at hm; simpa [own0] using hm
        have hn := hm2 a this
        exact ⟨fun z => w.there a (.inl z) hn, fun z => w.there a (.inr z) hn⟩
      · exact own0_cap w hP hb e a o ⟨hm, n.2⟩ ho hf
    · by_cases hm : a ∈ O'.l
      · exact absurd ho (w'.nofrz a (.inl hm) _ _)
      · exact own0_frz w hP e a o xs ⟨hm, n.2⟩ ho
  by_cases hn : nown d = true
  · rw [if_pos hn] at h
    simp only [Option.bind_some] at h
    split at h
    · rename_i hx
      cases h
      have cc : Cap false O' ⟨[], O'.u⟩ H' := fun a o n _ _ => ⟨by simp, n.2⟩
      exact key hx (Rep.cap cc (fun a o xs n _ => ⟨by simp, n.2⟩) hn (fun z => nomatch z) r)
    · cases h
  · rw [if_neg hn] at h
    cases q : frz S' 50 d with
    | none => rw [q] at h; cases h
    | some x =>
      rw [q] at h
      simp only [Option.bind_some] at h
      split at h
      · rename_i hx
        cases h
        exact key hx (frz_rep w' (O2 := ⟨[], O'.u⟩) (fun a ha => ⟨by simp, fun z => (w'.hid a z).1 ha⟩) (fun a n _ => ⟨by simp, n.2⟩) 50 d _ v q r)
      · cases h
theorem out_repF (w : WF K O H S) {P : List Addr} (hP : ∀ p ∈ P, p ∈ O.l ∧ ∃ xs, H p = some (.lst xs)) {b : Bool} (hb : b = false → P = []) {O' : Ow} {H' : Hp} (e : Ext (own0 O P) H O' H') {S' : Sto} (w' : WF K O' H' S') :
    ∀ {fs gs : List (Str × D)} {vs : List (Str × V)}, outF b S' fs = some gs → RepF K O' H' fs vs → RepF K O H' gs vs :=
  fun h r => frz_F (fun _ _ _ q rr => out_rep w hP hb e w' q rr) h r
end
theorem sp_pure {K : PySem.W.Frag} {n : Nat} {F : FD} {vs : List V} {H : Hp} {Q : VK} {E : XK} (h : spD K n (pureF F) vs H Q E) : spD K n F vs H Q E := by
  obtain ⟨O, S, ds, w, r, hl, h⟩ := h
  unfold pureF at h
  cases q : frzA S ds with
  | none => rw [q] at h; exact h.elim
  | some p =>
    obtain ⟨es, b⟩ := p
    obtain ⟨P, hb, hP, hr⟩ := frzA_rep w q r
    have r2 := hr P fun _ z => z
    rw [q] at h
    simp only at h
    refine ⟨own0 O P, [], es, own0_wf w P, r2, by rw [r2.length, ← r.length]; exact hl, ?_⟩
    cases qF : F es [] with
    | bad => rw [qF] at h; exact h.elim
    | ok d S' =>
      rw [qF] at h
      simp only at h
      intro O' H' v e w' rv
      cases qo : outD b S' d with
      | none => rw [qo] at h; exact h.elim
      | some d' =>
        rw [qo] at h
        exact h O H' v (own0_ext e) (own0_back w e) (out_rep w hP hb e w' qo rv)
    | exc x S' =>
      rw [qF] at h
      simp only at h
      intro O' H' cls dx e w' rx
      cases qo : outF b S' x.fs with
      | none => rw [qo] at h; exact h.elim
      | some fs =>
        rw [qo] at h
        obtain ⟨rc, a, us, e1, e2, e3⟩ := rx
        exact h O H' cls dx (own0_ext e) (own0_back w e) ⟨rc, a, us, e1, e2, out_repF w hP hb e w' qo e3⟩
theorem FnGd.pure {P : Program} {w : World} {K : PySem.W.Frag} {mg : Str → Option Value} {base : Heap} {k n : Nat} {f : Addr} {fd : FuncData} {ps : List Str} {F : FD} (G : FnGd P w K mg base k f fd ps (spD K n F)) : FnGd P w K mg base k f fd ps (spD K n (pureF F)) :=
  ⟨fun vs H Q E h => G.len vs H Q E (sp_pure h), fun A outer s H args us vs Q E hr gd e0 b r h => G.run A outer s H args us vs Q E hr gd e0 b r (sp_pure h)⟩
theorem FnG.pure {P : Program} {w : World} {K : PySem.W.Frag} {mg : Str → Option Value} {base : Heap} {k n : Nat} {x : Str} {F : FD} (G : FnG P w K mg base k x n F) : FnG P w K mg base k x n (pureF F) := by
  obtain ⟨⟨fd, ps, h1, h2⟩, gl, kp⟩ := G
  exact ⟨⟨fd, ps, h1.pure, h2⟩, gl, kp⟩
end DE

set_option maxHeartbeats 4000000
namespace DE
open PySem PySem.Spec PyProof.Rows L2
/-! ### instances -/
def objAt (S : Sto) : D → Option (Str × List (Str × D))
  | .obj c fs => some (c, fs)
  | .own k => (match S[k]? with
    | some (.obj c fs) => some (c, fs)
    | _ => none)
  | _ => none
theorem objAt_rep {K : PySem.W.Frag} {O : Ow} {H : Hp} {ρ : DE.Env} {σ : L2.St} {S : Sto} {d : D} {v : V} {c : Str} {fs : List (Str × D)} (st : Stt K O H ρ σ S) (h : objAt S d = some (c, fs)) (r : Rep K O H d v) :
    ∃ a dx vs, v = .ref a ∧ H a = some (.ins (He.ga K c) dx vs) ∧ RepF K O H fs vs := by
  cases d <;> try (cases h)
  · obtain ⟨a, dx, vs, rfl, _, h1, h2⟩ := r
    exact ⟨a, dx, vs, rfl, h1, h2⟩
  · rename_i k
    obtain ⟨a, ha, rfl⟩ := r
    simp only [objAt] at h
    cases q : S[k]? with
    | none => simp only [q] at h; cases h
    | some d0 =>
      have c0 := st.wf.cell k a d0 ha q
      simp only [q] at h
      cases d0 <;> try (cases h)
      obtain ⟨dx, vs, h1, h2⟩ := c0
      exact ⟨a, dx, vs, rfl, h1, h2⟩
theorem repF_none {K : PySem.W.Frag} {O : Ow} {H : Hp} {f : Str} : ∀ {fs : List (Str × D)} {vs : List (Str × V)}, RepF K O H fs vs → fs.lookup f = none → vs.lookup f = none
  | [], _, r, _ => by cases r; rfl
  | (k, d0) :: fs, _, h, e => by
    obtain ⟨v, vr, rfl, h1, h2⟩ := h
    rw [List.lookup_cons] at e ⊢
    cases q : f == k with
    | true => rw [q] at e; cases e
    | false => rw [q] at e; exact repF_none h2 e
section
variable {X : Cx} {W : WX} {x m f : Str} {p pos apos : Pos} {e o : Expr} {es : List Expr} {j k n : Nat} {fo : ME} {fa : MA} {F : FD}
/-! fields read -/
/-- cs: the classes that may stand there -/
def dFld (f : Str) (cs : List Str) (g : ME) : ME := fun ρ S => (g ρ S).bind fun d S1 => match objAt S1 d with
  | some (c, fs) => if c ∈ cs then (match fs.lookup f with
    | some d => .ok d S1
    | none => .bad) else .bad
  | none => .bad
theorem de_fld {cs : List Str} (ho : DE X W o fo) (hc : ∀ c ∈ cs, Cls X.K (He.ga X.K c) ∧ NoAttr X.K (He.ga X.K c) f) (hb : attributeBase o f X.env (eval o X.env) = eval o X.env := by rfl) : DE X W (.Attribute o f pos) (dFld f cs fo) :=
  ⟨PE.imp (pe_fld ho.pe hb) fun σ H Q ⟨O, ρ, S, st, h⟩ => ⟨O, ρ, S, st, After.seq h fun d S1 O1 H1 v e1 st1 r1 h1 => by
    cases q : objAt S1 d with
    | none => simp only [q] at h1; exact h1.elim
    | some z =>
      obtain ⟨c, fs⟩ := z
      simp only [q] at h1
      by_cases hm : c ∈ cs
      · rw [if_pos hm] at h1
        obtain ⟨a, dx, vs, rfl, ha, rf⟩ := objAt_rep st1 q r1
        cases q2 : fs.lookup f with
        | none => simp only [q2] at h1; exact h1.elim
        | some d2 =>
          simp only [q2] at h1
          obtain ⟨u, hu, ru⟩ := repF_lookup rf q2
          exact ⟨a, _, dx, vs, u, rfl, ha, (hc c hm).1, (hc c hm).2, hu, After.ok h1 st1 ru⟩
      · rw [if_neg hm] at h1; exact h1.elim⟩⟩
/-! fields stored -/
def putD (f : Str) (d : D) : List (Str × D) → List (Str × D)
  | [] => [(f, d)]
  | (g, x) :: r => if g = f then (g, d) :: r else (g, x) :: putD f d r
theorem RepF.put {K : PySem.W.Frag} {O : Ow} {H : Hp} {f : Str} {d : D} {v : V} (r : Rep K O H d v) : ∀ {fs : List (Str × D)} {vs : List (Str × V)}, RepF K O H fs vs → RepF K O H (putD f d fs) (putF f v vs)
  | [], _, h => by cases h; exact ⟨v, [], rfl, r, rfl⟩
  | (g, x) :: fs, _, h => by
    obtain ⟨u, vr, rfl, h1, h2⟩ := h
    by_cases c : g = f
    · simp only [putD, putF, if_pos c]; exact ⟨v, vr, rfl, r, h2⟩
    · simp only [putD, putF, if_neg c]; exact ⟨u, _, rfl, h1, RepF.put r h2⟩
theorem RepF.length {K : PySem.W.Frag} {O : Ow} {H : Hp} : ∀ {fs : List (Str × D)} {vs : List (Str × V)}, RepF K O H fs vs → fs.length = vs.length
  | [], _, h => by cases h; rfl
  | (_, _) :: _, _, h => by
    obtain ⟨u, vr, rfl, h1, h2⟩ := h
    simp [RepF.length h2]
/-- o.f = e -/
def sFldO (f : Str) (cs : List Str) (fo fe : ME) : MS := fun ρ S => (fe ρ S).stm ρ fun d S1 => (fo ρ S1).stm ρ fun ob S2 => match ob with
  | .own k => (match S2[k]? with
    | some (.obj c fs) => if c ∈ cs ∧ fs.length < 1000 then .nx ρ (S2.set k (.obj c (putD f d fs))) else .bad
    | _ => .bad)
  | _ => .bad
theorem ds_fldO {ap : Pos} {fe : ME} {cs : List Str} (ho : DE X W o fo) (he : DE X W e fe) (hc : ∀ c ∈ cs, Cls X.K (He.ga X.K c) ∧ NoAttr X.K (He.ga X.K c) f) (hs : swapsWith e (some (.Attribute o f ap)) pos.line X.env = pure false := by rfl) :
    DS X W (.Assign [.Attribute o f ap] e pos) (sFldO f cs fo fe) := by
  refine ⟨PS.imp (ps_fld ho.pe he.pe hs) fun D' σ H ⟨O, ρ, S, st, h⟩ => ⟨O, ρ, S, st, AfterS.seqE h fun d S1 O1 H1 v e1 st1 r1 h1 => ⟨O1, ρ, S1, st1, AfterS.seqE h1 fun ob S2 O2 H2 u e2 st2 r2 h2 => ?_⟩⟩⟩
  cases ob <;> try exact h2.elim
  rename_i k
  simp only at h2
  cases q : S2[k]? with
  | none => simp only [q] at h2; exact h2.elim
  | some d0 =>
    simp only [q] at h2
    cases d0 <;> try exact h2.elim
    rename_i c fs
    simp only at h2
    by_cases hm : c ∈ cs ∧ fs.length < 1000
    · rw [if_pos hm] at h2
      obtain ⟨a, ha, rfl⟩ := r2
      obtain ⟨dx, vs, hx, rf⟩ := st2.wf.cell k a _ ha q
      refine ⟨a, _, dx, vs, rfl, hx, (hc c hm.1).1, (hc c hm.1).2, by rw [← RepF.length rf]; exact hm.2, ?_⟩
      have rd := r1.mono (e2.w st1.wf)
      obtain ⟨e3, st3⟩ := st2.mut (o := .ins (He.ga X.K c) dx (putF f v vs)) (d := .obj c (putD f d fs)) ha fun e => ⟨dx, _, upd_same, RepF.mono (e.w st2.wf) (RepF.put rd rf)⟩
      exact h2 O2 _ σ e3 st3
    · rw [if_neg hm] at h2; exact h2.elim
/-! ### defs at an address, with a promise over data -/
theorem sp_of {σ : L2.St} {H : Hp} {O : Ow} {ρ : DE.Env} {S : Sto} {ds : List D} {vs : List V} {Q : VK} (st : Stt X.K O H ρ σ S) (r : Reps X.K O H ds vs) (hl : ds.length = n) (h : After X.K W (Rep X.K) ρ σ O H Q (F ds S)) : spD X.K n F vs H Q (WE W σ) := by
  refine ⟨O, S, ds, st.wf, r, hl, ?_⟩
  cases q : F ds S with
  | ok d S' => rw [q] at h; exact fun O' H' v e wf r => h O' H' v e ⟨wf, st.env.mono (e.w st.wf)⟩ r
  | exc y S' => rw [q] at h; exact fun O' H' cls dx e wf r => h O' H' cls dx e ⟨wf, st.env.mono (e.w st.wf)⟩ r
  | bad => rw [q] at h; exact h
structure FnA (P : Program) (w : World) (K : PySem.W.Frag) (mg : Str → Option Value) (base : Heap) (k : Nat) (f : Addr) (n : Nat) (F : FD) : Prop where
  ok : ∃ fd ps, FnGd P w K mg base k f fd ps (spD K n F) ∧ Binds K fd ps []
theorem FnA.mono {P : Program} {w : World} {K : PySem.W.Frag} {mg : Str → Option Value} {base : Heap} {a : Addr} (G : FnA P w K mg base k a n F) (h : k ≤ j) : FnA P w K mg base j a n F := by
  obtain ⟨fd, ps, g, b⟩ := G.ok
  exact ⟨fd, ps, ⟨g.len, fun A outer s H args us vs Q E hr => g.run A outer s H args us vs Q E (hr.mono h)⟩, b⟩
theorem FnA.pure {P : Program} {w : World} {K : PySem.W.Frag} {mg : Str → Option Value} {base : Heap} {a : Addr} (G : FnA P w K mg base k a n F) : FnA P w K mg base k a n (pureF F) := by
  obtain ⟨fd, ps, g, b⟩ := G.ok
  exact ⟨fd, ps, g.pure, b⟩
/-- a method of a class of the program -/
structure MethA (P : Program) (w : World) (K : PySem.W.Frag) (mg : Str → Option Value) (base : Heap) (k : Nat) (c m : Str) (n : Nat) (F : FD) : Prop where
  fn : FnA P w K mg base k (He.ma K (He.ga K c) m) n F
  me : Meth K (He.ga K c) m (He.ma K (He.ga K c) m)
  cl : Cls K (He.ga K c)
/-- o.m(e, ..): tb tells by the class which def -/
def dMeth (m : Str) (n : Nat) (tb : List (Str × FD)) (fo : ME) (fa : MA) : ME := fun ρ S => (fo ρ S).bind fun d S1 => match objAt S1 d with
  | some (c, fs) => (match fs.lookup m, tb.lookup c with
    | none, some F => (fa ρ S1).bind fun ds S2 => if ds.length + 1 = n then F (d :: ds) S2 else .bad
    | _, _ => .bad)
  | none => .bad
/-- what stands behind the receiver -/
def rMeth (X : Cx) (W : WX) (m : Str) (n : Nat) (tb : List (Str × FD)) (fa : MA) (σ : L2.St) (Q : VK) : V → Hp → Prop := fun x H1 => ∃ c F a dx vs, x = .ref a ∧ H1 a = some (.ins (He.ga X.K c) dx vs) ∧ vs.lookup m = none ∧ tb.lookup c = some F ∧
  tA X.K W fa σ H1 fun us H2 => spD X.K n F (x :: us) H2 Q (WE W σ)
theorem meth_imp {tb : List (Str × FD)} {σ : L2.St} {H : Hp} {Q : VK} (h : tE X.K W (dMeth m n tb fo fa) σ H Q) : tE X.K W fo σ H (rMeth X W m n tb fa σ Q) := by
  obtain ⟨O, ρ, S, st, h⟩ := h
  refine ⟨O, ρ, S, st, After.seq h fun d S1 O1 H1 v e1 st1 r1 h1 => ?_⟩
  cases q : objAt S1 d with
  | none => simp only [q] at h1; exact h1.elim
  | some z =>
    obtain ⟨c, fs⟩ := z
    simp only [q] at h1
    cases q1 : fs.lookup m with
    | some y => simp only [q1] at h1; exact h1.elim
    | none =>
      cases q2 : tb.lookup c with
      | none => simp only [q1, q2] at h1; exact h1.elim
      | some F =>
        simp only [q1, q2] at h1
        obtain ⟨a, dx, vs, rfl, ha, rf⟩ := objAt_rep st1 q r1
        refine ⟨c, F, a, dx, vs, rfl, ha, repF_none rf q1, q2, O1, ρ, S1, st1, After.seq h1 fun ds S2 O2 H2 us e2 st2 r2 h2 => ?_⟩
        by_cases hl : ds.length + 1 = n
        · rw [if_pos hl] at h2
          exact sp_of (ds := d :: ds) st2 ⟨_, _, rfl, r1.mono (e2.w st1.wf), r2⟩ hl h2
        · rw [if_neg hl] at h2; exact h2.elim
/-- the table's defs keep their promises -/
def MTab (X : Cx) (j : Nat) (m : Str) (n : Nat) (tb : List (Str × FD)) : Prop := ∀ c F, tb.lookup c = some F → MethA X.prog X.w X.K X.mg X.base j c m n F
theorem mt_nil : MTab X j m n [] := fun c F h => by cases h
theorem mt_cons {c : Str} {tb : List (Str × FD)} (G : MethA X.prog X.w X.K X.mg X.base k c m n F) (T : MTab X j m n tb) (h : k ≤ j := by decide) : MTab X j m n ((c, F) :: tb) := fun c' F' e => by
  rw [List.lookup_cons] at e
  cases q : c' == c with
  | true =>
    rw [q] at e
    cases e
    rw [eq_of_beq q]
    exact ⟨G.fn.mono h, G.me, G.cl⟩
  | false => rw [q] at e; exact T c' F' e
theorem de_meth {pl : Sem Bool} {tb : List (Str × FD)} (ho : DE X W o fo) (T : MTab X j m n tb) (hr : Room j X.A) (gd : X.A.guards = some []) (tk : Takes X W) (ha : DA X W (e :: es) fa)
    (hst : starEach (e :: es) X.env = (false, eval e X.env) :: starEach es X.env := by rfl) (hpl : (backTo pos (starEach es X.env)).any (·.1) = false := by rfl)
    (ht : eval (.Call (.Attribute o m apos) (e :: es) [] pos) X.env = (do
      let ov ← eval o X.env
      standAt apos.atName
      let (f, first) ← holding [ov] (getMethod ov m pl)
      callWith pos f first (backTo pos (starEach (e :: es) X.env)) (backToKw pos (keywordEach [] X.env))) := by rfl) :
    DE X W (.Call (.Attribute o m apos) (e :: es) [] pos) (dMeth m n tb fo fa) := by
  refine ⟨⟨fun pins s σ H Q I h => ?_⟩⟩
  refine PySem.W.methodCall_KW (pl := pl) (thn (ho.pe.run pins s σ H _ I (meth_imp h)) fun u s1 ⟨x, H1, I1, rx, c, F, a, dx, fs, ex, ea, l, ec, q⟩ => ?_) ht
  subst ex
  obtain rfl : u = Value.ref a := rx
  obtain ⟨fn, me, cl⟩ := T c F ec
  obtain ⟨fd, ps, g, b⟩ := fn.ok
  refine getmeth_ok I1 ea cl me l ?_
  refine PySem.W.callWith_K (first := [.ref a]) (h₀ := X.base) I.ok.mod.kin me.kp (thn (ha.pa.run pos pins s1 σ H1 _ I1 q) fun us s2 ⟨vs, H2, I2, r, q2⟩ => ⟨I2.kIn, ?_⟩) hst hpl
  exact run_G (us := Value.ref a :: us) (vs := V.ref a :: vs) g hr gd b (passAt tk σ) I2 (.cons rfl r) q2
theorem de_meth0 {pl : Sem Bool} {tb : List (Str × FD)} (ho : DE X W o fo) (T : MTab X j m n tb) (hr : Room j X.A) (gd : X.A.guards = some []) (tk : Takes X W)
    (ht : eval (.Call (.Attribute o m apos) [] [] pos) X.env = (do
      let ov ← eval o X.env
      standAt apos.atName
      let (f, first) ← holding [ov] (getMethod ov m pl)
      callWith pos f first (backTo pos (starEach [] X.env)) (backToKw pos (keywordEach [] X.env))) := by rfl) :
    DE X W (.Call (.Attribute o m apos) [] [] pos) (dMeth m n tb fo aNil) := by
  refine ⟨⟨fun pins s σ H Q I h => ?_⟩⟩
  refine PySem.W.methodCall_KW (pl := pl) (thn (ho.pe.run pins s σ H _ I (meth_imp h)) fun u s1 ⟨x, H1, I1, rx, c, F, a, dx, fs, ex, ea, l, ec, O, ρ, S, st, q⟩ => ?_) ht
  subst ex
  obtain rfl : u = Value.ref a := rx
  obtain ⟨fn, me, cl⟩ := T c F ec
  obtain ⟨fd, ps, g, b⟩ := fn.ok
  refine getmeth_ok I1 ea cl me l ?_
  have q2 := After.ok (d := ([] : List D)) (v := ([] : List V)) q st rfl
  exact PySem.W.callWith_K0 (first := [.ref a]) I1.kIn me.kp (run_G (us := [Value.ref a]) (vs := [V.ref a]) g hr gd b (passAt tk σ) I1 (.cons rfl .nil) q2)
end
end DE

set_option maxHeartbeats 4000000
namespace DE
open PySem PySem.Spec PyProof.Rows L2
/-! ### what may be called: a def, a class -/
/-- how a call binds, over data -/
structure KBD (K : PySem.W.Frag) (fd : FuncData) (ps : List Str) (n : Nat) (ks : List Str) (g : List D → List D → List D) : Prop where
  kb : ∃ gv gV, KBn K fd ps n ks gv gV ∧ ∀ (O : Ow) (H : Hp) ds vs es zs, Reps K O H ds vs → Reps K O H es zs → Reps K O H (g ds es) (gV vs zs)
theorem KBD.of_binds {K : PySem.W.Frag} {fd : FuncData} {ps : List Str} (b : Binds K fd ps []) : KBD K fd ps ps.length [] fun ds es => ds ++ es :=
  ⟨fun us ws => us ++ ws, fun vs zs => vs ++ zs, ⟨fun s us ws X l1 l2 => by
    have : ws = [] := List.length_eq_zero_iff.mp l2
    subst this
    have e := b s us X (by simpa using l1)
    simpa using e, fun a b => a.append b⟩, fun O H ds vs es zs r1 r2 => r1.append r2⟩
/-- the callee at f, with n values and the keywords ks, keeps F (of the values, then the keywords' values) -/
def CalleeX (X : Cx) (k : Nat) (f : Addr) (n : Nat) (ks : List Str) (F : FD) : Prop :=
  ∀ (pins : List (Addr × Obj)) (σ : L2.St) (H : Hp) (s : Shared) (Q : VK) (E : L2.St → XK) (us ws : List Value) (vs zs : List V), Room k X.A → X.A.guards = some [] → PassesAt (L2.CX X.prog X.w) X σ (E σ) → Inv X pins σ H s → Vals vs us → Vals zs ws →
    us.length = n → ws.length = ks.length → spD X.K (n + ks.length) F (vs ++ zs) H Q (E σ) → wpAny (model X.prog X.w) X.A (call (.ref f) us (ks.zip ws)) (EP X pins σ Q) X.xe s
theorem CalleeX.pure {X : Cx} {k n : Nat} {f : Addr} {ks : List Str} {F : FD} (C : CalleeX X k f n ks F) : CalleeX X k f n ks (pureF F) :=
  fun pins σ H s Q E us ws vs zs hr gd px I r rz l1 l2 h => C pins σ H s Q E us ws vs zs hr gd px I r rz l1 l2 (sp_pure h)
theorem CalleeX.mono {X : Cx} {j k n : Nat} {f : Addr} {ks : List Str} {F : FD} (C : CalleeX X j f n ks F) (h : j ≤ k) : CalleeX X k f n ks F :=
  fun pins σ H s Q E us ws vs zs hr gd px I r rz l1 l2 q => C pins σ H s Q E us ws vs zs (hr.mono h) gd px I r rz l1 l2 q
/-- the parameters, from what is written -/
def bindF (n N : Nat) (g : List D → List D → List D) (F : FD) : FD := fun as S => if (g (as.take n) (as.drop n)).length = N then F (g (as.take n) (as.drop n)) S else .bad
theorem reps_split {K : PySem.W.Frag} {O : Ow} {H : Hp} {vs zs : List V} {as : List D} {n : Nat} (r : Reps K O H as (vs ++ zs)) (hl : vs.length = n) : Reps K O H (as.take n) vs ∧ Reps K O H (as.drop n) zs := by
  have a := r.take n
  have b := r.drop n
  rw [← hl, List.take_left] at a
  rw [← hl, List.drop_left] at b
  rw [← hl]
  exact ⟨a, b⟩
theorem callee_fn {X : Cx} {k n N : Nat} {f : Addr} {fd : FuncData} {ps ks : List Str} {F : FD} {g : List D → List D → List D} (G : FnGd X.prog X.w X.K X.mg X.base k f fd ps (spD X.K N F)) (B : KBD X.K fd ps n ks g) : CalleeX X k f n ks (bindF n N g F) := by
  intro pins σ H s Q E us ws vs zs hr gd px I r rz l1 l2 ⟨O, S, as, wf, ra, hl, h⟩
  obtain ⟨gv, gV, kb, hg⟩ := B.kb
  obtain ⟨r1, r2⟩ := reps_split ra (r.length.trans l1)
  have rg := hg O H _ _ _ _ r1 r2
  unfold bindF at h
  by_cases hN : (g (as.take n) (as.drop n)).length = N
  · rw [if_pos hN] at h
    refine wpAny_call (codeAny_mono (G.run X.A X.stack s H ⟨us, ks.zip ws⟩ (gv us ws) (gV vs zs) Q (E σ) hr gd I.env0 (kb.to s us ws I.kIn l1 l2) (kb.rel r rz) ⟨O, S, _, wf, rg, hN, h⟩) ?_)
    rintro (er | fl) s' z
    · exact px pins H s er s' I z
    · rcases fl with _ | _ | _ | u
      all_goals first
        | exact I.after z
        | exact z.elim
  · rw [if_neg hN] at h; exact h.elim
/-- a new instance of c -/
def makeF (c : Str) (F : FD) : FD := fun as S => match F (.own S.length :: as) (S ++ [.obj c []]) with
  | .ok .non S' => .ok (.own S.length) S'
  | .exc x S' => .exc x S'
  | _ => .bad
theorem callee_mk {X : Cx} {k n N : Nat} {c : Str} {fI : Addr} {fd : FuncData} {ps ks : List Str} {F : FD} {g : List D → List D → List D} (M : Mk X.K (He.ga X.K c) fI) (G : FnGd X.prog X.w X.K X.mg X.base k fI fd ps (spD X.K N F)) (B : KBD X.K fd ps (n + 1) ks g) :
    CalleeX X (k + 1) (He.ga X.K c) n ks (makeF c (bindF (n + 1) N g F)) := by
  intro pins σ H s Q E us ws vs zs hr gd px I r rz l1 l2 ⟨O, S, as, wf, ra, hl, h⟩
  obtain ⟨gv, gV, kb, hg⟩ := B.kb
  generalize hC : He.ga X.K c = C at *
  generalize ha : s.heap.objs.size = z at *
  have n1 : H (z + 1) = none := I.hok.fresh (by rw [ha]; exact Nat.le_succ _)
  have n0 : H z = none := I.hok.fresh (by rw [ha]; exact Nat.le_refl _)
  have ne : z ≠ z + 1 := Nat.ne_of_lt (Nat.lt_succ_self _)
  have I2 := Inv.made (C := C) I
  rw [ha] at I2
  have e1 : Ext O H O (upd H z (.own (z + 1))) := ext_new n0
  have st0 : Stt X.K O H [] [] S := ⟨wf, .nil⟩
  obtain ⟨e1, st1⟩ := st0.new (o := .own (z + 1)) n0
  have n2 : upd H z (.own (z + 1)) (z + 1) = none := by rw [upd_ne (Ne.symm ne)]; exact n1
  obtain ⟨e2, st2⟩ := st1.newO (o := .ins C z []) (d := .obj c []) n2 fun e => ⟨z, [], by rw [hC]; exact upd_same, rfl⟩
  have e12 := e1.trans e2
  have rs : Rep X.K (O.add (z + 1)) (upd (upd H z (.own (z + 1))) (z + 1) (.ins C z [])) (.own S.length) (.ref (z + 1)) := ⟨z + 1, by rw [wf.len]; exact getElem?_snoc _ _, rfl⟩
  have ra2 : Reps X.K (O.add (z + 1)) (upd (upd H z (.own (z + 1))) (z + 1) (.ins C z [])) (.own S.length :: as) (V.ref (z + 1) :: (vs ++ zs)) := ⟨_, _, rfl, rs, ra.mono (e12.w wf)⟩
  obtain ⟨r1, r2⟩ := reps_split (n := n + 1) (vs := V.ref (z + 1) :: vs) ra2 (congrArg Nat.succ (r.length.trans l1))
  have rg := hg _ _ _ _ _ _ r1 r2
  unfold makeF bindF at h
  by_cases hN : (g ((D.own S.length :: as).take (n + 1)) ((D.own S.length :: as).drop (n + 1))).length = N
  · rw [if_pos hN] at h
    have rv : Vals (V.ref (z + 1) :: vs) (Value.ref (z + 1) :: us) := .cons rfl r
    have q : spD X.K N F (gV (V.ref (z + 1) :: vs) zs) (upd (upd H z (.own (z + 1))) (z + 1) (.ins C z [])) (fun v H2 => v = .non ∧ Q (.ref (z + 1)) H2) (E σ) := by
      refine ⟨_, _, _, st2.wf, rg, hN, ?_⟩
      cases qF : F (g ((D.own S.length :: as).take (n + 1)) ((D.own S.length :: as).drop (n + 1))) (S ++ [.obj c []]) with
      | bad => rw [qF] at h; exact h.elim
      | exc x S' =>
        rw [qF] at h
        exact fun O' H' cls dx e w' rx => h O' H' cls dx (e12.trans e) w' rx
      | ok d S' =>
        rw [qF] at h
        cases d <;> try exact h.elim
        intro O' H' v e w' rv
        refine ⟨rv, h O' H' _ (e12.trans e) w' ⟨z + 1, e.at (by rw [wf.len]; exact getElem?_snoc _ _), rfl⟩⟩
    refine wpAny_call (make_map (f := fI) I.kIn M.makes M.init (beq_iff_eq.mp M.fn) ?_)
    rw [ha]
    refine codeAny_mono (G.run _ X.stack _ _ ⟨Value.ref (z + 1) :: us, ks.zip ws⟩ (gv (Value.ref (z + 1) :: us) ws) _ _ (E σ) (hr.make C us (ks.zip ws)) gd
      (I2.env0.make C us (ks.zip ws)) (kb.to _ (Value.ref (z + 1) :: us) ws I2.kIn (congrArg Nat.succ l1) l2) (kb.rel rv rz) q) fun r s' hq' => ?_
    cases r with
    | error e => exact px pins _ _ e s' I2 hq'
    | ok fl =>
      cases fl with
      | ret u =>
        obtain ⟨v, H', I3, rv, ev, q3⟩ := I2.after hq'
        subst ev
        exact ⟨rv, ⟨V.ref (z + 1), H', I3, rfl, q3⟩⟩
      | next => exact False.elim hq'
      | brk => exact False.elim hq'
      | cont => exact False.elim hq'
  · rw [if_neg hN] at h; exact h.elim
/-! ### the calls -/
structure DKw (X : Cx) (W : WX) (kws : List Keyword) (f : MA) : Prop where
  pk : PK X kws (tA X.K W f)
section
variable {X : Cx} {W : WX} {x : Str} {p pos kpos : Pos} {e : Expr} {es : List Expr} {kws : List Keyword} {j k n : Nat} {f : Addr} {ks : List Str} {fe : ME} {fa fk : MA} {F : FD} {nm : Option Str}
theorem dk_nil : DKw X W [] aNil := ⟨⟨fun pos pins s σ H Q I ⟨O, ρ, S, st, h⟩ => pk_nil.run pos pins s σ H Q I (After.ok h st rfl)⟩⟩
theorem dk_cons (ha : DE X W e fe) (hr : DKw X W kws fk) : DKw X W (⟨nm, e, kpos⟩ :: kws) (aCons fe fk) :=
  ⟨⟨fun pos pins s σ H Q I ⟨O, ρ, S, st, h⟩ => (pk_cons ha.pe hr.pk).run pos pins s σ H Q I ⟨O, ρ, S, st, After.seq h fun d S1 O1 H1 v e1 st1 r1 h1 => ⟨O1, ρ, S1, st1, After.seq h1 fun d2 S2 O2 H2 u e2 st2 r2 h2 =>
    After.ok h2 st2 ⟨v, u, rfl, r1.mono (e2.w st1.wf), r2⟩⟩⟩⟩⟩
def dCC (n : Nat) (F : FD) (fa : MA) : ME := fun ρ S => (fa ρ S).bind fun ds S1 => if ds.length = n then F ds S1 else .bad
def dCK (n m : Nat) (F : FD) (fa fk : MA) : ME := fun ρ S => (fa ρ S).bind fun ds S1 => (fk ρ S1).bind fun es S2 => if ds.length = n ∧ es.length = m then F (ds ++ es) S2 else .bad
theorem de_cc (C : CalleeX X k f n [] F) (hr : Room j X.A) (gd : X.A.guards = some []) (hg : Gl X x) (hm : X.mg x = some (.ref f)) (hk : PySem.W.keepIn X.K (.ref f) = true) (tk : Takes X W) (ha : DA X W (e :: es) fa) (hj : k ≤ j := by decide)
    (hdb : (x == ("__debug__" : Str)) = false := by decide) (he : starEach (e :: es) X.env = (false, eval e X.env) :: starEach es X.env := by rfl) (hpl : (backTo pos (starEach es X.env)).any (·.1) = false := by rfl) : DE X W (.Call (.Name x p) (e :: es) [] pos) (dCC n F fa) := by
  refine ⟨⟨fun pins s σ H Q I ⟨O, ρ, S, st, h⟩ => ?_⟩⟩
  refine wpAny_Call_Name_kw (ld_glob I hg hm ?_ hdb)
  have hq : tA X.K W fa σ H (fun vs H1 => vs.length = n ∧ spD X.K (n + ([] : List Str).length) F (vs ++ []) H1 Q (WE W σ)) := ⟨O, ρ, S, st, After.seq h fun ds S1 O1 H1 vs e1 st1 r1 h1 => by
    by_cases hl : ds.length = n
    · rw [if_pos hl] at h1
      rw [List.append_nil]
      exact ⟨r1.length.symm.trans hl, sp_of st1 r1 hl h1⟩
    · rw [if_neg hl] at h1; exact h1.elim⟩
  refine PySem.W.callWith_K (h₀ := X.base) I.ok.mod.kin hk (thn (ha.pa.run pos pins s σ H _ I hq) fun us s1 ⟨vs, H1, I1, r, hl, q⟩ => ⟨I1.kIn, ?_⟩) he hpl
  exact C pins σ H1 s1 Q (WE W) us [] vs [] (hr.mono hj) gd (passAt tk σ) I1 r .nil (r.length.symm.trans hl) rfl q
theorem de_cc0 (C : CalleeX X k f 0 [] F) (hr : Room j X.A) (gd : X.A.guards = some []) (hg : Gl X x) (hm : X.mg x = some (.ref f)) (hk : PySem.W.keepIn X.K (.ref f) = true) (tk : Takes X W) (hj : k ≤ j := by decide)
    (hdb : (x == ("__debug__" : Str)) = false := by decide) : DE X W (.Call (.Name x p) [] [] pos) (dCC 0 F aNil) := by
  refine ⟨⟨fun pins s σ H Q I ⟨O, ρ, S, st, h⟩ => ?_⟩⟩
  refine wpAny_Call_Name_kw (ld_glob I hg hm ?_ hdb)
  have h0 : After X.K W (Rep X.K) ρ σ O H Q (F [] S) := h
  exact PySem.W.callWith_K0 I.kIn hk (C pins σ H s Q (WE W) [] [] [] [] (hr.mono hj) gd (passAt tk σ) I .nil .nil rfl rfl (sp_of st (ds := []) rfl rfl h0))
theorem de_ck (C : CalleeX X k f n ks F) (hr : Room j X.A) (gd : X.A.guards = some []) (hg : Gl X x) (hm : X.mg x = some (.ref f)) (hk : PySem.W.keepIn X.K (.ref f) = true) (tk : Takes X W) (ha : DA X W (e :: es) fa) (hkw : DKw X W kws fk) (hj : k ≤ j := by decide)
    (hall : (backToKw pos (keywordEach kws X.env)).all (·.1.isSome) = true := by rfl) (hks : (backToKw pos (keywordEach kws X.env)).filterMap (·.1) = ks := by rfl)
    (hdb : (x == ("__debug__" : Str)) = false := by decide) (he : starEach (e :: es) X.env = (false, eval e X.env) :: starEach es X.env := by rfl)
    (hpl : ((backTo pos (starEach (e :: es) X.env)).any (·.1) || (backToKw pos (keywordEach kws X.env)).any (·.1.isNone)) = false := by rfl) : DE X W (.Call (.Name x p) (e :: es) kws pos) (dCK n ks.length F fa fk) := by
  refine ⟨⟨fun pins s σ H Q I ⟨O, ρ, S, st, h⟩ => ?_⟩⟩
  refine wpAny_Call_Name_kw (ld_glob I hg hm ?_ hdb)
  have hq : tA X.K W fa σ H (fun vs H1 => tA X.K W fk σ H1 fun zs H2 => vs.length = n ∧ zs.length = ks.length ∧ spD X.K (n + ks.length) F (vs ++ zs) H2 Q (WE W σ)) := ⟨O, ρ, S, st, After.seq h fun ds S1 O1 H1 vs e1 st1 r1 h1 => ⟨O1, ρ, S1, st1, After.seq h1 fun es S2 O2 H2 zs e2 st2 r2 h2 => by
    by_cases hl : ds.length = n ∧ es.length = ks.length
    · rw [if_pos hl] at h2
      exact ⟨r1.length.symm.trans hl.1, r2.length.symm.trans hl.2, sp_of st2 ((r1.mono (e2.w st1.wf)).append r2) (by rw [List.length_append, hl.1, hl.2]) h2⟩
    · rw [if_neg hl] at h2; exact h2.elim⟩⟩
  refine PySem.W.callWith_KW (h₀ := X.base) I.ok.mod.kin hk hall (thn (ha.pa.run pos pins s σ H _ I hq) fun us s1 ⟨vs, H1, I1, r, q⟩ => ?_) hpl he
  refine thn (hkw.pk.run pos pins s1 σ H1 _ I1 q) fun ws s2 ⟨zs, H2, I2, rz, l1, l2, q2⟩ => ⟨I2.kIn, ?_⟩
  rw [hks]
  exact C pins σ H2 s2 Q (WE W) us ws vs zs (hr.mono hj) gd (passAt tk σ) I2 r rz (r.length.symm.trans l1) (rz.length.symm.trans l2) q2
end
end DE

set_option maxHeartbeats 4000000
namespace DE
open PySem PySem.Spec PyProof.Rows L2
/-! ### own operators, at the library's level -/
section
variable {prog : Program} {w : World} {A : Around} {E : Value → Shared → Prop} {s : Shared} {K : PySem.W.Frag} {x C f : Addr} {ox : Obj} {od : Option Obj} {v : Value}
theorem own_contains {Q : Bool → Shared → Prop} (kin : K.In s.heap) (I : PySem.W.InstAt s.heap x ox C od) (me : Meth K C "__contains__" f)
    (h : wpAny (model prog w) A (call (.ref f) [.ref x, v]) (fun r s' => wpAny (model prog w) A (truthy r) Q E s') E s) : wpAny (model prog w) A (contains (.ref x) v) Q E s := by
  unfold contains
  have ask := PySem.W.looks_findIn (M := model prog w) kin me.at_
  refine wpAny_holding (wpAny_bind (wpAny_bind (I.type.here (ask.here ?_))))
  rw [if_neg (show ¬ _ from by simp)]
  exact wpAny_bind (PySem.W.unlessNone_K kin I me.at_ me.fn h)
theorem own_item {value slice : Expr} {i : Value} {Q : Value → Shared → Prop} (kin : K.In s.heap) (I : PySem.W.InstAt s.heap x ox C od) (me : Meth K C "__getitem__" f) (fi : PySem.W.fnIn K f = true)
    (h : wpAny (model prog w) A.in1 (call (.ref f) [.ref x, i]) Q E s) (hsl : subscripted slice true (.ref x) i = runValue (.builtin "lifetime.subscript" ⟨[.ref x, i], []⟩) := by with_unfolding_all rfl) :
    wpAny (model prog w) A (subscriptTail value slice (.ref x) i) Q E s := by
  have ask := PySem.W.looks_findIn (M := model prog w) kin me.at_
  unfold PySem.W.fnIn at fi
  cases q : K.lookup f with
  | none => rw [q] at fi; cases fi
  | some o =>
    obtain ⟨oc, odd, dt, osl⟩ := o
    rw [q] at fi
    cases dt <;> try (cases fi)
    unfold subscriptTail getitemInPython
    refine wpAny_bind (wpAny_bind (wpAny_bind (I.type.here (ask.here ?_))))
    refine wpAny_bind (wpAny_load (kin _ _ q) (wpAny_pure ?_))
    dsimp only
    rw [hsl]
    refine wpAny_bind (wpAny_runValue (codeAny_builtin PySem.W.entry_sub ?_))
    unfold Builtin.«lifetime.subscript»
    have run : wpAny (model prog w) A.in1 (callSpecial? (.ref x) "__getitem__" [i]) (fun r s' => ∃ v, r = some v ∧ Q v s') E s := PySem.W.special_fn kin I me.at_ (beq_iff_eq.mp me.fn) (wpAny_mono h (fun v s' z => ⟨v, rfl, z⟩) fun _ _ z => z)
    refine wpAny_bind (wpAny_mono run (fun r s' z => ?_) fun _ _ z => z)
    obtain ⟨v, rfl, z⟩ := z
    exact wpAny_pure (wpAny_bind (wpAny_letTemporaryGo (wpAny_pure z)))
/-- an own operator; the right one is of another type, which has none -/
theorem own_binop {op : Operator} {b t : Value} {Q : Value → Shared → Prop} (kin : K.In s.heap) (I : PySem.W.InstAt s.heap x ox C od) (hb : PySem.W.Looks (model prog w) s.heap (typeOf b) t) (hx : (Value.ref C == t) = true ∨ ((Value.ref C == t) = false ∧ fillsNumberSlot t op.info.2 = pure false))
    (hc : PySem.W.selfFirst K C = true) (me : Meth K C (PySem.dunder op.info.2) f) (h : wpAny (model prog w) A (call (.ref f) [.ref x, b]) (PySem.W.CmpBack Q) E s) : wpAny (model prog w) A (binaryOp op (.ref x) b) Q E s := by
  obtain ⟨cd, hcd, hm⟩ := PySem.W.any_some hc
  have hmro : ∃ rest, cd.mro = .ref C :: rest := by
    cases q : cd.mro with
    | nil => rw [q] at hm; cases hm
    | cons a r =>
      rw [q, List.head?_cons] at hm
      have := beq_iff_eq.mp hm
      cases this
      exact ⟨r, rfl⟩
  obtain ⟨rest, hmro⟩ := hmro
  have fl := PySem.W.fills_K (M := model prog w) kin hcd hmro me.at_
  unfold binaryOp
  refine wpAny_holding (wpAny_bind ?_)
  unfold binaryOp1
  refine wpAny_bind (I.type.here (wpAny_bind (hb.here (wpAny_bind (fl.here ?_)))))
  have run : wpAny (model prog w) A (callSpecial? (.ref x) (PySem.dunder op.info.2) [b]) (fun r s' => ∃ v, r = some v ∧ PySem.W.CmpBack Q v s') E s := PySem.W.special_fn kin I me.at_ (beq_iff_eq.mp me.fn) (wpAny_mono h (fun v s' z => ⟨v, rfl, z⟩) fun _ _ z => z)
  rcases hx with ht | ⟨ht, hr⟩
  · simp only [ht, if_true]
    refine wpAny_bind (wpAny_pure ?_)
    simp only [Bool.and_false, Bool.false_eq_true, if_false, Bool.false_and]
    refine wpAny_bind (wpAny_pure ?_)
    simp only [Bool.false_eq_true, if_false, if_true]
    refine wpAny_bind (m := tryMethod (.ref x) _ b) ?_
    unfold tryMethod
    refine wpAny_bind (wpAny_mono run (fun r s' z => ?_) fun _ _ z => z)
    obtain ⟨v, rfl, hv⟩ := z
    cases v <;> first | exact hv.elim | exact wpAny_pure (wpAny_pure (wpAny_pure hv))
  · simp only [ht, Bool.false_eq_true, if_false]
    refine wpAny_bind (m := fillsNumberSlot t op.info.2) ?_
    rw [hr]
    refine wpAny_pure ?_
    simp only [Bool.and_false, Bool.false_eq_true, if_false, Bool.false_and]
    refine wpAny_bind (wpAny_pure ?_)
    simp only [Bool.false_eq_true, if_false, if_true]
    refine wpAny_bind (m := tryMethod (.ref x) _ b) ?_
    unfold tryMethod
    refine wpAny_bind (wpAny_mono run (fun r s' z => ?_) fun _ _ z => z)
    obtain ⟨v, rfl, hv⟩ := z
    cases v <;> first | exact hv.elim | exact wpAny_pure (wpAny_pure (wpAny_pure hv))
end
end DE

set_option maxHeartbeats 4000000
namespace DE
open PySem PySem.Spec PyProof.Rows L2
/-! ### operators that may run defs, raise -/
def OpS (X : Cx) (f : Value → Value → Sem Value) (r : L2.St → R2) : Prop :=
  ∀ (pins : List (Addr × Obj)) (s : Shared) (σ : L2.St) (H : Hp) (x y : V) (v u : Value) (Q : VK), Inv X pins σ H s → RelV x v → RelV y u → r σ x y H Q → wpAny (model X.prog X.w) X.A (f v u) (EP X pins σ Q) X.xe s
def rOwn (X : Cx) (W : WX) (op : D → D → Sto → RE D) : L2.St → R2 := fun σ x y H Q => ∃ ρ O S d e, Stt X.K O H ρ σ S ∧ Rep X.K O H d x ∧ Rep X.K O H e y ∧ After X.K W (Rep X.K) ρ σ O H Q (op d e S)
section
variable {X : Cx} {W : WX} {a b : Expr} {f g : ME} {pos : Pos} {m c : Str} {j k n : Nat} {F : FD} {tb : List (Str × FD)}
theorem own_imp {o : D → D → Sto → RE D} {σ : L2.St} {H : Hp} {Q : VK} (h : tE X.K W (dBin o f g) σ H Q) : tE X.K W f σ H fun x H1 => tE X.K W g σ H1 fun y H2 => rOwn X W o σ x y H2 Q := by
  obtain ⟨O, ρ, S, st, h⟩ := h
  refine ⟨O, ρ, S, st, After.seq h fun d S1 O1 H1 v e1 st1 r1 h1 => ⟨O1, ρ, S1, st1, After.seq h1 fun d2 S2 O2 H2 u e2 st2 r2 h2 => ?_⟩⟩
  exact ⟨ρ, O2, S2, d, d2, st2, r1.mono (e2.w st1.wf), r2, h2⟩
theorem de_opS {op : Operator} {o : D → D → Sto → RE D} (hr : OpS X (binaryOp op) (rOwn X W o)) (ha : DE X W a f) (hb : DE X W b g) : DE X W (.BinOp a op b pos) (dBin o f g) :=
  ⟨⟨fun pins s σ H Q I h => wpAny_BinOp (binT ha.pe hb.pe I (own_imp h) fun v u s2 x y H2 I2 rx ry q => hr pins s2 σ H2 x y v u Q I2 rx ry q)⟩⟩
theorem de_cmpS {op : CmpOp} {o : D → D → Sto → RE D} (hr : OpS X (compareOp op) (rOwn X W o)) (ha : DE X W a f) (hb : DE X W b g) (hm : behindInMarks op b = false := by first | exact nomark _ | rfl) : DE X W (.Compare a [op] [b] pos) (dBin o f g) :=
  ⟨⟨fun pins s σ H Q I h => wpAny_Compare1 (binT ha.pe hb.pe I (own_imp h) fun v u s2 x y H2 I2 rx ry q => hr pins s2 σ H2 x y v u Q I2 rx ry q) hm⟩⟩
theorem dt_cmpS {op : CmpOp} {o : D → D → Sto → RE D} (hr : OpS X (compareOp op) (rOwn X W o)) (ha : DE X W a f) (hb : DE X W b g) (hm : behindInMarks op b = false := by first | exact nomark _ | rfl) : DT X W (.Compare a [op] [b] pos) (dTest (dBin o f g)) := by
  refine ⟨⟨fun pins s σ H Q I h => ?_⟩⟩
  have h2 : tE X.K W (dBin o f g) σ H fun z H3 => ∃ k, z = V.bl k ∧ Q k H3 := by
    obtain ⟨O, ρ, S, st, h⟩ := h
    refine ⟨O, ρ, S, st, After.seq h fun d S1 O1 H1 v e1 st1 r1 h1 => ?_⟩
    cases d with
    | bl b => exact ⟨b, r1, After.ok h1 st1 rfl⟩
    | _ => exact h1.elim
  refine wpAny_isTrue_Compare1 (binT ha.pe hb.pe I (own_imp h2) fun v u s2 x y H2 I2 rx ry q => thn (hr pins s2 σ H2 x y v u _ I2 rx ry q) fun cc s3 ⟨z, H3, I3, r3, k, e, q3⟩ => ?_) hm
  subst e
  obtain rfl : cc = Value.bool k := r3
  exact wpAny_truthy_bool ⟨H3, I3, q3⟩
/-! the def of an own operator runs -/
theorem inst_of {pins : List (Addr × Obj)} {σ : L2.St} {H : Hp} {s : Shared} {p C dx : Addr} {fs : List (Str × V)} (I : Inv X pins σ H s) (e : H p = some (.ins C dx fs)) : ∃ ox od, PySem.W.InstAt s.heap p ox C (some od) := by
  obtain ⟨mA, O, _, _, _, _⟩ := ins_get I.hok e
  obtain ⟨od, J, _⟩ := O.look
  exact ⟨_, od, J⟩
theorem run_G1 {pins : List (Addr × Obj)} {σ : L2.St} {H : Hp} {s : Shared} {Q : VK} {E : L2.St → XK} {us : List Value} {vs : List V} {p : Addr} {fd : FuncData} {ps : List Str} {sp : Sp} (G : FnGd X.prog X.w X.K X.mg X.base k p fd ps sp) (room : Room (k + 1) X.A) (gd : X.A.guards = some []) (bnd : Binds X.K fd ps [])
    (px : PassesAt (L2.CX X.prog X.w) X σ (E σ)) (I : Inv X pins σ H s) (rel : Vals vs us) (h : sp vs H Q (E σ)) : wpAny (model X.prog X.w) X.A.in1 (call (.ref p) us) (EP X pins σ Q) X.xe s := by
  have hl : (us ++ []).length = ps.length := by rw [List.append_nil, ← rel.length]; exact G.len _ _ _ _ h
  have b := bnd s us I.kIn hl
  rw [List.append_nil] at b
  refine wpAny_call (codeAny_mono (G.run X.A.in1 X.stack s H ⟨us, []⟩ us vs Q (E σ) room.in1 gd I.env0.in1 b rel h) ?_)
  rintro (er | fl) s' z
  · exact px pins H s er s' I z
  · rcases fl with _ | _ | _ | u
    all_goals first
      | exact I.after z
      | exact z.elim
/-- x in o, x not in o -/
def oInO (neg : Bool) (tb : List (Str × FD)) : D → D → Sto → RE D := fun d e S => match objAt S e with
  | some (c, _) => (match tb.lookup c with
    | some F => (F [e, d] S).bind fun r S1 => (match r with
      | .bl b => .ok (.bl (b != neg)) S1
      | _ => .bad)
    | none => .bad)
  | none => .bad
theorem own_run2 (T : MTab X j m 2 tb) (hr : Room j X.A) (gd : X.A.guards = some []) (tk : Takes X W) {pins : List (Addr × Obj)} {s : Shared} {σ : L2.St} {H : Hp} {x y : V} {v u : Value} {Q : VK} {ρ : DE.Env} {O : Ow} {S : Sto} {d e : D} {fs : List (Str × D)} {F : FD}
    (I : Inv X pins σ H s) (rx : RelV x v) (ry : RelV y u) (st : Stt X.K O H ρ σ S) (r1 : Rep X.K O H d x) (r2 : Rep X.K O H e y) (q : objAt S e = some (c, fs)) (q2 : tb.lookup c = some F) (h : After X.K W (Rep X.K) ρ σ O H Q (F [e, d] S)) :
    ∃ a dx vs ox od, y = .ref a ∧ u = .ref a ∧ H a = some (.ins (He.ga X.K c) dx vs) ∧ PySem.W.InstAt s.heap a ox (He.ga X.K c) (some od) ∧ Meth X.K (He.ga X.K c) m (He.ma X.K (He.ga X.K c) m) ∧
      wpAny (model X.prog X.w) X.A (call (.ref (He.ma X.K (He.ga X.K c) m)) [.ref a, v]) (EP X pins σ Q) X.xe s := by
  obtain ⟨a, dx, vs, rfl, ha, rf⟩ := objAt_rep st q r2
  obtain rfl : u = Value.ref a := ry
  obtain ⟨ox, od, J⟩ := inst_of I ha
  obtain ⟨fn, me, cl⟩ := T c F q2
  obtain ⟨fd, ps, g, b⟩ := fn.ok
  exact ⟨a, dx, vs, ox, od, rfl, rfl, ha, J, me, run_G (us := [Value.ref a, v]) (vs := [V.ref a, x]) g hr gd b (passAt tk σ) I (.cons rfl (.cons rx .nil)) (sp_of (ds := [e, d]) st ⟨_, _, rfl, r2, _, _, rfl, r1, rfl⟩ rfl h)⟩
theorem op_inO (T : MTab X j "__contains__" 2 tb) (hr : Room j X.A) (gd : X.A.guards = some []) (tk : Takes X W) : OpS X (compareOp .In) (rOwn X W (oInO false tb)) := by
  intro pins s σ H x y v u Q I rx ry ⟨ρ, O, S, d, e, st, r1, r2, h⟩
  unfold oInO at h
  cases q : objAt S e with
  | none => simp only [q] at h; exact h.elim
  | some z =>
    obtain ⟨c, fs⟩ := z
    simp only [q] at h
    cases q2 : tb.lookup c with
    | none => simp only [q2] at h; exact h.elim
    | some F =>
      simp only [q2] at h
      have h2 : After X.K W (Rep X.K) ρ σ O H (fun z H3 => ∃ k, z = V.bl k ∧ Q (.bl k) H3) (F [e, d] S) := After.seq h fun r S1 O1 H1 w e1 st1 rr h1 => by
        cases r <;> try exact h1.elim
        rename_i b
        cases b
        · exact ⟨_, rr, After.ok h1 st1 rfl⟩
        · exact ⟨_, rr, After.ok h1 st1 rfl⟩
      obtain ⟨a, dx, vs, ox, od, rfl, rfl, ha, J, me, run⟩ := own_run2 T hr gd tk I rx ry st r1 r2 q q2 h2
      refine wpAny_bind (own_contains I.kIn J me (wpAny_mono run (fun r s' z => ?_) fun _ _ z => z))
      obtain ⟨z, H3, I3, r3, k, rfl, q3⟩ := z
      obtain rfl : r = Value.bool k := r3
      exact wpAny_truthy_bool (wpAny_pure ⟨.bl k, H3, I3, rfl, q3⟩)
theorem op_notInO (T : MTab X j "__contains__" 2 tb) (hr : Room j X.A) (gd : X.A.guards = some []) (tk : Takes X W) : OpS X (compareOp .NotIn) (rOwn X W (oInO true tb)) := by
  intro pins s σ H x y v u Q I rx ry ⟨ρ, O, S, d, e, st, r1, r2, h⟩
  unfold oInO at h
  cases q : objAt S e with
  | none => simp only [q] at h; exact h.elim
  | some z =>
    obtain ⟨c, fs⟩ := z
    simp only [q] at h
    cases q2 : tb.lookup c with
    | none => simp only [q2] at h; exact h.elim
    | some F =>
      simp only [q2] at h
      have h2 : After X.K W (Rep X.K) ρ σ O H (fun z H3 => ∃ k, z = V.bl k ∧ Q (.bl (!k)) H3) (F [e, d] S) := After.seq h fun r S1 O1 H1 w e1 st1 rr h1 => by
        cases r <;> try exact h1.elim
        rename_i b
        cases b
        · exact ⟨_, rr, After.ok h1 st1 rfl⟩
        · exact ⟨_, rr, After.ok h1 st1 rfl⟩
      obtain ⟨a, dx, vs, ox, od, rfl, rfl, ha, J, me, run⟩ := own_run2 T hr gd tk I rx ry st r1 r2 q q2 h2
      refine wpAny_bind (own_contains I.kIn J me (wpAny_mono run (fun r s' z => ?_) fun _ _ z => z))
      obtain ⟨z, H3, I3, r3, k, rfl, q3⟩ := z
      obtain rfl : r = Value.bool k := r3
      exact wpAny_truthy_bool (wpAny_pure ⟨.bl (!k), H3, I3, rfl, q3⟩)
/-- o[i] -/
def oIxO (tb : List (Str × FD)) : D → D → Sto → RE D := fun e d S => match objAt S e with
  | some (c, _) => (match tb.lookup c with
    | some F => F [e, d] S
    | none => .bad)
  | none => .bad
theorem de_ixO (T : MTab X j "__getitem__" 2 tb) (fi : ∀ c F, tb.lookup c = some F → PySem.W.fnIn X.K (He.ma X.K (He.ga X.K c) "__getitem__") = true) (hr : Room (j + 1) X.A) (gd : X.A.guards = some []) (tk : Takes X W) (ha : DE X W a f) (hb : DE X W b g)
    (hsl : ∀ (x : Addr) (i : Value), subscripted b true (.ref x) i = runValue (.builtin "lifetime.subscript" ⟨[.ref x, i], []⟩) := by intro _ _; with_unfolding_all rfl) : DE X W (.Subscript a b pos) (dBin (oIxO tb) f g) := by
  refine ⟨⟨fun pins s σ H Q I h => Subscript_ (binT ha.pe hb.pe I (own_imp h) fun v u s2 x y H2 I2 rx ry q => ?_)⟩⟩
  obtain ⟨ρ, O, S, e, d, st, r1, r2, h⟩ := q
  unfold oIxO at h
  cases q : objAt S e with
  | none => simp only [q] at h; exact h.elim
  | some z =>
    obtain ⟨c, fs⟩ := z
    simp only [q] at h
    cases q2 : tb.lookup c with
    | none => simp only [q2] at h; exact h.elim
    | some F =>
      simp only [q2] at h
      obtain ⟨p, dx, vs, rfl, hp, rf⟩ := objAt_rep st q r1
      obtain rfl : v = Value.ref p := rx
      obtain ⟨ox, od, J⟩ := inst_of I2 hp
      obtain ⟨fn, me, cl⟩ := T c F q2
      obtain ⟨fd, ps, gg, bb⟩ := fn.ok
      exact own_item I2.kIn J me (fi c F q2) (run_G1 (us := [Value.ref p, u]) (vs := [V.ref p, y]) gg hr gd bb (passAt tk σ) I2 (.cons rfl (.cons ry .nil)) (sp_of (ds := [e, d]) st ⟨_, _, rfl, r1, _, _, rfl, r2, rfl⟩ rfl h)) (hsl p u)
/-! o op x -/
/-- the right one: T tells its type -/
def oBinO (ok : Sto → D → Bool) (tb : List (Str × FD)) : D → D → Sto → RE D := fun e d S => match objAt S e with
  | some (c, _) => (match tb.lookup c with
    | some F => if ok S d = true then (F [e, d] S).bind fun r S1 => (match r with
      | .glo _ => .bad
      | .ty _ => .bad
      | r => .ok r S1) else .bad
    | none => .bad)
  | none => .bad
theorem not_ni {v : V} {u : Value} (h : RelV v u) : u ≠ .notImplemented := by
  cases v with
  | non => cases (show u = _ from h); exact fun z => nomatch z
  | bl b => cases (show u = _ from h); exact fun z => nomatch z
  | int i => obtain ⟨t, rfl⟩ := (show ∃ t, u = Value.int i t from h); exact fun z => nomatch z
  | str i => obtain ⟨t, rfl⟩ := (show ∃ t, u = Value.str i t from h); exact fun z => nomatch z
  | byt i => obtain ⟨t, rfl⟩ := (show ∃ t, u = Value.bytes i t from h); exact fun z => nomatch z
  | flt i => obtain ⟨t, rfl⟩ := (show ∃ t, u = Value.float i t from h); exact fun z => nomatch z
  | ref a => cases (show u = _ from h); exact fun z => nomatch z
  | ty n => cases (show u = _ from h); exact fun z => nomatch z
theorem cmpBack {Q : Value → Shared → Prop} {u : Value} {s : Shared} (h : u ≠ .notImplemented) (q : Q u s) : PySem.W.CmpBack Q u s := by
  unfold PySem.W.CmpBack
  cases u <;> first | exact absurd rfl h | exact q
end
end DE

set_option maxHeartbeats 4000000
namespace DE
open PySem PySem.Spec PyProof.Rows L2
theorem nf_list_sub : fillsNumberSlot (.type "list") "sub" = pure false := by kernel_rfl
theorem nf_tuple_sub : fillsNumberSlot (.type "tuple") "sub" = pure false := by kernel_rfl
theorem nf_tuple_rshift : fillsNumberSlot (.type "tuple") "rshift" = pure false := by kernel_rfl
section
variable {X : Cx} {W : WX} {a b o : Expr} {f g : ME} {pos : Pos} {m c fld : Str} {j k n : Nat} {F : FD} {tb : List (Str × FD)}
/-- o op x: the right one is of a type of ts, or of o's class -/
def oBin2 (ts : List String) (tb : List (Str × FD)) : D → D → Sto → RE D := fun e d S => match objAt S e with
  | some (c, _) => (match tb.lookup c with
    | some F => if (match tyName d with
        | some t => decide (t ∈ ts)
        | none => (match objAt S d with
          | some (c2, _) => decide (c2 = c)
          | none => false)) = true then F [e, d] S else .bad
    | none => .bad)
  | none => .bad
theorem op_bin2 {op : Operator} {ts : List String} (hm : PySem.dunder op.info.2 = m) (hts : ∀ t ∈ ts, fillsNumberSlot (.type t) op.info.2 = pure false) (hs : ∀ c F, tb.lookup c = some F → PySem.W.selfFirst X.K (He.ga X.K c) = true) (T : MTab X j m 2 tb) (hr : Room j X.A)
    (gd : X.A.guards = some []) (tk : Takes X W) : OpS X (binaryOp op) (rOwn X W (oBin2 ts tb)) := by
  subst hm
  intro pins s σ H x y v u Q I rx ry ⟨ρ, O, S, e, d, st, r1, r2, h⟩
  unfold oBin2 at h
  cases q : objAt S e with
  | none => simp only [q] at h; exact h.elim
  | some z =>
    obtain ⟨c, fs⟩ := z
    simp only [q] at h
    cases q2 : tb.lookup c with
    | none => simp only [q2] at h; exact h.elim
    | some F =>
      simp only [q2] at h
      obtain ⟨hc, h⟩ := After.ite h
      obtain ⟨p, dx, vs, rfl, hp, rf⟩ := objAt_rep st q r1
      obtain rfl : v = Value.ref p := rx
      obtain ⟨ox, od, J⟩ := inst_of I hp
      obtain ⟨fn, me, cl⟩ := T c F q2
      obtain ⟨fd, ps, gg, bb⟩ := fn.ok
      have run := run_G (us := [Value.ref p, u]) (vs := [V.ref p, y]) gg hr gd bb (passAt tk σ) I (.cons rfl (.cons ry .nil)) (sp_of (ds := [e, d]) st ⟨_, _, rfl, r1, _, _, rfl, r2, rfl⟩ rfl h)
      have run2 : wpAny (model X.prog X.w) X.A (call (.ref (He.ma X.K (He.ga X.K c) (PySem.dunder op.info.2))) [Value.ref p, u]) (PySem.W.CmpBack (EP X pins σ Q)) X.xe s := wpAny_mono run (fun r s' z => by
        obtain ⟨w, H3, I3, rv, q3⟩ := z
        exact cmpBack (not_ni rv) ⟨w, H3, I3, rv, q3⟩) fun _ _ z => z
      have key : ∃ t, PySem.W.Looks (model X.prog X.w) s.heap (typeOf u) t ∧ ((Value.ref (He.ga X.K c) == t) = true ∨ ((Value.ref (He.ga X.K c) == t) = false ∧ fillsNumberSlot t op.info.2 = pure false)) := by
        cases qt : tyName d with
        | some t =>
          rw [qt] at hc
          obtain ⟨P, kx, hP, _⟩ := kit_of I ry (tyName_rep qt r2)
          exact ⟨.type t, kx.ty _ _ I.kIn hP, .inr ⟨rfl, hts t (of_decide_eq_true hc)⟩⟩
        | none =>
          rw [qt] at hc
          cases qo : objAt S d with
          | none => rw [qo] at hc; cases hc
          | some z =>
            obtain ⟨c2, fs2⟩ := z
            rw [qo] at hc
            obtain rfl := of_decide_eq_true hc
            obtain ⟨p2, dx2, vs2, rfl, hp2, _⟩ := objAt_rep st qo r2
            obtain rfl : u = Value.ref p2 := ry
            obtain ⟨ox2, od2, J2⟩ := inst_of I hp2
            exact ⟨_, J2.type, .inl (beq_self_eq_true _)⟩
      obtain ⟨t, lt, hx⟩ := key
      exact own_binop I.kIn J lt hx (hs c F q2) me run2
/-! ### properties -/
structure PropA (P : Program) (w : World) (K : PySem.W.Frag) (mg : Str → Option Value) (base : Heap) (k : Nat) (c f : Str) (F : FD) : Prop where
  ex : ∃ p g, PropOf K (He.ga K c) f p g ∧ FnA P w K mg base k g 1 F
  cl : Cls K (He.ga K c)
def PTab (X : Cx) (j : Nat) (f : Str) (tb : List (Str × FD)) : Prop := ∀ c F, tb.lookup c = some F → PropA X.prog X.w X.K X.mg X.base j c f F
theorem pt_nil' : PTab X j fld [] := fun c F h => by cases h
theorem pt_cons' (G : PropA X.prog X.w X.K X.mg X.base k c fld F) (T : PTab X j fld tb) (h : k ≤ j := by decide) : PTab X j fld ((c, F) :: tb) := fun c' F' e => by
  rw [List.lookup_cons] at e
  cases q : c' == c with
  | true =>
    rw [q] at e
    cases e
    rw [eq_of_beq q]
    obtain ⟨p, g, h1, h2⟩ := G.ex
    exact ⟨⟨p, g, h1, h2.mono h⟩, G.cl⟩
  | false => rw [q] at e; exact T c' F' e
/-- o.f, a property; it raises nothing -/
def dProp (f : Str) (tb : List (Str × FD)) (fo : ME) : ME := fun ρ S => (fo ρ S).bind fun d S1 => match objAt S1 d with
  | some (c, _) => (match tb.lookup c with
    | some F => (match F [d] S1 with
      | .ok r S2 => .ok r S2
      | _ => .bad)
    | none => .bad)
  | none => .bad
theorem de_prop (ho : DE X W o f) (T : PTab X j fld tb) (hr : Room (j + 1) X.A) (gd : X.A.guards = some []) (hb : attributeBase o fld X.env (eval o X.env) = eval o X.env := by rfl) : DE X W (.Attribute o fld pos) (dProp fld tb f) := by
  refine ⟨⟨fun pins s σ H Q I ⟨O, ρ, S, st, h⟩ => ?_⟩⟩
  have h2 : tE X.K W f σ H fun x H1 => ∃ c F a dx vs, x = V.ref a ∧ H1 a = some (.ins (He.ga X.K c) dx vs) ∧ tb.lookup c = some F ∧ spD X.K 1 F [.ref a] H1 Q (fun _ _ _ => False) := ⟨O, ρ, S, st, After.seq h fun d S1 O1 H1 v e1 st1 r1 h1 => by
    cases q : objAt S1 d with
    | none => simp only [q] at h1; exact h1.elim
    | some z =>
      obtain ⟨c, fs⟩ := z
      simp only [q] at h1
      cases q2 : tb.lookup c with
      | none => simp only [q2] at h1; exact h1.elim
      | some F =>
        simp only [q2] at h1
        obtain ⟨p, dx, vs, rfl, hp, rf⟩ := objAt_rep st1 q r1
        refine ⟨c, F, p, dx, vs, rfl, hp, q2, O1, S1, [d], st1.wf, ⟨_, _, rfl, r1, rfl⟩, rfl, ?_⟩
        cases qF : F [d] S1 with
        | ok r S2 => rw [qF] at h1; exact fun O' H' v e wf r => h1 O' H' v e ⟨wf, st1.env.mono (e.w st1.wf)⟩ r
        | exc x S2 => rw [qF] at h1; exact h1.elim
        | bad => rw [qF] at h1; exact h1.elim⟩
  refine attr_of hb (thn (ho.pe.run pins s σ H _ I h2) fun u s1 ⟨x, H1, I1, rx, c, F, a, dx, vs, ex, ea, ec, q⟩ => ?_)
  subst ex
  obtain rfl : u = Value.ref a := rx
  obtain ⟨⟨p, gt, hp, fn⟩, cl⟩ := T c F ec
  obtain ⟨fd, ps, gg, bb⟩ := fn.ok
  obtain ⟨ox, od, J⟩ := inst_of I1 ea
  obtain ⟨rest, hrec⟩ := hp.rec_
  have I2 := I1.tok (s1.toks + 1)
  have hc : (PySem.W.clsIn X.K (He.ga X.K c)).isSome = true := by
    obtain ⟨cd, hc, _⟩ := PySem.W.any_some cl.hd
    rw [hc]; rfl
  have hl : ([Value.ref a] ++ []).length = ps.length := by rw [← gg.len _ _ _ _ q]; rfl
  have bd := bb { s1 with toks := s1.toks + 1 } [.ref a] I2.kIn hl
  refine PySem.W.get_bind I1.kIn J (PySem.W.plainGet_of (cl.get fld)).1 (PySem.W.findObj_data hc hp.at_ hp.get hp.tak) (PySem.W.plainGet_of (cl.get fld)).2 (wpAny_call (PySem.W.prop_get (s := { s1 with toks := s1.toks + 1 }) I1.kIn hrec ?_))
  refine codeAny_mono (gg.run X.A.in1 X.stack { s1 with toks := s1.toks + 1 } H1 ⟨[.ref a], []⟩ [.ref a] [.ref a] Q _ hr.in1 gd I2.env0.in1 bd (.cons rfl .nil) q) ?_
  rintro (er | fl) s' z
  · exact False.elim (passL (X := X.nox) pins σ H1 _ er s' (I2.wish _) z)
  · rcases fl with _ | _ | _ | u2
    all_goals first
      | exact z.elim
      | skip
    obtain ⟨v, H', I3, rv, q3⟩ := I2.after z
    show wpAny _ _ (handedOut u2) _ _ _
    rw [PySem.W.handedOut_of (handed_of rv)]
    exact wpAny_pure ⟨v, H', I3, rv, q3⟩
end
end DE

set_option maxHeartbeats 4000000
namespace DE
open PySem PySem.Spec PyProof.Rows L2
section
variable {X : Cx} {W : WX} {o a b c e : Expr} {f g : ME} {fa : MA} {es : List Expr} {apos pos : Pos}
/-! ### o.f += e, ints -/
def sFldAug (f : Str) (cs : List Str) (fo fe : ME) : MS := fun ρ S => (fo ρ S).stm ρ fun ob S1 => match ob with
  | .own k => (match S1[k]? with
    | some (.obj c fs) => if c ∈ cs then (match fs.lookup f with
      | some (.int i) => (fe ρ S1).stm ρ fun y S2 => (match y, S2[k]? with
        | .int j, some (.obj c2 fs2) => if c2 = c ∧ fs2.length < 1000 then .nx ρ (S2.set k (.obj c2 (putD f (.int (i + j)) fs2))) else .bad
        | _, _ => .bad)
      | _ => .bad) else .bad
    | _ => .bad)
  | _ => .bad
theorem ds_fldAug {fo fe : ME} {fld : Str} {cs : List Str} {tpos : Pos} (ho : DE X W o fo) (he : DE X W e fe) (hc : ∀ c ∈ cs, Cls X.K (He.ga X.K c) ∧ NoAttr X.K (He.ga X.K c) fld) :
    DS X W (.AugAssign (.Attribute o fld tpos) .Add e pos) (sFldAug fld cs fo fe) := by
  refine ⟨PS.imp (ps_fldaug ho.pe he.pe in_add) fun D' σ H ⟨O, ρ, S, st, h⟩ => ⟨O, ρ, S, st, AfterS.seqE h fun ob S1 O1 H1 u e1 st1 r1 h1 => ?_⟩⟩
  cases ob <;> try exact h1.elim
  rename_i k
  simp only at h1
  cases q : S1[k]? with
  | none => simp only [q] at h1; exact h1.elim
  | some d0 =>
    simp only [q] at h1
    cases d0 <;> try exact h1.elim
    rename_i c fs
    simp only at h1
    by_cases hm : c ∈ cs
    · rw [if_pos hm] at h1
      obtain ⟨a, ha, rfl⟩ := r1
      obtain ⟨dx, vs, hx, rf⟩ := st1.wf.cell k a _ ha q
      cases q2 : fs.lookup fld with
      | none => simp only [q2] at h1; exact h1.elim
      | some d2 =>
        simp only [q2] at h1
        cases d2 <;> try exact h1.elim
        rename_i i
        obtain ⟨u, hu, ru⟩ := repF_lookup rf q2
        cases (show u = _ from ru)
        refine ⟨a, _, dx, vs, _, rfl, hx, (hc c hm).1, (hc c hm).2, hu, O1, ρ, S1, st1, AfterS.seqE h1 fun y S2 O2 H2 w e2 st2 r2 h2 => ?_⟩
        cases y <;> try exact h2.elim
        rename_i j
        cases q3 : S2[k]? with
        | none => simp only [q3] at h2; exact h2.elim
        | some d3 =>
          simp only [q3] at h2
          cases d3 <;> try exact h2.elim
          rename_i c2 fs2
          simp only at h2
          by_cases hm2 : c2 = c ∧ fs2.length < 1000
          · rw [if_pos hm2] at h2
            obtain ⟨rfl, hl⟩ := hm2
            have ha2 := e2.at ha
            obtain ⟨dx2, vs2, hx2, rf2⟩ := st2.wf.cell k a _ ha2 q3
            cases (show w = _ from r2)
            refine ⟨i, j, rfl, rfl, dx2, vs2, hx2, by rw [← RepF.length rf2]; exact hl, ?_⟩
            obtain ⟨e3, st3⟩ := st2.mut (o := .ins (He.ga X.K c2) dx2 (putF fld (.int (i + j)) vs2)) (d := .obj c2 (putD fld (.int (i + j)) fs2)) ha2 fun e => ⟨dx2, _, upd_same, RepF.mono (e.w st2.wf) (RepF.put (show Rep X.K O2 H2 (.int (i + j)) (.int (i + j)) from rfl) rf2)⟩
            exact h2 O2 _ σ e3 st3
          · rw [if_neg hm2] at h2; exact h2.elim
    · rw [if_neg hm] at h1; exact h1.elim
/-! ### a test that stores a name: nx where it holds, bk where not -/
def wD (K : PySem.W.Frag) (W : WX) (t : MS) : TTw := fun σ H Q => ∃ O ρ S, Stt K O H ρ σ S ∧ AfterS K W { nx := Q true, rt := fun _ _ => False, bk := Q false, ct := fun _ _ => False } O H (t ρ S)
structure DTW (X : Cx) (W : WX) (c : Expr) (t : MS) : Prop where
  ptw : PTw X c (wD X.K W t)
theorem PTw.imp {t t' : TTw} (h : PTw X c t) (k : ∀ σ H Q, t' σ H Q → t σ H Q) : PTw X c t' := ⟨fun pins s σ H Q I q => h.run pins s σ H Q I (k σ H Q q)⟩
def mWal (i : Nat) (op : D → D → Sto → RE D) (fe ff : ME) : MS := fun ρ S => (fe ρ S).stm ρ fun d S1 => (ff (ρ.set i (some d)) S1).stm (ρ.set i (some d)) fun e S2 => (op d e S2).stm (ρ.set i (some d)) fun z S3 => match z with
  | .bl true => .nx (ρ.set i (some d)) S3
  | .bl false => .bk (ρ.set i (some d)) S3
  | _ => .bad
theorem dtw_cmp {op : CmpOp} {od : D → D → Sto → RE D} {x : Str} {p npos : Pos} {ff fe : ME} (i : Nat) (ho : OpR X (compareOp op) (RD X.K od)) (hN : X.N.Nodup) (hi : X.N[i]? = some x) (hx : Loc X.env.scope x) (he : DE X W e fe) (hb : DE X W b ff) (hm : behindInMarks op b = false := by first | exact nomark _ | rfl)
    (hf : X.fn x = true ∨ X.env.scope.names.lookup x = some .local := by first | exact .inl rfl | exact .inr rfl | assumption) :
    DTW X W (.Compare (.NamedExpr (.Name x p) e npos) [op] [b] pos) (mWal i od fe ff) :=
  ⟨PTw.imp (ptw_cmp ho (pew_named hN hi hx (pew_of he.pe) hf) hb.pe hm) fun σ H Q ⟨O, ρ, S, st, h⟩ => ⟨O, ρ, S, st, AfterS.seqE h fun d S1 O1 H1 v e1 st1 r1 h1 =>
    ⟨O1, ρ.set i (some d), S1, ⟨st1.wf, st1.env.set r1 i⟩, AfterS.seqE h1 fun y S2 O2 H2 u e2 st2 r2 h2 => ⟨W, ρ.set i (some d), _, O2, S2, d, y, st2, r1.mono (e2.w st1.wf), r2, AfterS.seqE h2 fun z S3 O3 H3 t e3 st3 r3 h3 => by
      cases z <;> try exact h3.elim
      rename_i k
      cases (show t = _ from r3)
      cases k with
      | true => exact ⟨true, rfl, h3 O3 H3 _ .refl st3⟩
      | false => exact ⟨false, rfl, h3 O3 H3 _ .refl st3⟩⟩⟩⟩⟩
def mAndW (t : MS) (g : MT) : MS := fun ρ S => match t ρ S with
  | .nx ρ1 S1 => (g ρ1 S1).stm ρ1 fun c S2 => if c = true then .nx ρ1 S2 else .bk ρ1 S2
  | r => r
def tAndW (ta : TTw) (tb : TT) : TTw := fun σ H Q => ta σ H fun c σ1 H1 => if c = true then tb σ1 H1 fun d H2 => Q d σ1 H2 else Q false σ1 H1
theorem ptw_and {ta : TTw} {tb : TT} (ha : PTw X a ta) (hb : PT X b tb) : PTw X (.BoolOp .And [a, b] pos) (tAndW ta tb) := ⟨fun pins s σ H Q I h => by
  refine isTrue_and (thn (ha.run pins s σ H _ I h) fun c s1 ⟨σ1, H1, I1, q1⟩ => ?_)
  cases c with
  | true =>
    rw [if_pos rfl] at q1
    refine isTrue_and (thn (hb.run pins s1 σ1 H1 _ I1 q1) fun d s2 ⟨H2, I2, q2⟩ => ?_)
    cases d with
    | true => exact isTrue_and_nil ⟨σ1, H2, I2, q2⟩
    | false => exact ⟨σ1, H2, I2, q2⟩
  | false =>
    rw [if_neg (by simp)] at q1
    exact ⟨σ1, H1, I1, q1⟩⟩
theorem dtw_and {t : MS} {g : MT} (ha : DTW X W a t) (hb : DT X W b g) : DTW X W (.BoolOp .And [a, b] pos) (mAndW t g) :=
  ⟨PTw.imp (ptw_and ha.ptw hb.pt) fun σ H Q ⟨O, ρ, S, st, h⟩ => ⟨O, ρ, S, st, by
    unfold mAndW at h
    cases q : t ρ S with
    | nx ρ1 S1 =>
      rw [q] at h
      intro O1 H1 σ1 e1 st1
      dsimp only
      rw [if_pos rfl]
      refine ⟨O1, ρ1, S1, st1, AfterS.seqE (h.mono e1) fun d S2 O2 H2 v e2 st2 r2 h2 => ?_⟩
      cases (show d = v from r2)
      cases d with
      | true => exact h2 O2 H2 σ1 .refl st2
      | false => exact h2 O2 H2 σ1 .refl st2
    | bk ρ1 S1 =>
      rw [q] at h
      intro O1 H1 σ1 e1 st1
      dsimp only
      rw [if_neg (show ¬ (false = true) from Bool.false_ne_true)]
      exact h O1 H1 σ1 e1 st1
    | ct ρ1 S1 => rw [q] at h; exact h
    | rt d S1 => rw [q] at h; exact h
    | exc y ρ1 S1 => rw [q] at h; exact h
    | bad => rw [q] at h; exact h⟩⟩
/-- while over such a test, n turns at the most -/
def whileW (t : MS) (b : MS) : Nat → MS
  | 0 => fun _ _ => .bad
  | n + 1 => fun ρ S => match t ρ S with
    | .nx ρ1 S1 => (match b ρ1 S1 with
      | .nx ρ2 S2 => whileW t b n ρ2 S2
      | .ct ρ2 S2 => whileW t b n ρ2 S2
      | .bk ρ2 S2 => .nx ρ2 S2
      | r => r)
    | .bk ρ1 S1 => .nx ρ1 S1
    | .exc y ρ1 S1 => .exc y ρ1 S1
    | _ => .bad
theorem ds_whileW {body : List Stmt} {t F : MS} (n : Nat) (hp : PassesOwn (model X.prog X.w) X.A X.env X.xe) (hc : DTW X W c t) (hb : DSs X W body F) : DS X W (.While c body [] pos) (whileW t F n) :=
  ⟨PS.imp (ps_whileW hp hc.ptw hb.pss pss_nil) fun D' σ H ⟨O, ρ, S, st, h⟩ => by
    refine ⟨fun m σ2 H2 => ∃ O2 ρ2 S2, Ext O H O2 H2 ∧ Stt X.K O2 H2 ρ2 σ2 S2 ∧ AfterS X.K W D' O2 H2 (whileW t F m ρ2 S2), ⟨n, O, ρ, S, .refl, st, h⟩, ?_⟩
    rintro m σ2 H2 ⟨O2, ρ2, S2, e2, st2, h2⟩
    cases m with
    | zero => exact h2.elim
    | succ m =>
      refine ⟨O2, ρ2, S2, st2, ?_⟩
      unfold whileW at h2
      cases q : t ρ2 S2 with
      | nx ρ3 S3 =>
        simp only [q] at h2
        intro O3 H3 σ3 e3 st3
        dsimp only
        rw [if_pos rfl]
        refine ⟨fun σ4 H4 => ∃ O4 ρ4 S4, Ext O H O4 H4 ∧ Stt X.K O4 H4 ρ4 σ4 S4 ∧ AfterS X.K W D' O4 H4 (whileW t F m ρ4 S4), fun σ4 H4 z => ⟨m, Nat.lt_succ_self _, z⟩, O3, ρ3, S3, st3, ?_⟩
        have h3 := h2.mono e3
        cases q2 : F ρ3 S3 with
        | nx ρ5 S5 => simp only [q2] at h3; exact fun O' H5 σ5 e5 st5 => ⟨O', ρ5, S5, (e2.trans e3).trans e5, st5, AfterS.mono h3 e5⟩
        | ct ρ5 S5 => simp only [q2] at h3; exact fun O' H5 σ5 e5 st5 => ⟨O', ρ5, S5, (e2.trans e3).trans e5, st5, AfterS.mono h3 e5⟩
        | bk ρ5 S5 => simp only [q2] at h3; exact fun O' H5 σ5 e5 st5 => h3 O' H5 σ5 e5 st5
        | rt d5 S5 => simp only [q2] at h3; exact h3
        | exc x5 ρ5 S5 => simp only [q2] at h3; exact h3
        | bad => simp only [q2] at h3; exact h3
      | bk ρ3 S3 =>
        simp only [q] at h2
        intro O3 H3 σ3 e3 st3
        dsimp only
        rw [if_neg (show ¬ (false = true) from Bool.false_ne_true)]
        exact h2 O3 H3 σ3 e3 st3
      | exc y ρ3 S3 => simp only [q] at h2; exact h2
      | ct ρ3 S3 => simp only [q] at h2; exact h2.elim
      | rt d S3 => simp only [q] at h2; exact h2.elim
      | bad => simp only [q] at h2; exact h2.elim⟩
/-! ### try .. except C: .. -/
def noexc : RS → RS
  | .exc _ _ _ => .bad
  | r => r
theorem AfterS.noexc {K : PySem.W.Frag} {D' : Ends} {O : Ow} {H : Hp} {r : RS} (h : AfterS K W D' O H (DE.noexc r)) : AfterS K W0 D' O H r := by
  cases r with
  | exc y ρ S => exact h.elim
  | bad => exact h
  | nx ρ S => exact h
  | rt d S => exact h
  | bk ρ S => exact h
  | ct ρ S => exact h
def sTryN (fb : MS) (cl : Str → Option Bool) (hm : MS) : MS := fun ρ S => match fb ρ S with
  | .exc x ρ1 S1 => (match cl x.c with
    | none => .bad
    | some true => noexc (hm ρ1 S1)
    | some false => .exc x ρ1 S1)
  | r => r
def tHn0 (K : PySem.W.Frag) (hm : MS) (a : Addr) (cls : Value) (d : Option Addr) : TS := fun D' σ H => ∃ (O : Ow) (ρ : DE.Env) (S : Sto), Stt K O H ρ σ S ∧ AfterS K W0 D' O H (hm ρ S)
theorem ds_tryN {body suite : List Stmt} {b₀ : Stmt} {x : Str} {np pos' : Pos} {fb : MS} {cl : Str → Option Bool} {hm : MS} (hs : X.stack = X.env :: X.outer) (hf : X.env.frame = some X.env.locals)
    (hx : Names X x (.ref (He.ga X.K x))) (tk : Takes X W) (hcl : ∀ c b, cl c = some b → PySem.W.exmOne X.K (.ref (He.ga X.K c)) (.ref (He.ga X.K x)) = some b)
    (hb : ∀ (W' : WX) (pn : List (Addr × Obj)) (xe : Value → Shared → Prop), Takes (X.tr pn xe) W' → PassesOwn (model X.prog X.w) X.A X.env xe → DSs (X.tr pn xe) W' body fb)
    (hh : ∀ (a : Addr) (oe : Obj) (pn : List (Addr × Obj)), DSs (X.suite a ((a, oe) :: pn)) W0 (b₀ :: suite) hm) :
    DS X W (.Try body [.ExceptHandler (some (.Name x np)) none (b₀ :: suite) pos'] [] [] pos) (sTryN fb cl hm) := by
  refine ⟨PS.imp (ps_try_only (tb := fun W' => tS X.K W' fb) (ts := tHn0 X.K hm) hs hf hx tk (fun W' pn xe t p => (hb W' pn xe t p).pss) fun a oe cls d pn hz hd => ⟨?_⟩) ?_⟩
  · rintro pins s σ H D' I ⟨O, ρ, S, st, h⟩
    exact (hh a oe pn).pss.run pins s σ H D' I ⟨O, ρ, S, st, h⟩
  · intro D' σ H ⟨O, ρ, S, st, h⟩
    refine ⟨O, ρ, S, st, ?_⟩
    unfold sTryN at h
    cases q : fb ρ S with
    | nx ρ1 S1 => rw [q] at h; exact h
    | bk ρ1 S1 => rw [q] at h; exact h
    | ct ρ1 S1 => rw [q] at h; exact h
    | rt d S1 => rw [q] at h; exact h
    | bad => rw [q] at h; exact h
    | exc y ρ1 S1 =>
      rw [q] at h
      rintro O1 H1 σ1 cls dx e1 st1 ⟨rfl, dd, vs, rfl, hd, rf⟩
      cases q2 : cl y.c with
      | none => simp only [q2] at h; exact h.elim
      | some b =>
        refine ⟨b, hcl _ _ q2, fun eb a ha => ?_, fun eb => ?_⟩
        · subst eb
          simp only [q2] at h
          exact ⟨O1, ρ1, S1, st1, AfterS.noexc (AfterS.mono h e1)⟩
        · subst eb
          simp only [q2] at h
          exact h O1 H1 σ1 _ _ e1 st1 ⟨rfl, dd, vs, rfl, hd, rf⟩
/-! ### xs.extend(e) -/
def dExt (f : ME) (g : MA) : ME := fun ρ S => (f ρ S).bind fun d S1 => match d with
  | .own k => (match S1[k]? with
    | some (.lst _) => (g ρ S1).bind fun es S2 => (match es, S2[k]? with
      | [.lst zs], some (.lst ds) => if ds.length + zs.length ≤ cap then .ok .non (S2.set k (.lst (ds ++ zs))) else .bad
      | [.own j], some (.lst ds) => (match S2[j]? with
        | some (.lst zs) => if ds.length + zs.length ≤ cap then .ok .non (S2.set k (.lst (ds ++ zs))) else .bad
        | _ => .bad)
      | _, _ => .bad)
    | _ => .bad)
  | _ => .bad
theorem de_ext (ho : DE X W o f) (ha : DA X W (e :: es) fa)
    (hbase : attributeBase o "extend" X.env (eval o X.env) = eval o X.env := by rfl)
    (hfew : ((backTo pos (starEach (e :: es) X.env)).all (fun x => !x.1) && (backToKw pos (keywordEach [] X.env)).all (fun x => x.1.isSome)
      && decide ((e :: es).length + ([] : List Keyword).length + (if ([] : List Keyword).isEmpty then 0 else 1) < 30)) = true := by rfl)
    (hline : (apos.endLine == pos.line) = true := by rfl) (hs : starEach (e :: es) X.env = (false, eval e X.env) :: starEach es X.env := by rfl) (hplain : (backTo pos (starEach es X.env)).any (·.1) = false := by rfl) :
    DE X W (.Call (.Attribute o "extend" apos) (e :: es) [] pos) (dExt f fa) :=
  ⟨PE.imp (pe_bm PySem.F.plainAttrs_list PySem.F.slot_list_extend PySem.F.type_list_extend mt_extend ho.pe ha.pa hbase hfew hline hs hplain) fun σ H Q ⟨O, ρ, S, st, h⟩ => ⟨O, ρ, S, st, After.seq h fun d S1 O1 H1 v e1 st1 r1 h1 => by
    cases d <;> try exact h1.elim
    rename_i k
    obtain ⟨a, ha, rfl⟩ := r1
    dsimp only at h1
    split at h1
    · rename_i ds hk
      obtain ⟨xs, hx, rx⟩ := st1.wf.cell k a _ ha hk
      refine ⟨.inl ⟨rfl, xs, SqL.of hx⟩, O1, ρ, S1, st1, After.seq h1 fun es S2 O2 H2 vs e2 st2 r2 h2 => ?_⟩
      have ha2 := e2.at ha
      split at h2
      · rename_i zs ds2 hk2
        obtain ⟨v, rfl, rv⟩ := r2.one
        obtain ⟨hc, h2⟩ := After.ite h2
        obtain ⟨b, ws, rfl, nb, hb, rw_⟩ := rv
        obtain ⟨ys, hy, ry⟩ := st2.wf.cell k a _ ha2 hk2
        refine ⟨a, b, ys, ws, rfl, rfl, hy, hb, by rw [← ry.length, ← rw_.length]; exact cap_line hc, ?_⟩
        obtain ⟨e3, st3⟩ := st2.mut (o := .lst (ys ++ ws)) (d := .lst (ds2 ++ zs)) ha2 fun e3 => ⟨_, upd_same, (ry.mono (e3.w st2.wf)).append (rw_.mono (e3.w st2.wf))⟩
        exact h2 O2 _ _ e3 st3 rfl
      · rename_i j ds2 hk2
        obtain ⟨v, rfl, rv⟩ := r2.one
        obtain ⟨b, hb, rfl⟩ := rv
        split at h2
        · rename_i zs hj
          obtain ⟨hc, h2⟩ := After.ite h2
          obtain ⟨ws, hw, rw_⟩ := st2.wf.cell j b _ hb hj
          obtain ⟨ys, hy, ry⟩ := st2.wf.cell k a _ ha2 hk2
          refine ⟨a, b, ys, ws, rfl, rfl, hy, hw, by rw [← ry.length, ← rw_.length]; exact cap_line hc, ?_⟩
          obtain ⟨e3, st3⟩ := st2.mut (o := .lst (ys ++ ws)) (d := .lst (ds2 ++ zs)) ha2 fun e3 => ⟨_, upd_same, (ry.mono (e3.w st2.wf)).append (rw_.mono (e3.w st2.wf))⟩
          exact h2 O2 _ _ e3 st3 rfl
        · exact h2.elim
      · exact h2.elim
    · exact h1.elim⟩⟩
end
/-- a def in a class's body -/
def clsDefAt (j : Nat) : Stmt → Stmt := fun s => match s with
  | .ClassDef _ _ _ body _ _ _ _ _ _ _ => body.getD j s
  | _ => s
end DE

set_option maxHeartbeats 4000000
/-! exceptions of the program's own over any builtin error whose maker is that of L: made with keywords, too -/
namespace XN
open PySem PySem.HandSPX PySem.Builtin
section
variable {pg : Program} {wd : World} {B : Around} {F : Value → Shared → Prop} {Z : Result → Shared → Prop} {hp : Heap} {gs : Array GenState} {dr : Drawn} {tk : Nat} {os : OsState}
variable {nm qn : Str} {C N : Addr} {bs mr mL : List Value} {dct : Bool} {sn : List Str} {sb : List Value} {ab : Bool} {cl : Option Bool} {dd : Option Addr} {k0 k1 k2 k3 k5 : Option Value} {L mk ini : String}
/-- what the classes behind an own one must be -/
structure Behind (mr : List Value) (L : String) : Prop where
  maker : mr.contains (.type L) = true
  attr : mr.contains (.type "AttributeError") = false
  name : mr.contains (.type "NameError") = false
theorem mem_own {v : Value} {b : Bool} {C : Addr} {mr : List Value} (h : mr.contains v = b) (ne : (v == Value.ref C) = false) : (Value.ref C :: mr).contains v = b := by
  rw [List.contains_cons, ne, h, Bool.false_or]
theorem maker_check (FL : ExcBaseFacts L mk ini mL) (hb : Behind mr L) {vs : List Value} {kw : List (Str × Value)} {Q : Unit → Shared → Prop}
    (hC : hp.get? C = some (excClassObj nm qn C N bs mr dct sn sb ab cl dd k0 k1 k2 k3 k5 mk)) (q : Q () ⟨hp, gs, dr, tk, os⟩) : wpAny (model pg wd) B (checkBuiltinCall mk ⟨.ref C :: vs, kw⟩) Q F ⟨hp, gs, dr, tk, os⟩ := by
  have h1 := mem_own (C := C) hb.maker rfl
  have h2 := FL.noStar
  simp only [checkBuiltinCall, FL.newKind, FL.newSplit, FL.newRow]
  repeat (first | refine wpAny_loadPart_at hC ?_ | (refine wpAny_isSubtype_exc hC ?_; rw [h1]) | refine wpAny_staticBase_exc hC ?_ | refine wpAny_madeBy_exc hC ?_ | simp only [bne_self_eq_false, Bool.false_eq_true, if_false] | wp_step)
  exact q
theorem maker_run (FL : ExcBaseFacts L mk ini mL) (hb : Behind mr L) {vs : List Value} {kw : List (Str × Value)}
    (hC : hp.get? C = some (excClassObj nm qn C N bs mr dct sn sb ab cl dd k0 k1 k2 k3 k5 mk)) (hl : vs.length ≤ sizeLine)
    (q : Z (.ok (.ret (.ref (hp.objs.size + 1)))) ⟨(hp.push (W.kdv_tup vs)).push (excO C hp.objs.size), gs, dr, tk, os⟩) :
    codeAny (model pg wd) B (.builtin mk ⟨.ref C :: vs, kw⟩) Z ⟨hp, gs, dr, tk, os⟩ := by
  have e0 := FL.ends
  have e1 := mem_own (C := C) hb.maker rfl
  have e2 := mem_own (C := C) hb.attr rfl
  have e3 := mem_own (C := C) hb.name rfl
  refine codeAny_builtinAt FL.entry (?_ : _)
  unfold Builtin.«BaseException.__new__»
  refine wpAt_bind (?_ : _)
  show wpAt _ _ _ (stack >>= _) _ _ _
  refine wpAt_bind (wpAt_stack fun p0 below0 => wpAt_of_wpAny (?_ : _))
  wp_walk
  refine wpAt_of_wpAny (?_ : _)
  rw [FL.owner]
  repeat (first | with_reducible refine wpAny_madeHere_exc FL.canon hC ?_ | with_reducible refine wpAny_loadPart_at hC ?_ | (with_reducible refine wpAny_isSubtype_exc hC ?_; first | rw [e1] | rw [e2] | rw [e3]) | wp_step)
  show Z _ _
  rw [Heap.size_push]
  exact q
theorem made_then (FL : ExcBaseFacts L mk ini mL) (hb : Behind mr L) {vs : List Value} {kw : List (Str × Value)} {g0 : Addr} {Q : Fin → Shared → Prop}
    (hC : hp.get? C = some (excClassObj nm qn C N bs mr dct sn sb ab cl dd k0 k1 k2 k3 k5 mk)) (li : W.Looks (model pg wd) hp (typeLookup (.ref C) "__init__") (some (.ref g0))) (bi : ∀ me, W.Looks (model pg wd) hp (bindSpecial (.ref g0) me) (.ref g0, [me])) (hl : vs.length ≤ sizeLine)
    (q : codeAny (model pg wd) B (.call (.ref g0) ⟨.ref (hp.objs.size + 1) :: vs, kw⟩) (fun z s2 => match z with | .ok (.ret v) => v = .none ∧ Q (.done (.ret (.ref (hp.objs.size + 1)))) s2 | .ok _ => False | .error x => F x s2)
      ⟨(hp.push (W.kdv_tup vs)).push (excO C hp.objs.size), gs, dr, tk, os⟩) : wpAny (model pg wd) B (Builtin.«type.__call__» ⟨.ref C :: vs, kw⟩) Q F ⟨hp, gs, dr, tk, os⟩ := by
  repeat (first | with_reducible refine wpAny_loadPart_at hC ?_ | with_reducible refine wpAny_madeBy_exc hC ?_ | wp_step)
  refine codeAny_call_builtin_code (Code.quiet_builtin _ FL.quiet) (maker_check FL hb hC (maker_run FL hb hC hl ?_))
  show wpAny _ _ _ _ _ _
  have keep : ∀ b o, hp.get? b = some o → ((hp.push (W.kdv_tup vs)).push (excO C hp.objs.size)).get? b = some o := fun b o z => Heap.get?_push_of_some _ (Heap.get?_push_of_some _ z)
  have hC2 := keep _ _ hC
  have hme : ((hp.push (W.kdv_tup vs)).push (excO C hp.objs.size)).get? (hp.objs.size + 1) = some (excO C hp.objs.size) := by heap_get
  have own : (Value.ref C :: mr).contains (.ref C) = true := by simp
  unfold isInstance
  repeat (first | with_reducible refine wpAny_loadPart_at hme ?_ | (with_reducible refine wpAny_isSubtype_exc hC2 ?_; rw [own]) | wp_step)
  show wpAny _ _ (typeLookup (.ref C) _) _ _ _
  refine (li.keeps keep).at (wpAny_holding (wpAny_bind (((bi (.ref (hp.objs.size + 1))).keeps keep).at (wpAny_bind (wpAny_call (codeAny_mono q fun z s2 w => ?_))))))
  rcases z with x | (v | _ | _ | _) <;> first | exact w | exact w.elim | skip
  obtain ⟨rfl, w⟩ := w
  first
    | exact wpAny_pure (wpAny_pure w)
    | (wp_walk; exact w)
/-- C(vs, kw): the exception is laid, then C's own __init__ runs on it -/
theorem exn_call (FL : ExcBaseFacts L mk ini mL) (hb : Behind mr L) {vs : List Value} {kw : List (Str × Value)} {g0 : Addr}
    (hC : hp.get? C = some (excClassObj nm qn C N bs mr dct sn sb ab cl dd k0 k1 k2 k3 k5 mk)) (li : W.Looks (model pg wd) hp (typeLookup (.ref C) "__init__") (some (.ref g0))) (bi : ∀ me, W.Looks (model pg wd) hp (bindSpecial (.ref g0) me) (.ref g0, [me])) (hl : vs.length ≤ sizeLine)
    (q : codeAny (model pg wd) (B.under (.builtin "type.__call__" ⟨.ref C :: vs, kw⟩)) (.call (.ref g0) ⟨.ref (hp.objs.size + 1) :: vs, kw⟩) (W.InitBack (hp.objs.size + 1) Z) ⟨(hp.push (W.kdv_tup vs)).push (excO C hp.objs.size), gs, dr, tk, os⟩) :
    codeAny (model pg wd) B (.call (.ref C) ⟨vs, kw⟩) Z ⟨hp, gs, dr, tk, os⟩ := by
  have look := tc_lookup
  have bound := tc_bind (.ref C)
  have ty : (⟨hp, gs, dr, tk, os⟩ : Shared).TypeIs (.ref C) "type" := ⟨_, hC, rfl⟩
  refine codeAny_of_tree (?_ : _)
  show wpAny _ _ (callAny (.ref C) _) _ _ _
  repeat (any_goals (first | assumption | with_reducible refine wpAny_loadPart_at hC ?_ | wp_step))
  refine ⟨rfl, codeAny_call_builtin_at (Code.quiet_builtin _ (by decide +kernel)) entry_typeCall (wpAny_check_type_call_sub hC (made_then FL hb hC li bi hl ?_))⟩
  refine codeAny_mono q fun z s2 w => (?_ : _)
  rcases z with x | (v | _ | _ | _) <;> exact w
end
end XN

set_option maxHeartbeats 4000000
namespace PySem
namespace F
theorem store_KeyErrorD : StoreFacts "KeyError" [.type "KeyError", .type "LookupError", .type "Exception", .type "BaseException", .type "object"] "object.__setattr__" "object" where
  mro := by kernel_rfl
  slot := .of (owner := "object") (n := "__setattr__") (by rw [typeLookup_type, builtinLookup_eq_fast]; kernel_rfl) (by decide +kernel) (by decide +kernel) (by decide +kernel)
    (by first | exact .inl (by decide +kernel) | exact .inr (by decide +kernel)) (by rw [isSubtype_type]; kernel_rfl)
  entry := entry_object_sa
  kind := by decide +kernel
  split := by decide +kernel
  hasOwner := by decide +kernel
  args := fun a b c => by unfold argsOk; kernel_rfl
  passes := fun self => by kernel_rfl
end F
end PySem

set_option maxHeartbeats 4000000
namespace XN
open PySem PySem.HandSPX PySem.Builtin PySem.Builtin.ObjectAttr
/-! ### fields stored on such an exception -/
section
variable {pg : Program} {wd : World} {B : Around} {F : Value → Shared → Prop} {Z : Result → Shared → Prop} {hp : Heap} {gs : Array GenState} {dr : Drawn} {tk : Nat} {os : OsState} {K : W.Frag}
/-- nothing on the way of classes refuses a store -/
structure Lets (mro : List Value) : Prop where
  pass : ∀ me, refuseLoop me "__setattr__" mro = pure ()
  obj : mro.contains (.type "object") = true
  ne : mro.isEmpty = false
theorem put_first {fld : Str} {u0 : Tok} {v : Value} {x C : Addr} {fv : Array Value} {cd : ClassData} (KI : K.In hp) (at_ : hp.get? x = some { cls := .ref C, data := .fields fv }) (hcd : W.clsIn K C = some cd) (lt : Lets cd.mro) (hd : cd.hasDict = true) (no : W.findIn K (.ref C) fld = some none)
    (q : ∀ h2 t2 dx, (∀ b o, b ≠ x → hp.get? b = some o → h2.get? b = some o) → hp.objs.size ≤ dx → dx ≠ x → h2.get? x = some { cls := .ref C, dict := some dx, data := .fields fv } → h2.Ns1 dx (fun y => if y = fld then some v else none) → Z (.ok (.ret .none)) ⟨h2, gs, dr, t2, os⟩) :
    codeAny (model pg wd) B (.call (.builtin "object.__setattr__") ⟨[.ref x, .str fld u0, v], []⟩) Z ⟨hp, gs, dr, tk, os⟩ := by
  have J : W.InstAt hp x { cls := .ref C, data := .fields fv } C none := ⟨at_, rfl, rfl, trivial⟩
  have SO := F.store_object
  have far : x ≠ hp.objs.size := Nat.ne_of_lt (Heap.lt_size at_)
  have isO : W.Looks (model pg wd) hp (isInstance (.ref x) (.type "object")) true := J.type.andThen (W.looks_mroIn KI (by unfold W.mroIn; rw [hcd, Option.bind_some, if_neg (by rw [lt.ne]; decide), lt.obj]))
  refine codeAny_call_builtin SO.slot.plain SO.entry (@W.check_slot (model pg wd) _ _ ⟨hp, gs, dr, tk, os⟩ "object.__setattr__" "object" "__setattr__" (.ref x) [.str fld u0, v] [] _ SO.kind SO.split isO (SO.args (.ref x) (.str fld u0) v) ?_)
  have l1 : W.Looks (model pg wd) hp (mroOf (.ref C)) cd.mro := (W.looks_clsIn KI hcd).andThen .now
  have l2 : W.Looks (model pg wd) hp (storeTaker? none) none := .now
  have l3 : W.Looks (model pg wd) hp (classData C) cd := W.looks_clsIn KI hcd
  rw [W.osa_eq, refuse_eq]
  refine wpAny_bind (wpAny_bind (J.type.at (wpAny_bind (l1.at (?_ : _)))))
  rw [lt.pass]
  refine wpAny_pure (wpAny_bind (J.type.at (wpAny_bind ((W.looks_findIn KI no).at (wpAny_bind (l2.at (?_ : _)))))))
  show wpAny _ _ (storeInOwnDict (.ref x) (.ref C) (.str fld u0) fld v false) _ _ _
  obtain ⟨nm, bs, mro, ns, qn, hasD, sn, sb, ab, cl, del⟩ := cd
  dsimp only at hd
  subst hd
  unfold storeInOwnDict ownDictForStores
  repeat (first | with_reducible refine store_in_new ?_ ?_ | with_reducible refine wpAny_loadPart_at at_ ?_ | with_reducible refine l3.at ?_ | wp_step)
  · exact ⟨_, #[], _, (Heap.get?_update_ne _ _ _ _ far.symm).trans (Heap.get?_push_at rfl rfl), rfl, fun e he => absurd he (by simp), fun _ => rfl⟩
  · intro h2 t2 n2 sm
    have at2 : (hp.push { cls := .type "dict", data := .dict #[] }).get? x = some { cls := .ref C, data := .fields fv } := Heap.get?_push_of_some _ at_
    exact q h2 t2 hp.objs.size (fun b o hb ho => (sm.2 b (Nat.ne_of_lt (Heap.lt_size ho))).trans ((Heap.get?_update_ne _ _ _ _ hb).trans (Heap.get?_push_of_some _ ho))) (Nat.le_refl _) far.symm ((sm.2 x far).trans (Heap.get?_update_self _ at2 rfl)) n2
theorem put_more {fld : Str} {u0 : Tok} {v : Value} {x C dx : Addr} {fv : Array Value} {cd : ClassData} {m0 : Str → Option Value} {nl : List Str} (KI : K.In hp) (at_ : hp.get? x = some { cls := .ref C, dict := some dx, data := .fields fv }) (hns : hp.Ns1 dx m0) (hw : Within m0 nl) (hz : nl.length ≤ 1000)
    (hcd : W.clsIn K C = some cd) (lt : Lets cd.mro) (hd : cd.hasDict = true) (no : W.findIn K (.ref C) fld = some none)
    (q : ∀ h2 t2, (∀ b o, b ≠ dx → hp.get? b = some o → h2.get? b = some o) → h2.Ns1 dx (fun y => if y = fld then some v else m0 y) → Z (.ok (.ret .none)) ⟨h2, gs, dr, t2, os⟩) :
    codeAny (model pg wd) B (.call (.builtin "object.__setattr__") ⟨[.ref x, .str fld u0, v], []⟩) Z ⟨hp, gs, dr, tk, os⟩ := by
  obtain ⟨oD, esD, epD, gD, dD, _⟩ := hns.count hw
  have J : W.InstAt hp x { cls := .ref C, dict := some dx, data := .fields fv } C (some oD) := ⟨at_, rfl, rfl, gD⟩
  have SO := F.store_object
  have isO : W.Looks (model pg wd) hp (isInstance (.ref x) (.type "object")) true := J.type.andThen (W.looks_mroIn KI (by unfold W.mroIn; rw [hcd, Option.bind_some, if_neg (by rw [lt.ne]; decide), lt.obj]))
  refine codeAny_call_builtin SO.slot.plain SO.entry (@W.check_slot (model pg wd) _ _ ⟨hp, gs, dr, tk, os⟩ "object.__setattr__" "object" "__setattr__" (.ref x) [.str fld u0, v] [] _ SO.kind SO.split isO (SO.args (.ref x) (.str fld u0) v) ?_)
  have l1 : W.Looks (model pg wd) hp (mroOf (.ref C)) cd.mro := (W.looks_clsIn KI hcd).andThen .now
  have l2 : W.Looks (model pg wd) hp (storeTaker? none) none := .now
  have l3 : W.Looks (model pg wd) hp (classData C) cd := W.looks_clsIn KI hcd
  rw [W.osa_eq, refuse_eq]
  refine wpAny_bind (wpAny_bind (J.type.at (wpAny_bind (l1.at (?_ : _)))))
  rw [lt.pass]
  refine wpAny_pure (wpAny_bind (J.type.at (wpAny_bind ((W.looks_findIn KI no).at (wpAny_bind (l2.at (?_ : _)))))))
  show wpAny _ _ (storeInOwnDict (.ref x) (.ref C) (.str fld u0) fld v false) _ _ _
  obtain ⟨nm, bs, mro, ns, qn, hasD, sn, sb, ab, cl, del⟩ := cd
  dsimp only at hd
  subst hd
  unfold storeInOwnDict ownDictForStores
  repeat (first | with_reducible refine PySem.OEX.store_in_old hns hw hz ?_ | with_reducible refine wpAny_loadPart_at at_ ?_ | with_reducible refine l3.at ?_ | wp_step)
  intro h2 t2 n2 sm
  exact q h2 t2 (fun b o hb ho => (sm.2 b hb).trans ho) n2
end
end XN

set_option maxHeartbeats 4000000
/-! own exception classes over ValueError, KeyError, RuntimeError: what is asked of them, their fields' stores, their __init__ -/
namespace XN
open PySem PySem.Spec PyProof.Rows L2 DE
def isR : Value → Bool
  | .ref _ => true
  | _ => false
theorem pass_drop (me : Value) : ∀ l : List Value, refuseLoop me "__setattr__" l = refuseLoop me "__setattr__" (l.dropWhile isR)
  | [] => rfl
  | v :: r => by
    cases v <;> first
      | rfl
      | (rw [refuseLoop_ref]; exact pass_drop me r)
def tailB (L : String) (tl bm : List Value) : Bool := bm.dropWhile isR == tl && (bm.contains (.type L) && (!bm.contains (.type "AttributeError") && (!bm.contains (.type "NameError") && bm.contains (.type "object"))))
def vT : List Value := [.type "ValueError", .type "Exception", .type "BaseException", .type "object"]
def kT : List Value := [.type "KeyError", .type "LookupError", .type "Exception", .type "BaseException", .type "object"]
def rT : List Value := [.type "RuntimeError", .type "Exception", .type "BaseException", .type "object"]
def mkB (n : String) (bm : List Value) : Bool := (n == "ValueError.__new__" && tailB "ValueError" vT bm) || ((n == "LookupError.__new__" && tailB "LookupError" kT bm) || (n == "RuntimeError.__new__" && tailB "RuntimeError" rT bm))
theorem tailB_ok {L : String} {tl bm : List Value} {C : Addr} (pt : ∀ me, refuseLoop me "__setattr__" tl = pure ()) (h : tailB L tl bm = true) : Behind bm L ∧ Lets (.ref C :: bm) := by
  unfold tailB at h
  simp only [Bool.and_eq_true, beq_iff_eq, Bool.not_eq_true'] at h
  obtain ⟨h1, h2, h3, h4, h5⟩ := h
  refine ⟨⟨h2, h3, h4⟩, ⟨fun me => ?_, by rw [List.contains_cons, h5, Bool.or_true], rfl⟩⟩
  rw [pass_drop]
  show refuseLoop me "__setattr__" (bm.dropWhile isR) = _
  rw [h1]
  exact pt me
theorem mkB_ok {n : String} {bm : List Value} {C : Addr} (h : mkB n bm = true) : ∃ L ini mL, ExcBaseFacts L n ini mL ∧ Behind bm L ∧ Lets (.ref C :: bm) := by
  unfold mkB at h
  simp only [Bool.or_eq_true, Bool.and_eq_true, beq_iff_eq] at h
  rcases h with ⟨rfl, h⟩ | ⟨rfl, h⟩ | ⟨rfl, h⟩
  · exact ⟨_, _, _, F.excBase_ValueError, tailB_ok F.store_ValueError.passes h⟩
  · exact ⟨_, _, _, F.excBase_LookupError, tailB_ok F.store_KeyErrorD.passes h⟩
  · exact ⟨_, _, _, F.excBase_RuntimeError, tailB_ok F.store_RuntimeError.passes h⟩
/-- what a class of exceptions must be -/
structure OexG (K : PySem.W.Frag) (C : Addr) : Prop where
  cls : ∃ L mk ini mL nm q N bs bm sn sub ab col dd k0 k1 k2 k3 k5, ExcBaseFacts L mk ini mL ∧ Behind bm L ∧ Lets (.ref C :: bm) ∧ K.lookup C = some (excClassObj nm q C N bs bm true sn sub ab col dd k0 k1 k2 k3 k5 mk)
  put : PySem.W.findIn K (.ref C) "__setattr__" = some (some (.builtin "object.__setattr__"))
  keep : PySem.W.keepIn K (.ref C) = true
def clB (K : PySem.W.Frag) (C : Addr) : Bool := match K.lookup C with
  | some ⟨.type t, _, .cls cd, sl⟩ => t == "type" && (match cd.mro, sl.toList with
    | .ref C' :: bm, [_, _, _, _, some (.builtin n), _] => C' == C && (!cd.hasDel && (cd.hasDict && mkB n bm))
    | _, _ => false)
  | _ => false
def exgB (K : PySem.W.Frag) (C : Addr) : Bool := clB K C && (decide (PySem.W.findIn K (.ref C) "__setattr__" = some (some (.builtin "object.__setattr__"))) && PySem.W.keepIn K (.ref C))
theorem exgB_ok {K : PySem.W.Frag} {C : Addr} (h : exgB K C = true) : OexG K C := by
  unfold exgB at h
  simp only [Bool.and_eq_true, decide_eq_true_eq] at h
  obtain ⟨h0, h1, h2⟩ := h
  refine ⟨?_, h1, h2⟩
  unfold clB at h0
  split at h0
  case h_2 => cases h0
  case h_1 t dd cd sl look =>
    rw [Bool.and_eq_true] at h0
    obtain ⟨ht, h0⟩ := h0
    split at h0
    case h_2 => cases h0
    case h_1 C' bm k0 k1 k2 k3 n k5 hm hs =>
      simp only [Bool.and_eq_true, beq_iff_eq, Bool.not_eq_true'] at h0 ht
      obtain ⟨e1, e3, e4, e5⟩ := h0
      obtain ⟨L, ini, mL, w1, w2, w3⟩ := mkB_ok (C := C) e5
      obtain ⟨nm, bs, mro, ns, qn, hd, sn, sub, ab, col, dl⟩ := cd
      dsimp only at hm e3 e4
      obtain ⟨sl⟩ := sl
      dsimp only at hs
      subst hm e1 e3 e4 ht hs
      exact ⟨L, n, ini, mL, nm, qn, ns, bs, bm, sn, sub, ab, col, dd, k0, k1, k2, k3, k5, w1, w2, w3, look⟩
section
variable {X : Cx} {pins : List (Addr × Obj)} {σ : L2.St} {H : Hp} {s : Shared} {a C dx : Addr} {f : Str} {y : V} {u : Value} {fs : List (Str × V)} {Q : Unit → Shared → Prop} {Z : Value → Shared → Prop} {B : Around}
theorem st_first (T : OexG X.K C) (I : Inv X pins σ H s) (e : H a = some (exo a C none)) (no : PySem.W.findIn X.K (.ref C) f = some none) (ry : RelV y u)
    (go : ∀ dn s1, H dn = none → dn ≠ a → Inv X pins σ (upd (upd H dn (.xd [(f, y)])) a (exo a C (some dn))) s1 → Q () s1) : wpAny (model X.prog X.w) B (setAttr (.ref a) f u) Q Z s := by
  obtain ⟨L, mk, ini, mL, nm, q, N, bs, bm, sn, sub, ab, col, dd, k0, k1, k2, k3, k5, FL, hb, lt, look⟩ := T.cls
  have cd : PySem.W.clsIn X.K C = some { name := nm, bases := bs, mro := .ref C :: bm, ns := N, qualname := q, hasDict := true, slotNames := sn, subclasses := sub, abstract := ab, collection := col, hasDel := false } := by
    unfold PySem.W.clsIn
    rw [look] <;> rfl
  obtain ⟨t1, at1⟩ := exo_at I.hok e
  obtain ⟨hp, g, dr, tk, os⟩ := s
  refine PySem.W.set_plain I.kIn (od := none) (ox := { cls := .ref C, dict := none, data := .fields #[.ref t1, .none, .none, .none, .bool false, .none] }) ⟨at1, rfl, rfl, trivial⟩ T.put ?_
  refine put_first I.kIn at1 cd lt rfl no fun h2 t2 dn kp big ne at2 ns2 => ?_
  have fresh : H dn = none := I.hok.fresh big
  have off : ∀ {c : Addr} {ob : Obj}, hp.get? c = some ob → c ≠ dn := fun {c ob} z => Nat.ne_of_lt (Nat.lt_of_lt_of_le (Heap.lt_size z) big)
  have nota : ∀ {c : Addr}, H c = none → c ≠ a := fun {c} n z => by
    rw [z, e] at n
    cases n
  have ch : Un X.fs [] H (upd (upd H dn (.xd [(f, y)])) a (exo a C (some dn))) hp h2 := {
    keep := fun c ob z n _ _ => kp c ob (nota n) z
    slot := fun c ob z n _ _ => ⟨ob.slots, kp c ob (nota n) z⟩
    free := fun c ob z n _ => by rw [upd_ne (nota n), upd_ne (off z), n]
    there := fun c ob z _ => by
      by_cases hc : c = a
      · exact ⟨_, hc ▸ at2⟩
      · exact ⟨ob, kp c ob hc z⟩
    tups := fun c xs z => by rw [upd_ne (at_ne e z exo_tup), upd_ne (ne_of_none z fresh), z]
    frzs := fun c ob v z => by rw [upd_ne (at_ne e z exo_frz), upd_ne (ne_of_none z fresh), z]
    tbls := fun c ps z => ⟨#[], by rw [upd_ne (at_ne e z exo_tbl), upd_ne (ne_of_none z fresh), z]; simp⟩ }
  refine go dn _ fresh ne (I.un (t' := t2) ch fun c ob z => ?_)
  by_cases hc : c = a
  · subst hc
    rw [upd_same] at z
    cases z
    exact exo_ok at2
  · rw [upd_ne hc] at z
    by_cases hd : c = dn
    · subst hd
      rw [upd_same] at z
      cases z
      exact ⟨_, ns2, relO_put (fs := []) ry fun g => True.intro⟩
    · rw [upd_ne hd] at z
      refine (I.hok c ob z).stay (fun c2 v h2c z2 => kp c2 v ?_ z2) (fun c2 h2c => ?_) (fun c2 xs h2c => ?_)
      · rcases h2c with h2c | h2c
        · exact h2c ▸ hc
        · exact at_ne e h2c exo_own
      · rw [upd_ne (at_ne e h2c exo_own), upd_ne (ne_of_none h2c fresh), h2c]
      · rw [upd_ne (at_ne e h2c exo_tup), upd_ne (ne_of_none h2c fresh), h2c]
/-- an exception's dict, told the other way -/
theorem retag (I : Inv X pins σ H s) (ed : H dx = some (.xd fs)) : Inv X pins σ (upd H dx (exd dx fs)) s := by
  obtain ⟨mA, ns, rel⟩ := (show ObjOk X.prog X.w H s.heap dx (.xd fs) from I.hok dx _ ed)
  have n1 : ∀ {c : Addr} {u : HO}, H c = some u → HO.xd fs ≠ u → c ≠ dx := fun z d => at_ne ed z d
  have n0 : ∀ {c : Addr}, H c = none → c ≠ dx := fun n z => by
    rw [z, ed] at n
    cases n
  have un : Un X.fs [] H (upd H dx (exd dx fs)) s.heap s.heap := {
    keep := fun c ob z n _ _ => z
    slot := fun c ob z n _ _ => ⟨ob.slots, z⟩
    free := fun c ob z n _ => by rw [upd_ne (n0 n), n]
    there := fun c ob z _ => ⟨ob, z⟩
    tups := fun c xs z => by rw [upd_ne (n1 z fun e => nomatch e), z]
    frzs := fun c ob v z => by rw [upd_ne (n1 z fun e => nomatch e), z]
    tbls := fun c ps z => ⟨#[], by rw [upd_ne (n1 z fun e => nomatch e), z]; simp⟩ }
  refine I.un (t' := s.toks) un fun c ob z => ?_
  by_cases hc : c = dx
  · subst hc
    rw [upd_same] at z
    cases z
    exact exd_ok ns rel
  · rw [upd_ne hc] at z
    refine (I.hok c ob z).stay (fun c2 v h2c z2 => z2) (fun c2 h2c => ?_) (fun c2 xs h2c => ?_)
    · rw [upd_ne (n1 h2c fun e => nomatch e), h2c]
    · rw [upd_ne (n1 h2c fun e => nomatch e), h2c]
theorem st_next (T : OexG X.K C) (I : Inv X pins σ H s) (e : H a = some (exo a C (some dx))) (ed : H dx = some (.xd fs)) (hl : fs.length ≤ 900) (no : PySem.W.findIn X.K (.ref C) f = some none) (ry : RelV y u)
    (go : ∀ s1, Inv X pins σ (upd H dx (.xd ((f, y) :: fs))) s1 → Q () s1) : wpAny (model X.prog X.w) B (setAttr (.ref a) f u) Q Z s := by
  obtain ⟨L, mk, ini, mL, nm, q, N, bs, bm, sn, sub, ab, col, dd, k0, k1, k2, k3, k5, FL, hb, lt, look⟩ := T.cls
  have cd : PySem.W.clsIn X.K C = some { name := nm, bases := bs, mro := .ref C :: bm, ns := N, qualname := q, hasDict := true, slotNames := sn, subclasses := sub, abstract := ab, collection := col, hasDel := false } := by
    unfold PySem.W.clsIn
    rw [look] <;> rfl
  obtain ⟨t1, at1⟩ := exo_at I.hok e
  obtain ⟨mA, ns, rel⟩ := (show ObjOk X.prog X.w H s.heap dx (.xd fs) from I.hok dx _ ed)
  have wi := within_of rel
  obtain ⟨hp, g, dr, tk, os⟩ := s
  obtain ⟨oD, _, _, gD, _, _⟩ := ns.count wi
  refine PySem.W.set_plain I.kIn (od := some oD) (ox := { cls := .ref C, dict := some dx, data := .fields #[.ref t1, .none, .none, .none, .bool false, .none] }) ⟨at1, rfl, rfl, gD⟩ T.put ?_
  refine put_more I.kIn at1 ns wi (by rw [List.length_map]; omega) cd lt rfl no fun h2 t2 kp ns2 => ?_
  have there : ∃ o, h2.get? dx = some o := by
    obtain ⟨o, _, _, z, _⟩ := ns2
    exact ⟨o, z⟩
  have J := (retag I ed).write (t' := t2) (x := dx) (e := dx) (o := .xd ((f, y) :: fs)) (by rw [upd_same]; exact True.intro) (.inl rfl) kp there ⟨_, ns2, relO_put ry rel⟩
  rw [upd_upd] at J
  exact go _ J
end
/-- self.f = e -/
def tStG (K : PySem.W.Frag) (f : Str) (to te : TE) : TS := fun D' σ H => te σ H fun y H1 => to σ H1 fun x H2 => ∃ a C : Addr, x = .ref a ∧ OexG K C ∧ PySem.W.findIn K (.ref C) f = some none ∧
  ((H2 a = some (exo a C none) ∧ ∀ dn, H2 dn = none → dn ≠ a → D'.nx σ (upd (upd H2 dn (.xd [(f, y)])) a (exo a C (some dn)))) ∨
    ∃ (dn : Addr) (fs : List (Str × V)), H2 a = some (exo a C (some dn)) ∧ H2 dn = some (.xd fs) ∧ fs.length ≤ 900 ∧ D'.nx σ (upd H2 dn (.xd ((f, y) :: fs))))
theorem ps_stG {X : Cx} {o e : Expr} {to te : TE} {f : Str} {p' pos : Pos} (ho : PE X o to) (he : PE X e te) (hs : swapsWith e (some (.Attribute o f p')) pos.line X.env = pure false := by rfl) : PS X (.Assign [.Attribute o f p'] e pos) (tStG X.K f to te) := by
  refine ⟨fun pins s σ H D' I h => ?_⟩
  refine plainObj_wpAny_Assign_Attribute (thn (he.run pins s σ H _ I h) fun v s1 ⟨y, H1, I1, r1, q1⟩ => thn (ho.run pins s1 σ H1 _ I1 q1) fun u s2 ⟨x, H2, I2, r2, z⟩ => ?_) hs
  obtain ⟨a, C, rfl, T, no, z⟩ := z
  cases r2
  rcases z with ⟨ea, z⟩ | ⟨dn, fs, ea, ed, hl, z⟩
  · exact st_first T I2 ea no r1 fun dn s3 n ne J => ⟨σ, _, J, z dn n ne⟩
  · exact st_next T I2 ea ed hl no r1 fun s3 J => ⟨σ, _, J, z⟩
/-! __init__ of one field, of two -/
def in1 (K : PySem.W.Frag) (f : Str) : Sp := fun vs H Q E => ∃ a C v, vs = [.ref a, v] ∧ OexG K C ∧ PySem.W.findIn K (.ref C) f = some none ∧ H a = some (exo a C none) ∧ ∀ dn, H dn = none → dn ≠ a → Q .non (upd (upd H dn (.xd [(f, v)])) a (exo a C (some dn)))
def in2 (K : PySem.W.Frag) (f g : Str) : Sp := fun vs H Q E => ∃ a C v u, vs = [.ref a, v, u] ∧ OexG K C ∧ PySem.W.findIn K (.ref C) f = some none ∧ PySem.W.findIn K (.ref C) g = some none ∧ H a = some (exo a C none) ∧
  ∀ dn, H dn = none → dn ≠ a → Q .non (upd (upd H dn (.xd [(g, u), (f, v)])) a (exo a C (some dn)))
theorem upd_swap {H : Hp} {a b : Addr} {o u v : HO} (ne : b ≠ a) : upd (upd (upd H b o) a u) b v = upd (upd H b v) a u := by
  funext y
  by_cases h1 : y = b
  · subst h1; rw [upd_same, upd_ne ne, upd_same]
  · rw [upd_ne h1]
    by_cases h2 : y = a
    · subst h2; rw [upd_same, upd_same]
    · rw [upd_ne h2, upd_ne h2, upd_ne h1, upd_ne h1]
section
variable {P : Program} {w : World} {K : PySem.W.Frag} {mg : Str → Option Value} {base : Heap} {x qual f f2 pn pm : Str} {params : Arguments} {scope : Scope} {kws : List (Str × V)} {g : Addr} {fd : FuncData} {p1 p2 p3 p4 q1 q2 q3 q4 : Pos} {body : List Stmt}
theorem in1_of (F : FunD K x qual params body scope [] kws g fd) (hb : body = [.Assign [.Attribute (.Name "self" p1) f p2] (.Name "value" p3) p4]) (S : FnScope ["self", "value"] ["self", "value"] scope)
    (h1 : scope.names.lookup ("self" : Str) = some .local) (h2 : scope.names.lookup ("value" : Str) = some .local) : FnOk P w K mg base (L2.CX P w) 1 g fd ["self", "value"] (in1 K f) := by
  subst hb
  refine F.ok S (fun vs H Q E h => ?_) (fun cdv A outer s H vs Q E hr h => ?_)
  · obtain ⟨_, _, _, rfl, _⟩ := h; rfl
  · obtain ⟨a, C, v, rfl, T, no, ha, z⟩ := h
    exact ⟨_, pss_one (ps_stG (pe_var (i := 0) rfl (.inl h1)) (pe_var (i := 1) rfl (.inl h2))), ⟨v, rfl, .ref a, rfl, a, C, rfl, T, no, .inl ⟨ha, z⟩⟩⟩
theorem in2_of (F : FunD K x qual params body scope [] kws g fd) (hb : body = [.Assign [.Attribute (.Name "self" p1) f p2] (.Name "word" p3) p4, .Assign [.Attribute (.Name "self" q1) f2 q2] (.Name "value" q3) q4]) (S : FnScope ["self", "word", "value"] ["self", "word", "value"] scope)
    (h1 : scope.names.lookup ("self" : Str) = some .local) (h2 : scope.names.lookup ("word" : Str) = some .local) (h3 : scope.names.lookup ("value" : Str) = some .local) : FnOk P w K mg base (L2.CX P w) 1 g fd ["self", "word", "value"] (in2 K f f2) := by
  subst hb
  refine F.ok S (fun vs H Q E h => ?_) (fun cdv A outer s H vs Q E hr h => ?_)
  · obtain ⟨_, _, _, _, rfl, _⟩ := h; rfl
  · obtain ⟨a, C, v, u, rfl, T, no, no2, ha, z⟩ := h
    refine ⟨_, pss_cons (ps_stG (pe_var (i := 0) rfl (.inl h1)) (pe_var (i := 1) rfl (.inl h2))) (pss_one (ps_stG (pe_var (i := 0) rfl (.inl h1)) (pe_var (i := 2) rfl (.inl h3)))), ?_⟩
    refine ⟨v, rfl, .ref a, rfl, a, C, rfl, T, no, .inl ⟨ha, fun dn hd ne => ?_⟩⟩
    refine ⟨u, rfl, .ref a, rfl, a, C, rfl, T, no2, .inr ⟨dn, [(f, v)], upd_same, by rw [upd_ne ne, upd_same], by rw [List.length_singleton]; omega, ?_⟩⟩
    rw [upd_swap ne]
    exact z dn hd ne
end
end XN

set_option maxHeartbeats 4000000
/-! own exceptions as values: made, read, asked isinstance; enumerate -/
namespace XN
open PySem PySem.Spec PyProof.Rows L2 DE
theorem upd_hide {H : Hp} {a b : Addr} {o u v : HO} (ne : b ≠ a) : upd (upd (upd H a o) b u) a v = upd (upd H b u) a v := by
  funext y
  by_cases h1 : y = a
  · subst h1; rw [upd_same, upd_same]
  · rw [upd_ne h1, upd_ne h1]
    by_cases h2 : y = b
    · subst h2; rw [upd_same, upd_same]
    · rw [upd_ne h2, upd_ne h2, upd_ne h1]
theorem wf_no {K : PySem.W.Frag} {O : Ow} {H : Hp} {S : Sto} {a : Addr} (wf : WF K O H S) (n : H a = none) : O.no a := ⟨fun z => wf.there a (.inl z) n, fun z => wf.there a (.inr z) n⟩
/-- keywords behind values, no defaults -/
theorem kb_of {K : PySem.W.Frag} {x qual : Str} {params : Arguments} {body : List Stmt} {scope : Scope} {kws : List (Str × V)} {f : Addr} {fd : FuncData} {ps : List Str} (F : FunD K x qual params body scope [] kws f fd) (n : Nat) (ks : List Str)
    (h : ∀ (kV doc pm : Value) (an : Option Addr) (cdv ct : Value) (us ws : List Value), us.length = n → ws.length = ks.length → bindArgs (PySem.W.fnOf x qual params body scope .none kV doc pm an cdv ct) ⟨us, ks.zip ws⟩ = pure (ps.zip (us ++ ws))) :
    KBn K fd ps n ks (fun us ws => us ++ ws) (fun vs zs => vs ++ zs) := by
  obtain ⟨oc, od, dV, kV, doc, pm, an, cdv, ct, osl, rfl, _, _, hD, _⟩ := F.ex
  rcases hD with ⟨_, rfl⟩ | ⟨e, _⟩
  · exact ⟨fun s us ws X l1 l2 => .of_eq (h kV doc pm an cdv ct us ws l1 l2), fun r1 r2 => r1.append r2⟩
  · exact absurd rfl e
def exF (c : Str) (m : Nat) (outD : List D → List (Str × D)) : FD := fun as S => if as.length = m then .ok (.exo c (outD as)) S else .bad
theorem callee_ex {X : Cx} {k n m : Nat} {c : Str} {fI : Addr} {fd : FuncData} {ps ks : List Str} {sp : Sp} {outD : List D → List (Str × D)} {out : List V → List (Str × V)} (T : OexG X.K (He.ga X.K c))
    (iC : PySem.W.findIn X.K (.ref (He.ga X.K c)) "__init__" = some (some (.ref fI))) (tI : PySem.W.typeIn X.K (.ref fI) = some (.type "function")) (G : FnOk X.prog X.w X.K X.mg X.base (L2.CX X.prog X.w) k fI fd ps sp)
    (kb : KBn X.K fd ps (n + 1) ks (fun us ws => us ++ ws) (fun vs zs => vs ++ zs)) (hm : n + ks.length = m) (hz : m ≤ 1000)
    (hsp : ∀ (a : Addr) (vs : List V) (H : Hp) (Q : VK) (E : XK), vs.length = m → H a = some (exo a (He.ga X.K c) none) → (∀ dn, H dn = none → dn ≠ a → Q .non (upd (upd H dn (.xd (out vs))) a (exo a (He.ga X.K c) (some dn)))) → sp (.ref a :: vs) H Q E)
    (hrel : ∀ (O : Ow) (H : Hp) ds vs, ds.length = m → Reps X.K O H ds vs → RepF X.K O H (outD ds) (out vs)) : CalleeX X (k + 1) (He.ga X.K c) n ks (exF c m outD) := by
  intro pins σ H s Q E us ws vs zs hr gd px I r rz l1 l2 ⟨O, S, as, wf, ra, hl, h⟩
  have hl2 : as.length = m := hl.trans hm
  unfold exF at h
  rw [if_pos hl2] at h
  obtain ⟨L, mk, ini, mL, nm, q, N, bs, bm, sn, sub, ab, col, dd, k0, k1, k2, k3, k5, FL, hb, lt, look⟩ := T.cls
  generalize hC : He.ga X.K c = C at *
  obtain ⟨hp, g0, dr, tk, os⟩ := s
  generalize ez : hp.objs.size + 1 = z
  have hn : H z = none := by subst ez; exact I.hok.fresh (Nat.le_succ _)
  have kk : ∀ b o, hp.get? b = some o → ((hp.push (PySem.W.kdv_tup us)).push (PySem.HandSPX.excO C hp.objs.size)).get? b = some o := fun b o e => Heap.get?_push_of_some _ (Heap.get?_push_of_some _ e)
  have at1 : ((hp.push (PySem.W.kdv_tup us)).push (PySem.HandSPX.excO C hp.objs.size)).get? z = some (PySem.HandSPX.excO C hp.objs.size) := by subst ez; heap_get
  have big : hp.objs.size ≤ z := ez ▸ Nat.le_succ _
  have I2 : Inv X pins σ (upd H z (exo z C none)) ⟨(hp.push (PySem.W.kdv_tup us)).push (PySem.HandSPX.excO C hp.objs.size), g0, dr, tk, os⟩ := I.laid (t' := tk) (a := z) kk big (exo_ok at1)
  have short : us.length ≤ sizeLine := by rw [l1, sizeLine_eq]; omega
  have rv : Vals (V.ref z :: vs) (Value.ref z :: us) := .cons rfl r
  have lvs : (vs ++ zs).length = m := by rw [List.length_append, r.length, rz.length, l1, l2]; exact hm
  refine wpAny_call (exn_call FL hb (I.kIn _ _ look) (PySem.W.looks_findIn I.kIn iC) (fun me => PySem.W.bind_fn I.kIn me tI) short ?_)
  rw [ez]
  have q0 : sp (V.ref z :: (vs ++ zs)) (upd H z (exo z C none)) (fun v H2 => v = .non ∧ Q (.ref z) H2) (E σ) := by
    refine hsp z _ _ _ _ lvs upd_same fun dn hd ne => ⟨rfl, ?_⟩
    have hd1 : H dn = none := by rw [upd_ne ne] at hd; exact hd
    rw [upd_hide ne]
    have st0 : Stt X.K O H [] [] S := ⟨wf, .nil⟩
    obtain ⟨e1, st1⟩ := st0.new (o := .xd (out (vs ++ zs))) hd1
    have hn1 : upd H dn (.xd (out (vs ++ zs))) z = none := by rw [upd_ne (Ne.symm ne)]; exact hn
    obtain ⟨e2, st2⟩ := st1.new (o := exo z C (some dn)) hn1
    have e12 := e1.trans e2
    refine h _ _ _ e12 st2.wf ⟨z, some dn, out (vs ++ zs), rfl, wf_no wf hn, by rw [hC]; exact upd_same, fun y ey => ?_, fun z => (nomatch z), hrel _ _ _ _ hl2 (ra.mono (e12.w wf))⟩
    cases ey
    exact ⟨wf_no wf hd1, by rw [upd_ne ne, upd_same]⟩
  refine codeAny_mono (G.run _ X.stack _ _ ⟨Value.ref z :: us, ks.zip ws⟩ (Value.ref z :: us ++ ws) _ _ (E σ) (hr.make C us (ks.zip ws)) (I2.env0.make C us (ks.zip ws)) (kb.to _ (Value.ref z :: us) ws I2.kIn (congrArg Nat.succ l1) l2) (kb.rel rv rz) q0) ?_
  rintro (er | fl) s' w
  · exact px pins _ _ er s' I2 w
  · rcases fl with _ | _ | _ | u
    all_goals first
      | exact w.elim
      | (obtain ⟨v, H', I3, rr, ev, q3⟩ := I2.after w
         subst ev
         exact ⟨rr, ⟨V.ref z, H', I3, rfl, q3⟩⟩)
/-- C(): no __init__ of its own, no dict -/
def exNF (c : Str) : FD := fun as S => match as with
  | [] => .ok (.exo c []) S
  | _ => .bad
theorem callee_exN {X : Cx} {c : Str} {L mk ini : String} {mL : List Value} (FL : ExcBaseFacts L mk ini mL) (hq : PySem.W.excIn X.K (He.ga X.K c) mL mk = true) : CalleeX X 0 (He.ga X.K c) 0 [] (exNF c) := by
  intro pins σ H s Q E us ws vs zs hr gd px I r rz l1 l2 ⟨O, S, as, wf, ra, hl, h⟩
  have e1 : us = [] := List.length_eq_zero_iff.mp l1
  have e2 : as = [] := List.length_eq_zero_iff.mp hl
  subst e1 e2
  obtain ⟨hp, g0, dr, tk, os⟩ := s
  obtain ⟨bm, N, nm, qn, bs, hdct, sn, sub, ab, col, dd, k0, k1, k2, k3, k5, mN, at1, hN, hni, ot⟩ := exc_obj I.kIn hq
  refine wpAny_call_exc_subT FL ot at1 hN hni (fun h2 e hx => ?_) (by show 0 ≤ sizeLine; exact Nat.zero_le _)
  obtain ⟨t, he, _, _⟩ := hx.there
  have hn : H e = none := I.hok.gone hx.new
  have off : ∀ {b : Addr} {u : HO}, H b = some u → b ≠ e := fun z y => by
    rw [y, hn] at z
    cases z
  have offh : ∀ {b : Addr} {u : Obj}, hp.get? b = some u → b ≠ e := fun z y => by
    have w := hx.new
    rw [y] at z
    cases w.symm.trans z
  have I2 : Inv X pins σ (upd H e (exo e (He.ga X.K c) none)) ⟨h2, g0, dr, tk, os⟩ := by
    refine I.un (t' := tk) (h' := h2) {
      keep := fun b ob z n _ _ => hx.keeps b ob z
      slot := fun b ob z n _ _ => ⟨ob.slots, hx.keeps b ob z⟩
      free := fun b ob z n _ => by rw [upd_ne (offh z), n]
      there := fun b ob z _ => ⟨ob, hx.keeps b ob z⟩
      tups := fun b xs z => by rw [upd_ne (off z), z]
      frzs := fun b ob v z => by rw [upd_ne (off z), z]
      tbls := fun b ps z => ⟨#[], by rw [upd_ne (off z), z]; simp⟩ } fun b ob z => ?_
    by_cases hb : b = e
    · subst hb
      rw [upd_same] at z
      cases z
      exact exo_ok he
    · rw [upd_ne hb] at z
      exact (I.hok b ob z).stay (fun b2 v _ z2 => hx.keeps b2 v z2) (fun b2 h3 => by rw [upd_ne (off h3), h3]) (fun b2 xs h3 => by rw [upd_ne (off h3), h3])
  have st0 : Stt X.K O H [] [] S := ⟨wf, .nil⟩
  obtain ⟨x1, st1⟩ := st0.new (o := exo e (He.ga X.K c) none) hn
  exact ⟨.ref e, _, I2, rfl, h _ _ _ x1 st1.wf ⟨e, none, [], rfl, wf_no wf hn, upd_same, fun y ey => (nomatch ey), fun _ => rfl, rfl⟩⟩
section
variable {X : Cx} {W : WX} {e : Expr} {pos p : Pos} {g : ME} {fa : MA}
/-! o.f -/
def dEf (f : Str) (cs : List Str) (g : ME) : ME := fun ρ S => (g ρ S).bind fun d S1 => match d with
  | .exo c fs => if c ∈ cs then (match fs.lookup f with
    | some d => .ok d S1
    | none => .bad) else .bad
  | _ => .bad
theorem de_ef {f : Str} {cs : List Str} (he : DE X W e g) (hc : ∀ c ∈ cs, XfC X.K (He.ga X.K c) ∧ PySem.W.findIn X.K (.ref (He.ga X.K c)) f = some none) (hb : attributeBase e f X.env (eval e X.env) = eval e X.env := by rfl) : DE X W (.Attribute e f pos) (dEf f cs g) := by
  refine ⟨⟨fun pins s σ H Q I ⟨O, ρ, S, st, h⟩ => ?_⟩⟩
  have run := he.pe.run pins s σ H (fun x H1 => ∃ a c dd vs v, x = .ref a ∧ XfC X.K (He.ga X.K c) ∧ PySem.W.findIn X.K (.ref (He.ga X.K c)) f = some none ∧ H1 a = some (exo a (He.ga X.K c) (some dd)) ∧ H1 dd = some (.xd vs) ∧ vs.lookup f = some v ∧ Q v H1) I ⟨O, ρ, S, st, After.seq h fun d S1 O1 H1 v e1 st1 r1 h1 => by
    cases d <;> try exact h1.elim
    rename_i c fs
    simp only at h1
    by_cases hm : c ∈ cs
    · rw [if_pos hm] at h1
      cases q : fs.lookup f with
      | none => simp only [q] at h1; exact h1.elim
      | some d =>
        simp only [q] at h1
        obtain ⟨a, dd, vs, rfl, _, ha, hd, hz, rf⟩ := r1
        obtain ⟨v, hv, rv⟩ := repF_lookup rf q
        cases dd with
        | none => rw [hz rfl] at hv; cases hv
        | some dd => exact ⟨a, c, dd, vs, v, rfl, (hc c hm).1, (hc c hm).2, ha, (hd dd rfl).2, hv, After.ok h1 st1 rv⟩
    · rw [if_neg hm] at h1; exact h1.elim⟩
  refine attr_of hb (thn run fun u s1 ⟨x, H1, I1, rx, a, c, dd, vs, v, ex, T, no, ha, hd, hv, q⟩ => ?_)
  subst ex
  cases rx
  obtain ⟨t1, at1⟩ := exo_at I1.hok ha
  obtain ⟨mA, hns, rel⟩ := (show ObjOk X.prog X.w H1 s1.heap dd (.xd vs) from I1.hok dd _ hd)
  obtain ⟨od, ho, hl⟩ := lookIn_ns hns
  obtain ⟨u2, hu, ru⟩ := RelO.some_of (v := v) (o := mA f) (by rw [← hv]; exact rel f)
  have J : PySem.W.InstAt s1.heap a { cls := .ref (He.ga X.K c), dict := some dd, data := .fields #[.ref t1, .none, .none, .none, .bool false, .none] } (He.ga X.K c) (some od) := ⟨at1, rfl, rfl, ho⟩
  exact HandSPX.exc_get I1.kIn J T.ga T.gg T.exC (PySem.W.findObj_own T.hdC no rfl (by rw [hl, hu])) (handed_of ru) ⟨v, H1, I1.tok _, ru, q⟩
/-! isinstance(o, C) -/
def oEi (kt : Str → D → Option Bool) : FD := fun ds S => match ds with
  | [.exo c _, t] => (match kt c t with
    | some b => .ok (.bl b) S
    | none => .bad)
  | _ => .bad
theorem c_oEi {kt : Str → D → Option Bool} (hk : ∀ c t b, kt c t = some b → XfC X.K (He.ga X.K c) ∧ kcB X.K (He.ga X.K c) = true ∧ ∃ cv, (∀ K O H v u, K = X.K → Rep K O H t v → RelV v u → u = cv) ∧ PySem.W.kitOne X.K (.ref (He.ga X.K c)) cv = some b) : CallR X (.builtin "isinstance") (RC X.K (oEi kt)) := by
  intro pins s σ H vs us Q I rv ⟨W, ρ, σ', O, S, ds, st, r, h⟩
  unfold oEi at h
  split at h
  · rename_i c fs t
    obtain ⟨v, u, rfl, r1, r2⟩ := r.two
    cases q : kt c t with
    | none => simp only [q] at h; exact h.elim
    | some b =>
      simp only [q] at h
      obtain ⟨T, kc, cv, hc, k1⟩ := hk c t b q
      obtain ⟨a, dd, vs', rfl, _, ha, hd, _, _⟩ := r1
      cases rv with
      | cons rx rr =>
        cases rr with
        | cons rt rr =>
          cases rr
          cases rx
          have ec := hc _ O H u _ rfl r2 rt
          subst ec
          obtain ⟨t1, at1⟩ := exo_at I.hok ha
          have J : ∃ od, PySem.W.InstAt s.heap a { cls := .ref (He.ga X.K c), dict := dd, data := .fields #[.ref t1, .none, .none, .none, .bool false, .none] } (He.ga X.K c) od := by
            cases dd with
            | none => exact ⟨none, at1, rfl, rfl, trivial⟩
            | some y =>
              obtain ⟨mA, hns, _⟩ := (show ObjOk X.prog X.w H s.heap y (.xd vs') from I.hok y _ (hd y rfl).2)
              obtain ⟨od, ho, _⟩ := lookIn_ns hns
              exact ⟨some od, at1, rfl, rfl, ho⟩
          obtain ⟨od, J⟩ := J
          exact PySem.W.kia_one (kcB_kit kc T) I.kIn J k1 (fun z => nomatch z) fun tk => ⟨.bl b, H, I.kept (t' := tk) fun _ _ z => z, rfl, After.ok h st rfl⟩
  · exact h.elim
/-- by tables -/
def ktE (cs : List Str) (tg : List ((Str × Str) × Bool)) (tt : List ((Str × String) × Bool)) : Str → D → Option Bool := fun c t => if c ∈ cs then ktD c tg tt t else none
def isB (cs : List Str) : Xb := fun K => cs.all fun c => xfB K (He.ga K c) && kcB K (He.ga K c)
theorem ktE_ok {cs : List Str} {tg : List ((Str × Str) × Bool)} {tt : List ((Str × String) × Bool)} (h0 : isB cs X.K = true) (h1 : xgB tg X.K = true) (h2 : xtB tt X.K = true) : ∀ c t b, ktE cs tg tt c t = some b →
    XfC X.K (He.ga X.K c) ∧ kcB X.K (He.ga X.K c) = true ∧ ∃ cv, (∀ K O H v u, K = X.K → Rep K O H t v → RelV v u → u = cv) ∧ PySem.W.kitOne X.K (.ref (He.ga X.K c)) cv = some b := fun c t b h => by
  unfold ktE at h
  by_cases hm : c ∈ cs
  · rw [if_pos hm] at h
    have z := List.all_eq_true.mp h0 c hm
    rw [Bool.and_eq_true] at z
    exact ⟨xfB_ok z.1, z.2, ktD_ok h1 h2 t b h⟩
  · rw [if_neg hm] at h; cases h
/-! enumerate(list) -/
def enumD : Nat → List D → List D
  | _, [] => []
  | i, d :: r => .tup [.int i, d] :: enumD (i + 1) r
theorem enumD_len : ∀ (ds : List D) (i : Nat), (enumD i ds).length = ds.length
  | [], _ => rfl
  | _ :: r, i => congrArg Nat.succ (enumD_len r (i + 1))
theorem enumD_get : ∀ (ds : List D) (i j : Nat) {d : D}, (enumD i ds)[j]? = some d → ∃ x, ds[j]? = some x ∧ d = .tup [.int ((i + j : Nat) : Int), x]
  | [], _, _, _, h => by cases h
  | x :: r, i, 0, d, h => by
    cases h
    exact ⟨x, rfl, rfl⟩
  | x :: r, i, j + 1, d, h => by
    obtain ⟨y, h1, h2⟩ := enumD_get r (i + 1) j (d := d) h
    exact ⟨y, h1, by rw [h2, show i + 1 + j = i + (j + 1) by omega]⟩
theorem walks_enum {K : PySem.W.Frag} {O : Ow} {H : Hp} {ds : List D} {xs : List V} {a : Addr} (na : O.no a) (h1 : H a = some (.lst xs)) (h2 : Reps K O H ds xs) {S0 : Sto} (w0 : WF K O H S0) : Walks K O H (enumD 0 ds) (Ite K a) := by
  intro O' H' S ρ σ e st i
  have hs : SqL K H' a xs := .inl (.inl ((e.w w0).keep _ _ na h1))
  have r := h2.mono (e.w w0)
  refine ⟨fun d hd => ?_, fun hi => ⟨xs, hs, by rw [hi, enumD_len, r.length]; exact Nat.le_refl _⟩⟩
  obtain ⟨x, hx, rfl⟩ := enumD_get ds 0 i hd
  obtain ⟨v, hv, rv⟩ := r.get hx
  refine ⟨⟨xs, v, hs, hv⟩, fun y H2 z => ?_⟩
  obtain ⟨T, v2, rfl, hT, rfl, hy⟩ := z
  have z := hy xs hs
  rw [hv] at z
  cases z
  obtain ⟨e1, st1⟩ := st.new (o := .tup [.int (i : Nat), v]) hT
  refine ⟨e1, fun ρ' σ' S' st' => (st'.new hT).2, ⟨T, _, rfl, .inl upd_same, _, _, rfl, ?_, v, [], rfl, rv.mono (e1.w st.wf), rfl⟩⟩
  rw [Nat.zero_add]
  exact rfl
def iEn (fa : MA) : MA := fun ρ S => (fa ρ S).bind fun ds S1 => match ds with
  | [.lst ds] => .ok (enumD 0 ds) S1
  | _ => .bad
theorem di_enum {elts : List Expr} {kk : Nat} {tpos : Pos} (hg : Gl X "enumerate") (hm : X.mg "enumerate" = none) (ha : DA X W [e] fa) (hs : starEach [e] X.env = [(false, eval e X.env)] := by rfl) : DI X W (.Tuple elts kk tpos) (.Call (.Name "enumerate" p) [e] [] pos) (iEn fa) :=
  ⟨PI.imp (pi_enum hg hm ha.pa hs) fun σ H R ⟨O, ρ, S, st, h⟩ => ⟨O, ρ, S, st, After.seq h fun ds S1 O1 H1 vs e1 st1 r1 h1 => by
    rcases ds with _ | ⟨d, _ | ⟨d2, ds⟩⟩
    · exact h1.elim
    · cases d <;> try exact h1.elim
      rename_i ds
      obtain ⟨v, rfl, r⟩ := r1.one
      obtain ⟨a, xs, rfl, na, ha, rr⟩ := r
      exact ⟨a, xs, rfl, .inl (.inl ha), After.ok h1 st1 (walks_enum na ha rr st1.wf)⟩
    · cases d <;> exact h1.elim⟩⟩
end
end XN

set_option maxHeartbeats 4000000
/-! own exceptions: the checks, the calls, as the printer wants them -/
namespace XN
open PySem PySem.Spec PyProof.Rows L2 DE
def o1 (f : Str) : List D → List (Str × D)
  | [d] => [(f, d)]
  | _ => []
def o2 (f g : Str) : List D → List (Str × D)
  | [d, e] => [(g, e), (f, d)]
  | _ => []
def v1 (f : Str) : List V → List (Str × V)
  | [d] => [(f, d)]
  | _ => []
def v2 (f g : Str) : List V → List (Str × V)
  | [d, e] => [(g, e), (f, d)]
  | _ => []
def xE (c : Str) (fs : List Str) : Xb := fun K => exgB K (He.ga K c) && (fs.all (fun f => decide (PySem.W.findIn K (.ref (He.ga K c)) f = some none)) &&
  (decide (PySem.W.findIn K (.ref (He.ga K c)) "__init__" = some (some (.ref (He.fAd K (c, some "__init__"))))) && decide (PySem.W.typeIn K (.ref (He.fAd K (c, some "__init__"))) = some (.type "function"))))
structure XE (K : PySem.W.Frag) (c : Str) (fs : List Str) : Prop where
  o : OexG K (He.ga K c)
  n : ∀ f ∈ fs, PySem.W.findIn K (.ref (He.ga K c)) f = some none
  i : PySem.W.findIn K (.ref (He.ga K c)) "__init__" = some (some (.ref (He.fAd K (c, some "__init__"))))
  t : PySem.W.typeIn K (.ref (He.fAd K (c, some "__init__"))) = some (.type "function")
theorem xE_ok {K : PySem.W.Frag} {c : Str} {fs : List Str} (h : xE c fs K = true) : XE K c fs := by
  unfold xE at h
  simp only [Bool.and_eq_true, decide_eq_true_eq] at h
  obtain ⟨h1, h2, h3, h4⟩ := h
  exact ⟨exgB_ok h1, fun f hf => of_decide_eq_true (List.all_eq_true.mp h2 f hf), h3, h4⟩
section
variable {X : Cx} {c f g qual : Str} {n : Nat} {ks : List Str} {params : Arguments} {scope : Scope} {kws : List (Str × V)} {fd : FuncData} {p1 p2 p3 p4 q1 q2 q3 q4 : Pos} {body : List Stmt}
theorem mk1 (E : XE X.K c [f]) (F : FunD X.K "__init__" qual params body scope [] kws (He.fAd X.K (c, some "__init__")) fd) (hb : body = [.Assign [.Attribute (.Name "self" p1) f p2] (.Name "value" p3) p4]) (S : FnScope ["self", "value"] ["self", "value"] scope)
    (h1 : scope.names.lookup ("self" : Str) = some .local) (h2 : scope.names.lookup ("value" : Str) = some .local) (kb : KBn X.K fd ["self", "value"] (n + 1) ks (fun us ws => us ++ ws) (fun vs zs => vs ++ zs)) (hn : n + ks.length = 1) : CalleeX X 2 (He.ga X.K c) n ks (exF c 1 (o1 f)) :=
  callee_ex (k := 1) (out := v1 f) E.o E.i E.t (in1_of F hb S h1 h2) kb hn (by omega)
    (fun a vs H Q E' hl ha q => match vs, hl, q with
      | [v], _, q => ⟨a, _, v, rfl, E.o, E.n f (by simp), ha, q⟩)
    (fun O H ds vs hl r => match ds, hl, r with
      | [d], _, r => by
        obtain ⟨v, rfl, rv⟩ := r.one
        exact ⟨v, [], rfl, rv, rfl⟩)
theorem mk2 (E : XE X.K c [f, g]) (F : FunD X.K "__init__" qual params body scope [] kws (He.fAd X.K (c, some "__init__")) fd)
    (hb : body = [.Assign [.Attribute (.Name "self" p1) f p2] (.Name "word" p3) p4, .Assign [.Attribute (.Name "self" q1) g q2] (.Name "value" q3) q4]) (S : FnScope ["self", "word", "value"] ["self", "word", "value"] scope)
    (h1 : scope.names.lookup ("self" : Str) = some .local) (h2 : scope.names.lookup ("word" : Str) = some .local) (h3 : scope.names.lookup ("value" : Str) = some .local)
    (kb : KBn X.K fd ["self", "word", "value"] (n + 1) ks (fun us ws => us ++ ws) (fun vs zs => vs ++ zs)) (hn : n + ks.length = 2) : CalleeX X 2 (He.ga X.K c) n ks (exF c 2 (o2 f g)) :=
  callee_ex (k := 1) (out := v2 f g) E.o E.i E.t (in2_of F hb S h1 h2 h3) kb hn (by omega)
    (fun a vs H Q E' hl ha q => match vs, hl, q with
      | [v, u], _, q => ⟨a, _, v, u, rfl, E.o, E.n f (by simp), E.n g (by simp), ha, q⟩)
    (fun O H ds vs hl r => match ds, hl, r with
      | [d, e], _, r => by
        obtain ⟨v, u, rfl, r1, r2⟩ := r.two
        exact ⟨u, _, rfl, r2, v, [], rfl, r1, rfl⟩)
end
/-- a class without __init__, over RuntimeError -/
def xN (c : Str) : Xb := fun K => PySem.W.excIn K (He.ga K c) rT "RuntimeError.__new__" && PySem.W.keepIn K (.ref (He.ga K c))
theorem xN_ok {K : PySem.W.Frag} {c : Str} (h : xN c K = true) : PySem.W.excIn K (He.ga K c) rT "RuntimeError.__new__" = true ∧ PySem.W.keepIn K (.ref (He.ga K c)) = true := Bool.and_eq_true_iff.mp h
theorem mkN {X : Cx} {c : Str} (h : xN c X.K = true) : CalleeX X 0 (He.ga X.K c) 0 [] (exNF c) := callee_exN F.excBase_RuntimeError (xN_ok h).1
/-- the field f of these classes' exceptions -/
def efB (f : Str) (cs : List Str) : Xb := fun K => cs.all fun c => xfB K (He.ga K c) && decide (PySem.W.findIn K (.ref (He.ga K c)) f = some none)
theorem efB_ok {K : PySem.W.Frag} {f : Str} {cs : List Str} (h : efB f cs K = true) : ∀ c ∈ cs, XfC K (He.ga K c) ∧ PySem.W.findIn K (.ref (He.ga K c)) f = some none := fun c hc => by
  have z := List.all_eq_true.mp h c hc
  rw [Bool.and_eq_true] at z
  exact ⟨xfB_ok z.1, of_decide_eq_true z.2⟩
/-! calls with keywords alone -/
def dKK (m : Nat) (F : FD) (fk : MA) : ME := fun ρ S => (fk ρ S).bind fun es S1 => if es.length = m then F es S1 else .bad
section
variable {X : Cx} {W : WX} {x : Str} {p pos : Pos} {kws : List Keyword} {j k : Nat} {f : Addr} {ks : List Str} {fk : MA} {F : FD}
theorem de_kk (C : CalleeX X k f 0 ks F) (hr : Room j X.A) (gd : X.A.guards = some []) (hg : Gl X x) (hm : X.mg x = some (.ref f)) (hk : PySem.W.keepIn X.K (.ref f) = true) (tk : Takes X W) (hkw : DKw X W kws fk) (hj : k ≤ j := by decide)
    (hall : (backToKw pos (keywordEach kws X.env)).all (·.1.isSome) = true := by rfl) (hks : (backToKw pos (keywordEach kws X.env)).filterMap (·.1) = ks := by rfl) (hdb : (x == ("__debug__" : Str)) = false := by decide)
    (hpl : ((backTo pos (starEach [] X.env)).any (·.1) || (backToKw pos (keywordEach kws X.env)).any (·.1.isNone)) = false := by rfl) : DE X W (.Call (.Name x p) [] kws pos) (dKK ks.length F fk) := by
  refine ⟨⟨fun pins s σ H Q I ⟨O, ρ, S, st, h⟩ => ?_⟩⟩
  refine wpAny_Call_Name_kw (ld_glob I hg hm ?_ hdb)
  have hq : tA X.K W fk σ H (fun zs H2 => zs.length = ks.length ∧ spD X.K (0 + ks.length) F ([] ++ zs) H2 Q (WE W σ)) := ⟨O, ρ, S, st, After.seq h fun es S2 O2 H2 zs e2 st2 r2 h2 => by
    by_cases hl : es.length = ks.length
    · rw [if_pos hl] at h2
      exact ⟨r2.length.symm.trans hl, sp_of st2 r2 (hl.trans (Nat.zero_add _).symm) h2⟩
    · rw [if_neg hl] at h2; exact h2.elim⟩
  refine PySem.W.callWith_KW0 (h₀ := X.base) I.ok.mod.kin hk hall (thn (hkw.pk.run pos pins s σ H _ I hq) fun ws s2 ⟨zs, H2, I2, rz, l2, q2⟩ => ⟨I2.kIn, ?_⟩) hpl
  rw [hks]
  exact C pins σ H2 s2 Q (WE W) [] ws [] zs (hr.mono hj) gd (passAt tk σ) I2 .nil rz rfl (rz.length.symm.trans l2) q2
end
end XN

set_option maxHeartbeats 4000000
namespace G
open PySem PySem.Spec PyProof.Rows L2 DE
def top (i : Nat) : Stmt := PySem.Challenge.pw_tombkeeper_k03_exceptions_apart.main.body.getD i (.Pass ⟨0, 0, 0, 0⟩)
abbrev s_law_pool : Stmt := top 29
abbrev s_law_take : Stmt := top 30
abbrev s_law_made : Stmt := top 31
abbrev s_law_kinds : Stmt := top 32
abbrev s_law_classes : Stmt := top 33
abbrev s_law : Stmt := top 34
def d_law_pool : He.DefD := ⟨("_law_pool", none), "_law_pool", "_law_pool", defArgs s_law_pool, defBody s_law_pool, defScope s_law_pool, [], []⟩
def d_law_take : He.DefD := ⟨("_law_take", none), "_law_take", "_law_take", defArgs s_law_take, defBody s_law_take, defScope s_law_take, [], []⟩
def d_law_made : He.DefD := ⟨("_law_made", none), "_law_made", "_law_made", defArgs s_law_made, defBody s_law_made, defScope s_law_made, [], []⟩
def d_law_kinds : He.DefD := ⟨("_law_kinds", none), "_law_kinds", "_law_kinds", defArgs s_law_kinds, defBody s_law_kinds, defScope s_law_kinds, [], []⟩
def d_law_classes : He.DefD := ⟨("_law_classes", none), "_law_classes", "_law_classes", defArgs s_law_classes, defBody s_law_classes, defScope s_law_classes, [], []⟩
def d_law : He.DefD := ⟨("law", none), "law", "law", defArgs s_law, defBody s_law, defScope s_law, [], []⟩
abbrev s_i_BadEntry : Stmt := clsDef (top 2)
def d_i_BadEntry : He.DefD := ⟨("BadEntry", some "__init__"), "__init__", "BadEntry.__init__", defArgs s_i_BadEntry, defBody s_i_BadEntry, defScope s_i_BadEntry, [], []⟩
theorem sc_i_BadEntry : FnScope ["self", "value"] ["self", "value"] (defScope s_i_BadEntry) := ⟨rfl, rfl, rfl, by decide +kernel, rfl, by decide +kernel, by decide +kernel⟩
abbrev s_i_BadEntries : Stmt := clsDef (top 3)
def d_i_BadEntries : He.DefD := ⟨("BadEntries", some "__init__"), "__init__", "BadEntries.__init__", defArgs s_i_BadEntries, defBody s_i_BadEntries, defScope s_i_BadEntries, [], []⟩
theorem sc_i_BadEntries : FnScope ["self", "value"] ["self", "value"] (defScope s_i_BadEntries) := ⟨rfl, rfl, rfl, by decide +kernel, rfl, by decide +kernel, by decide +kernel⟩
abbrev s_i_BadText : Stmt := clsDef (top 4)
def d_i_BadText : He.DefD := ⟨("BadText", some "__init__"), "__init__", "BadText.__init__", defArgs s_i_BadText, defBody s_i_BadText, defScope s_i_BadText, [], []⟩
theorem sc_i_BadText : FnScope ["self", "value"] ["self", "value"] (defScope s_i_BadText) := ⟨rfl, rfl, rfl, by decide +kernel, rfl, by decide +kernel, by decide +kernel⟩
abbrev s_i_BadEvent : Stmt := clsDef (top 5)
def d_i_BadEvent : He.DefD := ⟨("BadEvent", some "__init__"), "__init__", "BadEvent.__init__", defArgs s_i_BadEvent, defBody s_i_BadEvent, defScope s_i_BadEvent, [], []⟩
theorem sc_i_BadEvent : FnScope ["self", "value"] ["self", "value"] (defScope s_i_BadEvent) := ⟨rfl, rfl, rfl, by decide +kernel, rfl, by decide +kernel, by decide +kernel⟩
abbrev s_i_BadWorld : Stmt := clsDef (top 6)
def d_i_BadWorld : He.DefD := ⟨("BadWorld", some "__init__"), "__init__", "BadWorld.__init__", defArgs s_i_BadWorld, defBody s_i_BadWorld, defScope s_i_BadWorld, [], []⟩
theorem sc_i_BadWorld : FnScope ["self", "value"] ["self", "value"] (defScope s_i_BadWorld) := ⟨rfl, rfl, rfl, by decide +kernel, rfl, by decide +kernel, by decide +kernel⟩
abbrev s_i_BadKey : Stmt := clsDef (top 7)
def d_i_BadKey : He.DefD := ⟨("BadKey", some "__init__"), "__init__", "BadKey.__init__", defArgs s_i_BadKey, defBody s_i_BadKey, defScope s_i_BadKey, [], []⟩
theorem sc_i_BadKey : FnScope ["self", "value"] ["self", "value"] (defScope s_i_BadKey) := ⟨rfl, rfl, rfl, by decide +kernel, rfl, by decide +kernel, by decide +kernel⟩
abbrev s_i_BadStamp : Stmt := clsDef (top 8)
def d_i_BadStamp : He.DefD := ⟨("BadStamp", some "__init__"), "__init__", "BadStamp.__init__", defArgs s_i_BadStamp, defBody s_i_BadStamp, defScope s_i_BadStamp, [], []⟩
theorem sc_i_BadStamp : FnScope ["self", "value"] ["self", "value"] (defScope s_i_BadStamp) := ⟨rfl, rfl, rfl, by decide +kernel, rfl, by decide +kernel, by decide +kernel⟩
abbrev s_i_BadHomes : Stmt := clsDef (top 9)
def d_i_BadHomes : He.DefD := ⟨("BadHomes", some "__init__"), "__init__", "BadHomes.__init__", defArgs s_i_BadHomes, defBody s_i_BadHomes, defScope s_i_BadHomes, [], []⟩
theorem sc_i_BadHomes : FnScope ["self", "value"] ["self", "value"] (defScope s_i_BadHomes) := ⟨rfl, rfl, rfl, by decide +kernel, rfl, by decide +kernel, by decide +kernel⟩
abbrev s_i_BadRow : Stmt := clsDef (top 10)
def d_i_BadRow : He.DefD := ⟨("BadRow", some "__init__"), "__init__", "BadRow.__init__", defArgs s_i_BadRow, defBody s_i_BadRow, defScope s_i_BadRow, [], []⟩
theorem sc_i_BadRow : FnScope ["self", "value"] ["self", "value"] (defScope s_i_BadRow) := ⟨rfl, rfl, rfl, by decide +kernel, rfl, by decide +kernel, by decide +kernel⟩
abbrev s_i_BadStory : Stmt := clsDef (top 11)
def d_i_BadStory : He.DefD := ⟨("BadStory", some "__init__"), "__init__", "BadStory.__init__", defArgs s_i_BadStory, defBody s_i_BadStory, defScope s_i_BadStory, [], []⟩
theorem sc_i_BadStory : FnScope ["self", "value"] ["self", "value"] (defScope s_i_BadStory) := ⟨rfl, rfl, rfl, by decide +kernel, rfl, by decide +kernel, by decide +kernel⟩
abbrev s_i_BadLimit : Stmt := clsDef (top 12)
def d_i_BadLimit : He.DefD := ⟨("BadLimit", some "__init__"), "__init__", "BadLimit.__init__", defArgs s_i_BadLimit, defBody s_i_BadLimit, defScope s_i_BadLimit, [], []⟩
theorem sc_i_BadLimit : FnScope ["self", "value"] ["self", "value"] (defScope s_i_BadLimit) := ⟨rfl, rfl, rfl, by decide +kernel, rfl, by decide +kernel, by decide +kernel⟩
abbrev s_i_BadPolicy : Stmt := clsDef (top 13)
def d_i_BadPolicy : He.DefD := ⟨("BadPolicy", some "__init__"), "__init__", "BadPolicy.__init__", defArgs s_i_BadPolicy, defBody s_i_BadPolicy, defScope s_i_BadPolicy, [], []⟩
theorem sc_i_BadPolicy : FnScope ["self", "value"] ["self", "value"] (defScope s_i_BadPolicy) := ⟨rfl, rfl, rfl, by decide +kernel, rfl, by decide +kernel, by decide +kernel⟩
abbrev s_i_BadKeys : Stmt := clsDef (top 14)
def d_i_BadKeys : He.DefD := ⟨("BadKeys", some "__init__"), "__init__", "BadKeys.__init__", defArgs s_i_BadKeys, defBody s_i_BadKeys, defScope s_i_BadKeys, [], []⟩
theorem sc_i_BadKeys : FnScope ["self", "value"] ["self", "value"] (defScope s_i_BadKeys) := ⟨rfl, rfl, rfl, by decide +kernel, rfl, by decide +kernel, by decide +kernel⟩
abbrev s_i_BadDepth : Stmt := clsDef (top 15)
def d_i_BadDepth : He.DefD := ⟨("BadDepth", some "__init__"), "__init__", "BadDepth.__init__", defArgs s_i_BadDepth, defBody s_i_BadDepth, defScope s_i_BadDepth, [], []⟩
theorem sc_i_BadDepth : FnScope ["self", "value"] ["self", "value"] (defScope s_i_BadDepth) := ⟨rfl, rfl, rfl, by decide +kernel, rfl, by decide +kernel, by decide +kernel⟩
abbrev s_i_BadSkips : Stmt := clsDef (top 16)
def d_i_BadSkips : He.DefD := ⟨("BadSkips", some "__init__"), "__init__", "BadSkips.__init__", defArgs s_i_BadSkips, defBody s_i_BadSkips, defScope s_i_BadSkips, [], []⟩
theorem sc_i_BadSkips : FnScope ["self", "value"] ["self", "value"] (defScope s_i_BadSkips) := ⟨rfl, rfl, rfl, by decide +kernel, rfl, by decide +kernel, by decide +kernel⟩
abbrev s_i_BadPlan : Stmt := clsDef (top 17)
def d_i_BadPlan : He.DefD := ⟨("BadPlan", some "__init__"), "__init__", "BadPlan.__init__", defArgs s_i_BadPlan, defBody s_i_BadPlan, defScope s_i_BadPlan, [], []⟩
theorem sc_i_BadPlan : FnScope ["self", "value"] ["self", "value"] (defScope s_i_BadPlan) := ⟨rfl, rfl, rfl, by decide +kernel, rfl, by decide +kernel, by decide +kernel⟩
abbrev s_i_BadQuestion : Stmt := clsDef (top 18)
def d_i_BadQuestion : He.DefD := ⟨("BadQuestion", some "__init__"), "__init__", "BadQuestion.__init__", defArgs s_i_BadQuestion, defBody s_i_BadQuestion, defScope s_i_BadQuestion, [], []⟩
theorem sc_i_BadQuestion : FnScope ["self", "value"] ["self", "value"] (defScope s_i_BadQuestion) := ⟨rfl, rfl, rfl, by decide +kernel, rfl, by decide +kernel, by decide +kernel⟩
abbrev s_i_BadLine : Stmt := clsDef (top 19)
def d_i_BadLine : He.DefD := ⟨("BadLine", some "__init__"), "__init__", "BadLine.__init__", defArgs s_i_BadLine, defBody s_i_BadLine, defScope s_i_BadLine, [], []⟩
theorem sc_i_BadLine : FnScope ["self", "value"] ["self", "value"] (defScope s_i_BadLine) := ⟨rfl, rfl, rfl, by decide +kernel, rfl, by decide +kernel, by decide +kernel⟩
abbrev s_i_NotARun : Stmt := clsDef (top 20)
def d_i_NotARun : He.DefD := ⟨("NotARun", some "__init__"), "__init__", "NotARun.__init__", defArgs s_i_NotARun, defBody s_i_NotARun, defScope s_i_NotARun, [], []⟩
theorem sc_i_NotARun : FnScope ["self", "value"] ["self", "value"] (defScope s_i_NotARun) := ⟨rfl, rfl, rfl, by decide +kernel, rfl, by decide +kernel, by decide +kernel⟩
abbrev s_i_NoMoment : Stmt := clsDef (top 21)
def d_i_NoMoment : He.DefD := ⟨("NoMoment", some "__init__"), "__init__", "NoMoment.__init__", defArgs s_i_NoMoment, defBody s_i_NoMoment, defScope s_i_NoMoment, [], []⟩
theorem sc_i_NoMoment : FnScope ["self", "value"] ["self", "value"] (defScope s_i_NoMoment) := ⟨rfl, rfl, rfl, by decide +kernel, rfl, by decide +kernel, by decide +kernel⟩
abbrev s_i_TooLong : Stmt := clsDef (top 22)
def d_i_TooLong : He.DefD := ⟨("TooLong", some "__init__"), "__init__", "TooLong.__init__", defArgs s_i_TooLong, defBody s_i_TooLong, defScope s_i_TooLong, [], []⟩
theorem sc_i_TooLong : FnScope ["self", "value"] ["self", "value"] (defScope s_i_TooLong) := ⟨rfl, rfl, rfl, by decide +kernel, rfl, by decide +kernel, by decide +kernel⟩
abbrev s_i_NoEntry : Stmt := clsDef (top 23)
def d_i_NoEntry : He.DefD := ⟨("NoEntry", some "__init__"), "__init__", "NoEntry.__init__", defArgs s_i_NoEntry, defBody s_i_NoEntry, defScope s_i_NoEntry, [], []⟩
theorem sc_i_NoEntry : FnScope ["self", "value"] ["self", "value"] (defScope s_i_NoEntry) := ⟨rfl, rfl, rfl, by decide +kernel, rfl, by decide +kernel, by decide +kernel⟩
abbrev s_i_NoHome : Stmt := clsDef (top 24)
def d_i_NoHome : He.DefD := ⟨("NoHome", some "__init__"), "__init__", "NoHome.__init__", defArgs s_i_NoHome, defBody s_i_NoHome, defScope s_i_NoHome, [], []⟩
theorem sc_i_NoHome : FnScope ["self", "value"] ["self", "value"] (defScope s_i_NoHome) := ⟨rfl, rfl, rfl, by decide +kernel, rfl, by decide +kernel, by decide +kernel⟩
abbrev s_i_NoLink : Stmt := clsDef (top 25)
def d_i_NoLink : He.DefD := ⟨("NoLink", some "__init__"), "__init__", "NoLink.__init__", defArgs s_i_NoLink, defBody s_i_NoLink, defScope s_i_NoLink, [], []⟩
theorem sc_i_NoLink : FnScope ["self", "value"] ["self", "value"] (defScope s_i_NoLink) := ⟨rfl, rfl, rfl, by decide +kernel, rfl, by decide +kernel, by decide +kernel⟩
abbrev s_i_Refused : Stmt := clsDef (top 26)
def d_i_Refused : He.DefD := ⟨("Refused", some "__init__"), "__init__", "Refused.__init__", defArgs s_i_Refused, defBody s_i_Refused, defScope s_i_Refused, [], []⟩
theorem sc_i_Refused : FnScope ["self", "word", "value"] ["self", "word", "value"] (defScope s_i_Refused) := ⟨rfl, rfl, rfl, by decide +kernel, rfl, by decide +kernel, by decide +kernel⟩
def fn : List He.DefD := [d_law_pool, d_law_take, d_law_made, d_law_kinds, d_law_classes, d_law, d_i_BadEntry, d_i_BadEntries, d_i_BadText, d_i_BadEvent, d_i_BadWorld, d_i_BadKey, d_i_BadStamp, d_i_BadHomes, d_i_BadRow, d_i_BadStory, d_i_BadLimit, d_i_BadPolicy, d_i_BadKeys, d_i_BadDepth, d_i_BadSkips, d_i_BadPlan, d_i_BadQuestion, d_i_BadLine, d_i_NotARun, d_i_NoMoment, d_i_TooLong, d_i_NoEntry, d_i_NoHome, d_i_NoLink, d_i_Refused]
def fa : List He.Fa := [.free "len", .glo "_law_pool", .glo "_law_take", .free "RuntimeError", .free "isinstance", .free "KeyError", .free "ValueError", .glo "TombError", .glo "_law_kinds", .glo "Refused", .glo "NoLink", .glo "NoHome", .glo "NoEntry", .glo "TooLong", .glo "NoMoment", .glo "NotARun", .glo "BadLine", .glo "BadQuestion", .glo "BadPlan", .glo "BadSkips", .glo "BadDepth", .glo "BadKeys", .glo "BadPolicy", .glo "BadLimit", .glo "BadStory", .glo "BadRow", .glo "BadHomes", .glo "BadStamp", .glo "BadKey", .glo "BadWorld", .glo "BadEvent", .glo "BadText", .glo "BadEntries", .glo "BadEntry", .glo "_law_classes", .glo "_law_made", .free "min", .free "max", .free "range", .glo "NoWorld", .free "repr", .free "enumerate", .glo "law"]
def TG0 : List ((Str × Str) × Bool) := [(("BadDepth", "BadDepth"), true), (("BadDepth", "BadEntries"), false), (("BadDepth", "BadEntry"), false), (("BadDepth", "BadEvent"), false), (("BadDepth", "BadHomes"), false), (("BadDepth", "BadKey"), false), (("BadDepth", "BadKeys"), false), (("BadDepth", "BadLimit"), false), (("BadDepth", "BadLine"), false), (("BadDepth", "BadPlan"), false), (("BadDepth", "BadPolicy"), false), (("BadDepth", "BadQuestion"), false), (("BadDepth", "BadRow"), false), (("BadDepth", "BadSkips"), false), (("BadDepth", "BadStamp"), false), (("BadDepth", "BadStory"), false), (("BadDepth", "BadText"), false), (("BadDepth", "BadWorld"), false), (("BadDepth", "NoEntry"), false), (("BadDepth", "NoHome"), false)]
def TG1 : List ((Str × Str) × Bool) := [(("BadDepth", "NoLink"), false), (("BadDepth", "NoMoment"), false), (("BadDepth", "NotARun"), false), (("BadDepth", "Refused"), false), (("BadDepth", "TombError"), true), (("BadDepth", "TooLong"), false), (("BadEntries", "BadDepth"), false), (("BadEntries", "BadEntries"), true), (("BadEntries", "BadEntry"), false), (("BadEntries", "BadEvent"), false), (("BadEntries", "BadHomes"), false), (("BadEntries", "BadKey"), false), (("BadEntries", "BadKeys"), false), (("BadEntries", "BadLimit"), false), (("BadEntries", "BadLine"), false), (("BadEntries", "BadPlan"), false), (("BadEntries", "BadPolicy"), false), (("BadEntries", "BadQuestion"), false), (("BadEntries", "BadRow"), false), (("BadEntries", "BadSkips"), false)]
def TG2 : List ((Str × Str) × Bool) := [(("BadEntries", "BadStamp"), false), (("BadEntries", "BadStory"), false), (("BadEntries", "BadText"), false), (("BadEntries", "BadWorld"), false), (("BadEntries", "NoEntry"), false), (("BadEntries", "NoHome"), false), (("BadEntries", "NoLink"), false), (("BadEntries", "NoMoment"), false), (("BadEntries", "NotARun"), false), (("BadEntries", "Refused"), false), (("BadEntries", "TombError"), true), (("BadEntries", "TooLong"), false), (("BadEntry", "BadDepth"), false), (("BadEntry", "BadEntries"), false), (("BadEntry", "BadEntry"), true), (("BadEntry", "BadEvent"), false), (("BadEntry", "BadHomes"), false), (("BadEntry", "BadKey"), false), (("BadEntry", "BadKeys"), false), (("BadEntry", "BadLimit"), false)]
def TG3 : List ((Str × Str) × Bool) := [(("BadEntry", "BadLine"), false), (("BadEntry", "BadPlan"), false), (("BadEntry", "BadPolicy"), false), (("BadEntry", "BadQuestion"), false), (("BadEntry", "BadRow"), false), (("BadEntry", "BadSkips"), false), (("BadEntry", "BadStamp"), false), (("BadEntry", "BadStory"), false), (("BadEntry", "BadText"), false), (("BadEntry", "BadWorld"), false), (("BadEntry", "NoEntry"), false), (("BadEntry", "NoHome"), false), (("BadEntry", "NoLink"), false), (("BadEntry", "NoMoment"), false), (("BadEntry", "NotARun"), false), (("BadEntry", "Refused"), false), (("BadEntry", "TombError"), true), (("BadEntry", "TooLong"), false), (("BadEvent", "BadDepth"), false), (("BadEvent", "BadEntries"), false)]
def TG4 : List ((Str × Str) × Bool) := [(("BadEvent", "BadEntry"), false), (("BadEvent", "BadEvent"), true), (("BadEvent", "BadHomes"), false), (("BadEvent", "BadKey"), false), (("BadEvent", "BadKeys"), false), (("BadEvent", "BadLimit"), false), (("BadEvent", "BadLine"), false), (("BadEvent", "BadPlan"), false), (("BadEvent", "BadPolicy"), false), (("BadEvent", "BadQuestion"), false), (("BadEvent", "BadRow"), false), (("BadEvent", "BadSkips"), false), (("BadEvent", "BadStamp"), false), (("BadEvent", "BadStory"), false), (("BadEvent", "BadText"), false), (("BadEvent", "BadWorld"), false), (("BadEvent", "NoEntry"), false), (("BadEvent", "NoHome"), false), (("BadEvent", "NoLink"), false), (("BadEvent", "NoMoment"), false)]
def TG5 : List ((Str × Str) × Bool) := [(("BadEvent", "NotARun"), false), (("BadEvent", "Refused"), false), (("BadEvent", "TombError"), true), (("BadEvent", "TooLong"), false), (("BadHomes", "BadDepth"), false), (("BadHomes", "BadEntries"), false), (("BadHomes", "BadEntry"), false), (("BadHomes", "BadEvent"), false), (("BadHomes", "BadHomes"), true), (("BadHomes", "BadKey"), false), (("BadHomes", "BadKeys"), false), (("BadHomes", "BadLimit"), false), (("BadHomes", "BadLine"), false), (("BadHomes", "BadPlan"), false), (("BadHomes", "BadPolicy"), false), (("BadHomes", "BadQuestion"), false), (("BadHomes", "BadRow"), false), (("BadHomes", "BadSkips"), false), (("BadHomes", "BadStamp"), false), (("BadHomes", "BadStory"), false)]
def TG6 : List ((Str × Str) × Bool) := [(("BadHomes", "BadText"), false), (("BadHomes", "BadWorld"), false), (("BadHomes", "NoEntry"), false), (("BadHomes", "NoHome"), false), (("BadHomes", "NoLink"), false), (("BadHomes", "NoMoment"), false), (("BadHomes", "NotARun"), false), (("BadHomes", "Refused"), false), (("BadHomes", "TombError"), true), (("BadHomes", "TooLong"), false), (("BadKey", "BadDepth"), false), (("BadKey", "BadEntries"), false), (("BadKey", "BadEntry"), false), (("BadKey", "BadEvent"), false), (("BadKey", "BadHomes"), false), (("BadKey", "BadKey"), true), (("BadKey", "BadKeys"), false), (("BadKey", "BadLimit"), false), (("BadKey", "BadLine"), false), (("BadKey", "BadPlan"), false)]
def TG7 : List ((Str × Str) × Bool) := [(("BadKey", "BadPolicy"), false), (("BadKey", "BadQuestion"), false), (("BadKey", "BadRow"), false), (("BadKey", "BadSkips"), false), (("BadKey", "BadStamp"), false), (("BadKey", "BadStory"), false), (("BadKey", "BadText"), false), (("BadKey", "BadWorld"), false), (("BadKey", "NoEntry"), false), (("BadKey", "NoHome"), false), (("BadKey", "NoLink"), false), (("BadKey", "NoMoment"), false), (("BadKey", "NotARun"), false), (("BadKey", "Refused"), false), (("BadKey", "TombError"), true), (("BadKey", "TooLong"), false), (("BadKeys", "BadDepth"), false), (("BadKeys", "BadEntries"), false), (("BadKeys", "BadEntry"), false), (("BadKeys", "BadEvent"), false)]
def TG8 : List ((Str × Str) × Bool) := [(("BadKeys", "BadHomes"), false), (("BadKeys", "BadKey"), false), (("BadKeys", "BadKeys"), true), (("BadKeys", "BadLimit"), false), (("BadKeys", "BadLine"), false), (("BadKeys", "BadPlan"), false), (("BadKeys", "BadPolicy"), false), (("BadKeys", "BadQuestion"), false), (("BadKeys", "BadRow"), false), (("BadKeys", "BadSkips"), false), (("BadKeys", "BadStamp"), false), (("BadKeys", "BadStory"), false), (("BadKeys", "BadText"), false), (("BadKeys", "BadWorld"), false), (("BadKeys", "NoEntry"), false), (("BadKeys", "NoHome"), false), (("BadKeys", "NoLink"), false), (("BadKeys", "NoMoment"), false), (("BadKeys", "NotARun"), false), (("BadKeys", "Refused"), false)]
def TG9 : List ((Str × Str) × Bool) := [(("BadKeys", "TombError"), true), (("BadKeys", "TooLong"), false), (("BadLimit", "BadDepth"), false), (("BadLimit", "BadEntries"), false), (("BadLimit", "BadEntry"), false), (("BadLimit", "BadEvent"), false), (("BadLimit", "BadHomes"), false), (("BadLimit", "BadKey"), false), (("BadLimit", "BadKeys"), false), (("BadLimit", "BadLimit"), true), (("BadLimit", "BadLine"), false), (("BadLimit", "BadPlan"), false), (("BadLimit", "BadPolicy"), false), (("BadLimit", "BadQuestion"), false), (("BadLimit", "BadRow"), false), (("BadLimit", "BadSkips"), false), (("BadLimit", "BadStamp"), false), (("BadLimit", "BadStory"), false), (("BadLimit", "BadText"), false), (("BadLimit", "BadWorld"), false)]
def TG10 : List ((Str × Str) × Bool) := [(("BadLimit", "NoEntry"), false), (("BadLimit", "NoHome"), false), (("BadLimit", "NoLink"), false), (("BadLimit", "NoMoment"), false), (("BadLimit", "NotARun"), false), (("BadLimit", "Refused"), false), (("BadLimit", "TombError"), true), (("BadLimit", "TooLong"), false), (("BadLine", "BadDepth"), false), (("BadLine", "BadEntries"), false), (("BadLine", "BadEntry"), false), (("BadLine", "BadEvent"), false), (("BadLine", "BadHomes"), false), (("BadLine", "BadKey"), false), (("BadLine", "BadKeys"), false), (("BadLine", "BadLimit"), false), (("BadLine", "BadLine"), true), (("BadLine", "BadPlan"), false), (("BadLine", "BadPolicy"), false), (("BadLine", "BadQuestion"), false)]
def TG11 : List ((Str × Str) × Bool) := [(("BadLine", "BadRow"), false), (("BadLine", "BadSkips"), false), (("BadLine", "BadStamp"), false), (("BadLine", "BadStory"), false), (("BadLine", "BadText"), false), (("BadLine", "BadWorld"), false), (("BadLine", "NoEntry"), false), (("BadLine", "NoHome"), false), (("BadLine", "NoLink"), false), (("BadLine", "NoMoment"), false), (("BadLine", "NotARun"), false), (("BadLine", "Refused"), false), (("BadLine", "TombError"), true), (("BadLine", "TooLong"), false), (("BadPlan", "BadDepth"), false), (("BadPlan", "BadEntries"), false), (("BadPlan", "BadEntry"), false), (("BadPlan", "BadEvent"), false), (("BadPlan", "BadHomes"), false), (("BadPlan", "BadKey"), false)]
def TG12 : List ((Str × Str) × Bool) := [(("BadPlan", "BadKeys"), false), (("BadPlan", "BadLimit"), false), (("BadPlan", "BadLine"), false), (("BadPlan", "BadPlan"), true), (("BadPlan", "BadPolicy"), false), (("BadPlan", "BadQuestion"), false), (("BadPlan", "BadRow"), false), (("BadPlan", "BadSkips"), false), (("BadPlan", "BadStamp"), false), (("BadPlan", "BadStory"), false), (("BadPlan", "BadText"), false), (("BadPlan", "BadWorld"), false), (("BadPlan", "NoEntry"), false), (("BadPlan", "NoHome"), false), (("BadPlan", "NoLink"), false), (("BadPlan", "NoMoment"), false), (("BadPlan", "NotARun"), false), (("BadPlan", "Refused"), false), (("BadPlan", "TombError"), true), (("BadPlan", "TooLong"), false)]
def TG13 : List ((Str × Str) × Bool) := [(("BadPolicy", "BadDepth"), false), (("BadPolicy", "BadEntries"), false), (("BadPolicy", "BadEntry"), false), (("BadPolicy", "BadEvent"), false), (("BadPolicy", "BadHomes"), false), (("BadPolicy", "BadKey"), false), (("BadPolicy", "BadKeys"), false), (("BadPolicy", "BadLimit"), false), (("BadPolicy", "BadLine"), false), (("BadPolicy", "BadPlan"), false), (("BadPolicy", "BadPolicy"), true), (("BadPolicy", "BadQuestion"), false), (("BadPolicy", "BadRow"), false), (("BadPolicy", "BadSkips"), false), (("BadPolicy", "BadStamp"), false), (("BadPolicy", "BadStory"), false), (("BadPolicy", "BadText"), false), (("BadPolicy", "BadWorld"), false), (("BadPolicy", "NoEntry"), false), (("BadPolicy", "NoHome"), false)]
def TG14 : List ((Str × Str) × Bool) := [(("BadPolicy", "NoLink"), false), (("BadPolicy", "NoMoment"), false), (("BadPolicy", "NotARun"), false), (("BadPolicy", "Refused"), false), (("BadPolicy", "TombError"), true), (("BadPolicy", "TooLong"), false), (("BadQuestion", "BadDepth"), false), (("BadQuestion", "BadEntries"), false), (("BadQuestion", "BadEntry"), false), (("BadQuestion", "BadEvent"), false), (("BadQuestion", "BadHomes"), false), (("BadQuestion", "BadKey"), false), (("BadQuestion", "BadKeys"), false), (("BadQuestion", "BadLimit"), false), (("BadQuestion", "BadLine"), false), (("BadQuestion", "BadPlan"), false), (("BadQuestion", "BadPolicy"), false), (("BadQuestion", "BadQuestion"), true), (("BadQuestion", "BadRow"), false), (("BadQuestion", "BadSkips"), false)]
def TG15 : List ((Str × Str) × Bool) := [(("BadQuestion", "BadStamp"), false), (("BadQuestion", "BadStory"), false), (("BadQuestion", "BadText"), false), (("BadQuestion", "BadWorld"), false), (("BadQuestion", "NoEntry"), false), (("BadQuestion", "NoHome"), false), (("BadQuestion", "NoLink"), false), (("BadQuestion", "NoMoment"), false), (("BadQuestion", "NotARun"), false), (("BadQuestion", "Refused"), false), (("BadQuestion", "TombError"), true), (("BadQuestion", "TooLong"), false), (("BadRow", "BadDepth"), false), (("BadRow", "BadEntries"), false), (("BadRow", "BadEntry"), false), (("BadRow", "BadEvent"), false), (("BadRow", "BadHomes"), false), (("BadRow", "BadKey"), false), (("BadRow", "BadKeys"), false), (("BadRow", "BadLimit"), false)]
def TG16 : List ((Str × Str) × Bool) := [(("BadRow", "BadLine"), false), (("BadRow", "BadPlan"), false), (("BadRow", "BadPolicy"), false), (("BadRow", "BadQuestion"), false), (("BadRow", "BadRow"), true), (("BadRow", "BadSkips"), false), (("BadRow", "BadStamp"), false), (("BadRow", "BadStory"), false), (("BadRow", "BadText"), false), (("BadRow", "BadWorld"), false), (("BadRow", "NoEntry"), false), (("BadRow", "NoHome"), false), (("BadRow", "NoLink"), false), (("BadRow", "NoMoment"), false), (("BadRow", "NotARun"), false), (("BadRow", "Refused"), false), (("BadRow", "TombError"), true), (("BadRow", "TooLong"), false), (("BadSkips", "BadDepth"), false), (("BadSkips", "BadEntries"), false)]
def TG17 : List ((Str × Str) × Bool) := [(("BadSkips", "BadEntry"), false), (("BadSkips", "BadEvent"), false), (("BadSkips", "BadHomes"), false), (("BadSkips", "BadKey"), false), (("BadSkips", "BadKeys"), false), (("BadSkips", "BadLimit"), false), (("BadSkips", "BadLine"), false), (("BadSkips", "BadPlan"), false), (("BadSkips", "BadPolicy"), false), (("BadSkips", "BadQuestion"), false), (("BadSkips", "BadRow"), false), (("BadSkips", "BadSkips"), true), (("BadSkips", "BadStamp"), false), (("BadSkips", "BadStory"), false), (("BadSkips", "BadText"), false), (("BadSkips", "BadWorld"), false), (("BadSkips", "NoEntry"), false), (("BadSkips", "NoHome"), false), (("BadSkips", "NoLink"), false), (("BadSkips", "NoMoment"), false)]
def TG18 : List ((Str × Str) × Bool) := [(("BadSkips", "NotARun"), false), (("BadSkips", "Refused"), false), (("BadSkips", "TombError"), true), (("BadSkips", "TooLong"), false), (("BadStamp", "BadDepth"), false), (("BadStamp", "BadEntries"), false), (("BadStamp", "BadEntry"), false), (("BadStamp", "BadEvent"), false), (("BadStamp", "BadHomes"), false), (("BadStamp", "BadKey"), false), (("BadStamp", "BadKeys"), false), (("BadStamp", "BadLimit"), false), (("BadStamp", "BadLine"), false), (("BadStamp", "BadPlan"), false), (("BadStamp", "BadPolicy"), false), (("BadStamp", "BadQuestion"), false), (("BadStamp", "BadRow"), false), (("BadStamp", "BadSkips"), false), (("BadStamp", "BadStamp"), true), (("BadStamp", "BadStory"), false)]
def TG19 : List ((Str × Str) × Bool) := [(("BadStamp", "BadText"), false), (("BadStamp", "BadWorld"), false), (("BadStamp", "NoEntry"), false), (("BadStamp", "NoHome"), false), (("BadStamp", "NoLink"), false), (("BadStamp", "NoMoment"), false), (("BadStamp", "NotARun"), false), (("BadStamp", "Refused"), false), (("BadStamp", "TombError"), true), (("BadStamp", "TooLong"), false), (("BadStory", "BadDepth"), false), (("BadStory", "BadEntries"), false), (("BadStory", "BadEntry"), false), (("BadStory", "BadEvent"), false), (("BadStory", "BadHomes"), false), (("BadStory", "BadKey"), false), (("BadStory", "BadKeys"), false), (("BadStory", "BadLimit"), false), (("BadStory", "BadLine"), false), (("BadStory", "BadPlan"), false)]
def TG20 : List ((Str × Str) × Bool) := [(("BadStory", "BadPolicy"), false), (("BadStory", "BadQuestion"), false), (("BadStory", "BadRow"), false), (("BadStory", "BadSkips"), false), (("BadStory", "BadStamp"), false), (("BadStory", "BadStory"), true), (("BadStory", "BadText"), false), (("BadStory", "BadWorld"), false), (("BadStory", "NoEntry"), false), (("BadStory", "NoHome"), false), (("BadStory", "NoLink"), false), (("BadStory", "NoMoment"), false), (("BadStory", "NotARun"), false), (("BadStory", "Refused"), false), (("BadStory", "TombError"), true), (("BadStory", "TooLong"), false), (("BadText", "BadDepth"), false), (("BadText", "BadEntries"), false), (("BadText", "BadEntry"), false), (("BadText", "BadEvent"), false)]
def TG21 : List ((Str × Str) × Bool) := [(("BadText", "BadHomes"), false), (("BadText", "BadKey"), false), (("BadText", "BadKeys"), false), (("BadText", "BadLimit"), false), (("BadText", "BadLine"), false), (("BadText", "BadPlan"), false), (("BadText", "BadPolicy"), false), (("BadText", "BadQuestion"), false), (("BadText", "BadRow"), false), (("BadText", "BadSkips"), false), (("BadText", "BadStamp"), false), (("BadText", "BadStory"), false), (("BadText", "BadText"), true), (("BadText", "BadWorld"), false), (("BadText", "NoEntry"), false), (("BadText", "NoHome"), false), (("BadText", "NoLink"), false), (("BadText", "NoMoment"), false), (("BadText", "NotARun"), false), (("BadText", "Refused"), false)]
def TG22 : List ((Str × Str) × Bool) := [(("BadText", "TombError"), true), (("BadText", "TooLong"), false), (("BadWorld", "BadDepth"), false), (("BadWorld", "BadEntries"), false), (("BadWorld", "BadEntry"), false), (("BadWorld", "BadEvent"), false), (("BadWorld", "BadHomes"), false), (("BadWorld", "BadKey"), false), (("BadWorld", "BadKeys"), false), (("BadWorld", "BadLimit"), false), (("BadWorld", "BadLine"), false), (("BadWorld", "BadPlan"), false), (("BadWorld", "BadPolicy"), false), (("BadWorld", "BadQuestion"), false), (("BadWorld", "BadRow"), false), (("BadWorld", "BadSkips"), false), (("BadWorld", "BadStamp"), false), (("BadWorld", "BadStory"), false), (("BadWorld", "BadText"), false), (("BadWorld", "BadWorld"), true)]
def TG23 : List ((Str × Str) × Bool) := [(("BadWorld", "NoEntry"), false), (("BadWorld", "NoHome"), false), (("BadWorld", "NoLink"), false), (("BadWorld", "NoMoment"), false), (("BadWorld", "NotARun"), false), (("BadWorld", "Refused"), false), (("BadWorld", "TombError"), true), (("BadWorld", "TooLong"), false), (("NoEntry", "BadDepth"), false), (("NoEntry", "BadEntries"), false), (("NoEntry", "BadEntry"), false), (("NoEntry", "BadEvent"), false), (("NoEntry", "BadHomes"), false), (("NoEntry", "BadKey"), false), (("NoEntry", "BadKeys"), false), (("NoEntry", "BadLimit"), false), (("NoEntry", "BadLine"), false), (("NoEntry", "BadPlan"), false), (("NoEntry", "BadPolicy"), false), (("NoEntry", "BadQuestion"), false)]
def TG24 : List ((Str × Str) × Bool) := [(("NoEntry", "BadRow"), false), (("NoEntry", "BadSkips"), false), (("NoEntry", "BadStamp"), false), (("NoEntry", "BadStory"), false), (("NoEntry", "BadText"), false), (("NoEntry", "BadWorld"), false), (("NoEntry", "NoEntry"), true), (("NoEntry", "NoHome"), false), (("NoEntry", "NoLink"), false), (("NoEntry", "NoMoment"), false), (("NoEntry", "NotARun"), false), (("NoEntry", "Refused"), false), (("NoEntry", "TombError"), false), (("NoEntry", "TooLong"), false), (("NoHome", "BadDepth"), false), (("NoHome", "BadEntries"), false), (("NoHome", "BadEntry"), false), (("NoHome", "BadEvent"), false), (("NoHome", "BadHomes"), false), (("NoHome", "BadKey"), false)]
def TG25 : List ((Str × Str) × Bool) := [(("NoHome", "BadKeys"), false), (("NoHome", "BadLimit"), false), (("NoHome", "BadLine"), false), (("NoHome", "BadPlan"), false), (("NoHome", "BadPolicy"), false), (("NoHome", "BadQuestion"), false), (("NoHome", "BadRow"), false), (("NoHome", "BadSkips"), false), (("NoHome", "BadStamp"), false), (("NoHome", "BadStory"), false), (("NoHome", "BadText"), false), (("NoHome", "BadWorld"), false), (("NoHome", "NoEntry"), false), (("NoHome", "NoHome"), true), (("NoHome", "NoLink"), false), (("NoHome", "NoMoment"), false), (("NoHome", "NotARun"), false), (("NoHome", "Refused"), false), (("NoHome", "TombError"), false), (("NoHome", "TooLong"), false)]
def TG26 : List ((Str × Str) × Bool) := [(("NoLink", "BadDepth"), false), (("NoLink", "BadEntries"), false), (("NoLink", "BadEntry"), false), (("NoLink", "BadEvent"), false), (("NoLink", "BadHomes"), false), (("NoLink", "BadKey"), false), (("NoLink", "BadKeys"), false), (("NoLink", "BadLimit"), false), (("NoLink", "BadLine"), false), (("NoLink", "BadPlan"), false), (("NoLink", "BadPolicy"), false), (("NoLink", "BadQuestion"), false), (("NoLink", "BadRow"), false), (("NoLink", "BadSkips"), false), (("NoLink", "BadStamp"), false), (("NoLink", "BadStory"), false), (("NoLink", "BadText"), false), (("NoLink", "BadWorld"), false), (("NoLink", "NoEntry"), false), (("NoLink", "NoHome"), false)]
def TG27 : List ((Str × Str) × Bool) := [(("NoLink", "NoLink"), true), (("NoLink", "NoMoment"), false), (("NoLink", "NotARun"), false), (("NoLink", "Refused"), false), (("NoLink", "TombError"), false), (("NoLink", "TooLong"), false), (("NoMoment", "BadDepth"), false), (("NoMoment", "BadEntries"), false), (("NoMoment", "BadEntry"), false), (("NoMoment", "BadEvent"), false), (("NoMoment", "BadHomes"), false), (("NoMoment", "BadKey"), false), (("NoMoment", "BadKeys"), false), (("NoMoment", "BadLimit"), false), (("NoMoment", "BadLine"), false), (("NoMoment", "BadPlan"), false), (("NoMoment", "BadPolicy"), false), (("NoMoment", "BadQuestion"), false), (("NoMoment", "BadRow"), false), (("NoMoment", "BadSkips"), false)]
def TG28 : List ((Str × Str) × Bool) := [(("NoMoment", "BadStamp"), false), (("NoMoment", "BadStory"), false), (("NoMoment", "BadText"), false), (("NoMoment", "BadWorld"), false), (("NoMoment", "NoEntry"), false), (("NoMoment", "NoHome"), false), (("NoMoment", "NoLink"), false), (("NoMoment", "NoMoment"), true), (("NoMoment", "NotARun"), false), (("NoMoment", "Refused"), false), (("NoMoment", "TombError"), true), (("NoMoment", "TooLong"), false), (("NoWorld", "BadDepth"), false), (("NoWorld", "BadEntries"), false), (("NoWorld", "BadEntry"), false), (("NoWorld", "BadEvent"), false), (("NoWorld", "BadHomes"), false), (("NoWorld", "BadKey"), false), (("NoWorld", "BadKeys"), false), (("NoWorld", "BadLimit"), false)]
def TG29 : List ((Str × Str) × Bool) := [(("NoWorld", "BadLine"), false), (("NoWorld", "BadPlan"), false), (("NoWorld", "BadPolicy"), false), (("NoWorld", "BadQuestion"), false), (("NoWorld", "BadRow"), false), (("NoWorld", "BadSkips"), false), (("NoWorld", "BadStamp"), false), (("NoWorld", "BadStory"), false), (("NoWorld", "BadText"), false), (("NoWorld", "BadWorld"), false), (("NoWorld", "NoEntry"), false), (("NoWorld", "NoHome"), false), (("NoWorld", "NoLink"), false), (("NoWorld", "NoMoment"), false), (("NoWorld", "NotARun"), false), (("NoWorld", "Refused"), false), (("NoWorld", "TombError"), false), (("NoWorld", "TooLong"), false), (("NotARun", "BadDepth"), false), (("NotARun", "BadEntries"), false)]
def TG30 : List ((Str × Str) × Bool) := [(("NotARun", "BadEntry"), false), (("NotARun", "BadEvent"), false), (("NotARun", "BadHomes"), false), (("NotARun", "BadKey"), false), (("NotARun", "BadKeys"), false), (("NotARun", "BadLimit"), false), (("NotARun", "BadLine"), false), (("NotARun", "BadPlan"), false), (("NotARun", "BadPolicy"), false), (("NotARun", "BadQuestion"), false), (("NotARun", "BadRow"), false), (("NotARun", "BadSkips"), false), (("NotARun", "BadStamp"), false), (("NotARun", "BadStory"), false), (("NotARun", "BadText"), false), (("NotARun", "BadWorld"), false), (("NotARun", "NoEntry"), false), (("NotARun", "NoHome"), false), (("NotARun", "NoLink"), false), (("NotARun", "NoMoment"), false)]
def TG31 : List ((Str × Str) × Bool) := [(("NotARun", "NotARun"), true), (("NotARun", "Refused"), false), (("NotARun", "TombError"), true), (("NotARun", "TooLong"), false), (("Refused", "BadDepth"), false), (("Refused", "BadEntries"), false), (("Refused", "BadEntry"), false), (("Refused", "BadEvent"), false), (("Refused", "BadHomes"), false), (("Refused", "BadKey"), false), (("Refused", "BadKeys"), false), (("Refused", "BadLimit"), false), (("Refused", "BadLine"), false), (("Refused", "BadPlan"), false), (("Refused", "BadPolicy"), false), (("Refused", "BadQuestion"), false), (("Refused", "BadRow"), false), (("Refused", "BadSkips"), false), (("Refused", "BadStamp"), false), (("Refused", "BadStory"), false)]
def TG32 : List ((Str × Str) × Bool) := [(("Refused", "BadText"), false), (("Refused", "BadWorld"), false), (("Refused", "NoEntry"), false), (("Refused", "NoHome"), false), (("Refused", "NoLink"), false), (("Refused", "NoMoment"), false), (("Refused", "NotARun"), false), (("Refused", "Refused"), true), (("Refused", "TombError"), false), (("Refused", "TooLong"), false), (("TooLong", "BadDepth"), false), (("TooLong", "BadEntries"), false), (("TooLong", "BadEntry"), false), (("TooLong", "BadEvent"), false), (("TooLong", "BadHomes"), false), (("TooLong", "BadKey"), false), (("TooLong", "BadKeys"), false), (("TooLong", "BadLimit"), false), (("TooLong", "BadLine"), false), (("TooLong", "BadPlan"), false)]
def TG33 : List ((Str × Str) × Bool) := [(("TooLong", "BadPolicy"), false), (("TooLong", "BadQuestion"), false), (("TooLong", "BadRow"), false), (("TooLong", "BadSkips"), false), (("TooLong", "BadStamp"), false), (("TooLong", "BadStory"), false), (("TooLong", "BadText"), false), (("TooLong", "BadWorld"), false), (("TooLong", "NoEntry"), false), (("TooLong", "NoHome"), false), (("TooLong", "NoLink"), false), (("TooLong", "NoMoment"), false), (("TooLong", "NotARun"), false), (("TooLong", "Refused"), false), (("TooLong", "TombError"), true), (("TooLong", "TooLong"), true)]
def TG : List ((Str × Str) × Bool) := TG0 ++ (TG1 ++ (TG2 ++ (TG3 ++ (TG4 ++ (TG5 ++ (TG6 ++ (TG7 ++ (TG8 ++ (TG9 ++ (TG10 ++ (TG11 ++ (TG12 ++ (TG13 ++ (TG14 ++ (TG15 ++ (TG16 ++ (TG17 ++ (TG18 ++ (TG19 ++ (TG20 ++ (TG21 ++ (TG22 ++ (TG23 ++ (TG24 ++ (TG25 ++ (TG26 ++ (TG27 ++ (TG28 ++ (TG29 ++ (TG30 ++ (TG31 ++ (TG32 ++ (TG33)))))))))))))))))))))))))))))))))
def TT0 : List ((Str × String) × Bool) := [(("BadDepth", "KeyError"), false), (("BadDepth", "RuntimeError"), false), (("BadDepth", "ValueError"), true), (("BadEntries", "KeyError"), false), (("BadEntries", "RuntimeError"), false), (("BadEntries", "ValueError"), true), (("BadEntry", "KeyError"), false), (("BadEntry", "RuntimeError"), false), (("BadEntry", "ValueError"), true), (("BadEvent", "KeyError"), false), (("BadEvent", "RuntimeError"), false), (("BadEvent", "ValueError"), true), (("BadHomes", "KeyError"), false), (("BadHomes", "RuntimeError"), false), (("BadHomes", "ValueError"), true), (("BadKey", "KeyError"), false), (("BadKey", "RuntimeError"), false), (("BadKey", "ValueError"), true), (("BadKeys", "KeyError"), false), (("BadKeys", "RuntimeError"), false)]
def TT1 : List ((Str × String) × Bool) := [(("BadKeys", "ValueError"), true), (("BadLimit", "KeyError"), false), (("BadLimit", "RuntimeError"), false), (("BadLimit", "ValueError"), true), (("BadLine", "KeyError"), false), (("BadLine", "RuntimeError"), false), (("BadLine", "ValueError"), true), (("BadPlan", "KeyError"), false), (("BadPlan", "RuntimeError"), false), (("BadPlan", "ValueError"), true), (("BadPolicy", "KeyError"), false), (("BadPolicy", "RuntimeError"), false), (("BadPolicy", "ValueError"), true), (("BadQuestion", "KeyError"), false), (("BadQuestion", "RuntimeError"), false), (("BadQuestion", "ValueError"), true), (("BadRow", "KeyError"), false), (("BadRow", "RuntimeError"), false), (("BadRow", "ValueError"), true), (("BadSkips", "KeyError"), false)]
def TT2 : List ((Str × String) × Bool) := [(("BadSkips", "RuntimeError"), false), (("BadSkips", "ValueError"), true), (("BadStamp", "KeyError"), false), (("BadStamp", "RuntimeError"), false), (("BadStamp", "ValueError"), true), (("BadStory", "KeyError"), false), (("BadStory", "RuntimeError"), false), (("BadStory", "ValueError"), true), (("BadText", "KeyError"), false), (("BadText", "RuntimeError"), false), (("BadText", "ValueError"), true), (("BadWorld", "KeyError"), false), (("BadWorld", "RuntimeError"), false), (("BadWorld", "ValueError"), true), (("NoEntry", "KeyError"), true), (("NoEntry", "RuntimeError"), false), (("NoEntry", "ValueError"), false), (("NoHome", "KeyError"), true), (("NoHome", "RuntimeError"), false), (("NoHome", "ValueError"), false)]
def TT3 : List ((Str × String) × Bool) := [(("NoLink", "KeyError"), true), (("NoLink", "RuntimeError"), false), (("NoLink", "ValueError"), false), (("NoMoment", "KeyError"), false), (("NoMoment", "RuntimeError"), false), (("NoMoment", "ValueError"), true), (("NoWorld", "KeyError"), false), (("NoWorld", "RuntimeError"), true), (("NoWorld", "ValueError"), false), (("NotARun", "KeyError"), false), (("NotARun", "RuntimeError"), false), (("NotARun", "ValueError"), true), (("Refused", "KeyError"), false), (("Refused", "RuntimeError"), true), (("Refused", "ValueError"), false), (("TooLong", "KeyError"), false), (("TooLong", "RuntimeError"), false), (("TooLong", "ValueError"), true)]
def TT : List ((Str × String) × Bool) := TT0 ++ (TT1 ++ (TT2 ++ (TT3)))
def CS : List Str := ["BadEntry", "BadEntries", "BadText", "BadEvent", "BadWorld", "BadKey", "BadStamp", "BadHomes", "BadRow", "BadStory", "BadLimit", "BadPolicy", "BadKeys", "BadDepth", "BadSkips", "BadPlan", "BadQuestion", "BadLine", "NotARun", "NoMoment", "TooLong", "NoEntry", "NoHome", "NoLink", "Refused", "NoWorld"]
def EF_value : List Str := ["BadEntry", "BadEntries", "BadText", "BadEvent", "BadWorld", "BadKey", "BadStamp", "BadHomes", "BadRow", "BadStory", "BadLimit", "BadPolicy", "BadKeys", "BadDepth", "BadSkips", "BadPlan", "BadQuestion", "BadLine", "NotARun", "NoMoment", "TooLong", "NoEntry", "NoHome", "NoLink", "Refused"]
def EF_word : List Str := ["Refused"]
def xs : List Xb := [xgB TG, xtB TT, XN.xE "BadEntry" ["value"], XN.xE "BadEntries" ["value"], XN.xE "BadText" ["value"], XN.xE "BadEvent" ["value"], XN.xE "BadWorld" ["value"], XN.xE "BadKey" ["value"], XN.xE "BadStamp" ["value"], XN.xE "BadHomes" ["value"], XN.xE "BadRow" ["value"], XN.xE "BadStory" ["value"], XN.xE "BadLimit" ["value"], XN.xE "BadPolicy" ["value"], XN.xE "BadKeys" ["value"], XN.xE "BadDepth" ["value"], XN.xE "BadSkips" ["value"], XN.xE "BadPlan" ["value"], XN.xE "BadQuestion" ["value"], XN.xE "BadLine" ["value"], XN.xE "NotARun" ["value"], XN.xE "NoMoment" ["value"], XN.xE "TooLong" ["value"], XN.xE "NoEntry" ["value"], XN.xE "NoHome" ["value"], XN.xE "NoLink" ["value"], XN.xE "Refused" ["word", "value"], XN.isB CS, XN.xN "NoWorld", XN.efB "word" EF_word, XN.efB "value" EF_value]
structure T0 (K : PySem.W.Frag) (mg : Str → Option Value) : Prop where
  c : He.SaysD fa fn K
  x : (xs.all fun f => f K) = true
  h : ∃ h : Heap, K.In h ∧ h.Ns mainGlobals mg
section
variable {K : PySem.W.Frag} {mg : Str → Option Value}
theorem T0.xb (T : T0 K mg) (i : Nat) {f : Xb} (hx : xs[i]? = some f := by rfl) : f K = true := List.all_eq_true.mp T.x f (List.mem_of_getElem? hx)
theorem T0.free (T : T0 K mg) (i : Nat) {x : Str} (hx : fa[i]? = some (.free x) := by rfl) : mg x = none := by
  obtain ⟨h, X, G⟩ := T.h
  exact He.free_ok X G (T.c.fact i hx)
theorem T0.glo (T : T0 K mg) (i : Nat) {x : Str} (hx : fa[i]? = some (.glo x) := by rfl) : mg x = some (.ref (He.ga K x)) := by
  obtain ⟨h, X, G⟩ := T.h
  exact He.glo_ok X G (T.c.fact i hx)
theorem T0.int (T : T0 K mg) (i : Nat) {x : Str} {z : Int} (hx : fa[i]? = some (.int x z) := by rfl) : ∃ t, mg x = some (.int z t) := by
  obtain ⟨h, X, G⟩ := T.h
  exact He.int_ok X G (T.c.fact i hx)
theorem T0.str (T : T0 K mg) (i : Nat) {x z : Str} (hx : fa[i]? = some (.str x z) := by rfl) : ∃ t, mg x = some (.str z t) := by
  obtain ⟨h, X, G⟩ := T.h
  exact He.str_ok X G (T.c.fact i hx)
end
section
variable {P : Program} {w : World} {K : PySem.W.Frag} {mg : Str → Option Value} {base : Heap}
def X_BadEntry : FD := XN.exF "BadEntry" 1 (XN.o1 "value")
theorem mkp_BadEntry {X : Cx} (T : T0 X.K X.mg) : CalleeX X 2 (He.ga X.K "BadEntry") 1 [] X_BadEntry := by
  obtain ⟨fd, F⟩ := T.c.def_ 6 (d := d_i_BadEntry) rfl
  exact XN.mk1 (XN.xE_ok (T.xb 2 (f := XN.xE "BadEntry" ["value"]))) F rfl sc_i_BadEntry rfl rfl (XN.kb_of F 2 [] fun _ _ _ _ _ _ us ws l1 l2 => match us, ws, l1, l2 with | [_, _], [], _, _ => rfl) rfl
theorem mkk_BadEntry {X : Cx} (T : T0 X.K X.mg) : CalleeX X 2 (He.ga X.K "BadEntry") 0 ["value"] X_BadEntry := by
  obtain ⟨fd, F⟩ := T.c.def_ 6 (d := d_i_BadEntry) rfl
  exact XN.mk1 (XN.xE_ok (T.xb 2 (f := XN.xE "BadEntry" ["value"]))) F rfl sc_i_BadEntry rfl rfl (XN.kb_of F 1 ["value"] fun _ _ _ _ _ _ us ws l1 l2 => match us, ws, l1, l2 with | [_], [_], _, _ => rfl) rfl
def X_BadEntries : FD := XN.exF "BadEntries" 1 (XN.o1 "value")
theorem mkp_BadEntries {X : Cx} (T : T0 X.K X.mg) : CalleeX X 2 (He.ga X.K "BadEntries") 1 [] X_BadEntries := by
  obtain ⟨fd, F⟩ := T.c.def_ 7 (d := d_i_BadEntries) rfl
  exact XN.mk1 (XN.xE_ok (T.xb 3 (f := XN.xE "BadEntries" ["value"]))) F rfl sc_i_BadEntries rfl rfl (XN.kb_of F 2 [] fun _ _ _ _ _ _ us ws l1 l2 => match us, ws, l1, l2 with | [_, _], [], _, _ => rfl) rfl
theorem mkk_BadEntries {X : Cx} (T : T0 X.K X.mg) : CalleeX X 2 (He.ga X.K "BadEntries") 0 ["value"] X_BadEntries := by
  obtain ⟨fd, F⟩ := T.c.def_ 7 (d := d_i_BadEntries) rfl
  exact XN.mk1 (XN.xE_ok (T.xb 3 (f := XN.xE "BadEntries" ["value"]))) F rfl sc_i_BadEntries rfl rfl (XN.kb_of F 1 ["value"] fun _ _ _ _ _ _ us ws l1 l2 => match us, ws, l1, l2 with | [_], [_], _, _ => rfl) rfl
def X_BadText : FD := XN.exF "BadText" 1 (XN.o1 "value")
theorem mkp_BadText {X : Cx} (T : T0 X.K X.mg) : CalleeX X 2 (He.ga X.K "BadText") 1 [] X_BadText := by
  obtain ⟨fd, F⟩ := T.c.def_ 8 (d := d_i_BadText) rfl
  exact XN.mk1 (XN.xE_ok (T.xb 4 (f := XN.xE "BadText" ["value"]))) F rfl sc_i_BadText rfl rfl (XN.kb_of F 2 [] fun _ _ _ _ _ _ us ws l1 l2 => match us, ws, l1, l2 with | [_, _], [], _, _ => rfl) rfl
theorem mkk_BadText {X : Cx} (T : T0 X.K X.mg) : CalleeX X 2 (He.ga X.K "BadText") 0 ["value"] X_BadText := by
  obtain ⟨fd, F⟩ := T.c.def_ 8 (d := d_i_BadText) rfl
  exact XN.mk1 (XN.xE_ok (T.xb 4 (f := XN.xE "BadText" ["value"]))) F rfl sc_i_BadText rfl rfl (XN.kb_of F 1 ["value"] fun _ _ _ _ _ _ us ws l1 l2 => match us, ws, l1, l2 with | [_], [_], _, _ => rfl) rfl
def X_BadEvent : FD := XN.exF "BadEvent" 1 (XN.o1 "value")
theorem mkp_BadEvent {X : Cx} (T : T0 X.K X.mg) : CalleeX X 2 (He.ga X.K "BadEvent") 1 [] X_BadEvent := by
  obtain ⟨fd, F⟩ := T.c.def_ 9 (d := d_i_BadEvent) rfl
  exact XN.mk1 (XN.xE_ok (T.xb 5 (f := XN.xE "BadEvent" ["value"]))) F rfl sc_i_BadEvent rfl rfl (XN.kb_of F 2 [] fun _ _ _ _ _ _ us ws l1 l2 => match us, ws, l1, l2 with | [_, _], [], _, _ => rfl) rfl
theorem mkk_BadEvent {X : Cx} (T : T0 X.K X.mg) : CalleeX X 2 (He.ga X.K "BadEvent") 0 ["value"] X_BadEvent := by
  obtain ⟨fd, F⟩ := T.c.def_ 9 (d := d_i_BadEvent) rfl
  exact XN.mk1 (XN.xE_ok (T.xb 5 (f := XN.xE "BadEvent" ["value"]))) F rfl sc_i_BadEvent rfl rfl (XN.kb_of F 1 ["value"] fun _ _ _ _ _ _ us ws l1 l2 => match us, ws, l1, l2 with | [_], [_], _, _ => rfl) rfl
def X_BadWorld : FD := XN.exF "BadWorld" 1 (XN.o1 "value")
theorem mkp_BadWorld {X : Cx} (T : T0 X.K X.mg) : CalleeX X 2 (He.ga X.K "BadWorld") 1 [] X_BadWorld := by
  obtain ⟨fd, F⟩ := T.c.def_ 10 (d := d_i_BadWorld) rfl
  exact XN.mk1 (XN.xE_ok (T.xb 6 (f := XN.xE "BadWorld" ["value"]))) F rfl sc_i_BadWorld rfl rfl (XN.kb_of F 2 [] fun _ _ _ _ _ _ us ws l1 l2 => match us, ws, l1, l2 with | [_, _], [], _, _ => rfl) rfl
theorem mkk_BadWorld {X : Cx} (T : T0 X.K X.mg) : CalleeX X 2 (He.ga X.K "BadWorld") 0 ["value"] X_BadWorld := by
  obtain ⟨fd, F⟩ := T.c.def_ 10 (d := d_i_BadWorld) rfl
  exact XN.mk1 (XN.xE_ok (T.xb 6 (f := XN.xE "BadWorld" ["value"]))) F rfl sc_i_BadWorld rfl rfl (XN.kb_of F 1 ["value"] fun _ _ _ _ _ _ us ws l1 l2 => match us, ws, l1, l2 with | [_], [_], _, _ => rfl) rfl
def X_BadKey : FD := XN.exF "BadKey" 1 (XN.o1 "value")
theorem mkp_BadKey {X : Cx} (T : T0 X.K X.mg) : CalleeX X 2 (He.ga X.K "BadKey") 1 [] X_BadKey := by
  obtain ⟨fd, F⟩ := T.c.def_ 11 (d := d_i_BadKey) rfl
  exact XN.mk1 (XN.xE_ok (T.xb 7 (f := XN.xE "BadKey" ["value"]))) F rfl sc_i_BadKey rfl rfl (XN.kb_of F 2 [] fun _ _ _ _ _ _ us ws l1 l2 => match us, ws, l1, l2 with | [_, _], [], _, _ => rfl) rfl
theorem mkk_BadKey {X : Cx} (T : T0 X.K X.mg) : CalleeX X 2 (He.ga X.K "BadKey") 0 ["value"] X_BadKey := by
  obtain ⟨fd, F⟩ := T.c.def_ 11 (d := d_i_BadKey) rfl
  exact XN.mk1 (XN.xE_ok (T.xb 7 (f := XN.xE "BadKey" ["value"]))) F rfl sc_i_BadKey rfl rfl (XN.kb_of F 1 ["value"] fun _ _ _ _ _ _ us ws l1 l2 => match us, ws, l1, l2 with | [_], [_], _, _ => rfl) rfl
def X_BadStamp : FD := XN.exF "BadStamp" 1 (XN.o1 "value")
theorem mkp_BadStamp {X : Cx} (T : T0 X.K X.mg) : CalleeX X 2 (He.ga X.K "BadStamp") 1 [] X_BadStamp := by
  obtain ⟨fd, F⟩ := T.c.def_ 12 (d := d_i_BadStamp) rfl
  exact XN.mk1 (XN.xE_ok (T.xb 8 (f := XN.xE "BadStamp" ["value"]))) F rfl sc_i_BadStamp rfl rfl (XN.kb_of F 2 [] fun _ _ _ _ _ _ us ws l1 l2 => match us, ws, l1, l2 with | [_, _], [], _, _ => rfl) rfl
theorem mkk_BadStamp {X : Cx} (T : T0 X.K X.mg) : CalleeX X 2 (He.ga X.K "BadStamp") 0 ["value"] X_BadStamp := by
  obtain ⟨fd, F⟩ := T.c.def_ 12 (d := d_i_BadStamp) rfl
  exact XN.mk1 (XN.xE_ok (T.xb 8 (f := XN.xE "BadStamp" ["value"]))) F rfl sc_i_BadStamp rfl rfl (XN.kb_of F 1 ["value"] fun _ _ _ _ _ _ us ws l1 l2 => match us, ws, l1, l2 with | [_], [_], _, _ => rfl) rfl
def X_BadHomes : FD := XN.exF "BadHomes" 1 (XN.o1 "value")
theorem mkp_BadHomes {X : Cx} (T : T0 X.K X.mg) : CalleeX X 2 (He.ga X.K "BadHomes") 1 [] X_BadHomes := by
  obtain ⟨fd, F⟩ := T.c.def_ 13 (d := d_i_BadHomes) rfl
  exact XN.mk1 (XN.xE_ok (T.xb 9 (f := XN.xE "BadHomes" ["value"]))) F rfl sc_i_BadHomes rfl rfl (XN.kb_of F 2 [] fun _ _ _ _ _ _ us ws l1 l2 => match us, ws, l1, l2 with | [_, _], [], _, _ => rfl) rfl
theorem mkk_BadHomes {X : Cx} (T : T0 X.K X.mg) : CalleeX X 2 (He.ga X.K "BadHomes") 0 ["value"] X_BadHomes := by
  obtain ⟨fd, F⟩ := T.c.def_ 13 (d := d_i_BadHomes) rfl
  exact XN.mk1 (XN.xE_ok (T.xb 9 (f := XN.xE "BadHomes" ["value"]))) F rfl sc_i_BadHomes rfl rfl (XN.kb_of F 1 ["value"] fun _ _ _ _ _ _ us ws l1 l2 => match us, ws, l1, l2 with | [_], [_], _, _ => rfl) rfl
def X_BadRow : FD := XN.exF "BadRow" 1 (XN.o1 "value")
theorem mkp_BadRow {X : Cx} (T : T0 X.K X.mg) : CalleeX X 2 (He.ga X.K "BadRow") 1 [] X_BadRow := by
  obtain ⟨fd, F⟩ := T.c.def_ 14 (d := d_i_BadRow) rfl
  exact XN.mk1 (XN.xE_ok (T.xb 10 (f := XN.xE "BadRow" ["value"]))) F rfl sc_i_BadRow rfl rfl (XN.kb_of F 2 [] fun _ _ _ _ _ _ us ws l1 l2 => match us, ws, l1, l2 with | [_, _], [], _, _ => rfl) rfl
theorem mkk_BadRow {X : Cx} (T : T0 X.K X.mg) : CalleeX X 2 (He.ga X.K "BadRow") 0 ["value"] X_BadRow := by
  obtain ⟨fd, F⟩ := T.c.def_ 14 (d := d_i_BadRow) rfl
  exact XN.mk1 (XN.xE_ok (T.xb 10 (f := XN.xE "BadRow" ["value"]))) F rfl sc_i_BadRow rfl rfl (XN.kb_of F 1 ["value"] fun _ _ _ _ _ _ us ws l1 l2 => match us, ws, l1, l2 with | [_], [_], _, _ => rfl) rfl
def X_BadStory : FD := XN.exF "BadStory" 1 (XN.o1 "value")
theorem mkp_BadStory {X : Cx} (T : T0 X.K X.mg) : CalleeX X 2 (He.ga X.K "BadStory") 1 [] X_BadStory := by
  obtain ⟨fd, F⟩ := T.c.def_ 15 (d := d_i_BadStory) rfl
  exact XN.mk1 (XN.xE_ok (T.xb 11 (f := XN.xE "BadStory" ["value"]))) F rfl sc_i_BadStory rfl rfl (XN.kb_of F 2 [] fun _ _ _ _ _ _ us ws l1 l2 => match us, ws, l1, l2 with | [_, _], [], _, _ => rfl) rfl
theorem mkk_BadStory {X : Cx} (T : T0 X.K X.mg) : CalleeX X 2 (He.ga X.K "BadStory") 0 ["value"] X_BadStory := by
  obtain ⟨fd, F⟩ := T.c.def_ 15 (d := d_i_BadStory) rfl
  exact XN.mk1 (XN.xE_ok (T.xb 11 (f := XN.xE "BadStory" ["value"]))) F rfl sc_i_BadStory rfl rfl (XN.kb_of F 1 ["value"] fun _ _ _ _ _ _ us ws l1 l2 => match us, ws, l1, l2 with | [_], [_], _, _ => rfl) rfl
def X_BadLimit : FD := XN.exF "BadLimit" 1 (XN.o1 "value")
theorem mkp_BadLimit {X : Cx} (T : T0 X.K X.mg) : CalleeX X 2 (He.ga X.K "BadLimit") 1 [] X_BadLimit := by
  obtain ⟨fd, F⟩ := T.c.def_ 16 (d := d_i_BadLimit) rfl
  exact XN.mk1 (XN.xE_ok (T.xb 12 (f := XN.xE "BadLimit" ["value"]))) F rfl sc_i_BadLimit rfl rfl (XN.kb_of F 2 [] fun _ _ _ _ _ _ us ws l1 l2 => match us, ws, l1, l2 with | [_, _], [], _, _ => rfl) rfl
theorem mkk_BadLimit {X : Cx} (T : T0 X.K X.mg) : CalleeX X 2 (He.ga X.K "BadLimit") 0 ["value"] X_BadLimit := by
  obtain ⟨fd, F⟩ := T.c.def_ 16 (d := d_i_BadLimit) rfl
  exact XN.mk1 (XN.xE_ok (T.xb 12 (f := XN.xE "BadLimit" ["value"]))) F rfl sc_i_BadLimit rfl rfl (XN.kb_of F 1 ["value"] fun _ _ _ _ _ _ us ws l1 l2 => match us, ws, l1, l2 with | [_], [_], _, _ => rfl) rfl
def X_BadPolicy : FD := XN.exF "BadPolicy" 1 (XN.o1 "value")
theorem mkp_BadPolicy {X : Cx} (T : T0 X.K X.mg) : CalleeX X 2 (He.ga X.K "BadPolicy") 1 [] X_BadPolicy := by
  obtain ⟨fd, F⟩ := T.c.def_ 17 (d := d_i_BadPolicy) rfl
  exact XN.mk1 (XN.xE_ok (T.xb 13 (f := XN.xE "BadPolicy" ["value"]))) F rfl sc_i_BadPolicy rfl rfl (XN.kb_of F 2 [] fun _ _ _ _ _ _ us ws l1 l2 => match us, ws, l1, l2 with | [_, _], [], _, _ => rfl) rfl
theorem mkk_BadPolicy {X : Cx} (T : T0 X.K X.mg) : CalleeX X 2 (He.ga X.K "BadPolicy") 0 ["value"] X_BadPolicy := by
  obtain ⟨fd, F⟩ := T.c.def_ 17 (d := d_i_BadPolicy) rfl
  exact XN.mk1 (XN.xE_ok (T.xb 13 (f := XN.xE "BadPolicy" ["value"]))) F rfl sc_i_BadPolicy rfl rfl (XN.kb_of F 1 ["value"] fun _ _ _ _ _ _ us ws l1 l2 => match us, ws, l1, l2 with | [_], [_], _, _ => rfl) rfl
def X_BadKeys : FD := XN.exF "BadKeys" 1 (XN.o1 "value")
theorem mkp_BadKeys {X : Cx} (T : T0 X.K X.mg) : CalleeX X 2 (He.ga X.K "BadKeys") 1 [] X_BadKeys := by
  obtain ⟨fd, F⟩ := T.c.def_ 18 (d := d_i_BadKeys) rfl
  exact XN.mk1 (XN.xE_ok (T.xb 14 (f := XN.xE "BadKeys" ["value"]))) F rfl sc_i_BadKeys rfl rfl (XN.kb_of F 2 [] fun _ _ _ _ _ _ us ws l1 l2 => match us, ws, l1, l2 with | [_, _], [], _, _ => rfl) rfl
theorem mkk_BadKeys {X : Cx} (T : T0 X.K X.mg) : CalleeX X 2 (He.ga X.K "BadKeys") 0 ["value"] X_BadKeys := by
  obtain ⟨fd, F⟩ := T.c.def_ 18 (d := d_i_BadKeys) rfl
  exact XN.mk1 (XN.xE_ok (T.xb 14 (f := XN.xE "BadKeys" ["value"]))) F rfl sc_i_BadKeys rfl rfl (XN.kb_of F 1 ["value"] fun _ _ _ _ _ _ us ws l1 l2 => match us, ws, l1, l2 with | [_], [_], _, _ => rfl) rfl
def X_BadDepth : FD := XN.exF "BadDepth" 1 (XN.o1 "value")
theorem mkp_BadDepth {X : Cx} (T : T0 X.K X.mg) : CalleeX X 2 (He.ga X.K "BadDepth") 1 [] X_BadDepth := by
  obtain ⟨fd, F⟩ := T.c.def_ 19 (d := d_i_BadDepth) rfl
  exact XN.mk1 (XN.xE_ok (T.xb 15 (f := XN.xE "BadDepth" ["value"]))) F rfl sc_i_BadDepth rfl rfl (XN.kb_of F 2 [] fun _ _ _ _ _ _ us ws l1 l2 => match us, ws, l1, l2 with | [_, _], [], _, _ => rfl) rfl
theorem mkk_BadDepth {X : Cx} (T : T0 X.K X.mg) : CalleeX X 2 (He.ga X.K "BadDepth") 0 ["value"] X_BadDepth := by
  obtain ⟨fd, F⟩ := T.c.def_ 19 (d := d_i_BadDepth) rfl
  exact XN.mk1 (XN.xE_ok (T.xb 15 (f := XN.xE "BadDepth" ["value"]))) F rfl sc_i_BadDepth rfl rfl (XN.kb_of F 1 ["value"] fun _ _ _ _ _ _ us ws l1 l2 => match us, ws, l1, l2 with | [_], [_], _, _ => rfl) rfl
def X_BadSkips : FD := XN.exF "BadSkips" 1 (XN.o1 "value")
theorem mkp_BadSkips {X : Cx} (T : T0 X.K X.mg) : CalleeX X 2 (He.ga X.K "BadSkips") 1 [] X_BadSkips := by
  obtain ⟨fd, F⟩ := T.c.def_ 20 (d := d_i_BadSkips) rfl
  exact XN.mk1 (XN.xE_ok (T.xb 16 (f := XN.xE "BadSkips" ["value"]))) F rfl sc_i_BadSkips rfl rfl (XN.kb_of F 2 [] fun _ _ _ _ _ _ us ws l1 l2 => match us, ws, l1, l2 with | [_, _], [], _, _ => rfl) rfl
theorem mkk_BadSkips {X : Cx} (T : T0 X.K X.mg) : CalleeX X 2 (He.ga X.K "BadSkips") 0 ["value"] X_BadSkips := by
  obtain ⟨fd, F⟩ := T.c.def_ 20 (d := d_i_BadSkips) rfl
  exact XN.mk1 (XN.xE_ok (T.xb 16 (f := XN.xE "BadSkips" ["value"]))) F rfl sc_i_BadSkips rfl rfl (XN.kb_of F 1 ["value"] fun _ _ _ _ _ _ us ws l1 l2 => match us, ws, l1, l2 with | [_], [_], _, _ => rfl) rfl
def X_BadPlan : FD := XN.exF "BadPlan" 1 (XN.o1 "value")
theorem mkp_BadPlan {X : Cx} (T : T0 X.K X.mg) : CalleeX X 2 (He.ga X.K "BadPlan") 1 [] X_BadPlan := by
  obtain ⟨fd, F⟩ := T.c.def_ 21 (d := d_i_BadPlan) rfl
  exact XN.mk1 (XN.xE_ok (T.xb 17 (f := XN.xE "BadPlan" ["value"]))) F rfl sc_i_BadPlan rfl rfl (XN.kb_of F 2 [] fun _ _ _ _ _ _ us ws l1 l2 => match us, ws, l1, l2 with | [_, _], [], _, _ => rfl) rfl
theorem mkk_BadPlan {X : Cx} (T : T0 X.K X.mg) : CalleeX X 2 (He.ga X.K "BadPlan") 0 ["value"] X_BadPlan := by
  obtain ⟨fd, F⟩ := T.c.def_ 21 (d := d_i_BadPlan) rfl
  exact XN.mk1 (XN.xE_ok (T.xb 17 (f := XN.xE "BadPlan" ["value"]))) F rfl sc_i_BadPlan rfl rfl (XN.kb_of F 1 ["value"] fun _ _ _ _ _ _ us ws l1 l2 => match us, ws, l1, l2 with | [_], [_], _, _ => rfl) rfl
def X_BadQuestion : FD := XN.exF "BadQuestion" 1 (XN.o1 "value")
theorem mkp_BadQuestion {X : Cx} (T : T0 X.K X.mg) : CalleeX X 2 (He.ga X.K "BadQuestion") 1 [] X_BadQuestion := by
  obtain ⟨fd, F⟩ := T.c.def_ 22 (d := d_i_BadQuestion) rfl
  exact XN.mk1 (XN.xE_ok (T.xb 18 (f := XN.xE "BadQuestion" ["value"]))) F rfl sc_i_BadQuestion rfl rfl (XN.kb_of F 2 [] fun _ _ _ _ _ _ us ws l1 l2 => match us, ws, l1, l2 with | [_, _], [], _, _ => rfl) rfl
theorem mkk_BadQuestion {X : Cx} (T : T0 X.K X.mg) : CalleeX X 2 (He.ga X.K "BadQuestion") 0 ["value"] X_BadQuestion := by
  obtain ⟨fd, F⟩ := T.c.def_ 22 (d := d_i_BadQuestion) rfl
  exact XN.mk1 (XN.xE_ok (T.xb 18 (f := XN.xE "BadQuestion" ["value"]))) F rfl sc_i_BadQuestion rfl rfl (XN.kb_of F 1 ["value"] fun _ _ _ _ _ _ us ws l1 l2 => match us, ws, l1, l2 with | [_], [_], _, _ => rfl) rfl
def X_BadLine : FD := XN.exF "BadLine" 1 (XN.o1 "value")
theorem mkp_BadLine {X : Cx} (T : T0 X.K X.mg) : CalleeX X 2 (He.ga X.K "BadLine") 1 [] X_BadLine := by
  obtain ⟨fd, F⟩ := T.c.def_ 23 (d := d_i_BadLine) rfl
  exact XN.mk1 (XN.xE_ok (T.xb 19 (f := XN.xE "BadLine" ["value"]))) F rfl sc_i_BadLine rfl rfl (XN.kb_of F 2 [] fun _ _ _ _ _ _ us ws l1 l2 => match us, ws, l1, l2 with | [_, _], [], _, _ => rfl) rfl
theorem mkk_BadLine {X : Cx} (T : T0 X.K X.mg) : CalleeX X 2 (He.ga X.K "BadLine") 0 ["value"] X_BadLine := by
  obtain ⟨fd, F⟩ := T.c.def_ 23 (d := d_i_BadLine) rfl
  exact XN.mk1 (XN.xE_ok (T.xb 19 (f := XN.xE "BadLine" ["value"]))) F rfl sc_i_BadLine rfl rfl (XN.kb_of F 1 ["value"] fun _ _ _ _ _ _ us ws l1 l2 => match us, ws, l1, l2 with | [_], [_], _, _ => rfl) rfl
def X_NotARun : FD := XN.exF "NotARun" 1 (XN.o1 "value")
theorem mkp_NotARun {X : Cx} (T : T0 X.K X.mg) : CalleeX X 2 (He.ga X.K "NotARun") 1 [] X_NotARun := by
  obtain ⟨fd, F⟩ := T.c.def_ 24 (d := d_i_NotARun) rfl
  exact XN.mk1 (XN.xE_ok (T.xb 20 (f := XN.xE "NotARun" ["value"]))) F rfl sc_i_NotARun rfl rfl (XN.kb_of F 2 [] fun _ _ _ _ _ _ us ws l1 l2 => match us, ws, l1, l2 with | [_, _], [], _, _ => rfl) rfl
theorem mkk_NotARun {X : Cx} (T : T0 X.K X.mg) : CalleeX X 2 (He.ga X.K "NotARun") 0 ["value"] X_NotARun := by
  obtain ⟨fd, F⟩ := T.c.def_ 24 (d := d_i_NotARun) rfl
  exact XN.mk1 (XN.xE_ok (T.xb 20 (f := XN.xE "NotARun" ["value"]))) F rfl sc_i_NotARun rfl rfl (XN.kb_of F 1 ["value"] fun _ _ _ _ _ _ us ws l1 l2 => match us, ws, l1, l2 with | [_], [_], _, _ => rfl) rfl
def X_NoMoment : FD := XN.exF "NoMoment" 1 (XN.o1 "value")
theorem mkp_NoMoment {X : Cx} (T : T0 X.K X.mg) : CalleeX X 2 (He.ga X.K "NoMoment") 1 [] X_NoMoment := by
  obtain ⟨fd, F⟩ := T.c.def_ 25 (d := d_i_NoMoment) rfl
  exact XN.mk1 (XN.xE_ok (T.xb 21 (f := XN.xE "NoMoment" ["value"]))) F rfl sc_i_NoMoment rfl rfl (XN.kb_of F 2 [] fun _ _ _ _ _ _ us ws l1 l2 => match us, ws, l1, l2 with | [_, _], [], _, _ => rfl) rfl
theorem mkk_NoMoment {X : Cx} (T : T0 X.K X.mg) : CalleeX X 2 (He.ga X.K "NoMoment") 0 ["value"] X_NoMoment := by
  obtain ⟨fd, F⟩ := T.c.def_ 25 (d := d_i_NoMoment) rfl
  exact XN.mk1 (XN.xE_ok (T.xb 21 (f := XN.xE "NoMoment" ["value"]))) F rfl sc_i_NoMoment rfl rfl (XN.kb_of F 1 ["value"] fun _ _ _ _ _ _ us ws l1 l2 => match us, ws, l1, l2 with | [_], [_], _, _ => rfl) rfl
def X_TooLong : FD := XN.exF "TooLong" 1 (XN.o1 "value")
theorem mkp_TooLong {X : Cx} (T : T0 X.K X.mg) : CalleeX X 2 (He.ga X.K "TooLong") 1 [] X_TooLong := by
  obtain ⟨fd, F⟩ := T.c.def_ 26 (d := d_i_TooLong) rfl
  exact XN.mk1 (XN.xE_ok (T.xb 22 (f := XN.xE "TooLong" ["value"]))) F rfl sc_i_TooLong rfl rfl (XN.kb_of F 2 [] fun _ _ _ _ _ _ us ws l1 l2 => match us, ws, l1, l2 with | [_, _], [], _, _ => rfl) rfl
theorem mkk_TooLong {X : Cx} (T : T0 X.K X.mg) : CalleeX X 2 (He.ga X.K "TooLong") 0 ["value"] X_TooLong := by
  obtain ⟨fd, F⟩ := T.c.def_ 26 (d := d_i_TooLong) rfl
  exact XN.mk1 (XN.xE_ok (T.xb 22 (f := XN.xE "TooLong" ["value"]))) F rfl sc_i_TooLong rfl rfl (XN.kb_of F 1 ["value"] fun _ _ _ _ _ _ us ws l1 l2 => match us, ws, l1, l2 with | [_], [_], _, _ => rfl) rfl
def X_NoEntry : FD := XN.exF "NoEntry" 1 (XN.o1 "value")
theorem mkp_NoEntry {X : Cx} (T : T0 X.K X.mg) : CalleeX X 2 (He.ga X.K "NoEntry") 1 [] X_NoEntry := by
  obtain ⟨fd, F⟩ := T.c.def_ 27 (d := d_i_NoEntry) rfl
  exact XN.mk1 (XN.xE_ok (T.xb 23 (f := XN.xE "NoEntry" ["value"]))) F rfl sc_i_NoEntry rfl rfl (XN.kb_of F 2 [] fun _ _ _ _ _ _ us ws l1 l2 => match us, ws, l1, l2 with | [_, _], [], _, _ => rfl) rfl
theorem mkk_NoEntry {X : Cx} (T : T0 X.K X.mg) : CalleeX X 2 (He.ga X.K "NoEntry") 0 ["value"] X_NoEntry := by
  obtain ⟨fd, F⟩ := T.c.def_ 27 (d := d_i_NoEntry) rfl
  exact XN.mk1 (XN.xE_ok (T.xb 23 (f := XN.xE "NoEntry" ["value"]))) F rfl sc_i_NoEntry rfl rfl (XN.kb_of F 1 ["value"] fun _ _ _ _ _ _ us ws l1 l2 => match us, ws, l1, l2 with | [_], [_], _, _ => rfl) rfl
def X_NoHome : FD := XN.exF "NoHome" 1 (XN.o1 "value")
theorem mkp_NoHome {X : Cx} (T : T0 X.K X.mg) : CalleeX X 2 (He.ga X.K "NoHome") 1 [] X_NoHome := by
  obtain ⟨fd, F⟩ := T.c.def_ 28 (d := d_i_NoHome) rfl
  exact XN.mk1 (XN.xE_ok (T.xb 24 (f := XN.xE "NoHome" ["value"]))) F rfl sc_i_NoHome rfl rfl (XN.kb_of F 2 [] fun _ _ _ _ _ _ us ws l1 l2 => match us, ws, l1, l2 with | [_, _], [], _, _ => rfl) rfl
theorem mkk_NoHome {X : Cx} (T : T0 X.K X.mg) : CalleeX X 2 (He.ga X.K "NoHome") 0 ["value"] X_NoHome := by
  obtain ⟨fd, F⟩ := T.c.def_ 28 (d := d_i_NoHome) rfl
  exact XN.mk1 (XN.xE_ok (T.xb 24 (f := XN.xE "NoHome" ["value"]))) F rfl sc_i_NoHome rfl rfl (XN.kb_of F 1 ["value"] fun _ _ _ _ _ _ us ws l1 l2 => match us, ws, l1, l2 with | [_], [_], _, _ => rfl) rfl
def X_NoLink : FD := XN.exF "NoLink" 1 (XN.o1 "value")
theorem mkp_NoLink {X : Cx} (T : T0 X.K X.mg) : CalleeX X 2 (He.ga X.K "NoLink") 1 [] X_NoLink := by
  obtain ⟨fd, F⟩ := T.c.def_ 29 (d := d_i_NoLink) rfl
  exact XN.mk1 (XN.xE_ok (T.xb 25 (f := XN.xE "NoLink" ["value"]))) F rfl sc_i_NoLink rfl rfl (XN.kb_of F 2 [] fun _ _ _ _ _ _ us ws l1 l2 => match us, ws, l1, l2 with | [_, _], [], _, _ => rfl) rfl
theorem mkk_NoLink {X : Cx} (T : T0 X.K X.mg) : CalleeX X 2 (He.ga X.K "NoLink") 0 ["value"] X_NoLink := by
  obtain ⟨fd, F⟩ := T.c.def_ 29 (d := d_i_NoLink) rfl
  exact XN.mk1 (XN.xE_ok (T.xb 25 (f := XN.xE "NoLink" ["value"]))) F rfl sc_i_NoLink rfl rfl (XN.kb_of F 1 ["value"] fun _ _ _ _ _ _ us ws l1 l2 => match us, ws, l1, l2 with | [_], [_], _, _ => rfl) rfl
def X_Refused : FD := XN.exF "Refused" 2 (XN.o2 "word" "value")
theorem mkp_Refused {X : Cx} (T : T0 X.K X.mg) : CalleeX X 2 (He.ga X.K "Refused") 2 [] X_Refused := by
  obtain ⟨fd, F⟩ := T.c.def_ 30 (d := d_i_Refused) rfl
  exact XN.mk2 (XN.xE_ok (T.xb 26 (f := XN.xE "Refused" ["word", "value"]))) F rfl sc_i_Refused rfl rfl rfl (XN.kb_of F 3 [] fun _ _ _ _ _ _ us ws l1 l2 => match us, ws, l1, l2 with | [_, _, _], [], _, _ => rfl) rfl
theorem mkk_Refused {X : Cx} (T : T0 X.K X.mg) : CalleeX X 2 (He.ga X.K "Refused") 0 ["word", "value"] X_Refused := by
  obtain ⟨fd, F⟩ := T.c.def_ 30 (d := d_i_Refused) rfl
  exact XN.mk2 (XN.xE_ok (T.xb 26 (f := XN.xE "Refused" ["word", "value"]))) F rfl sc_i_Refused rfl rfl rfl (XN.kb_of F 1 ["word", "value"] fun _ _ _ _ _ _ us ws l1 l2 => match us, ws, l1, l2 with | [_], [_, _], _, _ => rfl) rfl
def X_NoWorld : FD := XN.exNF "NoWorld"
def B_law_pool : MS := (sSeq (sAsg (dC (.int 0)) (gN 2))
    (sSeq (sIf (dTest (dBin oLt (dVar 1) (dBlt oLen (aCons (dVar 0) aNil))))
    (sAsg (dBin oIx (dVar 0) (dVar 1)) (gN 2))
    sNil)
    (sSeq (sAsg (dBin oMod (dBin oMul (dBin oAdd (dBin oAdd (dBin oMod (dVar 2) (dC (.int 2147483629))) (dBin oMul (dBin oMul (dC (.int 7919)) (dVar 1)) (dVar 1))) (dC (.int 13))) (dC (.int 48271))) (dC (.int 2147483647))) (gN 3))
    (sSeq (sIf (dTest (dBin oLt (dVar 2) (dBin oPow (dC (.int 10)) (dC (.int 18)))))
    (sAsg (dC (.int 0)) (gN 2))
    sNil)
    (sRet (dLstO (aCons (dVar 2) (aCons (dBin oAdd (dBin oMod (dBin oMul (dVar 3) (dVar 3)) (dC (.int 2147483587))) (dC (.int 1))) aNil))))))))
def F_law_pool : FD := fnD 4 B_law_pool
theorem sc_law_pool : FnScope ["_law_script", "_law_k", "_law_cell", "_law_seed"] ["_law_script", "_law_k"] (defScope s_law_pool) := ⟨rfl, rfl, rfl, by decide +kernel, rfl, by decide +kernel, by decide +kernel⟩
theorem ok_law_pool (T : T0 K mg) : FnG P w K mg base 1 "_law_pool" 2 F_law_pool := by
  obtain ⟨fd, F⟩ := T.c.def_ 0 (d := d_law_pool) rfl
  refine ⟨⟨fd, ["_law_script", "_law_k"], fn_dataG F sc_law_pool fun cdv A outer s H E hr gd0 => ?_, F.bindsN fun _ _ _ _ _ _ us hl => match us, hl with | [_, _], _ => rfl⟩, T.glo 1, F.kp⟩
  exact (dss_cons (ds_set 2 sc_law_pool.nd rfl (by first | exact Or.inl rfl | exact Or.inr rfl) de_int)
    (dss_cons (ds_if (dt_rel op_oLt (dv 1) (de_bf c_oLen rfl (T.free 0) (by decide +kernel) (da_cons (dv 0) da_nil)))
    (dss_one (ds_set 2 sc_law_pool.nd rfl (by first | exact Or.inl rfl | exact Or.inr rfl) (de_ix (dv 0) (dv 1))))
    dss_nil)
    (dss_cons (ds_set 3 sc_law_pool.nd rfl (by first | exact Or.inl rfl | exact Or.inr rfl) (de_bin op_oMod (de_bin op_oMul (de_bin op_oAdd (de_bin op_oAdd (de_bin op_oMod (dv 2) de_int) (de_bin op_oMul (de_bin op_oMul de_int (dv 1)) (dv 1))) de_int) de_int) de_int))
    (dss_cons (ds_if (dt_rel op_oLt (dv 2) (de_bin op_oPow de_int de_int))
    (dss_one (ds_set 2 sc_law_pool.nd rfl (by first | exact Or.inl rfl | exact Or.inr rfl) de_int))
    dss_nil)
    (dss_one (ds_ret (de_lstO (da_cons (dv 2) (da_cons (de_bin op_oAdd (de_bin op_oMod (de_bin op_oMul (dv 3) (dv 3)) de_int) de_int) da_nil)))))))))
def B_law_take : MS := (sSeq (sIf (dTest (dBin oGt (dBin oIx (dVar 0) (dC (.int 0))) (dC (.int 0))))
    (sSeq (sAsg (dBin oMod (dBin oIx (dVar 0) (dC (.int 0))) (dVar 1)) (gN 2))
    (sSeq (sSetIx (dBin oFDiv (dBin oIx (dVar 0) (dC (.int 0))) (dVar 1)) (dVar 0) (dC (.int 0)))
    (sRet (dVar 2))))
    sNil)
    (sSeq (sSetIx (dBin oMod (dBin oAdd (dBin oMul (dBin oIx (dVar 0) (dC (.int 1))) (dC (.int 48271))) (dC (.int 11))) (dC (.int 2147483647))) (dVar 0) (dC (.int 1)))
    (sRet (dBin oMod (dBin oFDiv (dBin oMod (dBin oMul (dBin oIx (dVar 0) (dC (.int 1))) (dBin oIx (dVar 0) (dC (.int 1)))) (dC (.int 2147483629))) (dC (.int 64))) (dVar 1)))))
def F_law_take : FD := fnD 3 B_law_take
theorem sc_law_take : FnScope ["_law_pool_here", "_law_many", "_law_found"] ["_law_pool_here", "_law_many"] (defScope s_law_take) := ⟨rfl, rfl, rfl, by decide +kernel, rfl, by decide +kernel, by decide +kernel⟩
theorem ok_law_take (T : T0 K mg) : FnG P w K mg base 1 "_law_take" 2 F_law_take := by
  obtain ⟨fd, F⟩ := T.c.def_ 1 (d := d_law_take) rfl
  refine ⟨⟨fd, ["_law_pool_here", "_law_many"], fn_dataG F sc_law_take fun cdv A outer s H E hr gd0 => ?_, F.bindsN fun _ _ _ _ _ _ us hl => match us, hl with | [_, _], _ => rfl⟩, T.glo 2, F.kp⟩
  exact (dss_cons (ds_if (dt_rel op_oGt (de_ix (dv 0) de_int) de_int)
    (dss_cons (ds_set 2 sc_law_take.nd rfl (by first | exact Or.inl rfl | exact Or.inr rfl) (de_bin op_oMod (de_ix (dv 0) de_int) (dv 1)))
    (dss_cons (ds_setIx (de_bin op_oFDiv (de_ix (dv 0) de_int) (dv 1)) (dv 0) de_int)
    (dss_one (ds_ret (dv 2)))))
    dss_nil)
    (dss_cons (ds_setIx (de_bin op_oMod (de_bin op_oAdd (de_bin op_oMul (de_ix (dv 0) de_int) de_int) de_int) de_int) (dv 0) de_int)
    (dss_one (ds_ret (de_bin op_oMod (de_bin op_oFDiv (de_bin op_oMod (de_bin op_oMul (de_ix (dv 0) de_int) (de_ix (dv 0) de_int)) de_int) de_int) (dv 1))))))
def B_law_kinds : MS := (sRet (dLst (aCons (dBlt (XN.oEi (XN.ktE CS TG TT)) (aCons (dVar 0) (aCons (dC (.glo "TombError")) aNil))) (aCons (dBlt (XN.oEi (XN.ktE CS TG TT)) (aCons (dVar 0) (aCons (dC (.ty "ValueError")) aNil))) (aCons (dBlt (XN.oEi (XN.ktE CS TG TT)) (aCons (dVar 0) (aCons (dC (.ty "KeyError")) aNil))) (aCons (dBlt (XN.oEi (XN.ktE CS TG TT)) (aCons (dVar 0) (aCons (dC (.ty "RuntimeError")) aNil))) aNil))))))
def F_law_kinds : FD := fnD 1 B_law_kinds
theorem sc_law_kinds : FnScope ["_law_e"] ["_law_e"] (defScope s_law_kinds) := ⟨rfl, rfl, rfl, by decide +kernel, rfl, by decide +kernel, by decide +kernel⟩
theorem ok_law_kinds (T : T0 K mg) : FnG P w K mg base 1 "_law_kinds" 1 F_law_kinds := by
  obtain ⟨fd, F⟩ := T.c.def_ 3 (d := d_law_kinds) rfl
  refine ⟨⟨fd, ["_law_e"], fn_dataG F sc_law_kinds fun cdv A outer s H E hr gd0 => ?_, F.bindsN fun _ _ _ _ _ _ us hl => match us, hl with | [_], _ => rfl⟩, T.glo 8, F.kp⟩
  exact (dss_one (ds_ret (de_lst (da_cons (de_bf (XN.c_oEi (XN.ktE_ok (T.xb 27 (f := XN.isB CS)) (T.xb 0 (f := xgB TG)) (T.xb 1 (f := xtB TT)))) rfl (T.free 4) (by decide +kernel) (da_cons (dv 0) (da_cons (de_glob (d := .glo "TombError") (v := .ref (He.ga K "TombError")) rfl (T.glo 7) rfl (fun _ _ => rfl)) da_nil))) (da_cons (de_bf (XN.c_oEi (XN.ktE_ok (T.xb 27 (f := XN.isB CS)) (T.xb 0 (f := xgB TG)) (T.xb 1 (f := xtB TT)))) rfl (T.free 4) (by decide +kernel) (da_cons (dv 0) (da_cons (de_ty (n := "ValueError") rfl (T.free 6) (by decide +kernel)) da_nil))) (da_cons (de_bf (XN.c_oEi (XN.ktE_ok (T.xb 27 (f := XN.isB CS)) (T.xb 0 (f := xgB TG)) (T.xb 1 (f := xtB TT)))) rfl (T.free 4) (by decide +kernel) (da_cons (dv 0) (da_cons (de_ty (n := "KeyError") rfl (T.free 5) (by decide +kernel)) da_nil))) (da_cons (de_bf (XN.c_oEi (XN.ktE_ok (T.xb 27 (f := XN.isB CS)) (T.xb 0 (f := xgB TG)) (T.xb 1 (f := xtB TT)))) rfl (T.free 4) (by decide +kernel) (da_cons (dv 0) (da_cons (de_ty (n := "RuntimeError") rfl (T.free 3) (by decide +kernel)) da_nil))) da_nil)))))))
def B_law_classes : MS := (sSeq (sAsg (dLst (aCons (dBlt (XN.oEi (XN.ktE CS TG TT)) (aCons (dVar 0) (aCons (dC (.glo "BadEntry")) aNil))) (aCons (dBlt (XN.oEi (XN.ktE CS TG TT)) (aCons (dVar 0) (aCons (dC (.glo "BadEntries")) aNil))) (aCons (dBlt (XN.oEi (XN.ktE CS TG TT)) (aCons (dVar 0) (aCons (dC (.glo "BadText")) aNil))) aNil)))) (gN 1))
    (sSeq (sAsg (dBin oAdd (dVar 1) (dLst (aCons (dBlt (XN.oEi (XN.ktE CS TG TT)) (aCons (dVar 0) (aCons (dC (.glo "BadEvent")) aNil))) (aCons (dBlt (XN.oEi (XN.ktE CS TG TT)) (aCons (dVar 0) (aCons (dC (.glo "BadWorld")) aNil))) (aCons (dBlt (XN.oEi (XN.ktE CS TG TT)) (aCons (dVar 0) (aCons (dC (.glo "BadKey")) aNil))) aNil))))) (gN 1))
    (sSeq (sAsg (dBin oAdd (dVar 1) (dLst (aCons (dBlt (XN.oEi (XN.ktE CS TG TT)) (aCons (dVar 0) (aCons (dC (.glo "BadStamp")) aNil))) (aCons (dBlt (XN.oEi (XN.ktE CS TG TT)) (aCons (dVar 0) (aCons (dC (.glo "BadHomes")) aNil))) (aCons (dBlt (XN.oEi (XN.ktE CS TG TT)) (aCons (dVar 0) (aCons (dC (.glo "BadRow")) aNil))) aNil))))) (gN 1))
    (sSeq (sAsg (dBin oAdd (dVar 1) (dLst (aCons (dBlt (XN.oEi (XN.ktE CS TG TT)) (aCons (dVar 0) (aCons (dC (.glo "BadStory")) aNil))) (aCons (dBlt (XN.oEi (XN.ktE CS TG TT)) (aCons (dVar 0) (aCons (dC (.glo "BadLimit")) aNil))) (aCons (dBlt (XN.oEi (XN.ktE CS TG TT)) (aCons (dVar 0) (aCons (dC (.glo "BadPolicy")) aNil))) aNil))))) (gN 1))
    (sSeq (sAsg (dBin oAdd (dVar 1) (dLst (aCons (dBlt (XN.oEi (XN.ktE CS TG TT)) (aCons (dVar 0) (aCons (dC (.glo "BadKeys")) aNil))) (aCons (dBlt (XN.oEi (XN.ktE CS TG TT)) (aCons (dVar 0) (aCons (dC (.glo "BadDepth")) aNil))) (aCons (dBlt (XN.oEi (XN.ktE CS TG TT)) (aCons (dVar 0) (aCons (dC (.glo "BadSkips")) aNil))) aNil))))) (gN 1))
    (sSeq (sAsg (dBin oAdd (dVar 1) (dLst (aCons (dBlt (XN.oEi (XN.ktE CS TG TT)) (aCons (dVar 0) (aCons (dC (.glo "BadPlan")) aNil))) (aCons (dBlt (XN.oEi (XN.ktE CS TG TT)) (aCons (dVar 0) (aCons (dC (.glo "BadQuestion")) aNil))) (aCons (dBlt (XN.oEi (XN.ktE CS TG TT)) (aCons (dVar 0) (aCons (dC (.glo "BadLine")) aNil))) aNil))))) (gN 1))
    (sSeq (sAsg (dBin oAdd (dVar 1) (dLst (aCons (dBlt (XN.oEi (XN.ktE CS TG TT)) (aCons (dVar 0) (aCons (dC (.glo "NotARun")) aNil))) (aCons (dBlt (XN.oEi (XN.ktE CS TG TT)) (aCons (dVar 0) (aCons (dC (.glo "NoMoment")) aNil))) (aCons (dBlt (XN.oEi (XN.ktE CS TG TT)) (aCons (dVar 0) (aCons (dC (.glo "TooLong")) aNil))) aNil))))) (gN 1))
    (sSeq (sAsg (dBin oAdd (dVar 1) (dLst (aCons (dBlt (XN.oEi (XN.ktE CS TG TT)) (aCons (dVar 0) (aCons (dC (.glo "NoEntry")) aNil))) (aCons (dBlt (XN.oEi (XN.ktE CS TG TT)) (aCons (dVar 0) (aCons (dC (.glo "NoHome")) aNil))) (aCons (dBlt (XN.oEi (XN.ktE CS TG TT)) (aCons (dVar 0) (aCons (dC (.glo "NoLink")) aNil))) aNil))))) (gN 1))
    (sSeq (sAsg (dBin oAdd (dVar 1) (dLst (aCons (dBlt (XN.oEi (XN.ktE CS TG TT)) (aCons (dVar 0) (aCons (dC (.glo "Refused")) aNil))) aNil))) (gN 1))
    (sRet (dVar 1)))))))))))
def F_law_classes : FD := fnD 2 B_law_classes
theorem sc_law_classes : FnScope ["_law_e", "_law_found"] ["_law_e"] (defScope s_law_classes) := ⟨rfl, rfl, rfl, by decide +kernel, rfl, by decide +kernel, by decide +kernel⟩
theorem ok_law_classes (T : T0 K mg) : FnG P w K mg base 1 "_law_classes" 1 F_law_classes := by
  obtain ⟨fd, F⟩ := T.c.def_ 4 (d := d_law_classes) rfl
  refine ⟨⟨fd, ["_law_e"], fn_dataG F sc_law_classes fun cdv A outer s H E hr gd0 => ?_, F.bindsN fun _ _ _ _ _ _ us hl => match us, hl with | [_], _ => rfl⟩, T.glo 34, F.kp⟩
  exact (dss_cons (ds_set 1 sc_law_classes.nd rfl (by first | exact Or.inl rfl | exact Or.inr rfl) (de_lst (da_cons (de_bf (XN.c_oEi (XN.ktE_ok (T.xb 27 (f := XN.isB CS)) (T.xb 0 (f := xgB TG)) (T.xb 1 (f := xtB TT)))) rfl (T.free 4) (by decide +kernel) (da_cons (dv 0) (da_cons (de_glob (d := .glo "BadEntry") (v := .ref (He.ga K "BadEntry")) rfl (T.glo 33) rfl (fun _ _ => rfl)) da_nil))) (da_cons (de_bf (XN.c_oEi (XN.ktE_ok (T.xb 27 (f := XN.isB CS)) (T.xb 0 (f := xgB TG)) (T.xb 1 (f := xtB TT)))) rfl (T.free 4) (by decide +kernel) (da_cons (dv 0) (da_cons (de_glob (d := .glo "BadEntries") (v := .ref (He.ga K "BadEntries")) rfl (T.glo 32) rfl (fun _ _ => rfl)) da_nil))) (da_cons (de_bf (XN.c_oEi (XN.ktE_ok (T.xb 27 (f := XN.isB CS)) (T.xb 0 (f := xgB TG)) (T.xb 1 (f := xtB TT)))) rfl (T.free 4) (by decide +kernel) (da_cons (dv 0) (da_cons (de_glob (d := .glo "BadText") (v := .ref (He.ga K "BadText")) rfl (T.glo 31) rfl (fun _ _ => rfl)) da_nil))) da_nil)))))
    (dss_cons (ds_set 1 sc_law_classes.nd rfl (by first | exact Or.inl rfl | exact Or.inr rfl) (de_bin op_oAdd (dv 1) (de_lst (da_cons (de_bf (XN.c_oEi (XN.ktE_ok (T.xb 27 (f := XN.isB CS)) (T.xb 0 (f := xgB TG)) (T.xb 1 (f := xtB TT)))) rfl (T.free 4) (by decide +kernel) (da_cons (dv 0) (da_cons (de_glob (d := .glo "BadEvent") (v := .ref (He.ga K "BadEvent")) rfl (T.glo 30) rfl (fun _ _ => rfl)) da_nil))) (da_cons (de_bf (XN.c_oEi (XN.ktE_ok (T.xb 27 (f := XN.isB CS)) (T.xb 0 (f := xgB TG)) (T.xb 1 (f := xtB TT)))) rfl (T.free 4) (by decide +kernel) (da_cons (dv 0) (da_cons (de_glob (d := .glo "BadWorld") (v := .ref (He.ga K "BadWorld")) rfl (T.glo 29) rfl (fun _ _ => rfl)) da_nil))) (da_cons (de_bf (XN.c_oEi (XN.ktE_ok (T.xb 27 (f := XN.isB CS)) (T.xb 0 (f := xgB TG)) (T.xb 1 (f := xtB TT)))) rfl (T.free 4) (by decide +kernel) (da_cons (dv 0) (da_cons (de_glob (d := .glo "BadKey") (v := .ref (He.ga K "BadKey")) rfl (T.glo 28) rfl (fun _ _ => rfl)) da_nil))) da_nil))))))
    (dss_cons (ds_set 1 sc_law_classes.nd rfl (by first | exact Or.inl rfl | exact Or.inr rfl) (de_bin op_oAdd (dv 1) (de_lst (da_cons (de_bf (XN.c_oEi (XN.ktE_ok (T.xb 27 (f := XN.isB CS)) (T.xb 0 (f := xgB TG)) (T.xb 1 (f := xtB TT)))) rfl (T.free 4) (by decide +kernel) (da_cons (dv 0) (da_cons (de_glob (d := .glo "BadStamp") (v := .ref (He.ga K "BadStamp")) rfl (T.glo 27) rfl (fun _ _ => rfl)) da_nil))) (da_cons (de_bf (XN.c_oEi (XN.ktE_ok (T.xb 27 (f := XN.isB CS)) (T.xb 0 (f := xgB TG)) (T.xb 1 (f := xtB TT)))) rfl (T.free 4) (by decide +kernel) (da_cons (dv 0) (da_cons (de_glob (d := .glo "BadHomes") (v := .ref (He.ga K "BadHomes")) rfl (T.glo 26) rfl (fun _ _ => rfl)) da_nil))) (da_cons (de_bf (XN.c_oEi (XN.ktE_ok (T.xb 27 (f := XN.isB CS)) (T.xb 0 (f := xgB TG)) (T.xb 1 (f := xtB TT)))) rfl (T.free 4) (by decide +kernel) (da_cons (dv 0) (da_cons (de_glob (d := .glo "BadRow") (v := .ref (He.ga K "BadRow")) rfl (T.glo 25) rfl (fun _ _ => rfl)) da_nil))) da_nil))))))
    (dss_cons (ds_set 1 sc_law_classes.nd rfl (by first | exact Or.inl rfl | exact Or.inr rfl) (de_bin op_oAdd (dv 1) (de_lst (da_cons (de_bf (XN.c_oEi (XN.ktE_ok (T.xb 27 (f := XN.isB CS)) (T.xb 0 (f := xgB TG)) (T.xb 1 (f := xtB TT)))) rfl (T.free 4) (by decide +kernel) (da_cons (dv 0) (da_cons (de_glob (d := .glo "BadStory") (v := .ref (He.ga K "BadStory")) rfl (T.glo 24) rfl (fun _ _ => rfl)) da_nil))) (da_cons (de_bf (XN.c_oEi (XN.ktE_ok (T.xb 27 (f := XN.isB CS)) (T.xb 0 (f := xgB TG)) (T.xb 1 (f := xtB TT)))) rfl (T.free 4) (by decide +kernel) (da_cons (dv 0) (da_cons (de_glob (d := .glo "BadLimit") (v := .ref (He.ga K "BadLimit")) rfl (T.glo 23) rfl (fun _ _ => rfl)) da_nil))) (da_cons (de_bf (XN.c_oEi (XN.ktE_ok (T.xb 27 (f := XN.isB CS)) (T.xb 0 (f := xgB TG)) (T.xb 1 (f := xtB TT)))) rfl (T.free 4) (by decide +kernel) (da_cons (dv 0) (da_cons (de_glob (d := .glo "BadPolicy") (v := .ref (He.ga K "BadPolicy")) rfl (T.glo 22) rfl (fun _ _ => rfl)) da_nil))) da_nil))))))
    (dss_cons (ds_set 1 sc_law_classes.nd rfl (by first | exact Or.inl rfl | exact Or.inr rfl) (de_bin op_oAdd (dv 1) (de_lst (da_cons (de_bf (XN.c_oEi (XN.ktE_ok (T.xb 27 (f := XN.isB CS)) (T.xb 0 (f := xgB TG)) (T.xb 1 (f := xtB TT)))) rfl (T.free 4) (by decide +kernel) (da_cons (dv 0) (da_cons (de_glob (d := .glo "BadKeys") (v := .ref (He.ga K "BadKeys")) rfl (T.glo 21) rfl (fun _ _ => rfl)) da_nil))) (da_cons (de_bf (XN.c_oEi (XN.ktE_ok (T.xb 27 (f := XN.isB CS)) (T.xb 0 (f := xgB TG)) (T.xb 1 (f := xtB TT)))) rfl (T.free 4) (by decide +kernel) (da_cons (dv 0) (da_cons (de_glob (d := .glo "BadDepth") (v := .ref (He.ga K "BadDepth")) rfl (T.glo 20) rfl (fun _ _ => rfl)) da_nil))) (da_cons (de_bf (XN.c_oEi (XN.ktE_ok (T.xb 27 (f := XN.isB CS)) (T.xb 0 (f := xgB TG)) (T.xb 1 (f := xtB TT)))) rfl (T.free 4) (by decide +kernel) (da_cons (dv 0) (da_cons (de_glob (d := .glo "BadSkips") (v := .ref (He.ga K "BadSkips")) rfl (T.glo 19) rfl (fun _ _ => rfl)) da_nil))) da_nil))))))
    (dss_cons (ds_set 1 sc_law_classes.nd rfl (by first | exact Or.inl rfl | exact Or.inr rfl) (de_bin op_oAdd (dv 1) (de_lst (da_cons (de_bf (XN.c_oEi (XN.ktE_ok (T.xb 27 (f := XN.isB CS)) (T.xb 0 (f := xgB TG)) (T.xb 1 (f := xtB TT)))) rfl (T.free 4) (by decide +kernel) (da_cons (dv 0) (da_cons (de_glob (d := .glo "BadPlan") (v := .ref (He.ga K "BadPlan")) rfl (T.glo 18) rfl (fun _ _ => rfl)) da_nil))) (da_cons (de_bf (XN.c_oEi (XN.ktE_ok (T.xb 27 (f := XN.isB CS)) (T.xb 0 (f := xgB TG)) (T.xb 1 (f := xtB TT)))) rfl (T.free 4) (by decide +kernel) (da_cons (dv 0) (da_cons (de_glob (d := .glo "BadQuestion") (v := .ref (He.ga K "BadQuestion")) rfl (T.glo 17) rfl (fun _ _ => rfl)) da_nil))) (da_cons (de_bf (XN.c_oEi (XN.ktE_ok (T.xb 27 (f := XN.isB CS)) (T.xb 0 (f := xgB TG)) (T.xb 1 (f := xtB TT)))) rfl (T.free 4) (by decide +kernel) (da_cons (dv 0) (da_cons (de_glob (d := .glo "BadLine") (v := .ref (He.ga K "BadLine")) rfl (T.glo 16) rfl (fun _ _ => rfl)) da_nil))) da_nil))))))
    (dss_cons (ds_set 1 sc_law_classes.nd rfl (by first | exact Or.inl rfl | exact Or.inr rfl) (de_bin op_oAdd (dv 1) (de_lst (da_cons (de_bf (XN.c_oEi (XN.ktE_ok (T.xb 27 (f := XN.isB CS)) (T.xb 0 (f := xgB TG)) (T.xb 1 (f := xtB TT)))) rfl (T.free 4) (by decide +kernel) (da_cons (dv 0) (da_cons (de_glob (d := .glo "NotARun") (v := .ref (He.ga K "NotARun")) rfl (T.glo 15) rfl (fun _ _ => rfl)) da_nil))) (da_cons (de_bf (XN.c_oEi (XN.ktE_ok (T.xb 27 (f := XN.isB CS)) (T.xb 0 (f := xgB TG)) (T.xb 1 (f := xtB TT)))) rfl (T.free 4) (by decide +kernel) (da_cons (dv 0) (da_cons (de_glob (d := .glo "NoMoment") (v := .ref (He.ga K "NoMoment")) rfl (T.glo 14) rfl (fun _ _ => rfl)) da_nil))) (da_cons (de_bf (XN.c_oEi (XN.ktE_ok (T.xb 27 (f := XN.isB CS)) (T.xb 0 (f := xgB TG)) (T.xb 1 (f := xtB TT)))) rfl (T.free 4) (by decide +kernel) (da_cons (dv 0) (da_cons (de_glob (d := .glo "TooLong") (v := .ref (He.ga K "TooLong")) rfl (T.glo 13) rfl (fun _ _ => rfl)) da_nil))) da_nil))))))
    (dss_cons (ds_set 1 sc_law_classes.nd rfl (by first | exact Or.inl rfl | exact Or.inr rfl) (de_bin op_oAdd (dv 1) (de_lst (da_cons (de_bf (XN.c_oEi (XN.ktE_ok (T.xb 27 (f := XN.isB CS)) (T.xb 0 (f := xgB TG)) (T.xb 1 (f := xtB TT)))) rfl (T.free 4) (by decide +kernel) (da_cons (dv 0) (da_cons (de_glob (d := .glo "NoEntry") (v := .ref (He.ga K "NoEntry")) rfl (T.glo 12) rfl (fun _ _ => rfl)) da_nil))) (da_cons (de_bf (XN.c_oEi (XN.ktE_ok (T.xb 27 (f := XN.isB CS)) (T.xb 0 (f := xgB TG)) (T.xb 1 (f := xtB TT)))) rfl (T.free 4) (by decide +kernel) (da_cons (dv 0) (da_cons (de_glob (d := .glo "NoHome") (v := .ref (He.ga K "NoHome")) rfl (T.glo 11) rfl (fun _ _ => rfl)) da_nil))) (da_cons (de_bf (XN.c_oEi (XN.ktE_ok (T.xb 27 (f := XN.isB CS)) (T.xb 0 (f := xgB TG)) (T.xb 1 (f := xtB TT)))) rfl (T.free 4) (by decide +kernel) (da_cons (dv 0) (da_cons (de_glob (d := .glo "NoLink") (v := .ref (He.ga K "NoLink")) rfl (T.glo 10) rfl (fun _ _ => rfl)) da_nil))) da_nil))))))
    (dss_cons (ds_set 1 sc_law_classes.nd rfl (by first | exact Or.inl rfl | exact Or.inr rfl) (de_bin op_oAdd (dv 1) (de_lst (da_cons (de_bf (XN.c_oEi (XN.ktE_ok (T.xb 27 (f := XN.isB CS)) (T.xb 0 (f := xgB TG)) (T.xb 1 (f := xtB TT)))) rfl (T.free 4) (by decide +kernel) (da_cons (dv 0) (da_cons (de_glob (d := .glo "Refused") (v := .ref (He.ga K "Refused")) rfl (T.glo 9) rfl (fun _ _ => rfl)) da_nil))) da_nil))))
    (dss_one (ds_ret (dv 1))))))))))))
def B_law_made : MS := (sSeq (sAsg (dLst (aCons (XN.dKK 1 X_BadEntry (aCons (dVar 0) aNil)) (aCons (dCC 1 X_BadEntries (aCons (dVar 0) aNil)) (aCons (XN.dKK 1 X_BadText (aCons (dVar 0) aNil)) (aCons (dCC 1 X_BadEvent (aCons (dVar 0) aNil)) aNil))))) (gN 1))
    (sSeq (sAsg (dBin oAdd (dVar 1) (dLst (aCons (XN.dKK 1 X_BadWorld (aCons (dVar 0) aNil)) (aCons (dCC 1 X_BadKey (aCons (dVar 0) aNil)) (aCons (XN.dKK 1 X_BadStamp (aCons (dVar 0) aNil)) (aCons (dCC 1 X_BadHomes (aCons (dVar 0) aNil)) aNil)))))) (gN 1))
    (sSeq (sAsg (dBin oAdd (dVar 1) (dLst (aCons (XN.dKK 1 X_BadRow (aCons (dVar 0) aNil)) (aCons (dCC 1 X_BadStory (aCons (dVar 0) aNil)) (aCons (XN.dKK 1 X_BadLimit (aCons (dVar 0) aNil)) (aCons (dCC 1 X_BadPolicy (aCons (dVar 0) aNil)) aNil)))))) (gN 1))
    (sSeq (sAsg (dBin oAdd (dVar 1) (dLst (aCons (XN.dKK 1 X_BadKeys (aCons (dVar 0) aNil)) (aCons (dCC 1 X_BadDepth (aCons (dVar 0) aNil)) (aCons (XN.dKK 1 X_BadSkips (aCons (dVar 0) aNil)) (aCons (dCC 1 X_BadPlan (aCons (dVar 0) aNil)) aNil)))))) (gN 1))
    (sSeq (sAsg (dBin oAdd (dVar 1) (dLst (aCons (XN.dKK 1 X_BadQuestion (aCons (dVar 0) aNil)) (aCons (dCC 1 X_BadLine (aCons (dVar 0) aNil)) (aCons (XN.dKK 1 X_NotARun (aCons (dVar 0) aNil)) (aCons (dCC 1 X_NoMoment (aCons (dVar 0) aNil)) aNil)))))) (gN 1))
    (sSeq (sAsg (dBin oAdd (dVar 1) (dLst (aCons (XN.dKK 1 X_TooLong (aCons (dVar 0) aNil)) (aCons (dCC 1 X_NoEntry (aCons (dVar 0) aNil)) (aCons (XN.dKK 1 X_NoHome (aCons (dVar 0) aNil)) (aCons (dCC 1 X_NoLink (aCons (dVar 0) aNil)) aNil)))))) (gN 1))
    (sRet (dBin oAdd (dVar 1) (dLst (aCons (dCC 2 X_Refused (aCons (dC (.str "way")) (aCons (dVar 0) aNil))) aNil))))))))))
def F_law_made : FD := fnD 2 B_law_made
theorem sc_law_made : FnScope ["_law_thing", "_law_some"] ["_law_thing"] (defScope s_law_made) := ⟨rfl, rfl, rfl, by decide +kernel, rfl, by decide +kernel, by decide +kernel⟩
theorem ok_law_made (T : T0 K mg) : FnG P w K mg base 3 "_law_made" 1 F_law_made := by
  obtain ⟨fd, F⟩ := T.c.def_ 2 (d := d_law_made) rfl
  refine ⟨⟨fd, ["_law_thing"], fn_dataG F sc_law_made fun cdv A outer s H E hr gd0 => ?_, F.bindsN fun _ _ _ _ _ _ us hl => match us, hl with | [_], _ => rfl⟩, T.glo 35, F.kp⟩
  exact (dss_cons (ds_set 1 sc_law_made.nd rfl (by first | exact Or.inl rfl | exact Or.inr rfl) (de_lst (da_cons (XN.de_kk (mkk_BadEntry T) hr gd0 rfl (T.glo 33) (XN.xE_ok (T.xb 2 (f := XN.xE "BadEntry" ["value"]))).o.keep (takes_of rfl rfl rfl rfl) (dk_cons (dv 0) dk_nil) (by decide)) (da_cons (de_cc (mkp_BadEntries T) hr gd0 rfl (T.glo 32) (XN.xE_ok (T.xb 3 (f := XN.xE "BadEntries" ["value"]))).o.keep (takes_of rfl rfl rfl rfl) (da_cons (dv 0) da_nil) (by decide)) (da_cons (XN.de_kk (mkk_BadText T) hr gd0 rfl (T.glo 31) (XN.xE_ok (T.xb 4 (f := XN.xE "BadText" ["value"]))).o.keep (takes_of rfl rfl rfl rfl) (dk_cons (dv 0) dk_nil) (by decide)) (da_cons (de_cc (mkp_BadEvent T) hr gd0 rfl (T.glo 30) (XN.xE_ok (T.xb 5 (f := XN.xE "BadEvent" ["value"]))).o.keep (takes_of rfl rfl rfl rfl) (da_cons (dv 0) da_nil) (by decide)) da_nil))))))
    (dss_cons (ds_set 1 sc_law_made.nd rfl (by first | exact Or.inl rfl | exact Or.inr rfl) (de_bin op_oAdd (dv 1) (de_lst (da_cons (XN.de_kk (mkk_BadWorld T) hr gd0 rfl (T.glo 29) (XN.xE_ok (T.xb 6 (f := XN.xE "BadWorld" ["value"]))).o.keep (takes_of rfl rfl rfl rfl) (dk_cons (dv 0) dk_nil) (by decide)) (da_cons (de_cc (mkp_BadKey T) hr gd0 rfl (T.glo 28) (XN.xE_ok (T.xb 7 (f := XN.xE "BadKey" ["value"]))).o.keep (takes_of rfl rfl rfl rfl) (da_cons (dv 0) da_nil) (by decide)) (da_cons (XN.de_kk (mkk_BadStamp T) hr gd0 rfl (T.glo 27) (XN.xE_ok (T.xb 8 (f := XN.xE "BadStamp" ["value"]))).o.keep (takes_of rfl rfl rfl rfl) (dk_cons (dv 0) dk_nil) (by decide)) (da_cons (de_cc (mkp_BadHomes T) hr gd0 rfl (T.glo 26) (XN.xE_ok (T.xb 9 (f := XN.xE "BadHomes" ["value"]))).o.keep (takes_of rfl rfl rfl rfl) (da_cons (dv 0) da_nil) (by decide)) da_nil)))))))
    (dss_cons (ds_set 1 sc_law_made.nd rfl (by first | exact Or.inl rfl | exact Or.inr rfl) (de_bin op_oAdd (dv 1) (de_lst (da_cons (XN.de_kk (mkk_BadRow T) hr gd0 rfl (T.glo 25) (XN.xE_ok (T.xb 10 (f := XN.xE "BadRow" ["value"]))).o.keep (takes_of rfl rfl rfl rfl) (dk_cons (dv 0) dk_nil) (by decide)) (da_cons (de_cc (mkp_BadStory T) hr gd0 rfl (T.glo 24) (XN.xE_ok (T.xb 11 (f := XN.xE "BadStory" ["value"]))).o.keep (takes_of rfl rfl rfl rfl) (da_cons (dv 0) da_nil) (by decide)) (da_cons (XN.de_kk (mkk_BadLimit T) hr gd0 rfl (T.glo 23) (XN.xE_ok (T.xb 12 (f := XN.xE "BadLimit" ["value"]))).o.keep (takes_of rfl rfl rfl rfl) (dk_cons (dv 0) dk_nil) (by decide)) (da_cons (de_cc (mkp_BadPolicy T) hr gd0 rfl (T.glo 22) (XN.xE_ok (T.xb 13 (f := XN.xE "BadPolicy" ["value"]))).o.keep (takes_of rfl rfl rfl rfl) (da_cons (dv 0) da_nil) (by decide)) da_nil)))))))
    (dss_cons (ds_set 1 sc_law_made.nd rfl (by first | exact Or.inl rfl | exact Or.inr rfl) (de_bin op_oAdd (dv 1) (de_lst (da_cons (XN.de_kk (mkk_BadKeys T) hr gd0 rfl (T.glo 21) (XN.xE_ok (T.xb 14 (f := XN.xE "BadKeys" ["value"]))).o.keep (takes_of rfl rfl rfl rfl) (dk_cons (dv 0) dk_nil) (by decide)) (da_cons (de_cc (mkp_BadDepth T) hr gd0 rfl (T.glo 20) (XN.xE_ok (T.xb 15 (f := XN.xE "BadDepth" ["value"]))).o.keep (takes_of rfl rfl rfl rfl) (da_cons (dv 0) da_nil) (by decide)) (da_cons (XN.de_kk (mkk_BadSkips T) hr gd0 rfl (T.glo 19) (XN.xE_ok (T.xb 16 (f := XN.xE "BadSkips" ["value"]))).o.keep (takes_of rfl rfl rfl rfl) (dk_cons (dv 0) dk_nil) (by decide)) (da_cons (de_cc (mkp_BadPlan T) hr gd0 rfl (T.glo 18) (XN.xE_ok (T.xb 17 (f := XN.xE "BadPlan" ["value"]))).o.keep (takes_of rfl rfl rfl rfl) (da_cons (dv 0) da_nil) (by decide)) da_nil)))))))
    (dss_cons (ds_set 1 sc_law_made.nd rfl (by first | exact Or.inl rfl | exact Or.inr rfl) (de_bin op_oAdd (dv 1) (de_lst (da_cons (XN.de_kk (mkk_BadQuestion T) hr gd0 rfl (T.glo 17) (XN.xE_ok (T.xb 18 (f := XN.xE "BadQuestion" ["value"]))).o.keep (takes_of rfl rfl rfl rfl) (dk_cons (dv 0) dk_nil) (by decide)) (da_cons (de_cc (mkp_BadLine T) hr gd0 rfl (T.glo 16) (XN.xE_ok (T.xb 19 (f := XN.xE "BadLine" ["value"]))).o.keep (takes_of rfl rfl rfl rfl) (da_cons (dv 0) da_nil) (by decide)) (da_cons (XN.de_kk (mkk_NotARun T) hr gd0 rfl (T.glo 15) (XN.xE_ok (T.xb 20 (f := XN.xE "NotARun" ["value"]))).o.keep (takes_of rfl rfl rfl rfl) (dk_cons (dv 0) dk_nil) (by decide)) (da_cons (de_cc (mkp_NoMoment T) hr gd0 rfl (T.glo 14) (XN.xE_ok (T.xb 21 (f := XN.xE "NoMoment" ["value"]))).o.keep (takes_of rfl rfl rfl rfl) (da_cons (dv 0) da_nil) (by decide)) da_nil)))))))
    (dss_cons (ds_set 1 sc_law_made.nd rfl (by first | exact Or.inl rfl | exact Or.inr rfl) (de_bin op_oAdd (dv 1) (de_lst (da_cons (XN.de_kk (mkk_TooLong T) hr gd0 rfl (T.glo 13) (XN.xE_ok (T.xb 22 (f := XN.xE "TooLong" ["value"]))).o.keep (takes_of rfl rfl rfl rfl) (dk_cons (dv 0) dk_nil) (by decide)) (da_cons (de_cc (mkp_NoEntry T) hr gd0 rfl (T.glo 12) (XN.xE_ok (T.xb 23 (f := XN.xE "NoEntry" ["value"]))).o.keep (takes_of rfl rfl rfl rfl) (da_cons (dv 0) da_nil) (by decide)) (da_cons (XN.de_kk (mkk_NoHome T) hr gd0 rfl (T.glo 11) (XN.xE_ok (T.xb 24 (f := XN.xE "NoHome" ["value"]))).o.keep (takes_of rfl rfl rfl rfl) (dk_cons (dv 0) dk_nil) (by decide)) (da_cons (de_cc (mkp_NoLink T) hr gd0 rfl (T.glo 10) (XN.xE_ok (T.xb 25 (f := XN.xE "NoLink" ["value"]))).o.keep (takes_of rfl rfl rfl rfl) (da_cons (dv 0) da_nil) (by decide)) da_nil)))))))
    (dss_one (ds_ret (de_bin op_oAdd (dv 1) (de_lst (da_cons (de_cc (mkp_Refused T) hr gd0 rfl (T.glo 9) (XN.xE_ok (T.xb 26 (f := XN.xE "Refused" ["word", "value"]))).o.keep (takes_of rfl rfl rfl rfl) (da_cons de_str (da_cons (dv 0) da_nil)) (by decide)) da_nil)))))))))))
def L_law_1 : MS := (sSeq (sAsg (dIfE (dTest (dBin oLt (dVar 4) (dC (.int 21)))) (dLst (aCons (dC (.bl true)) (aCons (dC (.bl true)) (aCons (dC (.bl false)) (aCons (dC (.bl false)) aNil))))) (dLst (aCons (dC (.bl false)) (aCons (dC (.bl false)) (aCons (dBin oLt (dVar 4) (dC (.int 24))) (aCons (dBin oEq (dVar 4) (dC (.int 24))) aNil)))))) (gN 6))
    (sSeq (sIf (dOrT (dTest (dBin oNe (dCall 1 F_law_kinds [] (aCons (dVar 5) aNil)) (dVar 6))) (dTest (dBin oNe (dBlt oRepr (aCons (XN.dEf "value" EF_value (dVar 5)) aNil)) (dBlt oRepr (aCons (dVar 3) aNil)))))
    (sRet (dC (.bl false)))
    sNil)
    (sIf (dTest (dBin oNe (dCall 1 F_law_classes [] (aCons (dVar 5) aNil)) (dLC [7] (iR1 (aCons (dC (.int 25)) aNil)) (gN 7) mYes (dBin oEq (dVar 4) (dVar 7)))))
    (sRet (dC (.bl false)))
    sNil)))
def L_law_2 : MS := (sSeq (sAsg (dCall 2 F_law_pool [] (aCons (dVar 0) (aCons (dVar 1) aNil))) (gN 2))
    (sSeq (sAsg (dBin oIx (dLst (aCons (dC .non) (aCons (dC (.int 5)) (aCons (dC (.bl true)) (aCons (dC (.str "ann")) (aCons (dTup (aCons (dC (.str "k")) aNil)) (aCons (dLst (aCons (dC (.str "k")) aNil)) (aCons dDictE (aCons (dNeg (dC (.int 1))) aNil))))))))) (dCall 2 F_law_take [] (aCons (dVar 2) (aCons (dC (.int 8)) aNil)))) (gN 3))
    (sSeq (sFor (XN.iEn (aCons (dCall 1 F_law_made [] (aCons (dVar 3) aNil)) aNil)) (gTL 2 (gsCons (gN 4) (gsCons (gN 5) gsNil))) L_law_1)
    (sSeq (sAsg (XN.dKK 2 X_Refused (aCons (dC (.str "untold")) (aCons (dVar 3) aNil))) (gN 8))
    (sSeq (sIf (dOrT (dTest (dBin oNe (XN.dEf "word" EF_word (dVar 8)) (dC (.str "untold")))) (dOrT (dTest (dBin oNe (dBlt oRepr (aCons (XN.dEf "value" EF_value (dVar 8)) aNil)) (dBlt oRepr (aCons (dVar 3) aNil)))) (dTest (dBin oNe (XN.dEf "word" EF_word (dCC 2 X_Refused (aCons (dC (.str "way")) (aCons (dVar 3) aNil)))) (dC (.str "way"))))))
    (sRet (dC (.bl false)))
    sNil)
    (sIf (dOrT (dTest (dBin oNe (dCall 1 F_law_kinds [] (aCons (dCC 0 X_NoWorld aNil) aNil)) (dLst (aCons (dC (.bl false)) (aCons (dC (.bl false)) (aCons (dC (.bl false)) (aCons (dC (.bl true)) aNil))))))) (dTest (dBin oNe (dCall 1 F_law_classes [] (aCons (dCC 0 X_NoWorld aNil) aNil)) (dBin oMul (dLst (aCons (dC (.bl false)) aNil)) (dC (.int 25))))))
    (sRet (dC (.bl false)))
    sNil))))))
def B_law : MS := (sSeq (sFor (iR1 (aCons (dBlt oMax (aCons (dC (.int 1)) (aCons (dBlt oMin (aCons (dBlt oLen (aCons (dVar 0) aNil)) (aCons (dC (.int 6)) aNil))) aNil))) aNil)) (gN 1) L_law_2)
    (sRet (dC (.bl true))))
def F_law : FD := fnD 9 B_law
theorem sc_law : FnScope ["_law_script", "_law_k", "_law_pool_here", "_law_thing", "_law_at", "_law_e", "_law_due", "_law_number", "_law_refused"] ["_law_script"] (defScope s_law) := ⟨rfl, rfl, rfl, by decide +kernel, rfl, by decide +kernel, by decide +kernel⟩
theorem ok_law_at (T : T0 K mg) {fd : FuncData} (F : FunD K "law" "law" d_law.params d_law.body d_law.scope (d_law.dvs K) (d_law.kws K) (He.fAd K d_law.at_) fd) : FnGd P w K mg base 4 (He.ga K "law") fd ["_law_script"] (spD K 1 F_law) :=
  fn_dataG F sc_law fun cdv A outer s H E hr gd0 => (dss_cons (ds_for (passes_of rfl) rfl (di_range1 rfl (T.free 38) (da_cons (de_bf (c_oMax rfl) rfl (T.free 37) (by decide +kernel) (da_cons de_int (da_cons (de_bf (c_oMin rfl) rfl (T.free 36) (by decide +kernel) (da_cons (de_bf c_oLen rfl (T.free 0) (by decide +kernel) (da_cons (dv 0) da_nil)) (da_cons de_int da_nil))) da_nil))) da_nil)) (dg_name 1 sc_law.nd rfl (by first | exact Or.inl rfl | exact Or.inr rfl))
    (dss_cons (ds_set 2 sc_law.nd rfl (by first | exact Or.inl rfl | exact Or.inr rfl) (de_fnG (ok_law_pool T) hr gd0 rfl (takes_of rfl rfl rfl rfl) (da_cons (dv 0) (da_cons (dv 1) da_nil)) (by decide)))
    (dss_cons (ds_set 3 sc_law.nd rfl (by first | exact Or.inl rfl | exact Or.inr rfl) (de_ix (de_lst (da_cons de_non (da_cons de_int (da_cons de_bl (da_cons de_str (da_cons (de_tup (da_cons de_str da_nil)) (da_cons (de_lst (da_cons de_str da_nil)) (da_cons de_dict0 (da_cons (de_neg de_int) da_nil))))))))) (de_fnG (ok_law_take T) hr gd0 rfl (takes_of rfl rfl rfl rfl) (da_cons (dv 2) (da_cons de_int da_nil)) (by decide))))
    (dss_cons (ds_for (passes_of rfl) rfl (XN.di_enum rfl (T.free 41) (da_cons (de_fnG (ok_law_made T) hr gd0 rfl (takes_of rfl rfl rfl rfl) (da_cons (dv 3) da_nil) (by decide)) da_nil)) (dg_tl rfl (dgs_cons (dg_name 4 sc_law.nd rfl (by first | exact Or.inl rfl | exact Or.inr rfl)) (dgs_cons (dg_name 5 sc_law.nd rfl (by first | exact Or.inl rfl | exact Or.inr rfl)) dgs_nil)))
    (dss_cons (ds_set 6 sc_law.nd rfl (by first | exact Or.inl rfl | exact Or.inr rfl) (de_if (dt_rel op_oLt (dv 4) de_int) (de_lst (da_cons de_bl (da_cons de_bl (da_cons de_bl (da_cons de_bl da_nil))))) (de_lst (da_cons de_bl (da_cons de_bl (da_cons (de_rel op_oLt (dv 4) de_int) (da_cons (de_rel (op_oEq hr.units) (dv 4) de_int) da_nil)))))))
    (dss_cons (ds_if (DW.dt (dw_or (dt_rel (op_oNe hr.units) (de_fnG (ok_law_kinds T) hr gd0 rfl (takes_of rfl rfl rfl rfl) (da_cons (dv 5) da_nil) (by decide)) (dv 6)) (dw_or1 (dt_rel (op_oNe hr.units) (de_bf (c_oRepr gd0 hr.units) rfl (T.free 40) (by decide +kernel) (da_cons (XN.de_ef (dv 5) (XN.efB_ok (T.xb 30 (f := XN.efB "value" EF_value)))) da_nil)) (de_bf (c_oRepr gd0 hr.units) rfl (T.free 40) (by decide +kernel) (da_cons (dv 3) da_nil))))))
    (dss_one (ds_ret de_bl))
    dss_nil)
    (dss_one (ds_if (dt_rel (op_oNe hr.units) (de_fnG (ok_law_classes T) hr gd0 rfl (takes_of rfl rfl rfl rfl) (da_cons (dv 5) da_nil) (by decide)) (de_lc rfl sc_law.nd (di_range1 rfl (T.free 38) (da_cons de_int da_nil)) (blkOk_by (own := [("_law_number", 7)]) (by kernel_rfl)) (fun _ _ _ _ _ => (dg_name 7 sc_law.nd rfl (by first | exact Or.inl rfl | exact Or.inr rfl))) (fun _ _ _ _ _ => dts_nil) (fun _ _ _ _ _ => (de_rel (op_oEq hr.units) (dv 4) (dv 7))) (by decide)))
    (dss_one (ds_ret de_bl))
    dss_nil)))))
    (dss_cons (ds_set 8 sc_law.nd rfl (by first | exact Or.inl rfl | exact Or.inr rfl) (XN.de_kk (mkk_Refused T) hr gd0 rfl (T.glo 9) (XN.xE_ok (T.xb 26 (f := XN.xE "Refused" ["word", "value"]))).o.keep (takes_of rfl rfl rfl rfl) (dk_cons de_str (dk_cons (dv 3) dk_nil)) (by decide)))
    (dss_cons (ds_if (DW.dt (dw_or (dt_rel (op_oNe hr.units) (XN.de_ef (dv 8) (XN.efB_ok (T.xb 29 (f := XN.efB "word" EF_word)))) de_str) (dw_or (dt_rel (op_oNe hr.units) (de_bf (c_oRepr gd0 hr.units) rfl (T.free 40) (by decide +kernel) (da_cons (XN.de_ef (dv 8) (XN.efB_ok (T.xb 30 (f := XN.efB "value" EF_value)))) da_nil)) (de_bf (c_oRepr gd0 hr.units) rfl (T.free 40) (by decide +kernel) (da_cons (dv 3) da_nil))) (dw_or1 (dt_rel (op_oNe hr.units) (XN.de_ef (de_cc (mkp_Refused T) hr gd0 rfl (T.glo 9) (XN.xE_ok (T.xb 26 (f := XN.xE "Refused" ["word", "value"]))).o.keep (takes_of rfl rfl rfl rfl) (da_cons de_str (da_cons (dv 3) da_nil)) (by decide)) (XN.efB_ok (T.xb 29 (f := XN.efB "word" EF_word)))) de_str)))))
    (dss_one (ds_ret de_bl))
    dss_nil)
    (dss_one (ds_if (DW.dt (dw_or (dt_rel (op_oNe hr.units) (de_fnG (ok_law_kinds T) hr gd0 rfl (takes_of rfl rfl rfl rfl) (da_cons (de_cc0 (XN.mkN (T.xb 28 (f := XN.xN "NoWorld"))) hr gd0 rfl (T.glo 39) (XN.xN_ok (T.xb 28 (f := XN.xN "NoWorld"))).2 (takes_of rfl rfl rfl rfl) (by decide)) da_nil) (by decide)) (de_lst (da_cons de_bl (da_cons de_bl (da_cons de_bl (da_cons de_bl da_nil)))))) (dw_or1 (dt_rel (op_oNe hr.units) (de_fnG (ok_law_classes T) hr gd0 rfl (takes_of rfl rfl rfl rfl) (da_cons (de_cc0 (XN.mkN (T.xb 28 (f := XN.xN "NoWorld"))) hr gd0 rfl (T.glo 39) (XN.xN_ok (T.xb 28 (f := XN.xN "NoWorld"))).2 (takes_of rfl rfl rfl rfl) (by decide)) da_nil) (by decide)) (de_bin op_oMul (de_lst (da_cons de_bl da_nil)) de_int)))))
    (dss_one (ds_ret de_bl))
    dss_nil))))))))
    (dss_one (ds_ret de_bl)))
end
def loose0 : List PySem.Str := ["__name__", "TombError", "BadEntry", "BadEntries", "BadText", "BadEvent", "BadWorld", "BadKey", "BadStamp", "BadHomes", "BadRow", "BadStory", "BadLimit", "BadPolicy", "BadKeys", "BadDepth", "BadSkips", "BadPlan", "BadQuestion", "BadLine", "NotARun", "NoMoment", "TooLong", "NoEntry", "NoHome", "NoLink", "Refused", "NoWorld", "_law_pool", "_law_take"]
def loose1 : List PySem.Str := ["_law_made", "_law_kinds", "_law_classes"]
def loose : List PySem.Str := loose0 ++ loose1
abbrev R : PySem.W.OpenRow := PySem.W.OpenLaw.row PySem.Challenge.rw_tombkeeper_k03_exceptions_apart
abbrev hk : PySem.W.Hook := hookX 5 fa fn xs
def ob (s : PySem.W.SharedT) : He.AlD × Bool := obsXG 5 fa fn xs (HandSHeadRun.getT s)
theorem ob_eq (s : PySem.W.SharedT) : ob s = hk.obs s.abs := obsXG_eq (HandSHeadRun.getT_eq s)
theorem run (w : World) : HandSHeadRun.RunEq R (PySem.W.view R.prog [34]) hk ob 20000 loose w := by
  intro os
  kernel_rfl
theorem law_sp (hF : ∀ ns : List Int, ns.length ≤ 63 → ∃ S', F_law [.scr (ns.map .int)] [] = .ok (.bl true) S') (K : PySem.W.Frag) (H : Hp) (a : Addr) (ns : List Int) (hl : ns.length ≤ 63) (hS : SqL K H a (ns.map V.int)) :
    spD K 1 F_law [.ref a] H (fun v _ => v = .bl true) fun _ _ _ => False := by
  obtain ⟨S', e⟩ := hF ns hl
  refine ⟨⟨[], []⟩, [], [.scr (ns.map .int)], ⟨.nil, rfl, fun k a d h => by simp at h, fun a h => by cases h⟩, ⟨.ref a, [], rfl, ⟨a, ns.map V.int, rfl, ?_, ?_⟩, rfl⟩, rfl, ?_⟩
  · rcases hS with h | h
    · exact .inl ⟨⟨by simp, by simp⟩, h⟩
    · exact .inr (.inr h)
  · clear hS e hl
    induction ns with
    | nil => rfl
    | cons n r ih => exact ⟨.int n, r.map V.int, rfl, rfl, ih⟩
  · rw [e]
    exact fun O' H' v _ _ r => r
theorem facts {P : Program} {w : World} {K : PySem.W.Frag} {h : Heap} {mg : Str → Option Value} {f : Addr} (X : K.In h) (G : h.Ns mainGlobals mg) (hfa : mg ("law" : Str) = some (.ref f)) (c : He.SaysD fa fn K) (cx : (xs.all fun f => f K) = true) :
    ∃ fd : FuncData, (∀ (s : Shared) (v : Value), BindsTo s fd ⟨[v], []⟩ [("_law_script", v)]) ∧ ∀ base : Heap, K.In base → base.Ns mainGlobals mg → FnGd P w K mg base 4 f fd ["_law_script"] (spD K 1 F_law) := by
  have T : T0 K mg := ⟨c, cx, h, X, G⟩
  obtain ⟨fd, F⟩ := c.def_ 5 (d := d_law) rfl
  have e := hfa.symm.trans (T.glo 42)
  cases e
  have b := FunD.bindsA (ps := ["_law_script"]) F fun _ _ _ _ _ _ us hl => match us, hl with | [_], _ => rfl
  exact ⟨fd, fun s v => b s [v] rfl, fun base _ _ => ok_law_at T F⟩
end G
section
open PySem PySem.W PySem.Calls PyProof.Rows
theorem G.cw (hF : ∀ ns : List Int, ns.length ≤ 63 → ∃ S', G.F_law [.scr (ns.map .int)] [] = .ok (.bl true) S') : PySem.Challenge.rw_tombkeeper_k03_exceptions_apart.Holds := by
  w_on; o_law
  refine HandSHeadRun.head_any (r := OpenLaw.row PySem.Challenge.rw_tombkeeper_k03_exceptions_apart) (q := view (OpenLaw.row PySem.Challenge.rw_tombkeeper_k03_exceptions_apart).prog [34]) (H := G.hk) (ob := G.ob) (M := 20000) (loose := G.loose) (d := HandSHeadRun.topDef (OpenLaw.row PySem.Challenge.rw_tombkeeper_k03_exceptions_apart).prog 34) (kwd := []) G.ob_eq
    (by kernel_rfl) (fun s => by kernel_rfl) G.run (by kernel_rfl) (by kernel_rfl) (by kernel_rfl) (by rfl) (by first | assumption | decide +kernel) (by decide +kernel) ⟨rfl, rfl, rfl, rfl, rfl, by decide +kernel⟩ ?hw ?hc
  case hw => w_witness2
  case hc =>
    refine DE.walk_G (l := PySem.Challenge.rw_tombkeeper_k03_exceptions_apart) (n := 63) (k := 4) (x := "_law_script") rfl (by decide) (by kernel_rfl) ⟨rfl, by decide, by decide⟩ ?F
    case F =>
      intro w mg fa h Y Gn hmg0
      obtain ⟨K, KX, c, cx⟩ := Y
      have hmg : mg ("law" : PySem.Str) = some (.ref fa) := by
        have e : (HandSHeadRun.topDef (OpenLaw.row PySem.Challenge.rw_tombkeeper_k03_exceptions_apart).prog 34).name = ("law" : PySem.Str) := by kernel_rfl
        rw [← e]
        exact hmg0
      obtain ⟨fd, hb, hF'⟩ := G.facts (P := (PySem.Challenge.rw_tombkeeper_k03_exceptions_apart).prog) (w := w) KX Gn hmg c cx
      exact ⟨K, fd, DE.spD K 1 G.F_law, KX, hb, fun H a ns hl hS => G.law_sp hF K H a ns hl hS, hF'⟩
end

set_option maxHeartbeats 4000000
namespace DE
open PySem L2
/-! equations for simp -/
def onBl {α : Type} (d : D) (k : Bool → RE α) : RE α := match d with
  | .bl b => k b
  | _ => .bad
@[simp] theorem onBl_bl {α : Type} (b : Bool) (k : Bool → RE α) : onBl (.bl b) k = k b := id rfl
def onInt {α : Type} (d : D) (k : Int → RE α) : RE α := match d with
  | .int b => k b
  | _ => .bad
@[simp] theorem onInt_int {α : Type} (b : Int) (k : Int → RE α) : onInt (.int b) k = k b := id rfl
def onStr {α : Type} (d : D) (k : Str → RE α) : RE α := match d with
  | .str b => k b
  | _ => .bad
@[simp] theorem onStr_str {α : Type} (b : Str) (k : Str → RE α) : onStr (.str b) k = k b := id rfl
def RS.seq (r : RS) (g : MS) : RS := match r with
  | .nx ρ1 S1 => g ρ1 S1
  | r => r
@[simp] theorem seq_nx (ρ : DE.Env) (S : Sto) (g : MS) : RS.seq (.nx ρ S) g = g ρ S := id rfl
@[simp] theorem seq_rt (d : D) (S : Sto) (g : MS) : RS.seq (.rt d S) g = .rt d S := id rfl
@[simp] theorem seq_bk (ρ : DE.Env) (S : Sto) (g : MS) : RS.seq (.bk ρ S) g = .bk ρ S := id rfl
@[simp] theorem seq_ct (ρ : DE.Env) (S : Sto) (g : MS) : RS.seq (.ct ρ S) g = .ct ρ S := id rfl
@[simp] theorem seq_exc (x : Exc) (ρ : DE.Env) (S : Sto) (g : MS) : RS.seq (.exc x ρ S) g = .exc x ρ S := id rfl
@[simp] theorem seq_bad (g : MS) : RS.seq .bad g = .bad := id rfl
def RS.fin (r : RS) : RE D := match r with
  | .nx _ S' => .ok .non S'
  | .rt d S' => .ok d S'
  | .exc x _ S' => .exc x S'
  | _ => .bad
@[simp] theorem fin_nx (ρ : DE.Env) (S : Sto) : RS.fin (.nx ρ S) = .ok .non S := id rfl
@[simp] theorem fin_rt (d : D) (S : Sto) : RS.fin (.rt d S) = .ok d S := id rfl
@[simp] theorem fin_exc (x : Exc) (ρ : DE.Env) (S : Sto) : RS.fin (.exc x ρ S) = .exc x S := id rfl
@[simp] theorem fin_bad : RS.fin .bad = .bad := id rfl
section
variable {α β : Type} {c : Prop} [Decidable c]
@[simp] theorem bind_ite (a b : RE α) (f : α → Sto → RE β) : (if c then a else b).bind f = if c then a.bind f else b.bind f := by split <;> rfl
@[simp] theorem stm_ite (a b : RE α) (ρ : DE.Env) (f : α → Sto → RS) : (if c then a else b).stm ρ f = if c then a.stm ρ f else b.stm ρ f := by split <;> rfl
@[simp] theorem seq_ite (a b : RS) (g : MS) : RS.seq (if c then a else b) g = if c then RS.seq a g else RS.seq b g := by split <;> rfl
@[simp] theorem fin_ite (a b : RS) : RS.fin (if c then a else b) = if c then RS.fin a else RS.fin b := by split <;> rfl
end
section
variable {ρ : DE.Env} {S : Sto}
@[simp] theorem e_dVar (i : Nat) : dVar i ρ S = (match ρ[i]? with | some (some d) => .ok d S | _ => .bad) := id rfl
@[simp] theorem e_dC (d : D) : dC d ρ S = .ok d S := id rfl
@[simp] theorem e_dBin (o : D → D → Sto → RE D) (f g : ME) : dBin o f g ρ S = (f ρ S).bind fun d S1 => (g ρ S1).bind fun e S2 => o d e S2 := id rfl
@[simp] theorem e_dTest (f : ME) : dTest f ρ S = (f ρ S).bind fun d S1 => onBl d fun b => .ok b S1 := id rfl
@[simp] theorem e_dAndT (f g : MT) : dAndT f g ρ S = (f ρ S).bind fun d S1 => if d = true then g ρ S1 else .ok false S1 := id rfl
@[simp] theorem e_dOrT (f g : MT) : dOrT f g ρ S = (f ρ S).bind fun d S1 => if d = true then .ok true S1 else g ρ S1 := id rfl
@[simp] theorem e_dNotT (f : MT) : dNotT f ρ S = (f ρ S).bind fun d S1 => .ok (!d) S1 := id rfl
theorem bind_congr' {α β : Type} {r : RE α} {f g : α → Sto → RE β} (h : ∀ a S, f a S = g a S) : r.bind f = r.bind g := by cases r <;> simp [h]
@[simp] theorem e_dAnd (f g : ME) : dAnd f g ρ S = (f ρ S).bind fun d S1 => onBl d fun b => if b = true then g ρ S1 else .ok (.bl false) S1 := bind_congr' fun d S1 => by
  cases d <;> try rfl
  rename_i b; cases b <;> rfl
@[simp] theorem e_dOr (f g : ME) : dOr f g ρ S = (f ρ S).bind fun d S1 => onBl d fun b => if b = true then .ok (.bl true) S1 else g ρ S1 := bind_congr' fun d S1 => by
  cases d <;> try rfl
  rename_i b; cases b <;> rfl
@[simp] theorem e_dNot (f : ME) : dNot f ρ S = (f ρ S).bind fun d S1 => onBl d fun b => .ok (.bl (!b)) S1 := id rfl
@[simp] theorem e_dIfE (t : MT) (f g : ME) : dIfE t f g ρ S = (t ρ S).bind fun d S1 => if d = true then f ρ S1 else g ρ S1 := id rfl
@[simp] theorem e_dChain (o p : D → D → Sto → RE D) (f g h : ME) : dChain o p f g h ρ S = (f ρ S).bind fun x S1 => (g ρ S1).bind fun y S2 => (o x y S2).bind fun d S3 => onBl d fun b => if b = true then (h ρ S3).bind fun z S4 => p y z S4 else .ok (.bl false) S3 :=
  bind_congr' fun x S1 => bind_congr' fun y S2 => bind_congr' fun d S3 => by
    cases d <;> try rfl
    rename_i b; cases b <;> rfl
@[simp] theorem e_aNil : aNil ρ S = .ok [] S := id rfl
@[simp] theorem e_aCons (f : ME) (g : MA) : aCons f g ρ S = (f ρ S).bind fun d S1 => (g ρ S1).bind fun ds S2 => .ok (d :: ds) S2 := id rfl
@[simp] theorem e_dTup (f : MA) : dTup f ρ S = (f ρ S).bind fun ds S1 => if ds.length ≤ cap then .ok (.tup ds) S1 else .bad := id rfl
@[simp] theorem e_dLst (f : MA) : dLst f ρ S = (f ρ S).bind fun ds S1 => if ds.length ≤ cap then .ok (.lst ds) S1 else .bad := id rfl
@[simp] theorem e_dLstO (f : MA) : dLstO f ρ S = (f ρ S).bind fun ds S1 => if ds.length ≤ cap then .ok (.own S1.length) (S1 ++ [.lst ds]) else .bad := id rfl
@[simp] theorem e_sNil : sNil ρ S = .nx ρ S := id rfl
@[simp] theorem e_sSeq (f g : MS) : sSeq f g ρ S = RS.seq (f ρ S) g := id rfl
@[simp] theorem e_sExpr (f : ME) : sExpr f ρ S = (f ρ S).stm ρ fun _ S1 => .nx ρ S1 := id rfl
@[simp] theorem e_sRet (f : ME) : sRet f ρ S = (f ρ S).stm ρ fun d S1 => .rt d S1 := id rfl
@[simp] theorem e_sRetN : sRetN ρ S = .rt .non S := id rfl
@[simp] theorem e_sBreak : sBreak ρ S = .bk ρ S := id rfl
@[simp] theorem e_sCont : sCont ρ S = .ct ρ S := id rfl
@[simp] theorem e_sIf (t : MT) (f g : MS) : sIf t f g ρ S = (t ρ S).stm ρ fun b S1 => if b = true then f ρ S1 else g ρ S1 := id rfl
@[simp] theorem e_sAsg (f : ME) (g : MG) : sAsg f g ρ S = (f ρ S).stm ρ fun d S1 => match g d ρ with | some ρ1 => .nx ρ1 S1 | none => .bad := id rfl
@[simp] theorem e_gN (i : Nat) (d : D) : gN i d ρ = some (ρ.set i (some d)) := id rfl
@[simp] theorem e_sFor (i : MA) (g : MG) (b : MS) : sFor i g b ρ S = (i ρ S).stm ρ fun ds S1 => loopS g b ds ρ S1 := id rfl
@[simp] theorem e_dLC (own : List Nat) (i : MA) (g : MG) (t : MT) (e : ME) : dLC own i g t e ρ S = (i ρ S).bind fun ds S1 => if ds.length ≤ cap then (loopC own g t e ρ ds S1).bind fun vs S2 => .ok (.lst vs) S2 else .bad := id rfl
@[simp] theorem e_iOf (f : ME) : iOf f ρ S = (f ρ S).bind fun d S1 => match itemsOf d with | some ds => .ok ds S1 | none => .bad := id rfl
@[simp] theorem e_iR1 (f : MA) : iR1 f ρ S = (f ρ S).bind fun ds S1 => match ds with | [.int n] => if -(2 ^ 62) ≤ n ∧ n < 2 ^ 62 then .ok (rangeD 0 n.toNat) S1 else .bad | _ => .bad := id rfl
@[simp] theorem e_dCall (n : Nat) (F : FD) (dd : List D) (fa : MA) : dCall n F dd fa ρ S = (fa ρ S).bind fun ds S1 => if (ds ++ dd).length = n then F (ds ++ dd) S1 else .bad := id rfl
@[simp] theorem e_dBlt (op : FD) (fa : MA) : dBlt op fa ρ S = (fa ρ S).bind fun ds S1 => op ds S1 := id rfl
@[simp] theorem e_dNeg (f : ME) : dNeg f ρ S = (f ρ S).bind fun d S1 => onInt d fun i => .ok (.int (-i)) S1 := id rfl
@[simp] theorem e_dM1 (op : Str → D → Sto → RE D) (f g : ME) : dM1 op f g ρ S = (f ρ S).bind fun d S1 => onStr d fun x => (g ρ S1).bind fun e S2 => op x e S2 := id rfl
@[simp] theorem e_dSl (f : ME) (lo hi : MO) : dSl f lo hi ρ S = (f ρ S).bind fun d S1 => (lo ρ S1).bind fun l S2 => (hi ρ S2).bind fun u S3 => slD d l u S3 := id rfl
@[simp] theorem e_oNoPart : oNoPart ρ S = .ok none S := id rfl
@[simp] theorem e_oPart (f : ME) : oPart f ρ S = (f ρ S).bind fun d S1 => onInt d fun i => .ok (some i) S1 := id rfl
@[simp] theorem e_dDictE : dDictE ρ S = .ok (.dK []) S := id rfl
@[simp] theorem e_mYes : mYes ρ S = .ok true S := id rfl
theorem e_fnD (n : Nat) (B : MS) (ds : List D) : fnD n B ds S = (B (ds.map some ++ List.replicate (n - ds.length) none) S).fin := rfl
end
/-! comprehensions whose parts change nothing -/
theorem loopC_fm {own : List Nat} {g : MG} {t : MT} {e : ME} {ρ : DE.Env} {S : Sto} {r : D → DE.Env} {p : D → Bool} {v : D → D} : ∀ {ds : List D}, (∀ d ∈ ds, g d (wipeD ρ own) = some (r d) ∧ t (r d) S = .ok (p d) S ∧ (p d = true → e (r d) S = .ok (v d) S)) →
    loopC own g t e ρ ds S = .ok ((ds.filter p).map v) S
  | [], _ => rfl
  | d :: ds, h => by
    obtain ⟨h1, h2, h3⟩ := h d List.mem_cons_self
    have ih := loopC_fm (ds := ds) fun x hx => h x (List.mem_cons_of_mem _ hx)
    unfold loopC
    rw [h1]
    simp only [h2]
    cases q : p d with
    | true => simp only [h3 q, ih, RE.bind_ok, List.filter_cons, q, if_true, List.map_cons]
    | false => simp only [ih, List.filter_cons, q]; rfl
theorem loopC_map {own : List Nat} {g : MG} {t : MT} {e : ME} {ρ : DE.Env} {S : Sto} {r : D → DE.Env} {v : D → D} {ds : List D} (h : ∀ d ∈ ds, g d (wipeD ρ own) = some (r d) ∧ t (r d) S = .ok true S ∧ e (r d) S = .ok (v d) S) :
    loopC own g t e ρ ds S = .ok (ds.map v) S := by
  have := loopC_fm (p := fun _ => true) (v := v) fun d hd => let ⟨a, b, c⟩ := h d hd; ⟨a, b, fun _ => c⟩
  rw [this, List.filter_eq_self.mpr (fun _ _ => rfl)]
/-! operators at data whose kind is known -/
@[simp] theorem oEq_int (i j : Int) (S : Sto) : oEq (.int i) (.int j) S = .ok (.bl (i == j)) S := id rfl
@[simp] theorem oNe_int (i j : Int) (S : Sto) : oNe (.int i) (.int j) S = .ok (.bl (!(i == j))) S := id rfl
@[simp] theorem oLt_int (i j : Int) (S : Sto) : oLt (.int i) (.int j) S = .ok (.bl (decide (i < j))) S := id rfl
@[simp] theorem oLe_int (i j : Int) (S : Sto) : oLe (.int i) (.int j) S = .ok (.bl (decide (i ≤ j))) S := id rfl
@[simp] theorem oGt_int (i j : Int) (S : Sto) : oGt (.int i) (.int j) S = .ok (.bl (decide (j < i))) S := id rfl
@[simp] theorem oGe_int (i j : Int) (S : Sto) : oGe (.int i) (.int j) S = .ok (.bl (decide (j ≤ i))) S := id rfl
@[simp] theorem oAdd_int (i j : Int) (S : Sto) : oAdd (.int i) (.int j) S = .ok (.int (i + j)) S := id rfl
@[simp] theorem oSub_int (i j : Int) (S : Sto) : oSub (.int i) (.int j) S = .ok (.int (i - j)) S := id rfl
theorem oMul_int {i j : Int} {S : Sto} (h : (-lim64 < i ∧ i < lim64) ∨ (-lim64 < j ∧ j < lim64)) : oMul (.int i) (.int j) S = .ok (.int (i * j)) S := if_pos h
theorem oMod_int {i j : Int} {S : Sto} (h : 0 < j) : oMod (.int i) (.int j) S = .ok (.int (i % j)) S := if_pos (decide_eq_true h)
theorem oFDiv_int {i j : Int} {S : Sto} (h : 0 < j) (h2 : j < 1073741824) : oFDiv (.int i) (.int j) S = .ok (.int (i / j)) S := if_pos (decide_eq_true ⟨h, h2⟩)
@[simp] theorem oIs_non (d : D) (S : Sto) : oIs d .non S = .ok (.bl (isNon d)) S := by cases d <;> rfl
@[simp] theorem oIsNot_non (d : D) (S : Sto) : oIsNot d .non S = .ok (.bl (!isNon d)) S := by cases d <;> rfl
@[simp] theorem oIs_bl (a b : Bool) (S : Sto) : oIs (.bl a) (.bl b) S = .ok (.bl (decide (a = b))) S := id rfl
@[simp] theorem oIsNot_bl (a b : Bool) (S : Sto) : oIsNot (.bl a) (.bl b) S = .ok (.bl (!decide (a = b))) S := id rfl
theorem oEq_str {x y : Str} {S : Sto} (hx : PyData.strOk x = true) (hy : PyData.strOk y = true) : oEq (.str x) (.str y) S = .ok (.bl (x == y)) S := by
  have h1 : SeqAt.shaped (.str x) = true := by simp [SeqAt.shaped, PyData.canLay0, PyData.depth, hx]
  have h2 : SeqAt.shaped (.str y) = true := by simp [SeqAt.shaped, PyData.canLay0, PyData.depth, hy]
  unfold oEq eqD
  simp only [toPy, h1, h2, and_self, if_true, PyData.eqv]
theorem oNe_str {x y : Str} {S : Sto} (hx : PyData.strOk x = true) (hy : PyData.strOk y = true) : oNe (.str x) (.str y) S = .ok (.bl (!(x == y))) S := by
  have h1 : SeqAt.shaped (.str x) = true := by simp [SeqAt.shaped, PyData.canLay0, PyData.depth, hx]
  have h2 : SeqAt.shaped (.str y) = true := by simp [SeqAt.shaped, PyData.canLay0, PyData.depth, hy]
  unfold oNe eqD
  simp only [toPy, h1, h2, and_self, if_true, PyData.eqv]
theorem reprB_ok (b : Bool) : PyData.strOk (reprB b) = true := by cases b <;> decide +kernel
theorem oEq_repr (a b : Bool) (S : Sto) : oEq (.str (reprB a)) (.str (reprB b)) S = .ok (.bl (a == b)) S := by
  rw [oEq_str (reprB_ok a) (reprB_ok b)]
  have h1 : (reprB true == reprB false) = false := by decide +kernel
  have h2 : (reprB false == reprB true) = false := by decide +kernel
  cases a <;> cases b <;> simp [h1, h2]
theorem oNe_repr (a b : Bool) (S : Sto) : oNe (.str (reprB a)) (.str (reprB b)) S = .ok (.bl (!(a == b))) S := by
  rw [oNe_str (reprB_ok a) (reprB_ok b)]
  have h1 : (reprB true == reprB false) = false := by decide +kernel
  have h2 : (reprB false == reprB true) = false := by decide +kernel
  cases a <;> cases b <;> simp [h1, h2]
/-! loops -/
theorem loopS_inv {g : MG} {body : MS} (Inv : DE.Env → Sto → Prop) : ∀ {ds : List D} {ρ : DE.Env} {S : Sto}, (∀ d ∈ ds, ∀ ρ S, Inv ρ S → ∃ ρ1, g d ρ = some ρ1 ∧ ∃ ρ2 S2, body ρ1 S = .nx ρ2 S2 ∧ Inv ρ2 S2) → Inv ρ S → ∃ ρ' S', loopS g body ds ρ S = .nx ρ' S' ∧ Inv ρ' S'
  | [], ρ, S, _, h0 => ⟨ρ, S, rfl, h0⟩
  | d :: ds, ρ, S, h, h0 => by
    obtain ⟨ρ1, e1, ρ2, S2, e2, h2⟩ := h d List.mem_cons_self ρ S h0
    obtain ⟨ρ', S', e3, h3⟩ := loopS_inv Inv (ds := ds) (fun x hx => h x (List.mem_cons_of_mem _ hx)) h2
    refine ⟨ρ', S', ?_, h3⟩
    unfold loopS
    rw [e1]
    simp only [e2]
    exact e3
/-- a comprehension whose parts change the store, each item as told -/
theorem loopC_inv {own : List Nat} {g : MG} {t : MT} {e : ME} {ρ : DE.Env} (Inv : Sto → Prop) (P : D → Prop) : ∀ {ds : List D} {S : Sto}, (∀ d ∈ ds, ∀ S, Inv S → ∃ ρ1, g d (wipeD ρ own) = some ρ1 ∧ t ρ1 S = .ok true S ∧ ∃ v S2, e ρ1 S = .ok v S2 ∧ P v ∧ Inv S2) → Inv S →
    ∃ vs S', loopC own g t e ρ ds S = .ok vs S' ∧ (∀ v ∈ vs, P v) ∧ vs.length = ds.length ∧ Inv S'
  | [], S, _, h0 => ⟨[], S, rfl, (fun _ h => by cases h), rfl, h0⟩
  | d :: ds, S, h, h0 => by
    obtain ⟨ρ1, e1, e2, v, S2, e3, hv, h2⟩ := h d List.mem_cons_self S h0
    obtain ⟨vs, S', e4, hvs, hl, h4⟩ := loopC_inv Inv P (ds := ds) (fun x hx => h x (List.mem_cons_of_mem _ hx)) h2
    refine ⟨v :: vs, S', ?_, fun x hx => ?_, by simp [hl], h4⟩
    · unfold loopC
      rw [e1]
      simp only [e2, e3, e4, RE.bind_ok]
    · rcases List.mem_cons.mp hx with rfl | hx
      · exact hv
      · exact hvs x hx
theorem mem_rangeD {lo : Int} {n : Nat} {d : D} (h : d ∈ rangeD lo n) : ∃ i : Nat, i < n ∧ d = .int (lo + i) := by
  unfold rangeD at h
  obtain ⟨i, hi, rfl⟩ := List.mem_map.mp h
  exact ⟨i, List.mem_range.mp hi, rfl⟩
/-! the pool of draws -/
def PoolAt (k : Nat) (S : Sto) : Prop := ∃ x y, S[k]? = some (.lst [.int x, .int y])
theorem oPow_int {i j z : Int} {S : Sto} (h : decide (0 ≤ j ∧ j ≤ 1000000 ∧ i.natAbs < lim64.toNat) = true) (e : i ^ j.toNat = z) : oPow (.int i) (.int j) S = .ok (.int z) S := by
  subst e
  exact if_pos h
@[simp] theorem pow18 (S : Sto) : oPow (.int 10) (.int 18) S = .ok (.int 1000000000000000000) S := oPow_int (by decide +kernel) (by decide +kernel)
@[simp] theorem pow15 (S : Sto) : oPow (.int 10) (.int 15) S = .ok (.int 1000000000000000) S := oPow_int (by decide +kernel) (by decide +kernel)
end DE

set_option maxHeartbeats 4000000
namespace DE
open PySem L2
def onM (r : Option (Option Bd)) (a : RS) (b : Bd → RS) : RS := match r with
  | none => .bad
  | some none => a
  | some (some bs) => b bs
@[simp] theorem onM_no (a : RS) (b : Bd → RS) : onM (some none) a b = a := id rfl
@[simp] theorem onM_yes (a : RS) (b : Bd → RS) (bs : Bd) : onM (some (some bs)) a b = b bs := id rfl
@[simp] theorem onM_ite (c : Prop) [Decidable c] (x y : Option Bd) (a : RS) (b : Bd → RS) : onM (some (if c then x else y)) a b = if c then onM (some x) a b else onM (some y) a b := by split <;> rfl
section
variable {ρ : DE.Env} {S : Sto}
@[simp] theorem e_sMatch (f : ME) (cs : List (MP × MS)) : sMatch f cs ρ S = (f ρ S).stm ρ fun d S1 => mCs cs d ρ S1 := id rfl
@[simp] theorem e_mNil (d : D) : mCs [] d ρ S = .nx ρ S := id rfl
@[simp] theorem e_mCons (p : MP) (b : MS) (r : List (MP × MS)) (d : D) : mCs ((p, b) :: r) d ρ S = onM (p d) (mCs r d ρ S) (fun bs => b (bindB bs ρ) S) := by
  show (match p d with | none => RS.bad | some none => _ | some (some bs) => _) = _
  cases p d with
  | none => rfl
  | some x => cases x <;> rfl
@[simp] theorem e_sAug (i : Nat) (g : ME) : sAug i g ρ S = (match ρ[i]? with
  | some (some (.int a)) => (g ρ S).stm ρ fun e S1 => match e with
    | .int b => .nx (ρ.set i (some (.int (a + b)))) S1
    | _ => .bad
  | _ => .bad) := id rfl
@[simp] theorem e_sPar (i j : Nat) (fa : MA) : sPar i j fa ρ S = (fa ρ S).stm ρ fun ds S1 => match ds with
  | [d, e] => .nx ((ρ.set i (some d)).set j (some e)) S1
  | _ => .bad := id rfl
@[simp] theorem e_dSS (f : ME) : dSS f ρ S = (f ρ S).bind fun d S1 => match d with
  | .tup ds => (match strsOf ds with
    | some xs => if xs.length < 4000 then .ok (.lst ((sortD xs).map .str)) S1 else .bad
    | none => .bad)
  | _ => .bad := id rfl
@[simp] theorem oInt_int (i : Int) : oInt [.int i] S = .ok (.int i) S := id rfl
@[simp] theorem oInt_bl (b : Bool) : oInt [.bl b] S = .ok (.int (if b then 1 else 0)) S := id rfl
end
@[simp] theorem e_pNm (i : Nat) (d : D) : pNm i d = some (some [(i, d)]) := id rfl
@[simp] theorem e_pAny (d : D) : pAny d = some (some []) := id rfl
@[simp] theorem e_pSeq (n : Nat) (g : List D → Option (Option Bd)) (ds : List D) : pSeq n g (.tup ds) = if ds.length = n then g ds else some none := id rfl
@[simp] theorem e_psNil (ds : List D) : psNil ds = some (some []) := id rfl
def andM (x : Option (Option Bd)) (y : Option (Option Bd)) : Option (Option Bd) := x.bind fun x => match x with
  | none => some none
  | some bs => y.map fun y => match y with
    | none => none
    | some cs => some (bs ++ cs)
@[simp] theorem e_psCons (f : MP) (g : List D → Option (Option Bd)) (d : D) (r : List D) : psCons f g (d :: r) = andM (f d) (g r) := id rfl
@[simp] theorem andM_no (y : Option (Option Bd)) : andM (some none) y = some none := id rfl
@[simp] theorem andM_yes (bs cs : Bd) : andM (some (some bs)) (some (some cs)) = some (some (bs ++ cs)) := id rfl
@[simp] theorem andM_yn (bs : Bd) : andM (some (some bs)) (some none) = some none := id rfl
@[simp] theorem andM_ite (c : Prop) [Decidable c] (bs : Bd) (y : Option (Option Bd)) : andM (some (if c then some bs else none)) y = if c then andM (some (some bs)) y else some none := by split <;> rfl
@[simp] theorem onM_ite2 (c : Prop) [Decidable c] (x y : Option (Option Bd)) (a : RS) (b : Bd → RS) : onM (if c then x else y) a b = if c then onM x a b else onM y a b := by split <;> rfl
theorem pStr_str {x y : Str} (hx : PyData.strOk x = true) (hy : PyData.strOk y = true) : pStr x (.str y) = some (if y == x then some [] else none) := by
  have h1 : SeqAt.shaped (.str x) = true := by simp [SeqAt.shaped, PyData.canLay0, PyData.depth, hx]
  have h2 : SeqAt.shaped (.str y) = true := by simp [SeqAt.shaped, PyData.canLay0, PyData.depth, hy]
  unfold pStr eqD
  simp only [toPy, h1, h2, and_self, if_true, PyData.eqv, Option.map_some]
/-! data that can be compared -/
def okD : Nat → D → Bool
  | _, .non => true
  | _, .bl _ => true
  | _, .int _ => true
  | _, .str s => decide (s.length ≤ 1000) && s.cps.toList.all (fun c => decide (c < 128))
  | n + 1, .tup ds => decide (ds.length ≤ 1000) && ds.all (okD n)
  | n + 1, .lst ds => decide (ds.length ≤ 1000) && ds.all (okD n)
  | _, _ => false
theorem okD_mono : ∀ {n m : Nat} {d : D}, okD n d = true → n ≤ m → okD m d = true
  | n, m, .non, _, _ => by cases m <;> rfl
  | n, m, .bl _, _, _ => by cases m <;> rfl
  | n, m, .int _, _, _ => by cases m <;> rfl
  | n, m, .str s, h, _ => by
    cases n <;> cases m <;> exact h
  | 0, m, .tup ds, h, _ => by simp [okD] at h
  | 0, m, .lst ds, h, _ => by simp [okD] at h
  | n + 1, 0, .tup ds, _, h => by omega
  | n + 1, 0, .lst ds, _, h => by omega
  | n + 1, m + 1, .tup ds, h, hm => by
    simp only [okD, Bool.and_eq_true, List.all_eq_true] at h ⊢
    exact ⟨h.1, fun x hx => okD_mono (h.2 x hx) (by omega)⟩
  | n + 1, m + 1, .lst ds, h, hm => by
    simp only [okD, Bool.and_eq_true, List.all_eq_true] at h ⊢
    exact ⟨h.1, fun x hx => okD_mono (h.2 x hx) (by omega)⟩
  | n, m, .ty _, h, _ => by cases n <;> simp [okD] at h
  | n, m, .glo _, h, _ => by cases n <;> simp [okD] at h
  | n, m, .scr _, h, _ => by cases n <;> simp [okD] at h
  | n, m, .dK _, h, _ => by cases n <;> simp [okD] at h
  | n, m, .dT _, h, _ => by cases n <;> simp [okD] at h
  | n, m, .obj _ _, h, _ => by cases n <;> simp [okD] at h
  | n, m, .own _, h, _ => by cases n <;> simp [okD] at h
  | n, m, .xcp _ _ _, h, _ => by cases n <;> simp [okD] at h
  | n, m, .exo _ _, h, _ => by cases n <;> simp [okD] at h
theorem okS_strOk {s : Str} (h : s.cps.toList.all (fun c => decide (c < 128)) = true) : PyData.strOk s = true := by
  unfold PyData.strOk
  rw [← Array.all_toList]
  rw [List.all_eq_true] at h ⊢
  intro x hx
  have := of_decide_eq_true (h x hx)
  exact decide_eq_true (by omega)
mutual
theorem okD_py : ∀ {n : Nat} {d : D}, okD n d = true → ∃ p, toPy d = some p ∧ p.canLay0 = true ∧ p.depth ≤ n
  | _, .non, _ => ⟨_, rfl, rfl, Nat.zero_le _⟩
  | _, .bl _, _ => ⟨_, rfl, rfl, Nat.zero_le _⟩
  | _, .int _, _ => ⟨_, rfl, rfl, Nat.zero_le _⟩
  | n, .str s, h => ⟨_, rfl, by
      have h' : (decide (s.length ≤ 1000) && s.cps.toList.all (fun c => decide (c < 128))) = true := by cases n <;> exact h
      simp only [PyData.canLay0]
      exact okS_strOk (Bool.and_eq_true_iff.mp h').2, Nat.zero_le _⟩
  | n + 1, .tup ds, h => by
    simp only [okD, Bool.and_eq_true] at h
    obtain ⟨ps, e, c, d⟩ := okDs_py (n := n) (ds := ds) (List.all_eq_true.mp h.2)
    exact ⟨.tuple ps, by simp only [toPy, e, Option.map_some], by simpa only [PyData.canLay0] using c, by simp only [PyData.depth]; omega⟩
  | n + 1, .lst ds, h => by
    simp only [okD, Bool.and_eq_true] at h
    obtain ⟨ps, e, c, d⟩ := okDs_py (n := n) (ds := ds) (List.all_eq_true.mp h.2)
    exact ⟨.list ps, by simp only [toPy, e, Option.map_some], by simpa only [PyData.canLay0] using c, by simp only [PyData.depth]; omega⟩
  | 0, .tup ds, h => by simp [okD] at h
  | 0, .lst ds, h => by simp [okD] at h
  | n, .ty _, h => by cases n <;> simp [okD] at h
  | n, .glo _, h => by cases n <;> simp [okD] at h
  | n, .scr _, h => by cases n <;> simp [okD] at h
  | n, .dK _, h => by cases n <;> simp [okD] at h
  | n, .dT _, h => by cases n <;> simp [okD] at h
  | n, .obj _ _, h => by cases n <;> simp [okD] at h
  | n, .own _, h => by cases n <;> simp [okD] at h
  | n, .xcp _ _ _, h => by cases n <;> simp [okD] at h
  | n, .exo _ _, h => by cases n <;> simp [okD] at h
theorem okDs_py : ∀ {n : Nat} {ds : List D}, (∀ d ∈ ds, okD n d = true) → ∃ ps, toPys ds = some ps ∧ PyData.canLayAll0 ps = true ∧ PyData.depthAll ps ≤ n
  | _, [], _ => ⟨[], rfl, rfl, Nat.zero_le _⟩
  | n, d :: ds, h => by
    obtain ⟨p, e1, c1, d1⟩ := okD_py (h d List.mem_cons_self)
    obtain ⟨ps, e2, c2, d2⟩ := okDs_py fun x hx => h x (List.mem_cons_of_mem _ hx)
    exact ⟨p :: ps, by simp only [toPys, e1, e2], by simp [PyData.canLayAll0, c1, c2], by simp only [PyData.depthAll]; omega⟩
end
def isE : D → Bool
  | .tup [] => true
  | _ => false
theorem okD_shaped {n : Nat} {d : D} (h : okD n d = true) (hn : n ≤ 64) : ∃ p, toPy d = some p ∧ SeqAt.shaped p = true := by
  obtain ⟨p, e, c, k⟩ := okD_py h
  exact ⟨p, e, by simp [SeqAt.shaped, c]; omega⟩
theorem eqv_unit {d : D} {p : PyData} (e : toPy d = some p) : PyData.eqv p (.tuple []) = isE d := by
  cases d <;> simp only [toPy] at e <;> try cases e
  case non => rfl
  case bl => rfl
  case int => rfl
  case str => rfl
  case tup ds =>
    cases ds with
    | nil => simp [toPys] at e; subst e; rfl
    | cons x r =>
      cases q : toPys (x :: r) with
      | none => rw [q] at e; cases e
      | some ps =>
        rw [q] at e
        cases e
        cases ps with
        | nil => simp only [toPys] at q; split at q <;> cases q
        | cons _ _ => simp [PyData.eqv, PyData.eqvAll, isE]
  case lst ds =>
    cases q : toPys ds with
    | none => rw [q] at e; cases e
    | some ps => rw [q] at e; cases e; rfl
theorem oEq_unit {n : Nat} {d : D} {S : Sto} (h : okD n d = true) (hn : n ≤ 64) : oEq d (.tup []) S = .ok (.bl (isE d)) S := by
  obtain ⟨p, e, s⟩ := okD_shaped h hn
  have u : SeqAt.shaped (.tuple []) = true := by decide
  unfold oEq eqD
  simp only [e, toPy, toPys, Option.map_some, s, u, and_self, if_true, eqv_unit e]
theorem oNe_unit {n : Nat} {d : D} {S : Sto} (h : okD n d = true) (hn : n ≤ 64) : oNe d (.tup []) S = .ok (.bl (!isE d)) S := by
  obtain ⟨p, e, s⟩ := okD_shaped h hn
  have u : SeqAt.shaped (.tuple []) = true := by decide
  unfold oNe eqD
  simp only [e, toPy, toPys, Option.map_some, s, u, and_self, if_true, eqv_unit e]
end DE

set_option maxHeartbeats 4000000
namespace G
open PySem L2 DE
def zP : MS := (sAsg (dCall 2 F_law_pool [] (aCons (dVar 0) (aCons (dVar 1) aNil))) (gN 2))
def zT : MS := (sAsg (dBin oIx (dLst (aCons (dC .non) (aCons (dC (.int 5)) (aCons (dC (.bl true)) (aCons (dC (.str "ann")) (aCons (dTup (aCons (dC (.str "k")) aNil)) (aCons (dLst (aCons (dC (.str "k")) aNil)) (aCons dDictE (aCons (dNeg (dC (.int 1))) aNil))))))))) (dCall 2 F_law_take [] (aCons (dVar 2) (aCons (dC (.int 8)) aNil)))) (gN 3))
def zR : MS :=     (sSeq (sFor (XN.iEn (aCons (dCall 1 F_law_made [] (aCons (dVar 3) aNil)) aNil)) (gTL 2 (gsCons (gN 4) (gsCons (gN 5) gsNil))) L_law_1)
    (sSeq (sAsg (XN.dKK 2 X_Refused (aCons (dC (.str "untold")) (aCons (dVar 3) aNil))) (gN 8))
    (sSeq (sIf (dOrT (dTest (dBin oNe (XN.dEf "word" EF_word (dVar 8)) (dC (.str "untold")))) (dOrT (dTest (dBin oNe (dBlt oRepr (aCons (XN.dEf "value" EF_value (dVar 8)) aNil)) (dBlt oRepr (aCons (dVar 3) aNil)))) (dTest (dBin oNe (XN.dEf "word" EF_word (dCC 2 X_Refused (aCons (dC (.str "way")) (aCons (dVar 3) aNil)))) (dC (.str "way"))))))
    (sRet (dC (.bl false)))
    sNil)
    (sIf (dOrT (dTest (dBin oNe (dCall 1 F_law_kinds [] (aCons (dCC 0 X_NoWorld aNil) aNil)) (dLst (aCons (dC (.bl false)) (aCons (dC (.bl false)) (aCons (dC (.bl false)) (aCons (dC (.bl true)) aNil))))))) (dTest (dBin oNe (dCall 1 F_law_classes [] (aCons (dCC 0 X_NoWorld aNil) aNil)) (dBin oMul (dLst (aCons (dC (.bl false)) aNil)) (dC (.int 25))))))
    (sRet (dC (.bl false)))
    sNil))))
theorem L2_eq : L_law_2 = sSeq zP (sSeq zT zR) := rfl
def KD : List D := [.lst [.str "k"]]
def THINGS : List D := [.non, .int 5, .bl true, .str "ann", .tup [.str "k"], .lst [.str "k"], .dK [], .int (-1)]
def endR (a0 a1 a2 a7 : Option D) (d : D) : DE.Env := [a0, a1, a2, some d, some (.int 24), some (.exo "Refused" [("value", d), ("word", .str "way")]), some (.lst [.bl false, .bl false, .bl false, .bl true]), a7, some (.exo "Refused" [("value", d), ("word", .str "untold")])]
end G

set_option maxHeartbeats 4000000
namespace G
open PySem L2 DE
theorem r0 (a0 a1 a2 a4 a5 a6 a7 a8 : Option D) (S : Sto) : zR [a0, a1, a2, some (.non), a4, a5, a6, a7, a8] S = .nx (endR a0 a1 a2 a7 (.non)) S := by kernel_rfl
end G

set_option maxHeartbeats 4000000
namespace G
open PySem L2 DE
theorem r1 (a0 a1 a2 a4 a5 a6 a7 a8 : Option D) (S : Sto) : zR [a0, a1, a2, some (.int 5), a4, a5, a6, a7, a8] S = .nx (endR a0 a1 a2 a7 (.int 5)) S := by kernel_rfl
end G

set_option maxHeartbeats 4000000
namespace G
open PySem L2 DE
theorem r2 (a0 a1 a2 a4 a5 a6 a7 a8 : Option D) (S : Sto) : zR [a0, a1, a2, some (.bl true), a4, a5, a6, a7, a8] S = .nx (endR a0 a1 a2 a7 (.bl true)) S := by kernel_rfl
end G

set_option maxHeartbeats 4000000
namespace G
open PySem L2 DE
theorem r3 (a0 a1 a2 a4 a5 a6 a7 a8 : Option D) (S : Sto) : zR [a0, a1, a2, some (.str "ann"), a4, a5, a6, a7, a8] S = .nx (endR a0 a1 a2 a7 (.str "ann")) S := by kernel_rfl
end G

set_option maxHeartbeats 4000000
namespace G
open PySem L2 DE
theorem r4 (a0 a1 a2 a4 a5 a6 a7 a8 : Option D) (S : Sto) : zR [a0, a1, a2, some (.tup [.str "k"]), a4, a5, a6, a7, a8] S = .nx (endR a0 a1 a2 a7 (.tup [.str "k"])) S := by kernel_rfl
end G

set_option maxHeartbeats 4000000
namespace G
open PySem L2 DE
theorem r5 (a0 a1 a2 a4 a5 a6 a7 a8 : Option D) (S : Sto) : zR [a0, a1, a2, some (.lst [.str "k"]), a4, a5, a6, a7, a8] S = .nx (endR a0 a1 a2 a7 (.lst [.str "k"])) S := by kernel_rfl
end G

set_option maxHeartbeats 4000000
namespace G
open PySem L2 DE
theorem r6 (a0 a1 a2 a4 a5 a6 a7 a8 : Option D) (S : Sto) : zR [a0, a1, a2, some (.dK []), a4, a5, a6, a7, a8] S = .nx (endR a0 a1 a2 a7 (.dK [])) S := by kernel_rfl
end G

set_option maxHeartbeats 4000000
namespace G
open PySem L2 DE
theorem r7 (a0 a1 a2 a4 a5 a6 a7 a8 : Option D) (S : Sto) : zR [a0, a1, a2, some (.int (-1)), a4, a5, a6, a7, a8] S = .nx (endR a0 a1 a2 a7 (.int (-1))) S := by kernel_rfl
end G

set_option maxHeartbeats 4000000
namespace G
open PySem L2 DE
/-! ### draws -/
def Upd (k : Nat) (S S' : Sto) : Prop := S'.length = S.length ∧ ∀ j, j ≠ k → S'[j]? = S[j]?
theorem Upd.refl {k : Nat} {S : Sto} : Upd k S S := ⟨rfl, fun _ _ => rfl⟩
theorem Upd.trans {k : Nat} {S S1 S2 : Sto} (a : Upd k S S1) (b : Upd k S1 S2) : Upd k S S2 := ⟨b.1.trans a.1, fun j h => (b.2 j h).trans (a.2 j h)⟩
theorem Upd.set {k : Nat} {S : Sto} {d : D} : Upd k S (S.set k d) := ⟨by simp, fun j h => by rw [List.getElem?_set_ne (Ne.symm h)]⟩
theorem take_ok {k : Nat} {S : Sto} {m : Int} (h : PoolAt k S) (h0 : 0 < m) (h1 : m < 1073741824) : ∃ r x y, F_law_take [.own k, .int m] S = .ok (.int r) (S.set k (.lst [.int x, .int y])) ∧ 0 ≤ r ∧ r < m := by
  obtain ⟨x, y, hk⟩ := h
  have hl : k < S.length := (List.getElem?_eq_some_iff.mp hk).1
  have i0 : oIx (.own k) (.int 0) S = .ok (.int x) S := by simp [oIx, seqOf, hk, atI, ixN]
  have i1 : oIx (.own k) (.int 1) S = .ok (.int y) S := by simp [oIx, seqOf, hk, atI, ixN]
  by_cases hx : 0 < x
  · refine ⟨x % m, x / m, y, ?_, Int.emod_nonneg _ (by omega), Int.emod_lt_of_pos _ h0⟩
    simp [F_law_take, e_fnD, B_law_take, i0, hx, oMod_int h0, oFDiv_int h0 h1, sSetIx, hk, ixN]
  · have hz1 := Int.emod_nonneg (y * 48271 + 11) (show (2147483647 : Int) ≠ 0 by decide)
    have hz2 := Int.emod_lt_of_pos (y * 48271 + 11) (show (0 : Int) < 2147483647 by decide)
    generalize hz : (y * 48271 + 11) % 2147483647 = z at hz1 hz2
    refine ⟨z * z % 2147483629 / 64 % m, x, z, ?_, Int.emod_nonneg _ (by omega), Int.emod_lt_of_pos _ h0⟩
    have hk2 : (S.set k (.lst [.int x, .int z]))[k]? = some (.lst [.int x, .int z]) := by simp [hl]
    have i2 : oIx (.own k) (.int 1) (S.set k (.lst [.int x, .int z])) = .ok (.int z) (S.set k (.lst [.int x, .int z])) := by simp [oIx, seqOf, hl, atI, ixN]
    have m1 : oMul (.int y) (.int 48271) S = .ok (.int (y * 48271)) S := oMul_int (.inr (by decide))
    have m2 : oMul (.int z) (.int z) (S.set k (.lst [.int x, .int z])) = .ok (.int (z * z)) (S.set k (.lst [.int x, .int z])) := oMul_int (.inr ⟨by unfold lim64; omega, by unfold lim64; omega⟩)
    simp [F_law_take, e_fnD, B_law_take, i0, hx, oMod_int h0, sSetIx, hk, ixN, i1, m1, oMod_int (show (0 : Int) < 2147483647 by decide), hz, i2, m2, oMod_int (show (0 : Int) < 2147483629 by decide), oFDiv_int (show (0 : Int) < 64 by decide) (by decide)]
theorem tk {k : Nat} {S : Sto} (m : Int) (h : PoolAt k S) (h0 : 0 < m) (h1 : m < 1073741824) : ∃ r S', F_law_take [.own k, .int m] S = .ok (.int r) S' ∧ 0 ≤ r ∧ r < m ∧ PoolAt k S' ∧ Upd k S S' := by
  obtain ⟨r, x, y, e, a, b⟩ := take_ok h h0 h1
  obtain ⟨_, _, hk⟩ := h
  exact ⟨r, _, e, a, b, ⟨x, y, by simp [(List.getElem?_eq_some_iff.mp hk).1]⟩, .set⟩
/-- an item of a list at a place that is in it -/
theorem ixl (ds : List D) (r : Int) (S : Sto) (h0 : 0 ≤ r) (h1 : r < ds.length) : ∃ v, v ∈ ds ∧ oIx (.lst ds) (.int r) S = .ok v S := by
  have hl : r.toNat < ds.length := by omega
  refine ⟨ds[r.toNat], List.getElem_mem hl, ?_⟩
  simp [oIx, seqOf, atI, ixN, h0, h1, hl]
theorem pool_ok {ns : List Int} {k : Nat} (S : Sto) (hk : k < 64) : ∃ x y, F_law_pool [.scr (ns.map .int), .int k] S = .ok (.own S.length) (S ++ [.lst [.int x, .int y]]) := by
  have hln : oLen [.scr (ns.map D.int)] S = .ok (.int ns.length) S := by simp [oLen, seqOf]
  have a1 : oMul (.int 7919) (.int k) S = .ok (.int (7919 * k)) S := oMul_int (.inl (by decide))
  have a2 : oMul (.int (7919 * k)) (.int k) S = .ok (.int (7919 * k * k)) S := oMul_int (.inr ⟨by unfold lim64; omega, by unfold lim64; omega⟩)
  have a3 : ∀ i : Int, oMul (.int i) (.int 48271) S = .ok (.int (i * 48271)) S := fun i => oMul_int (.inr (by decide))
  have b1 : ∀ i : Int, oMod (.int i) (.int 2147483629) S = .ok (.int (i % 2147483629)) S := fun i => oMod_int (by decide)
  have b2 : ∀ i : Int, oMod (.int i) (.int 2147483647) S = .ok (.int (i % 2147483647)) S := fun i => oMod_int (by decide)
  have a4 : ∀ i : Int, oMul (.int (i % 2147483647)) (.int (i % 2147483647)) S = .ok (.int (i % 2147483647 * (i % 2147483647))) S := fun i => oMul_int (.inr ⟨by have := Int.emod_nonneg i (show (2147483647 : Int) ≠ 0 by decide); unfold lim64; omega, by have := Int.emod_lt_of_pos i (show (0 : Int) < 2147483647 by decide); unfold lim64; omega⟩)
  have b3 : ∀ i : Int, oMod (.int i) (.int 2147483587) S = .ok (.int (i % 2147483587)) S := fun i => oMod_int (by decide)
  have pw : oPow (.int 10) (.int 18) S = .ok (.int 1000000000000000000) S := rfl
  have hc2 : 2 ≤ cap := by decide
  by_cases h : k < ns.length
  · have h' : (k : Int) < ns.length := by omega
    have hi : oIx (.scr (ns.map D.int)) (.int k) S = .ok (.int ns[k]) S := by simp [oIx, seqOf, atI, ixN, h]
    by_cases z : 1000000000000000000 ≤ ns[k]
    · have z1 : (ns[k] < 1000000000000000000) = False := eq_false (by omega)
      exact ⟨_, _, by simp [F_law_pool, e_fnD, B_law_pool, hln, h, hi, a1, a2, a3, a4, b1, b2, b3, z1, hc2]; exact ⟨rfl, rfl⟩⟩
    · have z1 : (ns[k] < 1000000000000000000) = True := eq_true (by omega)
      exact ⟨_, _, by simp [F_law_pool, e_fnD, B_law_pool, hln, h, hi, a1, a2, a3, a4, b1, b2, b3, z1, hc2]; exact ⟨rfl, rfl⟩⟩
  · have h' : ¬ (k : Int) < ns.length := by omega
    exact ⟨_, _, by simp [F_law_pool, e_fnD, B_law_pool, hln, h, a1, a2, a3, a4, b1, b2, b3, hc2]; exact ⟨rfl, rfl⟩⟩
theorem zR_ok {d : D} (hd : d ∈ THINGS) (a0 a1 a2 a4 a5 a6 a7 a8 : Option D) (S : Sto) : zR [a0, a1, a2, some d, a4, a5, a6, a7, a8] S = .nx (endR a0 a1 a2 a7 d) S := by
  simp only [THINGS, List.mem_cons, List.not_mem_nil, or_false] at hd
  rcases hd with rfl | rfl | rfl | rfl | rfl | rfl | rfl | rfl
  · exact r0 ..
  · exact r1 ..
  · exact r2 ..
  · exact r3 ..
  · exact r4 ..
  · exact r5 ..
  · exact r6 ..
  · exact r7 ..
theorem zT_ok {p : Nat} {S : Sto} (h : PoolAt p S) (a0 a1 a3 a4 a5 a6 a7 a8 : Option D) : ∃ d S', d ∈ THINGS ∧ zT [a0, a1, some (.own p), a3, a4, a5, a6, a7, a8] S = .nx [a0, a1, some (.own p), some d, a4, a5, a6, a7, a8] S' := by
  obtain ⟨r, S', e, r0, r1, _, _⟩ := tk 8 h (by decide) (by decide)
  obtain ⟨v, hv, ei⟩ := ixl THINGS r S' r0 r1
  refine ⟨v, S', hv, ?_⟩
  have c8 : 8 ≤ cap := by decide
  have c1 : 1 ≤ cap := by decide
  simp only [THINGS] at ei
  simp [zT, e, c8, c1, ei]
theorem cell_ok {ns : List Int} {k : Nat} (hk : k < 64) (o2 o3 o4 o5 o6 o7 o8 : Option D) (S : Sto) : ∃ u2 u3 u4 u5 u6 u8 S', L_law_2 [some (.scr (ns.map .int)), some (.int k), o2, o3, o4, o5, o6, o7, o8] S = .nx [some (.scr (ns.map .int)), some (.int k), u2, u3, u4, u5, u6, o7, u8] S' := by
  obtain ⟨x, y, e⟩ := pool_ok (ns := ns) S hk
  have p : PoolAt S.length (S ++ [.lst [.int x, .int y]]) := ⟨x, y, getElem?_snoc _ _⟩
  have s0 : zP [some (.scr (ns.map .int)), some (.int k), o2, o3, o4, o5, o6, o7, o8] S = .nx [some (.scr (ns.map .int)), some (.int k), some (.own S.length), o3, o4, o5, o6, o7, o8] (S ++ [.lst [.int x, .int y]]) := by simp [zP, e]
  obtain ⟨d, S1, hd, s1⟩ := zT_ok p (some (.scr (ns.map .int))) (some (.int k)) o3 o4 o5 o6 o7 o8
  have s2 := zR_ok hd (some (.scr (ns.map .int))) (some (.int k)) (some (.own S.length)) o4 o5 o6 o7 o8 S1
  have z : L_law_2 [some (.scr (ns.map .int)), some (.int k), o2, o3, o4, o5, o6, o7, o8] S = .nx (endR (some (.scr (ns.map .int))) (some (.int k)) (some (.own S.length)) o7 d) S1 := by
    rw [L2_eq]
    simp only [e_sSeq, s0, seq_nx, s1, s2]
  exact ⟨_, _, _, _, _, _, S1, z⟩
theorem cells_ok {ns : List Int} (n : Nat) (hn : n ≤ 64) (S : Sto) : ∃ ρ S', loopS (gN 1) L_law_2 (rangeD 0 n) [some (.scr (ns.map .int)), none, none, none, none, none, none, none, none] S = .nx ρ S' := by
  obtain ⟨ρ', S', e, _⟩ := loopS_inv (g := gN 1) (body := L_law_2) (fun ρ S => (∃ o1 o2 o3 o4 o5 o6 o7 o8, ρ = [some (.scr (ns.map .int)), o1, o2, o3, o4, o5, o6, o7, o8])) (ds := rangeD 0 n) (ρ := [some (.scr (ns.map .int)), none, none, none, none, none, none, none, none]) (S := S)
    (fun d hd ρ S ⟨o1, o2, o3, o4, o5, o6, o7, o8, e⟩ => by
      subst e
      obtain ⟨i, hi, rfl⟩ := mem_rangeD hd
      rw [Int.zero_add]
      obtain ⟨u2, u3, u4, u5, u6, u8, S', e⟩ := cell_ok (ns := ns) (k := i) (by omega) o2 o3 o4 o5 o6 o7 o8 S
      exact ⟨_, rfl, _, S', e, ⟨_, _, _, _, _, _, _, _, rfl⟩⟩) ⟨_, _, _, _, _, _, _, _, rfl⟩
  exact ⟨ρ', S', e⟩
theorem law_ok (ns : List Int) (hn : ns.length ≤ 63) : ∃ S', F_law [.scr (ns.map .int)] [] = .ok (.bl true) S' := by
  have hln : oLen [.scr (ns.map D.int)] [] = .ok (.int ns.length) [] := by simp [oLen, seqOf]
  obtain ⟨m, hm, hm8⟩ : ∃ m : Nat, (if (if (6 : Int) < ns.length then (6 : Int) else ns.length) > 1 then (if (6 : Int) < ns.length then (6 : Int) else ns.length) else 1) = (m : Int) ∧ m ≤ 6 := by
    by_cases h8 : (6 : Int) < ns.length
    · exact ⟨6, by simp [h8], by omega⟩
    · by_cases h1 : (ns.length : Int) > 1
      · exact ⟨ns.length, by simp [h8, h1], by omega⟩
      · exact ⟨1, by simp [h8, h1], by omega⟩
  obtain ⟨ρ, S1, e1⟩ := cells_ok (ns := ns) m (by omega) []
  have c1 : (-4611686018427387904 : Int) ≤ m ∧ (m : Int) < 4611686018427387904 := by omega
  refine ⟨S1, ?_⟩
  simp [F_law, e_fnD, B_law, hln, oMin, oMax, hm, c1, e1]
end G

theorem PySem.Challenge.cw_tombkeeper_k03_exceptions_apart_holds : PySem.Challenge.rw_tombkeeper_k03_exceptions_apart.Holds := by
  exact G.cw G.law_ok
