import PyProof.Rows.All
import Wide.All
import OpenK.AllK
import Wide.FinOn
import KE.KStateDown
import HandS.Base
import HandS.Call
import HandS.List
import HandS.Comp
import HandS.Exc
import HandS.Dict
import HandS.HeadHook1
import HandS.HeadHook2
import HandS.Head0
import HandS.Head1
import HandS.Head2
import HandS.HeadEnd
import HandS.Words
import HandS.WordsList
import HandS.WordsDict
import HandS.WordsExc
import HandS.Ends
import HandS.Iter
import HandS.Text
import HandS.CallSlots
import HandS.ExcOwn
import HandS.Defaults
import HandS.ExcInit
import HandS.IsInst
import HandS.TupAny
import HandS.TupMul
import HandS.Style
import HandS.RaiseMore
import KE.KUnpackStar
import HandS.ExcField
import HandS.ExcIs
import KE.KExcIs
import HandS.SetTxt0
import HandS.SetFor
import HandS.Set
import PyProof.Rows.SortShellAny
import HandS.NoneIn
import HandS.Deep
import KE.KRevSl
import HandS.StrSplit
import HandS.FStr
import HandS.ReplaceLit
import HandS.Steps
import HandS.Star
import HandS.Property
import HandS.MakeKw
import KE.KIsAll
import OpenK.KOps
import HandS.Flow
import HandS.TryOnly
import PyProof.StrLawsChain
import PyProof.StrLawsIn
import PyProof.Rows.StrSplitCount
import PyProof.ReprLen
import PyProof.StrLawsRepr
import KE.IntTextLaws
import HandS.ReplaceList
import HandS.Replace
import PySem.Challenge.RW_tombkeeper_k77_whole_plan_lines_judged
set_option Elab.async false
set_option linter.all false
set_option maxRecDepth 100000
set_option maxHeartbeats 4000000
namespace DE
open PySem L2

inductive D where
  | non | bl (b : Bool) | int (i : Int) | str (s : Str) | ty (n : String) | glo (x : Str)
  | tup (xs : List D) | lst (xs : List D) | scr (xs : List D)
  | dK (kvs : List (Key × D)) | dT (kvs : List (List Key × D))
  | obj (c : Str) (fs : List (Str × D))
  | own (k : Nat)
  /-- the exception that a suite holds: where it, its dict stand; its fields -/
  | xcp (a dd : Nat) (fs : List (Str × D))
  /-- an exception of the program's own, as a value -/
  | exo (c : Str) (fs : List (Str × D))

/-- what is owned (by its number), what is hidden -/
structure Ow where
  l : List Addr
  u : List Addr
def Ow.no (O : Ow) (a : Addr) : Prop := a ∉ O.l ∧ a ∉ O.u
def Ow.add (O : Ow) (p : Addr) : Ow := ⟨O.l ++ [p], O.u⟩
/-- a list written by the top -/
def WrL (K : PySem.W.Frag) (a : Addr) (xs : List V) : Prop := SqL K (fun _ => none) a xs
def WrT (K : PySem.W.Frag) (a : Addr) (xs : List V) : Prop := SqT K (fun _ => none) a xs
theorem sqT_of {K : PySem.W.Frag} {H : Hp} {a : Addr} {xs : List V} (h : H a = some (.tup xs) ∨ WrT K a xs) : SqT K H a xs := by
  rcases h with h | (h | ⟨_, h⟩) | h
  · exact .inl (.inl h)
  · cases h
  · cases h
  · exact .inr h
theorem sqL_of {K : PySem.W.Frag} {H : Hp} {a : Addr} {xs : List V} (h : Rd H a (.lst xs) ∨ WrL K a xs) : SqL K H a xs := by
  rcases h with h | (h | ⟨_, h⟩) | h
  · exact .inl h
  · cases h
  · cases h
  · exact .inr h

mutual
def Rep (K : PySem.W.Frag) (O : Ow) (H : Hp) : D → V → Prop
  | .non, v => v = .non
  | .bl b, v => v = .bl b
  | .int i, v => v = .int i
  | .str s, v => v = .str s
  | .ty n, v => v = .ty n
  | .glo x, v => v = .ref (He.ga K x)
  | .tup ds, v => ∃ a xs, v = .ref a ∧ (H a = some (.tup xs) ∨ WrT K a xs) ∧ Reps K O H ds xs
  | .lst ds, v => ∃ a xs, v = .ref a ∧ O.no a ∧ H a = some (.lst xs) ∧ Reps K O H ds xs
  | .scr ds, v => ∃ a xs, v = .ref a ∧ ((O.no a ∧ Rd H a (.lst xs)) ∨ WrL K a xs) ∧ Reps K O H ds xs
  | .dK kvs, v => ∃ a vs, v = .ref a ∧ O.no a ∧ Rd H a (.dK vs) ∧ RepK K O H kvs vs
  | .dT kvs, v => ∃ a vs, v = .ref a ∧ O.no a ∧ Rd H a (.dT vs) ∧ RepT K O H kvs vs
  | .obj c fs, v => ∃ a dx vs, v = .ref a ∧ O.no a ∧ H a = some (.ins (He.ga K c) dx vs) ∧ RepF K O H fs vs
  | .own k, v => ∃ a, O.l[k]? = some a ∧ v = .ref a
  | .xcp a dd fs, v => v = .ref a ∧ ∃ vs, O.no dd ∧ H dd = some (.xd vs) ∧ RepF K O H fs vs
  | .exo c fs, v => ∃ a dd vs, v = .ref a ∧ O.no a ∧ H a = some (L2.exo a (He.ga K c) (some dd)) ∧ O.no dd ∧ H dd = some (.xd vs) ∧ RepF K O H fs vs
def Reps (K : PySem.W.Frag) (O : Ow) (H : Hp) : List D → List V → Prop
  | [], vs => vs = []
  | d :: ds, vs => ∃ v r, vs = v :: r ∧ Rep K O H d v ∧ Reps K O H ds r
def RepK (K : PySem.W.Frag) (O : Ow) (H : Hp) : List (Key × D) → List (Key × V) → Prop
  | [], vs => vs = []
  | (k, d) :: ds, vs => ∃ v r, vs = (k, v) :: r ∧ Rep K O H d v ∧ RepK K O H ds r
def RepT (K : PySem.W.Frag) (O : Ow) (H : Hp) : List (List Key × D) → List (List Key × V) → Prop
  | [], vs => vs = []
  | (k, d) :: ds, vs => ∃ v r, vs = (k, v) :: r ∧ Rep K O H d v ∧ RepT K O H ds r
def RepF (K : PySem.W.Frag) (O : Ow) (H : Hp) : List (Str × D) → List (Str × V) → Prop
  | [], vs => vs = []
  | (k, d) :: ds, vs => ∃ v r, vs = (k, v) :: r ∧ Rep K O H d v ∧ RepF K O H ds r
end

/-- what stands in the store: the object at a is d's top -/
def Cell (K : PySem.W.Frag) (O : Ow) (H : Hp) (a : Addr) : D → Prop
  | .lst ds => ∃ xs, H a = some (.lst xs) ∧ Reps K O H ds xs
  | .dK kvs => ∃ vs, H a = some (.dK vs) ∧ RepK K O H kvs vs
  | .dT kvs => ∃ vs, H a = some (.dT vs) ∧ RepT K O H kvs vs
  | .obj c fs => ∃ dx vs, H a = some (.ins (He.ga K c) dx vs) ∧ RepF K O H fs vs
  | _ => False
abbrev Sto := List D
/-- what may be hidden: no tuple, nothing locked, no error's dict -/
def Solid (o : HO) : Prop := (∀ xs, o ≠ .tup xs) ∧ (∀ ob u, o ≠ .frz ob u) ∧ ∀ vs, o ≠ .xd vs
structure WF (K : PySem.W.Frag) (O : Ow) (H : Hp) (S : Sto) : Prop where
  nd : O.l.Nodup
  len : S.length = O.l.length
  cell : ∀ (k : Nat) a d, O.l[k]? = some a → S[k]? = some d → Cell K O H a d
  hid : ∀ a ∈ O.u, a ∉ O.l ∧ ∃ o, H a = some o ∧ Solid o
/-- H' goes on from H: all but what is owned stands; what is newly owned or hidden was not there -/
structure Ext (O : Ow) (H : Hp) (O' : Ow) (H' : Hp) : Prop where
  pre : ∃ m, O'.l = O.l ++ m ∧ ∀ a ∈ m, H a = none
  preu : ∃ m, O'.u = m ++ O.u ∧ ∀ a ∈ m, H a = none
  keep : ∀ a o, a ∉ O.l → H a = some o → H' a = some o
  tups : ∀ a xs, H a = some (.tup xs) → H' a = some (.tup xs)
  there : ∀ a, H a ≠ none → H' a ≠ none
/-- .. what is hidden may have changed, too -/
structure ExtW (O : Ow) (H : Hp) (O' : Ow) (H' : Hp) : Prop where
  at_ : ∀ (k : Nat) a, O.l[k]? = some a → O'.l[k]? = some a
  notin : ∀ a o, O.no a → H a = some o → O'.no a
  keep : ∀ a o, O.no a → H a = some o → H' a = some o
  tups : ∀ a xs, H a = some (.tup xs) → H' a = some (.tup xs)
  frzs : ∀ a o u, H a = some (.frz o u) → H' a = some (.frz o u)
theorem Ext.refl {O H} : Ext O H O H := ⟨⟨[], by simp, fun _ h => by cases h⟩, ⟨[], by simp, fun _ h => by cases h⟩, fun _ _ _ h => h, fun _ _ h => h, fun _ h => h⟩
theorem Ext.trans {O H O1 H1 O2 H2} (e : Ext O H O1 H1) (f : Ext O1 H1 O2 H2) : Ext O H O2 H2 := by
  obtain ⟨m, q1, hm⟩ := e.pre
  obtain ⟨m2, q2, hm2⟩ := f.pre
  obtain ⟨n, p1, hn⟩ := e.preu
  obtain ⟨n2, p2, hn2⟩ := f.preu
  have back : ∀ a, H1 a = none → H a = none := fun a h => by
    cases q : H a with
    | none => rfl
    | some o => exact absurd h (e.there a (by rw [q]; exact fun z => nomatch z))
  refine ⟨⟨m ++ m2, by rw [q2, q1]; simp, fun a ha => ?_⟩, ⟨n2 ++ n, by rw [p2, p1]; simp, fun a ha => ?_⟩, fun a o na h => ?_, fun a xs h => f.tups a xs (e.tups a xs h), fun a h => f.there a (e.there a h)⟩
  · rcases List.mem_append.mp ha with h | h
    · exact hm a h
    · exact back a (hm2 a h)
  · rcases List.mem_append.mp ha with h | h
    · exact back a (hn2 a h)
    · exact hn a h
  · refine f.keep a o (fun z => ?_) (e.keep a o na h)
    rw [q1] at z
    rcases List.mem_append.mp z with z | z
    · exact na z
    · rw [hm a z] at h; cases h
theorem Ext.at {O H O' H'} (e : Ext O H O' H') {k : Nat} {a} (h : O.l[k]? = some a) : O'.l[k]? = some a := by
  obtain ⟨m, q, hm⟩ := e.pre
  rw [q, List.getElem?_append_left (List.getElem?_eq_some_iff.mp h).1]; exact h
theorem Ext.notin {O H O' H' a o} (e : Ext O H O' H') (na : O.no a) (h : H a = some o) : O'.no a := by
  obtain ⟨m, q, hm⟩ := e.pre
  obtain ⟨n, p, hn⟩ := e.preu
  refine ⟨fun z => ?_, fun z => ?_⟩
  · rw [q] at z
    rcases List.mem_append.mp z with z | z
    · exact na.1 z
    · rw [hm a z] at h; cases h
  · rw [p] at z
    rcases List.mem_append.mp z with z | z
    · rw [hn a z] at h; cases h
    · exact na.2 z
theorem WF.cases {K O H S} (w : WF K O H S) {a : Addr} (ha : a ∈ O.l ∨ a ∈ O.u) : ∃ o, H a = some o ∧ (∀ xs, o ≠ .tup xs) ∧ ∀ ob u, o ≠ .frz ob u := by
  rcases ha with ha | ha
  · obtain ⟨k, hk⟩ := List.mem_iff_getElem?.mp ha
    have hl : k < S.length := by rw [w.len]; exact (List.getElem?_eq_some_iff.mp hk).1
    have c := w.cell k a S[k] hk (by simp [hl])
    cases q : S[k] <;> rw [q] at c <;> simp only [Cell] at c
    all_goals first
      | exact c.elim
      | (obtain ⟨xs, c, _⟩ := c; exact ⟨_, c, (fun _ z => by cases z), (fun _ _ z => by cases z)⟩)
      | (obtain ⟨dx, xs, c, _⟩ := c; exact ⟨_, c, (fun _ z => by cases z), (fun _ _ z => by cases z)⟩)
  · obtain ⟨_, o, c, h1, h2, _⟩ := w.hid a ha
    exact ⟨_, c, h1, h2⟩
theorem WF.nofrz {K O H S} (w : WF K O H S) : ∀ a, a ∈ O.l ∨ a ∈ O.u → ∀ o u, H a ≠ some (.frz o u) := fun a ha o u h => by
  obtain ⟨o', h', _, n⟩ := w.cases ha
  rw [h] at h'; exact n o u (Option.some.inj h').symm
theorem WF.there {K O H S} (w : WF K O H S) : ∀ a, a ∈ O.l ∨ a ∈ O.u → H a ≠ none := fun a ha h => by
  obtain ⟨o', h', _, n⟩ := w.cases ha
  rw [h] at h'; cases h'
theorem WF.notup {K O H S} (w : WF K O H S) : ∀ a, a ∈ O.l ∨ a ∈ O.u → ∀ xs, H a ≠ some (.tup xs) := fun a ha u h => by
  obtain ⟨o', h', n, _⟩ := w.cases ha
  rw [h] at h'; exact n u (Option.some.inj h').symm
theorem Ext.w {K O H O' H' S} (e : Ext O H O' H') (w : WF K O H S) : ExtW O H O' H' :=
  ⟨fun _ _ h => e.at h, fun _ _ n h => e.notin n h, fun a o n h => e.keep a o n.1 h, e.tups, fun a o u h => e.keep a _ (fun z => w.nofrz a (.inl z) o u h) h⟩
theorem ExtW.rd {O H O' H' a u} (e : ExtW O H O' H') (na : O.no a) (h : Rd H a u) : O'.no a ∧ Rd H' a u := by
  rcases h with h | ⟨o, h⟩
  · exact ⟨e.notin _ _ na h, .inl (e.keep _ _ na h)⟩
  · exact ⟨e.notin _ _ na h, .inr ⟨o, e.keep _ _ na h⟩⟩
theorem ExtW.sqT {K O H O' H' a xs} (e : ExtW O H O' H') (h : SqT K H a xs) : SqT K H' a xs := by
  rcases h with (h | ⟨o, h⟩) | h
  · exact .inl (.inl (e.tups _ _ h))
  · exact .inl (.inr ⟨o, e.frzs _ _ _ h⟩)
  · exact .inr h
section
variable {K : PySem.W.Frag} {O O' : Ow} {H H' : Hp}
mutual
theorem Rep.mono (e : ExtW O H O' H') : ∀ {d : D} {v : V}, Rep K O H d v → Rep K O' H' d v
  | .non, _, h => h
  | .bl _, _, h => h
  | .int _, _, h => h
  | .str _, _, h => h
  | .ty _, _, h => h
  | .glo _, _, h => h
  | .tup _, _, h => by
    obtain ⟨a, xs, rfl, h1, h2⟩ := h
    exact ⟨a, xs, rfl, h1.imp (e.tups _ _) id, Reps.mono e h2⟩
  | .lst _, _, h => by
    obtain ⟨a, xs, rfl, n, h1, h2⟩ := h
    exact ⟨a, xs, rfl, e.notin _ _ n h1, e.keep _ _ n h1, Reps.mono e h2⟩
  | .scr _, _, h => by
    obtain ⟨a, xs, rfl, h1, h2⟩ := h
    refine ⟨a, xs, rfl, ?_, Reps.mono e h2⟩
    rcases h1 with ⟨n, h1⟩ | h1
    · exact .inl (e.rd n h1)
    · exact .inr h1
  | .dK _, _, h => by
    obtain ⟨a, xs, rfl, n, h1, h2⟩ := h
    exact ⟨a, xs, rfl, (e.rd n h1).1, (e.rd n h1).2, RepK.mono e h2⟩
  | .dT _, _, h => by
    obtain ⟨a, xs, rfl, n, h1, h2⟩ := h
    exact ⟨a, xs, rfl, (e.rd n h1).1, (e.rd n h1).2, RepT.mono e h2⟩
  | .obj _ _, _, h => by
    obtain ⟨a, dx, xs, rfl, n, h1, h2⟩ := h
    exact ⟨a, dx, xs, rfl, e.notin _ _ n h1, e.keep _ _ n h1, RepF.mono e h2⟩
  | .own _, _, h => by
    obtain ⟨a, h1, rfl⟩ := h
    exact ⟨a, e.at_ _ _ h1, rfl⟩
  | .xcp _ _ _, _, h => by
    obtain ⟨rfl, vs, n, h1, h2⟩ := h
    exact ⟨rfl, vs, e.notin _ _ n h1, e.keep _ _ n h1, RepF.mono e h2⟩
  | .exo _ _, _, h => by
    obtain ⟨a, dd, vs, rfl, n, h1, m, h2, h3⟩ := h
    exact ⟨a, dd, vs, rfl, e.notin _ _ n h1, e.keep _ _ n h1, e.notin _ _ m h2, e.keep _ _ m h2, RepF.mono e h3⟩
theorem Reps.mono (e : ExtW O H O' H') : ∀ {d : List D} {v : List V}, Reps K O H d v → Reps K O' H' d v
  | [], _, h => h
  | _ :: _, _, h => by
    obtain ⟨v, r, rfl, h1, h2⟩ := h
    exact ⟨v, r, rfl, Rep.mono e h1, Reps.mono e h2⟩
theorem RepK.mono (e : ExtW O H O' H') : ∀ {d : List (Key × D)} {v : List (Key × V)}, RepK K O H d v → RepK K O' H' d v
  | [], _, h => h
  | (_, _) :: _, _, h => by
    obtain ⟨v, r, rfl, h1, h2⟩ := h
    exact ⟨v, r, rfl, Rep.mono e h1, RepK.mono e h2⟩
theorem RepT.mono (e : ExtW O H O' H') : ∀ {d : List (List Key × D)} {v : List (List Key × V)}, RepT K O H d v → RepT K O' H' d v
  | [], _, h => h
  | (_, _) :: _, _, h => by
    obtain ⟨v, r, rfl, h1, h2⟩ := h
    exact ⟨v, r, rfl, Rep.mono e h1, RepT.mono e h2⟩
theorem RepF.mono (e : ExtW O H O' H') : ∀ {d : List (Str × D)} {v : List (Str × V)}, RepF K O H d v → RepF K O' H' d v
  | [], _, h => h
  | (_, _) :: _, _, h => by
    obtain ⟨v, r, rfl, h1, h2⟩ := h
    exact ⟨v, r, rfl, Rep.mono e h1, RepF.mono e h2⟩
end
theorem Cell.mono {a : Addr} {d : D} (e : ExtW O H O' H') (h : Cell K O H a d) (k : H' a = H a) : Cell K O' H' a d := by
  cases d <;> simp only [Cell] at h ⊢
  case lst => obtain ⟨xs, h1, h2⟩ := h; exact ⟨xs, k.trans h1, h2.mono e⟩
  case dK => obtain ⟨xs, h1, h2⟩ := h; exact ⟨xs, k.trans h1, h2.mono e⟩
  case dT => obtain ⟨xs, h1, h2⟩ := h; exact ⟨xs, k.trans h1, h2.mono e⟩
  case obj => obtain ⟨dx, xs, h1, h2⟩ := h; exact ⟨dx, xs, k.trans h1, h2.mono e⟩
theorem Reps.length : ∀ {ds : List D} {vs : List V}, Reps K O H ds vs → ds.length = vs.length
  | [], _, h => by cases h; rfl
  | _ :: _, _, h => by
    obtain ⟨v, r, rfl, _, h2⟩ := h
    simp [Reps.length h2]
theorem Reps.append : ∀ {ds es : List D} {vs us : List V}, Reps K O H ds vs → Reps K O H es us → Reps K O H (ds ++ es) (vs ++ us)
  | [], _, _, _, h, h' => by cases h; exact h'
  | _ :: _, _, _, _, h, h' => by
    obtain ⟨v, r, rfl, h1, h2⟩ := h
    exact ⟨v, r ++ _, rfl, h1, Reps.append h2 h'⟩
theorem Reps.get : ∀ {ds : List D} {vs : List V} {i : Nat} {d : D}, Reps K O H ds vs → ds[i]? = some d → ∃ v, vs[i]? = some v ∧ Rep K O H d v
  | [], _, _, _, _, e => by simp at e
  | _ :: _, _, 0, _, h, e => by
    obtain ⟨v, r, rfl, h1, h2⟩ := h
    simp at e; subst e; exact ⟨v, rfl, h1⟩
  | _ :: _, _, i + 1, _, h, e => by
    obtain ⟨v, r, rfl, h1, h2⟩ := h
    exact Reps.get (i := i) h2 (by simpa using e)
theorem Reps.get' : ∀ {ds : List D} {vs : List V} {i : Nat} {v : V}, Reps K O H ds vs → vs[i]? = some v → ∃ d, ds[i]? = some d ∧ Rep K O H d v
  | [], _, _, _, h, e => by cases h; simp at e
  | _ :: _, _, 0, _, h, e => by
    obtain ⟨v, r, rfl, h1, h2⟩ := h
    simp at e; subst e; exact ⟨_, rfl, h1⟩
  | _ :: _, _, i + 1, _, h, e => by
    obtain ⟨v, r, rfl, h1, h2⟩ := h
    exact Reps.get' (i := i) h2 (by simpa using e)
theorem Reps.set {d : D} {v : V} (hr : Rep K O H d v) : ∀ {ds : List D} {vs : List V} (i : Nat), Reps K O H ds vs → Reps K O H (ds.set i d) (vs.set i v)
  | [], _, _, h => by cases h; exact rfl
  | _ :: _, _, 0, h => by
    obtain ⟨u, r, rfl, h1, h2⟩ := h
    exact ⟨v, r, rfl, hr, h2⟩
  | _ :: _, _, i + 1, h => by
    obtain ⟨u, r, rfl, h1, h2⟩ := h
    exact ⟨u, _, rfl, h1, Reps.set hr i h2⟩
theorem Reps.take : ∀ {ds : List D} {vs : List V} (n : Nat), Reps K O H ds vs → Reps K O H (ds.take n) (vs.take n)
  | _, _, 0, _ => by simp [Reps]
  | [], _, _ + 1, h => by cases h; exact rfl
  | _ :: _, _, n + 1, h => by
    obtain ⟨u, r, rfl, h1, h2⟩ := h
    exact ⟨u, _, rfl, h1, Reps.take n h2⟩
theorem Reps.drop : ∀ {ds : List D} {vs : List V} (n : Nat), Reps K O H ds vs → Reps K O H (ds.drop n) (vs.drop n)
  | _, _, 0, h => by simpa using h
  | [], _, _ + 1, h => by cases h; exact rfl
  | _ :: _, _, n + 1, h => by
    obtain ⟨u, r, rfl, h1, h2⟩ := h
    exact Reps.drop n h2
end

/-! ### environments -/
abbrev Env := List (Option D)
def RepO (K : PySem.W.Frag) (O : Ow) (H : Hp) : Option D → Option V → Prop
  | none, _ => True
  | some d, u => ∃ v, u = some v ∧ Rep K O H d v
inductive REnv (K : PySem.W.Frag) (O : Ow) (H : Hp) : Env → St → Prop where
  | nil : REnv K O H [] []
  | cons {d v ρ σ} : RepO K O H d v → REnv K O H ρ σ → REnv K O H (d :: ρ) (v :: σ)
section
variable {K : PySem.W.Frag} {O O' : Ow} {H H' : Hp}
theorem REnv.mono (e : ExtW O H O' H') : ∀ {ρ : Env} {σ : St}, REnv K O H ρ σ → REnv K O' H' ρ σ
  | _, _, .nil => .nil
  | _, _, .cons (d := none) h t => .cons trivial (t.mono e)
  | _, _, .cons (d := some _) ⟨v, e1, h⟩ t => .cons ⟨v, e1, h.mono e⟩ (t.mono e)
theorem REnv.get : ∀ {ρ : Env} {σ : St} {i : Nat} {d : D}, REnv K O H ρ σ → ρ[i]? = some (some d) → ∃ v, σ[i]? = some (some v) ∧ Rep K O H d v
  | _, _, _, _, .nil, e => by simp at e
  | _, _, 0, _, .cons h t, e => by
    simp at e; subst e
    obtain ⟨v, rfl, h⟩ := h
    exact ⟨v, rfl, h⟩
  | _, _, i + 1, _, .cons h t, e => by
    simpa using REnv.get (i := i) t (by simpa using e)
theorem REnv.set {d : D} {v : V} (hr : Rep K O H d v) : ∀ {ρ : Env} {σ : St} (i : Nat), REnv K O H ρ σ → REnv K O H (ρ.set i (some d)) (σ.set i (some v))
  | _, _, _, .nil => .nil
  | _, _, 0, .cons h t => .cons ⟨v, rfl, hr⟩ t
  | _, _, i + 1, .cons h t => .cons h (REnv.set hr i t)
theorem REnv.unset {u : Option V} : ∀ {ρ : Env} {σ : St} (i : Nat), REnv K O H ρ σ → REnv K O H (ρ.set i none) (σ.set i u)
  | _, _, _, .nil => .nil
  | _, _, 0, .cons h t => .cons trivial t
  | _, _, i + 1, .cons h t => .cons h (REnv.unset i t)
theorem REnv.app : ∀ {ρ : Env} {σ : St}, REnv K O H ρ σ → ∀ n, REnv K O H (ρ ++ List.replicate n none) (σ ++ List.replicate n none)
  | _, _, .nil, 0 => .nil
  | _, _, .nil, n + 1 => .cons trivial (REnv.app .nil n)
  | _, _, .cons h t, n => .cons h (t.app n)
theorem REnv.of : ∀ {ds : List D} {vs : List V}, Reps K O H ds vs → REnv K O H (ds.map some) (vs.map some)
  | [], _, h => by cases h; exact .nil
  | _ :: _, _, h => by
    obtain ⟨u, r, rfl, h1, h2⟩ := h
    exact .cons ⟨u, rfl, h1⟩ (REnv.of h2)
end
structure Stt (K : PySem.W.Frag) (O : Ow) (H : Hp) (ρ : Env) (σ : St) (S : Sto) : Prop where
  wf : WF K O H S
  env : REnv K O H ρ σ

/-! ### results -/
/-- an exception of the program's own: its class, its fields -/
structure Exc where
  c : Str
  fs : List (Str × D)
inductive RE (α : Type) where
  | ok (a : α) (S : Sto) | exc (x : Exc) (S : Sto) | bad
def RE.bind {α β : Type} (r : RE α) (f : α → Sto → RE β) : RE β := match r with
  | .ok a S => f a S
  | .exc x S => .exc x S
  | .bad => .bad
@[simp] theorem RE.bind_ok {α β : Type} (a : α) (S : Sto) (f : α → Sto → RE β) : (RE.ok a S).bind f = f a S := id rfl
@[simp] theorem RE.bind_exc {α β : Type} (x : Exc) (S : Sto) (f : α → Sto → RE β) : (RE.exc x S).bind f = .exc x S := id rfl
@[simp] theorem RE.bind_bad {α β : Type} (f : α → Sto → RE β) : (RE.bad : RE α).bind f = .bad := id rfl
abbrev ME := Env → Sto → RE D
abbrev MT := Env → Sto → RE Bool
abbrev MA := Env → Sto → RE (List D)
inductive RS where
  | nx (ρ : Env) (S : Sto) | rt (d : D) (S : Sto) | bk (ρ : Env) (S : Sto) | ct (ρ : Env) (S : Sto) | exc (x : Exc) (ρ : Env) (S : Sto) | bad
abbrev MS := Env → Sto → RS
def RepX (K : PySem.W.Frag) (O : Ow) (H : Hp) (x : Exc) (cls : Value) (dx : Option Addr) : Prop :=
  cls = .ref (He.ga K x.c) ∧ ∃ a vs, dx = some a ∧ H a = some (.xd vs) ∧ RepF K O H x.fs vs

/-- what is wanted behind an expression: Rl says how the datum shows -/
def After {α β : Type} (K : PySem.W.Frag) (W : WX) (Rl : Ow → Hp → α → β → Prop) (ρ : Env) (σ : St) (O : Ow) (H : Hp) (Q : β → Hp → Prop) : RE α → Prop
  | .ok d S' => ∀ O' H' v, Ext O H O' H' → Stt K O' H' ρ σ S' → Rl O' H' d v → Q v H'
  | .exc x S' => ∀ O' H' cls dx, Ext O H O' H' → Stt K O' H' ρ σ S' → RepX K O' H' x cls dx → W cls dx σ H'
  | .bad => False
section
variable {K : PySem.W.Frag} {W : WX} {ρ : Env} {σ : St} {O O' : Ow} {H H' : Hp} {S : Sto} {α β γ δ : Type}
theorem After.mono {Rl : Ow → Hp → α → β → Prop} {Q : β → Hp → Prop} {r : RE α} (h : After K W Rl ρ σ O H Q r) (e : Ext O H O' H') : After K W Rl ρ σ O' H' Q r := by
  cases r with
  | ok d S' => exact fun O2 H2 v e2 st rl => h O2 H2 v (e.trans e2) st rl
  | exc x S' => exact fun O2 H2 cls dx e2 st rl => h O2 H2 cls dx (e.trans e2) st rl
  | bad => exact h
theorem After.seq {Rl : Ow → Hp → α → β → Prop} {Rm : Ow → Hp → γ → δ → Prop} {Q : δ → Hp → Prop} {Q1 : β → Hp → Prop} {r : RE α} {g : α → Sto → RE γ} (h : After K W Rm ρ σ O H Q (r.bind g))
    (k : ∀ d S1 O1 H1 v, Ext O H O1 H1 → Stt K O1 H1 ρ σ S1 → Rl O1 H1 d v → After K W Rm ρ σ O1 H1 Q (g d S1) → Q1 v H1) : After K W Rl ρ σ O H Q1 r := by
  cases r with
  | ok d S' => exact fun O1 H1 v e st rl => k d S' O1 H1 v e st rl (After.mono h e)
  | exc x S' => exact fun O2 H2 cls dx e2 st rl => h O2 H2 cls dx e2 st rl
  | bad => exact h.elim
theorem After.ok {Rl : Ow → Hp → α → β → Prop} {Q : β → Hp → Prop} {d : α} {v : β} (h : After K W Rl ρ σ O H Q (.ok d S)) (st : Stt K O H ρ σ S) (r : Rl O H d v) : Q v H := h O H v .refl st r
end
/-- readings of data -/
def tE (K : PySem.W.Frag) (W : WX) (f : ME) : TE := fun σ H Q => ∃ O ρ S, Stt K O H ρ σ S ∧ After K W (Rep K) ρ σ O H Q (f ρ S)
def tT (K : PySem.W.Frag) (W : WX) (f : MT) : TT := fun σ H Q => ∃ O ρ S, Stt K O H ρ σ S ∧ After K W (fun _ _ a b => a = b) ρ σ O H Q (f ρ S)
def tA (K : PySem.W.Frag) (W : WX) (f : MA) : TA := fun σ H Q => ∃ O ρ S, Stt K O H ρ σ S ∧ After K W (Reps K) ρ σ O H Q (f ρ S)
structure DE (X : Cx) (W : WX) (e : Expr) (f : ME) : Prop where
  pe : PE X e (tE X.K W f)
structure DT (X : Cx) (W : WX) (e : Expr) (f : MT) : Prop where
  pt : PT X e (tT X.K W f)
structure DW (X : Cx) (W : WX) (e : Expr) (f : MT) : Prop where
  pw : PW X e (tT X.K W f)
structure DA (X : Cx) (W : WX) (es : List Expr) (f : MA) : Prop where
  pa : PA X es (tA X.K W f)
theorem PE.imp {X : Cx} {e : Expr} {t t' : TE} (h : PE X e t) (k : ∀ σ H Q, t' σ H Q → t σ H Q) : PE X e t' := ⟨fun pins s σ H Q I q => h.run pins s σ H Q I (k σ H Q q)⟩
theorem PT.imp {X : Cx} {e : Expr} {t t' : TT} (h : PT X e t) (k : ∀ σ H Q, t' σ H Q → t σ H Q) : PT X e t' := ⟨fun pins s σ H Q I q => h.run pins s σ H Q I (k σ H Q q)⟩
theorem PW.imp {X : Cx} {e : Expr} {t t' : TT} (h : PW X e t) (k : ∀ σ H Q, t' σ H Q → t σ H Q) : PW X e t' := ⟨fun wh pins s σ H Q I q => h.run wh pins s σ H Q I (k σ H Q q)⟩
theorem PA.imp {X : Cx} {e : List Expr} {t t' : TA} (h : PA X e t) (k : ∀ σ H Q, t' σ H Q → t σ H Q) : PA X e t' := ⟨fun p pins s σ H Q I q => h.run p pins s σ H Q I (k σ H Q q)⟩
theorem PS.imp {X : Cx} {e : Stmt} {t t' : TS} (h : PS X e t) (k : ∀ D σ H, t' D σ H → t D σ H) : PS X e t' := ⟨fun pins s σ H D I q => h.run pins s σ H D I (k D σ H q)⟩
theorem PSs.imp {X : Cx} {e : List Stmt} {t t' : TS} (h : PSs X e t) (k : ∀ D σ H, t' D σ H → t D σ H) : PSs X e t' := ⟨fun pins s σ H D I q => h.run pins s σ H D I (k D σ H q)⟩

section
variable {X : Cx} {W : WX} {a b c : Expr} {f g h : ME} {pos : Pos}
/-! ### names, constants -/
def dVar (i : Nat) : ME := fun ρ S => match ρ[i]? with
  | some (some d) => .ok d S
  | _ => .bad
def dC (d : D) : ME := fun _ S => .ok d S
theorem de_var (i : Nat) {x : Str} (hN : X.N[i]? = some x) (hv : Vis X.env.scope x) (hd : (x == ("__debug__" : Str)) = false := by decide) (hcd : (x == ("__classdict__" : Str)) = false := by decide) : DE X W (.Name x pos) (dVar i) := ⟨PE.imp (pe_var hN hv hd hcd) fun σ H Q ⟨O, ρ, S, st, h⟩ => by
  unfold dVar at h
  split at h
  · rename_i d q
    obtain ⟨v, e, r⟩ := st.env.get q
    exact ⟨v, e, h.ok st r⟩
  · exact h.elim⟩
theorem de_const {d : D} {v : V} (hp : PE X a (tC v)) (r : ∀ O H, Rep X.K O H d v) : DE X W a (dC d) := ⟨PE.imp hp fun σ H Q ⟨O, ρ, S, st, h⟩ => After.ok h st (r O H)⟩
theorem de_int {i j} : DE X W (.Constant (.int i) j pos) (dC (.int i)) := de_const pe_int fun _ _ => rfl
theorem de_bl {i j} : DE X W (.Constant (.bool i) j pos) (dC (.bl i)) := de_const pe_bl fun _ _ => rfl
theorem de_non {j} : DE X W (.Constant .none j pos) (dC .non) := de_const pe_non fun _ _ => rfl
theorem de_str {i j} : DE X W (.Constant (.str i) j pos) (dC (.str i)) := de_const pe_str fun _ _ => rfl
/-! ### operators -/
/-- a rule of the layer for values, seen by data -/
def OpD (X : Cx) (r : R2) (op : D → D → Sto → RE D) : Prop :=
  ∀ (W : WX) (ρ : Env) (σ : St) (O : Ow) (H : Hp) (S : Sto) (x y : V) (d e : D) (Q : VK), Stt X.K O H ρ σ S → Rep X.K O H d x → Rep X.K O H e y → After X.K W (Rep X.K) ρ σ O H Q (op d e S) → r x y H Q
def dBin (op : D → D → Sto → RE D) (f g : ME) : ME := fun ρ S => (f ρ S).bind fun d S1 => (g ρ S1).bind fun e S2 => op d e S2
theorem bin_imp {r : R2} {op : D → D → Sto → RE D} (ho : OpD X r op) {σ : St} {H : Hp} {Q : VK} (h : tE X.K W (dBin op f g) σ H Q) : tOp r (tE X.K W f) (tE X.K W g) σ H Q := by
  obtain ⟨O, ρ, S, st, h⟩ := h
  refine ⟨O, ρ, S, st, After.seq h fun d S1 O1 H1 v e1 st1 r1 h1 => ⟨O1, ρ, S1, st1, After.seq h1 fun d2 S2 O2 H2 u e2 st2 r2 h2 => ?_⟩⟩
  exact ho W ρ σ O2 H2 S2 v u d d2 Q st2 (r1.mono (e2.w st1.wf)) r2 h2
theorem de_op {op : Operator} {r : R2} {o : D → D → Sto → RE D} (hr : OpR X (binaryOp op) r) (ho : OpD X r o) (ha : DE X W a f) (hb : DE X W b g) : DE X W (.BinOp a op b pos) (dBin o f g) :=
  ⟨PE.imp (pe_op hr ha.pe hb.pe) fun _ _ _ h => bin_imp ho h⟩
theorem de_cmp {op : CmpOp} {r : R2} {o : D → D → Sto → RE D} (hr : OpR X (compareOp op) r) (ho : OpD X r o) (ha : DE X W a f) (hb : DE X W b g) (hm : behindInMarks op b = false) : DE X W (.Compare a [op] [b] pos) (dBin o f g) :=
  ⟨PE.imp (pe_cmpR hr ha.pe hb.pe hm) fun _ _ _ h => bin_imp ho h⟩
/-- a value that is a bool, as a test -/
def dTest (f : ME) : MT := fun ρ S => (f ρ S).bind fun d S1 => match d with
  | .bl b => .ok b S1
  | _ => .bad
theorem test_imp {t : TE} {σ : St} {H : Hp} {Q : Bool → Hp → Prop} (ht : ∀ σ H Q, tE X.K W f σ H Q → t σ H Q) (h : tT X.K W (dTest f) σ H Q) : tTest t σ H Q := by
  obtain ⟨O, ρ, S, st, h⟩ := h
  refine ht σ H _ ⟨O, ρ, S, st, After.seq h fun d S1 O1 H1 v e1 st1 r1 h1 => ?_⟩
  cases d with
  | bl b => exact ⟨b, r1, After.ok h1 st1 rfl⟩
  | _ => exact h1.elim
theorem dt_cmp {op : CmpOp} {r : R2} {o : D → D → Sto → RE D} (hr : OpR X (compareOp op) r) (ho : OpD X r o) (ha : DE X W a f) (hb : DE X W b g) (hm : behindInMarks op b = false) : DT X W (.Compare a [op] [b] pos) (dTest (dBin o f g)) :=
  ⟨PT.imp (pt_cmpR hr ha.pe hb.pe hm) fun _ _ _ h => test_imp (fun _ _ _ q => bin_imp ho q) h⟩
theorem dt_val (ha : DE X W a f) (he : ∀ whole, isTrue a X.env whole = (do let v ← whole; standAt a.pos; holding [v] (truthy v)) := by intro _; rfl) : DT X W a (dTest f) :=
  ⟨PT.imp (pt_val ha.pe he) fun _ _ _ h => test_imp (fun _ _ _ q => q) h⟩
/-! ### and, or, not -/
variable {tf tg : MT} {rest : List Expr}
def dAndT (f g : MT) : MT := fun ρ S => (f ρ S).bind fun d S1 => if d = true then g ρ S1 else .ok false S1
def dOrT (f g : MT) : MT := fun ρ S => (f ρ S).bind fun d S1 => if d = true then .ok true S1 else g ρ S1
def dNotT (f : MT) : MT := fun ρ S => (f ρ S).bind fun d S1 => .ok (!d) S1
theorem dw_and1 (ha : DT X W a tf) : DW X W (.BoolOp .And [a] pos) tf := ⟨pw_and1 ha.pt⟩
theorem dw_or1 (ha : DT X W a tf) : DW X W (.BoolOp .Or [a] pos) tf := ⟨pw_or1 ha.pt⟩
theorem dw_and (ha : DT X W a tf) (hb : DW X W (.BoolOp .And (b :: rest) pos) tg) : DW X W (.BoolOp .And (a :: b :: rest) pos) (dAndT tf tg) :=
  ⟨PW.imp (pw_and ha.pt hb.pw) fun σ H Q ⟨O, ρ, S, st, h⟩ => ⟨O, ρ, S, st, After.seq h fun d S1 O1 H1 v e1 st1 r1 h1 => by
    subst r1
    cases d with
    | true => exact iteT ⟨O1, ρ, S1, st1, h1⟩
    | false => exact iteF (After.ok h1 st1 rfl)⟩⟩
theorem dw_or (ha : DT X W a tf) (hb : DW X W (.BoolOp .Or (b :: rest) pos) tg) : DW X W (.BoolOp .Or (a :: b :: rest) pos) (dOrT tf tg) :=
  ⟨PW.imp (pw_or ha.pt hb.pw) fun σ H Q ⟨O, ρ, S, st, h⟩ => ⟨O, ρ, S, st, After.seq h fun d S1 O1 H1 v e1 st1 r1 h1 => by
    subst r1
    cases d with
    | true => exact iteT (After.ok h1 st1 rfl)
    | false => exact iteF ⟨O1, ρ, S1, st1, h1⟩⟩⟩
theorem DW.dt (h : DW X W a tf) : DT X W a tf := ⟨PW.pt h.pw⟩
theorem dt_not (ha : DT X W a tf) : DT X W (.UnaryOp .Not a pos) (dNotT tf) :=
  ⟨PT.imp (pt_not ha.pt) fun σ H Q ⟨O, ρ, S, st, h⟩ => ⟨O, ρ, S, st, After.seq h fun d S1 O1 H1 v e1 st1 r1 h1 => by
    subst r1
    exact After.ok h1 st1 rfl⟩⟩
def dAnd (f g : ME) : ME := fun ρ S => (f ρ S).bind fun d S1 => match d with
  | .bl true => g ρ S1
  | .bl false => .ok (.bl false) S1
  | _ => .bad
def dOr (f g : ME) : ME := fun ρ S => (f ρ S).bind fun d S1 => match d with
  | .bl false => g ρ S1
  | .bl true => .ok (.bl true) S1
  | _ => .bad
def dNot (f : ME) : ME := fun ρ S => (f ρ S).bind fun d S1 => match d with
  | .bl b => .ok (.bl (!b)) S1
  | _ => .bad
theorem de_one {op} (h : DE X W a f) : DE X W (.BoolOp op [a] pos) f := ⟨pe_one h.pe⟩
theorem de_and (ha : DE X W a f) (hb : DE X W (.BoolOp .And (b :: rest) pos) g) : DE X W (.BoolOp .And (a :: b :: rest) pos) (dAnd f g) :=
  ⟨PE.imp (pe_and ha.pe hb.pe) fun σ H Q ⟨O, ρ, S, st, h⟩ => ⟨O, ρ, S, st, After.seq h fun d S1 O1 H1 v e1 st1 r1 h1 => by
    cases d with
    | bl k =>
      cases k with
      | true => exact ⟨true, r1, iteT ⟨O1, ρ, S1, st1, h1⟩⟩
      | false => exact ⟨false, r1, iteF (After.ok h1 st1 rfl)⟩
    | _ => exact h1.elim⟩⟩
theorem de_or (ha : DE X W a f) (hb : DE X W (.BoolOp .Or (b :: rest) pos) g) : DE X W (.BoolOp .Or (a :: b :: rest) pos) (dOr f g) :=
  ⟨PE.imp (pe_or ha.pe hb.pe) fun σ H Q ⟨O, ρ, S, st, h⟩ => ⟨O, ρ, S, st, After.seq h fun d S1 O1 H1 v e1 st1 r1 h1 => by
    cases d with
    | bl k =>
      cases k with
      | true => exact ⟨true, r1, iteT (After.ok h1 st1 rfl)⟩
      | false => exact ⟨false, r1, iteF ⟨O1, ρ, S1, st1, h1⟩⟩
    | _ => exact h1.elim⟩⟩
theorem de_not (ha : DE X W a f) : DE X W (.UnaryOp .Not a pos) (dNot f) :=
  ⟨PE.imp (pe_not ha.pe) fun σ H Q ⟨O, ρ, S, st, h⟩ => ⟨O, ρ, S, st, After.seq h fun d S1 O1 H1 v e1 st1 r1 h1 => by
    cases d with
    | bl k => exact ⟨k, r1, After.ok h1 st1 rfl⟩
    | _ => exact h1.elim⟩⟩
def dIfE (t : MT) (f g : ME) : ME := fun ρ S => (t ρ S).bind fun d S1 => if d = true then f ρ S1 else g ρ S1
theorem de_if (hc : DT X W c tf) (ha : DE X W a f) (hb : DE X W b g) : DE X W (.IfExp c a b pos) (dIfE tf f g) :=
  ⟨PE.imp (pe_ifExp hc.pt ha.pe hb.pe) fun σ H Q ⟨O, ρ, S, st, h⟩ => ⟨O, ρ, S, st, After.seq h fun d S1 O1 H1 v e1 st1 r1 h1 => by
    subst r1
    cases d with
    | true => exact iteT ⟨O1, ρ, S1, st1, h1⟩
    | false => exact iteF ⟨O1, ρ, S1, st1, h1⟩⟩⟩
/-- a < b < c -/
def dChain (o p : D → D → Sto → RE D) (f g h : ME) : ME := fun ρ S => (f ρ S).bind fun x S1 => (g ρ S1).bind fun y S2 => (o x y S2).bind fun d S3 => match d with
  | .bl true => (h ρ S3).bind fun z S4 => p y z S4
  | .bl false => .ok (.bl false) S3
  | _ => .bad
/-! ### arguments -/
variable {es : List Expr} {ta : MA}
def aNil : MA := fun _ S => .ok [] S
def aCons (f : ME) (g : MA) : MA := fun ρ S => (f ρ S).bind fun d S1 => (g ρ S1).bind fun ds S2 => .ok (d :: ds) S2
theorem da_nil : DA X W [] aNil := ⟨PA.imp pa_nil fun σ H Q ⟨O, ρ, S, st, h⟩ => After.ok h st rfl⟩
theorem da_cons (ha : DE X W a f) (hr : DA X W es ta) (hs : starEach (a :: es) X.env = (false, eval a X.env) :: starEach es X.env := by rfl) : DA X W (a :: es) (aCons f ta) :=
  ⟨PA.imp (pa_cons ha.pe hr.pa hs) fun σ H Q ⟨O, ρ, S, st, h⟩ => ⟨O, ρ, S, st, After.seq h fun d S1 O1 H1 v e1 st1 r1 h1 => ⟨O1, ρ, S1, st1, After.seq h1 fun d2 S2 O2 H2 u e2 st2 r2 h2 =>
    After.ok h2 st2 ⟨v, u, rfl, r1.mono (e2.w st1.wf), r2⟩⟩⟩⟩
end
end DE

namespace DE
open PySem L2

/-! ### new objects, objects changed -/
section
variable {K : PySem.W.Frag} {O : Ow} {H : Hp} {ρ : DE.Env} {σ : St} {S : Sto}
theorem upd_there {H : Hp} {p : Addr} {o : HO} (a : Addr) (h : H a ≠ none) : upd H p o a ≠ none := by
  by_cases z : a = p
  · subst z; rw [upd_same]; exact fun z => nomatch z
  · rw [upd_ne z]; exact h
theorem ext_new {p : Addr} {o : HO} (hp : H p = none) : Ext O H O (upd H p o) :=
  ⟨⟨[], by simp, fun _ h => by cases h⟩, ⟨[], by simp, fun _ h => by cases h⟩, fun a u _ h => by rw [upd_ne (ne_of_none h hp)]; exact h, fun a u h => by rw [upd_ne (ne_of_none h hp)]; exact h, upd_there⟩
theorem Stt.no (st : Stt K O H ρ σ S) {p : Addr} (hp : H p = none) : O.no p := ⟨fun z => st.wf.there p (.inl z) hp, fun z => st.wf.there p (.inr z) hp⟩
theorem Stt.new (st : Stt K O H ρ σ S) {p : Addr} {o : HO} (hp : H p = none) : Ext O H O (upd H p o) ∧ Stt K O (upd H p o) ρ σ S := by
  have e : Ext O H O (upd H p o) := ext_new hp
  have nw : ∀ a, a ∈ O.l ∨ a ∈ O.u → a ≠ p := fun a ha z => st.wf.there a ha (z ▸ hp)
  refine ⟨e, ⟨st.wf.nd, st.wf.len, fun k a d h1 h2 => (st.wf.cell k a d h1 h2).mono (e.w st.wf) (upd_ne (nw a (.inl (List.mem_of_getElem? h1)))), fun a ha => ?_⟩, st.env.mono (e.w st.wf)⟩
  rw [upd_ne (nw a (.inr ha))]
  exact st.wf.hid a ha
theorem Stt.newO (st : Stt K O H ρ σ S) {p : Addr} {o : HO} {d : D} (hp : H p = none) (c : Ext O H (O.add p) (upd H p o) → Cell K (O.add p) (upd H p o) p d) : Ext O H (O.add p) (upd H p o) ∧ Stt K (O.add p) (upd H p o) ρ σ (S ++ [d]) := by
  have e0 : Ext O H O (upd H p o) := ext_new hp
  have nw : ∀ a, a ∈ O.l ∨ a ∈ O.u → a ≠ p := fun a ha z => st.wf.there a ha (z ▸ hp)
  have e : Ext O H (O.add p) (upd H p o) := ⟨⟨[p], rfl, fun a h => by rw [List.mem_singleton.mp h]; exact hp⟩, ⟨[], by simp [Ow.add], fun _ h => by cases h⟩, e0.keep, e0.tups, e0.there⟩
  refine ⟨e, ⟨?_, by simp [Ow.add, st.wf.len], fun k a d' h1 h2 => ?_, fun a ha => ?_⟩, st.env.mono (e.w st.wf)⟩
  · show (O.l ++ [p]).Nodup
    rw [List.nodup_append]
    exact ⟨st.wf.nd, by simp, fun a ha b hb => by rw [List.mem_singleton.mp hb]; exact nw a (.inl ha)⟩
  · have h1 : (O.l ++ [p])[k]? = some a := h1
    by_cases hk : k < O.l.length
    · rw [List.getElem?_append_left hk] at h1
      rw [List.getElem?_append_left (by rw [st.wf.len]; exact hk)] at h2
      exact (st.wf.cell k a d' h1 h2).mono (e.w st.wf) (upd_ne (nw a (.inl (List.mem_of_getElem? h1))))
    · have hk' : k = O.l.length := by
        have := (List.getElem?_eq_some_iff.mp h1).1
        simp at this; omega
      subst hk'
      rw [List.getElem?_append_right (Nat.le_refl _)] at h1
      rw [List.getElem?_append_right (Nat.le_of_eq st.wf.len), st.wf.len] at h2
      simp at h1 h2
      subst h1 h2
      exact c e
  · have ha : a ∈ O.u := ha
    rw [upd_ne (nw a (.inr ha))]
    refine ⟨fun z => ?_, (st.wf.hid a ha).2⟩
    rcases List.mem_append.mp (show a ∈ O.l ++ [p] from z) with z | z
    · exact (st.wf.hid a ha).1 z
    · exact nw a (.inr ha) (List.mem_singleton.mp z)
theorem Stt.mut (st : Stt K O H ρ σ S) {k : Nat} {a : Addr} {o : HO} {d : D} (hk : O.l[k]? = some a) (c : Ext O H O (upd H a o) → Cell K O (upd H a o) a d) : Ext O H O (upd H a o) ∧ Stt K O (upd H a o) ρ σ (S.set k d) := by
  have ha := List.mem_of_getElem? hk
  have e : Ext O H O (upd H a o) := ⟨⟨[], by simp, fun _ h => by cases h⟩, ⟨[], by simp, fun _ h => by cases h⟩, fun b u nb h => by rw [upd_ne (show b ≠ a from fun z => nb (z ▸ ha))]; exact h, fun b u h => by rw [upd_ne (show b ≠ a from fun z => st.wf.notup a (.inl ha) u (z ▸ h))]; exact h, upd_there⟩
  refine ⟨e, ⟨st.wf.nd, by simp [st.wf.len], fun j b d' h1 h2 => ?_, fun b hb => ?_⟩, st.env.mono (e.w st.wf)⟩
  · by_cases hj : k = j
    · subst hj
      rw [h1] at hk; cases hk
      rw [List.getElem?_set_self (by rw [st.wf.len]; exact (List.getElem?_eq_some_iff.mp h1).1)] at h2
      cases h2
      exact c e
    · rw [List.getElem?_set_ne hj] at h2
      refine (st.wf.cell j b d' h1 h2).mono (e.w st.wf) (upd_ne fun z => hj ?_)
      subst z
      exact ((List.getElem_inj st.wf.nd).mp ((List.getElem?_eq_some_iff.mp hk).2.trans (List.getElem?_eq_some_iff.mp h1).2.symm))
  · rw [upd_ne (show b ≠ a from fun z => (st.wf.hid b hb).1 (z ▸ ha))]
    exact st.wf.hid b hb
theorem Stt.own (st : Stt K O H ρ σ S) {k : Nat} {d : D} (hs : S[k]? = some d) : ∃ a, O.l[k]? = some a ∧ Cell K O H a d := by
  have hl : k < O.l.length := by rw [← st.wf.len]; exact (List.getElem?_eq_some_iff.mp hs).1
  exact ⟨O.l[k], by simp [hl], st.wf.cell k _ d (by simp [hl]) hs⟩
/-! ### hidden lists -/
theorem solid_lst {xs : List V} : Solid (.lst xs) := ⟨(fun _ z => by cases z), (fun _ _ z => by cases z), (fun _ z => by cases z)⟩
def Ow.hide (O : Ow) (p : Addr) : Ow := ⟨O.l, p :: O.u⟩
/-- a new hidden list -/
theorem Stt.hide (st : Stt K O H ρ σ S) {p : Addr} {xs : List V} (hp : H p = none) : Ext O H (O.hide p) (upd H p (.lst xs)) ∧ Stt K (O.hide p) (upd H p (.lst xs)) ρ σ S := by
  have e0 : Ext O H O (upd H p (.lst xs)) := ext_new hp
  have nw : ∀ a, a ∈ O.l ∨ a ∈ O.u → a ≠ p := fun a ha z => st.wf.there a ha (z ▸ hp)
  have e : Ext O H (O.hide p) (upd H p (.lst xs)) := ⟨⟨[], by simp [Ow.hide], fun _ h => by cases h⟩, ⟨[p], rfl, fun a h => by rw [List.mem_singleton.mp h]; exact hp⟩, e0.keep, e0.tups, e0.there⟩
  refine ⟨e, ⟨st.wf.nd, st.wf.len, fun k a d h1 h2 => (st.wf.cell k a d h1 h2).mono (e.w st.wf) (upd_ne (nw a (.inl (List.mem_of_getElem? h1)))), fun a ha => ?_⟩, st.env.mono (e.w st.wf)⟩
  rcases List.mem_cons.mp (show a ∈ p :: O.u from ha) with z | z
  · subst z
    exact ⟨fun z => nw a (.inl z) rfl, _, upd_same, solid_lst⟩
  · rw [upd_ne (nw a (.inr z))]; exact st.wf.hid a z
/-- a hidden list changes -/
theorem extW_hid (w : WF K O H S) {p : Addr} {xs : List V} (hp : p ∈ O.u) : ExtW O H O (upd H p (.lst xs)) :=
  ⟨fun _ _ h => h, fun _ _ n _ => n, fun a o n h => by rw [upd_ne (show a ≠ p from fun z => n.2 (z ▸ hp))]; exact h, fun a u h => by rw [upd_ne (show a ≠ p from fun z => w.notup p (.inr hp) u (z ▸ h))]; exact h, fun a o u h => by rw [upd_ne (show a ≠ p from fun z => w.nofrz p (.inr hp) o u (z ▸ h))]; exact h⟩
theorem Stt.hid (st : Stt K O H ρ σ S) {p : Addr} {xs : List V} (hp : p ∈ O.u) : Stt K O (upd H p (.lst xs)) ρ σ S := by
  have e := extW_hid (xs := xs) st.wf hp
  refine ⟨⟨st.wf.nd, st.wf.len, fun k a d h1 h2 => (st.wf.cell k a d h1 h2).mono e (upd_ne fun z => (st.wf.hid p hp).1 (z ▸ List.mem_of_getElem? h1)), fun a ha => ?_⟩, st.env.mono e⟩
  by_cases z : a = p
  · subst z; exact ⟨(st.wf.hid a ha).1, _, upd_same, solid_lst⟩
  · rw [upd_ne z]; exact st.wf.hid a ha
/-- nothing is hidden any more -/
theorem extW_bare {u : List Addr} (hu : ∀ a ∈ u, a ∈ O.u) : ExtW O H ⟨O.l, u⟩ H := ⟨fun _ _ h => h, fun _ _ n _ => ⟨n.1, fun z => n.2 (hu _ z)⟩, fun _ _ _ h => h, fun _ _ h => h, fun _ _ _ h => h⟩
theorem Stt.bare (st : Stt K O H ρ σ S) {u : List Addr} (hu : ∀ a ∈ u, a ∈ O.u) : Stt K ⟨O.l, u⟩ H ρ σ S :=
  ⟨⟨st.wf.nd, st.wf.len, fun k a d h1 h2 => (st.wf.cell k a d h1 h2).mono (extW_bare hu) rfl, fun a ha => st.wf.hid a (hu a ha)⟩, st.env.mono (extW_bare hu)⟩
end

def cap : Nat := 100000
theorem cap_line {n : Nat} (h : n ≤ cap) : n ≤ sizeLine := Nat.le_trans h (by decide)
theorem cap_lt {n : Nat} (h : n < cap) : n < sizeLine := Nat.lt_of_lt_of_le h (by decide)

section
variable {X : Cx} {W : WX} {a b c : Expr} {f g h : ME} {pos : Pos} {es : List Expr} {fa : MA}
/-! ### displays -/
def dTup (f : MA) : ME := fun ρ S => (f ρ S).bind fun ds S1 => if ds.length ≤ cap then .ok (.tup ds) S1 else .bad
def dLst (f : MA) : ME := fun ρ S => (f ρ S).bind fun ds S1 => if ds.length ≤ cap then .ok (.lst ds) S1 else .bad
/-- a new list that will change -/
def dLstO (f : MA) : ME := fun ρ S => (f ρ S).bind fun ds S1 => if ds.length ≤ cap then .ok (.own S1.length) (S1 ++ [.lst ds]) else .bad
theorem de_tup {x1} (h : DA X W es fa) : DE X W (.Tuple es x1 pos) (dTup fa) := ⟨PE.imp (pe_tup h.pa) fun σ H Q ⟨O, ρ, S, st, h⟩ => ⟨O, ρ, S, st, After.seq h fun ds S1 O1 H1 vs e1 st1 r1 h1 => by
  by_cases hl : ds.length ≤ cap
  · simp only [hl, if_true] at h1
    refine ⟨by rw [← r1.length]; exact cap_line hl, fun p hp => ?_⟩
    obtain ⟨e2, st2⟩ := st1.new (o := .tup vs) hp
    exact h1 O1 _ _ e2 st2 ⟨p, vs, rfl, .inl upd_same, r1.mono (e2.w st1.wf)⟩
  · simp only [hl, if_false] at h1; exact h1.elim⟩⟩
theorem de_lst (h : DA X W es fa) : DE X W (.List es pos) (dLst fa) := ⟨PE.imp (pe_lst h.pa) fun σ H Q ⟨O, ρ, S, st, h⟩ => ⟨O, ρ, S, st, After.seq h fun ds S1 O1 H1 vs e1 st1 r1 h1 => by
  by_cases hl : ds.length ≤ cap
  · simp only [hl, if_true] at h1
    refine ⟨by rw [← r1.length]; exact cap_line hl, fun p hp => ?_⟩
    obtain ⟨e2, st2⟩ := st1.new (o := .lst vs) hp
    exact h1 O1 _ _ e2 st2 ⟨p, vs, rfl, st1.no hp, upd_same, r1.mono (e2.w st1.wf)⟩
  · simp only [hl, if_false] at h1; exact h1.elim⟩⟩
theorem getElem?_snoc {α : Type} (l : List α) (x : α) : (l ++ [x])[l.length]? = some x := by simp
theorem de_lstO (h : DA X W es fa) : DE X W (.List es pos) (dLstO fa) := ⟨PE.imp (pe_lst h.pa) fun σ H Q ⟨O, ρ, S, st, h⟩ => ⟨O, ρ, S, st, After.seq h fun ds S1 O1 H1 vs e1 st1 r1 h1 => by
  by_cases hl : ds.length ≤ cap
  · simp only [hl, if_true] at h1
    refine ⟨by rw [← r1.length]; exact cap_line hl, fun p hp => ?_⟩
    obtain ⟨e2, st2⟩ := st1.newO (o := .lst vs) (d := .lst ds) hp fun e => ⟨vs, upd_same, r1.mono (e.w st1.wf)⟩
    exact h1 _ _ _ e2 st2 ⟨p, by rw [st1.wf.len]; exact getElem?_snoc _ _, rfl⟩
  · simp only [hl, if_false] at h1; exact h1.elim⟩⟩
end

/-! ### statements -/
def AfterS (K : PySem.W.Frag) (W : WX) (D' : Ends) (O : Ow) (H : Hp) : RS → Prop
  | .nx ρ' S' => ∀ O' H' σ', Ext O H O' H' → Stt K O' H' ρ' σ' S' → D'.nx σ' H'
  | .bk ρ' S' => ∀ O' H' σ', Ext O H O' H' → Stt K O' H' ρ' σ' S' → D'.bk σ' H'
  | .ct ρ' S' => ∀ O' H' σ', Ext O H O' H' → Stt K O' H' ρ' σ' S' → D'.ct σ' H'
  | .rt d S' => ∀ O' H' v, Ext O H O' H' → WF K O' H' S' → Rep K O' H' d v → D'.rt v H'
  | .exc x ρ' S' => ∀ O' H' σ' cls dx, Ext O H O' H' → Stt K O' H' ρ' σ' S' → RepX K O' H' x cls dx → W cls dx σ' H'
  | .bad => False
def RE.stm {α : Type} (r : RE α) (ρ : DE.Env) (k : α → Sto → RS) : RS := match r with
  | .ok a S => k a S
  | .exc x S => .exc x ρ S
  | .bad => .bad
@[simp] theorem RE.stm_ok {α : Type} (a : α) (S : Sto) (ρ : DE.Env) (k : α → Sto → RS) : (RE.ok a S).stm ρ k = k a S := id rfl
@[simp] theorem RE.stm_exc {α : Type} (x : Exc) (S : Sto) (ρ : DE.Env) (k : α → Sto → RS) : (RE.exc x S).stm ρ k = .exc x ρ S := id rfl
@[simp] theorem RE.stm_bad {α : Type} (ρ : DE.Env) (k : α → Sto → RS) : (RE.bad : RE α).stm ρ k = .bad := id rfl
section
variable {K : PySem.W.Frag} {W : WX} {D' : Ends} {ρ : DE.Env} {σ : St} {O O' : Ow} {H H' : Hp} {S : Sto} {α β : Type}
theorem AfterS.mono {r : RS} (h : AfterS K W D' O H r) (e : Ext O H O' H') : AfterS K W D' O' H' r := by
  cases r with
  | nx ρ' S' => exact fun O2 H2 σ' e2 st => h O2 H2 σ' (e.trans e2) st
  | bk ρ' S' => exact fun O2 H2 σ' e2 st => h O2 H2 σ' (e.trans e2) st
  | ct ρ' S' => exact fun O2 H2 σ' e2 st => h O2 H2 σ' (e.trans e2) st
  | rt d S' => exact fun O2 H2 v e2 w r => h O2 H2 v (e.trans e2) w r
  | exc x ρ' S' => exact fun O2 H2 σ' cls dx e2 st rl => h O2 H2 σ' cls dx (e.trans e2) st rl
  | bad => exact h
theorem AfterS.seqE {Rl : Ow → Hp → α → β → Prop} {Q1 : β → Hp → Prop} {r : RE α} {k : α → Sto → RS} (h : AfterS K W D' O H (r.stm ρ k))
    (kk : ∀ d S1 O1 H1 v, Ext O H O1 H1 → Stt K O1 H1 ρ σ S1 → Rl O1 H1 d v → AfterS K W D' O1 H1 (k d S1) → Q1 v H1) : After K W Rl ρ σ O H Q1 r := by
  cases r with
  | ok d S' => exact fun O1 H1 v e st rl => kk d S' O1 H1 v e st rl (AfterS.mono h e)
  | exc x S' => exact fun O2 H2 cls dx e2 st rl => h O2 H2 σ cls dx e2 st rl
  | bad => exact h.elim
end
def tS (K : PySem.W.Frag) (W : WX) (f : MS) : TS := fun D' σ H => ∃ O ρ S, Stt K O H ρ σ S ∧ AfterS K W D' O H (f ρ S)
structure DS (X : Cx) (W : WX) (s : Stmt) (f : MS) : Prop where
  ps : PS X s (tS X.K W f)
structure DSs (X : Cx) (W : WX) (s : List Stmt) (f : MS) : Prop where
  pss : PSs X s (tS X.K W f)
section
variable {X : Cx} {W : WX} {a b c : Expr} {f g h : ME} {pos : Pos} {s : Stmt} {ss : List Stmt} {F G : MS} {tf : MT}
def sNil : MS := fun ρ S => .nx ρ S
def sSeq (f g : MS) : MS := fun ρ S => match f ρ S with
  | .nx ρ1 S1 => g ρ1 S1
  | r => r
theorem AfterS.of_seq {K : PySem.W.Frag} {D' : Ends} {O : Ow} {H : Hp} {r : RS} {g : MS} (h : AfterS K W D' O H (match r with | .nx ρ1 S1 => g ρ1 S1 | r => r)) : AfterS K W { D' with nx := tS K W g D' } O H r := by
  cases r with
  | nx ρ1 S1 => exact fun O' H' σ' e st => ⟨O', ρ1, S1, st, AfterS.mono h e⟩
  | bk ρ1 S1 => exact h
  | ct ρ1 S1 => exact h
  | rt d S1 => exact h
  | exc x ρ1 S1 => exact h
  | bad => exact h
theorem dss_nil : DSs X W [] sNil := ⟨PSs.imp pss_nil fun D' σ H ⟨O, ρ, S, st, h⟩ => h O H σ .refl st⟩
theorem dss_one (h : DS X W s F) : DSs X W [s] F := ⟨pss_one h.ps⟩
theorem dss_cons (h1 : DS X W s F) (h2 : DSs X W ss G) : DSs X W (s :: ss) (sSeq F G) := ⟨PSs.imp (pss_cons h1.ps h2.pss) fun D' σ H ⟨O, ρ, S, st, h⟩ => ⟨O, ρ, S, st, AfterS.of_seq h⟩⟩
theorem ds_pass : DS X W (.Pass pos) sNil := ⟨PS.imp ps_pass fun D' σ H ⟨O, ρ, S, st, h⟩ => h O H σ .refl st⟩
def sBreak : MS := fun ρ S => .bk ρ S
def sCont : MS := fun ρ S => .ct ρ S
theorem ds_break : DS X W (.Break pos) sBreak := ⟨PS.imp ps_break fun D' σ H ⟨O, ρ, S, st, h⟩ => h O H σ .refl st⟩
theorem ds_continue : DS X W (.Continue pos) sCont := ⟨PS.imp ps_continue fun D' σ H ⟨O, ρ, S, st, h⟩ => h O H σ .refl st⟩
theorem ds_doc {x j pos'} : DS X W (.Expr (.Constant (.str x) j pos) pos') sNil := ⟨PS.imp ps_doc fun D' σ H ⟨O, ρ, S, st, h⟩ => h O H σ .refl st⟩
def sExpr (f : ME) : MS := fun ρ S => (f ρ S).stm ρ fun _ S1 => .nx ρ S1
theorem ds_expr (h : DE X W a f) (hs : swapsWith a none pos.line X.env = pure false := by rfl) : DS X W (.Expr a pos) (sExpr f) :=
  ⟨PS.imp (ps_expr h.pe hs) fun D' σ H ⟨O, ρ, S, st, h⟩ => ⟨O, ρ, S, st, AfterS.seqE h fun d S1 O1 H1 v e1 st1 r1 h1 => h1 O1 H1 σ .refl st1⟩⟩
def sRet (f : ME) : MS := fun ρ S => (f ρ S).stm ρ fun d S1 => .rt d S1
theorem ds_ret (h : DE X W a f) : DS X W (.Return (some a) pos) (sRet f) :=
  ⟨PS.imp (ps_ret h.pe) fun D' σ H ⟨O, ρ, S, st, h⟩ => ⟨O, ρ, S, st, AfterS.seqE h fun d S1 O1 H1 v e1 st1 r1 h1 => h1 O1 H1 v .refl st1.wf r1⟩⟩
def sRetN : MS := fun _ S => .rt .non S
theorem ds_retN : DS X W (.Return none pos) sRetN := ⟨PS.imp ps_retN fun D' σ H ⟨O, ρ, S, st, h⟩ => h O H .non .refl st.wf rfl⟩
def sIf (t : MT) (f g : MS) : MS := fun ρ S => (t ρ S).stm ρ fun b S1 => if b = true then f ρ S1 else g ρ S1
theorem ds_if {xs ys : List Stmt} (hc : DT X W c tf) (ha : DSs X W xs F) (hb : DSs X W ys G) : DS X W (.If c xs ys pos) (sIf tf F G) :=
  ⟨PS.imp (ps_if hc.pt ha.pss hb.pss) fun D' σ H ⟨O, ρ, S, st, h⟩ => ⟨O, ρ, S, st, AfterS.seqE h fun d S1 O1 H1 v e1 st1 r1 h1 => by
    subst r1
    cases d with
    | true => exact iteT ⟨O1, ρ, S1, st1, h1⟩
    | false => exact iteF ⟨O1, ρ, S1, st1, h1⟩⟩⟩
/-! ### targets -/
abbrev MG := D → DE.Env → Option DE.Env
abbrev MGs := List D → DE.Env → Option DE.Env
theorem wipe_set {σ : St} {i : Nat} {x : Option V} : ∀ {vs : List Nat}, i ∈ vs → wipe (σ.set i x) vs = wipe σ vs
  | v :: vs, h => by
    unfold wipe
    by_cases e : i = v
    · subst e
      by_cases hi : i ∈ vs
      · rw [wipe_set hi]
      · have : ∀ vs : List Nat, wipe (σ.set i x) vs = (wipe σ vs).set i (if i ∈ vs then none else x) ∨ wipe (σ.set i x) vs = wipe σ vs := by
          intro vs
          induction vs with
          | nil => left; simp [wipe]
          | cons u us ih =>
            unfold wipe
            rcases ih with ih | ih
            · rw [ih]
              by_cases e : i = u
              · subst e; right; rw [List.set_set]
              · left
                rw [List.set_comm _ _ e]
                congr 1
                simp [e]
            · right; rw [ih]
        rcases this vs with q | q
        · rw [q, List.set_set]
        · rw [q]
    · have hi : i ∈ vs := by
        rcases List.mem_cons.mp h with z | z
        · exact absurd z e
        · exact z
      rw [wipe_set hi]
/-- is: the slots that the target stores -/
def Only1 (is : List Nat) (σ σ' : St) : Prop := ∀ vs : List Nat, (∀ i ∈ is, i ∈ vs) → wipe σ' vs = wipe σ vs
def tG (K : PySem.W.Frag) (is : List Nat) (g : MG) : TG := fun v σ H Q => ∃ O ρ S d ρ', Stt K O H ρ σ S ∧ Rep K O H d v ∧ g d ρ = some ρ' ∧ ∀ σ', Stt K O H ρ' σ' S → Only1 is σ σ' → Q σ' H
def tGs (K : PySem.W.Frag) (is : List Nat) (g : MGs) : TGs := fun v σ H Q => ∃ O ρ S d ρ', Stt K O H ρ σ S ∧ Reps K O H d v ∧ g d ρ = some ρ' ∧ ∀ σ', Stt K O H ρ' σ' S → Only1 is σ σ' → Q σ' H
structure DG (X : Cx) (t : Expr) (is : List Nat) (g : MG) : Prop where
  pg : PG X t (tG X.K is g)
structure DGs (X : Cx) (t : List Expr) (is : List Nat) (g : MGs) : Prop where
  pgs : PGs X t (tGs X.K is g)
theorem PG.imp {X : Cx} {e : Expr} {t t' : TG} (h : PG X e t) (k : ∀ v σ H Q, t' v σ H Q → t v σ H Q) : PG X e t' := ⟨fun pins s σ H v u Q I r q => h.run pins s σ H v u Q I r (k _ _ _ _ q)⟩
theorem PGs.imp {X : Cx} {e : List Expr} {t t' : TGs} (h : PGs X e t) (k : ∀ v σ H Q, t' v σ H Q → t v σ H Q) : PGs X e t' := ⟨fun pins s σ H v u Q I r q => h.run pins s σ H v u Q I r (k _ _ _ _ q)⟩
def gN (i : Nat) : MG := fun d ρ => some (ρ.set i (some d))
theorem dg_name (i : Nat) {x : Str} (hN : X.N.Nodup) (hi : X.N[i]? = some x) (hx : Loc X.env.scope x) (hf : X.fn x = true ∨ X.env.scope.names.lookup x = some .local := by first | exact .inl rfl | exact .inr rfl | assumption) : DG X (.Name x pos) [i] (gN i) :=
  ⟨PG.imp (pg_name hN hi hx hf) fun v σ H Q ⟨O, ρ, S, d, ρ', st, r, e, k⟩ => by
    cases e
    exact k _ ⟨st.wf, st.env.set r i⟩ fun vs hv => wipe_set (hv i (by simp))⟩
def gsNil : MGs := fun ds ρ => match ds with
  | [] => some ρ
  | _ => none
def gsCons (g : MG) (h : MGs) : MGs := fun ds ρ => match ds with
  | d :: r => (g d ρ).bind (h r)
  | _ => none
end
end DE

namespace DE
open PySem PySem.Spec PyProof.Rows L2
section
variable {X : Cx} {W : WX} {a b c : Expr} {f g h : ME} {pos : Pos} {s : Stmt} {ss : List Stmt} {F G : MS} {tf : MT}
theorem dgs_nil : DGs X [] [] gsNil := ⟨PGs.imp pgs_nil fun v σ H Q ⟨O, ρ, S, d, ρ', st, r, e, k⟩ => by
  cases d with
  | nil =>
    cases r
    cases e
    exact ⟨rfl, k _ st fun _ _ => rfl⟩
  | cons _ _ => cases e⟩
theorem dgs_cons {e : Expr} {es : List Expr} {is js : List Nat} {g1 : MG} {g2 : MGs} (h1 : DG X e is g1) (h2 : DGs X es js g2)
    (hs : (assignEach (e :: es) X.env).map (·.2) = assign e X.env :: (assignEach es X.env).map (·.2) := by rfl) : DGs X (e :: es) (is ++ js) (gsCons g1 g2) :=
  ⟨PGs.imp (pgs_cons h1.pg h2.pgs hs) fun v σ H Q ⟨O, ρ, S, d, ρ', st, r, e, k⟩ => by
    cases d with
    | nil => cases e
    | cons d ds =>
      obtain ⟨v, vr, rfl, r1, r2⟩ := r
      have e' : (g1 d ρ).bind (g2 ds) = some ρ' := e
      cases q : g1 d ρ with
      | none => rw [q] at e'; cases e'
      | some ρ1 =>
        rw [q] at e'
        exact ⟨v, vr, rfl, O, ρ, S, d, ρ1, st, r1, q, fun σ1 st1 w1 => ⟨O, ρ1, S, ds, ρ', st1, r2, e', fun σ2 st2 w2 => k σ2 st2 fun vs hv => (w2 vs fun i hi => hv i (List.mem_append_right _ hi)).trans (w1 vs fun i hi => hv i (List.mem_append_left _ hi))⟩⟩⟩
def gT (n : Nat) (g : MGs) : MG := fun d ρ => match d with
  | .tup ds => if ds.length = n then g ds ρ else none
  | _ => none
theorem dg_tup {es : List Expr} {k : Nat} {is : List Nat} {g1 : MGs} {n : Nat} (hc : X.calm = true) (h : DGs X es is g1)
    (hn : (assignEach es X.env).length = n := by rfl) (hst : (assignEach es X.env).findIdx? (·.1) = none := by rfl) : DG X (.Tuple es k pos) is (gT n g1) :=
  ⟨PG.imp (pg_tup hc h.pgs hn hst) fun v σ H Q ⟨O, ρ, S, d, ρ', st, r, e, k⟩ => by
    cases d with
    | tup ds =>
      obtain ⟨a, xs, rfl, h1, h2⟩ := r
      by_cases hl : ds.length = n
      · have e' : (if ds.length = n then g1 ds ρ else none) = some ρ' := e
        rw [if_pos hl] at e'
        exact ⟨a, xs, rfl, sqT_of h1, h2.length ▸ hl, O, ρ, S, ds, ρ', st, h2, e', k⟩
      · have e' : (if ds.length = n then g1 ds ρ else none) = some ρ' := e
        rw [if_neg hl] at e'; cases e'
    | _ => cases e⟩
def sAsg (f : ME) (g : MG) : MS := fun ρ S => (f ρ S).stm ρ fun d S1 => match g d ρ with
  | some ρ1 => .nx ρ1 S1
  | none => .bad
theorem asg_imp {is : List Nat} {g1 : MG} {D' : Ends} {σ : L2.St} {H : Hp} (h : tS X.K W (sAsg f g1) D' σ H) : tAsg (tE X.K W f) (tG X.K is g1) D' σ H := by
  obtain ⟨O, ρ, S, st, h⟩ := h
  refine ⟨O, ρ, S, st, AfterS.seqE h fun d S1 O1 H1 v e1 st1 r1 h1 => ?_⟩
  cases q : g1 d ρ with
  | none => rw [q] at h1; exact h1.elim
  | some ρ1 =>
    rw [q] at h1
    exact ⟨O1, ρ, S1, d, ρ1, st1, r1, q, fun σ' st' _ => h1 O1 H1 σ' .refl st'⟩
theorem ds_asg {tg : Expr} {is : List Nat} {g1 : MG} (he : DE X W a f) (hg : DG X tg is g1) (hs : swapsWithSole [tg] a pos.line X.env = pure false := by rfl) (hw : swappedStores [tg] a X.env = pure none := by rfl) (h1 : (assignEach [tg] X.env).map (·.2) = [assign tg X.env] := by rfl) : DS X W (.Assign [tg] a pos) (sAsg f g1) :=
  ⟨PS.imp (ps_asg he.pe hg.pg hs hw h1) fun _ _ _ h => asg_imp h⟩
theorem ds_set (i : Nat) {x : Str} {pos' : Pos} (hN : X.N.Nodup) (hi : X.N[i]? = some x) (hx : Loc X.env.scope x) (he : DE X W a f) (hs : swapsWith a (some (.Name x pos')) pos.line X.env = pure false := by rfl) (hf : X.fn x = true ∨ X.env.scope.names.lookup x = some .local := by first | exact .inl rfl | exact .inr rfl | assumption) :
    DS X W (.Assign [.Name x pos'] a pos) (sAsg f (gN i)) :=
  ⟨PS.imp (ps_set hN hi hx he.pe hs hf) fun D' σ H ⟨O, ρ, S, st, h⟩ => ⟨O, ρ, S, st, AfterS.seqE h fun d S1 O1 H1 v e1 st1 r1 h1 => h1 O1 H1 _ .refl ⟨st1.wf, st1.env.set r1 i⟩⟩⟩
/-! ### what is walked -/
def Walks (K : PySem.W.Frag) (O : Ow) (H : Hp) (ds : List D) (J : It) : Prop :=
  ∀ O' H' S ρ σ, Ext O H O' H' → Stt K O' H' ρ σ S → ∀ i, (∀ d, ds[i]? = some d → J.go i H' ∧ ∀ x H'', J.yld i H' x H'' → Ext O' H' O' H'' ∧ (∀ ρ' σ' S', Stt K O' H' ρ' σ' S' → Stt K O' H'' ρ' σ' S') ∧ Rep K O' H'' d x) ∧ (i = ds.length → J.stop i H')
def tI (K : PySem.W.Frag) (W : WX) (f : MA) : TI := fun σ H R => ∃ O ρ S, Stt K O H ρ σ S ∧ After K W (Walks K) ρ σ O H R (f ρ S)
structure DI (X : Cx) (W : WX) (tg e : Expr) (f : MA) : Prop where
  pi : PI X tg e (tI X.K W f)
theorem PI.imp {X : Cx} {tg e : Expr} {t t' : TI} (h : PI X tg e t) (k : ∀ σ H Q, t' σ H Q → t σ H Q) : PI X tg e t' := ⟨fun pins s σ H Q I q => h.run pins s σ H Q I (k σ H Q q)⟩
theorem Walks.same {K : PySem.W.Frag} {O : Ow} {H H' : Hp} (e : H' = H) : Ext O H O H' ∧ (∀ ρ' σ' S', Stt K O H ρ' σ' S' → Stt K O H' ρ' σ' S') := by
  subst e; exact ⟨.refl, fun _ _ _ h => h⟩
theorem walks_list {K : PySem.W.Frag} {O : Ow} {H : Hp} {ds : List D} {xs : List V} {a : Addr} (h1 : (O.no a ∧ Rd H a (.lst xs)) ∨ WrL K a xs) (h2 : Reps K O H ds xs) {S0 : Sto} (w0 : WF K O H S0)
    : Walks K O H ds (Itl K a) := by
  intro O' H' S ρ σ e st i
  have hs : SqL K H' a xs := by
    rcases h1 with ⟨n, h1⟩ | h1
    · exact .inl ((e.w w0).rd n h1).2
    · rcases h1 with h1 | h1
      · rcases h1 with h1 | ⟨_, h1⟩ <;> cases h1
      · exact .inr h1
  have r := h2.mono (e.w w0)
  refine ⟨fun d hd => ?_, fun hi => ?_⟩
  · obtain ⟨v, hv, rv⟩ := r.get hd
    refine ⟨⟨xs, v, hs, hv⟩, fun x H'' y => ?_⟩
    obtain ⟨eH, y⟩ := y
    obtain ⟨e1, e2⟩ := Walks.same (K := K) (O := O') eH
    subst eH
    have := y xs hs
    rw [hv] at this
    cases this
    exact ⟨e1, e2, rv⟩
  · exact ⟨xs, hs, by rw [hi, r.length]; exact Nat.le_refl _⟩

theorem walks_tup {K : PySem.W.Frag} {O : Ow} {H : Hp} {ds : List D} {xs : List V} {a : Addr} (h1 : SqT K H a xs) (h2 : Reps K O H ds xs) {S0 : Sto} (w0 : WF K O H S0) : Walks K O H ds (Itt K a) := by
  intro O' H' S ρ σ e st i
  have hs : SqT K H' a xs := (e.w w0).sqT h1
  have r := h2.mono (e.w w0)
  refine ⟨fun d hd => ?_, fun hi => ?_⟩
  · obtain ⟨v, hv, rv⟩ := r.get hd
    refine ⟨⟨xs, v, hs, hv⟩, fun x H'' y => ?_⟩
    obtain ⟨eH, y⟩ := y
    obtain ⟨e1, e2⟩ := Walks.same (K := K) (O := O') eH
    subst eH
    have := y xs hs
    rw [hv] at this
    cases this
    exact ⟨e1, e2, rv⟩
  · exact ⟨xs, hs, by rw [hi, r.length]; exact Nat.le_refl _⟩
def dSigns (s : Str) : List D := s.cps.toList.map fun c => .str ⟨#[c]⟩
theorem walks_str {K : PySem.W.Frag} {O : Ow} {H : Hp} {s : Str} : Walks K O H (dSigns s) (Its s) := by
  intro O' H' S ρ σ e st i
  refine ⟨fun d hd => ?_, fun hi => ?_⟩
  · have hl : i < s.cps.size := by
      have := (List.getElem?_eq_some_iff.mp hd).1
      simpa [dSigns] using this
    refine ⟨hl, fun x H'' y => ?_⟩
    obtain ⟨eH, c, hc, rfl⟩ := y
    obtain ⟨e1, e2⟩ := Walks.same (K := K) (O := O') eH
    refine ⟨e1, e2, ?_⟩
    unfold dSigns at hd
    rw [List.getElem?_map, Array.getElem?_toList, hc] at hd
    cases hd
    rfl
  · show s.cps.size ≤ i
    rw [hi]; simp [dSigns]
def rangeD (lo : Int) (n : Nat) : List D := (List.range n).map fun (i : Nat) => .int (lo + (i : Int))
theorem walks_range {K : PySem.W.Frag} {O : Ow} {H : Hp} {lo : Int} {n : Nat} : Walks K O H (rangeD lo n) (Itr lo n) := by
  intro O' H' S ρ σ e st i
  refine ⟨fun d hd => ?_, fun hi => ?_⟩
  · have hl : i < n := by
      have := (List.getElem?_eq_some_iff.mp hd).1
      simpa [rangeD] using this
    refine ⟨hl, fun x H'' y => ?_⟩
    obtain ⟨eH, rfl⟩ := y
    obtain ⟨e1, e2⟩ := Walks.same (K := K) (O := O') eH
    refine ⟨e1, e2, ?_⟩
    unfold rangeD at hd
    rw [List.getElem?_map, List.getElem?_range hl] at hd
    cases hd
    rfl
  · show n ≤ i
    rw [hi]; simp [rangeD]
/-- a list, a tuple, a text: by what the value turns out to be -/
def iAny (K : PySem.W.Frag) (te : TE) : TI := fun σ H R => te σ H fun v H1 => (∃ a, v = .ref a ∧ (∃ xs, SqL K H1 a xs) ∧ R (Itl K a) H1) ∨ (∃ a, v = .ref a ∧ (∃ xs, SqT K H1 a xs) ∧ R (Itt K a) H1) ∨ ∃ x, v = .str x ∧ R (Its x) H1
theorem pi_any {tg e : Expr} {te : TE} (he : PE X e te) : PI X tg e (iAny X.K te) := by
  refine ⟨fun pins s σ H R I h => ?_⟩
  refine thn (he.run pins s σ H _ I h) fun v s1 ⟨x, H1, I1, r1, q1⟩ => ?_
  rcases q1 with q1 | q1 | q1
  · obtain ⟨a, e, ⟨xs, hq⟩, q⟩ := q1
    subst e
    cases r1
    obtain ⟨its, rv, p, hz⟩ := I1.list hq
    refine wpAny_pyIter_list p.isList ?_
    refine ⟨s1.heap.objs.size, [s1.heap.objs.size], _, _, H1, rfl, I1.kept (t' := s1.toks) fun b o e => Heap.get?_push_of_some _ e, turn_list a _, ⟨_, Heap.get?_push_size _ rfl, rfl, rfl⟩, fun b hb => ?_, q⟩
    have e : b = s1.heap.objs.size := by simpa using hb
    subst e
    exact I1.fpOk (Nat.le_refl _) (I1.hok.fresh (Nat.le_refl _))
  · obtain ⟨a, e, ⟨xs, hq⟩, q⟩ := q1
    subst e
    cases r1
    obtain ⟨its, rv, p, hz⟩ := I1.tuple hq
    refine wpAny_pyIter_tuple (show s1.heap.IsTuple a its.toArray from p) ?_
    refine ⟨s1.heap.objs.size, [s1.heap.objs.size], _, _, H1, rfl, I1.kept (t' := s1.toks) fun b o e => Heap.get?_push_of_some _ e, turn_tuple a _, ⟨_, Heap.get?_push_size _ rfl, rfl, rfl⟩, fun b hb => ?_, q⟩
    have e : b = s1.heap.objs.size := by simpa using hb
    subst e
    exact I1.fpOk (Nat.le_refl _) (I1.hok.fresh (Nat.le_refl _))
  · obtain ⟨y, ex, q⟩ := q1
    subst ex
    obtain ⟨t, rfl⟩ := r1
    cases ha : y.cps.all (· < 128)
    · exact wpAny_pyIter_wide ha (pi_one (tk := s1.toks) I1 _ (turn_str _ y t "str_iterator" (.inr rfl)) ⟨_, Heap.get?_push_size _ rfl, rfl, rfl⟩ q)
    · exact wpAny_pyIter_ascii ha (pi_one (tk := s1.toks) I1 _ (turn_str _ y t "str_ascii_iterator" (.inl rfl)) ⟨_, Heap.get?_push_size _ rfl, rfl, rfl⟩ q)
def itemsOf : D → Option (List D)
  | .lst ds => some ds
  | .scr ds => some ds
  | .tup ds => some ds
  | .str s => some (dSigns s)
  | _ => none
def iOf (f : ME) : MA := fun ρ S => (f ρ S).bind fun d S1 => match itemsOf d with
  | some ds => .ok ds S1
  | none => .bad
theorem di_any {tg : Expr} (ha : DE X W a f) : DI X W tg a (iOf f) := ⟨PI.imp (pi_any ha.pe) fun σ H R ⟨O, ρ, S, st, h⟩ => ⟨O, ρ, S, st, After.seq h fun d S1 O1 H1 v e1 st1 r1 h1 => by
  cases d with
  | lst ds =>
    obtain ⟨p, xs, rfl, h1', h2, h3⟩ := r1
    exact .inl ⟨p, rfl, ⟨xs, .inl (.inl h2)⟩, After.ok h1 st1 (walks_list (.inl ⟨h1', .inl h2⟩) h3 st1.wf)⟩
  | scr ds =>
    obtain ⟨p, xs, rfl, h2, h3⟩ := r1
    refine .inl ⟨p, rfl, ⟨xs, ?_⟩, After.ok h1 st1 (walks_list h2 h3 st1.wf)⟩
    rcases h2 with ⟨_, h2⟩ | h2
    · exact .inl h2
    · rcases h2 with h2 | h2
      · rcases h2 with h2 | ⟨_, h2⟩ <;> cases h2
      · exact .inr h2
  | tup ds =>
    obtain ⟨p, xs, rfl, h2, h3⟩ := r1
    exact .inr (.inl ⟨p, rfl, ⟨xs, sqT_of h2⟩, After.ok h1 st1 (walks_tup (sqT_of h2) h3 st1.wf)⟩)
  | str s => exact .inr (.inr ⟨s, r1, After.ok h1 st1 walks_str⟩)
  | _ => exact h1.elim⟩⟩
def iR1 (f : MA) : MA := fun ρ S => (f ρ S).bind fun ds S1 => match ds with
  | [.int n] => if -(2 ^ 62) ≤ n ∧ n < 2 ^ 62 then .ok (rangeD 0 n.toNat) S1 else .bad
  | _ => .bad
def iR2 (f : MA) : MA := fun ρ S => (f ρ S).bind fun ds S1 => match ds with
  | [.int m, .int n] => if -(2 ^ 62) ≤ m ∧ m < 2 ^ 62 ∧ -(2 ^ 62) ≤ n ∧ n < 2 ^ 62 then .ok (rangeD m (n - m).toNat) S1 else .bad
  | _ => .bad
theorem Reps.one {K : PySem.W.Frag} {O H} {d : D} {vs : List V} (h : Reps K O H [d] vs) : ∃ v, vs = [v] ∧ Rep K O H d v := by
  obtain ⟨v, r, rfl, h1, h2⟩ := h
  cases h2
  exact ⟨v, rfl, h1⟩
theorem Reps.two {K : PySem.W.Frag} {O H} {d e : D} {vs : List V} (h : Reps K O H [d, e] vs) : ∃ v u, vs = [v, u] ∧ Rep K O H d v ∧ Rep K O H e u := by
  obtain ⟨v, r, rfl, h1, h2⟩ := h
  obtain ⟨u, rfl, h3⟩ := h2.one
  exact ⟨v, u, rfl, h1, h3⟩
theorem di_range1 {tg : Expr} {p : Pos} {fa : MA} (hg : Gl X "range") (hm : X.mg "range" = none) (ha : DA X W [a] fa) (hs : starEach [a] X.env = [(false, eval a X.env)] := by rfl) : DI X W tg (.Call (.Name "range" p) [a] [] pos) (iR1 fa) :=
  ⟨PI.imp (pi_range1 hg hm ha.pa hs) fun σ H R ⟨O, ρ, S, st, h⟩ => ⟨O, ρ, S, st, After.seq h fun d S1 O1 H1 v e1 st1 r1 h1 => by
    rcases d with _ | ⟨d, _ | ⟨d2, ds⟩⟩
    · exact h1.elim
    · cases d with
      | int n =>
        obtain ⟨u, rfl, r⟩ := r1.one
        have h1' : After X.K W (Walks X.K) ρ σ O1 H1 R (if -(2 ^ 62) ≤ n ∧ n < 2 ^ 62 then RE.ok (rangeD 0 n.toNat) S1 else .bad) := h1
        split at h1'
        · rename_i hn
          exact ⟨n, by rw [show u = V.int n from r], hn.1, hn.2, After.ok h1' st1 walks_range⟩
        · exact h1'.elim
      | _ => exact h1.elim
    · cases d <;> exact h1.elim⟩⟩
theorem di_range2 {tg : Expr} {p : Pos} {fa : MA} (hg : Gl X "range") (hm : X.mg "range" = none) (ha : DA X W [a, b] fa) (hs : starEach [a, b] X.env = [(false, eval a X.env), (false, eval b X.env)] := by rfl) (hs2 : starEach [b] X.env = [(false, eval b X.env)] := by rfl) : DI X W tg (.Call (.Name "range" p) [a, b] [] pos) (iR2 fa) :=
  ⟨PI.imp (pi_range2 hg hm ha.pa hs hs2) fun σ H R ⟨O, ρ, S, st, h⟩ => ⟨O, ρ, S, st, After.seq h fun d S1 O1 H1 v e1 st1 r1 h1 => by
    rcases d with _ | ⟨d, _ | ⟨d2, _ | ⟨d3, ds⟩⟩⟩
    · exact h1.elim
    · cases d <;> exact h1.elim
    · cases d with
      | int m => cases d2 with
        | int n =>
          obtain ⟨u, w, rfl, r, r'⟩ := r1.two
          have h1' : After X.K W (Walks X.K) ρ σ O1 H1 R (if -(2 ^ 62) ≤ m ∧ m < 2 ^ 62 ∧ -(2 ^ 62) ≤ n ∧ n < 2 ^ 62 then RE.ok (rangeD m (n - m).toNat) S1 else .bad) := h1
          split at h1'
          · rename_i hn
            exact ⟨m, n, by rw [show u = V.int m from r, show w = V.int n from r'], hn, After.ok h1' st1 walks_range⟩
          · exact h1'.elim
        | _ => exact h1.elim
      | _ => exact h1.elim
    · cases d <;> first | exact h1.elim | (cases d2 <;> exact h1.elim)⟩⟩
/-! ### for -/
def loopS (g : MG) (body : MS) : List D → MS
  | [], ρ, S => .nx ρ S
  | d :: ds, ρ, S => match g d ρ with
    | none => .bad
    | some ρ1 => match body ρ1 S with
      | .nx ρ2 S2 => loopS g body ds ρ2 S2
      | .ct ρ2 S2 => loopS g body ds ρ2 S2
      | .bk ρ2 S2 => .nx ρ2 S2
      | r => r
def sFor (i : MA) (g : MG) (body : MS) : MS := fun ρ S => (i ρ S).stm ρ fun ds S1 => loopS g body ds ρ S1
theorem drop_of {α : Type} {l : List α} {i : Nat} {d : α} (h : l[i]? = some d) : l.drop i = d :: l.drop (i + 1) := by
  obtain ⟨hl, e⟩ := List.getElem?_eq_some_iff.mp h
  rw [← e]; exact List.drop_eq_getElem_cons hl
theorem ds_for {tg iter : Expr} {body : List Stmt} {fi : MA} {is : List Nat} {g1 : MG} (hp : PassesOwn (model X.prog X.w) X.A X.env X.xe) (hc : X.calm = true) (hi : DI X W tg iter fi) (hg : DG X tg is g1) (hb : DSs X W body F) (hs : ∀ x, foldedSetIterable iter X.env x = pure x := by intro _; rfl) : DS X W (.For tg iter body [] pos) (sFor fi g1 F) :=
  ⟨PS.imp (ps_for hp hc hi.pi hg.pg hb.pss hs) fun D' σ H ⟨O, ρ, S, st, h⟩ => ⟨O, ρ, S, st, AfterS.seqE h fun ds S1 O1 H1 J e1 st1 w1 h1 => by
    refine ⟨fun i m σ2 H2 => m = ds.length - i ∧ i ≤ ds.length ∧ ∃ O2 ρ2 S2, Ext O1 H1 O2 H2 ∧ Stt X.K O2 H2 ρ2 σ2 S2 ∧ AfterS X.K W D' O2 H2 (loopS g1 F (ds.drop i) ρ2 S2), ⟨_, rfl, Nat.zero_le _, O1, ρ, S1, .refl, st1, h1⟩, ?_⟩
    rintro i m σ2 H2 ⟨rfl, hi, O2, ρ2, S2, e2, st2, h2⟩
    have ww := w1 O2 H2 S2 ρ2 σ2 e2 st2 i
    by_cases hlt : i < ds.length
    · have hd : ds[i]? = some ds[i] := by simp [hlt]
      obtain ⟨go, yl⟩ := ww.1 _ hd
      rw [drop_of hd] at h2
      refine .inr ⟨go, fun σ' H' => ∃ O3 ρ3 S3, Ext O1 H1 O3 H' ∧ Stt X.K O3 H' ρ3 σ' S3 ∧ AfterS X.K W D' O3 H' (loopS g1 F (ds.drop (i + 1)) ρ3 S3), fun σ' H' hn => ⟨_, by omega, rfl, hlt, hn⟩, fun x H' y => ?_⟩
      obtain ⟨e3, st3, r3⟩ := yl x H' y
      have h3 : AfterS X.K W D' O2 H2 (match g1 ds[i] ρ2 with | none => .bad | some ρ1 => match F ρ1 S2 with | .nx ρ2 S2 => loopS g1 F (ds.drop (i + 1)) ρ2 S2 | .ct ρ2 S2 => loopS g1 F (ds.drop (i + 1)) ρ2 S2 | .bk ρ2 S2 => .nx ρ2 S2 | r => r) := h2
      cases q : g1 ds[i] ρ2 with
      | none => rw [q] at h3; exact h3.elim
      | some ρ4 =>
        rw [q] at h3
        refine ⟨O2, ρ2, S2, _, ρ4, st3 _ _ _ st2, r3, q, fun σ4 st4 _ => ⟨O2, ρ4, S2, st4, ?_⟩⟩
        have h4 : AfterS X.K W D' O2 H' (match F ρ4 S2 with | .nx ρ2 S2 => loopS g1 F (ds.drop (i + 1)) ρ2 S2 | .ct ρ2 S2 => loopS g1 F (ds.drop (i + 1)) ρ2 S2 | .bk ρ2 S2 => .nx ρ2 S2 | r => r) := AfterS.mono h3 e3
        cases qf : F ρ4 S2 with
        | nx ρ5 S5 => rw [qf] at h4; exact fun O' H5 σ5 e5 st5 => ⟨O', ρ5, S5, (e2.trans e3).trans e5, st5, AfterS.mono h4 e5⟩
        | ct ρ5 S5 => rw [qf] at h4; exact fun O' H5 σ5 e5 st5 => ⟨O', ρ5, S5, (e2.trans e3).trans e5, st5, AfterS.mono h4 e5⟩
        | bk ρ5 S5 => rw [qf] at h4; exact fun O' H5 σ5 e5 st5 => h4 O' H5 σ5 e5 st5
        | rt d5 S5 => rw [qf] at h4; exact h4
        | exc x5 ρ5 S5 => rw [qf] at h4; exact h4
        | bad => rw [qf] at h4; exact h4
    · have e : i = ds.length := by omega
      have h3 : AfterS X.K W D' O2 H2 (.nx ρ2 S2) := by
        have : ds.drop i = [] := by rw [e]; simp
        rw [this] at h2; exact h2
      exact .inl ⟨ww.2 e, h3 O2 H2 σ2 .refl st2⟩⟩⟩
end
end DE

namespace DE
open PySem PySem.Spec PyProof.Rows L2
section
variable {X : Cx} {W : WX} {a b c : Expr} {f g h : ME} {pos : Pos} {s : Stmt} {ss : List Stmt} {F G : MS} {tf : MT}
/-! ### list comprehensions -/
def wipeD (ρ : DE.Env) : List Nat → DE.Env
  | [] => ρ
  | v :: vs => (wipeD ρ vs).set v none
theorem wipe_env {K : PySem.W.Frag} {O : Ow} {H : Hp} {ρ : DE.Env} {σ : L2.St} (r : REnv K O H ρ σ) : ∀ vs, REnv K O H (wipeD ρ vs) (wipe σ vs)
  | [] => r
  | v :: vs => (wipe_env r vs).unset v
def loopC (own : List Nat) (g : MG) (t : MT) (e : ME) (ρ : DE.Env) : List D → Sto → RE (List D)
  | [], S => .ok [] S
  | d :: ds, S => match g d (wipeD ρ own) with
    | none => .bad
    | some ρ1 => match t ρ1 S with
      | .ok true S1 => (match e ρ1 S1 with
        | .ok v S2 => (loopC own g t e ρ ds S2).bind fun vs S3 => .ok (v :: vs) S3
        | _ => .bad)
      | .ok false S1 => loopC own g t e ρ ds S1
      | _ => .bad
def dLC (own : List Nat) (i : MA) (g : MG) (t : MT) (e : ME) : ME := fun ρ S => (i ρ S).bind fun ds S1 => if ds.length ≤ cap then (loopC own g t e ρ ds S1).bind fun vs S2 => .ok (.lst vs) S2 else .bad
abbrev W0 : WX := fun _ _ _ _ => False
structure DTs (X : Cx) (W : WX) (es : List Expr) (f : MT) : Prop where
  pts : PTs X es (tT X.K W f)
def mYes : MT := fun _ S => .ok true S
theorem dts_nil : DTs X W [] mYes := ⟨⟨fun pins s σ H Q I ⟨O, ρ, S, st, h⟩ => pts_nil.run pins s σ H Q I (After.ok h st rfl)⟩⟩
theorem dts_one (h : DT X W c tf) : DTs X W [c] tf := ⟨pts_one h.pt⟩

theorem wipe_wipe (σ : L2.St) : ∀ vs : List Nat, wipe (wipe σ vs) vs = wipe σ vs := fun vs => by
  apply List.ext_getElem?
  intro i
  by_cases hi : i ∈ vs
  · have : ∀ (τ : L2.St) , (wipe τ vs)[i]? = if i < τ.length then some none else none := fun τ => by
      split
      · rename_i hl
        cases q : (wipe τ vs)[i]? with
        | none => rw [List.getElem?_eq_none_iff, wipe_length] at q; omega
        | some o =>
          cases o with
          | none => rfl
          | some v => exact absurd hi (wipe_some q).2
      · rename_i hl
        rw [List.getElem?_eq_none_iff, wipe_length]; omega
    rw [this, this, wipe_length]
  · rw [wipe_out hi]
theorem lc_imp {own : List (Str × Nat)} {fi : MA} {is : List Nat} {g1 : MG} {ft : MT} (hv : ∀ i ∈ is, i ∈ own.map (·.2)) : ∀ σ H Q, tE X.K W (dLC (own.map (·.2)) fi g1 ft f) σ H Q → tLc (tI X.K W fi) (tG X.K is g1) (tT X.K W0 ft) (tE X.K W0 f) (own.map (·.2)) σ H Q :=
  fun σ H Q ⟨O, ρ, S, st, h⟩ => ⟨O, ρ, S, st, After.seq h fun ds S1 O1 H1 J e1 st1 w1 h1 => by
    intro p hp
    have hl : ds.length ≤ cap := by
      by_cases hl : ds.length ≤ cap
      · exact hl
      · simp only [hl, if_false] at h1; exact h1.elim
    simp only [hl, if_true] at h1
    obtain ⟨eh, sth⟩ := st1.hide (xs := []) hp
    refine ⟨fun i m H2 => m = ds.length - i ∧ i ≤ ds.length ∧ ∃ O2 S2 acc accV, p ∈ O2.u ∧ Ext O1 H1 O2 H2 ∧ Stt X.K O2 H2 ρ σ S2 ∧ H2 p = some (.lst accV) ∧ acc.length ≤ i ∧ Reps X.K O2 H2 acc accV ∧
        After X.K W (Rep X.K) ρ σ O1 H1 Q ((loopC (own.map (·.2)) g1 ft f ρ (ds.drop i) S2).bind fun vs S3 => .ok (.lst (acc ++ vs)) S3), ⟨_, rfl, Nat.zero_le _, _, S1, [], [], List.mem_cons_self, eh, sth, upd_same, Nat.le_refl _, rfl, h1⟩, ?_⟩
    rintro i m H2 ⟨rfl, hi, O2, S2, acc, accV, hu, e2, st2, hp2, ha, r2, h2⟩
    have ww := w1 O2 H2 S2 ρ σ e2 st2 i
    by_cases hlt : i < ds.length
    · have hd : ds[i]? = some ds[i] := by simp [hlt]
      obtain ⟨go, yl⟩ := ww.1 _ hd
      rw [drop_of hd] at h2
      refine .inr ⟨go, fun H' => ∃ O3 S3 acc3 accV3, p ∈ O3.u ∧ Ext O1 H1 O3 H' ∧ Stt X.K O3 H' ρ σ S3 ∧ H' p = some (.lst accV3) ∧ acc3.length ≤ i + 1 ∧ Reps X.K O3 H' acc3 accV3 ∧
        After X.K W (Rep X.K) ρ σ O1 H1 Q ((loopC (own.map (·.2)) g1 ft f ρ (ds.drop (i + 1)) S3).bind fun vs S3 => .ok (.lst (acc3 ++ vs)) S3), fun H' hn => ⟨_, by omega, rfl, hlt, hn⟩, fun x H' y => ?_⟩
      obtain ⟨e3, st3, r3⟩ := yl x H' y
      have st2' := st3 _ _ _ st2
      have hp' : ∀ {O4 H4}, Ext O2 H' O4 H4 → H4 p = some (.lst accV) := fun e4 => (e3.trans e4).keep p _ (st2.wf.hid p hu).1 hp2
      have hu' : ∀ {O4 H4}, Ext O2 H' O4 H4 → p ∈ O4.u := fun e4 => by
        obtain ⟨m, q, _⟩ := e4.preu
        rw [q]; exact List.mem_append_right _ hu
      cases q : g1 ds[i] (wipeD ρ (own.map (·.2))) with
      | none => simp only [loopC, q] at h2; exact h2.elim
      | some ρ1 =>
        refine ⟨O2, wipeD ρ (own.map (·.2)), S2, _, ρ1, ⟨st2'.wf, wipe_env st2'.env _⟩, r3, q, fun σ4 st4 only => ⟨(only _ hv).trans (wipe_wipe _ _), O2, ρ1, S2, st4, ?_⟩⟩
        cases qt : ft ρ1 S2 with
        | bad => simp only [loopC, q, qt] at h2; exact h2.elim
        | exc _ _ => simp only [loopC, q, qt] at h2; exact h2.elim
        | ok bt S5 =>
          intro O5 H5 bb e5 st5 rb
          subst rb
          cases bt with
          | false =>
            refine iteF ⟨O5, S5, acc, accV, hu' e5, e2.trans (e3.trans e5), ⟨st5.wf, st2'.env.mono (e5.w st2'.wf)⟩, hp' e5, by omega, r2.mono ((e3.trans e5).w st2.wf), ?_⟩
            simp only [loopC, q, qt] at h2
            exact h2
          | true =>
            refine iteT ⟨O5, ρ1, S5, st5, ?_⟩
            cases qf : f ρ1 S5 with
            | bad => simp only [loopC, q, qt, qf] at h2; exact h2.elim
            | exc _ _ => simp only [loopC, q, qt, qf] at h2; exact h2.elim
            | ok v6 S6 =>
              intro O6 H6 y6 e6 st6 r6
              have e56 := e5.trans e6
              have st6' : Stt X.K O6 H6 ρ σ S6 := ⟨st6.wf, st2'.env.mono (e56.w st2'.wf)⟩
              have ra : Reps X.K O6 H6 acc accV := r2.mono ((e3.trans e56).w st2.wf)
              have ew := extW_hid (xs := accV ++ [y6]) st6.wf (hu' e56)
              refine ⟨accV, hp' e56, ?_, O6, S6, acc ++ [v6], accV ++ [y6], hu' e56, ?_, st6'.hid (hu' e56), upd_same, by simp; omega, Reps.append (ra.mono ew) ⟨y6, [], rfl, r6.mono ew, rfl⟩, ?_⟩
              · rw [← ra.length]
                exact cap_lt (by omega)
              · have e7 := e2.trans (e3.trans e56)
                refine ⟨e7.pre, e7.preu, fun a o na ho => ?_, fun a u ho => ?_, fun a ho => upd_there a (e7.there a ho)⟩
                · rw [upd_ne (ne_of_none ho hp)]; exact e7.keep a o na ho
                · rw [upd_ne (ne_of_none ho hp)]; exact e7.tups a u ho
              · simp only [loopC, q, qt, qf] at h2
                have e8 : ∀ vs : List D, acc ++ [v6] ++ vs = acc ++ v6 :: vs := fun vs => by simp
                simp only [e8]
                cases ql : loopC (own.map (·.2)) g1 ft f ρ (ds.drop (i + 1)) S6 with
                | ok vs S7 => rw [ql] at h2; exact h2
                | exc _ _ => rw [ql] at h2; exact h2
                | bad => rw [ql] at h2; exact h2
    · have e : i = ds.length := by omega
      refine .inl ⟨ww.2 e, ?_⟩
      have hd : ds.drop i = [] := by rw [e]; simp
      rw [hd] at h2
      have h3 : After X.K W (Rep X.K) ρ σ O1 H1 Q (.ok (.lst (acc ++ [])) S2) := h2
      rw [List.append_nil] at h3
      have hsub : ∀ a ∈ O1.u, a ∈ O2.u := fun a ha => by
        obtain ⟨m, q, _⟩ := e2.preu
        rw [q]; exact List.mem_append_right _ ha
      refine h3 ⟨O2.l, O1.u⟩ H2 _ ⟨e2.pre, ⟨[], rfl, fun _ h => by cases h⟩, e2.keep, e2.tups, e2.there⟩ (st2.bare hsub) ⟨p, accV, rfl, ⟨(st2.wf.hid p hu).1, fun z => st1.wf.there p (.inr z) hp⟩, hp2, r2.mono (extW_bare hsub)⟩⟩
theorem de_lc {elt tg iter : Expr} {ifs : List Expr} {scope : Scope} {own : List (Str × Nat)} {vs : List Nat} {fi : MA} {is : List Nat} {g1 : MG} {ft : MT} (hc : X.calm = true) (hN : X.N.Nodup) (hi : DI X W tg iter fi) (ok : BlkOk X.N X.env.scope scope own)
    (hg : ∀ (s : Shared) (H : Hp) (C : Addr) (cl : List (Str × Addr)) (fp : List Addr), DG (X.blk s H scope (compEnvC scope cl C X.env) fp) tg is g1) (ht : ∀ (s : Shared) (H : Hp) (C : Addr) (cl : List (Str × Addr)) (fp : List Addr), DTs (X.blk s H scope (compEnvC scope cl C X.env) fp) W0 ifs ft)
    (he : ∀ (s : Shared) (H : Hp) (C : Addr) (cl : List (Str × Addr)) (fp : List Addr), DE (X.blk s H scope (compEnvC scope cl C X.env) fp) W0 elt f) (hv : ∀ i ∈ is, i ∈ vs) (hvs : vs = own.map (·.2) := by rfl) (hs : ∀ x, foldedSetIterable iter X.env x = pure x := by intro _; rfl) :
    DE X W (.ListComp elt [⟨tg, iter, ifs, 0⟩] scope pos) (dLC vs fi g1 ft f) := by
  subst hvs
  exact ⟨PE.imp (pe_lc (g := tG X.K is g1) (tt := tT X.K W0 ft) (te := tE X.K W0 f) hc hN hi.pi ok (fun s H C cl fp => (hg s H C cl fp).pg) (fun s H C cl fp => (ht s H C cl fp).pts) (fun s H C cl fp => (he s H C cl fp).pe) hs) fun σ H Q h => lc_imp hv σ H Q h⟩
theorem ds_setLc (i : Nat) {y : Str} {py spos : Pos} {elt tg iter : Expr} {ifs : List Expr} {scope : Scope} {own : List (Str × Nat)} {vs : List Nat} {fi : MA} {is : List Nat} {g1 : MG} {ft : MT} (hc : X.calm = true) (hN : X.N.Nodup) (hy : X.N[i]? = some y) (hyl : X.env.scope.names.lookup y = some .local)
    (hsw : swapsWith (.ListComp elt [⟨tg, iter, ifs, 0⟩] scope pos) (some (.Name y py)) spos.line X.env = pure true) (hi : DI X W tg iter fi) (ok : BlkOk X.N X.env.scope scope own)
    (hg : ∀ (s : Shared) (H : Hp) (C : Addr) (cl : List (Str × Addr)) (fp : List Addr), DG (X.blk s H scope (compEnvC scope cl C X.env) fp) tg is g1) (ht : ∀ (s : Shared) (H : Hp) (C : Addr) (cl : List (Str × Addr)) (fp : List Addr), DTs (X.blk s H scope (compEnvC scope cl C X.env) fp) W0 ifs ft)
    (he : ∀ (s : Shared) (H : Hp) (C : Addr) (cl : List (Str × Addr)) (fp : List Addr), DE (X.blk s H scope (compEnvC scope cl C X.env) fp) W0 elt f) (hv : ∀ i ∈ is, i ∈ vs) (hvs : vs = own.map (·.2) := by rfl) (hs : ∀ x, foldedSetIterable iter X.env x = pure x := by intro _; rfl) :
    DS X W (.Assign [.Name y py] (.ListComp elt [⟨tg, iter, ifs, 0⟩] scope pos) spos) (sAsg (dLC vs fi g1 ft f) (gN i)) := by
  subst hvs
  exact ⟨PS.imp (ps_setLc (g := tG X.K is g1) (tt := tT X.K W0 ft) (te := tE X.K W0 f) hc hN hy hyl hsw hi.pi ok (fun s H C cl fp => (hg s H C cl fp).pg) (fun s H C cl fp => (ht s H C cl fp).pts) (fun s H C cl fp => (he s H C cl fp).pe) hs) fun D' σ H ⟨O, ρ, S, st, h⟩ =>
    lc_imp hv σ H _ ⟨O, ρ, S, st, AfterS.seqE h fun d S1 O1 H1 v e1 st1 r1 h1 => h1 O1 H1 _ .refl ⟨st1.wf, st1.env.set r1 i⟩⟩⟩
end
/-! ### defs and their calls -/
def AfterF (K : PySem.W.Frag) (O : Ow) (H : Hp) (Q : VK) (E : XK) : RE D → Prop
  | .ok d S' => ∀ O' H' v, Ext O H O' H' → WF K O' H' S' → Rep K O' H' d v → Q v H'
  | .exc x S' => ∀ O' H' cls dx, Ext O H O' H' → WF K O' H' S' → RepX K O' H' x cls dx → E cls dx H'
  | .bad => False
abbrev FD := List D → Sto → RE D
def spD (K : PySem.W.Frag) (n : Nat) (F : FD) : Sp := fun vs H Q E => ∃ O S ds, WF K O H S ∧ Reps K O H ds vs ∧ ds.length = n ∧ AfterF K O H Q E (F ds S)
def fnD (n : Nat) (B : MS) : FD := fun ds S => match B (ds.map some ++ List.replicate (n - ds.length) none) S with
  | .nx _ S' => .ok .non S'
  | .rt d S' => .ok d S'
  | .exc x _ S' => .exc x S'
  | _ => .bad
abbrev WD (E : XK) : WX := fun cls d _ H => E cls d H
section
variable {P : Program} {w : World} {K : PySem.W.Frag} {mg : Str → Option Value} {base : Heap} {x qual : Str} {params : Arguments} {body : List Stmt} {scope : Scope} {dvs : List V} {kws : List (Str × V)} {f : Addr} {fd : FuncData} {N ps : List Str} {k : Nat} {B : MS}
/-- a def's context -/
abbrev XOf (P : Program) (w : World) (K : PySem.W.Frag) (mg : Str → Option Value) (base : Heap) (N : List Str) (qual : Str) (scope : Scope) (f : Addr) (cdv : Value) (A : Around) (outer : List PySem.Env) (s : Shared) (H : Hp) (E : XK) : Cx :=
  cxOf (L2.CX P w) P w K mg base N qual scope f cdv A outer s H E
theorem fn_data (F : FunD K x qual params body scope dvs kws f fd) (S : FnScope N ps scope)
    (hbody : ∀ (cdv : Value) (A : Around) (outer : List PySem.Env) (s : Shared) (H : Hp) (E : XK), Room k (A.deeper (envOfC qual scope s.heap.objs.size f cdv)) → DSs (XOf P w K mg base N qual scope f cdv A outer s H E) (WD E) body B) :
    FnOk P w K mg base (L2.CX P w) (k + 1) f fd ps (spD K ps.length (fnD N.length B)) := by
  refine F.ok S (fun vs H Q E h => ?_) (fun cdv A outer s H vs Q E hr h => ?_)
  · obtain ⟨O, S', ds, _, r, hl, _⟩ := h
    rw [← r.length]; exact hl
  · obtain ⟨O, S', ds, wf, r, hl, h⟩ := h
    refine ⟨_, (hbody cdv A outer s H E hr).pss, O, _, S', ⟨wf, by rw [L2.start, ← r.length]; exact (REnv.of r).app (N.length - ds.length)⟩, ?_⟩
    · unfold fnD at h
      cases q : B (ds.map some ++ List.replicate (N.length - ds.length) none) S' with
      | nx ρ1 S1 => rw [q] at h; exact fun O' H' σ' e st => h O' H' .non e st.wf rfl
      | rt d S1 => rw [q] at h; exact fun O' H' v e st rd => h O' H' v e st rd
      | exc x ρ1 S1 => rw [q] at h; exact fun O' H' σ' cls dx e st rx => h O' H' cls dx e st.wf rx
      | bk _ _ => rw [q] at h; exact h.elim
      | ct _ _ => rw [q] at h; exact h.elim
      | bad => rw [q] at h; exact h.elim
end
section
variable {X : Cx} {W : WX} {x : Str} {p pos : Pos} {e : Expr} {es : List Expr} {k n : Nat} {f : Addr} {fd : FuncData} {ps : List Str} {dvs : List V} {dsv : List Value} {F : FD} {fa : MA}
/-- a call; dd: what the defaults are -/
def dCall (n : Nat) (F : FD) (dd : List D) (fa : MA) : ME := fun ρ S => (fa ρ S).bind fun ds S1 => if (ds ++ dd).length = n then F (ds ++ dd) S1 else .bad
theorem call_imp {E : L2.St → XK} {dd : List D} (hE : ∀ σ cls dx H, W cls dx σ H → E σ cls dx H) (hdd : ∀ O H, Reps X.K O H dd dvs) {σ : L2.St} {H : Hp} {Q : VK} (h : tE X.K W (dCall n F dd fa) σ H Q) : tCallSD (spD X.K n F) dvs E (tA X.K W fa) σ H Q := by
  obtain ⟨O, ρ, S, st, h⟩ := h
  refine ⟨O, ρ, S, st, After.seq h fun ds S1 O1 H1 vs e1 st1 r1 h1 => ?_⟩
  by_cases hl : (ds ++ dd).length = n
  · simp only [hl, if_true] at h1
    refine ⟨O1, S1, ds ++ dd, st1.wf, r1.append (hdd O1 H1), hl, ?_⟩
    cases q : F (ds ++ dd) S1 with
    | ok d S' => rw [q] at h1; exact fun O' H' v e wf r => h1 O' H' v e ⟨wf, st1.env.mono (e.w st1.wf)⟩ r
    | exc y S' => rw [q] at h1; exact fun O' H' cls dx e wf r => hE _ _ _ _ (h1 O' H' cls dx e ⟨wf, st1.env.mono (e.w st1.wf)⟩ r)
    | bad => rw [q] at h1; exact h1
  · simp only [hl, if_false] at h1; exact h1.elim
theorem de_call {dd : List D} (G : FnOk X.prog X.w X.K X.mg X.base (L2.CX X.prog X.w) k f fd ps (spD X.K n F)) (hr : Room k X.A) (hg : Gl X x) (hm : X.mg x = some (.ref f)) (hk : PySem.W.keepIn X.K (.ref f) = true) (hb : Binds X.K fd ps dsv) (hd : Vals dvs dsv)
    (hdd : ∀ O H, Reps X.K O H dd dvs) (tk : Takes X W) (ha : DA X W (e :: es) fa) (hdb : (x == ("__debug__" : Str)) = false := by decide) (he : starEach (e :: es) X.env = (false, eval e X.env) :: starEach es X.env := by rfl) (hpl : (backTo pos (starEach es X.env)).any (·.1) = false := by rfl) :
    DE X W (.Call (.Name x p) (e :: es) [] pos) (dCall n F dd fa) :=
  ⟨PE.imp (pe_callSD G hr hg hm hk hb hd (fun σ => passAt tk σ) ha.pa hdb he hpl) fun _ _ _ h => call_imp (fun _ _ _ _ q => q) hdd h⟩
/-- built-ins -/
def CaD (X : Cx) (r : List V → Hp → VK → Prop) (op : FD) : Prop :=
  ∀ (W : WX) (ρ : DE.Env) (σ : L2.St) (O : Ow) (H : Hp) (S : Sto) (vs : List V) (ds : List D) (Q : VK), Stt X.K O H ρ σ S → Reps X.K O H ds vs → After X.K W (Rep X.K) ρ σ O H Q (op ds S) → r vs H Q
def dBlt (op : FD) (fa : MA) : ME := fun ρ S => (fa ρ S).bind fun ds S1 => op ds S1
theorem blt_imp {r : List V → Hp → VK → Prop} {op : FD} (ho : CaD X r op) {σ : L2.St} {H : Hp} {Q : VK} (h : tE X.K W (dBlt op fa) σ H Q) : tCB r (tA X.K W fa) σ H Q := by
  obtain ⟨O, ρ, S, st, h⟩ := h
  exact ⟨O, ρ, S, st, After.seq h fun ds S1 O1 H1 vs e1 st1 r1 h1 => ho W ρ σ O1 H1 S1 vs ds Q st1 r1 h1⟩
theorem de_blt {id : String} {r : List V → Hp → VK → Prop} {op : FD} (hc : CallR X (.builtin id) r) (ho : CaD X r op) (hg : Gl X x) (hm : X.mg x = none) (hv : bootBuiltins x = some (.builtin id)) (ha : DA X W (e :: es) fa) (hn : x ≠ "__name__" := by decide) (hdb : (x == ("__debug__" : Str)) = false := by decide)
    (he : starEach (e :: es) X.env = (false, eval e X.env) :: starEach es X.env := by rfl) (hpl : (backTo pos (starEach es X.env)).any (·.1) = false := by rfl) : DE X W (.Call (.Name x p) (e :: es) [] pos) (dBlt op fa) :=
  ⟨PE.imp (pe_callB hc hg hm hv ha.pa hn hdb he hpl) fun _ _ _ h => blt_imp ho h⟩
theorem de_bty {T : String} {r : List V → Hp → VK → Prop} {op : FD} (hc : CallR X (.type T) r) (ho : CaD X r op) (hg : Gl X x) (hm : X.mg x = none) (hv : bootBuiltins x = some (.type T)) (ha : DA X W (e :: es) fa) (hn : x ≠ "__name__" := by decide) (hdb : (x == ("__debug__" : Str)) = false := by decide)
    (he : starEach (e :: es) X.env = (false, eval e X.env) :: starEach es X.env := by rfl) (hpl : (backTo pos (starEach es X.env)).any (·.1) = false := by rfl) : DE X W (.Call (.Name x p) (e :: es) [] pos) (dBlt op fa) :=
  ⟨PE.imp (pe_callTy hc hg hm hv ha.pa hn hdb he hpl) fun _ _ _ h => blt_imp ho h⟩
end
end DE

set_option maxHeartbeats 4000000
namespace DE
open PySem PySem.Spec PyProof.Rows L2
def RD (K : PySem.W.Frag) (op : D → D → Sto → RE D) : R2 := fun x y H Q => ∃ W ρ σ O S d e, Stt K O H ρ σ S ∧ Rep K O H d x ∧ Rep K O H e y ∧ After K W (Rep K) ρ σ O H Q (op d e S)
theorem opD_RD {X : Cx} {op : D → D → Sto → RE D} : OpD X (RD X.K op) op := fun W ρ σ O H S x y d e Q st r1 r2 h => ⟨W, ρ, σ, O, S, d, e, st, r1, r2, h⟩
section
variable {X : Cx} {W : WX} {a b c : Expr} {f g h : ME} {pos : Pos}
theorem de_bin {op : Operator} {o : D → D → Sto → RE D} (hr : OpR X (binaryOp op) (RD X.K o)) (ha : DE X W a f) (hb : DE X W b g) : DE X W (.BinOp a op b pos) (dBin o f g) := de_op hr opD_RD ha hb
theorem de_rel {op : CmpOp} {o : D → D → Sto → RE D} (hr : OpR X (compareOp op) (RD X.K o)) (ha : DE X W a f) (hb : DE X W b g) (hm : behindInMarks op b = false := by first | exact nomark _ | rfl) : DE X W (.Compare a [op] [b] pos) (dBin o f g) := de_cmp hr opD_RD ha hb hm
theorem dt_rel {op : CmpOp} {o : D → D → Sto → RE D} (hr : OpR X (compareOp op) (RD X.K o)) (ha : DE X W a f) (hb : DE X W b g) (hm : behindInMarks op b = false := by first | exact nomark _ | rfl) : DT X W (.Compare a [op] [b] pos) (dTest (dBin o f g)) := dt_cmp hr opD_RD ha hb hm
/-! ### arithmetic -/
def oAdd : D → D → Sto → RE D
  | .int i, .int j, S => .ok (.int (i + j)) S
  | .str x, .str y, S => if x.length + y.length ≤ cap then .ok (.str (x ++ y)) S else .bad
  | .lst xs, .lst ys, S => if xs.length + ys.length ≤ cap then .ok (.lst (xs ++ ys)) S else .bad
  | .tup xs, .tup ys, S => if xs.length + ys.length ≤ cap then .ok (.tup (xs ++ ys)) S else .bad
  | _, _, _ => .bad
theorem ite_ok {α : Type} {c : Prop} [Decidable c] {r : RE α} {P : RE α → Prop} (h : P (if c then r else .bad)) (nb : ¬ P .bad) : c ∧ P r := by
  by_cases hc : c
  · rw [if_pos hc] at h; exact ⟨hc, h⟩
  · rw [if_neg hc] at h; exact absurd h nb
theorem After.ite {α β : Type} {K : PySem.W.Frag} {W : WX} {ρ : DE.Env} {σ : L2.St} {O : Ow} {H : Hp} {Rl : Ow → Hp → α → β → Prop} {Q : β → Hp → Prop} {c : Prop} [Decidable c] {r : RE α} (h : After K W Rl ρ σ O H Q (if c then r else .bad)) : c ∧ After K W Rl ρ σ O H Q r :=
  ite_ok (P := fun r => After K W Rl ρ σ O H Q r) h fun z => z
theorem op_oAdd : OpR X (binaryOp .Add) (RD X.K oAdd) := by
  intro pins s σ H x y v u Q I rx ry ⟨W, ρ, σ', O, S, d, e, st, r1, r2, h⟩
  cases d <;> cases e <;> try exact h.elim
  · rename_i i j
    exact op_add pins s σ H x y v u Q I rx ry ⟨i, j, r1, r2, After.ok h st rfl⟩
  · rename_i i j
    obtain ⟨hc, h⟩ := After.ite h
    exact op_add_str pins s σ H x y v u Q I rx ry ⟨i, j, r1, r2, cap_line hc, After.ok h st rfl⟩
  · rename_i ds es
    obtain ⟨hc, h⟩ := After.ite h
    obtain ⟨p, xs, rfl, h1, q1⟩ := r1
    obtain ⟨q, ys, rfl, h2, q2⟩ := r2
    refine op_catA pins s σ H _ _ v u Q I rx ry ⟨p, q, xs, ys, rfl, rfl, sqT_of h1, sqT_of h2, by rw [← q1.length, ← q2.length]; exact cap_line hc, fun e => ?_, fun _ e => ?_, fun _ _ t ht => ?_⟩
    · subst e
      cases ds with
      | nil => exact After.ok h st ⟨q, ys, rfl, h2, q2⟩
      | cons _ _ => obtain ⟨_, _, e, _⟩ := q1; cases e
    · subst e
      cases es with
      | nil => exact After.ok h st ⟨p, xs, rfl, h1, by rw [List.append_nil]; exact q1⟩
      | cons _ _ => obtain ⟨_, _, e, _⟩ := q2; cases e
    · obtain ⟨e2, st2⟩ := st.new (o := .tup (xs ++ ys)) ht
      exact h O _ _ e2 st2 ⟨t, _, rfl, .inl upd_same, (q1.mono (e2.w st.wf)).append (q2.mono (e2.w st.wf))⟩
  · rename_i ds es
    obtain ⟨hc, h⟩ := After.ite h
    obtain ⟨p, xs, rfl, n1, h1, q1⟩ := r1
    obtain ⟨q, ys, rfl, n2, h2, q2⟩ := r2
    refine op_cat pins s σ H _ _ v u Q I rx ry ⟨p, q, xs, ys, rfl, rfl, h1, h2, by rw [← q1.length, ← q2.length]; exact cap_line hc, fun t ht => ?_⟩
    obtain ⟨e2, st2⟩ := st.new (o := .lst (xs ++ ys)) ht
    exact h O _ _ e2 st2 ⟨t, _, rfl, st.no ht, upd_same, (q1.mono (e2.w st.wf)).append (q2.mono (e2.w st.wf))⟩
/-- ints -/
def oI (C : Int → Int → Bool) (g : Int → Int → D) : D → D → Sto → RE D
  | .int i, .int j, S => if C i j = true then .ok (g i j) S else .bad
  | _, _, _ => .bad
theorem op_I {f : Value → Value → Sem Value} {P : Int → Int → Prop} {gv : Int → Int → V} {C : Int → Int → Bool} {gd : Int → Int → D} (hr : OpR X f (rI P gv)) (hC : ∀ i j, C i j = true → P i j) (hg : ∀ O H i j, Rep X.K O H (gd i j) (gv i j)) : OpR X f (RD X.K (oI C gd)) := by
  intro pins s σ H x y v u Q I rx ry ⟨W, ρ, σ', O, S, d, e, st, r1, r2, h⟩
  cases d <;> cases e <;> try exact h.elim
  rename_i i j
  obtain ⟨hc, h⟩ := After.ite h
  exact hr pins s σ H x y v u Q I rx ry ⟨i, j, r1, r2, hC i j hc, After.ok h st (hg _ _ _ _)⟩
theorem op_I0 {f : Value → Value → Sem Value} {gv : Int → Int → V} {gd : Int → Int → D} (hr : OpR X f (rI0 gv)) (hg : ∀ O H i j, Rep X.K O H (gd i j) (gv i j)) : OpR X f (RD X.K (oI (fun _ _ => true) gd)) := by
  intro pins s σ H x y v u Q I rx ry ⟨W, ρ, σ', O, S, d, e, st, r1, r2, h⟩
  cases d <;> cases e <;> try exact h.elim
  rename_i i j
  have h' : After X.K W (Rep X.K) ρ σ' O H Q (.ok (gd i j) S) := h
  exact hr pins s σ H x y v u Q I rx ry ⟨i, j, r1, r2, After.ok h' st (hg _ _ _ _)⟩
def oSub := oI (fun _ _ => true) fun i j => .int (i - j)
theorem op_oSub : OpR X (binaryOp .Sub) (RD X.K oSub) := op_I0 op_sub fun _ _ _ _ => rfl
def lim64 : Int := 18446744073709551616
def oFDiv := oI (fun i j => decide (0 < j ∧ j < 1073741824)) fun i j => .int (i / j)
theorem op_oFDiv : OpR X (binaryOp .FloorDiv) (RD X.K oFDiv) := op_I op_fdiv (fun i j h => by unfold CDiv; simpa using h) fun _ _ _ _ => rfl
def oMod := oI (fun i j => decide (0 < j)) fun i j => .int (i % j)
theorem op_oMod : OpR X (binaryOp .Mod) (RD X.K oMod) := op_I op_mod (fun i j h => of_decide_eq_true h) fun _ _ _ _ => rfl
def oPow := oI (fun i j => decide (0 ≤ j ∧ j ≤ 1000000 ∧ i.natAbs < lim64.toNat)) fun i j => .int (i ^ j.toNat)
theorem op_oPow : OpR X (binaryOp .Pow) (RD X.K oPow) := op_I op_pow (fun i j h => by have := of_decide_eq_true h; refine ⟨this.1, this.2.1, ?_⟩; simpa [lim64] using this.2.2) fun _ _ _ _ => rfl
/-- a text so many times -/
def mulS (x : Str) (n : Int) : Str := ⟨(List.replicate n.toNat x.cps.toList).flatten.toArray⟩
theorem fold_app (x : Array Nat) : ∀ (n : Nat) (acc : Array Nat), (List.replicate n x).foldl (· ++ ·) acc = acc ++ (List.replicate n x.toList).flatten.toArray
  | 0, acc => by simp
  | n + 1, acc => by
    rw [List.replicate_succ, List.foldl_cons, fold_app x n, List.replicate_succ, List.flatten_cons, Array.append_assoc]
    congr 1
    apply Array.ext'
    simp
theorem mulS_eq (x : Str) (n : Int) : (⟨(List.replicate n.toNat x.cps).foldl (· ++ ·) #[]⟩ : Str) = mulS x n := by
  unfold mulS
  rw [fold_app]
  simp
theorem mulS_len (x : Str) (n : Int) : (mulS x n).length = n.toNat * x.length := by
  show (((List.replicate n.toNat x.cps.toList).flatten.toArray)).size = n.toNat * x.cps.size
  rw [List.size_toArray]
  generalize n.toNat = m
  induction m with
  | zero => simp
  | succ m ih => rw [List.replicate_succ, List.flatten_cons, List.length_append, ih, Array.length_toList]; rw [Nat.succ_mul]; omega
theorem str_ext {x y : Str} (h : x.cps.toList = y.cps.toList) : x = y := by
  obtain ⟨a⟩ := x
  obtain ⟨b⟩ := y
  have : a = b := Array.ext' h
  rw [this]
theorem mul_text {prog : Program} {w : World} {A : Around} {E : Value → Shared → Prop} {s : Shared} {x : Str} {n : Int} {t u : Tok} {Q : Value → Shared → Prop} (h2 : n ≤ 100000) (h0 : -100000 ≤ n) (h3 : n.toNat * x.length ≤ 100000) (h4 : x.length ≤ 100000)
    (h : ∀ tk tk', Q (.str (mulS x n) tk) { s with toks := tk' }) : wpAny (model prog w) A (binaryOp .Mult (.str x t) (.int n u)) Q E s := by
  refine PySem.P.mul_str (by
      have a : ¬ n < -(2 ^ 63 : Int) := by omega
      have b : ¬ n ≥ 2 ^ 63 := by omega
      rw [decide_eq_false a, decide_eq_false b]; rfl) (fun h1 _ => ?_) (fun _ _ => ?_) ?_
  · have h5 : (x.length : Int) * n ≤ 100000 := by
      have : ((n.toNat * x.length : Nat) : Int) ≤ 100000 := by omega
      rw [Int.natCast_mul, Int.toNat_of_nonneg (by omega)] at this
      rw [Int.mul_comm]; exact this
    intro hgt
    have : (x.length : Int) ≤ (2 ^ 63 - 1) / n := by
      rw [Int.le_ediv_iff_mul_le (by omega)]
      omega
    omega
  · show decide (x.length * n.toNat > sizeLine) = false
    rw [Nat.mul_comm]
    exact decide_eq_false (Nat.not_lt.mpr (Nat.le_trans h3 (by decide)))
  · by_cases hn : n < 1
    · rw [if_pos hn]
      have e : mulS x n = Str.empty := by
        have : n.toNat = 0 := by omega
        unfold mulS; rw [this]; rfl
      have := h s.toks (s.toks + 1)
      rw [e] at this
      exact ⟨by decide, this⟩
    · rw [if_neg hn]
      by_cases hq : (n == 1 || x.length == 0) = true
      · rw [if_pos hq]
        have e : mulS x n = x := by
          rcases Bool.or_eq_true _ _ ▸ hq with z | z
          · have : n = 1 := by simpa using z
            subst this
            apply str_ext
            simp [mulS]
          · have z : x.cps.size = 0 := (show x.length = 0 by simpa using z)
            have z' : x.cps = #[] := by simpa using z
            apply str_ext
            unfold mulS
            rw [z']
            simp
        have := h t s.toks
        rw [e] at this
        exact this
      · rw [if_neg hq, mulS_eq]
        exact ⟨by rw [mulS_len]; exact Nat.le_trans h3 (by decide), h _ _⟩
def oMul : D → D → Sto → RE D
  | .int i, .int j, S => if (-lim64 < i ∧ i < lim64) ∨ (-lim64 < j ∧ j < lim64) then .ok (.int (i * j)) S else .bad
  | .str x, .int n, S => if n ≤ 100000 ∧ -100000 ≤ n ∧ n.toNat * x.length ≤ 100000 ∧ x.length ≤ 100000 then .ok (.str (mulS x n)) S else .bad
  | .lst xs, .int n, S => if -100000 ≤ n ∧ n ≤ 100000 ∧ xs.length * n.toNat ≤ cap then .ok (.lst (List.replicate n.toNat xs).flatten) S else .bad
  | _, _, _ => .bad
theorem Reps.rep {K : PySem.W.Frag} {O : Ow} {H : Hp} {ds : List D} {vs : List V} (r : Reps K O H ds vs) : ∀ n, Reps K O H (List.replicate n ds).flatten (List.replicate n vs).flatten
  | 0 => rfl
  | n + 1 => by
    rw [List.replicate_succ, List.flatten_cons, List.replicate_succ, List.flatten_cons]
    exact r.append (Reps.rep r n)
theorem op_oMul : OpR X (binaryOp .Mult) (RD X.K oMul) := by
  intro pins s σ H x y v u Q I rx ry ⟨W, ρ, σ', O, S, d, e, st, r1, r2, h⟩
  cases d <;> cases e <;> try exact h.elim
  · rename_i i j
    obtain ⟨hc, h⟩ := After.ite h
    exact op_mul pins s σ H x y v u Q I rx ry ⟨i, j, r1, r2, hc, After.ok h st rfl⟩
  · rename_i z n
    obtain ⟨hc, h⟩ := After.ite h
    cases (show x = V.str z from r1)
    cases (show y = V.int n from r2)
    obtain ⟨t, rfl⟩ := rx
    obtain ⟨t', rfl⟩ := ry
    exact mul_text hc.1 hc.2.1 hc.2.2.1 hc.2.2.2 fun tk tk' => ⟨.str _, H, I.tok tk', ⟨_, rfl⟩, After.ok h st rfl⟩
  · rename_i ds n
    obtain ⟨hc, h⟩ := After.ite h
    obtain ⟨p, xs, rfl, n1, h1, q1⟩ := r1
    refine op_rep pins s σ H _ _ v u Q I rx ry ⟨p, n, xs, rfl, r2, h1, by omega, by omega, by rw [← q1.length]; exact cap_line hc.2.2, fun t ht => ?_⟩
    obtain ⟨e2, st2⟩ := st.new (o := .lst (List.replicate n.toNat xs).flatten) ht
    exact h O _ _ e2 st2 ⟨t, _, rfl, st.no ht, upd_same, (q1.mono (e2.w st.wf)).rep _⟩
/-! ### comparisons -/
def strLt (x y : Str) : Bool := decide (x.cps.toList < y.cps.toList)
def oLt : D → D → Sto → RE D
  | .int i, .int j, S => .ok (.bl (decide (i < j))) S
  | .str x, .str y, S => .ok (.bl (strLt x y)) S
  | _, _, _ => .bad
theorem op_oLt : OpR X (compareOp .Lt) (RD X.K oLt) := by
  intro pins s σ H x y v u Q I rx ry ⟨W, ρ, σ', O, S, d, e, st, r1, r2, h⟩
  cases d <;> cases e <;> try exact h.elim
  · rename_i i j
    exact op_lt pins s σ H x y v u Q I rx ry ⟨i, j, r1, r2, After.ok h st rfl⟩
  · rename_i i j
    exact op_lt_str pins s σ H x y v u Q I rx ry ⟨i, j, r1, r2, After.ok h st rfl⟩
def oGt : D → D → Sto → RE D
  | .int i, .int j, S => .ok (.bl (decide (j < i))) S
  | .str x, .str y, S => .ok (.bl (strLt y x)) S
  | _, _, _ => .bad
def oLe : D → D → Sto → RE D
  | .int i, .int j, S => .ok (.bl (decide (i ≤ j))) S
  | .str x, .str y, S => .ok (.bl (!strLt y x)) S
  | _, _, _ => .bad
def oGe : D → D → Sto → RE D
  | .int i, .int j, S => .ok (.bl (decide (j ≤ i))) S
  | .str x, .str y, S => .ok (.bl (!strLt x y)) S
  | _, _, _ => .bad
theorem op_oGt : OpR X (compareOp .Gt) (RD X.K oGt) := by
  intro pins s σ H x y v u Q I rx ry ⟨W, ρ, σ', O, S, d, e, st, r1, r2, h⟩
  cases d <;> cases e <;> try exact h.elim
  · rename_i i j
    exact op_gt pins s σ H x y v u Q I rx ry ⟨i, j, r1, r2, After.ok h st rfl⟩
  · rename_i i j
    exact op_gt_str pins s σ H x y v u Q I rx ry ⟨i, j, r1, r2, After.ok h st rfl⟩
theorem dec_not {a b : List Nat} : decide (a ≤ b) = !decide (b < a) := by
  by_cases h : b < a
  · rw [decide_eq_true h, decide_eq_false (fun z => z h)]; rfl
  · rw [decide_eq_false h, decide_eq_true (show a ≤ b from h)]; rfl
theorem op_oLe : OpR X (compareOp .LtE) (RD X.K oLe) := by
  intro pins s σ H x y v u Q I rx ry ⟨W, ρ, σ', O, S, d, e, st, r1, r2, h⟩
  cases d <;> cases e <;> try exact h.elim
  · rename_i i j
    exact op_le pins s σ H x y v u Q I rx ry ⟨i, j, r1, r2, After.ok h st rfl⟩
  · rename_i i j
    exact op_le_str pins s σ H x y v u Q I rx ry ⟨i, j, r1, r2, by first | exact After.ok h st rfl | (have := After.ok h st (v := .bl _) rfl; simpa [strLt, dec_not] using this)⟩
theorem op_oGe : OpR X (compareOp .GtE) (RD X.K oGe) := by
  intro pins s σ H x y v u Q I rx ry ⟨W, ρ, σ', O, S, d, e, st, r1, r2, h⟩
  cases d <;> cases e <;> try exact h.elim
  · rename_i i j
    exact op_ge pins s σ H x y v u Q I rx ry ⟨i, j, r1, r2, After.ok h st rfl⟩
  · rename_i i j
    exact op_ge_str pins s σ H x y v u Q I rx ry ⟨i, j, r1, r2, by first | exact After.ok h st rfl | (have := After.ok h st (v := .bl _) rfl; simpa [strLt, dec_not] using this)⟩
/-! equality of data -/
mutual
def toPy : D → Option PyData
  | .non => some .none
  | .bl b => some (.bool b)
  | .int i => some (.int i)
  | .str x => some (.str x)
  | .tup ds => (toPys ds).map .tuple
  | .lst ds => (toPys ds).map .list
  | _ => none
def toPys : List D → Option (List PyData)
  | [] => some []
  | d :: ds => match toPy d, toPys ds with
    | some p, some ps => some (p :: ps)
    | _, _ => none
end
mutual
theorem dp_of {K : PySem.W.Frag} {O : Ow} {H : Hp} : ∀ {d : D} {p : PyData} {v : V}, toPy d = some p → Rep K O H d v → Dp K H v p
  | .non, _, _, e, r => by cases e; cases r; exact .non
  | .bl _, _, _, e, r => by cases e; cases r; exact .bl _
  | .int _, _, _, e, r => by cases e; cases r; exact .int _
  | .str _, _, _, e, r => by cases e; cases r; exact .str _
  | .tup ds, _, _, e, r => by
    obtain ⟨a, xs, rfl, h1, h2⟩ := r
    simp only [toPy] at e
    cases q : toPys ds with
    | none => rw [q] at e; cases e
    | some ps => rw [q] at e; cases e; exact .tup (sqT_of h1) (dps_of q h2)
  | .lst ds, _, _, e, r => by
    obtain ⟨a, xs, rfl, n, h1, h2⟩ := r
    simp only [toPy] at e
    cases q : toPys ds with
    | none => rw [q] at e; cases e
    | some ps => rw [q] at e; cases e; exact .lst (SqL.of h1) (dps_of q h2)
  | .ty _, _, _, e, _ => by cases e
  | .glo _, _, _, e, _ => by cases e
  | .scr _, _, _, e, _ => by cases e
  | .dK _, _, _, e, _ => by cases e
  | .dT _, _, _, e, _ => by cases e
  | .obj _ _, _, _, e, _ => by cases e
  | .own _, _, _, e, _ => by cases e
  | .xcp _ _ _, _, _, e, _ => by cases e
  | .exo _ _, _, _, e, _ => by cases e
theorem dps_of {K : PySem.W.Frag} {O : Ow} {H : Hp} : ∀ {ds : List D} {ps : List PyData} {vs : List V}, toPys ds = some ps → Reps K O H ds vs → DpAll K H vs ps
  | [], _, _, e, r => by cases e; cases r; exact .nil
  | d :: ds, _, _, e, r => by
    obtain ⟨v, vr, rfl, r1, r2⟩ := r
    simp only [toPys] at e
    cases q : toPy d with
    | none => rw [q] at e; cases e
    | some p =>
      cases q2 : toPys ds with
      | none => rw [q, q2] at e; cases e
      | some ps => rw [q, q2] at e; cases e; exact .cons (dp_of q r1) (dps_of q2 r2)
end
def eqD (d e : D) : Option Bool := match toPy d, toPy e with
  | some p, some q => if SeqAt.shaped p = true ∧ SeqAt.shaped q = true then some (PyData.eqv p q) else none
  | _, _ => none
def oEq (d e : D) (S : Sto) : RE D := match eqD d e with
  | some b => .ok (.bl b) S
  | none => .bad
def oNe (d e : D) (S : Sto) : RE D := match eqD d e with
  | some b => .ok (.bl (!b)) S
  | none => .bad
theorem eqD_some {d e : D} {b : Bool} (h : eqD d e = some b) : ∃ p q, toPy d = some p ∧ toPy e = some q ∧ SeqAt.shaped p = true ∧ SeqAt.shaped q = true ∧ b = PyData.eqv p q := by
  unfold eqD at h
  split at h
  · rename_i p q h1 h2
    split at h
    · rename_i hs
      cases h
      exact ⟨p, q, h1, h2, hs.1, hs.2, rfl⟩
    · cases h
  · cases h
theorem op_oEq (hu : X.A.units + 64 < cLine) : OpR X (compareOp .Eq) (RD X.K oEq) := by
  intro pins s σ H x y v u Q I rx ry ⟨W, ρ, σ', O, S, d, e, st, r1, r2, h⟩
  unfold oEq at h
  split at h
  · rename_i b hb
    obtain ⟨p, q, e1, e2, s1, s2, rfl⟩ := eqD_some hb
    exact op_eqD hu pins s σ H x y v u Q I rx ry ⟨p, q, dp_of e1 r1, dp_of e2 r2, s1, s2, After.ok h st rfl⟩
  · exact h.elim
theorem op_oNe (hu : X.A.units + 64 < cLine) : OpR X (compareOp .NotEq) (RD X.K oNe) := by
  intro pins s σ H x y v u Q I rx ry ⟨W, ρ, σ', O, S, d, e, st, r1, r2, h⟩
  unfold oNe at h
  split at h
  · rename_i b hb
    obtain ⟨p, q, e1, e2, s1, s2, rfl⟩ := eqD_some hb
    exact op_neD hu pins s σ H x y v u Q I rx ry ⟨p, q, dp_of e1 r1, dp_of e2 r2, s1, s2, After.ok h st rfl⟩
  · exact h.elim
/-! is -/
def isNon : D → Bool
  | .non => true
  | _ => false
def oIs : D → D → Sto → RE D
  | d, .non, S => .ok (.bl (isNon d)) S
  | .bl a, .bl b, S => .ok (.bl (decide (a = b))) S
  | _, _, _ => .bad
def oIsNot : D → D → Sto → RE D
  | d, .non, S => .ok (.bl (!isNon d)) S
  | .bl a, .bl b, S => .ok (.bl (!decide (a = b))) S
  | _, _, _ => .bad
theorem isNon_rep {K : PySem.W.Frag} {O : Ow} {H : Hp} {d : D} {v : V} (r : Rep K O H d v) : decide (v = V.non) = isNon d := by
  cases d <;> simp only [isNon, decide_eq_true_eq, decide_eq_false_iff_not]
  case non => exact r
  case bl => cases (show v = _ from r); exact fun z => nomatch z
  case int => cases (show v = _ from r); exact fun z => nomatch z
  case str => cases (show v = _ from r); exact fun z => nomatch z
  case ty => cases (show v = _ from r); exact fun z => nomatch z
  case glo => cases (show v = _ from r); exact fun z => nomatch z
  case tup => obtain ⟨a, xs, rfl, _⟩ := r; exact fun z => nomatch z
  case lst => obtain ⟨a, xs, rfl, _⟩ := r; exact fun z => nomatch z
  case scr => obtain ⟨a, xs, rfl, _⟩ := r; exact fun z => nomatch z
  case dK => obtain ⟨a, xs, rfl, _⟩ := r; exact fun z => nomatch z
  case dT => obtain ⟨a, xs, rfl, _⟩ := r; exact fun z => nomatch z
  case obj => obtain ⟨a, dx, xs, rfl, _⟩ := r; exact fun z => nomatch z
  case own => obtain ⟨a, _, rfl⟩ := r; exact fun z => nomatch z
  case xcp => obtain ⟨rfl, _⟩ := r; exact fun z => nomatch z
  case exo => obtain ⟨a, dd, vs, rfl, _⟩ := r; exact fun z => nomatch z
theorem op_oIs : OpR X (compareOp .Is) (RD X.K oIs) := by
  intro pins s σ H x y v u Q I rx ry ⟨W, ρ, σ', O, S, d, e, st, r1, r2, h⟩
  cases e
  case non =>
    have h' : After X.K W (Rep X.K) ρ σ' O H Q (.ok (.bl (isNon d)) S) := by cases d <;> exact h
    refine op_isN pins s σ H x y v u Q I rx ry ⟨r2, ?_⟩
    rw [isNon_rep r1]
    exact After.ok h' st rfl
  case bl b =>
    cases d <;> try exact h.elim
    rename_i a
    exact op_isBl pins s σ H x y v u Q I rx ry ⟨a, b, r1, r2, After.ok h st rfl⟩
  all_goals (cases d <;> exact h.elim)
theorem op_oIsNot : OpR X (compareOp .IsNot) (RD X.K oIsNot) := by
  intro pins s σ H x y v u Q I rx ry ⟨W, ρ, σ', O, S, d, e, st, r1, r2, h⟩
  cases e
  case non =>
    have h' : After X.K W (Rep X.K) ρ σ' O H Q (.ok (.bl (!isNon d)) S) := by cases d <;> exact h
    refine op_notN pins s σ H x y v u Q I rx ry ⟨r2, ?_⟩
    rw [isNon_rep r1]
    exact After.ok h' st rfl
  case bl b =>
    cases d <;> try exact h.elim
    rename_i a
    exact op_notBl pins s σ H x y v u Q I rx ry ⟨a, b, r1, r2, After.ok h st rfl⟩
  all_goals (cases d <;> exact h.elim)
end
end DE

set_option maxHeartbeats 4000000
namespace DE
open PySem PySem.Spec PyProof.Rows L2
section
variable {X : Cx} {W : WX} {a b c : Expr} {f g h : ME} {pos : Pos} {es : List Expr} {fa : MA}
/-! ### globals -/
theorem de_glob {x : Str} {d : D} {v : V} {u : Value} (hg : Gl X x) (hm : X.mg x = some u) (r : RelV v u) (rd : ∀ O H, Rep X.K O H d v) (hd : (x == ("__debug__" : Str)) = false := by decide) : DE X W (.Name x pos) (dC d) := de_const (pe_glob hg hm r hd) rd
theorem de_ty {x : Str} {n : String} (hg : Gl X x) (hm : X.mg x = none) (hv : bootBuiltins x = some (.type n)) (hn : x ≠ "__name__" := by decide) (hd : (x == ("__debug__" : Str)) = false := by decide) : DE X W (.Name x pos) (dC (.ty n)) := de_const (pe_bltn (v := .ty n) hg hm hv rfl hn hd) fun _ _ => rfl
/-! ### in -/
def toV : D → Option V
  | .non => some .non
  | .bl b => some (.bl b)
  | .int i => some (.int i)
  | .str x => some (.str x)
  | _ => none
def toVs : List D → Option (List V)
  | [] => some []
  | d :: ds => match toV d, toVs ds with
    | some p, some ps => some (p :: ps)
    | _, _ => none
theorem toV_rep {K : PySem.W.Frag} {O : Ow} {H : Hp} {d : D} {v w : V} (e : toV d = some w) (r : Rep K O H d v) : v = w ∧ flatV v = true := by
  cases d <;> simp only [toV] at e <;> cases e
  all_goals (cases (show v = _ from r); exact ⟨rfl, rfl⟩)
theorem toVs_rep {K : PySem.W.Frag} {O : Ow} {H : Hp} : ∀ {ds : List D} {vs ws : List V}, toVs ds = some ws → Reps K O H ds vs → vs = ws ∧ vs.all flatV = true
  | [], _, _, e, r => by cases e; cases r; exact ⟨rfl, rfl⟩
  | d :: ds, _, _, e, r => by
    obtain ⟨v, vr, rfl, r1, r2⟩ := r
    simp only [toVs] at e
    cases q : toV d with
    | none => rw [q] at e; cases e
    | some p =>
      cases q2 : toVs ds with
      | none => rw [q, q2] at e; cases e
      | some ps =>
        rw [q, q2] at e; cases e
        obtain ⟨e1, f1⟩ := toV_rep q r1
        obtain ⟨e2, f2⟩ := toVs_rep q2 r2
        exact ⟨by rw [e1, e2], by simp [f1, f2]⟩
def inS (x y : Str) : Bool := if x.cps.size = 1 then decide (x.cps.getD 0 0 ∈ y.cps.toList) else !(Builtin.Str.occurrences y x 0 y.length 1).isEmpty
/-- x in y, where it is told -/
def inD (d e : D) : Option Bool := match d, e with
  | .str x, .str y => some (inS x y)
  | d, .lst ds => match toV d, toVs ds with
    | some v, some vs => some (inV v vs)
    | _, _ => none
  | d, .tup ds => match toV d, toVs ds with
    | some v, some vs => some (inV v vs)
    | _, _ => none
  | _, _ => none
def oIn (d e : D) (S : Sto) : RE D := match inD d e with
  | some b => .ok (.bl b) S
  | none => .bad
def oNotIn (d e : D) (S : Sto) : RE D := match inD d e with
  | some b => .ok (.bl (!b)) S
  | none => .bad
theorem str1 {x : Str} (h : x.cps.size = 1) : x = ⟨#[x.cps.getD 0 0]⟩ := by
  obtain ⟨⟨l⟩⟩ := x
  match l, h with
  | [c], _ => rfl
theorem op_oIn : OpR X (compareOp .In) (RD X.K oIn) := by
  intro pins s σ H x y v u Q I rx ry ⟨W, ρ, σ', O, S, d, e, st, r1, r2, h⟩
  unfold oIn at h
  split at h
  case h_2 => exact h.elim
  rename_i b hb
  unfold inD at hb
  split at hb
  · rename_i z y'
    cases hb
    unfold inS at h
    split at h
    · rename_i h1
      refine op_in_sign pins s σ H x y v u Q I rx ry ⟨z.cps.getD 0 0, y', ?_, r2, After.ok h st rfl⟩
      rw [← str1 h1]; exact r1
    · exact op_in_str pins s σ H x y v u Q I rx ry ⟨z, y', r1, r2, After.ok h st rfl⟩
  · rename_i ds
    split at hb
    · rename_i w ws q1 q2
      cases hb
      obtain ⟨p, xs, rfl, n1, h1, q⟩ := r2
      obtain ⟨e1, f1⟩ := toV_rep q1 r1
      obtain ⟨e2, f2⟩ := toVs_rep q2 q
      subst e1 e2
      exact op_in_seq pins s σ H _ _ v u Q I rx ry ⟨p, xs, rfl, .inl (SqL.of h1), f1, f2, After.ok h st rfl⟩
    · cases hb
  · rename_i ds
    split at hb
    · rename_i w ws q1 q2
      cases hb
      obtain ⟨p, xs, rfl, h1, q⟩ := r2
      obtain ⟨e1, f1⟩ := toV_rep q1 r1
      obtain ⟨e2, f2⟩ := toVs_rep q2 q
      subst e1 e2
      exact op_in_seq pins s σ H _ _ v u Q I rx ry ⟨p, xs, rfl, .inr (sqT_of h1), f1, f2, After.ok h st rfl⟩
    · cases hb
  · cases hb
theorem op_oNotIn : OpR X (compareOp .NotIn) (RD X.K oNotIn) := by
  intro pins s σ H x y v u Q I rx ry ⟨W, ρ, σ', O, S, d, e, st, r1, r2, h⟩
  unfold oNotIn at h
  split at h
  case h_2 => exact h.elim
  rename_i b hb
  unfold inD at hb
  split at hb
  · rename_i z y'
    cases hb
    unfold inS at h
    split at h
    · rename_i h1
      refine op_notIn_sign pins s σ H x y v u Q I rx ry ⟨z.cps.getD 0 0, y', ?_, r2, After.ok h st rfl⟩
      rw [← str1 h1]; exact r1
    · exact op_notIn_str pins s σ H x y v u Q I rx ry ⟨z, y', r1, r2, After.ok h st rfl⟩
  · rename_i ds
    split at hb
    · rename_i w ws q1 q2
      cases hb
      obtain ⟨p, xs, rfl, n1, h1, q⟩ := r2
      obtain ⟨e1, f1⟩ := toV_rep q1 r1
      obtain ⟨e2, f2⟩ := toVs_rep q2 q
      subst e1 e2
      exact op_notIn_seq pins s σ H _ _ v u Q I rx ry ⟨p, xs, rfl, .inl (SqL.of h1), f1, f2, After.ok h st rfl⟩
    · cases hb
  · rename_i ds
    split at hb
    · rename_i w ws q1 q2
      cases hb
      obtain ⟨p, xs, rfl, h1, q⟩ := r2
      obtain ⟨e1, f1⟩ := toV_rep q1 r1
      obtain ⟨e2, f2⟩ := toVs_rep q2 q
      subst e1 e2
      exact op_notIn_seq pins s σ H _ _ v u Q I rx ry ⟨p, xs, rfl, .inr (sqT_of h1), f1, f2, After.ok h st rfl⟩
    · cases hb
  · cases hb
/-! ### subscripts -/
/-- the list or tuple at a datum -/
def seqOf (S : Sto) : D → Option (List D)
  | .lst ds => some ds
  | .tup ds => some ds
  | .scr ds => some ds
  | .own k => match S[k]? with
    | some (.lst ds) => some ds
    | _ => none
  | _ => none
theorem seq_rep {K : PySem.W.Frag} {O : Ow} {H : Hp} {ρ : DE.Env} {σ : L2.St} {S : Sto} {d : D} {v : V} {ds : List D} (st : Stt K O H ρ σ S) (e : seqOf S d = some ds) (r : Rep K O H d v) : ∃ p xs, v = .ref p ∧ (SqL K H p xs ∨ SqT K H p xs) ∧ Reps K O H ds xs := by
  cases d <;> simp only [seqOf] at e <;> try cases e
  case tup => obtain ⟨p, xs, rfl, h, q⟩ := r; exact ⟨p, xs, rfl, .inr (sqT_of h), q⟩
  case lst => obtain ⟨p, xs, rfl, _, h, q⟩ := r; exact ⟨p, xs, rfl, .inl (SqL.of h), q⟩
  case scr =>
    obtain ⟨p, xs, rfl, h, q⟩ := r
    refine ⟨p, xs, rfl, .inl ?_, q⟩
    rcases h with ⟨_, h⟩ | h
    · exact .inl h
    · rcases h with h | h
      · rcases h with h | ⟨_, h⟩ <;> cases h
      · exact .inr h
  case own k =>
    obtain ⟨p, h, rfl⟩ := r
    split at e
    · rename_i ds' hk
      cases e
      obtain ⟨xs, h1, q⟩ := st.wf.cell k p _ h hk
      exact ⟨p, xs, rfl, .inl (SqL.of h1), q⟩
    · cases e
def oIx (d e : D) (S : Sto) : RE D := match e with
  | .int i => (match d with
    | .str x => if x.length ≤ cap then (match atI x.cps.toList i with
      | some c => .ok (.str ⟨#[c]⟩) S
      | none => .bad) else .bad
    | d => match seqOf S d with
      | some ds => (match atI ds i with
        | some z => .ok z S
        | none => .bad)
      | none => .bad)
  | _ => .bad
theorem atI_len {α β : Type} {xs : List α} {ys : List β} {i : Int} {z : α} (hl : xs.length = ys.length) (h : atI xs i = some z) : ∃ j : Nat, ixN ys.length i = some j ∧ xs[j]? = some z := by
  unfold atI at h
  rw [hl] at h
  cases q : ixN ys.length i with
  | none => rw [q] at h; cases h
  | some j => rw [q] at h; exact ⟨j, rfl, h⟩
theorem ix_oIx : IxR X (RD X.K oIx) := by
  intro value slice pins s σ H x y v u Q I rx ry ⟨W, ρ, σ', O, S, d, e, st, r1, r2, h⟩ hs
  cases e <;> try exact h.elim
  rename_i i
  have seqc : ∀ ds, seqOf S d = some ds → (∀ z, atI ds i = some z → After X.K W (Rep X.K) ρ σ' O H Q (.ok z S)) → atI ds i ≠ none → wpAny (model X.prog X.w) X.A (subscriptTail value slice v u) (EP X pins σ Q) X.xe s := fun ds e1 hz nn => by
    cases q : atI ds i with
    | none => exact absurd q nn
    | some z =>
      obtain ⟨p, xs, rfl, hs', rs⟩ := seq_rep st e1 r1
      obtain ⟨j, hj, hz'⟩ := atI_len (ys := xs) rs.length q
      obtain ⟨vz, hv, rz⟩ := rs.get hz'
      have ha : atI xs i = some vz := by unfold atI; rw [hj]; exact hv
      have fin := After.ok (hz z q) st rz
      rcases hs' with hs' | hs'
      · exact ix_list value slice pins s σ H _ y v u Q I rx ry ⟨p, xs, i, vz, rfl, r2, hs', ha, fin⟩ hs
      · exact ix_tup value slice pins s σ H _ y v u Q I rx ry ⟨p, xs, i, vz, rfl, r2, hs', ha, fin⟩ hs
  have seqd : (∀ S' , oIx d (.int i) S' = match seqOf S' d with | some ds => (match atI ds i with | some z => .ok z S' | none => .bad) | none => .bad) → wpAny (model X.prog X.w) X.A (subscriptTail value slice v u) (EP X pins σ Q) X.xe s := fun he => by
    rw [he] at h
    cases q : seqOf S d with
    | none => rw [q] at h; exact h.elim
    | some ds =>
      rw [q] at h
      refine seqc ds q (fun z hz => ?_) fun hn => ?_
      · simp only [hz] at h; exact h
      · simp only [hn] at h; exact h.elim
  cases d
  case str z =>
    obtain ⟨hc, h⟩ := After.ite (show After X.K W (Rep X.K) ρ σ' O H Q (if z.length ≤ cap then (match atI z.cps.toList i with | some c => .ok (.str ⟨#[c]⟩) S | none => .bad) else .bad) from h)
    cases q : atI z.cps.toList i with
    | none => rw [q] at h; exact h.elim
    | some c =>
      rw [q] at h
      exact ix_str value slice pins s σ H x y v u Q I rx ry ⟨z, i, c, r1, r2, cap_line hc, q, After.ok h st rfl⟩ hs
  all_goals exact seqd fun _ => rfl
theorem de_ix (ha : DE X W a f) (hb : DE X W b g) (hs : PlainIx b := by exact fun _ _ => rfl) : DE X W (.Subscript a b pos) (dBin oIx f g) := ⟨PE.imp (pe_ix ix_oIx ha.pe hb.pe hs) fun _ _ _ h => bin_imp opD_RD h⟩
/-! ### slices -/
def cutD {α : Type} (xs : List α) (lo hi : Option Int) : List α := (xs.drop (HT.sIx xs.length 0 lo)).take (HT.sIx xs.length xs.length hi - HT.sIx xs.length 0 lo)
def slD (d : D) (lo hi : Option Int) (S : Sto) : RE D := match d with
  | .str x => if x.length ≤ cap then .ok (.str (cutS x lo hi)) S else .bad
  | .tup ds => .ok (.tup (cutD ds lo hi)) S
  | .lst ds => .ok (.lst (cutD ds lo hi)) S
  | _ => .bad
abbrev MO := DE.Env → Sto → RE (Option Int)
def oNoPart : MO := fun _ S => .ok none S
def oPart (f : ME) : MO := fun ρ S => (f ρ S).bind fun d S1 => match d with
  | .int i => .ok (some i) S1
  | _ => .bad
def tO (K : PySem.W.Frag) (W : WX) (f : MO) : TO := fun σ H Q => ∃ O ρ S, Stt K O H ρ σ S ∧ After K W (fun _ _ a b => a = b) ρ σ O H Q (f ρ S)
structure DPo (X : Cx) (W : WX) (e : Option Expr) (f : MO) : Prop where
  po : PO X e (tO X.K W f)
theorem PO.imp {X : Cx} {e : Option Expr} {t t' : TO} (h : PO X e t) (k : ∀ σ H Q, t' σ H Q → t σ H Q) : PO X e t' := ⟨fun pins s σ H Q I q => h.run pins s σ H Q I (k σ H Q q)⟩
theorem dpo_none : DPo X W none oNoPart := ⟨PO.imp po_none fun σ H Q ⟨O, ρ, S, st, h⟩ => After.ok h st rfl⟩
theorem dpo_some (ha : DE X W a f) : DPo X W (some a) (oPart f) := ⟨PO.imp (po_some ha.pe) fun σ H Q ⟨O, ρ, S, st, h⟩ => ⟨O, ρ, S, st, After.seq h fun d S1 O1 H1 v e1 st1 r1 h1 => by
  cases d with
  | int i => exact ⟨i, r1, After.ok h1 st1 rfl⟩
  | _ => exact h1.elim⟩⟩
def dSl (f : ME) (lo hi : MO) : ME := fun ρ S => (f ρ S).bind fun d S1 => (lo ρ S1).bind fun l S2 => (hi ρ S2).bind fun u S3 => slD d l u S3
theorem Reps.cut {K : PySem.W.Frag} {O : Ow} {H : Hp} {ds : List D} {vs : List V} (r : Reps K O H ds vs) (lo hi : Option Int) : Reps K O H (cutD ds lo hi) (cutV vs lo hi) := by
  unfold cutD cutV
  rw [r.length]
  exact (r.drop _).take _
def rSlD (K : PySem.W.Frag) : V → Option Int → Option Int → Hp → VK → Prop := fun x lo hi H Q => ∃ W ρ σ O S d, Stt K O H ρ σ S ∧ Rep K O H d x ∧ After K W (Rep K) ρ σ O H Q (slD d lo hi S)
theorem sl_slD : SlR X (rSlD X.K) := by
  intro pins s σ H x v vl vu lo hi sl Q I rx hsl pl pu ⟨W, ρ, σ', O, S, d, st, r1, h⟩
  cases d <;> try exact h.elim
  case str z =>
    obtain ⟨hc, h⟩ := After.ite (show After X.K W (Rep X.K) ρ σ' O H Q (if z.length ≤ cap then .ok (.str (cutS z lo hi)) S else .bad) from h)
    exact sl_str pins s σ H x v vl vu lo hi sl Q I rx hsl pl pu ⟨z, r1, cap_line hc, After.ok h st rfl⟩
  case tup ds =>
    obtain ⟨p, xs, rfl, h1, q1⟩ := r1
    refine sl_tupA pins s σ H _ v vl vu lo hi sl Q I rx hsl pl pu ⟨p, xs, rfl, sqT_of h1, fun hw => ?_, fun hw t ht => ?_⟩
    · have e : cutD ds lo hi = ds := by
        unfold cutD
        rw [q1.length, hw.1, hw.2]
        simp [← q1.length]
      have h' : After X.K W (Rep X.K) ρ σ' O H Q (.ok (.tup (cutD ds lo hi)) S) := h
      rw [e] at h'
      exact After.ok h' st ⟨p, xs, rfl, h1, q1⟩
    · obtain ⟨e2, st2⟩ := st.new (o := .tup (cutV xs lo hi)) ht
      exact h O _ _ e2 st2 ⟨t, _, rfl, .inl upd_same, (q1.mono (e2.w st.wf)).cut lo hi⟩
  case lst ds =>
    obtain ⟨p, xs, rfl, n1, h1, q1⟩ := r1
    refine sl_list pins s σ H _ v vl vu lo hi sl Q I rx hsl pl pu ⟨p, xs, rfl, SqL.of h1, fun t ht => ?_⟩
    obtain ⟨e2, st2⟩ := st.new (o := .lst (cutV xs lo hi)) ht
    exact h O _ _ e2 st2 ⟨t, _, rfl, st.no ht, upd_same, (q1.mono (e2.w st.wf)).cut lo hi⟩
theorem de_sl {lo hi : Option Expr} {p2 : Pos} {fl fh : MO} (ha : DE X W a f) (hl : DPo X W lo fl) (hh : DPo X W hi fh) : DE X W (.Subscript a (.Slice lo hi none p2) pos) (dSl f fl fh) :=
  ⟨PE.imp (pe_slice sl_slD ha.pe hl.po hh.po) fun σ H Q ⟨O, ρ, S, st, h⟩ => ⟨O, ρ, S, st, After.seq h fun d S1 O1 H1 v e1 st1 r1 h1 => ⟨O1, ρ, S1, st1, After.seq h1 fun l S2 O2 H2 v2 e2 st2 r2 h2 => ⟨O2, ρ, S2, st2, After.seq h2 fun u S3 O3 H3 v3 e3 st3 r3 h3 => by
    subst r2 r3
    exact ⟨W, ρ, σ, O3, S3, d, st3, r1.mono ((e2.trans e3).w st1.wf), h3⟩⟩⟩⟩⟩
end
end DE

set_option maxHeartbeats 4000000
namespace DE
open PySem PySem.Spec PyProof.Rows L2
def RC (K : PySem.W.Frag) (op : FD) : List V → Hp → VK → Prop := fun vs H Q => ∃ W ρ σ O S ds, Stt K O H ρ σ S ∧ Reps K O H ds vs ∧ After K W (Rep K) ρ σ O H Q (op ds S)
theorem caD_RC {X : Cx} {op : FD} : CaD X (RC X.K op) op := fun W ρ σ O H S vs ds Q st r h => ⟨W, ρ, σ, O, S, ds, st, r, h⟩
section
variable {X : Cx} {W : WX} {a b c : Expr} {f g h : ME} {pos : Pos} {es : List Expr} {fa : MA} {e : Expr} {x : Str} {p : Pos}
theorem de_bf {id : String} {op : FD} (hc : CallR X (.builtin id) (RC X.K op)) (hg : Gl X x) (hm : X.mg x = none) (hv : bootBuiltins x = some (.builtin id)) (ha : DA X W (e :: es) fa) (hn : x ≠ "__name__" := by decide) (hdb : (x == ("__debug__" : Str)) = false := by decide)
    (he : starEach (e :: es) X.env = (false, eval e X.env) :: starEach es X.env := by rfl) (hpl : (backTo pos (starEach es X.env)).any (·.1) = false := by rfl) : DE X W (.Call (.Name x p) (e :: es) [] pos) (dBlt op fa) := de_blt hc caD_RC hg hm hv ha hn hdb he hpl
theorem de_bt {T : String} {op : FD} (hc : CallR X (.type T) (RC X.K op)) (hg : Gl X x) (hm : X.mg x = none) (hv : bootBuiltins x = some (.type T)) (ha : DA X W (e :: es) fa) (hn : x ≠ "__name__" := by decide) (hdb : (x == ("__debug__" : Str)) = false := by decide)
    (he : starEach (e :: es) X.env = (false, eval e X.env) :: starEach es X.env := by rfl) (hpl : (backTo pos (starEach es X.env)).any (·.1) = false := by rfl) : DE X W (.Call (.Name x p) (e :: es) [] pos) (dBlt op fa) := de_bty hc caD_RC hg hm hv ha hn hdb he hpl
/-! ### len -/
def oLen : FD := fun ds S => match ds with
  | [d] => (match d with
    | .str z => if z.length ≤ cap then .ok (.int z.length) S else .bad
    | d => match seqOf S d with
      | some ds => .ok (.int ds.length) S
      | none => .bad)
  | _ => .bad
theorem RepK.length {K : PySem.W.Frag} {O : Ow} {H : Hp} : ∀ {ds : List (Key × D)} {vs : List (Key × V)}, RepK K O H ds vs → ds.length = vs.length
  | [], _, h => by cases h; rfl
  | (_, _) :: _, _, h => by
    obtain ⟨v, r, rfl, _, h2⟩ := h
    simp [RepK.length h2]
theorem c_oLen : CallR X (.builtin "len") (RC X.K oLen) := by
  intro pins s σ H vs us Q I rv ⟨W, ρ, σ', O, S, ds, st, r, h⟩
  rcases ds with _ | ⟨d, _ | ⟨_, _⟩⟩
  · exact h.elim
  · obtain ⟨v, rfl, r1⟩ := r.one
    have seqc : oLen [d] S = (match seqOf S d with | some ds => .ok (.int ds.length) S | none => .bad) → wpAny (model X.prog X.w) X.A (call (.builtin "len") us) (EP X pins σ Q) X.xe s := fun he => by
      rw [he] at h
      cases q : seqOf S d with
      | none => rw [q] at h; exact h.elim
      | some es =>
        rw [q] at h
        obtain ⟨p, xs, rfl, hs', rs⟩ := seq_rep st q r1
        exact call_len_seq pins s σ H _ us Q I rv ⟨p, xs, rfl, hs', by rw [← rs.length]; exact After.ok h st rfl⟩
    cases d
    case str z =>
      obtain ⟨hc, h⟩ := After.ite (show After X.K W (Rep X.K) ρ σ' O H Q (if z.length ≤ cap then .ok (.int z.length) S else .bad) from h)
      exact call_len pins s σ H _ us Q I rv ⟨v, z.length, rfl, by cases (show v = V.str z from r1); exact ⟨cap_line hc, rfl⟩, After.ok h st rfl⟩
    all_goals exact seqc rfl
  · exact h.elim
/-! ### isinstance -/
def tyName : D → Option String
  | .non => some "NoneType"
  | .bl _ => some "bool"
  | .int _ => some "int"
  | .str _ => some "str"
  | .tup _ => some "tuple"
  | .lst _ => some "list"
  | .dK _ => some "dict"
  | _ => none
def tyList : List String := ["NoneType", "bool", "int", "str", "tuple", "list", "dict"]
def subT (a n : String) : Bool := a == n || (a == "bool" && n == "int")
theorem kit_sub : ∀ a ∈ tyList, ∀ n ∈ tyList, kitB a n = some (subT a n) := by decide +kernel
def tyNamesOf : List D → Option (List String)
  | [] => some []
  | .ty n :: ds => if n ∈ tyList then (tyNamesOf ds).map (n :: ·) else none
  | _ => none
def oIsi : FD := fun ds S => match ds with
  | [d, .ty n] => (match tyName d with
    | some a => if n ∈ tyList then .ok (.bl (subT a n)) S else .bad
    | none => .bad)
  | [d, .tup ts] => (match tyName d, tyNamesOf ts with
    | some a, some ns => .ok (.bl (ns.any (subT a))) S
    | _, _ => .bad)
  | _ => .bad
theorem tyName_in {d : D} {a : String} (h : tyName d = some a) : a ∈ tyList := by
  cases d <;> simp only [tyName] at h <;> cases h <;> decide
theorem tyName_rep {K : PySem.W.Frag} {O : Ow} {H : Hp} {d : D} {v : V} {a : String} (h : tyName d = some a) (r : Rep K O H d v) : TyX K H v (.type a) := by
  cases d <;> simp only [tyName] at h <;> cases h
  case non => cases (show v = _ from r); exact .base .non
  case bl => cases (show v = _ from r); exact .base (.bl _)
  case int => cases (show v = _ from r); exact .base (.int _)
  case str => cases (show v = _ from r); exact .base (.str _)
  case tup =>
    obtain ⟨p, xs, rfl, h1, _⟩ := r
    rcases h1 with h1 | (h1 | ⟨o, h1⟩) | ⟨o, its, n, h1, h2, _⟩
    · exact .base (.tup h1)
    · cases h1
    · cases h1
    · exact .kTuple h1 h2
  case lst => obtain ⟨p, xs, rfl, _, h1, _⟩ := r; exact .base (.lst h1)
  case dK =>
    obtain ⟨p, xs, rfl, _, h1, _⟩ := r
    rcases h1 with h1 | ⟨o, h1⟩
    · exact .base (.dK h1)
    · exact .fDict h1
theorem tyNames_v {K : PySem.W.Frag} {O : Ow} {H : Hp} : ∀ {ts : List D} {ns : List String} {vs : List V}, tyNamesOf ts = some ns → Reps K O H ts vs → Paired ClsV vs (ns.map Value.type) ∧ ∀ n ∈ ns, n ∈ tyList
  | [], _, _, e, r => by cases e; cases r; exact ⟨.nil, fun _ h => by cases h⟩
  | t :: ts, _, _, e, r => by
    obtain ⟨v, vr, rfl, r1, r2⟩ := r
    cases t <;> simp only [tyNamesOf] at e <;> try cases e
    rename_i n
    split at e
    · rename_i hn
      cases q : tyNamesOf ts with
      | none => rw [q] at e; cases e
      | some ns =>
        rw [q] at e; cases e
        obtain ⟨h1, h2⟩ := tyNames_v q r2
        cases (show v = _ from r1)
        exact ⟨.cons (.ty n) h1, fun m hm => by
          rcases List.mem_cons.mp (show m ∈ n :: ns from hm) with e | hm
          · rw [e]; exact hn
          · exact h2 m hm⟩
    · cases e
theorem kitAny_sub {K : PySem.W.Frag} {a : String} (ha : a ∈ tyList) : ∀ {ns : List String}, (∀ n ∈ ns, n ∈ tyList) → PySem.W.kitAny K (.type a) (ns.map Value.type) = some (ns.any (subT a))
  | [], _ => rfl
  | n :: ns, h => by
    have h1 := kit_ty (K := K) (kit_sub a ha n (h n List.mem_cons_self))
    refine kitAny_cons h1 (fun hb => ?_) fun hb => ?_
    · rw [List.any_cons, hb, Bool.false_or]
      exact kitAny_sub ha fun m hm => h m (List.mem_cons_of_mem _ hm)
    · rw [List.any_cons, hb, Bool.true_or]
theorem c_oIsi : CallR X (.builtin "isinstance") (RC X.K oIsi) := by
  intro pins s σ H vs us Q I rv ⟨W, ρ, σ', O, S, ds, st, r, h⟩
  rcases ds with _ | ⟨d, _ | ⟨d2, _ | ⟨d3, ds⟩⟩⟩
  · exact h.elim
  · exact h.elim
  · obtain ⟨v, u, rfl, r1, r2⟩ := r.two
    cases d2 <;> try exact h.elim
    case ty n =>
      have h' : After X.K W (Rep X.K) ρ σ' O H Q (match tyName d with | some a => if n ∈ tyList then .ok (.bl (subT a n)) S else .bad | none => .bad) := h
      cases q : tyName d with
      | none => rw [q] at h'; exact h'.elim
      | some a =>
        rw [q] at h'
        obtain ⟨hn, h'⟩ := After.ite h'
        exact call_isi pins s σ H _ us Q I rv ⟨v, u, _, _, _, rfl, by cases (show u = _ from r2); exact .ty n, tyName_rep q r1, kit_ty (kit_sub a (tyName_in q) n hn), After.ok h' st rfl⟩
    case tup ts =>
      have h' : After X.K W (Rep X.K) ρ σ' O H Q (match tyName d, tyNamesOf ts with | some a, some ns => .ok (.bl (ns.any (subT a))) S | _, _ => .bad) := h
      cases q : tyName d with
      | none => rw [q] at h'; exact h'.elim
      | some a =>
        cases q2 : tyNamesOf ts with
        | none => rw [q, q2] at h'; exact h'.elim
        | some ns =>
          rw [q, q2] at h'
          obtain ⟨p, xs, rfl, h1, h2⟩ := r2
          obtain ⟨k1, k2⟩ := tyNames_v q2 h2
          rcases h1 with h1 | (h1 | ⟨o, h1⟩) | ⟨o, its, n, h1, h2, h3, h4, h5⟩
          · exact call_isiT pins s σ H _ us Q I rv ⟨v, p, xs, _, _, _, rfl, h1, k1, tyName_rep q r1, kitAny_sub (tyName_in q) k2, After.ok h' st rfl⟩
          · cases h1
          · cases h1
          · obtain ⟨oc, od, dt, sl⟩ := o
            simp only at h2 h3
            subst h2 h3
            have e3 := ClsV.all k1 h5
            have e4 : its = (ns.map Value.type).toArray := by rw [← e3]
            subst e4
            exact call_isiK pins s σ H _ us Q I rv ⟨v, p, od, ns.map Value.type, n, sl, _, _, rfl, h1, tyName_rep q r1, kitAny_sub (tyName_in q) k2, After.ok h' st rfl⟩
  · cases d2 <;> exact h.elim
/-! ### all, any, min, max -/
def blsOf : List D → Option (List Bool)
  | [] => some []
  | .bl b :: ds => (blsOf ds).map (b :: ·)
  | _ => none
def oAll : FD := fun ds S => match ds with
  | [.lst xs] => (match blsOf xs with
    | some bs => .ok (.bl (bs.all id)) S
    | none => .bad)
  | _ => .bad
def oAny : FD := fun ds S => match ds with
  | [.lst xs] => (match blsOf xs with
    | some bs => .ok (.bl (bs.any id)) S
    | none => .bad)
  | _ => .bad
theorem bls_rep {K : PySem.W.Frag} {O : Ow} {H : Hp} : ∀ {ds : List D} {bs : List Bool} {vs : List V}, blsOf ds = some bs → Reps K O H ds vs → vs = bs.map V.bl
  | [], _, _, e, r => by cases e; cases r; rfl
  | d :: ds, _, _, e, r => by
    obtain ⟨v, vr, rfl, r1, r2⟩ := r
    cases d <;> simp only [blsOf] at e <;> try cases e
    cases q : blsOf ds with
    | none => rw [q] at e; cases e
    | some bs => rw [q] at e; cases e; rw [show v = _ from r1, bls_rep q r2]; rfl
theorem c_oAll (hc : X.calm = true) : CallR X (.builtin "all") (RC X.K oAll) := by
  intro pins s σ H vs us Q I rv ⟨W, ρ, σ', O, S, ds, st, r, h⟩
  unfold oAll at h
  split at h
  · rename_i xs
    obtain ⟨v, rfl, r1⟩ := r.one
    split at h
    · rename_i bs hb
      obtain ⟨p, ys, rfl, n, h1, h2⟩ := r1
      have e := bls_rep hb h2
      subst e
      exact cr_all hc pins s σ H _ us Q I rv ⟨p, bs, rfl, SqL.of h1, After.ok h st rfl⟩
    · exact h.elim
  · exact h.elim
theorem c_oAny (hc : X.calm = true) : CallR X (.builtin "any") (RC X.K oAny) := by
  intro pins s σ H vs us Q I rv ⟨W, ρ, σ', O, S, ds, st, r, h⟩
  unfold oAny at h
  split at h
  · rename_i xs
    obtain ⟨v, rfl, r1⟩ := r.one
    split at h
    · rename_i bs hb
      obtain ⟨p, ys, rfl, n, h1, h2⟩ := r1
      have e := bls_rep hb h2
      subst e
      exact cr_any hc pins s σ H _ us Q I rv ⟨p, bs, rfl, SqL.of h1, After.ok h st rfl⟩
    · exact h.elim
  · exact h.elim
def oMax : FD := fun ds S => match ds with
  | [.int i, .int j] => .ok (.int (if j > i then j else i)) S
  | _ => .bad
def oMin : FD := fun ds S => match ds with
  | [.int i, .int j] => .ok (.int (if j < i then j else i)) S
  | _ => .bad
theorem c_oMax (hc : X.calm = true) : CallR X (.builtin "max") (RC X.K oMax) := by
  intro pins s σ H vs us Q I rv ⟨W, ρ, σ', O, S, ds, st, r, h⟩
  unfold oMax at h
  split at h
  · rename_i i j
    obtain ⟨v, u, rfl, r1, r2⟩ := r.two
    exact call_max2 hc pins s σ H _ us Q I rv ⟨i, j, by rw [show v = _ from r1, show u = _ from r2], After.ok h st rfl⟩
  · exact h.elim
theorem c_oMin (hc : X.calm = true) : CallR X (.builtin "min") (RC X.K oMin) := by
  intro pins s σ H vs us Q I rv ⟨W, ρ, σ', O, S, ds, st, r, h⟩
  unfold oMin at h
  split at h
  · rename_i i j
    obtain ⟨v, u, rfl, r1, r2⟩ := r.two
    exact call_min2 hc pins s σ H _ us Q I rv ⟨i, j, by rw [show v = _ from r1, show u = _ from r2], After.ok h st rfl⟩
  · exact h.elim
/-! ### repr of a truth value, list(..), tuple(..) -/
def reprB (b : Bool) : Str := if b then "True" else "False"
def oReprB : FD := fun ds S => match ds with
  | [.bl b] => .ok (.str (reprB b)) S
  | _ => .bad
theorem c_oReprB : CallR X (.builtin "repr") (RC X.K oReprB) := by
  intro pins s σ H vs us Q I rv ⟨W, ρ, σ', O, S, ds, st, r, h⟩
  unfold oReprB at h
  split at h
  · rename_i b
    obtain ⟨v, rfl, r1⟩ := r.one
    obtain ⟨u, rfl, ru⟩ := vals1 rv
    cases (show v = _ from r1)
    cases (show u = _ from ru)
    exact PySem.P.repr_of_bool ⟨.str _, H, I.tok _, ⟨_, rfl⟩, After.ok h st rfl⟩
  · exact h.elim
def oList : FD := fun ds S => match ds with
  | [d] => (match seqOf S d with
    | some xs => .ok (.lst xs) S
    | none => .bad)
  | _ => .bad
theorem c_oList : CallR X (.type "list") (RC X.K oList) := by
  intro pins s σ H vs us Q I rv ⟨W, ρ, σ', O, S, ds, st, r, h⟩
  unfold oList at h
  split at h
  · rename_i d
    obtain ⟨v, rfl, r1⟩ := r.one
    split at h
    · rename_i xs hx
      obtain ⟨p, ys, rfl, hs, rs⟩ := seq_rep st hx r1
      refine call_list_of pins s σ H _ us Q I rv ⟨p, ys, rfl, hs, fun l hl => ?_⟩
      obtain ⟨e2, st2⟩ := st.new (o := .lst ys) hl
      exact h O _ _ e2 st2 ⟨l, _, rfl, st.no hl, upd_same, rs.mono (e2.w st.wf)⟩
    · exact h.elim
  · exact h.elim
def listAt (S : Sto) : D → Option (List D)
  | .lst ds => some ds
  | .scr ds => some ds
  | .own k => match S[k]? with
    | some (.lst ds) => some ds
    | _ => none
  | _ => none
theorem list_rep {K : PySem.W.Frag} {O : Ow} {H : Hp} {ρ : DE.Env} {σ : L2.St} {S : Sto} {d : D} {v : V} {ds : List D} (st : Stt K O H ρ σ S) (e : listAt S d = some ds) (r : Rep K O H d v) : ∃ p xs, v = .ref p ∧ SqL K H p xs ∧ Reps K O H ds xs := by
  cases d
  case lst => cases e; obtain ⟨p, xs, rfl, _, h, q⟩ := r; exact ⟨p, xs, rfl, SqL.of h, q⟩
  case scr =>
    cases e
    obtain ⟨p, xs, rfl, h, q⟩ := r
    exact ⟨p, xs, rfl, sqL_of (h.imp (fun z => z.2) id), q⟩
  case own k =>
    obtain ⟨p, h, rfl⟩ := r
    simp only [listAt] at e
    split at e
    · rename_i ds' hk
      cases e
      obtain ⟨xs, h1, q⟩ := st.wf.cell k p _ h hk
      exact ⟨p, xs, rfl, SqL.of h1, q⟩
    · cases e
  all_goals (simp only [listAt] at e; cases e)
def oTuple : FD := fun ds S => match ds with
  | [.tup xs] => .ok (.tup xs) S
  | [d] => (match listAt S d with
    | some xs => .ok (.tup xs) S
    | none => .bad)
  | _ => .bad
theorem c_oTuple : CallR X (.type "tuple") (RC X.K oTuple) := by
  intro pins s σ H vs us Q I rv ⟨W, ρ, σ', O, S, ds, st, r, h⟩
  unfold oTuple at h
  split at h
  · obtain ⟨v, rfl, r1⟩ := r.one
    obtain ⟨p, ys, rfl, h1, q⟩ := r1
    exact call_tuple_of pins s σ H _ us Q I rv ⟨p, ys, rfl, .inr ⟨sqT_of h1, After.ok h st ⟨p, ys, rfl, h1, q⟩⟩⟩
  · obtain ⟨v, rfl, r1⟩ := r.one
    split at h
    · rename_i xs hx
      obtain ⟨p, ys, rfl, hs, rs⟩ := list_rep st hx r1
      refine call_tuple_of pins s σ H _ us Q I rv ⟨p, ys, rfl, .inl ⟨hs, fun l hl => ?_⟩⟩
      obtain ⟨e2, st2⟩ := st.new (o := .tup ys) hl
      exact h O _ _ e2 st2 ⟨l, _, rfl, .inl upd_same, rs.mono (e2.w st.wf)⟩
    · exact h.elim
  · exact h.elim
end
/-! ### methods of texts -/
section
variable {X : Cx} {W : WX} {o e : Expr} {f g : ME} {apos pos : Pos}
/-- a method of one argument of a text -/
def dM1 (op : Str → D → Sto → RE D) (f g : ME) : ME := fun ρ S => (f ρ S).bind fun d S1 => match d with
  | .str x => (g ρ S1).bind fun e S2 => op x e S2
  | _ => .bad
def M1D (K : PySem.W.Frag) (r : V → List V → Hp → VK → Prop) (op : Str → D → Sto → RE D) : Prop :=
  ∀ (W : WX) (ρ : DE.Env) (σ : L2.St) (O : Ow) (H : Hp) (S : Sto) (x : Str) (y : V) (e : D) (Q : VK), Stt K O H ρ σ S → Rep K O H e y → After K W (Rep K) ρ σ O H Q (op x e S) → r (.str x) [y] H Q
theorem m1_imp {r : V → List V → Hp → VK → Prop} {op : Str → D → Sto → RE D} (ho : M1D X.K r op) {σ : L2.St} {H : Hp} {Q : VK} (h : tE X.K W (dM1 op f g) σ H Q) : tM1 r (tE X.K W f) (tE X.K W g) σ H Q := by
  obtain ⟨O, ρ, S, st, h⟩ := h
  refine ⟨O, ρ, S, st, After.seq h fun d S1 O1 H1 v e1 st1 r1 h1 => ?_⟩
  cases d <;> try exact h1.elim
  cases (show v = _ from r1)
  exact ⟨⟨_, rfl⟩, O1, ρ, S1, st1, After.seq h1 fun e S2 O2 H2 y e2 st2 r2 h2 => ho W ρ σ O2 H2 S2 _ y e Q st2 r2 h2⟩
def strsOf : List D → Option (List Str)
  | [] => some []
  | .str x :: ds => (strsOf ds).map (x :: ·)
  | _ => none
theorem strs_rep {K : PySem.W.Frag} {O : Ow} {H : Hp} : ∀ {ds : List D} {bs : List Str} {vs : List V}, strsOf ds = some bs → Reps K O H ds vs → vs = bs.map V.str
  | [], _, _, e, r => by cases e; cases r; rfl
  | d :: ds, _, _, e, r => by
    obtain ⟨v, vr, rfl, r1, r2⟩ := r
    cases d <;> simp only [strsOf] at e <;> try cases e
    cases q : strsOf ds with
    | none => rw [q] at e; cases e
    | some bs => rw [q] at e; cases e; rw [show v = _ from r1, strs_rep q r2]; rfl
def oJoin (x : Str) (d : D) (S : Sto) : RE D := match seqOf S d with
  | some ds => (match strsOf ds with
    | some ys => if (ys.map (·.length)).sum + ys.length * x.length ≤ cap then .ok (.str (Txt.join x ys)) S else .bad
    | none => .bad)
  | none => .bad
theorem de_join (ho : DE X W o f) (he : DE X W e g) (hs : starEach [e] X.env = [(false, eval e X.env)] := by rfl) (hbase : attributeBase o "join" X.env (eval o X.env) = eval o X.env := by rfl) (hline : (apos.endLine == pos.line) = true := by rfl) :
    DE X W (.Call (.Attribute o "join" apos) [e] [] pos) (dM1 oJoin f g) :=
  ⟨PE.imp (pe_join ho.pe he.pe hs hbase hline) fun _ _ _ h => m1_imp (fun W ρ σ O H S x y e Q st r h => by
    unfold oJoin at h
    split at h
    · rename_i ds hd
      split at h
      · rename_i ys hy
        obtain ⟨hc, h⟩ := After.ite h
        obtain ⟨p, xs, rfl, hs, rs⟩ := seq_rep st hd r
        have e := strs_rep hy rs
        subst e
        exact ⟨x, p, ys, rfl, rfl, hs, Nat.le_trans hc (by decide), After.ok h st rfl⟩
      · exact h.elim
    · exact h.elim) h⟩
end
end DE

set_option maxHeartbeats 4000000
namespace DE
open PySem PySem.Spec PyProof.Rows L2
section
variable {X : Cx} {W : WX} {o e i : Expr} {es : List Expr} {f g h : ME} {fa : MA} {apos pos p2 : Pos}
/-- xs.append(e), xs a list that changes -/
def dApp (f : ME) (g : MA) : ME := fun ρ S => (f ρ S).bind fun d S1 => match d with
  | .own k => (match S1[k]? with
    | some (.lst _) => (g ρ S1).bind fun es S2 => (match es, S2[k]? with
      | [e], some (.lst ds) => if ds.length < cap then .ok .non (S2.set k (.lst (ds ++ [e]))) else .bad
      | _, _ => .bad)
    | _ => .bad)
  | _ => .bad
theorem de_app (ho : DE X W o f) (ha : DA X W (e :: es) fa)
    (hbase : attributeBase o "append" X.env (eval o X.env) = eval o X.env := by rfl)
    (hfew : ((backTo pos (starEach (e :: es) X.env)).all (fun x => !x.1) && (backToKw pos (keywordEach [] X.env)).all (fun x => x.1.isSome)
      && decide ((e :: es).length + ([] : List Keyword).length + (if ([] : List Keyword).isEmpty then 0 else 1) < 30)) = true := by rfl)
    (hline : (apos.endLine == pos.line) = true := by rfl) (hs : starEach (e :: es) X.env = (false, eval e X.env) :: starEach es X.env := by rfl) (hplain : (backTo pos (starEach es X.env)).any (·.1) = false := by rfl) :
    DE X W (.Call (.Attribute o "append" apos) (e :: es) [] pos) (dApp f fa) :=
  ⟨PE.imp (pe_bm PySem.F.plainAttrs_list PySem.F.slot_list_append PySem.F.type_list_append mt_append ho.pe ha.pa hbase hfew hline hs hplain) fun σ H Q ⟨O, ρ, S, st, h⟩ => ⟨O, ρ, S, st, After.seq h fun d S1 O1 H1 v e1 st1 r1 h1 => by
    cases d <;> try exact h1.elim
    rename_i k
    obtain ⟨a, ha, rfl⟩ := r1
    have h1' : After X.K W (Rep X.K) ρ σ O1 H1 Q (match S1[k]? with
      | some (.lst _) => (fa ρ S1).bind fun es S2 => (match es, S2[k]? with
        | [e], some (.lst ds) => if ds.length < cap then .ok .non (S2.set k (.lst (ds ++ [e]))) else .bad
        | _, _ => .bad)
      | _ => .bad) := h1
    split at h1'
    · rename_i ds hk
      obtain ⟨xs, hx, rx⟩ := st1.wf.cell k a _ ha hk
      refine ⟨.inl ⟨rfl, xs, SqL.of hx⟩, O1, ρ, S1, st1, After.seq h1' fun es S2 O2 H2 vs e2 st2 r2 h2 => ?_⟩
      split at h2
      · rename_i z ds2 hk2
        obtain ⟨v, rfl, rv⟩ := r2.one
        obtain ⟨hc, h2⟩ := After.ite h2
        have ha2 := e2.at ha
        obtain ⟨ys, hy, ry⟩ := st2.wf.cell k a _ ha2 hk2
        refine ⟨a, ys, v, rfl, rfl, hy, by rw [← ry.length]; exact cap_lt hc, ?_⟩
        obtain ⟨e3, st3⟩ := st2.mut (o := .lst (ys ++ [v])) (d := .lst (ds2 ++ [z])) ha2 fun e3 => ⟨_, upd_same, (ry.mono (e3.w st2.wf)).append ⟨v, [], rfl, rv.mono (e3.w st2.wf), rfl⟩⟩
        exact h2 O2 _ _ e3 st3 rfl
      · exact h2.elim
    · exact h1'.elim⟩⟩
/-- xs[i] = e, xs a list that changes -/
def sSetIx (f fo fi : ME) : MS := fun ρ S => (f ρ S).stm ρ fun d S1 => (fo ρ S1).stm ρ fun o S2 => (fi ρ S2).stm ρ fun i S3 => match o, i with
  | .own k, .int n => (match S3[k]? with
    | some (.lst ds) => (match ixN ds.length n with
      | some j => .nx ρ (S3.set k (.lst (ds.set j d)))
      | none => .bad)
    | _ => .bad)
  | _, _ => .bad
theorem ds_setIx (he : DE X W e f) (ho : DE X W o g) (hi : DE X W i h) (hs : swapsWithSole [.Subscript o i p2] e pos.line X.env = pure false := by rfl) (hw : swappedStores [.Subscript o i p2] e X.env = pure none := by rfl) (h1 : (assignEach [.Subscript o i p2] X.env).map (·.2) = [assign (.Subscript o i p2) X.env] := by rfl)
    (harm : ∀ v, assign (.Subscript o i p2) X.env v = (do let ov ← holding [v] (eval o X.env); let iv ← holding [v, ov] (eval i X.env); standAt p2; holding [v, ov, iv] (setItem ov iv v); release [v, ov, iv] []) := by intro _; rfl) :
    DS X W (.Assign [.Subscript o i p2] e pos) (sSetIx f g h) :=
  ⟨PS.imp (ps_asg he.pe (pg_sub ho.pe hi.pe set_list harm) hs hw h1) fun D' σ H ⟨O, ρ, S, st, h⟩ => ⟨O, ρ, S, st, AfterS.seqE h fun d S1 O1 H1 v e1 st1 r1 h1 => ⟨O1, ρ, S1, st1, AfterS.seqE h1 fun od S2 O2 H2 vo e2 st2 r2 h2 => ⟨O2, ρ, S2, st2, AfterS.seqE h2 fun idt S3 O3 H3 vi e3 st3 r3 h3 => by
    cases od <;> try exact h3.elim
    cases idt <;> try exact h3.elim
    rename_i k n
    have h4 : AfterS X.K W D' O3 H3 (match S3[k]? with | some (.lst ds) => (match ixN ds.length n with | some j => .nx ρ (S3.set k (.lst (ds.set j d))) | none => .bad) | _ => .bad) := h3
    obtain ⟨a, ha, rfl⟩ := r2
    split at h4
    · rename_i ds hk
      split at h4
      · rename_i j hj
        have ha3 := e3.at ha
        obtain ⟨ys, hy, ry⟩ := st3.wf.cell k a _ ha3 hk
        refine ⟨a, ys, n, j, rfl, r3, hy, by rw [← ry.length]; exact hj, ?_⟩
        have r1' := r1.mono ((e2.trans e3).w st1.wf)
        obtain ⟨e5, st5⟩ := st3.mut (o := .lst (ys.set j v)) (d := .lst (ds.set j d)) ha3 fun e5 => ⟨_, upd_same, Reps.set (r1'.mono (e5.w st3.wf)) j (ry.mono (e5.w st3.wf))⟩
        exact h4 O3 _ σ e5 st5
      · exact h4.elim
    · exact h4.elim⟩⟩⟩⟩
theorem chain_imp {o1 o2 : D → D → Sto → RE D} {σ : L2.St} {H : Hp} {Q : VK} (hq : tE X.K W (dChain o1 o2 f g h) σ H Q) :
    tE X.K W f σ H fun x H1 => tE X.K W g σ H1 fun y H2 => RD X.K o1 x y H2 fun z H3 => ∃ k, z = .bl k ∧ if k = true then tE X.K W h σ H3 fun w H4 => RD X.K o2 y w H4 Q else Q (.bl false) H3 := by
  obtain ⟨O, ρ, S, st, hq⟩ := hq
  refine ⟨O, ρ, S, st, After.seq hq fun x S1 O1 H1 v1 e1 st1 r1 h1 => ⟨O1, ρ, S1, st1, After.seq h1 fun y S2 O2 H2 v2 e2 st2 r2 h2 => ?_⟩⟩
  refine ⟨W, ρ, σ, O2, S2, x, y, st2, r1.mono (e2.w st1.wf), r2, After.seq h2 fun d S3 O3 H3 v3 e3 st3 r3 h3 => ?_⟩
  cases d <;> try exact h3.elim
  rename_i k
  refine ⟨k, r3, ?_⟩
  cases k with
  | true => exact iteT ⟨O3, ρ, S3, st3, After.seq h3 fun z S4 O4 H4 v4 e4 st4 r4 h4 => ⟨W, ρ, σ, O4, S4, y, z, st4, r2.mono ((e3.trans e4).w st2.wf), r4, h4⟩⟩
  | false => exact iteF (After.ok h3 st3 rfl)
theorem de_chain {a b c : Expr} {op op' : CmpOp} {o1 o2 : D → D → Sto → RE D} (h1 : OpR X (compareOp op) (RD X.K o1)) (h2 : OpR X (compareOp op') (RD X.K o2)) (ha : DE X W a f) (hb : DE X W b g) (hc : DE X W c h)
    (hm : lastMarks [op, op'] [b, c] = false := by with_unfolding_all rfl) : DE X W (.Compare a [op, op'] [b, c] pos) (dChain o1 o2 f g h) := ⟨PE.imp (pe_chain h1 h2 ha.pe hb.pe hc.pe hm) fun _ _ _ q => chain_imp q⟩
theorem dt_chain {a b c : Expr} {op op' : CmpOp} {o1 o2 : D → D → Sto → RE D} (h1 : OpR X (compareOp op) (RD X.K o1)) (h2 : OpR X (compareOp op') (RD X.K o2)) (ha : DE X W a f) (hb : DE X W b g) (hc : DE X W c h)
    (hm : lastMarks [op, op'] [b, c] = false := by with_unfolding_all rfl) : DT X W (.Compare a [op, op'] [b, c] pos) (dTest (dChain o1 o2 f g h)) := ⟨PT.imp (pt_chain h1 h2 ha.pe hb.pe hc.pe hm) fun _ _ _ q => test_imp (fun _ _ _ z => chain_imp z) q⟩
/-! ### -e -/
def dNeg (f : ME) : ME := fun ρ S => (f ρ S).bind fun d S1 => match d with
  | .int i => .ok (.int (-i)) S1
  | _ => .bad
theorem de_neg (ha : DE X W e f) : DE X W (.UnaryOp .USub e pos) (dNeg f) := ⟨PE.imp (pe_un un_neg ha.pe) fun σ H Q ⟨O, ρ, S, st, h⟩ => ⟨O, ρ, S, st, After.seq h fun d S1 O1 H1 v e1 st1 r1 h1 => by
  cases d <;> try exact h1.elim
  exact ⟨_, r1, After.ok h1 st1 rfl⟩⟩⟩
/-- an empty dict -/
def dDictE : ME := fun _ S => .ok (.dK []) S
theorem de_dict0 : DE X W (.Dict [] [] pos) dDictE := ⟨PE.imp pe_dnewK fun σ H Q ⟨O, ρ, S, st, h⟩ => fun p hp => by
  obtain ⟨e2, st2⟩ := st.new (o := .dK []) hp
  exact h O _ _ e2 st2 ⟨p, [], rfl, st.no hp, .inl upd_same, rfl⟩⟩
end
/-! ### short words -/
section
variable {X : Cx} {W : WX} {x : Str} {pos : Pos}
theorem dv (i : Nat) (hN : X.N[i]? = some x := by rfl) (hv : Vis X.env.scope x := by first | exact Or.inl rfl | exact Or.inr (Or.inl rfl) | exact Or.inr (Or.inr rfl)) (hd : (x == ("__debug__" : Str)) = false := by decide) (hcd : (x == ("__classdict__" : Str)) = false := by decide) : DE X W (.Name x pos) (dVar i) := de_var i hN hv hd hcd
theorem de_gstr {z : Str} (h : ∃ t, X.mg x = some (.str z t)) (hg : Gl X x := by rfl) (hd : (x == ("__debug__" : Str)) = false := by decide) : DE X W (.Name x pos) (dC (.str z)) := by
  obtain ⟨t, h⟩ := h
  exact de_glob (v := .str z) hg h ⟨t, rfl⟩ (fun _ _ => rfl) hd
theorem de_gint {z : Int} (h : ∃ t, X.mg x = some (.int z t)) (hg : Gl X x := by rfl) (hd : (x == ("__debug__" : Str)) = false := by decide) : DE X W (.Name x pos) (dC (.int z)) := by
  obtain ⟨t, h⟩ := h
  exact de_glob (v := .int z) hg h ⟨t, rfl⟩ (fun _ _ => rfl) hd
end
/-! ### defs by their names -/
section
variable {P : Program} {w : World} {K : PySem.W.Frag} {mg : Str → Option Value} {base : Heap}
structure Fn (P : Program) (w : World) (K : PySem.W.Frag) (mg : Str → Option Value) (base : Heap) (k : Nat) (x : Str) (n : Nat) (F : FD) : Prop where
  ok : ∃ fd ps, FnOk P w K mg base (L2.CX P w) k (He.ga K x) fd ps (spD K n F) ∧ Binds K fd ps []
  gl : mg x = some (.ref (He.ga K x))
  kp : PySem.W.keepIn K (.ref (He.ga K x)) = true
theorem Fn.imp {k n : Nat} {x : Str} {F G : FD} (h : Fn P w K mg base k x n F) (hk : ∀ ds S, G ds S ≠ .bad → F ds S = G ds S) : Fn P w K mg base k x n G := by
  obtain ⟨⟨fd, ps, h1, h2⟩, h3, h4⟩ := h
  refine ⟨⟨fd, ps, h1.imp (fun vs H Q E hh => ?_), h2⟩, h3, h4⟩
  obtain ⟨O, S, ds, wf, r, hl, h⟩ := hh
  refine ⟨O, S, ds, wf, r, hl, ?_⟩
  rw [hk ds S fun z => by rw [z] at h; exact h]
  exact h
end
section
variable {X : Cx} {W : WX} {e : Expr} {es : List Expr} {x : Str} {k j n : Nat} {F : FD} {fa : MA} {p pos : Pos}
theorem de_fn (G : Fn X.prog X.w X.K X.mg X.base k x n F) (hr : Room j X.A) (hg : Gl X x) (tk : Takes X W) (ha : DA X W (e :: es) fa) (hk : k ≤ j := by decide) (hdb : (x == ("__debug__" : Str)) = false := by decide) (he : starEach (e :: es) X.env = (false, eval e X.env) :: starEach es X.env := by rfl) (hpl : (backTo pos (starEach es X.env)).any (·.1) = false := by rfl) :
    DE X W (.Call (.Name x p) (e :: es) [] pos) (dCall n F [] fa) := by
  obtain ⟨fd, ps, h1, h2⟩ := G.ok
  exact de_call h1 (hr.mono hk) hg G.gl G.kp h2 .nil (fun _ _ => rfl) tk ha hdb he hpl
end
/-- what may leave, whatever the world -/
def CXA : CXT := fun outer H s E u s' => ∃ P w, L2.CX P w outer H s E u s'
theorem fn_any {P : Program} {w : World} {K : PySem.W.Frag} {mg : Str → Option Value} {base : Heap} {k : Nat} {f : Addr} {fd : FuncData} {ps : List Str} {sp : Sp} (F : FnOk P w K mg base (L2.CX P w) k f fd ps sp) : FnOk P w K mg base CXA k f fd ps sp :=
  ⟨F.len, fun A outer s H args us vs Q E hr he hb hv hs => codeAny_mono (F.run A outer s H args us vs Q E hr he hb hv hs) fun r s' h => by
    cases r with
    | error e => exact ⟨P, w, h⟩
    | ok f => cases f <;> exact h⟩
theorem CXA.no {H : Hp} {s : Shared} {e : Value} {s' : Shared} (h : CXA [] H s (fun _ _ _ => False) e s') : False := by
  obtain ⟨P, w, _, _, _, _, _, _, _, _, _, _, _, _, z⟩ := h
  exact z
end DE

set_option maxHeartbeats 4000000
namespace DE
open PySem PySem.Spec PyProof.Rows L2
/-! ### match -/
abbrev Bd := List (Nat × D)
/-- none: not told; some none: no match -/
abbrev MP := D → Option (Option Bd)
def BRel (X : Cx) (O : Ow) (H : Hp) : List (Str × Value) → Bd → Prop := Paired fun p q => X.N[q.1]? = some p.1 ∧ X.env.scope.names.lookup p.1 = some .local ∧ ∃ v, RelV v p.2 ∧ Rep X.K O H q.2 v
def MRel (X : Cx) (O : Ow) (H : Hp) : Option (List (Str × Value)) → Option Bd → Prop
  | none, none => True
  | some bs, some bd => BRel X O H bs bd
  | _, _ => False
structure DPt (X : Cx) (p : Pattern) (f : MP) : Prop where
  run : ∀ pins s σ H v u O ρ S d r, Inv X pins σ H s → RelV v u → Stt X.K O H ρ σ S → Rep X.K O H d v → f d = some r → wpAny (model X.prog X.w) X.A (matchPattern p X.env u) (fun bs s' => ∃ H', Inv X pins σ H' s' ∧ Ext O H O H' ∧ Stt X.K O H' ρ σ S ∧ MRel X O H' bs r) X.xe s
structure DPs (X : Cx) (ps : List Pattern) (f : List D → Option (Option Bd)) : Prop where
  run : ∀ pins s σ H vs us O ρ S ds r, Inv X pins σ H s → Vals vs us → Stt X.K O H ρ σ S → Reps X.K O H ds vs → f ds = some r → wpAny (model X.prog X.w) X.A (matchEach ps X.env us) (fun bs s' => ∃ H', Inv X pins σ H' s' ∧ Ext O H O H' ∧ Stt X.K O H' ρ σ S ∧ MRel X O H' bs r) X.xe s
theorem BRel.mono {X : Cx} {O : Ow} {H H' : Hp} (e : ExtW O H O H') : ∀ {a : List (Str × Value)} {b : Bd}, BRel X O H a b → BRel X O H' a b
  | _, _, .nil => .nil
  | _, _, .cons ⟨h1, h2, v, h3, h4⟩ t => .cons ⟨h1, h2, v, h3, h4.mono e⟩ (BRel.mono e t)
theorem BRel.app {X : Cx} {O : Ow} {H : Hp} : ∀ {a b : List (Str × Value)} {c d : Bd}, BRel X O H a c → BRel X O H b d → BRel X O H (a ++ b) (c ++ d)
  | _, _, _, _, .nil, h => h
  | _, _, _, _, .cons r t, h => .cons r (BRel.app t h)
section
variable {X : Cx} {W : WX} {pos : Pos}
/-- a name -/
def pNm (i : Nat) : MP := fun d => some (some [(i, d)])
def pAny : MP := fun _ => some (some [])
theorem dp_name (i : Nat) {x : Str} (hi : X.N[i]? = some x := by rfl) (hl : X.env.scope.names.lookup x = some .local := by rfl) : DPt X (.MatchAs none (some x) pos) (pNm i) := ⟨fun pins s σ H v u O ρ S d r I rv st rd e => by
  cases e
  exact wpAny_matchPattern_Capture ⟨H, I, .refl, st, .cons ⟨hi, hl, v, rv, rd⟩ .nil⟩⟩
theorem dp_any : DPt X (.MatchAs none none pos) pAny := ⟨fun pins s σ H v u O ρ S d r I rv st rd e => by
  cases e
  exact wpAny_matchPattern_Capture ⟨H, I, .refl, st, .nil⟩⟩
/-- a written text -/
def pStr (x : Str) : MP := fun d => (eqD d (.str x)).map fun b => if b = true then some [] else none
theorem dp_str {x : Str} {j} {pos' : Pos} (hu : X.A.units + 64 < cLine) : DPt X (.MatchValue (.Constant (.str x) j pos') pos) (pStr x) := ⟨fun pins s σ H v u O ρ S d r I rv st rd e => by
  unfold pStr at e
  cases q : eqD d (.str x) with
  | none => rw [q] at e; cases e
  | some b =>
    rw [q] at e
    cases e
    refine wpAny_matchPattern_Value (thn ((pe_str (X := X) (x := x) (j := j) (pos := pos')).run pins s σ H (fun y H1 => y = .str x ∧ H1 = H) I ⟨rfl, rfl⟩) fun u2 s1 ⟨y, H1, I1, r1, ey, eH⟩ => ?_)
    subst ey eH
    obtain ⟨p, q', e1, e2, s1', s2', rfl⟩ := eqD_some q
    refine thn (op_eqD hu pins s1 σ H1 v (.str x) u u2 (fun z H2 => z = .bl (PyData.eqv p q') ∧ H2 = H1) I1 rv r1 ⟨p, q', dp_of e1 rd, dp_of (K := X.K) (O := O) (H := H1) e2 (show Rep X.K O H1 (.str x) (.str x) from rfl), s1', s2', rfl, rfl⟩) fun c s2 ⟨z, H2, I2, r2, ez, eH⟩ => ?_
    subst ez eH
    cases r2
    refine wpAny_truthy_bool ?_
    cases PyData.eqv p q' with
    | true => exact ⟨_, I2, .refl, st, .nil⟩
    | false => exact ⟨_, I2, .refl, st, trivial⟩⟩
/-- None -/
def pNon : MP := fun d => match d with
  | .non => some (some [])
  | .bl _ => some none
  | .int _ => some none
  | .str _ => some none
  | .tup _ => some none
  | .lst _ => some none
  | _ => none
theorem dp_non : DPt X (.MatchSingleton .none pos) pNon := ⟨fun pins s σ H v u O ρ S d r I rv st rd e => by
  cases d <;> simp only [pNon] at e <;> cases e
  case non => cases (show v = _ from rd); cases (show u = _ from rv); exact wpAny_matchPattern_Singleton_None ⟨H, I, .refl, st, .nil⟩
  case bl => cases (show v = _ from rd); cases (show u = _ from rv); exact wpAny_matchPattern_Singleton_miss rfl ⟨H, I, .refl, st, trivial⟩
  case int => cases (show v = _ from rd); obtain ⟨t, rfl⟩ := (show ∃ t, u = _ from rv); exact wpAny_matchPattern_Singleton_miss rfl ⟨H, I, .refl, st, trivial⟩
  case str => cases (show v = _ from rd); obtain ⟨t, rfl⟩ := (show ∃ t, u = _ from rv); exact wpAny_matchPattern_Singleton_miss rfl ⟨H, I, .refl, st, trivial⟩
  case tup => obtain ⟨a, xs, rfl, _⟩ := rd; cases (show u = _ from rv); exact wpAny_matchPattern_Singleton_miss rfl ⟨H, I, .refl, st, trivial⟩
  case lst => obtain ⟨a, xs, rfl, _⟩ := rd; cases (show u = _ from rv); exact wpAny_matchPattern_Singleton_miss rfl ⟨H, I, .refl, st, trivial⟩⟩
/-- one by one -/
def psNil : List D → Option (Option Bd) := fun _ => some (some [])
def psCons (f : MP) (g : List D → Option (Option Bd)) : List D → Option (Option Bd) := fun ds => match ds with
  | [] => none
  | d :: r => (f d).bind fun x => match x with
    | none => some none
    | some bs => (g r).map fun y => match y with
      | none => none
      | some cs => some (bs ++ cs)
theorem dps_nil : DPs X [] psNil := ⟨fun pins s σ H vs us O ρ S ds r I rv st rd e => by
  cases e
  exact wpAny_matchEach_nil ⟨H, I, .refl, st, .nil⟩⟩
theorem dps_cons {p : Pattern} {ps : List Pattern} {f : MP} {g : List D → Option (Option Bd)} (h1 : DPt X p f) (h2 : DPs X ps g) (hp : p.isStar = false := by rfl) : DPs X (p :: ps) (psCons f g) := ⟨fun pins s σ H vs us O ρ S ds r I rv st rd e => by
  rcases ds with _ | ⟨d, ds⟩
  · cases e
  obtain ⟨v, vr, rfl, r1, r2⟩ := rd
  cases rv with
  | cons rv1 rv2 =>
    have e : (f d).bind _ = some r := e
    cases q : f d with
    | none => rw [q] at e; cases e
    | some x =>
      rw [q] at e
      refine wpAny_matchEach_cons (thn (h1.run pins s σ H _ _ O ρ S d x I rv1 st r1 q) fun bs s1 ⟨H1, I1, g1, st1, m1⟩ => ?_) hp
      cases x with
      | none =>
        cases e
        cases bs with
        | none => exact ⟨H1, I1, g1, st1, trivial⟩
        | some _ => exact m1.elim
      | some bd =>
        cases bs with
        | none => exact m1.elim
        | some bs =>
          have e : (g ds).map _ = some r := e
          cases q2 : g ds with
          | none => rw [q2] at e; cases e
          | some y =>
            rw [q2] at e
            cases e
            refine thn (h2.run pins s1 σ H1 _ _ O ρ S ds y I1 rv2 st1 (r2.mono (g1.w st.wf)) q2) fun cs s2 ⟨H2, I2, g2, st2, m2⟩ => ?_
            cases y with
            | none =>
              cases cs with
              | none => exact ⟨H2, I2, g1.trans g2, st2, trivial⟩
              | some _ => exact m2.elim
            | some cd =>
              cases cs with
              | none => exact m2.elim
              | some cs => exact ⟨H2, I2, g1.trans g2, st2, BRel.app (BRel.mono (g2.w st1.wf) m1) m2⟩⟩
/-- the star at the end -/
def psStar (i : Nat) : List D → Option (Option Bd) := fun ds => match ds with
  | [d] => some (some [(i, d)])
  | _ => none
theorem dps_star (i : Nat) {x : Str} (hi : X.N[i]? = some x := by rfl) (hl : X.env.scope.names.lookup x = some .local := by rfl) : DPs X [.MatchStar (some x) pos] (psStar i) := ⟨fun pins s σ H vs us O ρ S ds r I rv st rd e => by
  rcases ds with _ | ⟨d, _ | ⟨_, _⟩⟩
  · cases e
  · cases e
    obtain ⟨v, vr, rfl, r1, r2⟩ := rd
    cases r2
    cases rv with
    | cons rv1 rv2 =>
      cases rv2
      refine PySem.W.kun_each (wpAny_matchEach_nil ?_)
      exact ⟨H, I, .refl, st, .cons ⟨hi, hl, v, rv1, r1⟩ .nil⟩
  · cases e⟩
/-- a row of just n -/
def pSeq (n : Nat) (g : List D → Option (Option Bd)) : MP := fun d => match d with
  | .tup ds => if ds.length = n then g ds else some none
  | .lst ds => if ds.length = n then g ds else some none
  | _ => none
theorem ext_kept {h h' : Heap} (e : Heap.ExtBut h.objs.size h h') : ∀ b u, h.get? b = some u → h'.get? b = some u := fun b u z => e b u (Nat.ne_of_lt (Heap.lt_size z)) z
theorem plain_is {h : Heap} {a : Addr} {its : Array Value} (p : PlainL h a its) : h.IsList a its := by
  obtain ⟨o, n, h1, h2, h3, h4⟩ := p
  exact ⟨o, h1, h2, n, h4⟩
theorem dp_seq {ps : List Pattern} {g : List D → Option (Option Bd)} {n : Nat} (hc : X.calm = true) (h : DPs X ps g) (hn : ps.length = n := by rfl) (hstar : ps.findIdx? (·.isStar) = none := by rfl)
    (hwild : (ps.all fun p => p.isWildcard || (p.isStar && p.names.isEmpty)) = false := by rfl) : DPt X (.MatchSequence ps pos) (pSeq n g) := ⟨fun pins s σ H v u O ρ S d r I rv st rd e => by
  cases d <;> simp only [pSeq] at e <;> try cases e
  case tup ds =>
    obtain ⟨a, xs, rfl, h1, h2⟩ := rd
    cases (show u = _ from rv)
    obtain ⟨its, rvs, ht, hz⟩ := I.tuple (sqT_of h1)
    have hl : its.length = xs.length := rvs.length.symm
    have hfit : ((its.toArray).size : Int) < 2 ^ 63 := by
      rw [List.size_toArray, hl]
      rw [sizeLine_eq] at hz
      omega
    by_cases hm : ds.length = n
    · rw [if_pos hm] at e
      have hsz : its.toArray.size = ps.length := by rw [List.size_toArray, hl, ← h2.length, hm, hn]
      refine matchSeq_tuple_hit ht hfit hsz ?_ hstar hwild
      rw [← hsz]
      refine unpackItems_tuple (I.ok.hd hc) (show IsTup s.heap a its.toArray from ht) fun h' eb => ?_
      exact h.run pins _ σ H xs its O ρ S ds r (I.kept (t' := s.toks + 1 + 1) (ext_kept eb)) rvs st h2 e
    · rw [if_neg hm] at e
      cases e
      exact matchSeq_tuple_miss ht hfit (by rw [List.size_toArray, hl, ← h2.length, hn]; exact hm) ⟨H, I.tok _, .refl, st, trivial⟩ hstar hwild
  case lst ds =>
    obtain ⟨a, xs, rfl, h0, h1, h2⟩ := rd
    cases (show u = _ from rv)
    obtain ⟨its, rvs, ht, hz⟩ := I.list (SqL.of h1)
    have hl : its.length = xs.length := rvs.length.symm
    have hfit : ((its.toArray).size : Int) < 2 ^ 63 := by
      rw [List.size_toArray, hl]
      rw [sizeLine_eq] at hz
      omega
    by_cases hm : ds.length = n
    · rw [if_pos hm] at e
      have hsz : its.toArray.size = ps.length := by rw [List.size_toArray, hl, ← h2.length, hm, hn]
      refine matchSeq_list_hit (plain_is ht) hfit hsz ?_ hstar hwild
      rw [← hsz]
      refine PySem.W.kun_itemsOf (I.ok.hd hc) (plain_is (show PlainL s.heap a its.toArray from ht)) fun h' eb => ?_
      exact h.run pins _ σ H xs its O ρ S ds r (I.kept (t' := s.toks + 1 + 1) (ext_kept eb)) rvs st h2 e
    · rw [if_neg hm] at e
      cases e
      exact matchSeq_list_miss (plain_is ht) hfit (by rw [List.size_toArray, hl, ← h2.length, hn]; exact hm) ⟨H, I.tok _, .refl, st, trivial⟩ hstar hwild⟩
/-- a row with a star at its end; n patterns, the star counted -/
def pSeqS (n : Nat) (g : List D → Option (Option Bd)) : MP := fun d => match d with
  | .tup ds => if ds.length ≤ 16384 then (if ds.length + 1 < n then some none else g (ds.take (n - 1) ++ [.lst (ds.drop (n - 1))])) else none
  | .lst ds => if ds.length ≤ 16384 then (if ds.length + 1 < n then some none else g (ds.take (n - 1) ++ [.lst (ds.drop (n - 1))])) else none
  | _ => none
theorem star_listU {prog : Program} {w : World} {A : Around} {E : Value → Shared → Prop} {s : Shared} {l : Addr} {items : Array Value} {n : Nat} {Q : List Value → Shared → Prop} (hl : s.heap.IsList l items) (hh : A.handled = none) (hi : n - 1 < n) (hn : n ≤ items.size + 1) (hz : items.size ≤ 16384)
    (h : ∀ (h' : Heap) (tk : Nat), (∀ b o, s.heap.get? b = some o → h'.get? b = some o) → Q (items.toList.take (n - 1) ++ [.ref h'.objs.size]) { s with heap := h'.push { cls := .type "list", data := .seq (items.toList.drop (n - 1)).toArray }, toks := tk }) : wpAny (model prog w) A (unpackItems (.ref l) n (some (n - 1))) Q E s := by
  have hlt : l ≠ s.heap.objs.size := by obtain ⟨o, ho, _⟩ := hl; exact Nat.ne_of_lt (Heap.lt_size ho)
  unfold unpackItems
  refine wpAny_bind ?_
  unfold notIterableAtAll
  refine wpAny_bind (wpAny_specialOf hl.typeIs slot_list_iter.lookup ?_)
  refine wpAny_pure ?_
  simp only [Bool.false_eq_true, if_false]
  refine wpAny_bind (wpAny_holding (wpAny_pyIter_list hl ?_))
  refine wpAny_bind (wpAny_holding (PySem.W.kun_draw hlt (n - 1) 0 _ _ ⟨_, Heap.get?_push_size _ rfl, rfl, rfl⟩ (hl.push _) (by omega) fun h₁ hit₁ hs₁ => ?_))
  have hl₁ : h₁.IsList l items := (hl.push _).extBut hs₁.extBut hlt
  rw [Nat.zero_add] at hit₁
  have hit₁' := hit₁
  obtain ⟨oi, hoi, _⟩ := hit₁'
  have hl₁' := hl₁
  obtain ⟨ol, hol, _⟩ := hl₁'
  rw [List.drop_zero]
  have hfl : (items.toList.take (n - 1)).length = n - 1 := by rw [List.length_take, Array.length_toList]; omega
  rw [if_neg (show ¬ ((items.toList.take (n - 1)).length < n - 1) by rw [hfl]; omega)]
  refine wpAny_bind (wpAny_holding (PySem.W.kun_collect (s := { s with heap := h₁ }) (T := "list_iterator") (.inr (.inr (.inl rfl))) (Walks.list (A := A.in1) hh s.heap.objs.size l hlt items) (fun j u st => st.1.typeIs) (k := n - 1) (by omega) ⟨hit₁, hl₁⟩ (Heap.lt_size hoi) (Heap.lt_size hol) (fun h₂ tk hk => ?_) (by rw [sizeLine_eq]; omega)))
  have hrl : (items.toList.drop (n - 1)).length = items.size - (n - 1) := by rw [List.length_drop, Array.length_toList]
  show wpAny _ _ (if (items.toList.drop (n - 1)).length < n - 1 - (n - 1) then _ else _) _ _ _
  rw [if_neg (by omega)]
  show wpAny _ _ (newList ((items.toList.drop (n - 1)).take ((items.toList.drop (n - 1)).length - (n - 1 - (n - 1)))) >>= fun d => pure (items.toList.take (n - 1) ++ [d] ++ (items.toList.drop (n - 1)).drop ((items.toList.drop (n - 1)).length - (n - 1 - (n - 1))))) _ _ _
  rw [Nat.sub_self, Nat.sub_zero, List.take_length, List.drop_length]
  have he : Heap.ExtBut s.heap.objs.size s.heap h₂ := fun b o hb e => hk b o hb (hs₁.extBut b o hb (Heap.get?_push_of_some _ e))
  refine wpAny_bind (wpAny_newList ?_ (by rw [hrl, sizeLine_eq]; omega))
  refine wpAny_pure ?_
  rw [List.append_nil]
  exact h h₂ tk (ext_kept he)
theorem star_tupU {prog : Program} {w : World} {A : Around} {E : Value → Shared → Prop} {s : Shared} {l : Addr} {items : Array Value} {n : Nat} {Q : List Value → Shared → Prop} (hl : IsTup s.heap l items) (hh : A.handled = none) (hi : n - 1 < n) (hn : n ≤ items.size + 1) (hz : items.size ≤ 16384)
    (h : ∀ (h' : Heap) (tk : Nat), (∀ b o, s.heap.get? b = some o → h'.get? b = some o) → Q (items.toList.take (n - 1) ++ [.ref h'.objs.size]) { s with heap := h'.push { cls := .type "list", data := .seq (items.toList.drop (n - 1)).toArray }, toks := tk }) : wpAny (model prog w) A (unpackItems (.ref l) n (some (n - 1))) Q E s := by
  have hlt : l ≠ s.heap.objs.size := by obtain ⟨o, ho, _⟩ := hl; exact Nat.ne_of_lt (Heap.lt_size ho)
  unfold unpackItems
  refine wpAny_bind ?_
  unfold notIterableAtAll
  refine wpAny_bind (wpAny_specialOf hl.typeIs slot_tuple_iter.lookup ?_)
  refine wpAny_pure ?_
  simp only [Bool.false_eq_true, if_false]
  refine wpAny_bind (wpAny_holding (iter_tuple hl ?_))
  refine wpAny_bind (wpAny_holding (draw_tuple hlt (n - 1) 0 _ _ ⟨_, Heap.get?_push_size _ rfl, rfl, rfl⟩ (hl.push _) (by omega) fun h₁ hit₁ hs₁ => ?_))
  have hl₁ : IsTup h₁ l items := (hl.push _).extBut hs₁.extBut hlt
  rw [Nat.zero_add] at hit₁
  have hit₁' := hit₁
  obtain ⟨oi, hoi, _⟩ := hit₁'
  have hl₁' := hl₁
  obtain ⟨ol, hol, _⟩ := hl₁'
  rw [List.drop_zero]
  have hfl : (items.toList.take (n - 1)).length = n - 1 := by rw [List.length_take, Array.length_toList]; omega
  rw [if_neg (show ¬ ((items.toList.take (n - 1)).length < n - 1) by rw [hfl]; omega)]
  refine wpAny_bind (wpAny_holding (PySem.W.kun_collect (s := { s with heap := h₁ }) (T := "tuple_iterator") (.inr (.inr (.inr rfl))) (Walks.tuple (A := A.in1) hh s.heap.objs.size l hlt items) (fun j u st => st.1.typeIs) (k := n - 1) (by omega) ⟨hit₁, hl₁⟩ (Heap.lt_size hoi) (Heap.lt_size hol) (fun h₂ tk hk => ?_) (by rw [sizeLine_eq]; omega)))
  have hrl : (items.toList.drop (n - 1)).length = items.size - (n - 1) := by rw [List.length_drop, Array.length_toList]
  show wpAny _ _ (if (items.toList.drop (n - 1)).length < n - 1 - (n - 1) then _ else _) _ _ _
  rw [if_neg (by omega)]
  show wpAny _ _ (newList ((items.toList.drop (n - 1)).take ((items.toList.drop (n - 1)).length - (n - 1 - (n - 1)))) >>= fun d => pure (items.toList.take (n - 1) ++ [d] ++ (items.toList.drop (n - 1)).drop ((items.toList.drop (n - 1)).length - (n - 1 - (n - 1))))) _ _ _
  rw [Nat.sub_self, Nat.sub_zero, List.take_length, List.drop_length]
  have he : Heap.ExtBut s.heap.objs.size s.heap h₂ := fun b o hb e => hk b o hb (hs₁.extBut b o hb (Heap.get?_push_of_some _ e))
  refine wpAny_bind (wpAny_newList ?_ (by rw [hrl, sizeLine_eq]; omega))
  refine wpAny_pure ?_
  rw [List.append_nil]
  exact h h₂ tk (ext_kept he)
theorem Reps.take2 {K : PySem.W.Frag} {O : Ow} {H : Hp} : ∀ {ds : List D} {vs : List V} (n : Nat), Reps K O H ds vs → Reps K O H (ds.take n) (vs.take n) ∧ Reps K O H (ds.drop n) (vs.drop n)
  | [], _, n, r => by cases r; simp only [List.take_nil, List.drop_nil]; exact ⟨rfl, rfl⟩
  | d :: ds, _, 0, r => ⟨rfl, r⟩
  | d :: ds, _, n + 1, r => by
    obtain ⟨v, vs, rfl, h1, h2⟩ := r
    obtain ⟨a, b⟩ := Reps.take2 n h2
    exact ⟨⟨v, vs.take n, rfl, h1, a⟩, b⟩
theorem Vals.take : ∀ {vs : List V} {us : List Value} (n : Nat), Vals vs us → Vals (vs.take n) (us.take n) ∧ Vals (vs.drop n) (us.drop n)
  | _, _, 0, r => ⟨.nil, r⟩
  | _, _, n + 1, .nil => ⟨.nil, .nil⟩
  | _, _, n + 1, .cons a r => by
    obtain ⟨x, y⟩ := Vals.take n r
    exact ⟨.cons a x, y⟩
theorem Vals.app1 : ∀ {vs : List V} {us : List Value} {v : V} {u : Value}, Vals vs us → RelV v u → Vals (vs ++ [v]) (us ++ [u])
  | _, _, _, _, .nil, h => .cons h .nil
  | _, _, _, _, .cons a r, h => .cons a (Vals.app1 r h)
theorem Reps.app1 {K : PySem.W.Frag} {O : Ow} {H : Hp} : ∀ {ds : List D} {vs : List V} {d : D} {v : V}, Reps K O H ds vs → Rep K O H d v → Reps K O H (ds ++ [d]) (vs ++ [v])
  | [], _, _, _, r, h => by cases r; exact ⟨_, _, rfl, h, rfl⟩
  | d :: ds, _, _, _, r, h => by
    obtain ⟨v, vs, rfl, h1, h2⟩ := r
    exact ⟨v, _, rfl, h1, Reps.app1 h2 h⟩
/-- behind the unpacking: the new list is at its place -/
theorem star_next {g : List D → Option (Option Bd)} {ps : List Pattern} (h : DPs X ps g) {pins : List (Addr × Obj)} {s : Shared} {σ : L2.St} {H : Hp} {O : Ow} {ρ : DE.Env} {S : Sto} {ds : List D} {xs : List V} {its : List Value} {n : Nat} {r : Option Bd} {tk0 : Nat} (I : Inv X pins σ H s) (rvs : Vals xs its) (hz : xs.length ≤ sizeLine) (st : Stt X.K O H ρ σ S) (h2 : Reps X.K O H ds xs)
    (e : g (ds.take (n - 1) ++ [.lst (ds.drop (n - 1))]) = some r) (h' : Heap) (tk : Nat) (kp : ∀ b o, s.heap.get? b = some o → h'.get? b = some o) :
    wpAny (model X.prog X.w) X.A (matchEach ps X.env (its.take (n - 1) ++ [.ref h'.objs.size])) (fun bs s' => ∃ H', Inv X pins σ H' s' ∧ Ext O H O H' ∧ Stt X.K O H' ρ σ S ∧ MRel X O H' bs r) X.xe { s with heap := h'.push { cls := .type "list", data := .seq (its.drop (n - 1)).toArray }, toks := tk } := by
  have I0 : Inv X pins σ H { s with heap := h', toks := tk } := I.kept kp
  have hf : H h'.objs.size = none := I0.hok.fresh (Nat.le_refl _)
  obtain ⟨e2, st2⟩ := st.new (o := .lst (xs.drop (n - 1))) hf
  obtain ⟨v1, v2⟩ := Vals.take (n - 1) rvs
  obtain ⟨q1, q2⟩ := Reps.take2 (n - 1) (h2.mono (e2.w st.wf))
  have I2 : Inv X pins σ (upd H h'.objs.size (.lst (xs.drop (n - 1)))) { s with heap := h'.push { cls := .type "list", data := .seq (its.drop (n - 1)).toArray }, toks := tk } := I0.laid (t' := tk) (fun b u e => Heap.get?_push_of_some _ e) (Nat.le_refl _) ⟨by rw [List.length_drop]; omega, its.drop (n - 1), 0, v2, Heap.get?_push_size _ rfl⟩
  refine thn (h.run pins _ σ _ (xs.take (n - 1) ++ [.ref h'.objs.size]) _ O ρ S _ r I2 (Vals.app1 v1 (show RelV (.ref h'.objs.size) (.ref h'.objs.size) from rfl)) st2 (Reps.app1 q1 (show Rep X.K O (upd H h'.objs.size (.lst (xs.drop (n - 1)))) (.lst (ds.drop (n - 1))) (.ref h'.objs.size) from ⟨h'.objs.size, _, rfl, st.no hf, upd_same, q2⟩)) e) fun bs s2 ⟨H2, I3, g3, st3, m3⟩ => ⟨H2, I3, e2.trans g3, st3, m3⟩
theorem dp_seqS {ps : List Pattern} {g : List D → Option (Option Bd)} {n : Nat} (hc : X.calm = true) (h : DPs X ps g) (hn : ps.length = n := by rfl) (hstar : ps.findIdx? (·.isStar) = some (n - 1) := by rfl)
    (hwild : (ps.all fun p => p.isWildcard || (p.isStar && p.names.isEmpty)) = false := by rfl) (hname : (ps[n - 1]?.elim [] (·.names)).isEmpty = false := by rfl) (h1n : 1 < n := by decide) : DPt X (.MatchSequence ps pos) (pSeqS n g) := ⟨fun pins s σ H v u O ρ S d r I rv st rd e => by
  cases d <;> simp only [pSeqS] at e <;> try cases e
  case tup ds =>
    obtain ⟨a, xs, rfl, h1, h2⟩ := rd
    cases (show u = _ from rv)
    obtain ⟨its, rvs, ht, hz⟩ := I.tuple (sqT_of h1)
    have hl : its.length = xs.length := rvs.length.symm
    have hsz : its.toArray.size = ds.length := by rw [List.size_toArray, hl, ← h2.length]
    split at e
    · rename_i hk
      have hfit : ((its.toArray).size : Int) < 2 ^ 63 := by rw [hsz]; omega
      split at e
      · rename_i hm
        cases e
        exact PySem.W.kun_fewT ht hfit hstar (by omega) (by rw [hsz]; omega) ⟨H, I.tok _, .refl, st, trivial⟩
      · rename_i hm
        refine PySem.W.kun_seqT ht hfit hstar hwild hname (by omega) (by rw [hsz]; omega) ?_
        rw [hn]
        refine star_tupU (s := { s with toks := s.toks + 1 + 1 }) (show IsTup s.heap a its.toArray from ht) (I.ok.hd hc) (by omega) (by rw [hsz]; omega) (by rw [hsz]; omega) fun h' tk kp => ?_
        exact star_next h (s := { s with toks := s.toks + 1 + 1 }) (tk0 := 0) (I.tok _) rvs hz st h2 e h' tk kp
    · cases e
  case lst ds =>
    obtain ⟨a, xs, rfl, h0, h1, h2⟩ := rd
    cases (show u = _ from rv)
    obtain ⟨its, rvs, ht, hz⟩ := I.list (SqL.of h1)
    have hl : its.length = xs.length := rvs.length.symm
    have hsz : its.toArray.size = ds.length := by rw [List.size_toArray, hl, ← h2.length]
    split at e
    · rename_i hk
      have hfit : ((its.toArray).size : Int) < 2 ^ 63 := by rw [hsz]; omega
      split at e
      · rename_i hm
        cases e
        exact PySem.W.kun_fewL (plain_is ht) hfit hstar (by omega) (by rw [hsz]; omega) ⟨H, I.tok _, .refl, st, trivial⟩
      · rename_i hm
        refine PySem.W.kun_seqL (plain_is ht) hfit hstar hwild hname (by omega) (by rw [hsz]; omega) ?_
        rw [hn]
        refine star_listU (s := { s with toks := s.toks + 1 + 1 }) (plain_is (show PlainL s.heap a its.toArray from ht)) (I.ok.hd hc) (by omega) (by rw [hsz]; omega) (by rw [hsz]; omega) fun h' tk kp => ?_
        exact star_next h (s := { s with toks := s.toks + 1 + 1 }) (tk0 := 0) (I.tok _) rvs hz st h2 e h' tk kp
    · cases e⟩
/-! ### cases -/
def bindB : Bd → DE.Env → DE.Env
  | [], ρ => ρ
  | (i, d) :: r, ρ => bindB r (ρ.set i (some d))
def mCs : List (MP × MS) → D → MS
  | [], _ => sNil
  | (p, b) :: r, d => fun ρ S => match p d with
    | none => .bad
    | some none => mCs r d ρ S
    | some (some bs) => b (bindB bs ρ) S
structure DCs (X : Cx) (W : WX) (cs : List MatchCase) (f : List (MP × MS)) : Prop where
  run : ∀ pins s σ H D' v u O ρ S d first, Inv X pins σ H s → RelV v u → Stt X.K O H ρ σ S → Rep X.K O H d v → AfterS X.K W D' O H (mCs f d ρ S) → wpAny (model X.prog X.w) X.A (matchCases cs X.env u first) (SP X pins D') X.xe s
theorem dcs_nil : DCs X W [] [] := ⟨fun pins s σ H D' v u O ρ S d first I rv st rd h => wpAny_matchCases_nil ⟨σ, H, I, h O H σ .refl st⟩⟩
theorem bind_ok (hN : X.N.Nodup) {A : Around} {M : Model} {E : Value → Shared → Prop} {pins : List (Addr × Obj)} {H : Hp} {O : Ow} {S : Sto} : ∀ {bs : List (Str × Value)} {bd : Bd} {σ : L2.St} {ρ : DE.Env} {s : Shared} {Q : Unit → Shared → Prop}, BRel X O H bs bd → Inv X pins σ H s → Stt X.K O H ρ σ S →
    (∀ s' σ', Inv X pins σ' H s' → Stt X.K O H (bindB bd ρ) σ' S → Q () s') → wpAny M A (assignInOrder (bs.map fun (n, _) => bindName X.env n) (bs.map (·.2))) Q E s
  | _, _, σ, ρ, s, Q, .nil, I, st, k => wpAny_assignInOrder_none (k s σ I st)
  | _, _, σ, ρ, s, Q, .cons (a := p) (b := q) ⟨hi, hl, v, rv, rd⟩ t, I, st, k => by
    refine wpAny_assignInOrder_more ?_
    refine wpAny_bindName (x := p.1) (v := p.2) ?_
    refine store_ok I hN hi (.inl hl) rv (fun s' I' => ?_) (.inr hl)
    exact bind_ok hN t I' ⟨st.wf, st.env.set rd _⟩ k
theorem dcs_cons {p : Pattern} {b : List Stmt} {cs : List MatchCase} {f : MP} {F : MS} {r : List (MP × MS)} (hN : X.N.Nodup) (hp : DPt X p f) (hb : DSs X W b F) (hr : DCs X W cs r) : DCs X W (⟨p, none, b⟩ :: cs) ((f, F) :: r) := ⟨fun pins s σ H D' v u O ρ S d first I rv st rd h => by
  cases q : f d with
  | none => simp only [mCs, q] at h; exact h.elim
  | some y =>
    refine wpAny_matchCases_cons (thn (hp.run pins s σ H v u O ρ S d y I rv st rd q) fun bs s1 ⟨H1, I1, g1, st1, m1⟩ => ?_)
    cases y with
    | none =>
      simp only [mCs, q] at h
      cases bs with
      | none => exact hr.run pins s1 σ H1 D' v u O ρ S d false I1 rv st1 (rd.mono (g1.w st.wf)) (h.mono g1)
      | some _ => exact m1.elim
    | some bd =>
      simp only [mCs, q] at h
      cases bs with
      | none => exact m1.elim
      | some bs =>
        exact bind_ok hN m1 I1 st1 fun s2 σ2 I2 st2 => hb.pss.run pins s2 σ2 H1 D' I2 ⟨O, _, S, st2, h.mono g1⟩⟩
def sMatch (f : ME) (cs : List (MP × MS)) : MS := fun ρ S => (f ρ S).stm ρ fun d S1 => mCs cs d ρ S1
theorem ds_match {e : Expr} {f : ME} {cs : List MatchCase} {r : List (MP × MS)} (he : DE X W e f) (h : DCs X W cs r) : DS X W (.Match e cs pos) (sMatch f r) := ⟨⟨fun pins s σ H D' I ⟨O, ρ, S, st, q⟩ => by
  refine wpAny_Match (thn (he.pe.run pins s σ H (fun v H1 => ∃ O1 d S1, Stt X.K O1 H1 ρ σ S1 ∧ Rep X.K O1 H1 d v ∧ AfterS X.K W D' O1 H1 (mCs r d ρ S1)) I ⟨O, ρ, S, st, AfterS.seqE q fun d S1 O1 H1 v e1 st1 r1 h1 => ⟨O1, d, S1, st1, r1, h1⟩⟩) fun u s1 ⟨v, H1, I1, rv, O1, d, S1, st1, r1, h1⟩ => ?_)
  exact h.run pins s1 σ H1 D' v u O1 ρ S1 d true I1 rv st1 r1 h1⟩⟩
end
end DE

set_option maxHeartbeats 4000000
namespace DE
open PySem PySem.Spec PyProof.Rows L2
/-! ### facts of one's own at the end of the top -/
abbrev Xb := PySem.W.Frag → Bool
def obsX (fa : List He.Fa) (fn : List He.DefD) (xs : List Xb) (K : PySem.W.Frag) : He.AlD × Bool := (He.obsD fa fn K, xs.all fun f => f K)
def obsXG (n : Nat) (fa : List He.Fa) (fn : List He.DefD) (xs : List Xb) (g : Addr → Option Obj) : He.AlD × Bool := obsX fa fn xs (He.frG g (He.asD g n))
def hookX (n : Nat) (fa : List He.Fa) (fn : List He.DefD) (xs : List Xb) : PySem.W.Hook where
  α := He.AlD × Bool
  obs := fun s => obsXG n fa fn xs s.heap.get?
  val := fun _ => (He.valD fn, true)
  says := fun _ h => ∃ K : PySem.W.Frag, K.In h ∧ He.SaysD fa fn K ∧ (xs.all fun f => f K) = true
  of := fun _ _ e => ⟨_, He.frG_in, congrArg Prod.fst e, congrArg Prod.snd e⟩
  keeps := fun _ _ _ ⟨K, a, b, c⟩ k => ⟨K, a.keeps k, b, c⟩
theorem obsXG_eq {n : Nat} {fa : List He.Fa} {fn : List He.DefD} {xs : List Xb} {g : Addr → Option Obj} {s : Shared} (h : ∀ a, g a = s.heap.get? a) : obsXG n fa fn xs g = (hookX n fa fn xs).obs s := by
  rw [show g = s.heap.get? from funext h]; rfl
/-! ### what is asked of a class of errors -/
def oexB (K : PySem.W.Frag) (C : Addr) : Bool := (match K.lookup C with
  | some ⟨.type t, _, .cls cd, sl⟩ => t == "type" && (match cd.mro, sl.toList with
    | .ref C' :: bm, [_, _, _, _, some (.builtin n), _] => C' == C && (n == "ValueError.__new__" && (!cd.hasDel && (cd.hasDict && PySem.HandSPX.refsVE bm)))
    | _, _ => false)
  | _ => false) && (decide (PySem.W.findIn K (.ref C) "__setattr__" = some (some (.builtin "object.__setattr__"))) && (decide (PySem.W.subIn K (.ref C) (.type "BaseException") = some true) &&
    (decide (PySem.W.typeIn K (.ref C) = some (.type "type")) && PySem.W.keepIn K (.ref C))))
theorem oexB_ok {K : PySem.W.Frag} {C : Addr} (h : oexB K C = true) : OexC K C := by
  unfold oexB at h
  simp only [Bool.and_eq_true, decide_eq_true_eq] at h
  obtain ⟨h0, h1, h2, h3, h4⟩ := h
  refine ⟨?_, h1, h2, h3, h4⟩
  split at h0
  case h_2 => cases h0
  case h_1 t dd cd sl q =>
    rw [Bool.and_eq_true] at h0
    obtain ⟨ht, h0⟩ := h0
    split at h0
    case h_2 => cases h0
    case h_1 C' bm k0 k1 k2 k3 n k5 hm hs =>
      simp only [Bool.and_eq_true, beq_iff_eq, Bool.not_eq_true'] at h0 ht
      obtain ⟨e1, e2, e3, e4, e5⟩ := h0
      obtain ⟨nm, bs, mro, ns, qn, hd, sn, sub, ab, col, del⟩ := cd
      dsimp only at hm e3 e4
      obtain ⟨sl⟩ := sl
      dsimp only at hs
      subst hm e1 e2 e3 e4 ht hs
      exact ⟨nm, qn, ns, bs, bm, sn, sub, ab, col, dd, k0, k1, k2, k3, k5, q, e5⟩
/-- .. for isinstance -/
def kcB (K : PySem.W.Frag) (C : Addr) : Bool := (PySem.W.clsIn K C).isSome && (decide (PySem.W.findIn K (.ref C) "__class__" = some (some (.builtin "object.__class__"))) && (decide (PySem.W.specialIn K (.builtin "object.__class__") "__get__" = some (some (.builtin "getset_descriptor.__get__"))) &&
  (decide (PySem.W.takesIn K (.builtin "object.__class__") = some true) && decide (PySem.W.mroIn K C (.type "object") = some true))))
theorem kcB_kit {K : PySem.W.Frag} {C x : Addr} {ox : Obj} {od : Option Obj} (h : kcB K C = true) (T : XfC K C) : PySem.W.KitX K (.ref x) (.ref C) (fun h => PySem.W.InstAt h x ox C od) := by
  unfold kcB at h
  simp only [Bool.and_eq_true, decide_eq_true_eq] at h
  obtain ⟨h0, h1, h2, h3, h4⟩ := h
  exact PySem.W.kitx_exc h0 T.ga T.gg T.exC h1 h2 h3 h4
/-- the class c, of one field f -/
def x1B (c f : Str) : Xb := fun K => oexB K (He.ga K c) && (xfB K (He.ga K c) && (kcB K (He.ga K c) && (decide (PySem.W.findIn K (.ref (He.ga K c)) f = some none) &&
  (decide (PySem.W.findIn K (.ref (He.ga K c)) "__init__" = some (some (.ref (He.fAd K (c, some "__init__"))))) && decide (PySem.W.typeIn K (.ref (He.fAd K (c, some "__init__"))) = some (.type "function"))))))
structure X1 (K : PySem.W.Frag) (c f : Str) : Prop where
  o : OexC K (He.ga K c)
  x : XfC K (He.ga K c)
  k : kcB K (He.ga K c) = true
  n : PySem.W.findIn K (.ref (He.ga K c)) f = some none
  i : PySem.W.findIn K (.ref (He.ga K c)) "__init__" = some (some (.ref (He.fAd K (c, some "__init__"))))
  t : PySem.W.typeIn K (.ref (He.fAd K (c, some "__init__"))) = some (.type "function")
theorem x1B_ok {K : PySem.W.Frag} {c f : Str} (h : x1B c f K = true) : X1 K c f := by
  unfold x1B at h
  simp only [Bool.and_eq_true, decide_eq_true_eq] at h
  obtain ⟨h1, h2, h3, h4, h5, h6⟩ := h
  exact ⟨oexB_ok h1, xfB_ok h2, h3, h4, h5, h6⟩
/-- who is caught, who is an instance of what -/
def xmB (t : List ((Str × Str) × Bool)) : Xb := fun K => t.all fun q => decide (PySem.W.exmOne K (.ref (He.ga K q.1.1)) (.ref (He.ga K q.1.2)) = some q.2)
def xgB (t : List ((Str × Str) × Bool)) : Xb := fun K => t.all fun q => decide (PySem.W.kitOne K (.ref (He.ga K q.1.1)) (.ref (He.ga K q.1.2)) = some q.2)
def xtB (t : List ((Str × String) × Bool)) : Xb := fun K => t.all fun q => decide (PySem.W.kitOne K (.ref (He.ga K q.1.1)) (.type q.1.2) = some q.2)
theorem mem_of_lookup {α β : Type} [BEq α] [LawfulBEq α] : ∀ {l : List (α × β)} {a : α} {b : β}, l.lookup a = some b → (a, b) ∈ l
  | [], _, _, h => by cases h
  | (c, d) :: r, a, b, h => by
    rw [List.lookup_cons] at h
    by_cases e : a == c
    · rw [e] at h
      cases h
      rw [eq_of_beq e]
      exact List.mem_cons_self
    · simp only [Bool.not_eq_true] at e
      rw [e] at h
      exact List.mem_cons_of_mem _ (mem_of_lookup h)
theorem xmB_ok {K : PySem.W.Frag} {t : List ((Str × Str) × Bool)} (h : xmB t K = true) {c d : Str} {b : Bool} (l : t.lookup (c, d) = some b) : PySem.W.exmOne K (.ref (He.ga K c)) (.ref (He.ga K d)) = some b := of_decide_eq_true (List.all_eq_true.mp h _ (mem_of_lookup l))
theorem xgB_ok {K : PySem.W.Frag} {t : List ((Str × Str) × Bool)} (h : xgB t K = true) {c d : Str} {b : Bool} (l : t.lookup (c, d) = some b) : PySem.W.kitOne K (.ref (He.ga K c)) (.ref (He.ga K d)) = some b := of_decide_eq_true (List.all_eq_true.mp h _ (mem_of_lookup l))
theorem xtB_ok {K : PySem.W.Frag} {t : List ((Str × String) × Bool)} (h : xtB t K = true) {c : Str} {d : String} {b : Bool} (l : t.lookup (c, d) = some b) : PySem.W.kitOne K (.ref (He.ga K c)) (.type d) = some b := of_decide_eq_true (List.all_eq_true.mp h _ (mem_of_lookup l))
/-! ### __init__ of one field -/
def exSp (K : PySem.W.Frag) (f : Str) : Sp := fun vs H Q E => ∃ a C v, vs = [.ref a, v] ∧ OexC K C ∧ PySem.W.findIn K (.ref C) f = some none ∧ H a = some (exo a C none) ∧ ∀ dx, H dx = none → dx ≠ a → Q .non (upd (upd H dx (exd dx [(f, v)])) a (exo a C (some dx)))
theorem init_of {P : Program} {w : World} {K : PySem.W.Frag} {mg : Str → Option Value} {base : Heap} {x qual f : Str} {params : Arguments} {scope : Scope} {kws : List (Str × V)} {g : Addr} {fd : FuncData} {p1 p2 p3 p4 : Pos} {body : List Stmt}
    (F : FunD K x qual params body scope [] kws g fd) (hb : body = [.Assign [.Attribute (.Name "self" p1) f p2] (.Name "value" p3) p4]) (S : FnScope ["self", "value"] ["self", "value"] scope)
    (h1 : scope.names.lookup ("self" : Str) = some .local) (h2 : scope.names.lookup ("value" : Str) = some .local) : FnOk P w K mg base (L2.CX P w) 1 g fd ["self", "value"] (exSp K f) := by
  subst hb
  refine F.ok S (fun vs H Q E h => ?_) (fun cdv A outer s H vs Q E hr h => ?_)
  · obtain ⟨_, _, _, rfl, _⟩ := h; rfl
  · obtain ⟨a, C, v, rfl, T, hn, ha, q⟩ := h
    refine ⟨_, pss_one (ps_ost (pe_var (i := 0) rfl (.inl h1)) (pe_var (i := 1) rfl (.inl h2))), ⟨v, rfl, .ref a, rfl, a, C, rfl, T, hn, .inl ⟨ha, fun dx hd ne => q dx hd ne⟩⟩⟩
/-- a class of errors of the program: of one field, ready to be made -/
structure Err (P : Program) (w : World) (K : PySem.W.Frag) (mg : Str → Option Value) (base : Heap) (c f : Str) : Prop where
  x : X1 K c f
  ok : ∃ fd, FnOk P w K mg base (L2.CX P w) 1 (He.fAd K (c, some "__init__")) fd ["self", "value"] (exSp K f) ∧ Binds K fd ["self", "value"] []
  gl : mg c = some (.ref (He.ga K c))
section
variable {X : Cx} {W : WX} {x : Str} {p pos pos2 : Pos} {e : Expr} {j : Nat} {c f : Str} {g : ME}
/-- raise c(e) -/
def sRaise (c f : Str) (g : ME) : MS := fun ρ S => (g ρ S).stm ρ fun d S1 => .exc ⟨c, [(f, d)]⟩ ρ S1
theorem upd_twice {H : Hp} {a b : Addr} {o o2 u v : HO} (ha : H a = none) (hb : H b = none) (ne : b ≠ a) : upd (del (upd (upd (upd H a o) b u) a o2) a) b v = upd H b v := by
  funext y
  by_cases h1 : y = b
  · subst h1; rw [upd_same, upd_same]
  · rw [upd_ne h1, upd_ne h1]
    by_cases h2 : y = a
    · subst h2; rw [del_same, ha]
    · rw [del_ne h2, upd_ne h2, upd_ne h1, upd_ne h2]
theorem ds_raise (E : Err X.prog X.w X.K X.mg X.base c f) (hr : Room j X.A) (hc : X.calm = true) (hg : Gl X c) (tk : Takes X W) (he : DE X W e g) (hj : 2 ≤ j := by decide) (hdb : (c == ("__debug__" : Str)) = false := by decide)
    (hs : starEach (e :: []) X.env = (false, eval e X.env) :: starEach [] X.env := by rfl) (hpl : (backTo pos (starEach [] X.env)).any (·.1) = false := by rfl) : DS X W (.Raise (some (.Call (.Name c p) [e] [] pos)) none pos2) (sRaise c f g) := by
  obtain ⟨fd, F1, hb⟩ := E.ok
  refine ⟨PS.imp (ps_raise hc tk (pmk_oex (X := X) (ds := []) (dvs := []) E.x.o E.x.i E.x.t F1 (hr.mono hj) hb .nil passL hg E.gl (pa_cons he.pe pa_nil hs) hdb hs hpl)) ?_⟩
  intro D' σ H ⟨O, ρ, S, st, h⟩
  refine ⟨O, ρ, S, st, AfterS.seqE h fun d S1 O1 H1 v e1 st1 r1 h1 => ?_⟩
  refine ⟨by simp, fun a ha => ⟨a, He.ga X.K c, v, by simp, E.x.o, E.x.n, upd_same, fun dx hdx ne => ?_⟩⟩
  have hd1 : H1 dx = none := by rw [upd_ne ne] at hdx; exact hdx
  refine ⟨rfl, dx, _, upd_same, by rw [upd_ne ne, upd_same], hd1, ?_⟩
  rw [upd_twice ha hd1 ne]
  obtain ⟨e2, st2⟩ := st1.new (o := .xd [(f, v)]) hd1
  exact h1 O1 _ σ _ _ e2 st2 ⟨rfl, dx, _, rfl, upd_same, v, [], rfl, r1.mono (e2.w st1.wf), rfl⟩
/-! ### try: .. except c as n: .. -/
def RS.unset (i : Nat) : RS → RS
  | .nx ρ S => .nx (ρ.set i none) S
  | .bk ρ S => .bk (ρ.set i none) S
  | .ct ρ S => .ct (ρ.set i none) S
  | .rt d S => .rt d S
  | _ => .bad
/-- cl: who is caught; hm: what is done then -/
def sTry (fb : MS) (cl : Str → Option Bool) (i : Nat) (hm : Exc → Nat → Nat → MS) : MS := fun ρ S => match fb ρ S with
  | .exc x ρ1 S1 => (match cl x.c with
    | none => .bad
    | some true => (hm x 0 0 (ρ1.set i (some (.xcp 0 0 x.fs))) S1).unset i
    | some false => .exc x ρ1 S1)
  | r => r
theorem AfterS.unset {K : PySem.W.Frag} {D' : Ends} {O : Ow} {H : Hp} {i : Nat} {r : RS} (h : AfterS K W D' O H (r.unset i)) :
    AfterS K W0 { nx := fun σ' H' => D'.nx (σ'.set i none) H', rt := D'.rt, bk := fun σ' H' => D'.bk (σ'.set i none) H', ct := fun σ' H' => D'.ct (σ'.set i none) H' } O H r := by
  cases r with
  | nx ρ S => exact fun O' H' σ' e st => h O' H' _ e ⟨st.wf, st.env.unset i⟩
  | bk ρ S => exact fun O' H' σ' e st => h O' H' _ e ⟨st.wf, st.env.unset i⟩
  | ct ρ S => exact fun O' H' σ' e st => h O' H' _ e ⟨st.wf, st.env.unset i⟩
  | rt d S => exact h
  | exc x ρ S => exact h.elim
  | bad => exact h.elim
/-- the fields' dict is not owned -/
theorem Stt.noXd {K : PySem.W.Frag} {O : Ow} {H : Hp} {ρ : DE.Env} {σ : L2.St} {S : Sto} (st : Stt K O H ρ σ S) {d : Addr} {vs : List (Str × V)} (h : H d = some (.xd vs)) : O.no d := by
  refine ⟨fun z => ?_, fun z => ?_⟩
  · obtain ⟨k, hk⟩ := List.mem_iff_getElem?.mp z
    have hl : k < S.length := by rw [st.wf.len]; exact (List.getElem?_eq_some_iff.mp hk).1
    have c := st.wf.cell k d S[k] hk (by simp [hl])
    cases q : S[k] <;> rw [q] at c <;> simp only [Cell] at c
    all_goals first
      | exact c
      | (obtain ⟨xs, c, _⟩ := c; rw [h] at c; cases c)
      | (obtain ⟨dx, xs, c, _⟩ := c; rw [h] at c; cases c)
  · obtain ⟨_, o, c, _, _, q⟩ := st.wf.hid d z
    rw [h] at c; cases c; exact q _ rfl
/-- what stands behind the clause's head -/
def tHnd (K : PySem.W.Frag) (cl : Str → Option Bool) (i : Nat) (hm : Exc → Nat → Nat → MS) (a : Addr) (cls : Value) (d : Option Addr) : TS := fun D' σ H => ∃ (x : Exc) (dd : Addr) (O : Ow) (ρ : DE.Env) (S : Sto), cls = .ref (He.ga K x.c) ∧ d = some dd ∧ cl x.c = some true ∧
  Stt K O H (ρ.set i (some (.xcp a dd x.fs))) σ S ∧ AfterS K W0 D' O H (hm x a dd (ρ.set i (some (.xcp a dd x.fs))) S)
theorem ds_try {body suite : List Stmt} {b₀ : Stmt} {n : Str} {np pos' : Pos} {fb : MS} {i : Nat} {cl : Str → Option Bool} {hm : Exc → Nat → Nat → MS} (hs : X.stack = X.env :: X.outer) (hf : X.env.frame = some X.env.locals) (hN : X.N.Nodup) (hi : X.N[i]? = some n) (hln : X.env.kindOf n = some .local)
    (hx : Names X x (.ref (He.ga X.K x))) (tk : Takes X W) (hcl : ∀ c b, cl c = some b → PySem.W.exmOne X.K (.ref (He.ga X.K c)) (.ref (He.ga X.K x)) = some b)
    (hb : ∀ (W' : WX) (pn : List (Addr × Obj)) (xe : Value → Shared → Prop), Takes (X.tr pn xe) W' → PassesOwn (model X.prog X.w) X.A X.env xe → DSs (X.tr pn xe) W' body fb)
    (hh : ∀ (y : Exc) (a dd : Addr) (oe : Obj) (pn : List (Addr × Obj)), cl y.c = some true → Zc (.ref (He.ga X.K y.c)) (some dd) oe → (∃ vs, oe.data = .fields vs) → DSs (X.suite a ((a, oe) :: pn)) W0 (b₀ :: suite) (hm y a dd))
    (hu : ∀ (y : Exc) (a dd : Nat) (ρ : DE.Env) (S : Sto), cl y.c = some true → (hm y a dd (ρ.set i (some (.xcp a dd y.fs))) S).unset i = (hm y 0 0 (ρ.set i (some (.xcp 0 0 y.fs))) S).unset i) :
    DS X W (.Try body [.ExceptHandler (some (.Name x np)) (some n) (b₀ :: suite) pos'] [] [] pos) (sTry fb cl i hm) := by
  refine ⟨PS.imp (ps_try_as (tb := fun W' => tS X.K W' fb) (ts := tHnd X.K cl i hm) hs hf hN hi hln hx tk (fun W' pn xe t p => (hb W' pn xe t p).pss) fun a oe cls d pn hz hd => ⟨?_⟩) ?_⟩
  · rintro pins s σ H D' I ⟨y, dd, O, ρ, S, rfl, rfl, hc, st, h⟩
    exact (hh y a dd oe pn hc hz hd).pss.run pins s σ H D' I ⟨O, _, S, st, h⟩
  · intro D' σ H ⟨O, ρ, S, st, h⟩
    refine ⟨O, ρ, S, st, ?_⟩
    unfold sTry at h
    cases q : fb ρ S with
    | nx ρ1 S1 => rw [q] at h; exact h
    | bk ρ1 S1 => rw [q] at h; exact h
    | ct ρ1 S1 => rw [q] at h; exact h
    | rt d S1 => rw [q] at h; exact h
    | bad => rw [q] at h; exact h
    | exc y ρ1 S1 =>
      rw [q] at h
      rintro O1 H1 σ1 cls dx e1 st1 ⟨rfl, dd, vs, rfl, hd, rf⟩
      cases q2 : cl y.c with
      | none => simp only [q2] at h; exact h.elim
      | some b =>
        refine ⟨b, hcl _ _ q2, fun eb a ha => ?_, fun eb => ?_⟩
        · subst eb
          simp only [q2] at h
          rw [← hu y a dd ρ1 S1 q2] at h
          have rr : Rep X.K O1 H1 (.xcp a dd y.fs) (.ref a) := ⟨rfl, vs, st1.noXd hd, hd, rf⟩
          exact ⟨y, dd, O1, ρ1, S1, rfl, rfl, q2, ⟨st1.wf, st1.env.set rr i⟩, AfterS.unset (AfterS.mono h e1)⟩
        · subst eb
          simp only [q2] at h
          exact h O1 H1 σ1 _ _ e1 st1 ⟨rfl, dd, vs, rfl, hd, rf⟩
/-! ### in the suite -/
/-- n.f -/
def dXf (a dd : Nat) (f : Str) (g : ME) : ME := fun ρ S => (g ρ S).bind fun d S1 => match d with
  | .xcp a' dd' fs => if a' = a ∧ dd' = dd then (match fs.lookup f with
    | some d => .ok d S1
    | none => .bad) else .bad
  | _ => .bad
theorem repF_lookup {K : PySem.W.Frag} {O : Ow} {H : Hp} {f : Str} : ∀ {fs : List (Str × D)} {vs : List (Str × V)} {d : D}, RepF K O H fs vs → fs.lookup f = some d → ∃ v, vs.lookup f = some v ∧ Rep K O H d v
  | [], _, _, _, e => by cases e
  | (k, d0) :: r, _, d, h, e => by
    obtain ⟨v, vr, rfl, h1, h2⟩ := h
    rw [List.lookup_cons] at e ⊢
    cases q : f == k with
    | true => rw [q] at e; cases e; exact ⟨v, rfl, h1⟩
    | false => rw [q] at e; exact repF_lookup h2 e
theorem de_xf {a dd : Addr} {oe : Obj} {pn : List (Addr × Obj)} {n : Str} {y : Str} (T : XfC X.K (He.ga X.K y)) (hno : PySem.W.findIn X.K (.ref (He.ga X.K y)) n = some none) (hz : Zc (.ref (He.ga X.K y)) (some dd) oe) (hf : ∃ vs, oe.data = .fields vs)
    (he : DE (X.suite a ((a, oe) :: pn)) W e g) (hb : attributeBase e n X.env (eval e X.env) = eval e X.env := by rfl) : DE (X.suite a ((a, oe) :: pn)) W (.Attribute e n pos) (dXf a dd n g) :=
  ⟨PE.imp (pe_xf T hno hz hf he.pe hb) fun σ H Q ⟨O, ρ, S, st, h⟩ => ⟨O, ρ, S, st, After.seq h fun d S1 O1 H1 v e1 st1 r1 h1 => by
    cases d <;> try exact h1.elim
    rename_i a' dd' fs
    obtain ⟨rfl, vs, nd, hd, rf⟩ := r1
    by_cases hc : a' = a ∧ dd' = dd
    · obtain ⟨rfl, rfl⟩ := hc
      simp only [and_self, if_true] at h1
      cases q : fs.lookup n with
      | none => simp only [q] at h1; exact h1.elim
      | some d =>
        simp only [q] at h1
        obtain ⟨v, hv, rv⟩ := repF_lookup rf q
        exact ⟨rfl, rfl, _, vs, v, rfl, hd, hv, After.ok h1 st1 rv⟩
    · simp only [hc, if_false] at h1; exact h1.elim⟩⟩
/-- isinstance(n, c) -/
def oXi (a dd : Nat) (kt : D → Option Bool) : FD := fun ds S => match ds with
  | [.xcp a' dd' _, t] => if a' = a ∧ dd' = dd then (match kt t with
    | some b => .ok (.bl b) S
    | none => .bad) else .bad
  | _ => .bad
theorem c_oXi {a : Addr} {dd : Addr} {oe : Obj} {pn : List (Addr × Obj)} {y : Str} {kt : D → Option Bool} (T : XfC X.K (He.ga X.K y)) (hk : kcB X.K (He.ga X.K y) = true) (hz : Zc (.ref (He.ga X.K y)) (some dd) oe) (hf : ∃ vs, oe.data = .fields vs)
    (ht : ∀ t b, kt t = some b → ∃ cv, (∀ K O H v u, K = X.K → Rep K O H t v → RelV v u → u = cv) ∧ PySem.W.kitOne X.K (.ref (He.ga X.K y)) cv = some b) : CallR (X.suite a ((a, oe) :: pn)) (.builtin "isinstance") (RC X.K (oXi a dd kt)) := by
  intro pins s σ H vs us Q I rv ⟨W, ρ, σ', O, S, ds, st, r, h⟩
  unfold oXi at h
  split at h
  · rename_i a' dd' fs t
    obtain ⟨v, u, rfl, r1, r2⟩ := r.two
    by_cases ha : a' = a ∧ dd' = dd
    · obtain ⟨rfl, rfl⟩ := ha
      simp only [and_self, if_true] at h
      cases q : kt t with
      | none => simp only [q] at h; exact h.elim
      | some b =>
        simp only [q] at h
        obtain ⟨cv, hc, hk1⟩ := ht t b q
        obtain ⟨rfl, vs', nd, hdd, _⟩ := r1
        cases rv with
        | cons rx rr =>
          cases rr with
          | cons rt rr =>
            cases rr
            cases rx
            have ec := hc _ O H u _ rfl r2 rt
            subst ec
            obtain ⟨hget, _⟩ := I.pin (a', oe) (List.mem_append.mpr (.inl List.mem_cons_self))
            obtain ⟨fv, hv⟩ := hf
            obtain ⟨z1, z2⟩ := hz
            obtain ⟨mA, hns, _⟩ := (show ObjOk X.prog X.w H s.heap dd' (.xd vs') from I.hok dd' _ hdd)
            obtain ⟨od, ho, _⟩ := lookIn_ns hns
            have J : PySem.W.InstAt s.heap a' oe (He.ga X.K y) (some od) := ⟨hget, z1, by unfold PySem.W.notCls; rw [hv] <;> rfl, by rw [z2]; exact ho⟩
            exact PySem.W.kia_one (kcB_kit hk T) I.kIn J hk1 (fun z => nomatch z) fun tk => ⟨.bl b, H, I.kept (t' := tk) fun _ _ z => z, rfl, After.ok h st rfl⟩
    · simp only [ha, if_false] at h; exact h.elim
  · exact h.elim
end
end DE

set_option maxHeartbeats 4000000
namespace DE
open PySem PySem.Spec PyProof.Rows L2 PySem.Froz
/-! ### sorted(set(t)), t a tuple of texts -/
/-- the set at a holds the texts l, each once, and can be walked -/
structure StrS (P : Program) (w : World) (h : Heap) (a : Addr) (l : List Str) : Prop where
  ex : ∃ es ep t, h.get? a = some (sObj "set" (es, ep, t)) ∧ TxOk P w (es, ep, t) l ∧ Ris t.place.toList ∧ (w.params.followText "set-order" = true ∨ t.led = true)
  nd : l.Nodup
section
variable {P : Program} {w : World} {A : Around} {E : Value → Shared → Prop} {s : Shared} {h h' : Heap} {a : Addr} {l : List Str}
theorem StrS.keep (R : StrS P w h a l) (k : ∀ o, h.get? a = some o → h'.get? a = some o) : StrS P w h' a l := by
  obtain ⟨⟨es, ep, t, g, r⟩, n⟩ := R
  exact ⟨⟨es, ep, t, k _ g, r⟩, n⟩
theorem tail_ris {ep : Nat} {es : Array (Int × Value)} {t : SetTable} {b : Bool} (r : Ris t.place.toList) : Ris (tailTx ep es t b).2.2.place.toList ∧ (tailTx ep es t b).2.2.led = t.led := by
  unfold tailTx
  split
  · exact ⟨relayAll_ris _ _ _, relayAll_led _ _ _⟩
  · exact ⟨r, rfl⟩
theorem add_ris {es : Array (Int × Value)} {ep : Nat} {t : SetTable} {z : Int} {v : Value} (r : Ris t.place.toList) : Ris (addTx z v (es, ep, t)).2.2.place.toList ∧ (addTx z v (es, ep, t)).2.2.led = t.led := by
  unfold addTx
  have r1 : Ris (if (layNew t es z v).2.1.plain = true then { (layNew t es z v).2.1 with plain := false } else (layNew t es z v).2.1).place.toList := by
    split <;> exact layNew_ris t es z v r
  have e1 : (if (layNew t es z v).2.1.plain = true then { (layNew t es z v).2.1 with plain := false } else (layNew t es z v).2.1).led = t.led := by
    split <;> exact layNew_led t es z v
  obtain ⟨q1, q2⟩ := tail_ris (ep := ep) (es := (layNew t es z v).1) (b := (layNew t es z v).2.2.1) r1
  exact ⟨q1, q2.trans e1⟩
/-- a text put in, new or not -/
theorem StrS.add {k : Str} {u : Tok} {Q : Bool → Shared → Prop} (R : StrS P w s.heap a l) (hb : l.length + 1 < scanBound)
    (hQ : ∀ h' b, Heap.SameBut a s.heap h' → StrS P w h' a (if k ∈ l then l else k :: l) → Q b { s with heap := h' }) : wpAny (model P w) A (setAddHashed a (.str k u) (hashStr w k)) Q E s := by
  obtain ⟨⟨es, ep, t, g, F, r, ld⟩, n⟩ := R
  by_cases hk : k ∈ l
  · rw [if_pos hk] at hQ
    have same := hQ s.heap false (Heap.SameBut.refl a s.heap) ⟨⟨es, ep, t, g, F, r, ld⟩, n⟩
    have ki : (strKind P w).is k (.str k u) = true := is_str k u
    have hd : (sObj "set" (es, ep, t)).data = .set es ep t := rfl
    have he : ElemsOf (strKind P w) es.toList := F.el
    have hf : t.fits es.size = true := F.fit
    have hz : es.size < scanBound := by
      have : es.size = l.length := F.sz
      omega
    unfold setAddHashed setAddHashedIn
    refine wpAny_holding (wpAny_bind (wpAny_setState_of g hd hf ?_))
    dsimp only
    rw [byScan_of rfl hz he, if_pos rfl]
    unfold setAddByScan
    refine wpAny_bind (wpAny_bind (wpAny_rule (wpAny_bind (wpAny_setScan_of (k := k) ki g hd hf he ?_))))
    cases q : List.findIdx? (fun e => (strKind P w).is k e.2) es.toList with
    | none =>
      obtain ⟨e, m1, m2⟩ := (F.mem k).mp hk
      have := List.findIdx?_eq_none_iff.mp q e m1
      rw [m2] at this; cases this
    | some i => exact wpAny_pure (wpAny_pure same)
  · rw [if_neg hk] at hQ
    refine add_x g F hk hb (hQ _ true (Heap.SameBut.update s.heap a _) ⟨⟨_, _, _, get_upd _ g rfl, add_ok u F, (add_ris r).1, ?_⟩, List.nodup_cons.mpr ⟨hk, n⟩⟩)
    exact ld.imp id fun z => (add_ris r).2.trans z
def putAll : List Str → List Str → List Str
  | l, [] => l
  | l, k :: r => putAll (if k ∈ l then l else k :: l) r
theorem putAll_len : ∀ {r l : List Str}, (putAll l r).length ≤ l.length + r.length
  | [], l => Nat.le_refl _
  | k :: r, l => by
    have h := putAll_len (r := r) (l := if k ∈ l then l else k :: l)
    have h2 : (if k ∈ l then l else k :: l).length ≤ l.length + 1 := by split <;> simp
    show (putAll _ r).length ≤ l.length + (r.length + 1)
    omega
theorem mem_putAll {k : Str} : ∀ {r l : List Str}, k ∈ putAll l r ↔ k ∈ l ∨ k ∈ r
  | [], l => by simp [putAll]
  | x :: r, l => by
    show k ∈ putAll (if x ∈ l then l else x :: l) r ↔ _
    rw [mem_putAll]
    by_cases h : x ∈ l
    · rw [if_pos h]
      constructor
      · rintro (z | z)
        · exact .inl z
        · exact .inr (List.mem_cons_of_mem _ z)
      · rintro (z | z)
        · exact .inl z
        · rcases List.mem_cons.mp z with rfl | z
          · exact .inl h
          · exact .inr z
    · rw [if_neg h, List.mem_cons, List.mem_cons]
      constructor
      · rintro ((z | z) | z)
        · exact .inr (.inl z)
        · exact .inl z
        · exact .inr (.inr z)
      · rintro (z | z | z)
        · exact .inl (.inr z)
        · exact .inl (.inl z)
        · exact .inr z
/-- set.update's loop over texts -/
theorem strs_loop {I D : Addr} {fp wr : List Addr} {G : Array GenState → Array GenState → Prop} {n : Nat} {Pv : Nat → Value → Prop} {St : Nat → Shared → Prop} {R : Result → Shared → Prop} (W : WalksS P w A.in1 I fp wr G n Pv St) (hD : D ∉ fp)
    {xs : List Str} (hn : n = xs.length) (hb : xs.length + 1 < scanBound) (hv : ∀ i v, Pv i v → ∃ k t, xs[i]? = some k ∧ v = .str k t) :
    ∀ (m i : Nat) (l : List Str) (s : Shared), n - i = m → i ≤ n → l.length ≤ i → St i s → StrS P w s.heap D l → (∀ s', Moved (D :: wr) G s s' → StrS P w s'.heap D (putAll l (xs.drop i)) → R (.ok (.ret .none)) s') →
      codeAny (model P w) A (.builtin "set.update.loop" ⟨[.ref D, .ref I], []⟩) R s := by
  have nw : D ∉ wr := fun z => hD (W.sub _ z)
  have wider : ∀ b ∈ wr, b ∈ D :: wr := fun _ z => .tail _ z
  intro m
  induction m with
  | zero =>
    intro i l s e1 e2 _ a1 a2 k
    have hi : i = n := by omega
    refine codeAny_builtin F.entry_set_update_loop (by
      rw [Around.under_plainId F.plain_set_update_loop _]
      refine (show wpAny _ A.in1 (pyNext (.ref I) >>= _) _ _ s from wpAny_bind (W.done s _ _ (hi ▸ a1) fun s1 mv => ?_))
      refine (show wpAny _ A.in1 (ret Value.none) _ _ s1 from wpAny_pure (k s1 (mv.mono wider) ?_))
      rw [hi, hn, List.drop_length]
      exact a2.keep fun o z => mv.heap D o nw z)
  | succ m ih =>
    intro i l s e1 e2 e3 a1 a2 k
    have hi : i < n := by omega
    refine codeAny_builtin F.entry_set_update_loop (by
      rw [Around.under_plainId F.plain_set_update_loop _]
      refine (show wpAny _ A.in1 (pyNext (.ref I) >>= _) _ _ s from wpAny_bind (W.item i s _ _ hi a1 fun v s1 pv st1 mv => ?_))
      obtain ⟨y, tk, hy, rfl⟩ := hv i v pv
      refine (show wpAny _ A.in1 (holding [Value.str y tk] (setAdd D (.str y tk)) >>= _) _ _ s1 from wpAny_bind (wpAny_holding ?_))
      unfold setAdd
      refine wpAny_holding (wpAny_bind ((strKind P w).pyHash (is_str y tk) ?_))
      have a3 : StrS P w s1.heap D l := a2.keep fun o z => mv.heap D o nw z
      refine StrS.add (s := { s1 with toks := s1.toks + 1 }) a3 (by omega) fun h2 b sb a4 => ?_
      have ed : xs.drop i = y :: xs.drop (i + 1) := by
        obtain ⟨q1, q2⟩ := List.getElem?_eq_some_iff.mp hy
        rw [List.drop_eq_getElem_cons q1, q2]
      have ln : (if y ∈ l then l else y :: l).length ≤ i + 1 := by
        split
        · omega
        · simp; omega
      refine wpAny_pure ⟨plainId_quiet F.plain_set_update_loop _, ih (i + 1) _ _ (by omega) hi ln (W.frame _ s1 _ _ st1 (Nat.le_succ _) fun c hc o z => ?_) a4 fun s3 mv3 a5 => ?_⟩
      · rw [sb.2 c fun z2 => hD (z2 ▸ hc)]; exact z
      · refine k s3 (Moved.trans W.gtrans ((mv.mono wider).then_heap (Nat.le_succ _) fun c o hc z => ?_) mv3) ?_
        · rw [sb.2 c fun z2 => hc (z2 ▸ List.mem_cons_self)]; exact z
        · rw [ed]; exact a5)
abbrev mtS (w : World) : Obj := { cls := .type "set", dict := none, data := .set #[] 0 (.fresh 0 0 (!w.params.followText "set-order")) }
theorem mtS_ok {hp : Heap} {b : Addr} (e : hp.get? b = some (mtS w)) : StrS P w hp b [] := by
  refine ⟨⟨#[], 0, _, e, TxOk.nil (by rfl), List.Pairwise.nil, ?_⟩, List.nodup_nil⟩
  show _ ∨ (!w.params.followText "set-order") = true
  cases w.params.followText "set-order" <;> simp
set_option maxHeartbeats 8000000 in
theorem set_tup {t : Addr} {items : Array Value} {xs : List Str} {Q : Value → Shared → Prop} (hh : A.handled = none) (ht : IsTup s.heap t items) (sz : items.size = xs.length) (hi : ∀ (i : Nat) (v : Value), items[i]? = some v → ∃ k u, xs[i]? = some k ∧ v = .str k u) (hb : xs.length + 1 < scanBound)
    (done : ∀ (hp : Heap) (tk : Nat), StrS P w hp s.heap.objs.size (putAll [] xs) → (∀ b o, s.heap.get? b = some o → hp.get? b = some o) → Q (.ref s.heap.objs.size) { s with heap := hp, toks := tk }) :
    wpAny (model P w) A (call (.type "set") [.ref t]) Q E s := by
  obtain ⟨cls0, tail0, m0⟩ := F.called_set.mro
  have (eq := _) c1 := F.called_set.made
  have (eq := _) c2 := F.called_set.sub
  have (eq := _) c3 := F.called_set.notType
  have (eq := _) c4 := F.called_set.canCreate
  have (eq := _) c5 := F.typeCall_set_1 (.ref t)
  refine wpAny_call (codeAny_of_tree (show wpAny _ _ (callAny (.type "set") _) _ _ _ from wpAny_pure ⟨Code.quiet_builtin _ (by decide +kernel), codeAny_builtin F.entry_type_call ?_⟩))
  rw [Around.under_plain (weight_type_call_type "set" [.ref t] []) rfl]
  repeat (any_goals (first | assumption | wp_step))
  refine codeAny_mono (code_set_led1 (.ref t) (E := E) (Q₁ := fun u s1 => u = .ref s.heap.objs.size ∧ s1 = { s with heap := s.heap.push (mtS w) }) ⟨rfl, rfl⟩) ?_
  rintro (er | fl) s1 hr
  · exact hr
  cases fl <;> try exact hr.elim
  obtain ⟨rfl, rfl⟩ := hr
  have g0 : (s.heap.push (mtS w)).get? s.heap.objs.size = some (mtS w) := Heap.get?_push_size _ rfl
  have ty : Shared.TypeIs { s with heap := s.heap.push (mtS w) } (.ref s.heap.objs.size) "set" := ⟨_, g0, rfl⟩
  have c6 := F.called_set.init.lookup
  have c7 := F.called_set.init.bind (.ref s.heap.objs.size)
  repeat (any_goals (first | assumption | wp_step))
  refine codeAny_mono (codeAny_call_builtin (R := wants (fun r s2 => r = .none ∧ ∃ hp tk, s2 = { s with heap := hp, toks := tk } ∧ StrS P w hp s.heap.objs.size (putAll [] xs) ∧ ∀ b o, s.heap.get? b = some o → hp.get? b = some o) E) F.called_set.init.plain F.entry_set_init (check_set_init_1 ty ?_)) ?_
  · obtain ⟨⟨oc, od, dt, sl⟩, ho, hc, nn, hd⟩ := ht
    dsimp only at hc hd
    subst hc hd
    have q1 := F.sub_tuple_set
    have q2 := F.sub_tuple_frozenset
    have q3 : (Value.type "tuple" == Value.type "dict") = false := by decide
    have ho1 : (s.heap.push (mtS w)).get? t = some { cls := .type "tuple", dict := od, data := .seq items nn, slots := sl } := Heap.get?_push_of_some _ ho
    have tp : (s.heap.push (mtS w)).IsTuple t items := ⟨_, ho1, rfl, nn, rfl⟩
    unfold Builtin.«set.__init__» noKeywords Builtin.Frozenset.updateFrom
    generalize eIt : pyIter = it
    wp_walk
    subst eIt
    refine wpAny_pyIter_tuple tp (wpAny_bind (wpAny_runValue ?_))
    have lt : t < s.heap.objs.size := Heap.lt_size ho
    have sp : (s.heap.push (mtS w)).objs.size = s.heap.objs.size + 1 := Heap.size_push ..
    have n1 : t ≠ (s.heap.push (mtS w)).objs.size := fun z => absurd (z.trans sp) (Nat.ne_of_lt (Nat.lt_succ_of_lt lt))
    have n2 : s.heap.objs.size ∉ [(s.heap.push (mtS w)).objs.size, t] := fun z => by
      rcases List.mem_cons.mp z with z | z
      · exact absurd (z.trans sp) (Nat.ne_of_lt (Nat.lt_succ_self _))
      · exact absurd (List.mem_singleton.mp z).symm (Nat.ne_of_lt lt)
    have g1 : ((s.heap.push (mtS w)).push { cls := .type "tuple_iterator", data := .fields #[.ref t, .int 0 0] }).get? s.heap.objs.size = some (mtS w) := Heap.get?_push_of_some _ g0
    refine strs_loop ((Walks.tuple (show A.in1.in1.in1.handled = none by simp [hh]) _ t n1 items).toS) n2 sz hb hi (items.size - 0) 0 [] _ rfl (Nat.zero_le _) (Nat.le_refl _) ⟨⟨_, Heap.get?_push_size _ rfl, rfl, rfl⟩, tp.push _⟩ (mtS_ok g1) fun s5 mv R5 => ?_
    obtain ⟨h5, g5, d5, t5, o5⟩ := s5
    obtain rfl : g5 = s.gens := mv.gens
    obtain rfl : d5 = s.drawn := mv.drawn
    obtain rfl : o5 = s.os := mv.os
    refine (show wpAny _ _ _ _ _ _ from wpAny_pure (show wpAny _ _ (ret Value.none) _ _ _ from wpAny_pure ⟨rfl, h5, t5, rfl, R5, fun b o z => ?_⟩))
    have lb : b < s.heap.objs.size := Heap.lt_size z
    refine mv.heap b o (fun y => ?_) (Heap.get?_push_of_some _ (Heap.get?_push_of_some _ z))
    rcases List.mem_cons.mp y with y | y
    · exact absurd y (Nat.ne_of_lt lb)
    · exact absurd ((List.mem_singleton.mp y).trans sp) (Nat.ne_of_lt (Nat.lt_succ_of_lt lb))
  · rintro (er | fl) s6 hr
    · exact hr
    cases fl <;> try exact hr.elim
    obtain ⟨rfl, h6, t6, rfl, R6, k6⟩ := hr
    repeat (any_goals (first | assumption | wp_step))
    exact done h6 t6 R6 k6
end
end DE

set_option maxHeartbeats 4000000
namespace DE
open PySem PySem.Spec PyProof.Rows L2 PySem.Froz
/-! ### rows of texts, rising -/
abbrev Asc (l : List Str) : Prop := l.Pairwise fun x y => strLt x y = true
theorem strLt_irr (x : Str) : strLt x x = false := by unfold strLt; simp [List.lt_irrefl]
theorem strLt_tr {x y z : Str} (h : strLt x y = true) (k : strLt y z = true) : strLt x z = true := by
  unfold strLt at *
  simp only [decide_eq_true_eq] at *
  exact List.lt_trans h k
theorem strLt_tot {x y : Str} (h : strLt x y = false) (k : strLt y x = false) : x = y := by
  unfold strLt at *
  simp only [decide_eq_false_iff_not] at *
  obtain ⟨⟨x⟩⟩ := x
  obtain ⟨⟨y⟩⟩ := y
  have : x = y := List.le_antisymm (List.not_lt.mp k) (List.not_lt.mp h)
  rw [this]
def insS (k : Str) : List Str → List Str
  | [] => [k]
  | x :: r => if strLt k x = true then k :: x :: r else if strLt x k = true then x :: insS k r else x :: r
def sortD (l : List Str) : List Str := l.foldr insS []
theorem mem_insS {k y : Str} : ∀ {l : List Str}, y ∈ insS k l ↔ y = k ∨ y ∈ l
  | [] => by simp [insS]
  | x :: r => by
    unfold insS
    split
    · simp
    · rename_i h1
      split
      · rw [List.mem_cons, mem_insS, List.mem_cons]
        constructor
        · rintro (z | z | z)
          · exact .inr (.inl z)
          · exact .inl z
          · exact .inr (.inr z)
        · rintro (z | z | z)
          · exact .inr (.inl z)
          · exact .inl z
          · exact .inr (.inr z)
      · rename_i h2
        have e := strLt_tot (by simpa using h1) (by simpa using h2)
        subst e
        constructor
        · exact .inr
        · rintro (z | z)
          · rw [z]; exact List.mem_cons_self
          · exact z
theorem asc_insS {k : Str} : ∀ {l : List Str}, Asc l → Asc (insS k l)
  | [], _ => List.pairwise_singleton _ _
  | x :: r, h => by
    obtain ⟨h1, h2⟩ := List.pairwise_cons.mp h
    unfold insS
    split
    · rename_i q
      refine List.pairwise_cons.mpr ⟨fun y hy => ?_, h⟩
      rcases List.mem_cons.mp hy with z | z
      · rw [z]; exact q
      · exact strLt_tr q (h1 y z)
    · split
      · rename_i q
        refine List.pairwise_cons.mpr ⟨fun y hy => ?_, asc_insS h2⟩
        rcases mem_insS.mp hy with z | z
        · rw [z]; exact q
        · exact h1 y z
      · exact h
theorem sortD_asc : ∀ l : List Str, Asc (sortD l)
  | [] => List.Pairwise.nil
  | x :: r => asc_insS (sortD_asc r)
theorem mem_sortD {y : Str} : ∀ {l : List Str}, y ∈ sortD l ↔ y ∈ l
  | [] => Iff.rfl
  | x :: r => by
    show y ∈ insS x (sortD r) ↔ _
    rw [mem_insS, mem_sortD, List.mem_cons]
theorem asc_ext : ∀ {l m : List Str}, Asc l → Asc m → (∀ k, k ∈ l ↔ k ∈ m) → l = m
  | [], [], _, _, _ => rfl
  | [], y :: m, _, _, h => absurd ((h y).mpr List.mem_cons_self) (by simp)
  | x :: l, [], _, _, h => absurd ((h x).mp List.mem_cons_self) (by simp)
  | x :: l, y :: m, a, b, h => by
    obtain ⟨a1, a2⟩ := List.pairwise_cons.mp a
    obtain ⟨b1, b2⟩ := List.pairwise_cons.mp b
    have exy : x = y := by
      rcases List.mem_cons.mp ((h x).mp List.mem_cons_self) with e | hx
      · exact e
      · rcases List.mem_cons.mp ((h y).mpr List.mem_cons_self) with e | hy
        · exact e.symm
        · have q := strLt_tr (a1 y hy) (b1 x hx)
          rw [strLt_irr] at q; cases q
    subst exy
    congr 1
    refine asc_ext a2 b2 fun k => ?_
    have hk := h k
    rw [List.mem_cons, List.mem_cons] at hk
    constructor
    · intro z
      rcases hk.mp (.inr z) with e | z'
      · subst e
        have q := a1 k z
        rw [strLt_irr] at q; cases q
      · exact z'
    · intro z
      rcases hk.mpr (.inr z) with e | z'
      · subst e
        have q := b1 k z
        rw [strLt_irr] at q; cases q
      · exact z'
/-- a row is its sorted self just if it rises -/
theorem eq_sortD {l : List Str} : l = sortD l ↔ Asc l := ⟨fun e => e ▸ sortD_asc l, fun a => asc_ext a (sortD_asc l) fun k => mem_sortD.symm⟩
theorem rising_le : ∀ {l : List Str} {p : Str}, risingS p l = true → (p :: l).Pairwise fun x y => strLt y x = false
  | [], p, _ => List.pairwise_singleton _ _
  | x :: r, p, h => by
    have h' : (!ltCps x.cps.toList p.cps.toList && risingS x r) = true := h
    obtain ⟨h1, h2⟩ := Bool.and_eq_true_iff.mp h'
    have ih := rising_le h2
    have h3 : strLt x p = false := by
      rw [ltCps_eq] at h1
      exact Bool.not_eq_true' _ ▸ h1
    refine List.pairwise_cons.mpr ⟨fun y hy => ?_, ih⟩
    rcases List.mem_cons.mp hy with e | hy
    · rw [e]; exact h3
    · have h4 := (List.pairwise_cons.mp ih).1 y hy
      cases q : strLt y p with
      | false => rfl
      | true =>
        by_cases e : x = y
        · rw [← e, h3] at q; cases q
        · cases q2 : strLt x y with
          | true => rw [strLt_tr q2 q] at h3; cases h3
          | false => exact absurd (strLt_tot q2 h4) e
theorem asc_of_sorted {l : List Str} (h : sortedS l = true) (n : l.Nodup) : Asc l := by
  cases l with
  | nil => exact List.Pairwise.nil
  | cons x r =>
    refine (List.pairwise_and_iff.mpr ⟨rising_le h, n⟩ : List.Pairwise _ _).imp fun {a b} ⟨h1, h2⟩ => ?_
    cases q : strLt a b with
    | true => rfl
    | false => exact absurd (strLt_tot q h1) h2
theorem perm_of_sub : ∀ {l m : List Str}, l.Nodup → (∀ k ∈ l, k ∈ m) → m.length = l.length → m.Perm l
  | [], m, _, _, e => by rw [List.length_eq_zero_iff.mp e]
  | x :: l, m, n, h, e => by
    obtain ⟨n1, n2⟩ := List.nodup_cons.mp n
    have hx := h x List.mem_cons_self
    have p := List.perm_cons_erase hx
    refine p.trans (List.Perm.cons x (perm_of_sub n2 (fun k hk => ?_) ?_))
    · exact (List.mem_erase_of_ne (fun z : k = x => n1 (z ▸ hk))).mpr (h k (List.mem_cons_of_mem _ hk))
    · rw [List.length_erase_of_mem hx, e]; rfl
section
variable {P : Program} {w : World} {A : Around} {E : Value → Shared → Prop} {s : Shared} {a : Addr} {l : List Str}
theorem strOf_is {k : Str} {v : Value} (h : (PySem.strKind P w).is k v = true) : strOf v = k ∧ ∃ x t, v = .str x t := by
  obtain ⟨t, rfl⟩ := Value.isStrOf_shape h
  exact ⟨rfl, _, _, rfl⟩
/-- sorted(a set of texts) -/
theorem sorted_set_strs {Q : Value → Shared → Prop} (R : StrS P w s.heap a l) (hh : A.handled = none) (hb : l.length < scanBound)
    (done : ∀ (s' : Shared) (p : Addr) (out : Array Value) (c : Nat), (∀ b o, s.heap.get? b = some o → s'.heap.get? b = some o) → s'.gens = s.gens → s'.os = s.os → s.heap.objs.size ≤ p → s'.heap.get? p = some (seqObj "list" out c) → StrsAre out.toList (sortD l) → Q (.ref p) s') :
    wpAny (model P w) A (call (.builtin "sorted") [.ref a]) Q E s := by
  obtain ⟨⟨es, ep, t, g, F, r, ld⟩, n⟩ := R
  have hz : es.size = l.length := F.sz
  refine Calls.call_function_entry kind_sorted plain_sorted entry_sorted (args_sorted1 _) (by
    unfold Builtin.«sorted»
    refine wpAny_bind (m := checkCount "sorted" 1 1 _) (wpAny_pure (wpAny_bind (collect_set (A := A.in1) hh ⟨_, g, rfl, rfl⟩ F.fit (show es.size < scanBound by omega) r ld fun s1 vs k1 z1 g1 o1 pm => ?_)))
    have len : vs.length = l.length := by rw [pm.length_eq, List.length_map, Array.length_toList, hz]
    have allS : ∀ v ∈ vs, ∃ k, (PySem.strKind P w).is k v = true := fun v hv => by
      obtain ⟨e, m1, rfl⟩ := List.mem_map.mp (pm.mem_iff.mp hv)
      obtain ⟨⟨k, m2, _⟩, _⟩ := F.el e m1
      exact ⟨k, m2⟩
    have SA := strsAre_map vs fun v hv => (strOf_is (allS v hv).choose_spec).2
    have pl : (vs.map strOf).Perm l := perm_of_sub n (fun k hk => by
      obtain ⟨e, m1, m2⟩ := (F.mem k).mp hk
      exact List.mem_map.mpr ⟨e.2, pm.mem_iff.mpr (List.mem_map_of_mem m1), (strOf_is m2).1⟩) (by rw [List.length_map, len])
    have lz : vs.length ≤ sizeLine := by rw [len]; exact fits_of_scanBound (n := l.length) hb
    refine wpAny_bind (wpAny_newList ?_ lz)
    have at1 : (s1.heap.push (seqObj "list" vs.toArray 0)).get? s1.heap.objs.size = some (seqObj "list" vs.toArray 0) := Heap.get?_push_size _ rfl
    refine wpAny_bind (wpAny_holding (wpAny_call_entry slot_list_sort ⟨_, at1, rfl⟩ entry_list_sort (list_sort_treeKAny strKind_oneLt at1 SA.keysOf (fun v₁ v₂ rest e => keyKind_strs (by rw [← e]; exact SA)) lz fun st a1 a2 => ⟨_, rfl, ?_⟩) (args_list_sort _)))
    obtain ⟨ys, y1, y2, y3⟩ := sorted_out_str SA a1 a2
    have ey : ys = sortD l := asc_ext (asc_of_sorted y3 ((y2.trans pl).nodup_iff.mpr n)) (sortD_asc l) fun k => ((y2.trans pl).mem_iff).trans mem_sortD.symm
    rw [ey] at y1
    obtain ⟨c, hc⟩ := sortedHeap_at (vs := vs) (out := (arrOf st).map (·.2)) at1
    refine wpAny_pure ⟨_, rfl, done _ s1.heap.objs.size _ c (fun b o z => ?_) g1 o1 z1 hc y1⟩
    have q := k1 b o z
    have lt := Heap.lt_size q
    refine (sortedHeap_old (Nat.ne_of_lt lt) (by rw [size_push']; exact Nat.lt_succ_of_lt lt)).trans ?_
    exact Heap.get?_push_of_some _ q)
end
/-! ### the rule -/
def dSS (f : ME) : ME := fun ρ S => (f ρ S).bind fun d S1 => match d with
  | .tup ds => (match strsOf ds with
    | some xs => if xs.length < 4000 then .ok (.lst ((sortD xs).map .str)) S1 else .bad
    | none => .bad)
  | _ => .bad
theorem reps_strs {K : PySem.W.Frag} {O : Ow} {H : Hp} : ∀ {xs : List Str}, Reps K O H (xs.map .str) (xs.map .str)
  | [] => rfl
  | x :: r => ⟨.str x, r.map .str, rfl, rfl, reps_strs⟩
theorem strs_at2 : ∀ {vs : List Value} {xs : List Str} {i : Nat} {v : Value}, StrsAre vs xs → vs[i]? = some v → ∃ k u, xs[i]? = some k ∧ v = .str k u
  | _, _, _, _, .nil, h => by simp at h
  | _, _, 0, _, .cons y t r, h => by simp at h; exact ⟨y, t, rfl, h.symm⟩
  | _, _, i + 1, _, .cons y t r, h => by simpa using strs_at2 (i := i) r (by simpa using h)
theorem insS_len {k : Str} : ∀ {l : List Str}, (insS k l).length ≤ l.length + 1
  | [] => Nat.le_refl _
  | x :: r => by
    unfold insS
    split
    · simp
    · split
      · have := insS_len (k := k) (l := r)
        simp; omega
      · simp
theorem sortD_len : ∀ {l : List Str}, (sortD l).length ≤ l.length
  | [] => Nat.le_refl _
  | x :: r => Nat.le_trans insS_len (Nat.succ_le_succ sortD_len)
theorem sortD_put {l : List Str} : sortD (putAll [] l) = sortD l := asc_ext (sortD_asc _) (sortD_asc _) fun k => by
  rw [mem_sortD, mem_sortD, mem_putAll]; simp
section
variable {X : Cx} {W : WX} {a : Expr} {f : ME} {p p2 q pos : Pos}
theorem de_ss (hc : X.calm = true) (hg : Gl X "sorted") (hm : X.mg "sorted" = none) (hg2 : Gl X "set") (hm2 : X.mg "set" = none) (he : DE X W a f) (na : starEach [a] X.env = (false, eval a X.env) :: starEach [] X.env := by rfl) :
    DE X W (.Call (.Name "sorted" p) [.Call (.Name "set" p2) [a] [] q] [] pos) (dSS f) := ⟨⟨fun pins s σ H Q I ⟨O, ρ, S, st, h⟩ => by
  refine Call_ (ld_blt I hg hm (show bootBuiltins "sorted" = some (.builtin "sorted") by decide +kernel) ?_)
  refine PyProof.Rows.callWith_builtin1 (PyProof.Rows.args_cons ?_ rfl) rfl rfl
  refine Call_ (ld_blt I hg2 hm2 (show bootBuiltins "set" = some (.type "set") by decide +kernel) ?_)
  refine PyProof.Rows.callWith_type1 (PyProof.Rows.args_cons (thn (he.pe.run pins s σ H (fun v H1 => ∃ O1 d S1, Stt X.K O1 H1 ρ σ S1 ∧ Rep X.K O1 H1 d v ∧ After X.K W (Rep X.K) ρ σ O1 H1 Q (match d with
    | .tup ds => (match strsOf ds with
      | some xs => if xs.length < 4000 then .ok (.lst ((sortD xs).map .str)) S1 else .bad
      | none => .bad)
    | _ => .bad)) I ⟨O, ρ, S, st, After.seq h fun d S1 O1 H1 v e1 st1 r1 h1 => ⟨O1, d, S1, st1, r1, h1⟩⟩) fun u s1 ⟨v, H1, I1, rv, O1, d, S1, st1, r1, h1⟩ => PyProof.Rows.args_nil ?_) na) na rfl
  cases d <;> try exact h1.elim
  rename_i ds
  cases e : strsOf ds with
  | none => simp only [e] at h1; exact h1.elim
  | some xs =>
    by_cases hl : xs.length < 4000
    · simp only [e, hl, if_true] at h1
      obtain ⟨t, vs, rfl, ht, rs⟩ := r1
      obtain rfl := strs_rep e rs
      cases rv
      obtain ⟨its, rvs, tp, _⟩ := I1.tuple (sqT_of ht)
      have SA : StrsAre its xs := rvs.strs
      have ln : its.toArray.size = xs.length := by rw [List.size_toArray]; exact (rvs.length.symm).trans (List.length_map _)
      refine set_tup (I1.ok.hd hc) tp ln (fun i v hv => strs_at2 SA (by simpa using hv)) (by unfold scanBound; omega) fun hp tk R k1 => PyProof.Rows.args_nil ?_
      have I2 : Inv X pins σ H1 { s1 with heap := hp, toks := tk } := I1.kept k1
      have lp : (putAll [] xs).length < scanBound := by
        have := putAll_len (r := xs) (l := [])
        unfold scanBound
        simp at this
        omega
      refine sorted_set_strs R (I2.ok.hd hc) lp fun s3 b out c k3 g3 o3 z3 at3 y3 => ?_
      rw [sortD_put] at y3
      have hn : H1 b = none := I2.hok.fresh z3
      obtain ⟨e2, st2⟩ := st1.new (o := .lst ((sortD xs).map V.str)) hn
      have lz : ((sortD xs).map V.str).length ≤ sizeLine := by
        have := sortD_len (l := xs)
        rw [List.length_map, sizeLine_eq]; omega
      have J : Inv X pins σ (upd H1 b (.lst ((sortD xs).map V.str))) s3 := I2.call' (ch := []) o3 (Un.laid k3 z3 hn) (I2.hok.laid k3 z3 ⟨lz, out.toList, c, vals_of_strs y3, at3⟩) (by rw [g3]; exact I2.bare) (fun _ z => nomatch z)
      exact ⟨.ref b, _, J, rfl, h1 O1 _ _ e2 st2 ⟨b, _, rfl, st1.no hn, upd_same, reps_strs⟩⟩
    · simp only [e, hl, if_false] at h1; exact h1.elim⟩⟩
end
end DE

set_option maxHeartbeats 4000000
namespace DE
open PySem PySem.Spec PyProof.Rows L2
section
variable {X : Cx} {W : WX} {a : Expr} {f : ME} {p pos pos' : Pos} {e : Expr}
/-! ### int(..) of a number -/
def oInt : FD := fun ds S => match ds with
  | [.int i] => .ok (.int i) S
  | [.bl b] => .ok (.int (if b then 1 else 0)) S
  | _ => .bad
theorem c_oInt : CallR X (.type "int") (RC X.K oInt) := by
  intro pins s σ H vs us Q I rv ⟨W, ρ, σ', O, S, ds, st, r, h⟩
  unfold oInt at h
  split at h
  · obtain ⟨v, rfl, r1⟩ := r.one
    exact call_int1 pins s σ H _ us Q I rv (.inl ⟨_, by rw [show v = _ from r1], After.ok h st rfl⟩)
  · obtain ⟨v, rfl, r1⟩ := r.one
    exact call_int1 pins s σ H _ us Q I rv (.inr ⟨_, by rw [show v = _ from r1], After.ok h st rfl⟩)
  · exact h.elim
/-! ### a tuple so many times -/
def oMul2 : D → D → Sto → RE D := fun d e S => match d, e with
  | .tup xs, .int n => if xs ≠ [] ∧ 2 ≤ n ∧ n ≤ 1000 ∧ xs.length ≤ 1000 then .ok (.tup (List.replicate n.toNat xs).flatten) S else .bad
  | _, _ => .bad
theorem op_oMul2 : OpR X (binaryOp .Mult) (RD X.K oMul2) := by
  intro pins s σ H x y v u Q I rx ry ⟨W, ρ, σ', O, S, d, e, st, r1, r2, h⟩
  unfold oMul2 at h
  split at h
  · rename_i xs n
    obtain ⟨⟨c1, c2, c3, c4⟩, h⟩ := After.ite h
    obtain ⟨l, vs, rfl, hl, rs⟩ := r1
    refine op_repT pins s σ H _ _ v u Q I rx ry ⟨l, n, vs, rfl, r2, sqT_of hl, fun z => c1 ?_, c2, c3, by rw [← rs.length]; exact c4, fun t ht => ?_⟩
    · cases xs with
      | nil => rfl
      | cons _ _ => obtain ⟨_, _, q, _⟩ := rs; rw [z] at q; cases q
    · obtain ⟨e2, st2⟩ := st.new (o := .tup (List.replicate n.toNat vs).flatten) ht
      exact h O _ _ e2 st2 ⟨t, _, rfl, .inl upd_same, (rs.mono (e2.w st.wf)).rep _⟩
  · exact h.elim
/-! ### lists that change: a sum -/
def lstAt (S : Sto) : D → Option (List D)
  | .lst ds => some ds
  | .own k => match S[k]? with
    | some (.lst ds) => some ds
    | _ => none
  | _ => none
theorem lstAt_rep {K : PySem.W.Frag} {O : Ow} {H : Hp} {ρ : DE.Env} {σ : L2.St} {S : Sto} {d : D} {v : V} {ds : List D} (st : Stt K O H ρ σ S) (e : lstAt S d = some ds) (r : Rep K O H d v) : ∃ p xs, v = .ref p ∧ H p = some (.lst xs) ∧ Reps K O H ds xs := by
  cases d <;> simp only [lstAt] at e <;> try cases e
  case lst => obtain ⟨p, xs, rfl, _, h, q⟩ := r; exact ⟨p, xs, rfl, h, q⟩
  case own k =>
    obtain ⟨p, h, rfl⟩ := r
    split at e
    · rename_i ds' hk
      cases e
      obtain ⟨xs, h1, q⟩ := st.wf.cell k p _ h hk
      exact ⟨p, xs, rfl, h1, q⟩
    · cases e
def oAddL (d e : D) (S : Sto) : RE D := match lstAt S d, lstAt S e with
  | some xs, some ys => if xs.length + ys.length ≤ cap then .ok (.lst (xs ++ ys)) S else .bad
  | _, _ => .bad
def oAddO (d e : D) (S : Sto) : RE D := match lstAt S d, lstAt S e with
  | some xs, some ys => if xs.length + ys.length ≤ cap then .ok (.own S.length) (S ++ [.lst (xs ++ ys)]) else .bad
  | _, _ => .bad
theorem op_oAddL : OpR X (binaryOp .Add) (RD X.K oAddL) := by
  intro pins s σ H x y v u Q I rx ry ⟨W, ρ, σ', O, S, d, e, st, r1, r2, h⟩
  unfold oAddL at h
  split at h
  · rename_i xs ys q1 q2
    obtain ⟨hc, h⟩ := After.ite h
    obtain ⟨a, vs, rfl, h1, s1⟩ := lstAt_rep st q1 r1
    obtain ⟨b, us, rfl, h2, s2⟩ := lstAt_rep st q2 r2
    refine op_cat pins s σ H _ _ v u Q I rx ry ⟨a, b, vs, us, rfl, rfl, h1, h2, by rw [← s1.length, ← s2.length]; exact cap_line hc, fun t ht => ?_⟩
    obtain ⟨e2, st2⟩ := st.new (o := .lst (vs ++ us)) ht
    exact h O _ _ e2 st2 ⟨t, _, rfl, st.no ht, upd_same, (s1.mono (e2.w st.wf)).append (s2.mono (e2.w st.wf))⟩
  · exact h.elim
theorem op_oAddO : OpR X (binaryOp .Add) (RD X.K oAddO) := by
  intro pins s σ H x y v u Q I rx ry ⟨W, ρ, σ', O, S, d, e, st, r1, r2, h⟩
  unfold oAddO at h
  split at h
  · rename_i xs ys q1 q2
    obtain ⟨hc, h⟩ := After.ite h
    obtain ⟨a, vs, rfl, h1, s1⟩ := lstAt_rep st q1 r1
    obtain ⟨b, us, rfl, h2, s2⟩ := lstAt_rep st q2 r2
    refine op_cat pins s σ H _ _ v u Q I rx ry ⟨a, b, vs, us, rfl, rfl, h1, h2, by rw [← s1.length, ← s2.length]; exact cap_line hc, fun t ht => ?_⟩
    obtain ⟨e2, st2⟩ := st.newO (o := .lst (vs ++ us)) (d := .lst (xs ++ ys)) ht fun ex => ⟨vs ++ us, upd_same, (s1.mono (ex.w st.wf)).append (s2.mono (ex.w st.wf))⟩
    exact h _ _ _ e2 st2 ⟨t, by rw [st.wf.len]; exact getElem?_snoc _ _, rfl⟩
  · exact h.elim
/-! ### a tuple of the module's -/
def dvD : He.Dv → D
  | .non => .non
  | .bl b => .bl b
  | .int i => .int i
  | .str x => .str x
  | .ty n => .ty n
  | .glo x => .glo x
  | _ => .own 0
def dvOk : He.Dv → Bool
  | .non => true | .bl _ => true | .int _ => true | .str _ => true | .ty _ => true | .glo _ => true
  | _ => false
theorem dv_rep {K : PySem.W.Frag} {O : Ow} {H : Hp} : ∀ {vs : List He.Dv}, vs.all dvOk = true → Reps K O H (vs.map dvD) (vs.map (He.Dv.v K))
  | [], _ => rfl
  | v :: r, h => by
    rw [List.all_cons, Bool.and_eq_true] at h
    refine ⟨_, _, rfl, ?_, dv_rep h.2⟩
    cases v <;> first | rfl | exact absurd (show false = true from h.1) (by decide)
theorem de_gtup {x : Str} {vs : List He.Dv} (hg : Gl X x) (hm : X.mg x = some (.ref (He.ga X.K x))) (ht : He.tupB X.K x vs = true) (ho : vs.all dvOk = true := by decide) (hdb : (x == ("__debug__" : Str)) = false := by decide) : DE X W (.Name x pos) (dC (.tup (vs.map dvD))) :=
  ⟨⟨fun pins s σ H Q I ⟨O, ρ, S, st, h⟩ => ld_glob I hg hm ⟨.ref _, H, I, rfl, After.ok h st ⟨_, _, rfl, .inr (He.tupB_ok ht _), dv_rep ho⟩⟩ hdb⟩⟩
/-! ### name op= e -/
def sAug (i : Nat) (g : ME) : MS := fun ρ S => match ρ[i]? with
  | some (some (.int a)) => (g ρ S).stm ρ fun e S1 => match e with
    | .int b => .nx (ρ.set i (some (.int (a + b)))) S1
    | _ => .bad
  | _ => .bad
theorem ds_aug (i : Nat) {x : Str} (hN : X.N.Nodup) (hi : X.N[i]? = some x) (hx : Loc X.env.scope x) (he : DE X W e f) (hf : X.fn x = true ∨ X.env.scope.names.lookup x = some .local := by first | exact .inl rfl | exact .inr rfl | assumption) : DS X W (.AugAssign (.Name x pos') .Add e pos) (sAug i f) :=
  ⟨PS.imp (ps_aug hN hi hx he.pe ip_add hf) fun D' σ H ⟨O, ρ, S, st, h⟩ => by
    unfold sAug at h
    split at h
    · rename_i a q
      obtain ⟨v, hv, r0⟩ := st.env.get q
      refine ⟨v, hv, O, ρ, S, st, AfterS.seqE h fun d S1 O1 H1 u e1 st1 r1 h1 => ?_⟩
      cases d <;> try exact h1.elim
      rename_i b
      exact ⟨a, b, r0, r1, h1 O1 H1 _ .refl ⟨st1.wf, st1.env.set (d := .int (a + b)) (v := .int (a + b)) rfl i⟩⟩
    · exact h.elim⟩
/-! ### a, b = x, y with plain names -/
def sPar (i j : Nat) (fa : MA) : MS := fun ρ S => (fa ρ S).stm ρ fun ds S1 => match ds with
  | [d, e] => .nx ((ρ.set i (some d)).set j (some e)) S1
  | _ => .bad
theorem ds_par (i j : Nat) {x y : Str} {b : Expr} {fa : MA} {px py pt : Pos} {kt k2 pt2} (hc : X.calm = true) (hN : X.N.Nodup) (ha : DA X W [a, b] fa) (hi : X.N[i]? = some x := by rfl) (hj : X.N[j]? = some y := by rfl) (hij : i ≠ j := by decide)
    (hx : X.env.scope.names.lookup x = some .local := by rfl) (hy : X.env.scope.names.lookup y = some .local := by rfl)
    (hw : swappedStores [.Tuple [.Name x px, .Name y py] kt pt] (.Tuple [a, b] k2 pt2) X.env = pure (some [x, y]) := by rfl)
    (hs : swapsWithSole [.Tuple [.Name x px, .Name y py] kt pt] (.Tuple [a, b] k2 pt2) pos.line X.env = pure false := by rfl) :
    DS X W (.Assign [.Tuple [.Name x px, .Name y py] kt pt] (.Tuple [a, b] k2 pt2) pos) (sPar i j fa) :=
  ⟨PS.imp (ps_par hc hN hi hj hij hx hy ha.pa hw hs) fun D' σ H ⟨O, ρ, S, st, h⟩ => ⟨O, ρ, S, st, AfterS.seqE h fun ds S1 O1 H1 vs e1 st1 r1 h1 => by
    rcases ds with _ | ⟨d, _ | ⟨e, _ | ⟨_, _⟩⟩⟩
    · exact h1.elim
    · exact h1.elim
    · obtain ⟨v, u, rfl, q1, q2⟩ := r1.two
      exact ⟨v, u, rfl, h1 O1 H1 _ .refl ⟨st1.wf, (st1.env.set q1 i).set q2 j⟩⟩
    · exact h1.elim⟩⟩
/-- nothing is told -/
theorem dss_bad {ss : List Stmt} : DSs X W ss (fun _ _ => .bad) := ⟨⟨fun pins s σ H D' I ⟨O, ρ, S, st, h⟩ => h.elim⟩⟩
/-! ### a, b = a tuple or a list -/
def gTL (n : Nat) (g : MGs) : MG := fun d ρ => match d with
  | .tup ds => if ds.length = n then g ds ρ else none
  | .lst ds => if ds.length = n then g ds ρ else none
  | _ => none
theorem dg_tl {es : List Expr} {k : Nat} {is : List Nat} {g1 : MGs} {n : Nat} (hc : X.calm = true) (h : DGs X es is g1)
    (hn : (assignEach es X.env).length = n := by rfl) (hst : (assignEach es X.env).findIdx? (·.1) = none := by rfl) : DG X (.Tuple es k pos) is (gTL n g1) :=
  ⟨⟨fun pins s σ H v u Q I rv ⟨O, ρ, S, d, ρ', st, r, e, kk⟩ => by
    cases d <;> try cases e
    case tup ds =>
      obtain ⟨a, xs, rfl, h1, h2⟩ := r
      have e' : (if ds.length = n then g1 ds ρ else none) = some ρ' := e
      by_cases hl : ds.length = n
      · rw [if_pos hl] at e'
        exact (pg_tup hc h.pgs hn hst).run pins s σ H _ u Q I rv ⟨a, xs, rfl, sqT_of h1, h2.length ▸ hl, O, ρ, S, ds, ρ', st, h2, e', kk⟩
      · rw [if_neg hl] at e'; cases e'
    case lst ds =>
      obtain ⟨a, xs, rfl, _, h1, h2⟩ := r
      have e' : (if ds.length = n then g1 ds ρ else none) = some ρ' := e
      by_cases hl : ds.length = n
      · rw [if_pos hl] at e'
        exact (pg_unl hc h.pgs hn hst).run pins s σ H _ u Q I rv ⟨a, xs, rfl, SqL.of h1, h2.length ▸ hl, O, ρ, S, ds, ρ', st, h2, e', kk⟩
      · rw [if_neg hl] at e'; cases e'⟩⟩
end
end DE

set_option maxHeartbeats 4000000
namespace DE
open PySem PySem.Spec PyProof.Rows L2
/-! ### defs that are promised only where no repr is under way -/
structure FnGd (P : Program) (w : World) (K : PySem.W.Frag) (mg : Str → Option Value) (base : Heap) (k : Nat) (f : Addr) (fd : FuncData) (ps : List Str) (sp : Sp) : Prop where
  len : ∀ vs H Q E, sp vs H Q E → vs.length = ps.length
  run : ∀ (A : Around) (outer : List PySem.Env) (s : Shared) (H : Hp) (args : Args) (us : List Value) (vs : List V) (Q : VK) (E : XK), Room k A → A.guards = some [] → Env0 P w K mg base A outer s H → BindsTo s fd args (ps.zip us) → Vals vs us → sp vs H Q E →
    codeAny (model P w) A (.call (.ref f) args) (CR (L2.CX P w) outer P w H s Q E) s
section
variable {P : Program} {w : World} {K : PySem.W.Frag} {mg : Str → Option Value} {base : Heap} {k : Nat} {f : Addr} {fd : FuncData} {x qual : Str} {params : Arguments} {body : List Stmt} {scope : Scope} {dvs : List V} {kws : List (Str × V)} {N ps : List Str} {sp : Sp} {B : MS}
theorem FnGd.of (F : FunD K x qual params body scope dvs kws f fd) (S : FnScope N ps scope) (len : ∀ vs H Q E, sp vs H Q E → vs.length = ps.length)
    (go : ∀ (cdv : Value) (A : Around) (outer : List PySem.Env) (s : Shared) (H : Hp) (vs : List V) (Q : VK) (E : XK), Room k (A.deeper (envOfC qual scope s.heap.objs.size f cdv)) → A.guards = some [] → sp vs H Q E →
      ∃ t, PSs (XOf P w K mg base N qual scope f cdv A outer s H E) body t ∧ t { nx := fun _ H' => Q .non H', rt := Q } (start N vs) H) : FnGd P w K mg base (k + 1) f fd ps sp := by
  obtain ⟨oc, od, dV, kV, doc, pm, an, cdv, ct, osl, rfl, lk, hcd, _, _⟩ := F.ex
  refine ⟨len, fun A outer s H args us vs Q E room gd e0 bnd rel hs => ?_⟩
  have inK : K.In s.heap := e0.mod.kin.keeps (fun b o z => (e0.bs b o z).1)
  have locals_ : ∀ y ∈ ps.zip us, scope.names.lookup y.1 = some .local ∨ (scope.names.lookup y.1 = some .cell ∧ ((cellsFrom (s.heap.objs.size + 1) scope.names []).lookup y.1).isSome = true) := by
    rintro ⟨n, v⟩ hy
    exact (S.par n (List.of_mem_zip hy).1).imp id fun z => ⟨z, PySem.W.cellsFrom_some _ _ _ (.inl z)⟩
  refine codeAny_call_function room.depth (inK _ _ lk) rfl S.co S.gen rfl (PySem.W.codeRec_of inK hcd) (bnd _ _ _ _ (wpAny_newFunctionEnv_cells S.kind locals_ fun env ev s1 ic => ?_))
  subst ev
  obtain ⟨t, run, hq⟩ := go cdv A outer s H vs Q E (room.deeper _) gd hs
  have J : Inv (XOf P w K mg base N qual scope f cdv A outer s H E) [] (start N vs) H s1 := inv_start S room.hd e0 (len _ _ _ _ hs) rel ic
  have out : ∀ {σ' : L2.St} {H' : Hp} {v : V} {u : Value} {s' : Shared}, Inv (XOf P w K mg base N qual scope f cdv A outer s H E) [] σ' H' s' → RelV v u → Q v H' → CE outer P w H s Q u s' :=
    fun I' r q => ⟨_, _, I'.os, I'.bare, I'.base, I'.hok, r, q⟩
  refine ⟨e0.mod.nolimit.keeps (fun b o z => ic.toInCall.keep b o (e0.bs b o z).1), codeAny_func (wpAny_mono (run.run [] s1 (start N vs) H _ J hq) (fun fl s' z => ?_) fun _ _ z => z)⟩
  rcases fl with _ | _ | _ | u
  all_goals first
    | exact (let ⟨v, σ', H', I', r, q⟩ := z; out I' r q)
    | exact (let ⟨σ', H', I', q⟩ := z; out (v := .non) (u := .none) I' rfl q)
    | exact (let ⟨_, _, _, q⟩ := z; q.elim)
theorem fn_dataG (F : FunD K x qual params body scope dvs kws f fd) (S : FnScope N ps scope)
    (go : ∀ (cdv : Value) (A : Around) (outer : List PySem.Env) (s : Shared) (H : Hp) (E : XK), Room k (A.deeper (envOfC qual scope s.heap.objs.size f cdv)) → A.guards = some [] → DSs (XOf P w K mg base N qual scope f cdv A outer s H E) (WD E) body B) :
    FnGd P w K mg base (k + 1) f fd ps (spD K ps.length (fnD N.length B)) := by
  refine .of F S (fun vs H Q E ⟨O, S', ds, _, r, hl, _⟩ => by rw [← r.length]; exact hl) (fun cdv A outer s H vs Q E hr gd ⟨O, S', ds, wf, r, hl, h⟩ => ?_)
  refine ⟨_, (go cdv A outer s H E hr gd).pss, O, _, S', ⟨wf, by rw [L2.start, ← r.length]; exact (REnv.of r).app (N.length - ds.length)⟩, ?_⟩
  unfold fnD at h
  cases q : B (ds.map some ++ List.replicate (N.length - ds.length) none) S' with
  | nx ρ1 S1 => rw [q] at h; exact fun O' H' σ' e st => h O' H' .non e st.wf rfl
  | rt d S1 => rw [q] at h; exact fun O' H' v e st rd => h O' H' v e st rd
  | exc x ρ1 S1 => rw [q] at h; exact fun O' H' σ' cls dx e st rx => h O' H' cls dx e st.wf rx
  | bk _ _ => rw [q] at h; exact h.elim
  | ct _ _ => rw [q] at h; exact h.elim
  | bad => rw [q] at h; exact h.elim
end
section
variable {X : Cx} {W : WX} {x : Str} {p pos : Pos} {e : Expr} {es : List Expr} {k j n : Nat} {f : Addr} {fd : FuncData} {ps : List Str} {sp : Sp} {F : FD} {fa : MA}
/-- a call of such a def -/
theorem run_G {pins : List (Addr × Obj)} {σ : L2.St} {H : Hp} {s : Shared} {Q : VK} {E : L2.St → XK} {us : List Value} {vs : List V} (G : FnGd X.prog X.w X.K X.mg X.base k f fd ps sp) (room : Room k X.A) (gd : X.A.guards = some []) (bnd : Binds X.K fd ps []) (px : PassesAt (L2.CX X.prog X.w) X σ (E σ))
    (I : Inv X pins σ H s) (rel : Vals vs us) (h : sp vs H Q (E σ)) : wpAny (model X.prog X.w) X.A (call (.ref f) us) (EP X pins σ Q) X.xe s := by
  have hl : (us ++ []).length = ps.length := by rw [List.append_nil, ← rel.length]; exact G.len _ _ _ _ h
  have b := bnd s us I.kIn hl
  rw [List.append_nil] at b
  refine wpAny_call (codeAny_mono (G.run X.A X.stack s H ⟨us, []⟩ us vs Q (E σ) room gd I.env0 b rel h) ?_)
  rintro (er | fl) s' z
  · exact px pins H s er s' I z
  · rcases fl with _ | _ | _ | u
    all_goals first
      | exact I.after z
      | exact z.elim
theorem de_callG (G : FnGd X.prog X.w X.K X.mg X.base k f fd ps (spD X.K n F)) (room : Room k X.A) (gd : X.A.guards = some []) (hg : Gl X x) (hm : X.mg x = some (.ref f)) (hk : PySem.W.keepIn X.K (.ref f) = true) (bnd : Binds X.K fd ps []) (tk : Takes X W) (ha : DA X W (e :: es) fa)
    (hdb : (x == ("__debug__" : Str)) = false := by decide) (he : starEach (e :: es) X.env = (false, eval e X.env) :: starEach es X.env := by rfl) (hpl : (backTo pos (starEach es X.env)).any (·.1) = false := by rfl) : DE X W (.Call (.Name x p) (e :: es) [] pos) (dCall n F [] fa) :=
  ⟨⟨fun pins s σ H Q I h => by
    have h2 : tCallSD (spD X.K n F) [] (WE W) (tA X.K W fa) σ H Q := call_imp (dd := []) (dvs := []) (fun _ _ _ _ q => q) (fun _ _ => rfl) h
    refine wpAny_Call_Name_kw (ld_glob I hg hm ?_ hdb)
    refine PySem.W.callWith_K (h₀ := X.base) I.ok.mod.kin hk (thn (ha.pa.run pos pins s σ H _ I h2) fun us s1 ⟨vs, H1, I1, r, q⟩ => ⟨I1.kIn, ?_⟩) he hpl
    have q : spD X.K n F (vs ++ []) H1 Q (WE W σ) := q
    rw [List.append_nil] at q
    exact run_G G room gd bnd (passAt tk σ) I1 r q⟩⟩
/-- a def by its name, with a promise over data -/
structure FnG (P : Program) (w : World) (K : PySem.W.Frag) (mg : Str → Option Value) (base : Heap) (k : Nat) (x : Str) (n : Nat) (F : FD) : Prop where
  ok : ∃ fd ps, FnGd P w K mg base k (He.ga K x) fd ps (spD K n F) ∧ Binds K fd ps []
  gl : mg x = some (.ref (He.ga K x))
  kp : PySem.W.keepIn K (.ref (He.ga K x)) = true
theorem de_fnG (G : FnG X.prog X.w X.K X.mg X.base k x n F) (hr : Room j X.A) (gd : X.A.guards = some []) (hg : Gl X x) (tk : Takes X W) (ha : DA X W (e :: es) fa) (hk : k ≤ j := by decide) (hdb : (x == ("__debug__" : Str)) = false := by decide)
    (he : starEach (e :: es) X.env = (false, eval e X.env) :: starEach es X.env := by rfl) (hpl : (backTo pos (starEach es X.env)).any (·.1) = false := by rfl) : DE X W (.Call (.Name x p) (e :: es) [] pos) (dCall n F [] fa) := by
  obtain ⟨fd, ps, h1, h2⟩ := G.ok
  exact de_callG h1 (hr.mono hk) gd hg G.gl G.kp h2 tk ha hdb he hpl
end
/-! ### the head -/
/-- what is tracked at the head: the script, if it is none of the module's own objects -/
def H0 (K : PySem.W.Frag) (a : Addr) (o : Obj) (ns : List Int) : Hp := fun b => if b = a ∧ K.lookup a = none then some (.frz o (.lst (ns.map V.int))) else none
theorem H0_some {K : PySem.W.Frag} {a b : Addr} {o : Obj} {ns : List Int} {u : HO} (h : H0 K a o ns b = some u) : b = a ∧ K.lookup a = none ∧ u = .frz o (.lst (ns.map V.int)) := by
  unfold H0 at h
  by_cases c : b = a ∧ K.lookup a = none
  · rw [if_pos c] at h; exact ⟨c.1, c.2, (Option.some.inj h).symm⟩
  · rw [if_neg c] at h; cases h
theorem law_callG {P : Program} {w : World} {K : PySem.W.Frag} {mg mb : Str → Option Value} {k : Nat} {fa a : Addr} {fd : FuncData} {x : Str} {sp : Sp} {s : Shared} {vs : List Value} {ns : List Int} (KX : K.In s.heap) (hns : s.heap.Ns mainGlobals mg) (hb : s.heap.Ns builtinsNs mb)
    (hbb : ∀ x : Str, x ≠ "__name__" → mb x = bootBuiltins x) (lim : s.heap.NoLimit) (hg : s.gens = #[]) (ha : s.heap.get? a = some { cls := .type "list", data := .seq vs.toArray }) (hi : IntsAre vs ns) (hl : ns.length ≤ sizeLine) (hr : Room k callerA)
    (F : ∀ base : Heap, K.In base → base.Ns mainGlobals mg → FnGd P w K mg base k fa fd [x] sp) (hbind : ∀ (s : Shared) (u : Value), BindsTo s fd ⟨[u], []⟩ [(x, u)]) (hsp : ∀ H : Hp, SqL K H a (ns.map V.int) → sp [.ref a] H (fun v _ => v = .bl true) fun _ _ _ => False) :
    codeAny (model P w) callerA (.call (.ref fa) ⟨[.ref a], []⟩) (fun r s' => r = .ok (.ret (.bool true)) ∧ OldK s.heap s'.heap ∧ s'.os = s.os ∧ AllBare s'.gens) s := by
  have rv := vals_ints hi
  have lv : vs.length = ns.length := hi.length
  generalize hH : H0 K a { cls := .type "list", data := .seq vs.toArray } ns = H
  have only : ∀ {b u}, H b = some u → b = a ∧ K.lookup a = none ∧ u = .frz { cls := .type "list", data := .seq vs.toArray } (.lst (ns.map V.int)) := fun {b u} z => H0_some (hH ▸ z)
  have sq : SqL K H a (ns.map V.int) := by
    cases q : K.lookup a with
    | none => exact .inl (.inr ⟨_, by rw [← hH]; exact if_pos ⟨rfl, q⟩⟩)
    | some o =>
      have e := (KX a o q).symm.trans ha
      cases e
      exact .inr ⟨_, vs.toArray, _, q, rfl, rfl, rfl, by rw [List.size_toArray, lv]; exact hl, by simpa using rv⟩
  have hok : HOk P w H s.heap := fun b u z => by
    obtain ⟨rfl, _, rfl⟩ := only z
    exact ⟨ha, by rw [List.length_map]; exact hl, vs, _, rv, ha⟩
  have dictN : ∀ {b : Addr} {o : Obj} {es : Array DictEntry} {ep : Nat}, s.heap.get? b = some o → o.data = .dict es ep → H b = none := fun {b o es ep} z d => by
    cases q : H b with
    | none => rfl
    | some u =>
      obtain ⟨rfl, _, _⟩ := only q
      rw [ha] at z
      cases z
      exact absurd (show Data.seq vs.toArray _ = Data.dict es ep from d) (fun z => nomatch z)
  have ns' : ∀ {b : Addr} {m : Str → Option Value}, s.heap.Ns b m → (hidT s.heap H).Ns b m := fun {b m} ⟨o, es, ep, z, d, r⟩ => ⟨o, es, ep, hidT_get z (dictN z d), d, r⟩
  have KB : K.In (hidT s.heap H) := fun b o z => hidT_get (KX b o z) (by
    cases q : H b with
    | none => rfl
    | some u =>
      obtain ⟨rfl, q2, _⟩ := only q
      rw [q2] at z; cases z)
  have M : Mod K mg (hidT s.heap H) := by
    obtain ⟨mc, l1, l2⟩ := lim
    exact ⟨KB, ns' hns, ⟨mb, ns' hb, hbb⟩, mc, ns' l1, l2⟩
  have e0 : Env0 P w K mg (hidT s.heap H) callerA [] s H := ⟨rfl, M, fun b o z => of_hidT z, Nat.le_of_eq (hidT_size _ _), trivial, fun b z => absurd (show b ∈ ([] : List Addr) from z) (by simp), hok, .of_eq hg⟩
  refine codeAny_mono ((F _ KB (ns' hns)).run callerA [] s H ⟨[.ref a], []⟩ [.ref a] [.ref a] _ _ hr rfl e0 (hbind s (.ref a)) (.cons rfl .nil) (hsp H sq)) ?_
  rintro (er | fl) s' z
  · exact (CXA.no ⟨P, w, z⟩).elim
  · rcases fl with _ | _ | _ | u
    all_goals first
      | exact z.elim
      | skip
    obtain ⟨v, H', os, bare, un, hok', r', q⟩ := z
    obtain rfl : v = .bl true := q
    obtain rfl : u = Value.bool true := r'
    refine ⟨rfl, OldK.of_keep fun b o z => ?_, os, bare⟩
    cases q : H b with
    | none => exact un.keep b o z q (fun y => absurd (show b ∈ ([] : List Addr) from y) (by simp)) (by simp)
    | some u =>
      obtain ⟨rfl, _, rfl⟩ := only q
      obtain ⟨e2, _⟩ := hok' b _ (un.frzs b _ _ q)
      rw [ha] at z
      cases z
      exact e2
end DE

set_option maxHeartbeats 4000000
namespace DE
open PySem PySem.Spec PyProof.Rows L2
theorem walk_G {l : PySem.W.OpenLaw} {n k : Nat} {q : Program} {loose : List Str} {XP : (Str → Option Value) → Heap → Prop} {YP : World → Heap → Prop} {d : DefRec} {x : Str} (hn : l.most = some n) (hn2 : n ≤ sizeLine) (hdf : d.params.defaults = []) (hr : Room k callerA)
    (F : ∀ (w : World) (mg : Str → Option Value) (fa : Addr) (h : Heap), YP w h → h.Ns mainGlobals mg → mg d.name = some (.ref fa) → ∃ (K : PySem.W.Frag) (fd : FuncData) (sp : Sp), K.In h ∧ (∀ (s : Shared) (u : Value), BindsTo s fd ⟨[u], []⟩ [(x, u)]) ∧
      (∀ (H : Hp) (a : Addr) (ns : List Int), ns.length ≤ n → SqL K H a (ns.map V.int) → sp [.ref a] H (fun v _ => v = .bl true) fun _ _ _ => False) ∧ ∀ base : Heap, K.In base → base.Ns mainGlobals mg → FnGd l.prog w K mg base k fa fd [x] sp) :
    PySem.W.WalkO q loose XP YP l.row.toRowW d [] (fun f vs => PySem.call f vs) :=
  Att.attach_call hn hdf fun w s0 s1 mg mb fa o pm cd doc a vs ns G Y ho hd hcd hmg hobj hints hlen hg => by
    obtain ⟨K, fd, sp, KX, hb, hsp, hF⟩ := F w mg fa _ Y G.T.g hmg
    exact law_callG KX G.T.g G.T.b G.T.builtins G.T.nolimit hg hobj hints (Nat.le_trans hlen hn2) hr hF hb fun H hS => hsp H a ns hlen hS
/-! ### repr -/
def reprOf (p : PyData) : Option Str := if p.showable = true ∧ p.depth ≤ 60 ∧ p.shown.length ≤ cap then some p.shown else none
def oRepr : FD := fun ds S => match ds with
  | [.dK []] => .ok (.str (Str.ofString "{}")) S
  | [d] => (match (toPy d).bind reprOf with
    | some x => .ok (.str x) S
    | none => .bad)
  | _ => .bad
mutual
theorem toPy_nd : ∀ {d : D} {p : PyData}, toPy d = some p → p.hasDict = false
  | .non, _, e => by cases e; rfl
  | .bl _, _, e => by cases e; rfl
  | .int _, _, e => by cases e; rfl
  | .str _, _, e => by cases e; rfl
  | .tup ds, _, e => by
    simp only [toPy] at e
    cases q : toPys ds with
    | none => rw [q] at e; cases e
    | some ps => rw [q] at e; cases e; simpa only [PyData.hasDict] using toPys_nd q
  | .lst ds, _, e => by
    simp only [toPy] at e
    cases q : toPys ds with
    | none => rw [q] at e; cases e
    | some ps => rw [q] at e; cases e; simpa only [PyData.hasDict] using toPys_nd q
  | .ty _, _, e => by cases e
  | .glo _, _, e => by cases e
  | .scr _, _, e => by cases e
  | .dK _, _, e => by cases e
  | .dT _, _, e => by cases e
  | .obj _ _, _, e => by cases e
  | .own _, _, e => by cases e
  | .xcp _ _ _, _, e => by cases e
  | .exo _ _, _, e => by cases e
theorem toPys_nd : ∀ {ds : List D} {ps : List PyData}, toPys ds = some ps → PyData.hasDictAll ps = false
  | [], _, e => by cases e; rfl
  | d :: ds, _, e => by
    simp only [toPys] at e
    cases q : toPy d with
    | none => rw [q] at e; cases e
    | some p =>
      cases q2 : toPys ds with
      | none => rw [q, q2] at e; cases e
      | some ps => rw [q, q2] at e; cases e; simp [PyData.hasDictAll, toPy_nd q, toPys_nd q2]
end
section
variable {X : Cx}
theorem c_oRepr (gd : X.A.guards = some []) (hu : X.A.units + 64 < cLine) : CallR X (.builtin "repr") (RC X.K oRepr) := by
  intro pins s σ H vs us Q I rv ⟨W, ρ, σ', O, S, ds, st, r, h⟩
  unfold oRepr at h
  split at h
  · obtain ⟨v, rfl, r1⟩ := r.one
    obtain ⟨a, vs', rfl, _, hd, hk⟩ := r1
    cases hk
    cases rv with
    | cons ru rr =>
      cases rr
      cases ru
      obtain ⟨_, ns, kv, kvr, o, es, ep, ho, hex, hdt, _, hp, _⟩ := dk_rd I.hok hd
      cases kvr
      obtain ⟨es⟩ := es
      cases es with
      | cons _ _ => cases hp
      | nil =>
        have rd : Reads s.heap (.ref a) (.dict []) (a :: [] ++ []) := Reads.dict ho hex.1 hdt .nil .nil
        have ne : sysModules ∉ (a :: [] ++ [] : List Addr) := fun z => by
          have := List.mem_singleton.mp (show sysModules ∈ [a] from z)
          rw [this] at ns
          simp at ns
        have sh : (PyData.dict []).shown = Str.ofString "{}" := by decide +kernel
        refine repr_of_reads' rd rfl (fun _ => ne) gd (by have : (PyData.dict []).depth = 1 := rfl; omega) (fun _ _ z => z) (fun h2 u2 tk k2 => ⟨.str _, H, I.kept (t' := tk) k2, ⟨_, rfl⟩, ?_⟩) (by decide +kernel)
        rw [sh]
        exact After.ok h st rfl
  · rename_i d _
    obtain ⟨v, rfl, r1⟩ := r.one
    cases e : toPy d with
    | none => rw [e] at h; exact h.elim
    | some p =>
      rw [e] at h
      have h' : After X.K W (Rep X.K) ρ σ' O H Q (match reprOf p with | some x => .ok (.str x) S | none => .bad) := h
      unfold reprOf at h'
      by_cases c : p.showable = true ∧ p.depth ≤ 60 ∧ p.shown.length ≤ cap
      · rw [if_pos c] at h'
        obtain ⟨c1, c2, c3⟩ := c
        have dp := dp_of e r1
        cases rv with
        | cons ru rr =>
          cases rr
          rename_i u
          have fin : ∀ (tk : Tok), RelV (.str p.shown) (.str p.shown tk) := fun tk => ⟨tk, rfl⟩
          obtain ⟨as, rd⟩ := Dp.reads I p v u dp ru
          have nd : p.hasDict = false := toPy_nd e
          have ref : isDisplay p = true → ∃ a, u = .ref a := isRef_of_reads rd
          cases hp : p with
          | none => subst hp; cases rd; exact PySem.P.repr_of_none ⟨.str _, H, I.tok _, ⟨_, rfl⟩, After.ok h' st rfl⟩
          | bool b => subst hp; cases rd; exact PySem.P.repr_of_bool ⟨.str _, H, I.tok _, ⟨_, rfl⟩, After.ok h' st rfl⟩
          | int i =>
            subst hp
            cases rd
            exact PySem.P.repr_of_int (by simpa [PyData.showable] using c1) ⟨.str _, H, I.tok _, ⟨_, rfl⟩, After.ok h' st rfl⟩
          | str x =>
            subst hp
            cases rd
            exact PySem.P.repr_of_str ⟨.str _, H, I.tok _, ⟨_, rfl⟩, After.ok h' st rfl⟩ (cap_line c3)
          | list xs =>
            subst hp
            obtain ⟨a, rfl⟩ := ref rfl
            exact repr_of_reads' rd c1 (PyData.noDict_hsm nd) gd (by omega) (fun _ _ z => z) (fun h2 u2 tk k2 => ⟨.str _, H, I.kept (t' := tk) k2, ⟨_, rfl⟩, After.ok h' st rfl⟩) (cap_line c3)
          | tuple xs =>
            subst hp
            obtain ⟨a, rfl⟩ := ref rfl
            exact repr_of_reads' rd c1 (PyData.noDict_hsm nd) gd (by omega) (fun _ _ z => z) (fun h2 u2 tk k2 => ⟨.str _, H, I.kept (t' := tk) k2, ⟨_, rfl⟩, After.ok h' st rfl⟩) (cap_line c3)
          | dict kvs => subst hp; cases dp
      · rw [if_neg c] at h'; exact h'.elim
  · exact h.elim
end
end DE

set_option maxHeartbeats 4000000
namespace DE
open PySem PySem.Spec PyProof.Rows L2
/-- who is an instance of what: tables of names, of built-in types -/
def ktD (c : Str) (tg : List ((Str × Str) × Bool)) (tt : List ((Str × String) × Bool)) : D → Option Bool
  | .glo x => tg.lookup (c, x)
  | .ty n => tt.lookup (c, n)
  | _ => none
theorem ktD_ok {K0 : PySem.W.Frag} {c : Str} {tg : List ((Str × Str) × Bool)} {tt : List ((Str × String) × Bool)} (h1 : xgB tg K0 = true) (h2 : xtB tt K0 = true) : ∀ t b, ktD c tg tt t = some b →
    ∃ cv, (∀ K O H v u, K = K0 → Rep K O H t v → RelV v u → u = cv) ∧ PySem.W.kitOne K0 (.ref (He.ga K0 c)) cv = some b := by
  intro t b h
  cases t <;> simp only [ktD] at h <;> try cases h
  case glo x =>
    refine ⟨.ref (He.ga K0 x), fun K O H v u e r ru => ?_, xgB_ok h1 h⟩
    subst e
    cases (show v = _ from r)
    exact ru
  case ty n =>
    refine ⟨.type n, fun K O H v u e r ru => ?_, xtB_ok h2 h⟩
    cases (show v = _ from r)
    exact ru
/-- just c is caught -/
def cl1 (c : Str) : Str → Option Bool := fun d => if d = c then some true else none
theorem cl1_eq {c d : Str} {b : Bool} (h : cl1 c d = some b) : d = c ∧ b = true := by
  unfold cl1 at h
  by_cases e : d = c
  · rw [if_pos e] at h; cases h; exact ⟨e, rfl⟩
  · rw [if_neg e] at h; cases h
theorem cl1_ok {K : PySem.W.Frag} {x : Str} (h : PySem.W.exmOne K (.ref (He.ga K x)) (.ref (He.ga K x)) = some true) : ∀ c b, cl1 x c = some b → PySem.W.exmOne K (.ref (He.ga K c)) (.ref (He.ga K x)) = some b := by
  intro c b e
  obtain ⟨rfl, rfl⟩ := cl1_eq e
  exact h
/-! ### for simp -/
@[simp] theorem unset_nx (i : Nat) (ρ : DE.Env) (S : Sto) : RS.unset i (.nx ρ S) = .nx (ρ.set i none) S := id rfl
@[simp] theorem unset_rt (i : Nat) (d : D) (S : Sto) : RS.unset i (.rt d S) = .rt d S := id rfl
@[simp] theorem unset_bad (i : Nat) : RS.unset i .bad = .bad := id rfl
@[simp] theorem unset_exc (i : Nat) (x : Exc) (ρ : DE.Env) (S : Sto) : RS.unset i (.exc x ρ S) = .bad := id rfl
theorem unset_stm {α : Type} {i : Nat} {ρ : DE.Env} {r : RE α} {k : α → Sto → RS} : RS.unset i (r.stm ρ k) = (match r with | .ok a S => RS.unset i (k a S) | _ => .bad) := by
  cases r <;> rfl
theorem set3 {ρ : DE.Env} {i j : Nat} {v d : Option D} (h : i ≠ j) : ((ρ.set i v).set j d).set i none = (ρ.set i none).set j d := by
  rw [List.set_comm _ _ h, List.set_set, List.set_comm _ _ (Ne.symm h)]
theorem getset {ρ : DE.Env} {i : Nat} {v : Option D} : (ρ.set i v)[i]? = if i < ρ.length then some v else none := by
  by_cases h : i < ρ.length
  · rw [if_pos h, List.getElem?_set_self h]
  · rw [if_neg h, List.getElem?_eq_none (by simpa using h)]
end DE

set_option maxHeartbeats 4000000
namespace DE
open PySem PySem.Spec PyProof.Rows L2
/-! ### list.index -/
/-- where the first item stands that is equal to p -/
def firstEq (p : PyData) : List PyData → Option Nat
  | [] => none
  | q :: r => if PyData.eqv q p = true then some 0 else (firstEq p r).map (· + 1)
theorem firstEq_ok {p : PyData} : ∀ {l : List PyData} {j : Nat}, firstEq p l = some j → ∃ z, l[j]? = some z ∧ PyData.eqv z p = true ∧ ∀ (m : Nat) (z' : PyData), m < j → l[m]? = some z' → PyData.eqv z' p = false
  | [], _, h => by cases h
  | q :: r, j, h => by
    unfold firstEq at h
    by_cases c : PyData.eqv q p = true
    · rw [if_pos c] at h
      cases h
      exact ⟨q, rfl, c, fun m _ hm => by omega⟩
    · rw [if_neg c] at h
      cases e : firstEq p r with
      | none => rw [e] at h; cases h
      | some i =>
        rw [e] at h
        cases h
        obtain ⟨z, h1, h2, h3⟩ := firstEq_ok e
        refine ⟨z, by simpa using h1, h2, fun m z' hm hz => ?_⟩
        cases m with
        | zero =>
          simp at hz
          subst hz
          simpa using c
        | succ m => exact h3 m z' (by have q : m + 1 < i + 1 := hm; omega) (by simpa using hz)
def oIndex (d e : D) (S : Sto) : RE D := match d with
  | .lst ds => (match toPys ds, toPy e with
    | some ps, some p => if SeqAt.shaped (.list ps) = true ∧ SeqAt.shaped p = true then (match firstEq p ps with
      | some j => .ok (.int j) S
      | none => .bad) else .bad
    | _, _ => .bad)
  | _ => .bad
/-- d.index(e): the list stands, then the thing -/
def dIndex (f g : ME) : ME := fun ρ S => (f ρ S).bind fun d S1 => match d with
  | .lst _ => (g ρ S1).bind fun e S2 => oIndex d e S2
  | _ => .bad
section
variable {X : Cx} {W : WX} {o e : Expr} {f g : ME} {apos pos : Pos}
theorem de_index (hu : X.A.units + 65 < cLine) (ho : DE X W o f) (he : DE X W e g) (hbase : attributeBase o "index" X.env (eval o X.env) = eval o X.env := by rfl)
    (hfew : ((backTo pos (starEach (e :: []) X.env)).all (fun x => !x.1) && (backToKw pos (keywordEach [] X.env)).all (fun x => x.1.isSome) && decide ((e :: []).length + ([] : List Keyword).length + (if ([] : List Keyword).isEmpty then 0 else 1) < 30)) = true := by rfl)
    (hline : (apos.endLine == pos.line) = true := by rfl) (hs : starEach (e :: []) X.env = (false, eval e X.env) :: starEach [] X.env := by rfl) (hplain : (backTo pos (starEach [] X.env)).any (·.1) = false := by rfl) :
    DE X W (.Call (.Attribute o "index" apos) [e] [] pos) (dIndex f g) :=
  ⟨PE.imp (pe_bm PySem.F.plainAttrs_list PySem.F.slot_list_index PySem.F.type_list_index (mt_indexD hu) ho.pe (pa_cons he.pe pa_nil hs) hbase hfew hline hs hplain) fun σ H Q ⟨O, ρ, S, st, h⟩ => ⟨O, ρ, S, st, After.seq h fun d S1 O1 H1 v e1 st1 r1 h1 => by
    cases d <;> try exact h1.elim
    rename_i ds
    obtain ⟨a, xs, rfl, na, ha, rs⟩ := r1
    refine ⟨.inl ⟨rfl, _, SqL.of ha⟩, O1, ρ, S1, st1, After.seq h1 fun e2 S2 O2 H2 y ex st2 r2 h2 => ?_⟩
    have rl : Rep X.K O2 H2 (.lst ds) (.ref a) := Rep.mono (ex.w st1.wf) (show Rep X.K O1 H1 (.lst ds) (.ref a) from ⟨a, xs, rfl, na, ha, rs⟩)
    have h2 : After X.K W (Rep X.K) ρ σ O2 H2 Q (oIndex (.lst ds) e2 S2) := h2
    unfold oIndex at h2
    simp only at h2
    cases q1 : toPys ds with
    | none => rw [q1] at h2; exact h2.elim
    | some ps =>
      cases q2 : toPy e2 with
      | none => rw [q1, q2] at h2; exact h2.elim
      | some p =>
        rw [q1, q2] at h2
        obtain ⟨⟨s1, s2⟩, h2⟩ := After.ite h2
        cases q3 : firstEq p ps with
        | none => rw [q3] at h2; exact h2.elim
        | some j =>
          rw [q3] at h2
          obtain ⟨z, z1, z2, z3⟩ := firstEq_ok q3
          have dl : Dp X.K H2 (.ref a) (.list ps) := dp_of (d := .lst ds) (by simp only [toPy, q1, Option.map_some]) rl
          exact ⟨a, y, p, ps, j, z, rfl, rfl, dl, dp_of q2 r2, s1, s2, z1, z2, z3, After.ok h2 st2 rfl⟩⟩⟩
end
end DE

set_option maxHeartbeats 4000000
namespace DE
open PySem PySem.Spec PyProof.Rows L2
/-! ### t[::-1], t a tuple -/
theorem filterMap_all {α β : Type} {f : α → Option β} {g : α → β} : ∀ {l : List α}, (∀ x ∈ l, f x = some (g x)) → l.filterMap f = l.map g
  | [], _ => rfl
  | x :: r, h => by
    rw [List.filterMap_cons_some (h x List.mem_cons_self), filterMap_all fun y hy => h y (List.mem_cons_of_mem _ hy), List.map_cons]
theorem rev_pick (xs : Array Value) : (List.range xs.size).filterMap (fun (k : Nat) => xs[(((xs.size : Int) - 1) + (k : Int) * (-1)).toNat]?) = xs.toList.reverse := by
  apply List.ext_getElem?
  intro i
  have e : ∀ k ∈ List.range xs.size, xs[(((xs.size : Int) - 1) + (k : Int) * (-1)).toNat]? = some (xs[xs.size - 1 - k]?.getD .none) := fun k hk => by
    have hk := List.mem_range.mp hk
    have : (((xs.size : Int) - 1) + (k : Int) * (-1)).toNat = xs.size - 1 - k := by omega
    rw [this, Array.getElem?_eq_getElem (by omega)]
    rfl
  rw [filterMap_all e, List.getElem?_map]
  by_cases hi : i < xs.size
  · rw [List.getElem?_range hi, List.getElem?_reverse (by simpa using hi)]
    show some (xs[xs.size - 1 - i]?.getD Value.none) = _
    rw [Array.getElem?_toList, Array.length_toList, Array.getElem?_eq_getElem (show xs.size - 1 - i < xs.size by omega)]
    rfl
  · rw [List.getElem?_eq_none (by simpa using hi), List.getElem?_eq_none (by simpa using hi)]
    rfl
section
variable {prog : Program} {w : World} {A : Around} {E : Value → Shared → Prop} {s : Shared}
theorem applied_rev {sl : Addr} {vl vu vs : Value} {n : Nat} {Q : Int × Int × Nat → Shared → Prop} (hs : s.heap.IsSliceOf sl vl vu vs) (pl : IsPart vl none) (pu : IsPart vu none) (ps : IsPart vs (some (-1)))
    (h : Q ((n : Int) - 1, -1, n) s) : wpAny (model prog w) A (Builtin.Slice.sliceApplied (.ref sl) (pure (n : Int))) Q E s := by
  obtain ⟨o, g, c, d⟩ := id hs
  unfold Builtin.Slice.sliceApplied Builtin.Slice.sliceFields
  refine wpAny_bind (wpAny_bind (wpAny_field g d (x := vl) rfl (wpAny_bind (wpAny_field g d (x := vu) rfl (wpAny_bind (wpAny_field g d (x := vs) rfl (wpAny_pure ?_)))))))
  refine wpAny_bind (HT.slicePart_ ps ?_)
  refine (show wpAny _ _ (if ((-1 : Int) == 0) = true then _ else _) _ _ s from ?_)
  rw [if_neg (by decide)]
  refine wpAny_bind (HT.slicePart_ pl (wpAny_bind (HT.slicePart_ pu (wpAny_bind (wpAny_pure ?_)))))
  have e1 : Builtin.Slice.sliceAdjust none none (-1) (n : Int) = ((n : Int) - 1, -1) := rfl
  have e2 : Builtin.Slice.slicePlaces ((n : Int) - 1) (-1) (-1) = n := by
    unfold Builtin.Slice.slicePlaces
    rw [if_neg (by decide)]
    by_cases z : (n : Int) - 1 > -1
    · rw [if_pos z]
      first
        | (simp; done)
        | (simp; omega)
    · rw [if_neg z]
      first
        | (simp; done)
        | (simp; omega)
  refine (show wpAny _ _ (match Builtin.Slice.sliceAdjust none none (-1) (n : Int) with | (lo, hi) => pure (lo, (-1 : Int), Builtin.Slice.slicePlaces lo hi (-1))) _ _ s from ?_)
  rw [e1]
  refine (show wpAny _ _ (pure ((n : Int) - 1, (-1 : Int), Builtin.Slice.slicePlaces ((n : Int) - 1) (-1) (-1))) _ _ s from ?_)
  rw [e2]
  exact wpAny_pure h
theorem getItem_rev {t sl : Addr} {items : Array Value} {vl vu vs : Value} {Q : Value → Shared → Prop} (ht : IsTup s.heap t items) (hs : s.heap.IsSliceOf sl vl vu vs) (pl : IsPart vl none) (pu : IsPart vu none) (ps : IsPart vs (some (-1)))
    (h : Q (.ref s.heap.objs.size) { s with heap := s.heap.push { cls := .type "tuple", data := .seq items.toList.reverse.toArray } }) (hz : items.size ≤ sizeLine) : wpAny (model prog w) A (getItem (.ref t) (.ref sl)) Q E s := by
  have zo : sizeOk (.seq items.toList.reverse.toArray) := by
    show items.toList.reverse.toArray.size ≤ sizeLine
    simpa using hz
  obtain ⟨o, g, c, d⟩ := id hs
  have ts : s.TypeIs (.ref sl) "slice" := ⟨o, g, c⟩
  unfold getItem
  try with_reducible refine wpAny_holding ?_
  first
    | refine wpAny_bind (wpAny_pure ?_)
    | skip
  refine wpAny_bind (wpAny_sequenceKey ht.typeIs (by decide) (wpAny_bind (wpAny_callSpecial?_slot (name := Str.ofString "__getitem__") ht.typeIs slot_tuple_getitem (wpAny_call_entry slot_tuple_getitem ht.typeIs entry_tuple_getitem ?_ (args_tuple_getitem _ _)))))
  refine (show wpAny _ _ (Builtin.Tuple.tupleItemsOf (.ref t) >>= _) _ _ s from wpAny_bind (tupleItemsOf_ ht (wpAny_bind (wpAny_typeOf ts ?_))))
  rw [if_pos (by decide)]
  refine wpAny_bind (applied_rev (n := items.size) hs pl pu ps ?_)
  have no : ¬ (((items.size : Int) - 1 == 0 && (-1 : Int) == 1 && items.size == items.size) = true) := by simp
  refine (show wpAny _ _ (if ((items.size : Int) - 1 == 0 && (-1 : Int) == 1 && items.size == items.size) = true then _ else _) _ _ s from ?_)
  rw [if_neg no, rev_pick]
  first
    | exact wpAny_bind (m := Builtin.Tuple.tupleExact _) (wpAny_newObj_type (wpAny_pure ⟨_, rfl, wpAny_pure h⟩) zo)
    | exact wpAny_bind (m := Builtin.Tuple.tupleExact _) (wpAny_newObj_type (wpAny_bind (wpAny_pure (wpAny_pure ⟨_, rfl, wpAny_pure h⟩))) zo)
    | exact wpAny_bind (wpAny_bind (m := Builtin.Tuple.tupleExact _) (wpAny_newObj_type (wpAny_pure (wpAny_pure ⟨_, rfl, wpAny_pure h⟩)) zo))
    | exact wpAny_bind (wpAny_bind (m := Builtin.Tuple.tupleExact _) (wpAny_newObj_type (wpAny_pure ⟨_, rfl, wpAny_pure h⟩) zo))
end
/-- the datum turned round -/
def dRev (f : ME) : ME := fun ρ S => (f ρ S).bind fun d S1 => match d with
  | .tup ds => .ok (.tup ds.reverse) S1
  | _ => .bad
theorem vals_rev : ∀ {xs : List V} {us : List Value}, Vals xs us → Vals xs.reverse us.reverse
  | _, _, .nil => .nil
  | _, _, .cons h r => by
    rw [List.reverse_cons, List.reverse_cons]
    exact (vals_rev r).snoc h
theorem Reps.rev {K : PySem.W.Frag} {O : Ow} {H : Hp} : ∀ {ds : List D} {vs : List V}, Reps K O H ds vs → Reps K O H ds.reverse vs.reverse
  | [], _, h => by cases h; exact rfl
  | d :: ds, _, h => by
    obtain ⟨v, r, rfl, h1, h2⟩ := h
    rw [List.reverse_cons, List.reverse_cons]
    exact (Reps.rev h2).append ⟨v, [], rfl, h1, rfl⟩
section
variable {X : Cx} {W : WX} {e : Expr} {f : ME} {k : Option Str} {p1 p2 p3 pos : Pos}
theorem de_rev {k : Nat} (he : DE X W e f) : DE X W (.Subscript e (.Slice none none (some (.UnaryOp .USub (.Constant (.int 1) k p1) p2)) p3) pos) (dRev f) := ⟨⟨fun pins s σ H Q I ⟨O, ρ, S, st, h⟩ => by
  refine Subscript_ (thn (he.pe.run pins s σ H (fun v H1 => ∃ O1 d S1, Stt X.K O1 H1 ρ σ S1 ∧ Rep X.K O1 H1 d v ∧ After X.K W (Rep X.K) ρ σ O1 H1 Q (match d with | .tup ds => .ok (.tup ds.reverse) S1 | _ => .bad)) I ⟨O, ρ, S, st, After.seq h fun d S1 O1 H1 v e1 st1 r1 h1 => ⟨O1, d, S1, st1, r1, h1⟩⟩) fun u s1 ⟨v, H1, I1, rv, O1, d, S1, st1, r1, h1⟩ => ?_)
  cases d <;> try exact h1.elim
  rename_i ds
  obtain ⟨a, xs, rfl, hx, rs⟩ := r1
  cases rv
  have mn : PO X (some (.UnaryOp .USub (.Constant (.int 1) k p1) p2)) (tPart (tUn (rU fun i => .int (-i)) (tC (.int 1)))) := po_some (pe_un un_neg pe_int)
  refine wpAny_Slice (thn (po_none.run pins s1 σ H1 (fun o H2 => o = none ∧ H2 = H1) I1 ⟨rfl, rfl⟩) fun vl s2 ⟨l, H2, I2, pl, el, e2⟩ => ?_)
  subst el e2
  refine thn (po_none.run pins s2 σ H2 (fun o H3 => o = none ∧ H3 = H2) I2 ⟨rfl, rfl⟩) fun vu s3 ⟨u, H3, I3, pu, eu, e3⟩ => ?_
  subst eu e3
  refine thn (mn.run pins s3 σ H3 (fun o H4 => o = some (-1) ∧ H4 = H3) I3 ⟨1, rfl, -1, rfl, rfl, rfl⟩) fun vs s4 ⟨o, H4, I4, ps, eo, e4⟩ => ?_
  subst eo e4
  have I5 : Inv X pins σ H4 { s4 with heap := s4.heap.push { cls := .type "slice", data := .fields #[vl, vu, vs] } } := I4.kept (t' := s4.toks) fun b ob q => Heap.get?_push_of_some _ q
  obtain ⟨its, r, ht, hz⟩ := I5.tuple (sqT_of hx)
  have ln := r.length
  refine (show wpAny (model X.prog X.w) X.A (subscriptTail e (.Slice none none (some (.UnaryOp .USub (.Constant (.int 1) k p1) p2)) p3) (.ref a) (.ref s4.heap.objs.size)) (EP X pins σ Q) X.xe { s4 with heap := s4.heap.push { cls := .type "slice", data := .fields #[vl, vu, vs] } } from ?_)
  refine tail_any (ops := [.ref a, .ref s4.heap.objs.size]) ht.typeIs slot_tuple_getitem.lookup (getItem_rev ht (Heap.IsSliceOf.new _ vl vu vs) pl pu ps ?_ (by rw [List.size_toArray]; omega)) (by with_unfolding_all rfl)
  have hn := I5.hok.fresh (Nat.le_refl _)
  obtain ⟨e6, st6⟩ := st1.new (o := .tup xs.reverse) hn
  refine ⟨.ref _, _, I5.laid (t' := s4.toks) (o := .tup xs.reverse) (fun b ob q => Heap.get?_push_of_some _ q) (Nat.le_refl _) ?_, rfl, h1 O1 _ _ e6 st6 ⟨_, _, rfl, .inl upd_same, (rs.mono (e6.w st1.wf)).rev⟩⟩
  refine ⟨by rw [List.length_reverse]; exact hz, its.reverse, vals_rev r, _, Heap.get?_push_size _ rfl, rfl, 0, rfl⟩⟩⟩
end
/-- the first def of a class statement's suite -/
def clsDef : Stmt → Stmt
  | .ClassDef _ _ _ (d :: _) _ _ _ _ _ _ _ => d
  | s => s
theorem hu0 {j : Nat} {A : Around} (r : Room j A) : A.units + 65 < cLine := by have := r.un; omega
end DE

set_option maxHeartbeats 4000000
namespace DE
open PySem PySem.Spec PyProof.Rows L2
section
variable {X : Cx} {W : WX} {a b c o e : Expr} {f g h : ME} {pos : Pos} {tf : MT} {F : MS} {es : List Expr} {fa : MA}
/-! ### while -/
def whileN (t : MT) (b : MS) : Nat → MS
  | 0 => fun _ _ => .bad
  | n + 1 => fun ρ S => (t ρ S).stm ρ fun c S1 => if c = true then (match b ρ S1 with
    | .nx ρ2 S2 => whileN t b n ρ2 S2
    | .ct ρ2 S2 => whileN t b n ρ2 S2
    | .bk ρ2 S2 => .nx ρ2 S2
    | r => r) else .nx ρ S1
theorem ds_while {body : List Stmt} (n : Nat) (hp : PassesOwn (model X.prog X.w) X.A X.env X.xe) (hc : DT X W c tf) (hb : DSs X W body F) : DS X W (.While c body [] pos) (whileN tf F n) :=
  ⟨PS.imp (ps_while hp hc.pt hb.pss) fun D' σ H ⟨O, ρ, S, st, h⟩ => by
    refine ⟨fun m σ2 H2 => ∃ O2 ρ2 S2, Ext O H O2 H2 ∧ Stt X.K O2 H2 ρ2 σ2 S2 ∧ AfterS X.K W D' O2 H2 (whileN tf F m ρ2 S2), ⟨n, O, ρ, S, .refl, st, h⟩, ?_⟩
    rintro m σ2 H2 ⟨O2, ρ2, S2, e2, st2, h2⟩
    cases m with
    | zero => exact h2.elim
    | succ m =>
      refine ⟨O2, ρ2, S2, st2, AfterS.seqE h2 fun d S3 O3 H3 v e3 st3 r3 h3 => ?_⟩
      subst r3
      cases d with
      | false =>
        rw [if_neg (by simp)] at h3
        rw [if_neg (by simp)]
        exact h3 O3 H3 σ2 .refl st3
      | true =>
        rw [if_pos rfl] at h3
        rw [if_pos rfl]
        refine ⟨fun σ4 H4 => ∃ O4 ρ4 S4, Ext O H O4 H4 ∧ Stt X.K O4 H4 ρ4 σ4 S4 ∧ AfterS X.K W D' O4 H4 (whileN tf F m ρ4 S4), fun σ4 H4 z => ⟨m, Nat.lt_succ_self _, z⟩, O3, ρ2, S3, st3, ?_⟩
        cases q : F ρ2 S3 with
        | nx ρ5 S5 => rw [q] at h3; exact fun O' H5 σ5 e5 st5 => ⟨O', ρ5, S5, (e2.trans e3).trans e5, st5, AfterS.mono h3 e5⟩
        | ct ρ5 S5 => rw [q] at h3; exact fun O' H5 σ5 e5 st5 => ⟨O', ρ5, S5, (e2.trans e3).trans e5, st5, AfterS.mono h3 e5⟩
        | bk ρ5 S5 => rw [q] at h3; exact fun O' H5 σ5 e5 st5 => h3 O' H5 σ5 e5 st5
        | rt d5 S5 => rw [q] at h3; exact h3
        | exc x5 ρ5 S5 => rw [q] at h3; exact h3
        | bad => rw [q] at h3; exact h3⟩
/-! ### methods of texts -/
def MtD (K : PySem.W.Frag) (r : V → List V → Hp → VK → Prop) (op : Str → List D → Sto → RE D) : Prop :=
  ∀ (W : WX) (ρ : DE.Env) (σ : L2.St) (O : Ow) (H : Hp) (S : Sto) (x : Str) (ys : List V) (ds : List D) (Q : VK), Stt K O H ρ σ S → Reps K O H ds ys → After K W (Rep K) ρ σ O H Q (op x ds S) → r (.str x) ys H Q
def dTM (op : Str → List D → Sto → RE D) (f : ME) (fa : MA) : ME := fun ρ S => (f ρ S).bind fun d S1 => match d with
  | .str x => (fa ρ S1).bind fun ds S2 => op x ds S2
  | _ => .bad
theorem de_tm {name : Str} {id : String} {apos cpos : Pos} {r : V → List V → Hp → VK → Prop} {op : Str → List D → Sto → RE D} (slot : Slot "str" name id) (hty : typeOf (.builtin id) = pure (.type "method_descriptor")) (hm : MtR X id r) (hop : MtD X.K r op) (ho : DE X W o f) (ha : DA X W (e :: es) fa)
    (hbase : attributeBase o name X.env (eval o X.env) = eval o X.env := by rfl)
    (hfew : ((backTo cpos (starEach (e :: es) X.env)).all (fun x => !x.1) && (backToKw cpos (keywordEach [] X.env)).all (fun x => x.1.isSome)
      && decide ((e :: es).length + ([] : List Keyword).length + (if ([] : List Keyword).isEmpty then 0 else 1) < 30)) = true := by rfl)
    (hline : (apos.endLine == cpos.line) = true := by rfl) (hs : starEach (e :: es) X.env = (false, eval e X.env) :: starEach es X.env := by rfl) (hplain : (backTo cpos (starEach es X.env)).any (·.1) = false := by rfl) :
    DE X W (.Call (.Attribute o name apos) (e :: es) [] cpos) (dTM op f fa) :=
  ⟨PE.imp (pe_bm PySem.F.plainAttrs_str slot hty hm ho.pe ha.pa hbase hfew hline hs hplain) fun σ H Q ⟨O, ρ, S, st, h⟩ => ⟨O, ρ, S, st, After.seq h fun d S1 O1 H1 v e1 st1 r1 h1 => by
    cases d <;> try exact h1.elim
    cases (show v = _ from r1)
    exact ⟨rfl, O1, ρ, S1, st1, After.seq h1 fun ds S2 O2 H2 ys e2 st2 r2 h2 => hop W ρ σ O2 H2 S2 _ ys ds Q st2 r2 h2⟩⟩⟩
theorem new_strs {K : PySem.W.Frag} {O : Ow} {H : Hp} {ρ : DE.Env} {σ : L2.St} {S : Sto} {Q : VK} {ys : List Str} (st : Stt K O H ρ σ S) (h : After K W (Rep K) ρ σ O H Q (.ok (.lst (ys.map D.str)) S)) : rNewStrs ys H Q := fun p hp => by
  obtain ⟨e2, st2⟩ := st.new (o := .lst (ys.map V.str)) hp
  exact h O _ _ e2 st2 ⟨p, _, rfl, st.no hp, upd_same, reps_strs⟩
theorem len_ne {y : Str} (h : y.length ≠ 0) : (y.length == 0) = false := by simpa using h
def oSplit (x : Str) (ds : List D) (S : Sto) : RE D := match ds with
  | [.str y] => if y.length ≠ 0 ∧ x.length + 2 ≤ cap then .ok (.lst ((Txt.split x y).map .str)) S else .bad
  | _ => .bad
theorem m_oSplit {K : PySem.W.Frag} : MtD K (fun x xs H Q => ∃ a b, x = .str a ∧ xs = [.str b] ∧ (b.length == 0) = false ∧ a.length + 2 ≤ sizeLine ∧ rNewStrs (Txt.split a b) H Q) oSplit := by
  intro W ρ σ O H S x ys ds Q st r h
  unfold oSplit at h
  split at h
  · obtain ⟨hc, h⟩ := After.ite h
    obtain ⟨v, rfl, q⟩ := r.one
    cases (show v = _ from q)
    exact ⟨x, _, rfl, rfl, len_ne hc.1, cap_line hc.2, new_strs st h⟩
  · exact h.elim
def oSplitM (x : Str) (ds : List D) (S : Sto) : RE D := match ds with
  | [.str y, .int k] => if y.length ≠ 0 ∧ x.length + 2 ≤ cap ∧ 0 ≤ k ∧ k < 1000000 then .ok (.lst ((Txt.splitMax x y k).map .str)) S else .bad
  | _ => .bad
theorem m_oSplitM {K : PySem.W.Frag} : MtD K (fun x xs H Q => ∃ (a b : Str) (k : Int), x = .str a ∧ xs = [.str b, .int k] ∧ (b.length == 0) = false ∧ -(2 ^ 63) ≤ k ∧ k < 2 ^ 63 ∧ a.length + 2 ≤ sizeLine ∧ rNewStrs (Txt.splitMax a b k) H Q) oSplitM := by
  intro W ρ σ O H S x ys ds Q st r h
  unfold oSplitM at h
  split at h
  · obtain ⟨hc, h⟩ := After.ite h
    obtain ⟨v, u, rfl, q1, q2⟩ := r.two
    cases (show v = _ from q1)
    cases (show u = _ from q2)
    exact ⟨x, _, _, rfl, rfl, len_ne hc.1, by omega, by omega, cap_line hc.2.1, new_strs st h⟩
  · exact h.elim
def oCount (x : Str) (ds : List D) (S : Sto) : RE D := match ds with
  | [.str y] => .ok (.int (Txt.count x y)) S
  | _ => .bad
theorem m_oCount {K : PySem.W.Frag} : MtD K (fun x xs H Q => ∃ a b, x = .str a ∧ xs = [.str b] ∧ Q (.int (Txt.count a b)) H) oCount := by
  intro W ρ σ O H S x ys ds Q st r h
  unfold oCount at h
  split at h
  · obtain ⟨v, rfl, q⟩ := r.one
    cases (show v = _ from q)
    exact ⟨x, _, rfl, rfl, After.ok h st rfl⟩
  · exact h.elim
def oStarts (x : Str) (ds : List D) (S : Sto) : RE D := match ds with
  | [.str y] => .ok (.bl (Txt.startswith x y)) S
  | _ => .bad
theorem m_oStarts {K : PySem.W.Frag} : MtD K (fun x xs H Q => ∃ a b, x = .str a ∧ xs = [.str b] ∧ Q (.bl (Txt.startswith a b)) H) oStarts := by
  intro W ρ σ O H S x ys ds Q st r h
  unfold oStarts at h
  split at h
  · obtain ⟨v, rfl, q⟩ := r.one
    cases (show v = _ from q)
    exact ⟨x, _, rfl, rfl, After.ok h st rfl⟩
  · exact h.elim
/-! ### int, str -/
def oIntS : FD := fun ds S => match ds with
  | [.str x] => (match PySem.intText? x with
    | some n => if x.length ≤ 640 then .ok (.int n) S else .bad
    | none => .bad)
  | _ => .bad
theorem c_oIntS : CallR X (.type "int") (RC X.K oIntS) := by
  intro pins s σ H vs us Q I rv ⟨W, ρ, σ', O, S, ds, st, r, h⟩
  unfold oIntS at h
  split at h
  · obtain ⟨v, rfl, r1⟩ := r.one
    cases (show v = _ from r1)
    split at h
    · rename_i n hn
      obtain ⟨hc, h⟩ := After.ite h
      exact call_int_str pins s σ H _ us Q I rv ⟨_, n, rfl, hn, hc, After.ok h st rfl⟩
    · exact h.elim
  · exact h.elim
def oIntA : FD := fun ds S => match ds with
  | [.str x] => oIntS [.str x] S
  | ds => oInt ds S
theorem c_oIntA : CallR X (.type "int") (RC X.K oIntA) := by
  intro pins s σ H vs us Q I rv ⟨W, ρ, σ', O, S, ds, st, r, h⟩
  unfold oIntA at h
  split at h
  · exact c_oIntS pins s σ H vs us Q I rv ⟨W, ρ, σ', O, S, _, st, r, h⟩
  · exact c_oInt pins s σ H vs us Q I rv ⟨W, ρ, σ', O, S, _, st, r, h⟩
def oStr : FD := fun ds S => match ds with
  | [.str x] => .ok (.str x) S
  | [.int i] => if i.natAbs.log2 < 1920 then .ok (.str (Str.ofString (toString i))) S else .bad
  | _ => .bad
theorem c_oStr : CallR X (.type "str") (RC X.K oStr) := by
  intro pins s σ H vs us Q I rv ⟨W, ρ, σ', O, S, ds, st, r, h⟩
  unfold oStr at h
  split at h
  · obtain ⟨v, rfl, r1⟩ := r.one
    cases (show v = _ from r1)
    exact SkE.call_str_str pins s σ H _ us Q I rv ⟨_, rfl, After.ok h st rfl⟩
  · obtain ⟨v, rfl, r1⟩ := r.one
    cases (show v = _ from r1)
    obtain ⟨hc, h⟩ := After.ite h
    exact call_str_int pins s σ H _ us Q I rv ⟨_, rfl, hc, After.ok h st rfl⟩
  · exact h.elim
/-! ### f-strings -/
/-- {x} -/
def dFmt (f : ME) : ME := fun ρ S => (f ρ S).bind fun d S1 => match d with
  | .str x => if x.length ≤ cap then .ok (.str x) S1 else .bad
  | .int i => if i.natAbs.log2 < 1920 then .ok (.str (Str.ofString (toString i))) S1 else .bad
  | _ => .bad
theorem de_fmt (ha : DE X W a f) : DE X W (.FormattedValue a (-1) none pos) (dFmt f) :=
  ⟨PE.imp (pe_fmt ha.pe) fun σ H Q ⟨O, ρ, S, st, h⟩ => ⟨O, ρ, S, st, After.seq h fun d S1 O1 H1 v e1 st1 r1 h1 => by
    cases d <;> try exact h1.elim
    · cases (show v = _ from r1)
      obtain ⟨hc, h1⟩ := After.ite h1
      exact .inr ⟨_, rfl, hc, After.ok h1 st1 rfl⟩
    · cases (show v = _ from r1)
      obtain ⟨hc, h1⟩ := After.ite h1
      exact .inl ⟨_, rfl, cap_line hc, After.ok h1 st1 rfl⟩⟩⟩
def dJs : List ME → Str → ME
  | [], acc => fun _ S => .ok (.str acc) S
  | f :: fs, acc => fun ρ S => (f ρ S).bind fun d S1 => match d with
    | .str y => if (acc ++ y).length ≤ cap then dJs fs (acc ++ y) ρ S1 else .bad
    | _ => .bad
inductive DJs (X : Cx) (W : WX) : List Expr → List ME → Prop where
  | nil : DJs X W [] []
  | cons {e : Expr} {f : ME} {es : List Expr} {fs : List ME} (h : DE X W e f) (r : DJs X W es fs) : DJs X W (e :: es) (f :: fs)
theorem DJs.pj {es : List Expr} {fs : List ME} (h : DJs X W es fs) : PJ X es (fs.map (tE X.K W)) := by
  induction h with
  | nil => exact .nil
  | cons h r ih => exact .cons h.pe ih
theorem js_imp : ∀ (fs : List ME) (acc : Str) {σ : L2.St} {H : Hp} {Q : VK}, tE X.K W (dJs fs acc) σ H Q → tJs (fs.map (tE X.K W)) acc σ H fun out H1 => Q (.str out) H1
  | [], acc, σ, H, Q, ⟨O, ρ, S, st, h⟩ => After.ok (d := D.str acc) (v := V.str acc) h st rfl
  | f :: fs, acc, σ, H, Q, ⟨O, ρ, S, st, h⟩ => ⟨O, ρ, S, st, After.seq h fun d S1 O1 H1 v e1 st1 r1 h1 => by
    cases d <;> try exact h1.elim
    rename_i y
    cases (show v = _ from r1)
    obtain ⟨hc, h1⟩ := After.ite h1
    exact ⟨y, rfl, cap_line hc, js_imp fs (acc ++ y) ⟨O1, ρ, S1, st1, h1⟩⟩⟩
theorem de_js {v1 v2 : Expr} {rest : List Expr} {fs : List ME} (h : DJs X W (v1 :: v2 :: rest) fs) : DE X W (.JoinedStr (v1 :: v2 :: rest) pos) (dJs fs Str.empty) :=
  ⟨PE.imp (pe_joined h.pj) fun _ _ _ h => js_imp _ _ h⟩
/-! ### a, b, c = x, y, z -/
def sPar3 (i j l : Nat) (fa : MA) : MS := fun ρ S => (fa ρ S).stm ρ fun ds S1 => match ds with
  | [d, e, f] => .nx (((ρ.set i (some d)).set j (some e)).set l (some f)) S1
  | _ => .bad
theorem ds_par3 (i j l : Nat) {x y z : Str} {b c : Expr} {fa : MA} {px py pz pt : Pos} {kt k2 pt2} (hc : X.calm = true) (hN : X.N.Nodup) (ha : DA X W [a, b, c] fa) (hi : X.N[i]? = some x := by rfl) (hj : X.N[j]? = some y := by rfl) (hl : X.N[l]? = some z := by rfl)
    (hij : i ≠ j := by decide) (hil : i ≠ l := by decide) (hjl : j ≠ l := by decide)
    (hx : X.env.scope.names.lookup x = some .local := by rfl) (hy : X.env.scope.names.lookup y = some .local := by rfl) (hz : X.env.scope.names.lookup z = some .local := by rfl)
    (hw : swappedStores [.Tuple [.Name x px, .Name y py, .Name z pz] kt pt] (.Tuple [a, b, c] k2 pt2) X.env = pure (some [x, y, z]) := by rfl)
    (hs : swapsWithSole [.Tuple [.Name x px, .Name y py, .Name z pz] kt pt] (.Tuple [a, b, c] k2 pt2) pos.line X.env = pure false := by rfl) :
    DS X W (.Assign [.Tuple [.Name x px, .Name y py, .Name z pz] kt pt] (.Tuple [a, b, c] k2 pt2) pos) (sPar3 i j l fa) :=
  ⟨PS.imp (ps_par3 hc hN hi hj hl hij hil hjl hx hy hz ha.pa hw hs) fun D' σ H ⟨O, ρ, S, st, h⟩ => ⟨O, ρ, S, st, AfterS.seqE h fun ds S1 O1 H1 vs e1 st1 r1 h1 => by
    rcases ds with _ | ⟨d, _ | ⟨e, _ | ⟨f, _ | ⟨_, _⟩⟩⟩⟩
    · exact h1.elim
    · exact h1.elim
    · exact h1.elim
    · obtain ⟨v, vr, rfl, q1, u, ur, rfl, q2, w, wr, rfl, q3, rfl⟩ := r1
      exact ⟨v, u, w, rfl, h1 O1 H1 _ .refl ⟨st1.wf, ((st1.env.set q1 i).set q2 j).set q3 l⟩⟩
    · exact h1.elim⟩⟩
/-! ### replace of written texts, where a text was written ahead -/
structure DET (X : Cx) (W : WX) (e : Expr) (f : ME) : Prop where
  pet : PET X e (tE X.K W f)
theorem DE.t (h : DE X W a f) : DET X W a f := ⟨CwR.PET.of h.pe⟩
def dRep (y z : Str) (f : ME) : ME := fun ρ S => (f ρ S).bind fun d S1 => match d with
  | .str x => if x.length + (x.length + 1) * z.length ≤ cap then .ok (.str (Txt.replace x y z)) S1 else .bad
  | _ => .bad
theorem rep_imp {y z : Str} {σ : L2.St} {H : Hp} {Q : VK} (h : tE X.K W (dRep y z f) σ H Q) : CwR.tReplC (tE X.K W f) y z σ H Q := by
  obtain ⟨O, ρ, S, st, h⟩ := h
  refine ⟨O, ρ, S, st, After.seq h fun d S1 O1 H1 v e1 st1 r1 h1 => ?_⟩
  cases d <;> try exact h1.elim
  cases (show v = _ from r1)
  obtain ⟨hc, h1⟩ := After.ite h1
  exact ⟨_, rfl, Nat.le_trans hc (by decide), After.ok h1 st1 rfl⟩
theorem PET.imp {e : Expr} {t t' : TE} (h : PET X e t) (k : ∀ σ H Q, t' σ H Q → t σ H Q) : PET X e t' := fun pins s σ H Q h0 I q => h pins s σ H Q h0 I (k σ H Q q)
theorem det_rep {y z : Str} {j k : Nat} {c0 c1 apos : Pos} (ho : DET X W o f) (hyz : (y == z) = false := by decide +kernel)
    (hst : starEach [.Constant (.str y) j c0, .Constant (.str z) k c1] X.env = [(false, eval (.Constant (.str y) j c0) X.env), (false, eval (.Constant (.str z) k c1) X.env)] := by rfl)
    (hbase : attributeBase o "replace" X.env (eval o X.env) = eval o X.env := by rfl) (hline : (apos.endLine == pos.line) = true := by rfl) :
    DET X W (.Call (.Attribute o "replace" apos) [.Constant (.str y) j c0, .Constant (.str z) k c1] [] pos) (dRep y z f) :=
  ⟨PET.imp (CwR.pet_replT ho.pet hyz hst hbase hline) fun _ _ _ h => rep_imp h⟩
/-- 'x' + e -/
theorem de_strT {x : Str} {j : Nat} {p1 : Pos} {op : D → D → Sto → RE D} {bo : Operator} (hr : OpR X (binaryOp bo) (RD X.K op)) (hb : DET X W b g) : DE X W (.BinOp (.Constant (.str x) j p1) bo b pos) (dBin op (dC (.str x)) g) := by
  refine ⟨⟨fun pins s σ H Q I h => ?_⟩⟩
  have h2 := bin_imp (f := dC (.str x)) opD_RD h
  obtain ⟨O, ρ, S, st, h3⟩ := h2
  have h4 : tE X.K W g σ H fun y H2 => RD X.K op (.str x) y H2 Q := h3 O H (.str x) .refl st rfl
  refine wpAny_BinOp (Calls.Constant_str ?_)
  refine thn (hb.pet pins { s with toks := s.toks + 1 } σ H _ (by show 1 ≤ s.toks + 1; omega) (I.tok _) h4) fun u s2 ⟨y, H2, I2, r2, q2⟩ => ?_
  exact hr pins s2 σ H2 (.str x) y _ u Q I2 ⟨_, rfl⟩ r2 q2
/-! ### x += e, ints or texts -/
def sAugA (i : Nat) (g : ME) : MS := fun ρ S => match ρ[i]? with
  | some (some (.int a)) => (g ρ S).stm ρ fun e S1 => match e with
    | .int b => .nx (ρ.set i (some (.int (a + b)))) S1
    | _ => .bad
  | some (some (.str a)) => (g ρ S).stm ρ fun e S1 => match e with
    | .str b => if a.length + b.length ≤ cap then .nx (ρ.set i (some (.str (a ++ b)))) S1 else .bad
    | _ => .bad
  | _ => .bad
def ipA : V → V → Hp → VK → Prop := fun x y H Q => (∃ i j, x = .int i ∧ y = .int j ∧ Q (.int (i + j)) H) ∨ rAddS x y H Q
theorem ip_addA : PIp X .Add ipA := by
  intro pins s σ H x y v u Q I rx ry h
  rcases h with ⟨i, j, rfl, rfl, q⟩ | h
  · obtain ⟨t, rfl⟩ := (show ∃ t, v = Value.int i t from rx)
    obtain ⟨t', rfl⟩ := (show ∃ t', u = Value.int j t' from ry)
    exact PyProof.Rows.iadd_int ⟨.int (i + j), H, I.tok _, ⟨_, rfl⟩, q⟩
  · exact in_addS pins s σ H x y v u Q I rx ry h
theorem ds_augA (i : Nat) {x : Str} {e : Expr} {f : ME} {pos' : Pos} (hN : X.N.Nodup) (hi : X.N[i]? = some x) (hx : Loc X.env.scope x) (he : DE X W e f) (hf : X.fn x = true ∨ X.env.scope.names.lookup x = some .local := by first | exact .inl rfl | exact .inr rfl | assumption) : DS X W (.AugAssign (.Name x pos') .Add e pos) (sAugA i f) :=
  ⟨PS.imp (ps_aug hN hi hx he.pe ip_addA hf) fun D' σ H ⟨O, ρ, S, st, h⟩ => by
    unfold sAugA at h
    split at h
    · rename_i a q
      obtain ⟨v, hv, r⟩ := st.env.get q
      cases (show v = _ from r)
      refine ⟨_, hv, O, ρ, S, st, AfterS.seqE h fun d S1 O1 H1 u e1 st1 r1 h1 => ?_⟩
      cases d <;> try exact h1.elim
      rename_i b
      cases (show u = _ from r1)
      exact .inl ⟨_, _, rfl, rfl, h1 O1 H1 _ .refl ⟨st1.wf, st1.env.set (d := .int (a + b)) (v := .int (a + b)) rfl i⟩⟩
    · rename_i a q
      obtain ⟨v, hv, r⟩ := st.env.get q
      cases (show v = _ from r)
      refine ⟨_, hv, O, ρ, S, st, AfterS.seqE h fun d S1 O1 H1 u e1 st1 r1 h1 => ?_⟩
      cases d <;> try exact h1.elim
      rename_i b
      cases (show u = _ from r1)
      simp only at h1
      split at h1
      · rename_i hc
        exact .inr ⟨_, _, rfl, rfl, cap_line hc, h1 O1 H1 _ .refl ⟨st1.wf, st1.env.set (d := .str (a ++ b)) (v := .str (a ++ b)) rfl i⟩⟩
      · exact h1.elim
    · exact h.elim⟩
end
end DE

set_option maxHeartbeats 4000000
namespace DE
open PySem PySem.Spec PyProof.Rows L2
section
variable {X : Cx} {W : WX} {o a b e : Expr} {f g : ME} {es : List Expr} {fa : MA} {apos pos : Pos}
/-! ### behind it a token is out -/
structure DEK (X : Cx) (W : WX) (e : Expr) (f : ME) : Prop where
  run : ∀ pins s σ H Q, Inv X pins σ H s → tE X.K W f σ H Q → wpAny (model X.prog X.w) X.A (eval e X.env) (fun u s1 => 1 ≤ s1.toks ∧ EP X pins σ Q u s1) X.xe s
theorem DEK.de (h : DEK X W e f) : DE X W e f := ⟨⟨fun pins s σ H Q I q => wpAny_mono (h.run pins s σ H Q I q) (fun _ _ z => z.2) fun _ _ z => z⟩⟩
theorem dek_str {x : Str} {j : Nat} : DEK X W (.Constant (.str x) j pos) (dC (.str x)) := ⟨fun pins s σ H Q I ⟨O, ρ, S, st, h⟩ => Calls.Constant_str ⟨by show 1 ≤ s.toks + 1; omega, .str x, H, I.tok _, ⟨_, rfl⟩, After.ok h st rfl⟩⟩
theorem dek_m1 {id : String} {name : Str} {r : V → List V → Hp → VK → Prop} {op : Str → D → Sto → RE D} (slot : Slot "str" name id) (ty : typeOf (.builtin id) = pure (.type "method_descriptor")) (rule : MtR X id r) (hop : M1D X.K r op) (h : DEK X W o f) (he : DE X W e g)
    (hs : starEach [e] X.env = [(false, eval e X.env)] := by rfl) (hbase : attributeBase o name X.env (eval o X.env) = eval o X.env := by rfl) (hline : (apos.endLine == pos.line) = true := by rfl) :
    DEK X W (.Call (.Attribute o name apos) [e] [] pos) (dM1 op f g) := ⟨fun pins s σ H Q I q => by
  have q2 := m1_imp hop q
  refine PySem.Call_method1 hbase hs hline (wpAny_mono (h.run pins s σ H _ I q2) (fun v s1 ⟨hk, x, H1, I1, r1, q1⟩ => ?_) fun _ _ z => z)
  obtain ⟨⟨y, rfl⟩, q1⟩ := q1
  obtain ⟨t, rfl⟩ := _root_.id r1
  refine ⟨"str", _, PySem.F.plainAttrs_str, slot, ty, typeIs_str _ _ _, (fun _ e => nomatch e), Calls.callWith_builtin rfl (Calls.evalArgs_plain (Calls.spliced_cons ?_))⟩
  refine wpAny_mono (wpAny_toks_of hk (he.pe.run pins s1 σ H1 _ I1 q1)) (fun u s2 ⟨hk2, y, H2, I2, r2, q2⟩ => Calls.spliced_nil ?_) (fun _ _ z => z.2)
  exact wpAny_mono (wpAny_toks_of hk2 (rule pins s2 σ H2 _ [y] _ [u] Q I2 r1 (.cons r2 .nil) q2)) (fun _ _ z => z) fun _ _ z => z.2⟩
theorem dek_join (h : DEK X W o f) (he : DE X W e g) (hs : starEach [e] X.env = [(false, eval e X.env)] := by rfl) (hbase : attributeBase o "join" X.env (eval o X.env) = eval o X.env := by rfl) (hline : (apos.endLine == pos.line) = true := by rfl) :
    DEK X W (.Call (.Attribute o "join" apos) [e] [] pos) (dM1 oJoin f g) :=
  dek_m1 PySem.F.slot_str_join PySem.F.type_str_join mt_join (fun W ρ σ O H S x y e Q st r h => by
    unfold oJoin at h
    split at h
    · rename_i ds hd
      split at h
      · rename_i ys hy
        obtain ⟨hc, h⟩ := After.ite h
        obtain ⟨p, xs, rfl, hs, rs⟩ := seq_rep st hd r
        have e := strs_rep hy rs
        subst e
        exact ⟨x, p, ys, rfl, rfl, hs, Nat.le_trans hc (by decide), After.ok h st rfl⟩
      · exact h.elim
    · exact h.elim) h he hs hbase hline
theorem dek_sl {lo hi : Option Expr} {p2 : Pos} {fl fh : MO} (ha : DEK X W a f) (hl : DPo X W lo fl) (hh : DPo X W hi fh) : DEK X W (.Subscript a (.Slice lo hi none p2) pos) (dSl f fl fh) := ⟨fun pins s σ H Q I ⟨O, ρ, S, st, h⟩ => by
  have q : tSl (rSlD X.K) (tE X.K W f) (tO X.K W fl) (tO X.K W fh) σ H Q := ⟨O, ρ, S, st, After.seq h fun d S1 O1 H1 v e1 st1 r1 h1 => ⟨O1, ρ, S1, st1, After.seq h1 fun l S2 O2 H2 v2 e2 st2 r2 h2 => ⟨O2, ρ, S2, st2, After.seq h2 fun u S3 O3 H3 v3 e3 st3 r3 h3 => by
    subst r2 r3
    exact ⟨W, ρ, σ, O3, S3, d, st3, r1.mono ((e2.trans e3).w st1.wf), h3⟩⟩⟩⟩
  refine Subscript_ (wpAny_mono (ha.run pins s σ H _ I q) (fun v s1 ⟨hk, x, H1, I1, r1, q1⟩ => ?_) fun _ _ z => z)
  have old : wpAny (model X.prog X.w) X.A (eval (.Slice lo hi none p2) X.env) (fun i s2 => wpAny (model X.prog X.w) X.A (subscriptTail a (.Slice lo hi none p2) v i) (EP X pins σ Q) X.xe s2) X.xe s1 := by
    refine wpAny_Slice (thn (hl.po.run pins s1 σ H1 _ I1 q1) fun vl s2 ⟨l, H2, I2, pl, q2⟩ => thn (hh.po.run pins s2 σ H2 _ I2 q2) fun vu s3 ⟨u, H3, I3, pu, q3⟩ => ?_)
    rw [evalPart_none]
    refine wpAny_pure ?_
    have I4 : Inv X pins σ H3 { s3 with heap := s3.heap.push { cls := .type "slice", data := .fields #[vl, vu, .none] } } := I3.kept (t' := s3.toks) fun b ob q => Heap.get?_push_of_some _ q
    obtain ⟨T, id, hT, ht, hg⟩ := sl_slD pins { s3 with heap := s3.heap.push { cls := .type "slice", data := .fields #[vl, vu, .none] } } σ H3 x v vl vu l u s3.heap.objs.size Q I4 r1 (Heap.IsSliceOf.new ..) pl pu q3
    show wpAny (model X.prog X.w) X.A (subscriptTail a (.Slice lo hi none p2) v (.ref s3.heap.objs.size)) (EP X pins σ Q) X.xe { s3 with heap := s3.heap.push { cls := .type "slice", data := .fields #[vl, vu, .none] } }
    exact tail_any (ops := [.ref s3.heap.objs.size, v]) ht hT hg (by with_unfolding_all rfl)
  exact wpAny_mono (wpAny_toks_of hk old) (fun i s2 ⟨hk2, q⟩ => wpAny_mono (wpAny_toks_of hk2 q) (fun _ _ z => z) fun _ _ z => z.2) fun _ _ z => z.2⟩
theorem dek_rep {y z : Str} {j k : Nat} {c0 c1 : Pos} (ho : DEK X W o f) (hyz : (y == z) = false := by decide +kernel)
    (hst : starEach [.Constant (.str y) j c0, .Constant (.str z) k c1] X.env = [(false, eval (.Constant (.str y) j c0) X.env), (false, eval (.Constant (.str z) k c1) X.env)] := by rfl)
    (hbase : attributeBase o "replace" X.env (eval o X.env) = eval o X.env := by rfl) (hline : (apos.endLine == pos.line) = true := by rfl) :
    DEK X W (.Call (.Attribute o "replace" apos) [.Constant (.str y) j c0, .Constant (.str z) k c1] [] pos) (dRep y z f) := ⟨fun pins s σ H Q I h => by
  have q2 := rep_imp h
  refine PySem.Call_method2 hbase hst hline (wpAny_mono (ho.run pins s σ H _ I q2) (fun v s1 ⟨hk, v', H1, I1, r1, q1⟩ => ?_) fun _ _ z => z)
  obtain ⟨x, e1, hb, q⟩ := q1
  subst e1
  obtain ⟨tx, e2⟩ := r1
  subst e2
  refine ⟨"str", _, PySem.F.plainAttrs_str, PySem.F.slot_str_replace, PySem.F.type_str_replace, typeIs_str _ _ _, (fun _ e => nomatch e), Calls.callWith_builtin rfl (Calls.evalArgs_plain (Calls.spliced_cons ?_))⟩
  refine Calls.Constant_str (Calls.spliced_cons (Calls.Constant_str (Calls.spliced_nil ?_)))
  have h0 : 1 ≤ ({ s1 with toks := s1.toks + 1 + 1 } : Shared).toks := by show 1 ≤ s1.toks + 1 + 1; omega
  exact wpAny_mono (wpAny_toks_of h0 (PySem.SC.replace (E := X.xe) (by show s1.toks ≠ 0; omega) (by show s1.toks + 1 ≠ 0; omega) (by show s1.toks ≠ s1.toks + 1; omega) hyz hb fun t' k => (show EP X pins σ Q (.str (Txt.replace x y z) t') _ from ⟨.str (Txt.replace x y z), H1, I1.tok k, ⟨t', rfl⟩, q⟩))) (fun _ _ z => z) fun _ _ z => z.2⟩
/-- .. where the first text is put together -/
theorem dek_rep2 {y1 y2 z : Str} {j j2 k : Nat} {c0 c2 c1 cb : Pos} (ho : DEK X W o f) (hyz : ((y1 ++ y2) == z) = false := by decide +kernel) (n1 : (y1.length == 0) = false := by decide +kernel) (n2 : (y2.length == 0) = false := by decide +kernel) (nz : (y1 ++ y2).length ≤ 1000 := by decide +kernel)
    (hst : starEach [.BinOp (.Constant (.str y1) j c0) .Add (.Constant (.str y2) j2 c2) cb, .Constant (.str z) k c1] X.env = [(false, eval (.BinOp (.Constant (.str y1) j c0) .Add (.Constant (.str y2) j2 c2) cb) X.env), (false, eval (.Constant (.str z) k c1) X.env)] := by rfl)
    (hbase : attributeBase o "replace" X.env (eval o X.env) = eval o X.env := by rfl) (hline : (apos.endLine == pos.line) = true := by rfl) :
    DEK X W (.Call (.Attribute o "replace" apos) [.BinOp (.Constant (.str y1) j c0) .Add (.Constant (.str y2) j2 c2) cb, .Constant (.str z) k c1] [] pos) (dRep (y1 ++ y2) z f) := ⟨fun pins s σ H Q I h => by
  have q2 := rep_imp h
  refine PySem.Call_method2 hbase hst hline (wpAny_mono (ho.run pins s σ H _ I q2) (fun v s1 ⟨hk, v', H1, I1, r1, q1⟩ => ?_) fun _ _ z => z)
  obtain ⟨x, e1, hb, q⟩ := q1
  subst e1
  obtain ⟨tx, e2⟩ := r1
  subst e2
  refine ⟨"str", _, PySem.F.plainAttrs_str, PySem.F.slot_str_replace, PySem.F.type_str_replace, typeIs_str _ _ _, (fun _ e => nomatch e), Calls.callWith_builtin rfl (Calls.evalArgs_plain (Calls.spliced_cons ?_))⟩
  refine wpAny_BinOp (Calls.Constant_str (Calls.Constant_str ?_))
  refine P.add_str ?_
  rw [n1, n2]
  simp only [Bool.false_eq_true, if_false]
  refine ⟨Nat.le_trans nz (by decide), ?_⟩
  refine Calls.spliced_cons (Calls.Constant_str (Calls.spliced_nil ?_))
  have h0 : 1 ≤ ({ s1 with toks := s1.toks + 1 + 1 + 1 + 1 } : Shared).toks := by show 1 ≤ s1.toks + 1 + 1 + 1 + 1; omega
  exact wpAny_mono (wpAny_toks_of h0 (PySem.SC.replace (E := X.xe) (by show s1.toks + 1 + 1 ≠ 0; omega) (by show s1.toks + 1 + 1 + 1 ≠ 0; omega) (by show s1.toks + 1 + 1 ≠ s1.toks + 1 + 1 + 1; omega) hyz hb fun t' k => (show EP X pins σ Q (.str (Txt.replace x (y1 ++ y2) z) t') _ from ⟨.str (Txt.replace x (y1 ++ y2) z), H1, I1.tok k, ⟨t', rfl⟩, q⟩))) (fun _ _ z => z) fun _ _ z => z.2⟩
/-! ### displays behind a written text -/
structure DAT (X : Cx) (W : WX) (es : List Expr) (f : MA) : Prop where
  pat : PAT X es (tA X.K W f)
theorem dat_nil : DAT X W [] aNil := ⟨fun pos pins s σ H Q h0 I h => da_nil.pa.run pos pins s σ H Q I h⟩
theorem dat_cons (ha : DET X W e f) (hr : DAT X W es fa) (hs : starEach (e :: es) X.env = (false, eval e X.env) :: starEach es X.env := by rfl) : DAT X W (e :: es) (aCons f fa) := ⟨fun pos pins s σ H Q h0 I ⟨O, ρ, S, st, h⟩ => by
  refine pat_cons ha.pet hr.pat hs pos pins s σ H Q h0 I ⟨O, ρ, S, st, After.seq h fun d S1 O1 H1 v e1 st1 r1 h1 => ⟨O1, ρ, S1, st1, After.seq h1 fun ds S2 O2 H2 vs e2 st2 r2 h2 => ?_⟩⟩
  exact After.ok h2 st2 ⟨v, vs, rfl, r1.mono (e2.w st1.wf), r2⟩⟩
theorem da_strT {x : Str} {j : Nat} {p : Pos} (h : DAT X W es fa) (hs : starEach (.Constant (.str x) j p :: es) X.env = (false, eval (.Constant (.str x) j p) X.env) :: starEach es X.env := by rfl) : DA X W (.Constant (.str x) j p :: es) (aCons (dC (.str x)) fa) := ⟨⟨fun pos pins s σ H Q I ⟨O, ρ, S, st, h3⟩ => by
  rw [hs]
  show wpAny _ _ (spliced ((false, eval (.Constant (.str x) j p) X.env) :: backTo pos (starEach es X.env))) _ _ s
  refine Calls.spliced_cons (Calls.Constant_str ?_)
  refine thn (h.pat pos pins { s with toks := s.toks + 1 } σ H (fun xs H2 => Q (.str x :: xs) H2) (by show 1 ≤ s.toks + 1; omega) (I.tok _) ⟨O, ρ, S, st, After.seq h3 fun ds S2 O2 H2 vs e2 st2 r2 h2 => After.ok h2 st2 ⟨.str x, vs, rfl, rfl, r2⟩⟩) fun us s2 ⟨xs, H2, I2, r2, q2⟩ => ⟨.str x :: xs, H2, I2, .cons ⟨_, rfl⟩ r2, q2⟩⟩⟩
/-! ### [.., *x] -/
def aStar (f : ME) (fa : MA) : MA := fun ρ S => (f ρ S).bind fun d S1 => match seqOf S1 d with
  | some ds => (fa ρ S1).bind fun es S2 => .ok (ds ++ es) S2
  | none => .bad
theorem da_star {p : Pos} (he : DE X W e f) (hr : DA X W es fa) (hs : starEach (.Starred e p :: es) X.env = (true, eval e X.env) :: starEach es X.env := by rfl) : DA X W (.Starred e p :: es) (aStar f fa) := ⟨PA.imp (StX.pa_star he.pe hr.pa hs) fun σ H Q ⟨O, ρ, S, st, h⟩ => ⟨O, ρ, S, st, After.seq h fun d S1 O1 H1 v e1 st1 r1 h1 => by
  split at h1
  · rename_i ds hd
    obtain ⟨q, xs, rfl, hq, rs⟩ := seq_rep st1 hd r1
    refine ⟨q, xs, rfl, hq.symm, O1, ρ, S1, st1, After.seq h1 fun es S2 O2 H2 vs e2 st2 r2 h2 => ?_⟩
    exact After.ok h2 st2 ((rs.mono (e2.w st1.wf)).append r2)
  · exact h1.elim⟩⟩
end
end DE

set_option maxHeartbeats 4000000
namespace DE
open PySem L2
/-! ### calls whose store is their own -/
mutual
/-- nothing owned in it -/
def nown : D → Bool
  | .non => true
  | .bl _ => true
  | .int _ => true
  | .str _ => true
  | .ty _ => true
  | .glo _ => true
  | .tup ds => nowns ds
  | .lst ds => nowns ds
  | .scr ds => nowns ds
  | .dK kvs => nownK kvs
  | .dT kvs => nownT kvs
  | .obj _ fs => nownF fs
  | .exo _ fs => nownF fs
  | .own _ => false
  | .xcp _ _ _ => false
def nowns : List D → Bool
  | [] => true
  | d :: ds => nown d && nowns ds
def nownK : List (Key × D) → Bool
  | [] => true
  | (_, d) :: ds => nown d && nownK ds
def nownT : List (List Key × D) → Bool
  | [] => true
  | (_, d) :: ds => nown d && nownT ds
def nownF : List (Str × D) → Bool
  | [] => true
  | (_, d) :: ds => nown d && nownF ds
end
mutual
/-- no list in it -/
def nolst : D → Bool
  | .non => true
  | .bl _ => true
  | .int _ => true
  | .str _ => true
  | .ty _ => true
  | .glo _ => true
  | .tup ds => nolsts ds
  | .lst _ => false
  | .scr _ => false
  | .dK kvs => nolstK kvs
  | .dT kvs => nolstT kvs
  | .obj _ fs => nolstF fs
  | .exo _ fs => nolstF fs
  | .own _ => false
  | .xcp _ _ _ => false
def nolsts : List D → Bool
  | [] => true
  | d :: ds => nolst d && nolsts ds
def nolstK : List (Key × D) → Bool
  | [] => true
  | (_, d) :: ds => nolst d && nolstK ds
def nolstT : List (List Key × D) → Bool
  | [] => true
  | (_, d) :: ds => nolst d && nolstT ds
def nolstF : List (Str × D) → Bool
  | [] => true
  | (_, d) :: ds => nolst d && nolstF ds
end
/-- from one ownership to another: what is not owned there is not owned here (lists: if fl is off) -/
def Cap (fl : Bool) (O' O : Ow) (H : Hp) : Prop := ∀ a o, O'.no a → H a = some o → (fl = true → ∀ xs, o ≠ .lst xs) → O.no a
section
variable {K : PySem.W.Frag} {O O' : Ow} {H : Hp} {fl : Bool}
mutual
theorem Rep.cap (c : Cap fl O' O H) (hs : ∀ a o xs, O'.no a → H a = some (.frz o (.lst xs)) → O.no a) : ∀ {d : D} {v : V}, nown d = true → (fl = true → nolst d = true) → Rep K O' H d v → Rep K O H d v
  | .non, _, _, _, h => h
  | .bl _, _, _, _, h => h
  | .int _, _, _, _, h => h
  | .str _, _, _, _, h => h
  | .ty _, _, _, _, h => h
  | .glo _, _, _, _, h => h
  | .tup ds, _, n, l, h => by
    obtain ⟨a, xs, rfl, h1, h2⟩ := h
    exact ⟨a, xs, rfl, h1, Reps.cap c hs (by simpa only [nown] using n) (fun e => by simpa only [nolst] using l e) h2⟩
  | .lst ds, _, n, l, h => by
    obtain ⟨a, xs, rfl, m, h1, h2⟩ := h
    have nf : ¬ fl = true := fun e => absurd (l e) (by simp [nolst])
    exact ⟨a, xs, rfl, c _ _ m h1 (fun e => absurd e nf), h1, Reps.cap c hs (by simpa only [nown] using n) (fun e => absurd e nf) h2⟩
  | .scr ds, _, n, l, h => by
    obtain ⟨a, xs, rfl, h1, h2⟩ := h
    have nf : ¬ fl = true := fun e => absurd (l e) (by simp [nolst])
    refine ⟨a, xs, rfl, ?_, Reps.cap c hs (by simpa only [nown] using n) (fun e => absurd e nf) h2⟩
    rcases h1 with ⟨m, h1⟩ | h1
    · refine .inl ⟨?_, h1⟩
      rcases h1 with h1 | ⟨o, h1⟩
      · exact c _ _ m h1 (fun e => absurd e nf)
      · exact hs _ _ _ m h1
    · exact .inr h1
  | .dK kvs, _, n, l, h => by
    obtain ⟨a, xs, rfl, m, h1, h2⟩ := h
    refine ⟨a, xs, rfl, ?_, h1, RepK.cap c hs (by simpa only [nown] using n) (fun e => by simpa only [nolst] using l e) h2⟩
    rcases h1 with h1 | ⟨o, h1⟩
    · exact c _ _ m h1 (fun _ _ e => nomatch e)
    · exact c _ _ m h1 (fun _ _ e => nomatch e)
  | .dT kvs, _, n, l, h => by
    obtain ⟨a, xs, rfl, m, h1, h2⟩ := h
    refine ⟨a, xs, rfl, ?_, h1, RepT.cap c hs (by simpa only [nown] using n) (fun e => by simpa only [nolst] using l e) h2⟩
    rcases h1 with h1 | ⟨o, h1⟩
    · exact c _ _ m h1 (fun _ _ e => nomatch e)
    · exact c _ _ m h1 (fun _ _ e => nomatch e)
  | .obj _ fs, _, n, l, h => by
    obtain ⟨a, dx, xs, rfl, m, h1, h2⟩ := h
    exact ⟨a, dx, xs, rfl, c _ _ m h1 (fun _ _ e => nomatch e), h1, RepF.cap c hs (by simpa only [nown] using n) (fun e => by simpa only [nolst] using l e) h2⟩
  | .exo _ fs, _, n, l, h => by
    obtain ⟨a, dd, vs, rfl, m, h1, m2, h2, h3⟩ := h
    exact ⟨a, dd, vs, rfl, c _ _ m h1 (fun _ _ e => nomatch e), h1, c _ _ m2 h2 (fun _ _ e => nomatch e), h2, RepF.cap c hs (by simpa only [nown] using n) (fun e => by simpa only [nolst] using l e) h3⟩
  | .own _, _, n, _, _ => by simp [nown] at n
  | .xcp _ _ _, _, n, _, _ => by simp [nown] at n
theorem Reps.cap (c : Cap fl O' O H) (hs : ∀ a o xs, O'.no a → H a = some (.frz o (.lst xs)) → O.no a) : ∀ {d : List D} {v : List V}, nowns d = true → (fl = true → nolsts d = true) → Reps K O' H d v → Reps K O H d v
  | [], _, _, _, h => h
  | _ :: _, _, n, l, h => by
    obtain ⟨v, r, rfl, h1, h2⟩ := h
    simp only [nowns, nolsts, Bool.and_eq_true] at n l
    exact ⟨v, r, rfl, Rep.cap c hs n.1 (fun e => (l e).1) h1, Reps.cap c hs n.2 (fun e => (l e).2) h2⟩
theorem RepK.cap (c : Cap fl O' O H) (hs : ∀ a o xs, O'.no a → H a = some (.frz o (.lst xs)) → O.no a) : ∀ {d : List (Key × D)} {v : List (Key × V)}, nownK d = true → (fl = true → nolstK d = true) → RepK K O' H d v → RepK K O H d v
  | [], _, _, _, h => h
  | (_, _) :: _, _, n, l, h => by
    obtain ⟨v, r, rfl, h1, h2⟩ := h
    simp only [nownK, nolstK, Bool.and_eq_true] at n l
    exact ⟨v, r, rfl, Rep.cap c hs n.1 (fun e => (l e).1) h1, RepK.cap c hs n.2 (fun e => (l e).2) h2⟩
theorem RepT.cap (c : Cap fl O' O H) (hs : ∀ a o xs, O'.no a → H a = some (.frz o (.lst xs)) → O.no a) : ∀ {d : List (List Key × D)} {v : List (List Key × V)}, nownT d = true → (fl = true → nolstT d = true) → RepT K O' H d v → RepT K O H d v
  | [], _, _, _, h => h
  | (_, _) :: _, _, n, l, h => by
    obtain ⟨v, r, rfl, h1, h2⟩ := h
    simp only [nownT, nolstT, Bool.and_eq_true] at n l
    exact ⟨v, r, rfl, Rep.cap c hs n.1 (fun e => (l e).1) h1, RepT.cap c hs n.2 (fun e => (l e).2) h2⟩
theorem RepF.cap (c : Cap fl O' O H) (hs : ∀ a o xs, O'.no a → H a = some (.frz o (.lst xs)) → O.no a) : ∀ {d : List (Str × D)} {v : List (Str × V)}, nownF d = true → (fl = true → nolstF d = true) → RepF K O' H d v → RepF K O H d v
  | [], _, _, _, h => h
  | (_, _) :: _, _, n, l, h => by
    obtain ⟨v, r, rfl, h1, h2⟩ := h
    simp only [nownF, nolstF, Bool.and_eq_true] at n l
    exact ⟨v, r, rfl, Rep.cap c hs n.1 (fun e => (l e).1) h1, RepF.cap c hs n.2 (fun e => (l e).2) h2⟩
end
end
/-! what is owned becomes a tree -/
def mapO {α β : Type} (f : α → Option β) : List α → Option (List β)
  | [] => some []
  | d :: ds => match f d, mapO f ds with
    | some e, some es => some (e :: es)
    | _, _ => none
def sndO {α : Type} (f : D → Option D) (p : α × D) : Option (α × D) := (f p.2).map fun d => (p.1, d)
def frz (S : Sto) : Nat → D → Option D
  | 0, _ => none
  | n + 1, d => match d with
    | .own k => (match S[k]? with
      | some (.lst ds) => (mapO (frz S n) ds).map .lst
      | some (.dK kvs) => (mapO (sndO (frz S n)) kvs).map .dK
      | some (.dT kvs) => (mapO (sndO (frz S n)) kvs).map .dT
      | some (.obj c fs) => (mapO (sndO (frz S n)) fs).map (.obj c)
      | _ => none)
    | .tup ds => (mapO (frz S n) ds).map .tup
    | .lst ds => (mapO (frz S n) ds).map .lst
    | .dK kvs => (mapO (sndO (frz S n)) kvs).map .dK
    | .dT kvs => (mapO (sndO (frz S n)) kvs).map .dT
    | .obj c fs => (mapO (sndO (frz S n)) fs).map (.obj c)
    | .exo c fs => (mapO (sndO (frz S n)) fs).map (.exo c)
    | .xcp _ _ _ => none
    | .scr _ => none
    | d => some d
section
variable {K : PySem.W.Frag} {O O2 : Ow} {H : Hp} {S : Sto}
theorem frz_list {f : D → Option D} (h : ∀ d e v, f d = some e → Rep K O H d v → Rep K O2 H e v) : ∀ {ds es : List D} {vs : List V}, mapO f ds = some es → Reps K O H ds vs → Reps K O2 H es vs
  | [], es, _, e, r => by cases e; exact r
  | d :: ds, es, _, e, r => by
    obtain ⟨v, r', rfl, h1, h2⟩ := r
    simp only [mapO] at e
    cases q : f d with
    | none => simp only [q] at e; cases e
    | some d' =>
      cases q2 : mapO f ds with
      | none => simp only [q, q2] at e; cases e
      | some ds' => simp only [q, q2] at e; cases e; exact ⟨v, r', rfl, h _ _ _ q h1, frz_list h q2 h2⟩
theorem frz_K {f : D → Option D} (h : ∀ d e v, f d = some e → Rep K O H d v → Rep K O2 H e v) : ∀ {ds es : List (Key × D)} {vs : List (Key × V)}, mapO (sndO f) ds = some es → RepK K O H ds vs → RepK K O2 H es vs
  | [], es, _, e, r => by cases e; exact r
  | (k, d) :: ds, es, _, e, r => by
    obtain ⟨v, r', rfl, h1, h2⟩ := r
    simp only [mapO, sndO] at e
    cases q : f d with
    | none => simp only [q, Option.map] at e; cases e
    | some d' =>
      cases q2 : mapO (sndO f) ds with
      | none => simp only [q, q2, Option.map] at e; cases e
      | some ds' => simp only [q, q2, Option.map] at e; cases e; exact ⟨v, r', rfl, h _ _ _ q h1, frz_K h q2 h2⟩
theorem frz_T {f : D → Option D} (h : ∀ d e v, f d = some e → Rep K O H d v → Rep K O2 H e v) : ∀ {ds es : List (List Key × D)} {vs : List (List Key × V)}, mapO (sndO f) ds = some es → RepT K O H ds vs → RepT K O2 H es vs
  | [], es, _, e, r => by cases e; exact r
  | (k, d) :: ds, es, _, e, r => by
    obtain ⟨v, r', rfl, h1, h2⟩ := r
    simp only [mapO, sndO] at e
    cases q : f d with
    | none => simp only [q, Option.map] at e; cases e
    | some d' =>
      cases q2 : mapO (sndO f) ds with
      | none => simp only [q, q2, Option.map] at e; cases e
      | some ds' => simp only [q, q2, Option.map] at e; cases e; exact ⟨v, r', rfl, h _ _ _ q h1, frz_T h q2 h2⟩
theorem frz_F {f : D → Option D} (h : ∀ d e v, f d = some e → Rep K O H d v → Rep K O2 H e v) : ∀ {ds es : List (Str × D)} {vs : List (Str × V)}, mapO (sndO f) ds = some es → RepF K O H ds vs → RepF K O2 H es vs
  | [], es, _, e, r => by cases e; exact r
  | (k, d) :: ds, es, _, e, r => by
    obtain ⟨v, r', rfl, h1, h2⟩ := r
    simp only [mapO, sndO] at e
    cases q : f d with
    | none => simp only [q, Option.map] at e; cases e
    | some d' =>
      cases q2 : mapO (sndO f) ds with
      | none => simp only [q, q2, Option.map] at e; cases e
      | some ds' => simp only [q, q2, Option.map] at e; cases e; exact ⟨v, r', rfl, h _ _ _ q h1, frz_F h q2 h2⟩
theorem omap {α β : Type} {x : Option α} {f : α → β} {b : β} (h : x.map f = some b) : ∃ a, x = some a ∧ b = f a := by
  cases x with
  | none => cases h
  | some a => cases h; exact ⟨a, rfl, rfl⟩
/-- O2: owned by nobody inside -/
theorem frz_rep (w : WF K O H S) (hl : ∀ a ∈ O.l, O2.no a) (hc : ∀ a, O.no a → H a ≠ none → O2.no a) : ∀ (n : Nat) (d e : D) (v : V), frz S n d = some e → Rep K O H d v → Rep K O2 H e v
  | 0, _, _, _, h, _ => by cases h
  | n + 1, d, e, v, h, r => by
    have ih := frz_rep w hl hc n
    have nn : ∀ {a : Addr} {o : HO}, O.no a → H a = some o → O2.no a := fun m h => hc _ m (by rw [h]; exact fun z => nomatch z)
    have nr : ∀ {a : Addr} {o : HO}, O.no a → Rd H a o → O2.no a := fun m h => by
      rcases h with h | ⟨_, h⟩
      · exact nn m h
      · exact nn m h
    cases d with
    | non => cases h; exact r
    | bl b => cases h; exact r
    | int i => cases h; exact r
    | str x => cases h; exact r
    | ty x => cases h; exact r
    | glo x => cases h; exact r
    | tup ds =>
      obtain ⟨es, q, rfl⟩ := omap (show (mapO (frz S n) ds).map D.tup = some e from h)
      obtain ⟨a, xs, rfl, h1, h2⟩ := r
      exact ⟨a, xs, rfl, h1, frz_list ih q h2⟩
    | lst ds =>
      obtain ⟨es, q, rfl⟩ := omap (show (mapO (frz S n) ds).map D.lst = some e from h)
      obtain ⟨a, xs, rfl, m, h1, h2⟩ := r
      exact ⟨a, xs, rfl, nn m h1, h1, frz_list ih q h2⟩
    | scr ds => cases h
    | dK ds =>
      obtain ⟨es, q, rfl⟩ := omap (show (mapO (sndO (frz S n)) ds).map D.dK = some e from h)
      obtain ⟨a, xs, rfl, m, h1, h2⟩ := r
      exact ⟨a, xs, rfl, nr m h1, h1, frz_K ih q h2⟩
    | dT ds =>
      obtain ⟨es, q, rfl⟩ := omap (show (mapO (sndO (frz S n)) ds).map D.dT = some e from h)
      obtain ⟨a, xs, rfl, m, h1, h2⟩ := r
      exact ⟨a, xs, rfl, nr m h1, h1, frz_T ih q h2⟩
    | obj c ds =>
      obtain ⟨es, q, rfl⟩ := omap (show (mapO (sndO (frz S n)) ds).map (D.obj c) = some e from h)
      obtain ⟨a, dx, xs, rfl, m, h1, h2⟩ := r
      exact ⟨a, dx, xs, rfl, nn m h1, h1, frz_F ih q h2⟩
    | exo c ds =>
      obtain ⟨es, q, rfl⟩ := omap (show (mapO (sndO (frz S n)) ds).map (D.exo c) = some e from h)
      obtain ⟨a, dd, xs, rfl, m, h1, m2, h2, h3⟩ := r
      exact ⟨a, dd, xs, rfl, nn m h1, h1, nn m2 h2, h2, frz_F ih q h3⟩
    | xcp a b c => cases h
    | own k =>
      obtain ⟨a, ha, rfl⟩ := r
      have hm := List.mem_of_getElem? ha
      simp only [frz] at h
      cases q : S[k]? with
      | none => simp only [q] at h; cases h
      | some d0 =>
        have c := w.cell k a d0 ha q
        simp only [q] at h
        cases d0 <;> try (cases h)
        case lst ds =>
          obtain ⟨es, q2, rfl⟩ := omap h
          obtain ⟨xs, h1, h2⟩ := c
          exact ⟨a, xs, rfl, hl a hm, h1, frz_list ih q2 h2⟩
        case dK ds =>
          obtain ⟨es, q2, rfl⟩ := omap h
          obtain ⟨xs, h1, h2⟩ := c
          exact ⟨a, xs, rfl, hl a hm, .inl h1, frz_K ih q2 h2⟩
        case dT ds =>
          obtain ⟨es, q2, rfl⟩ := omap h
          obtain ⟨xs, h1, h2⟩ := c
          exact ⟨a, xs, rfl, hl a hm, .inl h1, frz_T ih q2 h2⟩
        case obj cn ds =>
          obtain ⟨es, q2, rfl⟩ := omap h
          obtain ⟨dx, xs, h1, h2⟩ := c
          exact ⟨a, dx, xs, rfl, hl a hm, h1, frz_F ih q2 h2⟩
end

/-! ### a def whose store is its own -/
/-- the arguments; were there owned lists among them -/
def frzA (S : Sto) : List D → Option (List D × Bool)
  | [] => some ([], false)
  | d :: ds => match frzA S ds with
    | none => none
    | some (es, b) => if nown d = true then some (d :: es, b) else (match d with
      | .own k => (match S[k]? with
        | some (.lst xs) => if nowns xs = true then some (.lst xs :: es, true) else none
        | _ => none)
      | _ => none)
def outD (b : Bool) (S' : Sto) (d : D) : Option D := (if nown d = true then some d else frz S' 50 d).bind fun e => if nown e = true ∧ (b = true → nolst e = true) then some e else none
def outF (b : Bool) (S' : Sto) : List (Str × D) → Option (List (Str × D)) := mapO (sndO (outD b S'))
def pureF (F : FD) : FD := fun ds S => match frzA S ds with
  | none => .bad
  | some (es, b) => (match F es [] with
    | .ok d S' => (match outD b S' d with
      | some e => .ok e S
      | none => .bad)
    | .exc x S' => (match outF b S' x.fs with
      | some fs => .exc ⟨x.c, fs⟩ S
      | none => .bad)
    | .bad => .bad)
/-- the addresses of the owned lists that are handed in -/
def own0 (O : Ow) (P : List Addr) : Ow := ⟨[], (O.l ++ O.u).filter fun a => decide (a ∉ P)⟩
section
variable {K : PySem.W.Frag} {O : Ow} {H : Hp} {S : Sto}
theorem own0_no {P : List Addr} {a : Addr} (h : O.no a) : (own0 O P).no a := ⟨by simp [own0], fun z => by
  have := (List.mem_filter.mp z).1
  rcases List.mem_append.mp this with z | z
  · exact h.1 z
  · exact h.2 z⟩
theorem own0_in {P : List Addr} {a : Addr} (h : a ∈ P) : (own0 O P).no a := ⟨by simp [own0], fun z => by
  have := (List.mem_filter.mp z).2
  simp at this
  exact this h⟩
theorem cap_in {P : List Addr} : Cap false O (own0 O P) H := fun a o n _ _ => own0_no n
theorem rep_in {P : List Addr} {d : D} {v : V} (h : nown d = true) (r : Rep K O H d v) : Rep K (own0 O P) H d v := r.cap cap_in (fun _ _ _ n _ => own0_no n) h (fun e => nomatch e)
theorem reps_in {P : List Addr} {d : List D} {v : List V} (h : nowns d = true) (r : Reps K O H d v) : Reps K (own0 O P) H d v := r.cap cap_in (fun _ _ _ n _ => own0_no n) h (fun e => nomatch e)
theorem frzA_rep (w : WF K O H S) : ∀ {ds es : List D} {b : Bool} {vs : List V}, frzA S ds = some (es, b) → Reps K O H ds vs → ∃ P : List Addr, (b = false → P = []) ∧ (∀ p ∈ P, p ∈ O.l ∧ ∃ xs, H p = some (.lst xs)) ∧ ∀ P', (∀ p ∈ P, p ∈ P') → Reps K (own0 O P') H es vs
  | [], _, _, _, h, r => by cases h; exact ⟨[], fun _ => rfl, fun _ h => (nomatch h), fun _ _ => r⟩
  | d :: ds, es, b, vs, h, r => by
    obtain ⟨v, vr, rfl, r1, r2⟩ := r
    simp only [frzA] at h
    cases q : frzA S ds with
    | none => simp only [q] at h; cases h
    | some p =>
      obtain ⟨es', b'⟩ := p
      obtain ⟨P, h1, h2, h3⟩ := frzA_rep w q r2
      simp only [q] at h
      by_cases hn : nown d = true
      · rw [if_pos hn] at h
        cases h
        exact ⟨P, h1, h2, fun P' hp => ⟨v, vr, rfl, rep_in hn r1, h3 P' hp⟩⟩
      · rw [if_neg hn] at h
        cases d <;> try (cases h)
        rename_i k
        obtain ⟨a, ha, rfl⟩ := r1
        simp only at h
        cases q2 : S[k]? with
        | none => simp only [q2] at h; cases h
        | some d0 =>
          have c := w.cell k a d0 ha q2
          simp only [q2] at h
          cases d0 <;> try (cases h)
          rename_i xs
          simp only at h
          by_cases hx : nowns xs = true
          · rw [if_pos hx] at h
            cases h
            obtain ⟨ys, e1, e2⟩ := c
            refine ⟨a :: P, fun e => (nomatch e), fun p hp => ?_, fun P' hp => ⟨.ref a, vr, rfl, ⟨a, ys, rfl, own0_in (hp a List.mem_cons_self), e1, reps_in hx e2⟩, h3 P' fun p z => hp p (List.mem_cons_of_mem _ z)⟩⟩
            rcases List.mem_cons.mp hp with rfl | hp
            · exact ⟨List.mem_of_getElem? ha, ys, e1⟩
            · exact h2 p hp
          · rw [if_neg hx] at h; cases h
theorem own0_wf (w : WF K O H S) (P : List Addr) : WF K (own0 O P) H [] := by
  refine ⟨.nil, rfl, fun k a d h => by simp [own0] at h, fun a ha => ⟨by simp [own0], ?_⟩⟩
  have hm := (List.mem_filter.mp ha).1
  rcases List.mem_append.mp hm with z | z
  · obtain ⟨k, hk⟩ := List.mem_iff_getElem?.mp z
    have hl : k < S.length := by rw [w.len]; exact (List.getElem?_eq_some_iff.mp hk).1
    have c := w.cell k a S[k] hk (by simp [hl])
    cases q : S[k] <;> rw [q] at c <;> simp only [Cell] at c
    all_goals first
      | exact c.elim
      | (obtain ⟨xs, c, _⟩ := c; exact ⟨_, c, (fun _ z => by cases z), (fun _ _ z => by cases z), (fun _ z => by cases z)⟩)
      | (obtain ⟨dx, xs, c, _⟩ := c; exact ⟨_, c, (fun _ z => by cases z), (fun _ _ z => by cases z), (fun _ z => by cases z)⟩)
  · exact (w.hid a z).2
/-- behind: what stood stands -/
theorem own0_ext {P : List Addr} {O' : Ow} {H' : Hp} (e : Ext (own0 O P) H O' H') : Ext O H O H' :=
  ⟨⟨[], by simp, fun _ h => by cases h⟩, ⟨[], by simp, fun _ h => by cases h⟩, fun a o _ h => e.keep a o (by simp [own0]) h, e.tups, e.there⟩
theorem own0_back (w : WF K O H S) {P : List Addr} {O' : Ow} {H' : Hp} (e : Ext (own0 O P) H O' H') : WF K O H' S := by
  have x := (own0_ext e).w w
  refine ⟨w.nd, w.len, fun k a d h1 h2 => (w.cell k a d h1 h2).mono x ?_, fun a ha => ?_⟩
  · cases q : H a with
    | none => exact absurd q (w.there a (.inl (List.mem_of_getElem? h1)))
    | some o => exact e.keep a o (by simp [own0]) q
  · obtain ⟨n, o, h, s⟩ := w.hid a ha
    exact ⟨n, o, e.keep a o (by simp [own0]) h, s⟩
theorem own0_cap (w : WF K O H S) {P : List Addr} (hP : ∀ p ∈ P, p ∈ O.l ∧ ∃ xs, H p = some (.lst xs)) {b : Bool} (hb : b = false → P = []) {O' : Ow} {H' : Hp} (e : Ext (own0 O P) H O' H') : Cap b O' O H' := by
  intro a o n h hf
  obtain ⟨m, q, _⟩ := e.preu
  have nu : a ∉ (own0 O P).u := fun z => n.2 (by rw [q]; exact List.mem_append_right _ z)
  by_cases hp : a ∈ P
  · cases b with
    | false => rw [hb rfl] at hp; cases hp
    | true =>
      obtain ⟨_, xs, hx⟩ := hP a hp
      rw [e.keep a _ (by simp [own0]) hx] at h
      exact absurd (Option.some.inj h).symm (hf rfl xs)
  · have : a ∉ O.l ++ O.u := fun z => nu (List.mem_filter.mpr ⟨z, by simpa using hp⟩)
    exact ⟨fun z => this (List.mem_append_left _ z), fun z => this (List.mem_append_right _ z)⟩
theorem own0_frz (w : WF K O H S) {P : List Addr} (hP : ∀ p ∈ P, p ∈ O.l ∧ ∃ xs, H p = some (.lst xs)) {O' : Ow} {H' : Hp} (e : Ext (own0 O P) H O' H') : ∀ a o xs, O'.no a → H' a = some (.frz o (.lst xs)) → O.no a := by
  intro a o xs n h
  obtain ⟨m, q, _⟩ := e.preu
  have nu : a ∉ (own0 O P).u := fun z => n.2 (by rw [q]; exact List.mem_append_right _ z)
  have wb := own0_back w e
  exact ⟨fun z => wb.nofrz a (.inl z) _ _ h, fun z => wb.nofrz a (.inr z) _ _ h⟩
theorem out_rep (w : WF K O H S) {P : List Addr} (hP : ∀ p ∈ P, p ∈ O.l ∧ ∃ xs, H p = some (.lst xs)) {b : Bool} (hb : b = false → P = []) {O' : Ow} {H' : Hp} (e : Ext (own0 O P) H O' H') {S' : Sto} (w' : WF K O' H' S') {d d' : D} {v : V} (h : outD b S' d = some d') (r : Rep K O' H' d v) : Rep K O H' d' v := by
  unfold outD at h
  have key : ∀ {x : D}, nown x = true ∧ (b = true → nolst x = true) → Rep K ⟨[], O'.u⟩ H' x v → Rep K O H' x v := fun {x} hx rx => by
    refine rx.cap (fl := b) (fun a o n ho hf => ?_) (fun a o xs n ho => ?_) hx.1 hx.2
    · by_cases hm : a ∈ O'.l
      · obtain ⟨m, q, hm2⟩ := e.pre
        have : a ∈ m := by rw [q] at hm; simpa [own0] using hm
        have hn := hm2 a this
        exact ⟨fun z => w.there a (.inl z) hn, fun z => w.there a (.inr z) hn⟩
      · exact own0_cap w hP hb e a o ⟨hm, n.2⟩ ho hf
    · by_cases hm : a ∈ O'.l
      · exact absurd ho (w'.nofrz a (.inl hm) _ _)
      · exact own0_frz w hP e a o xs ⟨hm, n.2⟩ ho
  by_cases hn : nown d = true
  · rw [if_pos hn] at h
    simp only [Option.bind_some] at h
    split at h
    · rename_i hx
      cases h
      have cc : Cap false O' ⟨[], O'.u⟩ H' := fun a o n _ _ => ⟨by simp, n.2⟩
      exact key hx (Rep.cap cc (fun a o xs n _ => ⟨by simp, n.2⟩) hn (fun z => nomatch z) r)
    · cases h
  · rw [if_neg hn] at h
    cases q : frz S' 50 d with
    | none => rw [q] at h; cases h
    | some x =>
      rw [q] at h
      simp only [Option.bind_some] at h
      split at h
      · rename_i hx
        cases h
        exact key hx (frz_rep w' (O2 := ⟨[], O'.u⟩) (fun a ha => ⟨by simp, fun z => (w'.hid a z).1 ha⟩) (fun a n _ => ⟨by simp, n.2⟩) 50 d _ v q r)
      · cases h
theorem out_repF (w : WF K O H S) {P : List Addr} (hP : ∀ p ∈ P, p ∈ O.l ∧ ∃ xs, H p = some (.lst xs)) {b : Bool} (hb : b = false → P = []) {O' : Ow} {H' : Hp} (e : Ext (own0 O P) H O' H') {S' : Sto} (w' : WF K O' H' S') :
    ∀ {fs gs : List (Str × D)} {vs : List (Str × V)}, outF b S' fs = some gs → RepF K O' H' fs vs → RepF K O H' gs vs :=
  fun h r => frz_F (fun _ _ _ q rr => out_rep w hP hb e w' q rr) h r
end
theorem sp_pure {K : PySem.W.Frag} {n : Nat} {F : FD} {vs : List V} {H : Hp} {Q : VK} {E : XK} (h : spD K n (pureF F) vs H Q E) : spD K n F vs H Q E := by
  obtain ⟨O, S, ds, w, r, hl, h⟩ := h
  unfold pureF at h
  cases q : frzA S ds with
  | none => rw [q] at h; exact h.elim
  | some p =>
    obtain ⟨es, b⟩ := p
    obtain ⟨P, hb, hP, hr⟩ := frzA_rep w q r
    have r2 := hr P fun _ z => z
    rw [q] at h
    simp only at h
    refine ⟨own0 O P, [], es, own0_wf w P, r2, by rw [r2.length, ← r.length]; exact hl, ?_⟩
    cases qF : F es [] with
    | bad => rw [qF] at h; exact h.elim
    | ok d S' =>
      rw [qF] at h
      simp only at h
      intro O' H' v e w' rv
      cases qo : outD b S' d with
      | none => rw [qo] at h; exact h.elim
      | some d' =>
        rw [qo] at h
        exact h O H' v (own0_ext e) (own0_back w e) (out_rep w hP hb e w' qo rv)
    | exc x S' =>
      rw [qF] at h
      simp only at h
      intro O' H' cls dx e w' rx
      cases qo : outF b S' x.fs with
      | none => rw [qo] at h; exact h.elim
      | some fs =>
        rw [qo] at h
        obtain ⟨rc, a, us, e1, e2, e3⟩ := rx
        exact h O H' cls dx (own0_ext e) (own0_back w e) ⟨rc, a, us, e1, e2, out_repF w hP hb e w' qo e3⟩
theorem FnGd.pure {P : Program} {w : World} {K : PySem.W.Frag} {mg : Str → Option Value} {base : Heap} {k n : Nat} {f : Addr} {fd : FuncData} {ps : List Str} {F : FD} (G : FnGd P w K mg base k f fd ps (spD K n F)) : FnGd P w K mg base k f fd ps (spD K n (pureF F)) :=
  ⟨fun vs H Q E h => G.len vs H Q E (sp_pure h), fun A outer s H args us vs Q E hr gd e0 b r h => G.run A outer s H args us vs Q E hr gd e0 b r (sp_pure h)⟩
theorem FnG.pure {P : Program} {w : World} {K : PySem.W.Frag} {mg : Str → Option Value} {base : Heap} {k n : Nat} {x : Str} {F : FD} (G : FnG P w K mg base k x n F) : FnG P w K mg base k x n (pureF F) := by
  obtain ⟨⟨fd, ps, h1, h2⟩, gl, kp⟩ := G
  exact ⟨⟨fd, ps, h1.pure, h2⟩, gl, kp⟩
end DE

set_option maxHeartbeats 4000000
namespace DE
open PySem PySem.Spec PyProof.Rows L2
/-! ### instances -/
def objAt (S : Sto) : D → Option (Str × List (Str × D))
  | .obj c fs => some (c, fs)
  | .own k => (match S[k]? with
    | some (.obj c fs) => some (c, fs)
    | _ => none)
  | _ => none
theorem objAt_rep {K : PySem.W.Frag} {O : Ow} {H : Hp} {ρ : DE.Env} {σ : L2.St} {S : Sto} {d : D} {v : V} {c : Str} {fs : List (Str × D)} (st : Stt K O H ρ σ S) (h : objAt S d = some (c, fs)) (r : Rep K O H d v) :
    ∃ a dx vs, v = .ref a ∧ H a = some (.ins (He.ga K c) dx vs) ∧ RepF K O H fs vs := by
  cases d <;> try (cases h)
  · obtain ⟨a, dx, vs, rfl, _, h1, h2⟩ := r
    exact ⟨a, dx, vs, rfl, h1, h2⟩
  · rename_i k
    obtain ⟨a, ha, rfl⟩ := r
    simp only [objAt] at h
    cases q : S[k]? with
    | none => simp only [q] at h; cases h
    | some d0 =>
      have c0 := st.wf.cell k a d0 ha q
      simp only [q] at h
      cases d0 <;> try (cases h)
      obtain ⟨dx, vs, h1, h2⟩ := c0
      exact ⟨a, dx, vs, rfl, h1, h2⟩
theorem repF_none {K : PySem.W.Frag} {O : Ow} {H : Hp} {f : Str} : ∀ {fs : List (Str × D)} {vs : List (Str × V)}, RepF K O H fs vs → fs.lookup f = none → vs.lookup f = none
  | [], _, r, _ => by cases r; rfl
  | (k, d0) :: fs, _, h, e => by
    obtain ⟨v, vr, rfl, h1, h2⟩ := h
    rw [List.lookup_cons] at e ⊢
    cases q : f == k with
    | true => rw [q] at e; cases e
    | false => rw [q] at e; exact repF_none h2 e
section
variable {X : Cx} {W : WX} {x m f : Str} {p pos apos : Pos} {e o : Expr} {es : List Expr} {j k n : Nat} {fo : ME} {fa : MA} {F : FD}
/-! fields read -/
/-- cs: the classes that may stand there -/
def dFld (f : Str) (cs : List Str) (g : ME) : ME := fun ρ S => (g ρ S).bind fun d S1 => match objAt S1 d with
  | some (c, fs) => if c ∈ cs then (match fs.lookup f with
    | some d => .ok d S1
    | none => .bad) else .bad
  | none => .bad
theorem de_fld {cs : List Str} (ho : DE X W o fo) (hc : ∀ c ∈ cs, Cls X.K (He.ga X.K c) ∧ NoAttr X.K (He.ga X.K c) f) (hb : attributeBase o f X.env (eval o X.env) = eval o X.env := by rfl) : DE X W (.Attribute o f pos) (dFld f cs fo) :=
  ⟨PE.imp (pe_fld ho.pe hb) fun σ H Q ⟨O, ρ, S, st, h⟩ => ⟨O, ρ, S, st, After.seq h fun d S1 O1 H1 v e1 st1 r1 h1 => by
    cases q : objAt S1 d with
    | none => simp only [q] at h1; exact h1.elim
    | some z =>
      obtain ⟨c, fs⟩ := z
      simp only [q] at h1
      by_cases hm : c ∈ cs
      · rw [if_pos hm] at h1
        obtain ⟨a, dx, vs, rfl, ha, rf⟩ := objAt_rep st1 q r1
        cases q2 : fs.lookup f with
        | none => simp only [q2] at h1; exact h1.elim
        | some d2 =>
          simp only [q2] at h1
          obtain ⟨u, hu, ru⟩ := repF_lookup rf q2
          exact ⟨a, _, dx, vs, u, rfl, ha, (hc c hm).1, (hc c hm).2, hu, After.ok h1 st1 ru⟩
      · rw [if_neg hm] at h1; exact h1.elim⟩⟩
/-! fields stored -/
def putD (f : Str) (d : D) : List (Str × D) → List (Str × D)
  | [] => [(f, d)]
  | (g, x) :: r => if g = f then (g, d) :: r else (g, x) :: putD f d r
theorem RepF.put {K : PySem.W.Frag} {O : Ow} {H : Hp} {f : Str} {d : D} {v : V} (r : Rep K O H d v) : ∀ {fs : List (Str × D)} {vs : List (Str × V)}, RepF K O H fs vs → RepF K O H (putD f d fs) (putF f v vs)
  | [], _, h => by cases h; exact ⟨v, [], rfl, r, rfl⟩
  | (g, x) :: fs, _, h => by
    obtain ⟨u, vr, rfl, h1, h2⟩ := h
    by_cases c : g = f
    · simp only [putD, putF, if_pos c]; exact ⟨v, vr, rfl, r, h2⟩
    · simp only [putD, putF, if_neg c]; exact ⟨u, _, rfl, h1, RepF.put r h2⟩
theorem RepF.length {K : PySem.W.Frag} {O : Ow} {H : Hp} : ∀ {fs : List (Str × D)} {vs : List (Str × V)}, RepF K O H fs vs → fs.length = vs.length
  | [], _, h => by cases h; rfl
  | (_, _) :: _, _, h => by
    obtain ⟨u, vr, rfl, h1, h2⟩ := h
    simp [RepF.length h2]
/-- o.f = e -/
def sFldO (f : Str) (cs : List Str) (fo fe : ME) : MS := fun ρ S => (fe ρ S).stm ρ fun d S1 => (fo ρ S1).stm ρ fun ob S2 => match ob with
  | .own k => (match S2[k]? with
    | some (.obj c fs) => if c ∈ cs ∧ fs.length < 1000 then .nx ρ (S2.set k (.obj c (putD f d fs))) else .bad
    | _ => .bad)
  | _ => .bad
theorem ds_fldO {ap : Pos} {fe : ME} {cs : List Str} (ho : DE X W o fo) (he : DE X W e fe) (hc : ∀ c ∈ cs, Cls X.K (He.ga X.K c) ∧ NoAttr X.K (He.ga X.K c) f) (hs : swapsWith e (some (.Attribute o f ap)) pos.line X.env = pure false := by rfl) :
    DS X W (.Assign [.Attribute o f ap] e pos) (sFldO f cs fo fe) := by
  refine ⟨PS.imp (ps_fld ho.pe he.pe hs) fun D' σ H ⟨O, ρ, S, st, h⟩ => ⟨O, ρ, S, st, AfterS.seqE h fun d S1 O1 H1 v e1 st1 r1 h1 => ⟨O1, ρ, S1, st1, AfterS.seqE h1 fun ob S2 O2 H2 u e2 st2 r2 h2 => ?_⟩⟩⟩
  cases ob <;> try exact h2.elim
  rename_i k
  simp only at h2
  cases q : S2[k]? with
  | none => simp only [q] at h2; exact h2.elim
  | some d0 =>
    simp only [q] at h2
    cases d0 <;> try exact h2.elim
    rename_i c fs
    simp only at h2
    by_cases hm : c ∈ cs ∧ fs.length < 1000
    · rw [if_pos hm] at h2
      obtain ⟨a, ha, rfl⟩ := r2
      obtain ⟨dx, vs, hx, rf⟩ := st2.wf.cell k a _ ha q
      refine ⟨a, _, dx, vs, rfl, hx, (hc c hm.1).1, (hc c hm.1).2, by rw [← RepF.length rf]; exact hm.2, ?_⟩
      have rd := r1.mono (e2.w st1.wf)
      obtain ⟨e3, st3⟩ := st2.mut (o := .ins (He.ga X.K c) dx (putF f v vs)) (d := .obj c (putD f d fs)) ha fun e => ⟨dx, _, upd_same, RepF.mono (e.w st2.wf) (RepF.put rd rf)⟩
      exact h2 O2 _ σ e3 st3
    · rw [if_neg hm] at h2; exact h2.elim
/-! ### defs at an address, with a promise over data -/
theorem sp_of {σ : L2.St} {H : Hp} {O : Ow} {ρ : DE.Env} {S : Sto} {ds : List D} {vs : List V} {Q : VK} (st : Stt X.K O H ρ σ S) (r : Reps X.K O H ds vs) (hl : ds.length = n) (h : After X.K W (Rep X.K) ρ σ O H Q (F ds S)) : spD X.K n F vs H Q (WE W σ) := by
  refine ⟨O, S, ds, st.wf, r, hl, ?_⟩
  cases q : F ds S with
  | ok d S' => rw [q] at h; exact fun O' H' v e wf r => h O' H' v e ⟨wf, st.env.mono (e.w st.wf)⟩ r
  | exc y S' => rw [q] at h; exact fun O' H' cls dx e wf r => h O' H' cls dx e ⟨wf, st.env.mono (e.w st.wf)⟩ r
  | bad => rw [q] at h; exact h
structure FnA (P : Program) (w : World) (K : PySem.W.Frag) (mg : Str → Option Value) (base : Heap) (k : Nat) (f : Addr) (n : Nat) (F : FD) : Prop where
  ok : ∃ fd ps, FnGd P w K mg base k f fd ps (spD K n F) ∧ Binds K fd ps []
theorem FnA.mono {P : Program} {w : World} {K : PySem.W.Frag} {mg : Str → Option Value} {base : Heap} {a : Addr} (G : FnA P w K mg base k a n F) (h : k ≤ j) : FnA P w K mg base j a n F := by
  obtain ⟨fd, ps, g, b⟩ := G.ok
  exact ⟨fd, ps, ⟨g.len, fun A outer s H args us vs Q E hr => g.run A outer s H args us vs Q E (hr.mono h)⟩, b⟩
theorem FnA.pure {P : Program} {w : World} {K : PySem.W.Frag} {mg : Str → Option Value} {base : Heap} {a : Addr} (G : FnA P w K mg base k a n F) : FnA P w K mg base k a n (pureF F) := by
  obtain ⟨fd, ps, g, b⟩ := G.ok
  exact ⟨fd, ps, g.pure, b⟩
/-- a method of a class of the program -/
structure MethA (P : Program) (w : World) (K : PySem.W.Frag) (mg : Str → Option Value) (base : Heap) (k : Nat) (c m : Str) (n : Nat) (F : FD) : Prop where
  fn : FnA P w K mg base k (He.ma K (He.ga K c) m) n F
  me : Meth K (He.ga K c) m (He.ma K (He.ga K c) m)
  cl : Cls K (He.ga K c)
/-- o.m(e, ..): tb tells by the class which def -/
def dMeth (m : Str) (n : Nat) (tb : List (Str × FD)) (fo : ME) (fa : MA) : ME := fun ρ S => (fo ρ S).bind fun d S1 => match objAt S1 d with
  | some (c, fs) => (match fs.lookup m, tb.lookup c with
    | none, some F => (fa ρ S1).bind fun ds S2 => if ds.length + 1 = n then F (d :: ds) S2 else .bad
    | _, _ => .bad)
  | none => .bad
/-- what stands behind the receiver -/
def rMeth (X : Cx) (W : WX) (m : Str) (n : Nat) (tb : List (Str × FD)) (fa : MA) (σ : L2.St) (Q : VK) : V → Hp → Prop := fun x H1 => ∃ c F a dx vs, x = .ref a ∧ H1 a = some (.ins (He.ga X.K c) dx vs) ∧ vs.lookup m = none ∧ tb.lookup c = some F ∧
  tA X.K W fa σ H1 fun us H2 => spD X.K n F (x :: us) H2 Q (WE W σ)
theorem meth_imp {tb : List (Str × FD)} {σ : L2.St} {H : Hp} {Q : VK} (h : tE X.K W (dMeth m n tb fo fa) σ H Q) : tE X.K W fo σ H (rMeth X W m n tb fa σ Q) := by
  obtain ⟨O, ρ, S, st, h⟩ := h
  refine ⟨O, ρ, S, st, After.seq h fun d S1 O1 H1 v e1 st1 r1 h1 => ?_⟩
  cases q : objAt S1 d with
  | none => simp only [q] at h1; exact h1.elim
  | some z =>
    obtain ⟨c, fs⟩ := z
    simp only [q] at h1
    cases q1 : fs.lookup m with
    | some y => simp only [q1] at h1; exact h1.elim
    | none =>
      cases q2 : tb.lookup c with
      | none => simp only [q1, q2] at h1; exact h1.elim
      | some F =>
        simp only [q1, q2] at h1
        obtain ⟨a, dx, vs, rfl, ha, rf⟩ := objAt_rep st1 q r1
        refine ⟨c, F, a, dx, vs, rfl, ha, repF_none rf q1, q2, O1, ρ, S1, st1, After.seq h1 fun ds S2 O2 H2 us e2 st2 r2 h2 => ?_⟩
        by_cases hl : ds.length + 1 = n
        · rw [if_pos hl] at h2
          exact sp_of (ds := d :: ds) st2 ⟨_, _, rfl, r1.mono (e2.w st1.wf), r2⟩ hl h2
        · rw [if_neg hl] at h2; exact h2.elim
/-- the table's defs keep their promises -/
def MTab (X : Cx) (j : Nat) (m : Str) (n : Nat) (tb : List (Str × FD)) : Prop := ∀ c F, tb.lookup c = some F → MethA X.prog X.w X.K X.mg X.base j c m n F
theorem mt_nil : MTab X j m n [] := fun c F h => by cases h
theorem mt_cons {c : Str} {tb : List (Str × FD)} (G : MethA X.prog X.w X.K X.mg X.base k c m n F) (T : MTab X j m n tb) (h : k ≤ j := by decide) : MTab X j m n ((c, F) :: tb) := fun c' F' e => by
  rw [List.lookup_cons] at e
  cases q : c' == c with
  | true =>
    rw [q] at e
    cases e
    rw [eq_of_beq q]
    exact ⟨G.fn.mono h, G.me, G.cl⟩
  | false => rw [q] at e; exact T c' F' e
theorem de_meth {pl : Sem Bool} {tb : List (Str × FD)} (ho : DE X W o fo) (T : MTab X j m n tb) (hr : Room j X.A) (gd : X.A.guards = some []) (tk : Takes X W) (ha : DA X W (e :: es) fa)
    (hst : starEach (e :: es) X.env = (false, eval e X.env) :: starEach es X.env := by rfl) (hpl : (backTo pos (starEach es X.env)).any (·.1) = false := by rfl)
    (ht : eval (.Call (.Attribute o m apos) (e :: es) [] pos) X.env = (do
      let ov ← eval o X.env
      standAt apos.atName
      let (f, first) ← holding [ov] (getMethod ov m pl)
      callWith pos f first (backTo pos (starEach (e :: es) X.env)) (backToKw pos (keywordEach [] X.env))) := by rfl) :
    DE X W (.Call (.Attribute o m apos) (e :: es) [] pos) (dMeth m n tb fo fa) := by
  refine ⟨⟨fun pins s σ H Q I h => ?_⟩⟩
  refine PySem.W.methodCall_KW (pl := pl) (thn (ho.pe.run pins s σ H _ I (meth_imp h)) fun u s1 ⟨x, H1, I1, rx, c, F, a, dx, fs, ex, ea, l, ec, q⟩ => ?_) ht
  subst ex
  obtain rfl : u = Value.ref a := rx
  obtain ⟨fn, me, cl⟩ := T c F ec
  obtain ⟨fd, ps, g, b⟩ := fn.ok
  refine getmeth_ok I1 ea cl me l ?_
  refine PySem.W.callWith_K (first := [.ref a]) (h₀ := X.base) I.ok.mod.kin me.kp (thn (ha.pa.run pos pins s1 σ H1 _ I1 q) fun us s2 ⟨vs, H2, I2, r, q2⟩ => ⟨I2.kIn, ?_⟩) hst hpl
  exact run_G (us := Value.ref a :: us) (vs := V.ref a :: vs) g hr gd b (passAt tk σ) I2 (.cons rfl r) q2
theorem de_meth0 {pl : Sem Bool} {tb : List (Str × FD)} (ho : DE X W o fo) (T : MTab X j m n tb) (hr : Room j X.A) (gd : X.A.guards = some []) (tk : Takes X W)
    (ht : eval (.Call (.Attribute o m apos) [] [] pos) X.env = (do
      let ov ← eval o X.env
      standAt apos.atName
      let (f, first) ← holding [ov] (getMethod ov m pl)
      callWith pos f first (backTo pos (starEach [] X.env)) (backToKw pos (keywordEach [] X.env))) := by rfl) :
    DE X W (.Call (.Attribute o m apos) [] [] pos) (dMeth m n tb fo aNil) := by
  refine ⟨⟨fun pins s σ H Q I h => ?_⟩⟩
  refine PySem.W.methodCall_KW (pl := pl) (thn (ho.pe.run pins s σ H _ I (meth_imp h)) fun u s1 ⟨x, H1, I1, rx, c, F, a, dx, fs, ex, ea, l, ec, O, ρ, S, st, q⟩ => ?_) ht
  subst ex
  obtain rfl : u = Value.ref a := rx
  obtain ⟨fn, me, cl⟩ := T c F ec
  obtain ⟨fd, ps, g, b⟩ := fn.ok
  refine getmeth_ok I1 ea cl me l ?_
  have q2 := After.ok (d := ([] : List D)) (v := ([] : List V)) q st rfl
  exact PySem.W.callWith_K0 (first := [.ref a]) I1.kIn me.kp (run_G (us := [Value.ref a]) (vs := [V.ref a]) g hr gd b (passAt tk σ) I1 (.cons rfl .nil) q2)
end
end DE

set_option maxHeartbeats 4000000
namespace DE
open PySem PySem.Spec PyProof.Rows L2
/-! ### what may be called: a def, a class -/
/-- how a call binds, over data -/
structure KBD (K : PySem.W.Frag) (fd : FuncData) (ps : List Str) (n : Nat) (ks : List Str) (g : List D → List D → List D) : Prop where
  kb : ∃ gv gV, KBn K fd ps n ks gv gV ∧ ∀ (O : Ow) (H : Hp) ds vs es zs, Reps K O H ds vs → Reps K O H es zs → Reps K O H (g ds es) (gV vs zs)
theorem KBD.of_binds {K : PySem.W.Frag} {fd : FuncData} {ps : List Str} (b : Binds K fd ps []) : KBD K fd ps ps.length [] fun ds es => ds ++ es :=
  ⟨fun us ws => us ++ ws, fun vs zs => vs ++ zs, ⟨fun s us ws X l1 l2 => by
    have : ws = [] := List.length_eq_zero_iff.mp l2
    subst this
    have e := b s us X (by simpa using l1)
    simpa using e, fun a b => a.append b⟩, fun O H ds vs es zs r1 r2 => r1.append r2⟩
/-- the callee at f, with n values and the keywords ks, keeps F (of the values, then the keywords' values) -/
def CalleeX (X : Cx) (k : Nat) (f : Addr) (n : Nat) (ks : List Str) (F : FD) : Prop :=
  ∀ (pins : List (Addr × Obj)) (σ : L2.St) (H : Hp) (s : Shared) (Q : VK) (E : L2.St → XK) (us ws : List Value) (vs zs : List V), Room k X.A → X.A.guards = some [] → PassesAt (L2.CX X.prog X.w) X σ (E σ) → Inv X pins σ H s → Vals vs us → Vals zs ws →
    us.length = n → ws.length = ks.length → spD X.K (n + ks.length) F (vs ++ zs) H Q (E σ) → wpAny (model X.prog X.w) X.A (call (.ref f) us (ks.zip ws)) (EP X pins σ Q) X.xe s
theorem CalleeX.pure {X : Cx} {k n : Nat} {f : Addr} {ks : List Str} {F : FD} (C : CalleeX X k f n ks F) : CalleeX X k f n ks (pureF F) :=
  fun pins σ H s Q E us ws vs zs hr gd px I r rz l1 l2 h => C pins σ H s Q E us ws vs zs hr gd px I r rz l1 l2 (sp_pure h)
theorem CalleeX.mono {X : Cx} {j k n : Nat} {f : Addr} {ks : List Str} {F : FD} (C : CalleeX X j f n ks F) (h : j ≤ k) : CalleeX X k f n ks F :=
  fun pins σ H s Q E us ws vs zs hr gd px I r rz l1 l2 q => C pins σ H s Q E us ws vs zs (hr.mono h) gd px I r rz l1 l2 q
/-- the parameters, from what is written -/
def bindF (n N : Nat) (g : List D → List D → List D) (F : FD) : FD := fun as S => if (g (as.take n) (as.drop n)).length = N then F (g (as.take n) (as.drop n)) S else .bad
theorem reps_split {K : PySem.W.Frag} {O : Ow} {H : Hp} {vs zs : List V} {as : List D} {n : Nat} (r : Reps K O H as (vs ++ zs)) (hl : vs.length = n) : Reps K O H (as.take n) vs ∧ Reps K O H (as.drop n) zs := by
  have a := r.take n
  have b := r.drop n
  rw [← hl, List.take_left] at a
  rw [← hl, List.drop_left] at b
  rw [← hl]
  exact ⟨a, b⟩
theorem callee_fn {X : Cx} {k n N : Nat} {f : Addr} {fd : FuncData} {ps ks : List Str} {F : FD} {g : List D → List D → List D} (G : FnGd X.prog X.w X.K X.mg X.base k f fd ps (spD X.K N F)) (B : KBD X.K fd ps n ks g) : CalleeX X k f n ks (bindF n N g F) := by
  intro pins σ H s Q E us ws vs zs hr gd px I r rz l1 l2 ⟨O, S, as, wf, ra, hl, h⟩
  obtain ⟨gv, gV, kb, hg⟩ := B.kb
  obtain ⟨r1, r2⟩ := reps_split ra (r.length.trans l1)
  have rg := hg O H _ _ _ _ r1 r2
  unfold bindF at h
  by_cases hN : (g (as.take n) (as.drop n)).length = N
  · rw [if_pos hN] at h
    refine wpAny_call (codeAny_mono (G.run X.A X.stack s H ⟨us, ks.zip ws⟩ (gv us ws) (gV vs zs) Q (E σ) hr gd I.env0 (kb.to s us ws I.kIn l1 l2) (kb.rel r rz) ⟨O, S, _, wf, rg, hN, h⟩) ?_)
    rintro (er | fl) s' z
    · exact px pins H s er s' I z
    · rcases fl with _ | _ | _ | u
      all_goals first
        | exact I.after z
        | exact z.elim
  · rw [if_neg hN] at h; exact h.elim
/-- a new instance of c -/
def makeF (c : Str) (F : FD) : FD := fun as S => match F (.own S.length :: as) (S ++ [.obj c []]) with
  | .ok .non S' => .ok (.own S.length) S'
  | .exc x S' => .exc x S'
  | _ => .bad
theorem callee_mk {X : Cx} {k n N : Nat} {c : Str} {fI : Addr} {fd : FuncData} {ps ks : List Str} {F : FD} {g : List D → List D → List D} (M : Mk X.K (He.ga X.K c) fI) (G : FnGd X.prog X.w X.K X.mg X.base k fI fd ps (spD X.K N F)) (B : KBD X.K fd ps (n + 1) ks g) :
    CalleeX X (k + 1) (He.ga X.K c) n ks (makeF c (bindF (n + 1) N g F)) := by
  intro pins σ H s Q E us ws vs zs hr gd px I r rz l1 l2 ⟨O, S, as, wf, ra, hl, h⟩
  obtain ⟨gv, gV, kb, hg⟩ := B.kb
  generalize hC : He.ga X.K c = C at *
  generalize ha : s.heap.objs.size = z at *
  have n1 : H (z + 1) = none := I.hok.fresh (by rw [ha]; exact Nat.le_succ _)
  have n0 : H z = none := I.hok.fresh (by rw [ha]; exact Nat.le_refl _)
  have ne : z ≠ z + 1 := Nat.ne_of_lt (Nat.lt_succ_self _)
  have I2 := Inv.made (C := C) I
  rw [ha] at I2
  have e1 : Ext O H O (upd H z (.own (z + 1))) := ext_new n0
  have st0 : Stt X.K O H [] [] S := ⟨wf, .nil⟩
  obtain ⟨e1, st1⟩ := st0.new (o := .own (z + 1)) n0
  have n2 : upd H z (.own (z + 1)) (z + 1) = none := by rw [upd_ne (Ne.symm ne)]; exact n1
  obtain ⟨e2, st2⟩ := st1.newO (o := .ins C z []) (d := .obj c []) n2 fun e => ⟨z, [], by rw [hC]; exact upd_same, rfl⟩
  have e12 := e1.trans e2
  have rs : Rep X.K (O.add (z + 1)) (upd (upd H z (.own (z + 1))) (z + 1) (.ins C z [])) (.own S.length) (.ref (z + 1)) := ⟨z + 1, by rw [wf.len]; exact getElem?_snoc _ _, rfl⟩
  have ra2 : Reps X.K (O.add (z + 1)) (upd (upd H z (.own (z + 1))) (z + 1) (.ins C z [])) (.own S.length :: as) (V.ref (z + 1) :: (vs ++ zs)) := ⟨_, _, rfl, rs, ra.mono (e12.w wf)⟩
  obtain ⟨r1, r2⟩ := reps_split (n := n + 1) (vs := V.ref (z + 1) :: vs) ra2 (congrArg Nat.succ (r.length.trans l1))
  have rg := hg _ _ _ _ _ _ r1 r2
  unfold makeF bindF at h
  by_cases hN : (g ((D.own S.length :: as).take (n + 1)) ((D.own S.length :: as).drop (n + 1))).length = N
  · rw [if_pos hN] at h
    have rv : Vals (V.ref (z + 1) :: vs) (Value.ref (z + 1) :: us) := .cons rfl r
    have q : spD X.K N F (gV (V.ref (z + 1) :: vs) zs) (upd (upd H z (.own (z + 1))) (z + 1) (.ins C z [])) (fun v H2 => v = .non ∧ Q (.ref (z + 1)) H2) (E σ) := by
      refine ⟨_, _, _, st2.wf, rg, hN, ?_⟩
      cases qF : F (g ((D.own S.length :: as).take (n + 1)) ((D.own S.length :: as).drop (n + 1))) (S ++ [.obj c []]) with
      | bad => rw [qF] at h; exact h.elim
      | exc x S' =>
        rw [qF] at h
        exact fun O' H' cls dx e w' rx => h O' H' cls dx (e12.trans e) w' rx
      | ok d S' =>
        rw [qF] at h
        cases d <;> try exact h.elim
        intro O' H' v e w' rv
        refine ⟨rv, h O' H' _ (e12.trans e) w' ⟨z + 1, e.at (by rw [wf.len]; exact getElem?_snoc _ _), rfl⟩⟩
    refine wpAny_call (make_map (f := fI) I.kIn M.makes M.init (beq_iff_eq.mp M.fn) ?_)
    rw [ha]
    refine codeAny_mono (G.run _ X.stack _ _ ⟨Value.ref (z + 1) :: us, ks.zip ws⟩ (gv (Value.ref (z + 1) :: us) ws) _ _ (E σ) (hr.make C us (ks.zip ws)) gd
      (I2.env0.make C us (ks.zip ws)) (kb.to _ (Value.ref (z + 1) :: us) ws I2.kIn (congrArg Nat.succ l1) l2) (kb.rel rv rz) q) fun r s' hq' => ?_
    cases r with
    | error e => exact px pins _ _ e s' I2 hq'
    | ok fl =>
      cases fl with
      | ret u =>
        obtain ⟨v, H', I3, rv, ev, q3⟩ := I2.after hq'
        subst ev
        exact ⟨rv, ⟨V.ref (z + 1), H', I3, rfl, q3⟩⟩
      | next => exact False.elim hq'
      | brk => exact False.elim hq'
      | cont => exact False.elim hq'
  · rw [if_neg hN] at h; exact h.elim
/-! ### the calls -/
structure DKw (X : Cx) (W : WX) (kws : List Keyword) (f : MA) : Prop where
  pk : PK X kws (tA X.K W f)
section
variable {X : Cx} {W : WX} {x : Str} {p pos kpos : Pos} {e : Expr} {es : List Expr} {kws : List Keyword} {j k n : Nat} {f : Addr} {ks : List Str} {fe : ME} {fa fk : MA} {F : FD} {nm : Option Str}
theorem dk_nil : DKw X W [] aNil := ⟨⟨fun pos pins s σ H Q I ⟨O, ρ, S, st, h⟩ => pk_nil.run pos pins s σ H Q I (After.ok h st rfl)⟩⟩
theorem dk_cons (ha : DE X W e fe) (hr : DKw X W kws fk) : DKw X W (⟨nm, e, kpos⟩ :: kws) (aCons fe fk) :=
  ⟨⟨fun pos pins s σ H Q I ⟨O, ρ, S, st, h⟩ => (pk_cons ha.pe hr.pk).run pos pins s σ H Q I ⟨O, ρ, S, st, After.seq h fun d S1 O1 H1 v e1 st1 r1 h1 => ⟨O1, ρ, S1, st1, After.seq h1 fun d2 S2 O2 H2 u e2 st2 r2 h2 =>
    After.ok h2 st2 ⟨v, u, rfl, r1.mono (e2.w st1.wf), r2⟩⟩⟩⟩⟩
def dCC (n : Nat) (F : FD) (fa : MA) : ME := fun ρ S => (fa ρ S).bind fun ds S1 => if ds.length = n then F ds S1 else .bad
def dCK (n m : Nat) (F : FD) (fa fk : MA) : ME := fun ρ S => (fa ρ S).bind fun ds S1 => (fk ρ S1).bind fun es S2 => if ds.length = n ∧ es.length = m then F (ds ++ es) S2 else .bad
theorem de_cc (C : CalleeX X k f n [] F) (hr : Room j X.A) (gd : X.A.guards = some []) (hg : Gl X x) (hm : X.mg x = some (.ref f)) (hk : PySem.W.keepIn X.K (.ref f) = true) (tk : Takes X W) (ha : DA X W (e :: es) fa) (hj : k ≤ j := by decide)
    (hdb : (x == ("__debug__" : Str)) = false := by decide) (he : starEach (e :: es) X.env = (false, eval e X.env) :: starEach es X.env := by rfl) (hpl : (backTo pos (starEach es X.env)).any (·.1) = false := by rfl) : DE X W (.Call (.Name x p) (e :: es) [] pos) (dCC n F fa) := by
  refine ⟨⟨fun pins s σ H Q I ⟨O, ρ, S, st, h⟩ => ?_⟩⟩
  refine wpAny_Call_Name_kw (ld_glob I hg hm ?_ hdb)
  have hq : tA X.K W fa σ H (fun vs H1 => vs.length = n ∧ spD X.K (n + ([] : List Str).length) F (vs ++ []) H1 Q (WE W σ)) := ⟨O, ρ, S, st, After.seq h fun ds S1 O1 H1 vs e1 st1 r1 h1 => by
    by_cases hl : ds.length = n
    · rw [if_pos hl] at h1
      rw [List.append_nil]
      exact ⟨r1.length.symm.trans hl, sp_of st1 r1 hl h1⟩
    · rw [if_neg hl] at h1; exact h1.elim⟩
  refine PySem.W.callWith_K (h₀ := X.base) I.ok.mod.kin hk (thn (ha.pa.run pos pins s σ H _ I hq) fun us s1 ⟨vs, H1, I1, r, hl, q⟩ => ⟨I1.kIn, ?_⟩) he hpl
  exact C pins σ H1 s1 Q (WE W) us [] vs [] (hr.mono hj) gd (passAt tk σ) I1 r .nil (r.length.symm.trans hl) rfl q
theorem de_cc0 (C : CalleeX X k f 0 [] F) (hr : Room j X.A) (gd : X.A.guards = some []) (hg : Gl X x) (hm : X.mg x = some (.ref f)) (hk : PySem.W.keepIn X.K (.ref f) = true) (tk : Takes X W) (hj : k ≤ j := by decide)
    (hdb : (x == ("__debug__" : Str)) = false := by decide) : DE X W (.Call (.Name x p) [] [] pos) (dCC 0 F aNil) := by
  refine ⟨⟨fun pins s σ H Q I ⟨O, ρ, S, st, h⟩ => ?_⟩⟩
  refine wpAny_Call_Name_kw (ld_glob I hg hm ?_ hdb)
  have h0 : After X.K W (Rep X.K) ρ σ O H Q (F [] S) := h
  exact PySem.W.callWith_K0 I.kIn hk (C pins σ H s Q (WE W) [] [] [] [] (hr.mono hj) gd (passAt tk σ) I .nil .nil rfl rfl (sp_of st (ds := []) rfl rfl h0))
theorem de_ck (C : CalleeX X k f n ks F) (hr : Room j X.A) (gd : X.A.guards = some []) (hg : Gl X x) (hm : X.mg x = some (.ref f)) (hk : PySem.W.keepIn X.K (.ref f) = true) (tk : Takes X W) (ha : DA X W (e :: es) fa) (hkw : DKw X W kws fk) (hj : k ≤ j := by decide)
    (hall : (backToKw pos (keywordEach kws X.env)).all (·.1.isSome) = true := by rfl) (hks : (backToKw pos (keywordEach kws X.env)).filterMap (·.1) = ks := by rfl)
    (hdb : (x == ("__debug__" : Str)) = false := by decide) (he : starEach (e :: es) X.env = (false, eval e X.env) :: starEach es X.env := by rfl)
    (hpl : ((backTo pos (starEach (e :: es) X.env)).any (·.1) || (backToKw pos (keywordEach kws X.env)).any (·.1.isNone)) = false := by rfl) : DE X W (.Call (.Name x p) (e :: es) kws pos) (dCK n ks.length F fa fk) := by
  refine ⟨⟨fun pins s σ H Q I ⟨O, ρ, S, st, h⟩ => ?_⟩⟩
  refine wpAny_Call_Name_kw (ld_glob I hg hm ?_ hdb)
  have hq : tA X.K W fa σ H (fun vs H1 => tA X.K W fk σ H1 fun zs H2 => vs.length = n ∧ zs.length = ks.length ∧ spD X.K (n + ks.length) F (vs ++ zs) H2 Q (WE W σ)) := ⟨O, ρ, S, st, After.seq h fun ds S1 O1 H1 vs e1 st1 r1 h1 => ⟨O1, ρ, S1, st1, After.seq h1 fun es S2 O2 H2 zs e2 st2 r2 h2 => by
    by_cases hl : ds.length = n ∧ es.length = ks.length
    · rw [if_pos hl] at h2
      exact ⟨r1.length.symm.trans hl.1, r2.length.symm.trans hl.2, sp_of st2 ((r1.mono (e2.w st1.wf)).append r2) (by rw [List.length_append, hl.1, hl.2]) h2⟩
    · rw [if_neg hl] at h2; exact h2.elim⟩⟩
  refine PySem.W.callWith_KW (h₀ := X.base) I.ok.mod.kin hk hall (thn (ha.pa.run pos pins s σ H _ I hq) fun us s1 ⟨vs, H1, I1, r, q⟩ => ?_) hpl he
  refine thn (hkw.pk.run pos pins s1 σ H1 _ I1 q) fun ws s2 ⟨zs, H2, I2, rz, l1, l2, q2⟩ => ⟨I2.kIn, ?_⟩
  rw [hks]
  exact C pins σ H2 s2 Q (WE W) us ws vs zs (hr.mono hj) gd (passAt tk σ) I2 r rz (r.length.symm.trans l1) (rz.length.symm.trans l2) q2
end
end DE

set_option maxHeartbeats 4000000
namespace DE
open PySem PySem.Spec PyProof.Rows L2
/-! ### own operators, at the library's level -/
section
variable {prog : Program} {w : World} {A : Around} {E : Value → Shared → Prop} {s : Shared} {K : PySem.W.Frag} {x C f : Addr} {ox : Obj} {od : Option Obj} {v : Value}
theorem own_contains {Q : Bool → Shared → Prop} (kin : K.In s.heap) (I : PySem.W.InstAt s.heap x ox C od) (me : Meth K C "__contains__" f)
    (h : wpAny (model prog w) A (call (.ref f) [.ref x, v]) (fun r s' => wpAny (model prog w) A (truthy r) Q E s') E s) : wpAny (model prog w) A (contains (.ref x) v) Q E s := by
  unfold contains
  have ask := PySem.W.looks_findIn (M := model prog w) kin me.at_
  refine wpAny_holding (wpAny_bind (wpAny_bind (I.type.here (ask.here ?_))))
  rw [if_neg (show ¬ _ from by simp)]
  exact wpAny_bind (PySem.W.unlessNone_K kin I me.at_ me.fn h)
theorem own_item {value slice : Expr} {i : Value} {Q : Value → Shared → Prop} (kin : K.In s.heap) (I : PySem.W.InstAt s.heap x ox C od) (me : Meth K C "__getitem__" f) (fi : PySem.W.fnIn K f = true)
    (h : wpAny (model prog w) A.in1 (call (.ref f) [.ref x, i]) Q E s) (hsl : subscripted slice true (.ref x) i = runValue (.builtin "lifetime.subscript" ⟨[.ref x, i], []⟩) := by with_unfolding_all rfl) :
    wpAny (model prog w) A (subscriptTail value slice (.ref x) i) Q E s := by
  have ask := PySem.W.looks_findIn (M := model prog w) kin me.at_
  unfold PySem.W.fnIn at fi
  cases q : K.lookup f with
  | none => rw [q] at fi; cases fi
  | some o =>
    obtain ⟨oc, odd, dt, osl⟩ := o
    rw [q] at fi
    cases dt <;> try (cases fi)
    unfold subscriptTail getitemInPython
    refine wpAny_bind (wpAny_bind (wpAny_bind (I.type.here (ask.here ?_))))
    refine wpAny_bind (wpAny_load (kin _ _ q) (wpAny_pure ?_))
    dsimp only
    rw [hsl]
    refine wpAny_bind (wpAny_runValue (codeAny_builtin PySem.W.entry_sub ?_))
    unfold Builtin.«lifetime.subscript»
    have run : wpAny (model prog w) A.in1 (callSpecial? (.ref x) "__getitem__" [i]) (fun r s' => ∃ v, r = some v ∧ Q v s') E s := PySem.W.special_fn kin I me.at_ (beq_iff_eq.mp me.fn) (wpAny_mono h (fun v s' z => ⟨v, rfl, z⟩) fun _ _ z => z)
    refine wpAny_bind (wpAny_mono run (fun r s' z => ?_) fun _ _ z => z)
    obtain ⟨v, rfl, z⟩ := z
    exact wpAny_pure (wpAny_bind (wpAny_letTemporaryGo (wpAny_pure z)))
/-- an own operator; the right one is of another type, which has none -/
theorem own_binop {op : Operator} {b t : Value} {Q : Value → Shared → Prop} (kin : K.In s.heap) (I : PySem.W.InstAt s.heap x ox C od) (hb : PySem.W.Looks (model prog w) s.heap (typeOf b) t) (hx : (Value.ref C == t) = true ∨ ((Value.ref C == t) = false ∧ fillsNumberSlot t op.info.2 = pure false))
    (hc : PySem.W.selfFirst K C = true) (me : Meth K C (PySem.dunder op.info.2) f) (h : wpAny (model prog w) A (call (.ref f) [.ref x, b]) (PySem.W.CmpBack Q) E s) : wpAny (model prog w) A (binaryOp op (.ref x) b) Q E s := by
  obtain ⟨cd, hcd, hm⟩ := PySem.W.any_some hc
  have hmro : ∃ rest, cd.mro = .ref C :: rest := by
    cases q : cd.mro with
    | nil => rw [q] at hm; cases hm
    | cons a r =>
      rw [q, List.head?_cons] at hm
      have := beq_iff_eq.mp hm
      cases this
      exact ⟨r, rfl⟩
  obtain ⟨rest, hmro⟩ := hmro
  have fl := PySem.W.fills_K (M := model prog w) kin hcd hmro me.at_
  unfold binaryOp
  refine wpAny_holding (wpAny_bind ?_)
  unfold binaryOp1
  refine wpAny_bind (I.type.here (wpAny_bind (hb.here (wpAny_bind (fl.here ?_)))))
  have run : wpAny (model prog w) A (callSpecial? (.ref x) (PySem.dunder op.info.2) [b]) (fun r s' => ∃ v, r = some v ∧ PySem.W.CmpBack Q v s') E s := PySem.W.special_fn kin I me.at_ (beq_iff_eq.mp me.fn) (wpAny_mono h (fun v s' z => ⟨v, rfl, z⟩) fun _ _ z => z)
  rcases hx with ht | ⟨ht, hr⟩
  · simp only [ht, if_true]
    refine wpAny_bind (wpAny_pure ?_)
    simp only [Bool.and_false, Bool.false_eq_true, if_false, Bool.false_and]
    refine wpAny_bind (wpAny_pure ?_)
    simp only [Bool.false_eq_true, if_false, if_true]
    refine wpAny_bind (m := tryMethod (.ref x) _ b) ?_
    unfold tryMethod
    refine wpAny_bind (wpAny_mono run (fun r s' z => ?_) fun _ _ z => z)
    obtain ⟨v, rfl, hv⟩ := z
    cases v <;> first | exact hv.elim | exact wpAny_pure (wpAny_pure (wpAny_pure hv))
  · simp only [ht, Bool.false_eq_true, if_false]
    refine wpAny_bind (m := fillsNumberSlot t op.info.2) ?_
    rw [hr]
    refine wpAny_pure ?_
    simp only [Bool.and_false, Bool.false_eq_true, if_false, Bool.false_and]
    refine wpAny_bind (wpAny_pure ?_)
    simp only [Bool.false_eq_true, if_false, if_true]
    refine wpAny_bind (m := tryMethod (.ref x) _ b) ?_
    unfold tryMethod
    refine wpAny_bind (wpAny_mono run (fun r s' z => ?_) fun _ _ z => z)
    obtain ⟨v, rfl, hv⟩ := z
    cases v <;> first | exact hv.elim | exact wpAny_pure (wpAny_pure (wpAny_pure hv))
end
end DE

set_option maxHeartbeats 4000000
namespace DE
open PySem PySem.Spec PyProof.Rows L2
/-! ### operators that may run defs, raise -/
def OpS (X : Cx) (f : Value → Value → Sem Value) (r : L2.St → R2) : Prop :=
  ∀ (pins : List (Addr × Obj)) (s : Shared) (σ : L2.St) (H : Hp) (x y : V) (v u : Value) (Q : VK), Inv X pins σ H s → RelV x v → RelV y u → r σ x y H Q → wpAny (model X.prog X.w) X.A (f v u) (EP X pins σ Q) X.xe s
def rOwn (X : Cx) (W : WX) (op : D → D → Sto → RE D) : L2.St → R2 := fun σ x y H Q => ∃ ρ O S d e, Stt X.K O H ρ σ S ∧ Rep X.K O H d x ∧ Rep X.K O H e y ∧ After X.K W (Rep X.K) ρ σ O H Q (op d e S)
section
variable {X : Cx} {W : WX} {a b : Expr} {f g : ME} {pos : Pos} {m c : Str} {j k n : Nat} {F : FD} {tb : List (Str × FD)}
theorem own_imp {o : D → D → Sto → RE D} {σ : L2.St} {H : Hp} {Q : VK} (h : tE X.K W (dBin o f g) σ H Q) : tE X.K W f σ H fun x H1 => tE X.K W g σ H1 fun y H2 => rOwn X W o σ x y H2 Q := by
  obtain ⟨O, ρ, S, st, h⟩ := h
  refine ⟨O, ρ, S, st, After.seq h fun d S1 O1 H1 v e1 st1 r1 h1 => ⟨O1, ρ, S1, st1, After.seq h1 fun d2 S2 O2 H2 u e2 st2 r2 h2 => ?_⟩⟩
  exact ⟨ρ, O2, S2, d, d2, st2, r1.mono (e2.w st1.wf), r2, h2⟩
theorem de_opS {op : Operator} {o : D → D → Sto → RE D} (hr : OpS X (binaryOp op) (rOwn X W o)) (ha : DE X W a f) (hb : DE X W b g) : DE X W (.BinOp a op b pos) (dBin o f g) :=
  ⟨⟨fun pins s σ H Q I h => wpAny_BinOp (binT ha.pe hb.pe I (own_imp h) fun v u s2 x y H2 I2 rx ry q => hr pins s2 σ H2 x y v u Q I2 rx ry q)⟩⟩
theorem de_cmpS {op : CmpOp} {o : D → D → Sto → RE D} (hr : OpS X (compareOp op) (rOwn X W o)) (ha : DE X W a f) (hb : DE X W b g) (hm : behindInMarks op b = false := by first | exact nomark _ | rfl) : DE X W (.Compare a [op] [b] pos) (dBin o f g) :=
  ⟨⟨fun pins s σ H Q I h => wpAny_Compare1 (binT ha.pe hb.pe I (own_imp h) fun v u s2 x y H2 I2 rx ry q => hr pins s2 σ H2 x y v u Q I2 rx ry q) hm⟩⟩
theorem dt_cmpS {op : CmpOp} {o : D → D → Sto → RE D} (hr : OpS X (compareOp op) (rOwn X W o)) (ha : DE X W a f) (hb : DE X W b g) (hm : behindInMarks op b = false := by first | exact nomark _ | rfl) : DT X W (.Compare a [op] [b] pos) (dTest (dBin o f g)) := by
  refine ⟨⟨fun pins s σ H Q I h => ?_⟩⟩
  have h2 : tE X.K W (dBin o f g) σ H fun z H3 => ∃ k, z = V.bl k ∧ Q k H3 := by
    obtain ⟨O, ρ, S, st, h⟩ := h
    refine ⟨O, ρ, S, st, After.seq h fun d S1 O1 H1 v e1 st1 r1 h1 => ?_⟩
    cases d with
    | bl b => exact ⟨b, r1, After.ok h1 st1 rfl⟩
    | _ => exact h1.elim
  refine wpAny_isTrue_Compare1 (binT ha.pe hb.pe I (own_imp h2) fun v u s2 x y H2 I2 rx ry q => thn (hr pins s2 σ H2 x y v u _ I2 rx ry q) fun cc s3 ⟨z, H3, I3, r3, k, e, q3⟩ => ?_) hm
  subst e
  obtain rfl : cc = Value.bool k := r3
  exact wpAny_truthy_bool ⟨H3, I3, q3⟩
/-! the def of an own operator runs -/
theorem inst_of {pins : List (Addr × Obj)} {σ : L2.St} {H : Hp} {s : Shared} {p C dx : Addr} {fs : List (Str × V)} (I : Inv X pins σ H s) (e : H p = some (.ins C dx fs)) : ∃ ox od, PySem.W.InstAt s.heap p ox C (some od) := by
  obtain ⟨mA, O, _, _, _, _⟩ := ins_get I.hok e
  obtain ⟨od, J, _⟩ := O.look
  exact ⟨_, od, J⟩
theorem run_G1 {pins : List (Addr × Obj)} {σ : L2.St} {H : Hp} {s : Shared} {Q : VK} {E : L2.St → XK} {us : List Value} {vs : List V} {p : Addr} {fd : FuncData} {ps : List Str} {sp : Sp} (G : FnGd X.prog X.w X.K X.mg X.base k p fd ps sp) (room : Room (k + 1) X.A) (gd : X.A.guards = some []) (bnd : Binds X.K fd ps [])
    (px : PassesAt (L2.CX X.prog X.w) X σ (E σ)) (I : Inv X pins σ H s) (rel : Vals vs us) (h : sp vs H Q (E σ)) : wpAny (model X.prog X.w) X.A.in1 (call (.ref p) us) (EP X pins σ Q) X.xe s := by
  have hl : (us ++ []).length = ps.length := by rw [List.append_nil, ← rel.length]; exact G.len _ _ _ _ h
  have b := bnd s us I.kIn hl
  rw [List.append_nil] at b
  refine wpAny_call (codeAny_mono (G.run X.A.in1 X.stack s H ⟨us, []⟩ us vs Q (E σ) room.in1 gd I.env0.in1 b rel h) ?_)
  rintro (er | fl) s' z
  · exact px pins H s er s' I z
  · rcases fl with _ | _ | _ | u
    all_goals first
      | exact I.after z
      | exact z.elim
/-- x in o, x not in o -/
def oInO (neg : Bool) (tb : List (Str × FD)) : D → D → Sto → RE D := fun d e S => match objAt S e with
  | some (c, _) => (match tb.lookup c with
    | some F => (F [e, d] S).bind fun r S1 => (match r with
      | .bl b => .ok (.bl (b != neg)) S1
      | _ => .bad)
    | none => .bad)
  | none => .bad
theorem own_run2 (T : MTab X j m 2 tb) (hr : Room j X.A) (gd : X.A.guards = some []) (tk : Takes X W) {pins : List (Addr × Obj)} {s : Shared} {σ : L2.St} {H : Hp} {x y : V} {v u : Value} {Q : VK} {ρ : DE.Env} {O : Ow} {S : Sto} {d e : D} {fs : List (Str × D)} {F : FD}
    (I : Inv X pins σ H s) (rx : RelV x v) (ry : RelV y u) (st : Stt X.K O H ρ σ S) (r1 : Rep X.K O H d x) (r2 : Rep X.K O H e y) (q : objAt S e = some (c, fs)) (q2 : tb.lookup c = some F) (h : After X.K W (Rep X.K) ρ σ O H Q (F [e, d] S)) :
    ∃ a dx vs ox od, y = .ref a ∧ u = .ref a ∧ H a = some (.ins (He.ga X.K c) dx vs) ∧ PySem.W.InstAt s.heap a ox (He.ga X.K c) (some od) ∧ Meth X.K (He.ga X.K c) m (He.ma X.K (He.ga X.K c) m) ∧
      wpAny (model X.prog X.w) X.A (call (.ref (He.ma X.K (He.ga X.K c) m)) [.ref a, v]) (EP X pins σ Q) X.xe s := by
  obtain ⟨a, dx, vs, rfl, ha, rf⟩ := objAt_rep st q r2
  obtain rfl : u = Value.ref a := ry
  obtain ⟨ox, od, J⟩ := inst_of I ha
  obtain ⟨fn, me, cl⟩ := T c F q2
  obtain ⟨fd, ps, g, b⟩ := fn.ok
  exact ⟨a, dx, vs, ox, od, rfl, rfl, ha, J, me, run_G (us := [Value.ref a, v]) (vs := [V.ref a, x]) g hr gd b (passAt tk σ) I (.cons rfl (.cons rx .nil)) (sp_of (ds := [e, d]) st ⟨_, _, rfl, r2, _, _, rfl, r1, rfl⟩ rfl h)⟩
theorem op_inO (T : MTab X j "__contains__" 2 tb) (hr : Room j X.A) (gd : X.A.guards = some []) (tk : Takes X W) : OpS X (compareOp .In) (rOwn X W (oInO false tb)) := by
  intro pins s σ H x y v u Q I rx ry ⟨ρ, O, S, d, e, st, r1, r2, h⟩
  unfold oInO at h
  cases q : objAt S e with
  | none => simp only [q] at h; exact h.elim
  | some z =>
    obtain ⟨c, fs⟩ := z
    simp only [q] at h
    cases q2 : tb.lookup c with
    | none => simp only [q2] at h; exact h.elim
    | some F =>
      simp only [q2] at h
      have h2 : After X.K W (Rep X.K) ρ σ O H (fun z H3 => ∃ k, z = V.bl k ∧ Q (.bl k) H3) (F [e, d] S) := After.seq h fun r S1 O1 H1 w e1 st1 rr h1 => by
        cases r <;> try exact h1.elim
        rename_i b
        cases b
        · exact ⟨_, rr, After.ok h1 st1 rfl⟩
        · exact ⟨_, rr, After.ok h1 st1 rfl⟩
      obtain ⟨a, dx, vs, ox, od, rfl, rfl, ha, J, me, run⟩ := own_run2 T hr gd tk I rx ry st r1 r2 q q2 h2
      refine wpAny_bind (own_contains I.kIn J me (wpAny_mono run (fun r s' z => ?_) fun _ _ z => z))
      obtain ⟨z, H3, I3, r3, k, rfl, q3⟩ := z
      obtain rfl : r = Value.bool k := r3
      exact wpAny_truthy_bool (wpAny_pure ⟨.bl k, H3, I3, rfl, q3⟩)
theorem op_notInO (T : MTab X j "__contains__" 2 tb) (hr : Room j X.A) (gd : X.A.guards = some []) (tk : Takes X W) : OpS X (compareOp .NotIn) (rOwn X W (oInO true tb)) := by
  intro pins s σ H x y v u Q I rx ry ⟨ρ, O, S, d, e, st, r1, r2, h⟩
  unfold oInO at h
  cases q : objAt S e with
  | none => simp only [q] at h; exact h.elim
  | some z =>
    obtain ⟨c, fs⟩ := z
    simp only [q] at h
    cases q2 : tb.lookup c with
    | none => simp only [q2] at h; exact h.elim
    | some F =>
      simp only [q2] at h
      have h2 : After X.K W (Rep X.K) ρ σ O H (fun z H3 => ∃ k, z = V.bl k ∧ Q (.bl (!k)) H3) (F [e, d] S) := After.seq h fun r S1 O1 H1 w e1 st1 rr h1 => by
        cases r <;> try exact h1.elim
        rename_i b
        cases b
        · exact ⟨_, rr, After.ok h1 st1 rfl⟩
        · exact ⟨_, rr, After.ok h1 st1 rfl⟩
      obtain ⟨a, dx, vs, ox, od, rfl, rfl, ha, J, me, run⟩ := own_run2 T hr gd tk I rx ry st r1 r2 q q2 h2
      refine wpAny_bind (own_contains I.kIn J me (wpAny_mono run (fun r s' z => ?_) fun _ _ z => z))
      obtain ⟨z, H3, I3, r3, k, rfl, q3⟩ := z
      obtain rfl : r = Value.bool k := r3
      exact wpAny_truthy_bool (wpAny_pure ⟨.bl (!k), H3, I3, rfl, q3⟩)
/-- o[i] -/
def oIxO (tb : List (Str × FD)) : D → D → Sto → RE D := fun e d S => match objAt S e with
  | some (c, _) => (match tb.lookup c with
    | some F => F [e, d] S
    | none => .bad)
  | none => .bad
theorem de_ixO (T : MTab X j "__getitem__" 2 tb) (fi : ∀ c F, tb.lookup c = some F → PySem.W.fnIn X.K (He.ma X.K (He.ga X.K c) "__getitem__") = true) (hr : Room (j + 1) X.A) (gd : X.A.guards = some []) (tk : Takes X W) (ha : DE X W a f) (hb : DE X W b g)
    (hsl : ∀ (x : Addr) (i : Value), subscripted b true (.ref x) i = runValue (.builtin "lifetime.subscript" ⟨[.ref x, i], []⟩) := by intro _ _; with_unfolding_all rfl) : DE X W (.Subscript a b pos) (dBin (oIxO tb) f g) := by
  refine ⟨⟨fun pins s σ H Q I h => Subscript_ (binT ha.pe hb.pe I (own_imp h) fun v u s2 x y H2 I2 rx ry q => ?_)⟩⟩
  obtain ⟨ρ, O, S, e, d, st, r1, r2, h⟩ := q
  unfold oIxO at h
  cases q : objAt S e with
  | none => simp only [q] at h; exact h.elim
  | some z =>
    obtain ⟨c, fs⟩ := z
    simp only [q] at h
    cases q2 : tb.lookup c with
    | none => simp only [q2] at h; exact h.elim
    | some F =>
      simp only [q2] at h
      obtain ⟨p, dx, vs, rfl, hp, rf⟩ := objAt_rep st q r1
      obtain rfl : v = Value.ref p := rx
      obtain ⟨ox, od, J⟩ := inst_of I2 hp
      obtain ⟨fn, me, cl⟩ := T c F q2
      obtain ⟨fd, ps, gg, bb⟩ := fn.ok
      exact own_item I2.kIn J me (fi c F q2) (run_G1 (us := [Value.ref p, u]) (vs := [V.ref p, y]) gg hr gd bb (passAt tk σ) I2 (.cons rfl (.cons ry .nil)) (sp_of (ds := [e, d]) st ⟨_, _, rfl, r1, _, _, rfl, r2, rfl⟩ rfl h)) (hsl p u)
/-! o op x -/
/-- the right one: T tells its type -/
def oBinO (ok : Sto → D → Bool) (tb : List (Str × FD)) : D → D → Sto → RE D := fun e d S => match objAt S e with
  | some (c, _) => (match tb.lookup c with
    | some F => if ok S d = true then (F [e, d] S).bind fun r S1 => (match r with
      | .glo _ => .bad
      | .ty _ => .bad
      | r => .ok r S1) else .bad
    | none => .bad)
  | none => .bad
theorem not_ni {v : V} {u : Value} (h : RelV v u) : u ≠ .notImplemented := by
  cases v with
  | non => cases (show u = _ from h); exact fun z => nomatch z
  | bl b => cases (show u = _ from h); exact fun z => nomatch z
  | int i => obtain ⟨t, rfl⟩ := (show ∃ t, u = Value.int i t from h); exact fun z => nomatch z
  | str i => obtain ⟨t, rfl⟩ := (show ∃ t, u = Value.str i t from h); exact fun z => nomatch z
  | byt i => obtain ⟨t, rfl⟩ := (show ∃ t, u = Value.bytes i t from h); exact fun z => nomatch z
  | flt i => obtain ⟨t, rfl⟩ := (show ∃ t, u = Value.float i t from h); exact fun z => nomatch z
  | ref a => cases (show u = _ from h); exact fun z => nomatch z
  | ty n => cases (show u = _ from h); exact fun z => nomatch z
theorem cmpBack {Q : Value → Shared → Prop} {u : Value} {s : Shared} (h : u ≠ .notImplemented) (q : Q u s) : PySem.W.CmpBack Q u s := by
  unfold PySem.W.CmpBack
  cases u <;> first | exact absurd rfl h | exact q
end
end DE

set_option maxHeartbeats 4000000
namespace DE
open PySem PySem.Spec PyProof.Rows L2
theorem nf_list_sub : fillsNumberSlot (.type "list") "sub" = pure false := by kernel_rfl
theorem nf_tuple_sub : fillsNumberSlot (.type "tuple") "sub" = pure false := by kernel_rfl
theorem nf_tuple_rshift : fillsNumberSlot (.type "tuple") "rshift" = pure false := by kernel_rfl
section
variable {X : Cx} {W : WX} {a b o : Expr} {f g : ME} {pos : Pos} {m c fld : Str} {j k n : Nat} {F : FD} {tb : List (Str × FD)}
/-- o op x: the right one is of a type of ts, or of o's class -/
def oBin2 (ts : List String) (tb : List (Str × FD)) : D → D → Sto → RE D := fun e d S => match objAt S e with
  | some (c, _) => (match tb.lookup c with
    | some F => if (match tyName d with
        | some t => decide (t ∈ ts)
        | none => (match objAt S d with
          | some (c2, _) => decide (c2 = c)
          | none => false)) = true then F [e, d] S else .bad
    | none => .bad)
  | none => .bad
theorem op_bin2 {op : Operator} {ts : List String} (hm : PySem.dunder op.info.2 = m) (hts : ∀ t ∈ ts, fillsNumberSlot (.type t) op.info.2 = pure false) (hs : ∀ c F, tb.lookup c = some F → PySem.W.selfFirst X.K (He.ga X.K c) = true) (T : MTab X j m 2 tb) (hr : Room j X.A)
    (gd : X.A.guards = some []) (tk : Takes X W) : OpS X (binaryOp op) (rOwn X W (oBin2 ts tb)) := by
  subst hm
  intro pins s σ H x y v u Q I rx ry ⟨ρ, O, S, e, d, st, r1, r2, h⟩
  unfold oBin2 at h
  cases q : objAt S e with
  | none => simp only [q] at h; exact h.elim
  | some z =>
    obtain ⟨c, fs⟩ := z
    simp only [q] at h
    cases q2 : tb.lookup c with
    | none => simp only [q2] at h; exact h.elim
    | some F =>
      simp only [q2] at h
      obtain ⟨hc, h⟩ := After.ite h
      obtain ⟨p, dx, vs, rfl, hp, rf⟩ := objAt_rep st q r1
      obtain rfl : v = Value.ref p := rx
      obtain ⟨ox, od, J⟩ := inst_of I hp
      obtain ⟨fn, me, cl⟩ := T c F q2
      obtain ⟨fd, ps, gg, bb⟩ := fn.ok
      have run := run_G (us := [Value.ref p, u]) (vs := [V.ref p, y]) gg hr gd bb (passAt tk σ) I (.cons rfl (.cons ry .nil)) (sp_of (ds := [e, d]) st ⟨_, _, rfl, r1, _, _, rfl, r2, rfl⟩ rfl h)
      have run2 : wpAny (model X.prog X.w) X.A (call (.ref (He.ma X.K (He.ga X.K c) (PySem.dunder op.info.2))) [Value.ref p, u]) (PySem.W.CmpBack (EP X pins σ Q)) X.xe s := wpAny_mono run (fun r s' z => by
        obtain ⟨w, H3, I3, rv, q3⟩ := z
        exact cmpBack (not_ni rv) ⟨w, H3, I3, rv, q3⟩) fun _ _ z => z
      have key : ∃ t, PySem.W.Looks (model X.prog X.w) s.heap (typeOf u) t ∧ ((Value.ref (He.ga X.K c) == t) = true ∨ ((Value.ref (He.ga X.K c) == t) = false ∧ fillsNumberSlot t op.info.2 = pure false)) := by
        cases qt : tyName d with
        | some t =>
          rw [qt] at hc
          obtain ⟨P, kx, hP, _⟩ := kit_of I ry (tyName_rep qt r2)
          exact ⟨.type t, kx.ty _ _ I.kIn hP, .inr ⟨rfl, hts t (of_decide_eq_true hc)⟩⟩
        | none =>
          rw [qt] at hc
          cases qo : objAt S d with
          | none => rw [qo] at hc; cases hc
          | some z =>
            obtain ⟨c2, fs2⟩ := z
            rw [qo] at hc
            obtain rfl := of_decide_eq_true hc
            obtain ⟨p2, dx2, vs2, rfl, hp2, _⟩ := objAt_rep st qo r2
            obtain rfl : u = Value.ref p2 := ry
            obtain ⟨ox2, od2, J2⟩ := inst_of I hp2
            exact ⟨_, J2.type, .inl (beq_self_eq_true _)⟩
      obtain ⟨t, lt, hx⟩ := key
      exact own_binop I.kIn J lt hx (hs c F q2) me run2
/-! ### properties -/
structure PropA (P : Program) (w : World) (K : PySem.W.Frag) (mg : Str → Option Value) (base : Heap) (k : Nat) (c f : Str) (F : FD) : Prop where
  ex : ∃ p g, PropOf K (He.ga K c) f p g ∧ FnA P w K mg base k g 1 F
  cl : Cls K (He.ga K c)
def PTab (X : Cx) (j : Nat) (f : Str) (tb : List (Str × FD)) : Prop := ∀ c F, tb.lookup c = some F → PropA X.prog X.w X.K X.mg X.base j c f F
theorem pt_nil' : PTab X j fld [] := fun c F h => by cases h
theorem pt_cons' (G : PropA X.prog X.w X.K X.mg X.base k c fld F) (T : PTab X j fld tb) (h : k ≤ j := by decide) : PTab X j fld ((c, F) :: tb) := fun c' F' e => by
  rw [List.lookup_cons] at e
  cases q : c' == c with
  | true =>
    rw [q] at e
    cases e
    rw [eq_of_beq q]
    obtain ⟨p, g, h1, h2⟩ := G.ex
    exact ⟨⟨p, g, h1, h2.mono h⟩, G.cl⟩
  | false => rw [q] at e; exact T c' F' e
/-- o.f, a property; it raises nothing -/
def dProp (f : Str) (tb : List (Str × FD)) (fo : ME) : ME := fun ρ S => (fo ρ S).bind fun d S1 => match objAt S1 d with
  | some (c, _) => (match tb.lookup c with
    | some F => (match F [d] S1 with
      | .ok r S2 => .ok r S2
      | _ => .bad)
    | none => .bad)
  | none => .bad
theorem de_prop (ho : DE X W o f) (T : PTab X j fld tb) (hr : Room (j + 1) X.A) (gd : X.A.guards = some []) (hb : attributeBase o fld X.env (eval o X.env) = eval o X.env := by rfl) : DE X W (.Attribute o fld pos) (dProp fld tb f) := by
  refine ⟨⟨fun pins s σ H Q I ⟨O, ρ, S, st, h⟩ => ?_⟩⟩
  have h2 : tE X.K W f σ H fun x H1 => ∃ c F a dx vs, x = V.ref a ∧ H1 a = some (.ins (He.ga X.K c) dx vs) ∧ tb.lookup c = some F ∧ spD X.K 1 F [.ref a] H1 Q (fun _ _ _ => False) := ⟨O, ρ, S, st, After.seq h fun d S1 O1 H1 v e1 st1 r1 h1 => by
    cases q : objAt S1 d with
    | none => simp only [q] at h1; exact h1.elim
    | some z =>
      obtain ⟨c, fs⟩ := z
      simp only [q] at h1
      cases q2 : tb.lookup c with
      | none => simp only [q2] at h1; exact h1.elim
      | some F =>
        simp only [q2] at h1
        obtain ⟨p, dx, vs, rfl, hp, rf⟩ := objAt_rep st1 q r1
        refine ⟨c, F, p, dx, vs, rfl, hp, q2, O1, S1, [d], st1.wf, ⟨_, _, rfl, r1, rfl⟩, rfl, ?_⟩
        cases qF : F [d] S1 with
        | ok r S2 => rw [qF] at h1; exact fun O' H' v e wf r => h1 O' H' v e ⟨wf, st1.env.mono (e.w st1.wf)⟩ r
        | exc x S2 => rw [qF] at h1; exact h1.elim
        | bad => rw [qF] at h1; exact h1.elim⟩
  refine attr_of hb (thn (ho.pe.run pins s σ H _ I h2) fun u s1 ⟨x, H1, I1, rx, c, F, a, dx, vs, ex, ea, ec, q⟩ => ?_)
  subst ex
  obtain rfl : u = Value.ref a := rx
  obtain ⟨⟨p, gt, hp, fn⟩, cl⟩ := T c F ec
  obtain ⟨fd, ps, gg, bb⟩ := fn.ok
  obtain ⟨ox, od, J⟩ := inst_of I1 ea
  obtain ⟨rest, hrec⟩ := hp.rec_
  have I2 := I1.tok (s1.toks + 1)
  have hc : (PySem.W.clsIn X.K (He.ga X.K c)).isSome = true := by
    obtain ⟨cd, hc, _⟩ := PySem.W.any_some cl.hd
    rw [hc]; rfl
  have hl : ([Value.ref a] ++ []).length = ps.length := by rw [← gg.len _ _ _ _ q]; rfl
  have bd := bb { s1 with toks := s1.toks + 1 } [.ref a] I2.kIn hl
  refine PySem.W.get_bind I1.kIn J (PySem.W.plainGet_of (cl.get fld)).1 (PySem.W.findObj_data hc hp.at_ hp.get hp.tak) (PySem.W.plainGet_of (cl.get fld)).2 (wpAny_call (PySem.W.prop_get (s := { s1 with toks := s1.toks + 1 }) I1.kIn hrec ?_))
  refine codeAny_mono (gg.run X.A.in1 X.stack { s1 with toks := s1.toks + 1 } H1 ⟨[.ref a], []⟩ [.ref a] [.ref a] Q _ hr.in1 gd I2.env0.in1 bd (.cons rfl .nil) q) ?_
  rintro (er | fl) s' z
  · exact False.elim (passL (X := X.nox) pins σ H1 _ er s' (I2.wish _) z)
  · rcases fl with _ | _ | _ | u2
    all_goals first
      | exact z.elim
      | skip
    obtain ⟨v, H', I3, rv, q3⟩ := I2.after z
    show wpAny _ _ (handedOut u2) _ _ _
    rw [PySem.W.handedOut_of (handed_of rv)]
    exact wpAny_pure ⟨v, H', I3, rv, q3⟩
end
end DE

set_option maxHeartbeats 4000000
namespace DE
open PySem PySem.Spec PyProof.Rows L2
section
variable {X : Cx} {W : WX} {o a b c e : Expr} {f g : ME} {fa : MA} {es : List Expr} {apos pos : Pos}
/-! ### o.f += e, ints -/
def sFldAug (f : Str) (cs : List Str) (fo fe : ME) : MS := fun ρ S => (fo ρ S).stm ρ fun ob S1 => match ob with
  | .own k => (match S1[k]? with
    | some (.obj c fs) => if c ∈ cs then (match fs.lookup f with
      | some (.int i) => (fe ρ S1).stm ρ fun y S2 => (match y, S2[k]? with
        | .int j, some (.obj c2 fs2) => if c2 = c ∧ fs2.length < 1000 then .nx ρ (S2.set k (.obj c2 (putD f (.int (i + j)) fs2))) else .bad
        | _, _ => .bad)
      | _ => .bad) else .bad
    | _ => .bad)
  | _ => .bad
theorem ds_fldAug {fo fe : ME} {fld : Str} {cs : List Str} {tpos : Pos} (ho : DE X W o fo) (he : DE X W e fe) (hc : ∀ c ∈ cs, Cls X.K (He.ga X.K c) ∧ NoAttr X.K (He.ga X.K c) fld) :
    DS X W (.AugAssign (.Attribute o fld tpos) .Add e pos) (sFldAug fld cs fo fe) := by
  refine ⟨PS.imp (ps_fldaug ho.pe he.pe in_add) fun D' σ H ⟨O, ρ, S, st, h⟩ => ⟨O, ρ, S, st, AfterS.seqE h fun ob S1 O1 H1 u e1 st1 r1 h1 => ?_⟩⟩
  cases ob <;> try exact h1.elim
  rename_i k
  simp only at h1
  cases q : S1[k]? with
  | none => simp only [q] at h1; exact h1.elim
  | some d0 =>
    simp only [q] at h1
    cases d0 <;> try exact h1.elim
    rename_i c fs
    simp only at h1
    by_cases hm : c ∈ cs
    · rw [if_pos hm] at h1
      obtain ⟨a, ha, rfl⟩ := r1
      obtain ⟨dx, vs, hx, rf⟩ := st1.wf.cell k a _ ha q
      cases q2 : fs.lookup fld with
      | none => simp only [q2] at h1; exact h1.elim
      | some d2 =>
        simp only [q2] at h1
        cases d2 <;> try exact h1.elim
        rename_i i
        obtain ⟨u, hu, ru⟩ := repF_lookup rf q2
        cases (show u = _ from ru)
        refine ⟨a, _, dx, vs, _, rfl, hx, (hc c hm).1, (hc c hm).2, hu, O1, ρ, S1, st1, AfterS.seqE h1 fun y S2 O2 H2 w e2 st2 r2 h2 => ?_⟩
        cases y <;> try exact h2.elim
        rename_i j
        cases q3 : S2[k]? with
        | none => simp only [q3] at h2; exact h2.elim
        | some d3 =>
          simp only [q3] at h2
          cases d3 <;> try exact h2.elim
          rename_i c2 fs2
          simp only at h2
          by_cases hm2 : c2 = c ∧ fs2.length < 1000
          · rw [if_pos hm2] at h2
            obtain ⟨rfl, hl⟩ := hm2
            have ha2 := e2.at ha
            obtain ⟨dx2, vs2, hx2, rf2⟩ := st2.wf.cell k a _ ha2 q3
            cases (show w = _ from r2)
            refine ⟨i, j, rfl, rfl, dx2, vs2, hx2, by rw [← RepF.length rf2]; exact hl, ?_⟩
            obtain ⟨e3, st3⟩ := st2.mut (o := .ins (He.ga X.K c2) dx2 (putF fld (.int (i + j)) vs2)) (d := .obj c2 (putD fld (.int (i + j)) fs2)) ha2 fun e => ⟨dx2, _, upd_same, RepF.mono (e.w st2.wf) (RepF.put (show Rep X.K O2 H2 (.int (i + j)) (.int (i + j)) from rfl) rf2)⟩
            exact h2 O2 _ σ e3 st3
          · rw [if_neg hm2] at h2; exact h2.elim
    · rw [if_neg hm] at h1; exact h1.elim
/-! ### a test that stores a name: nx where it holds, bk where not -/
def wD (K : PySem.W.Frag) (W : WX) (t : MS) : TTw := fun σ H Q => ∃ O ρ S, Stt K O H ρ σ S ∧ AfterS K W { nx := Q true, rt := fun _ _ => False, bk := Q false, ct := fun _ _ => False } O H (t ρ S)
structure DTW (X : Cx) (W : WX) (c : Expr) (t : MS) : Prop where
  ptw : PTw X c (wD X.K W t)
theorem PTw.imp {t t' : TTw} (h : PTw X c t) (k : ∀ σ H Q, t' σ H Q → t σ H Q) : PTw X c t' := ⟨fun pins s σ H Q I q => h.run pins s σ H Q I (k σ H Q q)⟩
def mWal (i : Nat) (op : D → D → Sto → RE D) (fe ff : ME) : MS := fun ρ S => (fe ρ S).stm ρ fun d S1 => (ff (ρ.set i (some d)) S1).stm (ρ.set i (some d)) fun e S2 => (op d e S2).stm (ρ.set i (some d)) fun z S3 => match z with
  | .bl true => .nx (ρ.set i (some d)) S3
  | .bl false => .bk (ρ.set i (some d)) S3
  | _ => .bad
theorem dtw_cmp {op : CmpOp} {od : D → D → Sto → RE D} {x : Str} {p npos : Pos} {ff fe : ME} (i : Nat) (ho : OpR X (compareOp op) (RD X.K od)) (hN : X.N.Nodup) (hi : X.N[i]? = some x) (hx : Loc X.env.scope x) (he : DE X W e fe) (hb : DE X W b ff) (hm : behindInMarks op b = false := by first | exact nomark _ | rfl)
    (hf : X.fn x = true ∨ X.env.scope.names.lookup x = some .local := by first | exact .inl rfl | exact .inr rfl | assumption) :
    DTW X W (.Compare (.NamedExpr (.Name x p) e npos) [op] [b] pos) (mWal i od fe ff) :=
  ⟨PTw.imp (ptw_cmp ho (pew_named hN hi hx (pew_of he.pe) hf) hb.pe hm) fun σ H Q ⟨O, ρ, S, st, h⟩ => ⟨O, ρ, S, st, AfterS.seqE h fun d S1 O1 H1 v e1 st1 r1 h1 =>
    ⟨O1, ρ.set i (some d), S1, ⟨st1.wf, st1.env.set r1 i⟩, AfterS.seqE h1 fun y S2 O2 H2 u e2 st2 r2 h2 => ⟨W, ρ.set i (some d), _, O2, S2, d, y, st2, r1.mono (e2.w st1.wf), r2, AfterS.seqE h2 fun z S3 O3 H3 t e3 st3 r3 h3 => by
      cases z <;> try exact h3.elim
      rename_i k
      cases (show t = _ from r3)
      cases k with
      | true => exact ⟨true, rfl, h3 O3 H3 _ .refl st3⟩
      | false => exact ⟨false, rfl, h3 O3 H3 _ .refl st3⟩⟩⟩⟩⟩
def mAndW (t : MS) (g : MT) : MS := fun ρ S => match t ρ S with
  | .nx ρ1 S1 => (g ρ1 S1).stm ρ1 fun c S2 => if c = true then .nx ρ1 S2 else .bk ρ1 S2
  | r => r
def tAndW (ta : TTw) (tb : TT) : TTw := fun σ H Q => ta σ H fun c σ1 H1 => if c = true then tb σ1 H1 fun d H2 => Q d σ1 H2 else Q false σ1 H1
theorem ptw_and {ta : TTw} {tb : TT} (ha : PTw X a ta) (hb : PT X b tb) : PTw X (.BoolOp .And [a, b] pos) (tAndW ta tb) := ⟨fun pins s σ H Q I h => by
  refine isTrue_and (thn (ha.run pins s σ H _ I h) fun c s1 ⟨σ1, H1, I1, q1⟩ => ?_)
  cases c with
  | true =>
    rw [if_pos rfl] at q1
    refine isTrue_and (thn (hb.run pins s1 σ1 H1 _ I1 q1) fun d s2 ⟨H2, I2, q2⟩ => ?_)
    cases d with
    | true => exact isTrue_and_nil ⟨σ1, H2, I2, q2⟩
    | false => exact ⟨σ1, H2, I2, q2⟩
  | false =>
    rw [if_neg (by simp)] at q1
    exact ⟨σ1, H1, I1, q1⟩⟩
theorem dtw_and {t : MS} {g : MT} (ha : DTW X W a t) (hb : DT X W b g) : DTW X W (.BoolOp .And [a, b] pos) (mAndW t g) :=
  ⟨PTw.imp (ptw_and ha.ptw hb.pt) fun σ H Q ⟨O, ρ, S, st, h⟩ => ⟨O, ρ, S, st, by
    unfold mAndW at h
    cases q : t ρ S with
    | nx ρ1 S1 =>
      rw [q] at h
      intro O1 H1 σ1 e1 st1
      dsimp only
      rw [if_pos rfl]
      refine ⟨O1, ρ1, S1, st1, AfterS.seqE (h.mono e1) fun d S2 O2 H2 v e2 st2 r2 h2 => ?_⟩
      cases (show d = v from r2)
      cases d with
      | true => exact h2 O2 H2 σ1 .refl st2
      | false => exact h2 O2 H2 σ1 .refl st2
    | bk ρ1 S1 =>
      rw [q] at h
      intro O1 H1 σ1 e1 st1
      dsimp only
      rw [if_neg (show ¬ (false = true) from Bool.false_ne_true)]
      exact h O1 H1 σ1 e1 st1
    | ct ρ1 S1 => rw [q] at h; exact h
    | rt d S1 => rw [q] at h; exact h
    | exc y ρ1 S1 => rw [q] at h; exact h
    | bad => rw [q] at h; exact h⟩⟩
/-- while over such a test, n turns at the most -/
def whileW (t : MS) (b : MS) : Nat → MS
  | 0 => fun _ _ => .bad
  | n + 1 => fun ρ S => match t ρ S with
    | .nx ρ1 S1 => (match b ρ1 S1 with
      | .nx ρ2 S2 => whileW t b n ρ2 S2
      | .ct ρ2 S2 => whileW t b n ρ2 S2
      | .bk ρ2 S2 => .nx ρ2 S2
      | r => r)
    | .bk ρ1 S1 => .nx ρ1 S1
    | .exc y ρ1 S1 => .exc y ρ1 S1
    | _ => .bad
theorem ds_whileW {body : List Stmt} {t F : MS} (n : Nat) (hp : PassesOwn (model X.prog X.w) X.A X.env X.xe) (hc : DTW X W c t) (hb : DSs X W body F) : DS X W (.While c body [] pos) (whileW t F n) :=
  ⟨PS.imp (ps_whileW hp hc.ptw hb.pss pss_nil) fun D' σ H ⟨O, ρ, S, st, h⟩ => by
    refine ⟨fun m σ2 H2 => ∃ O2 ρ2 S2, Ext O H O2 H2 ∧ Stt X.K O2 H2 ρ2 σ2 S2 ∧ AfterS X.K W D' O2 H2 (whileW t F m ρ2 S2), ⟨n, O, ρ, S, .refl, st, h⟩, ?_⟩
    rintro m σ2 H2 ⟨O2, ρ2, S2, e2, st2, h2⟩
    cases m with
    | zero => exact h2.elim
    | succ m =>
      refine ⟨O2, ρ2, S2, st2, ?_⟩
      unfold whileW at h2
      cases q : t ρ2 S2 with
      | nx ρ3 S3 =>
        simp only [q] at h2
        intro O3 H3 σ3 e3 st3
        dsimp only
        rw [if_pos rfl]
        refine ⟨fun σ4 H4 => ∃ O4 ρ4 S4, Ext O H O4 H4 ∧ Stt X.K O4 H4 ρ4 σ4 S4 ∧ AfterS X.K W D' O4 H4 (whileW t F m ρ4 S4), fun σ4 H4 z => ⟨m, Nat.lt_succ_self _, z⟩, O3, ρ3, S3, st3, ?_⟩
        have h3 := h2.mono e3
        cases q2 : F ρ3 S3 with
        | nx ρ5 S5 => simp only [q2] at h3; exact fun O' H5 σ5 e5 st5 => ⟨O', ρ5, S5, (e2.trans e3).trans e5, st5, AfterS.mono h3 e5⟩
        | ct ρ5 S5 => simp only [q2] at h3; exact fun O' H5 σ5 e5 st5 => ⟨O', ρ5, S5, (e2.trans e3).trans e5, st5, AfterS.mono h3 e5⟩
        | bk ρ5 S5 => simp only [q2] at h3; exact fun O' H5 σ5 e5 st5 => h3 O' H5 σ5 e5 st5
        | rt d5 S5 => simp only [q2] at h3; exact h3
        | exc x5 ρ5 S5 => simp only [q2] at h3; exact h3
        | bad => simp only [q2] at h3; exact h3
      | bk ρ3 S3 =>
        simp only [q] at h2
        intro O3 H3 σ3 e3 st3
        dsimp only
        rw [if_neg (show ¬ (false = true) from Bool.false_ne_true)]
        exact h2 O3 H3 σ3 e3 st3
      | exc y ρ3 S3 => simp only [q] at h2; exact h2
      | ct ρ3 S3 => simp only [q] at h2; exact h2.elim
      | rt d S3 => simp only [q] at h2; exact h2.elim
      | bad => simp only [q] at h2; exact h2.elim⟩
/-! ### try .. except C: .. -/
def noexc : RS → RS
  | .exc _ _ _ => .bad
  | r => r
theorem AfterS.noexc {K : PySem.W.Frag} {D' : Ends} {O : Ow} {H : Hp} {r : RS} (h : AfterS K W D' O H (DE.noexc r)) : AfterS K W0 D' O H r := by
  cases r with
  | exc y ρ S => exact h.elim
  | bad => exact h
  | nx ρ S => exact h
  | rt d S => exact h
  | bk ρ S => exact h
  | ct ρ S => exact h
def sTryN (fb : MS) (cl : Str → Option Bool) (hm : MS) : MS := fun ρ S => match fb ρ S with
  | .exc x ρ1 S1 => (match cl x.c with
    | none => .bad
    | some true => noexc (hm ρ1 S1)
    | some false => .exc x ρ1 S1)
  | r => r
def tHn0 (K : PySem.W.Frag) (hm : MS) (a : Addr) (cls : Value) (d : Option Addr) : TS := fun D' σ H => ∃ (O : Ow) (ρ : DE.Env) (S : Sto), Stt K O H ρ σ S ∧ AfterS K W0 D' O H (hm ρ S)
theorem ds_tryN {body suite : List Stmt} {b₀ : Stmt} {x : Str} {np pos' : Pos} {fb : MS} {cl : Str → Option Bool} {hm : MS} (hs : X.stack = X.env :: X.outer) (hf : X.env.frame = some X.env.locals)
    (hx : Names X x (.ref (He.ga X.K x))) (tk : Takes X W) (hcl : ∀ c b, cl c = some b → PySem.W.exmOne X.K (.ref (He.ga X.K c)) (.ref (He.ga X.K x)) = some b)
    (hb : ∀ (W' : WX) (pn : List (Addr × Obj)) (xe : Value → Shared → Prop), Takes (X.tr pn xe) W' → PassesOwn (model X.prog X.w) X.A X.env xe → DSs (X.tr pn xe) W' body fb)
    (hh : ∀ (a : Addr) (oe : Obj) (pn : List (Addr × Obj)), DSs (X.suite a ((a, oe) :: pn)) W0 (b₀ :: suite) hm) :
    DS X W (.Try body [.ExceptHandler (some (.Name x np)) none (b₀ :: suite) pos'] [] [] pos) (sTryN fb cl hm) := by
  refine ⟨PS.imp (ps_try_only (tb := fun W' => tS X.K W' fb) (ts := tHn0 X.K hm) hs hf hx tk (fun W' pn xe t p => (hb W' pn xe t p).pss) fun a oe cls d pn hz hd => ⟨?_⟩) ?_⟩
  · rintro pins s σ H D' I ⟨O, ρ, S, st, h⟩
    exact (hh a oe pn).pss.run pins s σ H D' I ⟨O, ρ, S, st, h⟩
  · intro D' σ H ⟨O, ρ, S, st, h⟩
    refine ⟨O, ρ, S, st, ?_⟩
    unfold sTryN at h
    cases q : fb ρ S with
    | nx ρ1 S1 => rw [q] at h; exact h
    | bk ρ1 S1 => rw [q] at h; exact h
    | ct ρ1 S1 => rw [q] at h; exact h
    | rt d S1 => rw [q] at h; exact h
    | bad => rw [q] at h; exact h
    | exc y ρ1 S1 =>
      rw [q] at h
      rintro O1 H1 σ1 cls dx e1 st1 ⟨rfl, dd, vs, rfl, hd, rf⟩
      cases q2 : cl y.c with
      | none => simp only [q2] at h; exact h.elim
      | some b =>
        refine ⟨b, hcl _ _ q2, fun eb a ha => ?_, fun eb => ?_⟩
        · subst eb
          simp only [q2] at h
          exact ⟨O1, ρ1, S1, st1, AfterS.noexc (AfterS.mono h e1)⟩
        · subst eb
          simp only [q2] at h
          exact h O1 H1 σ1 _ _ e1 st1 ⟨rfl, dd, vs, rfl, hd, rf⟩
/-! ### xs.extend(e) -/
def dExt (f : ME) (g : MA) : ME := fun ρ S => (f ρ S).bind fun d S1 => match d with
  | .own k => (match S1[k]? with
    | some (.lst _) => (g ρ S1).bind fun es S2 => (match es, S2[k]? with
      | [.lst zs], some (.lst ds) => if ds.length + zs.length ≤ cap then .ok .non (S2.set k (.lst (ds ++ zs))) else .bad
      | [.own j], some (.lst ds) => (match S2[j]? with
        | some (.lst zs) => if ds.length + zs.length ≤ cap then .ok .non (S2.set k (.lst (ds ++ zs))) else .bad
        | _ => .bad)
      | _, _ => .bad)
    | _ => .bad)
  | _ => .bad
theorem de_ext (ho : DE X W o f) (ha : DA X W (e :: es) fa)
    (hbase : attributeBase o "extend" X.env (eval o X.env) = eval o X.env := by rfl)
    (hfew : ((backTo pos (starEach (e :: es) X.env)).all (fun x => !x.1) && (backToKw pos (keywordEach [] X.env)).all (fun x => x.1.isSome)
      && decide ((e :: es).length + ([] : List Keyword).length + (if ([] : List Keyword).isEmpty then 0 else 1) < 30)) = true := by rfl)
    (hline : (apos.endLine == pos.line) = true := by rfl) (hs : starEach (e :: es) X.env = (false, eval e X.env) :: starEach es X.env := by rfl) (hplain : (backTo pos (starEach es X.env)).any (·.1) = false := by rfl) :
    DE X W (.Call (.Attribute o "extend" apos) (e :: es) [] pos) (dExt f fa) :=
  ⟨PE.imp (pe_bm PySem.F.plainAttrs_list PySem.F.slot_list_extend PySem.F.type_list_extend mt_extend ho.pe ha.pa hbase hfew hline hs hplain) fun σ H Q ⟨O, ρ, S, st, h⟩ => ⟨O, ρ, S, st, After.seq h fun d S1 O1 H1 v e1 st1 r1 h1 => by
    cases d <;> try exact h1.elim
    rename_i k
    obtain ⟨a, ha, rfl⟩ := r1
    dsimp only at h1
    split at h1
    · rename_i ds hk
      obtain ⟨xs, hx, rx⟩ := st1.wf.cell k a _ ha hk
      refine ⟨.inl ⟨rfl, xs, SqL.of hx⟩, O1, ρ, S1, st1, After.seq h1 fun es S2 O2 H2 vs e2 st2 r2 h2 => ?_⟩
      have ha2 := e2.at ha
      split at h2
      · rename_i zs ds2 hk2
        obtain ⟨v, rfl, rv⟩ := r2.one
        obtain ⟨hc, h2⟩ := After.ite h2
        obtain ⟨b, ws, rfl, nb, hb, rw_⟩ := rv
        obtain ⟨ys, hy, ry⟩ := st2.wf.cell k a _ ha2 hk2
        refine ⟨a, b, ys, ws, rfl, rfl, hy, hb, by rw [← ry.length, ← rw_.length]; exact cap_line hc, ?_⟩
        obtain ⟨e3, st3⟩ := st2.mut (o := .lst (ys ++ ws)) (d := .lst (ds2 ++ zs)) ha2 fun e3 => ⟨_, upd_same, (ry.mono (e3.w st2.wf)).append (rw_.mono (e3.w st2.wf))⟩
        exact h2 O2 _ _ e3 st3 rfl
      · rename_i j ds2 hk2
        obtain ⟨v, rfl, rv⟩ := r2.one
        obtain ⟨b, hb, rfl⟩ := rv
        split at h2
        · rename_i zs hj
          obtain ⟨hc, h2⟩ := After.ite h2
          obtain ⟨ws, hw, rw_⟩ := st2.wf.cell j b _ hb hj
          obtain ⟨ys, hy, ry⟩ := st2.wf.cell k a _ ha2 hk2
          refine ⟨a, b, ys, ws, rfl, rfl, hy, hw, by rw [← ry.length, ← rw_.length]; exact cap_line hc, ?_⟩
          obtain ⟨e3, st3⟩ := st2.mut (o := .lst (ys ++ ws)) (d := .lst (ds2 ++ zs)) ha2 fun e3 => ⟨_, upd_same, (ry.mono (e3.w st2.wf)).append (rw_.mono (e3.w st2.wf))⟩
          exact h2 O2 _ _ e3 st3 rfl
        · exact h2.elim
      · exact h2.elim
    · exact h1.elim⟩⟩
end
/-- a def in a class's body -/
def clsDefAt (j : Nat) : Stmt → Stmt := fun s => match s with
  | .ClassDef _ _ _ body _ _ _ _ _ _ _ => body.getD j s
  | _ => s
end DE

set_option maxHeartbeats 4000000
namespace DE
open PySem PySem.Spec PyProof.Rows L2
section
variable {X : Cx} {W : WX} {a b c e : Expr} {f g : ME} {pos : Pos}
/-! ### slices of lists, owned ones too -/
def slDO (d : D) (lo hi : Option Int) (S : Sto) : RE D := match lstAt S d with
  | some ds => .ok (.lst (cutD ds lo hi)) S
  | none => .bad
def dSlO (f : ME) (lo hi : MO) : ME := fun ρ S => (f ρ S).bind fun d S1 => (lo ρ S1).bind fun l S2 => (hi ρ S2).bind fun u S3 => slDO d l u S3
def rSlDO (K : PySem.W.Frag) : V → Option Int → Option Int → Hp → VK → Prop := fun x lo hi H Q => ∃ W ρ σ O S d, Stt K O H ρ σ S ∧ Rep K O H d x ∧ After K W (Rep K) ρ σ O H Q (slDO d lo hi S)
theorem sl_slDO : SlR X (rSlDO X.K) := by
  intro pins s σ H x v vl vu lo hi sl Q I rx hsl pl pu ⟨W, ρ, σ', O, S, d, st, r1, h⟩
  unfold slDO at h
  cases q : lstAt S d with
  | none => rw [q] at h; exact h.elim
  | some ds =>
    rw [q] at h
    obtain ⟨p, xs, rfl, h1, q1⟩ := lstAt_rep st q r1
    refine sl_list pins s σ H _ v vl vu lo hi sl Q I rx hsl pl pu ⟨p, xs, rfl, SqL.of h1, fun t ht => ?_⟩
    obtain ⟨e2, st2⟩ := st.new (o := .lst (cutV xs lo hi)) ht
    exact h O _ _ e2 st2 ⟨t, _, rfl, st.no ht, upd_same, (q1.mono (e2.w st.wf)).cut lo hi⟩
theorem de_slO {lo hi : Option Expr} {p2 : Pos} {fl fh : MO} (ha : DE X W a f) (hl : DPo X W lo fl) (hh : DPo X W hi fh) : DE X W (.Subscript a (.Slice lo hi none p2) pos) (dSlO f fl fh) :=
  ⟨PE.imp (pe_slice sl_slDO ha.pe hl.po hh.po) fun σ H Q ⟨O, ρ, S, st, h⟩ => ⟨O, ρ, S, st, After.seq h fun d S1 O1 H1 v e1 st1 r1 h1 => ⟨O1, ρ, S1, st1, After.seq h1 fun l S2 O2 H2 v2 e2 st2 r2 h2 => ⟨O2, ρ, S2, st2, After.seq h2 fun u S3 O3 H3 v3 e3 st3 r3 h3 => by
    subst r2 r3
    exact ⟨W, ρ, σ, O3, S3, d, st3, r1.mono ((e2.trans e3).w st1.wf), h3⟩⟩⟩⟩⟩
end
end DE

set_option maxHeartbeats 4000000
namespace G
open PySem PySem.Spec PyProof.Rows L2 DE
def top (i : Nat) : Stmt := PySem.Challenge.pw_tombkeeper_k77_whole_plan_lines_judged.main.body.getD i (.Pass ⟨0, 0, 0, 0⟩)
abbrev s_is_word : Stmt := top 10
abbrev s_is_value : Stmt := top 11
abbrev s_is_number : Stmt := top 12
abbrev s_quoted : Stmt := top 13
abbrev s_unquoted : Stmt := top 14
abbrev s_number_in : Stmt := top 15
abbrev s_are_keys : Stmt := top 19
abbrev s_is_place_in_row : Stmt := top 20
abbrev s_is_event : Stmt := top 21
abbrev s_format_event : Stmt := top 22
abbrev s_event_in : Stmt := top 23
abbrev s_parse_event : Stmt := top 24
abbrev s_is_count : Stmt := top 29
abbrev s_inner_plans : Stmt := top 30
abbrev s_steps_in : Stmt := top 31
abbrev s_is_plan : Stmt := top 32
abbrev s_step_in : Stmt := top 33
abbrev s_event_step : Stmt := top 34
abbrev s_Reader___init__ : Stmt := clsDefAt 0 (top 35)
abbrev s_Reader_text_at : Stmt := clsDefAt 1 (top 35)
abbrev s_Reader_plan : Stmt := clsDefAt 2 (top 35)
abbrev s_Reader_body : Stmt := clsDefAt 3 (top 35)
abbrev s_Reader_filled : Stmt := clsDefAt 4 (top 35)
abbrev s_parse_plan : Stmt := top 36
abbrev s_law_pool : Stmt := top 38
abbrev s_law_take : Stmt := top 39
abbrev s_law_step : Stmt := top 40
abbrev s_law_plan : Stmt := top 41
abbrev s_law_head : Stmt := top 42
abbrev s_law_lines : Stmt := top 43
abbrev s_law_is_number : Stmt := top 44
abbrev s_law_is_word : Stmt := top 45
abbrev s_law_is_event : Stmt := top 46
abbrev s_law_kind : Stmt := top 47
abbrev s_law_depth : Stmt := top 48
abbrev s_law_bad : Stmt := top 49
abbrev s_law_due : Stmt := top 50
abbrev s_law_right : Stmt := top 51
abbrev s_law_odd_line : Stmt := top 52
abbrev s_law_bent : Stmt := top 53
abbrev s_law : Stmt := top 54
def d_is_word : He.DefD := ⟨("is_word", none), "is_word", "is_word", defArgs s_is_word, defBody s_is_word, defScope s_is_word, [], []⟩
def d_is_value : He.DefD := ⟨("is_value", none), "is_value", "is_value", defArgs s_is_value, defBody s_is_value, defScope s_is_value, [], []⟩
def d_is_number : He.DefD := ⟨("is_number", none), "is_number", "is_number", defArgs s_is_number, defBody s_is_number, defScope s_is_number, [], []⟩
def d_quoted : He.DefD := ⟨("quoted", none), "quoted", "quoted", defArgs s_quoted, defBody s_quoted, defScope s_quoted, [], []⟩
def d_unquoted : He.DefD := ⟨("unquoted", none), "unquoted", "unquoted", defArgs s_unquoted, defBody s_unquoted, defScope s_unquoted, [], []⟩
def d_number_in : He.DefD := ⟨("number_in", none), "number_in", "number_in", defArgs s_number_in, defBody s_number_in, defScope s_number_in, [], []⟩
def d_are_keys : He.DefD := ⟨("are_keys", none), "are_keys", "are_keys", defArgs s_are_keys, defBody s_are_keys, defScope s_are_keys, [], []⟩
def d_is_place_in_row : He.DefD := ⟨("is_place_in_row", none), "is_place_in_row", "is_place_in_row", defArgs s_is_place_in_row, defBody s_is_place_in_row, defScope s_is_place_in_row, [], []⟩
def d_is_event : He.DefD := ⟨("is_event", none), "is_event", "is_event", defArgs s_is_event, defBody s_is_event, defScope s_is_event, [], []⟩
def d_format_event : He.DefD := ⟨("format_event", none), "format_event", "format_event", defArgs s_format_event, defBody s_format_event, defScope s_format_event, [], []⟩
def d_event_in : He.DefD := ⟨("event_in", none), "event_in", "event_in", defArgs s_event_in, defBody s_event_in, defScope s_event_in, [], []⟩
def d_parse_event : He.DefD := ⟨("parse_event", none), "parse_event", "parse_event", defArgs s_parse_event, defBody s_parse_event, defScope s_parse_event, [], []⟩
def d_is_count : He.DefD := ⟨("is_count", none), "is_count", "is_count", defArgs s_is_count, defBody s_is_count, defScope s_is_count, [], []⟩
def d_inner_plans : He.DefD := ⟨("inner_plans", none), "inner_plans", "inner_plans", defArgs s_inner_plans, defBody s_inner_plans, defScope s_inner_plans, [], []⟩
def d_steps_in : He.DefD := ⟨("steps_in", none), "steps_in", "steps_in", defArgs s_steps_in, defBody s_steps_in, defScope s_steps_in, [], []⟩
def d_is_plan : He.DefD := ⟨("is_plan", none), "is_plan", "is_plan", defArgs s_is_plan, defBody s_is_plan, defScope s_is_plan, [], []⟩
def d_step_in : He.DefD := ⟨("step_in", none), "step_in", "step_in", defArgs s_step_in, defBody s_step_in, defScope s_step_in, [], []⟩
def d_event_step : He.DefD := ⟨("event_step", none), "event_step", "event_step", defArgs s_event_step, defBody s_event_step, defScope s_event_step, [], []⟩
def d_Reader___init__ : He.DefD := ⟨("Reader", some "__init__"), "__init__", "Reader.__init__", defArgs s_Reader___init__, defBody s_Reader___init__, defScope s_Reader___init__, [], []⟩
def d_Reader_text_at : He.DefD := ⟨("Reader", some "text_at"), "text_at", "Reader.text_at", defArgs s_Reader_text_at, defBody s_Reader_text_at, defScope s_Reader_text_at, [], []⟩
def d_Reader_plan : He.DefD := ⟨("Reader", some "plan"), "plan", "Reader.plan", defArgs s_Reader_plan, defBody s_Reader_plan, defScope s_Reader_plan, [], []⟩
def d_Reader_body : He.DefD := ⟨("Reader", some "body"), "body", "Reader.body", defArgs s_Reader_body, defBody s_Reader_body, defScope s_Reader_body, [], []⟩
def d_Reader_filled : He.DefD := ⟨("Reader", some "filled"), "filled", "Reader.filled", defArgs s_Reader_filled, defBody s_Reader_filled, defScope s_Reader_filled, [], []⟩
def d_parse_plan : He.DefD := ⟨("parse_plan", none), "parse_plan", "parse_plan", defArgs s_parse_plan, defBody s_parse_plan, defScope s_parse_plan, [], []⟩
def d_law_pool : He.DefD := ⟨("_law_pool", none), "_law_pool", "_law_pool", defArgs s_law_pool, defBody s_law_pool, defScope s_law_pool, [], []⟩
def d_law_take : He.DefD := ⟨("_law_take", none), "_law_take", "_law_take", defArgs s_law_take, defBody s_law_take, defScope s_law_take, [], []⟩
def d_law_step : He.DefD := ⟨("_law_step", none), "_law_step", "_law_step", defArgs s_law_step, defBody s_law_step, defScope s_law_step, [], []⟩
def d_law_plan : He.DefD := ⟨("_law_plan", none), "_law_plan", "_law_plan", defArgs s_law_plan, defBody s_law_plan, defScope s_law_plan, [], []⟩
def d_law_head : He.DefD := ⟨("_law_head", none), "_law_head", "_law_head", defArgs s_law_head, defBody s_law_head, defScope s_law_head, [], []⟩
def d_law_lines : He.DefD := ⟨("_law_lines", none), "_law_lines", "_law_lines", defArgs s_law_lines, defBody s_law_lines, defScope s_law_lines, [], []⟩
def d_law_is_number : He.DefD := ⟨("_law_is_number", none), "_law_is_number", "_law_is_number", defArgs s_law_is_number, defBody s_law_is_number, defScope s_law_is_number, [], []⟩
def d_law_is_word : He.DefD := ⟨("_law_is_word", none), "_law_is_word", "_law_is_word", defArgs s_law_is_word, defBody s_law_is_word, defScope s_law_is_word, [], []⟩
def d_law_is_event : He.DefD := ⟨("_law_is_event", none), "_law_is_event", "_law_is_event", defArgs s_law_is_event, defBody s_law_is_event, defScope s_law_is_event, [], []⟩
def d_law_kind : He.DefD := ⟨("_law_kind", none), "_law_kind", "_law_kind", defArgs s_law_kind, defBody s_law_kind, defScope s_law_kind, [], []⟩
def d_law_depth : He.DefD := ⟨("_law_depth", none), "_law_depth", "_law_depth", defArgs s_law_depth, defBody s_law_depth, defScope s_law_depth, [], []⟩
def d_law_bad : He.DefD := ⟨("_law_bad", none), "_law_bad", "_law_bad", defArgs s_law_bad, defBody s_law_bad, defScope s_law_bad, [], []⟩
def d_law_due : He.DefD := ⟨("_law_due", none), "_law_due", "_law_due", defArgs s_law_due, defBody s_law_due, defScope s_law_due, [], []⟩
def d_law_right : He.DefD := ⟨("_law_right", none), "_law_right", "_law_right", defArgs s_law_right, defBody s_law_right, defScope s_law_right, [], []⟩
def d_law_odd_line : He.DefD := ⟨("_law_odd_line", none), "_law_odd_line", "_law_odd_line", defArgs s_law_odd_line, defBody s_law_odd_line, defScope s_law_odd_line, [], []⟩
def d_law_bent : He.DefD := ⟨("_law_bent", none), "_law_bent", "_law_bent", defArgs s_law_bent, defBody s_law_bent, defScope s_law_bent, [], []⟩
def d_law : He.DefD := ⟨("law", none), "law", "law", defArgs s_law, defBody s_law, defScope s_law, [], []⟩
abbrev s_i_BadText : Stmt := clsDef (top 2)
def d_i_BadText : He.DefD := ⟨("BadText", some "__init__"), "__init__", "BadText.__init__", defArgs s_i_BadText, defBody s_i_BadText, defScope s_i_BadText, [], []⟩
theorem sc_i_BadText : FnScope ["self", "value"] ["self", "value"] (defScope s_i_BadText) := ⟨rfl, rfl, rfl, by decide +kernel, rfl, by decide +kernel, by decide +kernel⟩
abbrev s_i_BadEvent : Stmt := clsDef (top 3)
def d_i_BadEvent : He.DefD := ⟨("BadEvent", some "__init__"), "__init__", "BadEvent.__init__", defArgs s_i_BadEvent, defBody s_i_BadEvent, defScope s_i_BadEvent, [], []⟩
theorem sc_i_BadEvent : FnScope ["self", "value"] ["self", "value"] (defScope s_i_BadEvent) := ⟨rfl, rfl, rfl, by decide +kernel, rfl, by decide +kernel, by decide +kernel⟩
abbrev s_i_BadLine : Stmt := clsDef (top 4)
def d_i_BadLine : He.DefD := ⟨("BadLine", some "__init__"), "__init__", "BadLine.__init__", defArgs s_i_BadLine, defBody s_i_BadLine, defScope s_i_BadLine, [], []⟩
theorem sc_i_BadLine : FnScope ["self", "value"] ["self", "value"] (defScope s_i_BadLine) := ⟨rfl, rfl, rfl, by decide +kernel, rfl, by decide +kernel, by decide +kernel⟩
def fn : List He.DefD := [d_is_word, d_is_value, d_is_number, d_quoted, d_unquoted, d_number_in, d_are_keys, d_is_place_in_row, d_is_event, d_format_event, d_event_in, d_parse_event, d_is_count, d_inner_plans, d_steps_in, d_is_plan, d_step_in, d_event_step, d_Reader___init__, d_Reader_text_at, d_Reader_plan, d_Reader_body, d_Reader_filled, d_parse_plan, d_law_pool, d_law_take, d_law_step, d_law_plan, d_law_head, d_law_lines, d_law_is_number, d_law_is_word, d_law_is_event, d_law_kind, d_law_depth, d_law_bad, d_law_due, d_law_right, d_law_odd_line, d_law_bent, d_law, d_i_BadText, d_i_BadEvent, d_i_BadLine]
def fa : List He.Fa := [.glo "BadText", .glo "BadEvent", .glo "BadLine", .str "LETTERS" "abcdefghijklmnopqrstuvwxyz", .free "all", .free "len", .free "str", .free "isinstance", .glo "is_word", .int "MOST_VALUE" 40, .glo "is_value", .int "MOST_NUMBER" 1000000000000000, .free "bool", .free "int", .glo "is_number", .glo "quoted", .glo "unquoted", .str "DIGITS" "0123456789", .glo "number_in", .int "MOST_COUNT" 20, .glo "is_count", .cls "Reader", .noat "Reader" "many", .noat "Reader" "at", .noat "Reader" "lines", .mkr "Reader", .meth "Reader" "text_at", .glo "_law_pool", .glo "_law_take", .free "range", .glo "_law_is_number", .glo "_law_is_word", .glo "_law_depth", .free "list", .free "sorted", .free "set", .free "tuple", .glo "are_keys", .glo "is_place_in_row", .glo "event_in", .glo "_law_step", .glo "_law_plan", .glo "_law_odd_line", .glo "ALONE", .glo "WITH_WORD", .glo "is_event", .glo "_law_bent", .glo "format_event", .glo "inner_plans", .glo "parse_event", .int "MOST_STEPS" 200, .int "MOST_DEPTH" 6, .glo "steps_in", .glo "_law_head", .exm "BadText" "BadText" true, .glo "event_step", .glo "_law_lines", .glo "_law_is_event", .glo "step_in", .glo "_law_kind", .meth "Reader" "plan", .meth "Reader" "body", .meth "Reader" "filled", .glo "_law_bad", .glo "_law_due", .glo "is_plan", .glo "Reader", .glo "parse_plan", .exm "BadLine" "BadLine" true, .glo "_law_right", .free "min", .free "max", .glo "law"]
def TG : List ((Str × Str) × Bool) := []
def TT : List ((Str × String) × Bool) := []
def xs : List Xb := [xgB TG, xtB TT, x1B "BadText" "value", x1B "BadEvent" "value", x1B "BadLine" "value", fun K => He.tupB K "ALONE" [.str "save", .str "crash", .str "leave", .str "come"], fun K => He.tupB K "WITH_WORD" [.str "delete", .str "keep", .str "restore", .str "discard", .str "forget", .str "mute", .str "shut", .str "open", .str "drop"]]
structure T0 (K : PySem.W.Frag) (mg : Str → Option Value) : Prop where
  c : He.SaysD fa fn K
  x : (xs.all fun f => f K) = true
  h : ∃ h : Heap, K.In h ∧ h.Ns mainGlobals mg
section
variable {K : PySem.W.Frag} {mg : Str → Option Value}
theorem T0.xb (T : T0 K mg) (i : Nat) {f : Xb} (hx : xs[i]? = some f := by rfl) : f K = true := List.all_eq_true.mp T.x f (List.mem_of_getElem? hx)
theorem T0.free (T : T0 K mg) (i : Nat) {x : Str} (hx : fa[i]? = some (.free x) := by rfl) : mg x = none := by
  obtain ⟨h, X, G⟩ := T.h
  exact He.free_ok X G (T.c.fact i hx)
theorem T0.glo (T : T0 K mg) (i : Nat) {x : Str} (hx : fa[i]? = some (.glo x) := by rfl) : mg x = some (.ref (He.ga K x)) := by
  obtain ⟨h, X, G⟩ := T.h
  exact He.glo_ok X G (T.c.fact i hx)
theorem T0.int (T : T0 K mg) (i : Nat) {x : Str} {z : Int} (hx : fa[i]? = some (.int x z) := by rfl) : ∃ t, mg x = some (.int z t) := by
  obtain ⟨h, X, G⟩ := T.h
  exact He.int_ok X G (T.c.fact i hx)
theorem T0.str (T : T0 K mg) (i : Nat) {x z : Str} (hx : fa[i]? = some (.str x z) := by rfl) : ∃ t, mg x = some (.str z t) := by
  obtain ⟨h, X, G⟩ := T.h
  exact He.str_ok X G (T.c.fact i hx)
end
section
variable {P : Program} {w : World} {K : PySem.W.Frag} {mg : Str → Option Value} {base : Heap}
theorem fc_at (T : T0 K mg) : ∀ c ∈ (["Reader"] : List Str), Cls K (He.ga K c) ∧ NoAttr K (He.ga K c) "at" := fun c hc => by
  rw [List.mem_singleton.mp hc]
  exact ⟨He.cls_ok (T.c.fact 21 (f := .cls "Reader")), He.noat_ok (T.c.fact 23 (f := .noat "Reader" "at"))⟩
theorem fc_lines (T : T0 K mg) : ∀ c ∈ (["Reader"] : List Str), Cls K (He.ga K c) ∧ NoAttr K (He.ga K c) "lines" := fun c hc => by
  rw [List.mem_singleton.mp hc]
  exact ⟨He.cls_ok (T.c.fact 21 (f := .cls "Reader")), He.noat_ok (T.c.fact 24 (f := .noat "Reader" "lines"))⟩
theorem fc_many (T : T0 K mg) : ∀ c ∈ (["Reader"] : List Str), Cls K (He.ga K c) ∧ NoAttr K (He.ga K c) "many" := fun c hc => by
  rw [List.mem_singleton.mp hc]
  exact ⟨He.cls_ok (T.c.fact 21 (f := .cls "Reader")), He.noat_ok (T.c.fact 22 (f := .noat "Reader" "many"))⟩
theorem err_BadText (T : T0 K mg) : Err P w K mg base "BadText" "value" := by
  obtain ⟨fd, F⟩ := T.c.def_ 41 (d := d_i_BadText) rfl
  exact ⟨x1B_ok (T.xb 2 (f := x1B "BadText" "value")), ⟨fd, init_of F rfl sc_i_BadText rfl rfl, F.bindsN fun _ _ _ _ _ _ us hl => match us, hl with | [_, _], _ => rfl⟩, T.glo 0⟩
theorem err_BadEvent (T : T0 K mg) : Err P w K mg base "BadEvent" "value" := by
  obtain ⟨fd, F⟩ := T.c.def_ 42 (d := d_i_BadEvent) rfl
  exact ⟨x1B_ok (T.xb 3 (f := x1B "BadEvent" "value")), ⟨fd, init_of F rfl sc_i_BadEvent rfl rfl, F.bindsN fun _ _ _ _ _ _ us hl => match us, hl with | [_, _], _ => rfl⟩, T.glo 1⟩
theorem err_BadLine (T : T0 K mg) : Err P w K mg base "BadLine" "value" := by
  obtain ⟨fd, F⟩ := T.c.def_ 43 (d := d_i_BadLine) rfl
  exact ⟨x1B_ok (T.xb 4 (f := x1B "BadLine" "value")), ⟨fd, init_of F rfl sc_i_BadLine rfl rfl, F.bindsN fun _ _ _ _ _ _ us hl => match us, hl with | [_, _], _ => rfl⟩, T.glo 2⟩
def B_is_word : MS := (sSeq (sIf (dOrT (dNotT (dTest (dBlt oIsi (aCons (dVar 0) (aCons (dC (.ty "str")) aNil))))) (dNotT (dTest (dChain oLe oLe (dC (.int 1)) (dBlt oLen (aCons (dVar 0) aNil)) (dC (.int 8))))))
    (sRet (dC (.bl false)))
    sNil)
    (sRet (dBlt oAll (aCons (dLC [1] (iOf (dVar 0)) (gN 1) mYes (dBin oIn (dVar 1) (dC (.str "abcdefghijklmnopqrstuvwxyz")))) aNil))))
def F_is_word : FD := fnD 2 B_is_word
theorem sc_is_word : FnScope ["thing", "sign"] ["thing"] (defScope s_is_word) := ⟨rfl, rfl, rfl, by decide +kernel, rfl, by decide +kernel, by decide +kernel⟩
theorem ok_is_word (T : T0 K mg) : FnG P w K mg base 1 "is_word" 1 F_is_word := by
  obtain ⟨fd, F⟩ := T.c.def_ 0 (d := d_is_word) rfl
  refine ⟨⟨fd, ["thing"], fn_dataG F sc_is_word fun cdv A outer s H E hr gd0 => ?_, F.bindsN fun _ _ _ _ _ _ us hl => match us, hl with | [_], _ => rfl⟩, T.glo 8, F.kp⟩
  exact (dss_cons (ds_if (DW.dt (dw_or (dt_not (dt_val (de_bf c_oIsi rfl (T.free 7) (by decide +kernel) (da_cons (dv 0) (da_cons (de_ty (n := "str") rfl (T.free 6) (by decide +kernel)) da_nil))))) (dw_or1 (dt_not (dt_chain op_oLe op_oLe de_int (de_bf c_oLen rfl (T.free 5) (by decide +kernel) (da_cons (dv 0) da_nil)) de_int)))))
    (dss_one (ds_ret de_bl))
    dss_nil)
    (dss_one (ds_ret (de_bf (c_oAll rfl) rfl (T.free 4) (by decide +kernel) (da_cons (de_lc rfl sc_is_word.nd (di_any (dv 0)) (blkOk_by (own := [("sign", 1)]) (by kernel_rfl)) (fun _ _ _ _ _ => (dg_name 1 sc_is_word.nd rfl (by first | exact Or.inl rfl | exact Or.inr rfl))) (fun _ _ _ _ _ => dts_nil) (fun _ _ _ _ _ => (de_rel op_oIn (dv 1) (de_gstr (T.str 3)))) (by decide)) da_nil)))))
def B_is_value : MS := (sRet (dAnd (dBlt oIsi (aCons (dVar 0) (aCons (dC (.ty "str")) aNil))) (dAnd (dBin oLe (dBlt oLen (aCons (dVar 0) aNil)) (dC (.int 40))) (dBlt oAll (aCons (dLC [1] (iOf (dVar 0)) (gN 1) mYes (dChain oLe oLe (dC (.str " ")) (dVar 1) (dC (.str "~")))) aNil)))))
def F_is_value : FD := fnD 2 B_is_value
theorem sc_is_value : FnScope ["thing", "sign"] ["thing"] (defScope s_is_value) := ⟨rfl, rfl, rfl, by decide +kernel, rfl, by decide +kernel, by decide +kernel⟩
theorem ok_is_value (T : T0 K mg) : FnG P w K mg base 1 "is_value" 1 F_is_value := by
  obtain ⟨fd, F⟩ := T.c.def_ 1 (d := d_is_value) rfl
  refine ⟨⟨fd, ["thing"], fn_dataG F sc_is_value fun cdv A outer s H E hr gd0 => ?_, F.bindsN fun _ _ _ _ _ _ us hl => match us, hl with | [_], _ => rfl⟩, T.glo 10, F.kp⟩
  exact (dss_one (ds_ret (de_and (de_bf c_oIsi rfl (T.free 7) (by decide +kernel) (da_cons (dv 0) (da_cons (de_ty (n := "str") rfl (T.free 6) (by decide +kernel)) da_nil))) (de_and (de_rel op_oLe (de_bf c_oLen rfl (T.free 5) (by decide +kernel) (da_cons (dv 0) da_nil)) (de_gint (T.int 9))) (de_one (de_bf (c_oAll rfl) rfl (T.free 4) (by decide +kernel) (da_cons (de_lc rfl sc_is_value.nd (di_any (dv 0)) (blkOk_by (own := [("sign", 1)]) (by kernel_rfl)) (fun _ _ _ _ _ => (dg_name 1 sc_is_value.nd rfl (by first | exact Or.inl rfl | exact Or.inr rfl))) (fun _ _ _ _ _ => dts_nil) (fun _ _ _ _ _ => (de_chain op_oLe op_oLe de_str (dv 1) de_str)) (by decide)) da_nil)))))))
def B_is_number : MS := (sRet (dAnd (dBlt oIsi (aCons (dVar 0) (aCons (dC (.ty "int")) aNil))) (dAnd (dNot (dBlt oIsi (aCons (dVar 0) (aCons (dC (.ty "bool")) aNil)))) (dChain oLe oLe (dC (.int 1)) (dVar 0) (dC (.int 1000000000000000))))))
def F_is_number : FD := fnD 1 B_is_number
theorem sc_is_number : FnScope ["thing"] ["thing"] (defScope s_is_number) := ⟨rfl, rfl, rfl, by decide +kernel, rfl, by decide +kernel, by decide +kernel⟩
theorem ok_is_number (T : T0 K mg) : FnG P w K mg base 1 "is_number" 1 F_is_number := by
  obtain ⟨fd, F⟩ := T.c.def_ 2 (d := d_is_number) rfl
  refine ⟨⟨fd, ["thing"], fn_dataG F sc_is_number fun cdv A outer s H E hr gd0 => ?_, F.bindsN fun _ _ _ _ _ _ us hl => match us, hl with | [_], _ => rfl⟩, T.glo 14, F.kp⟩
  exact (dss_one (ds_ret (de_and (de_bf c_oIsi rfl (T.free 7) (by decide +kernel) (da_cons (dv 0) (da_cons (de_ty (n := "int") rfl (T.free 13) (by decide +kernel)) da_nil))) (de_and (de_not (de_bf c_oIsi rfl (T.free 7) (by decide +kernel) (da_cons (dv 0) (da_cons (de_ty (n := "bool") rfl (T.free 12) (by decide +kernel)) da_nil)))) (de_one (de_chain op_oLe op_oLe de_int (dv 0) (de_gint (T.int 11))))))))
def B_quoted : MS := (sRet (dBin oAdd (dBin oAdd (dC (.str "\"")) (dRep "\"" "\\\"" (dRep "\\" "\\\\" (dVar 0)))) (dC (.str "\""))))
def F_quoted : FD := fnD 1 B_quoted
theorem sc_quoted : FnScope ["text"] ["text"] (defScope s_quoted) := ⟨rfl, rfl, rfl, by decide +kernel, rfl, by decide +kernel, by decide +kernel⟩
theorem ok_quoted (T : T0 K mg) : FnG P w K mg base 1 "quoted" 1 F_quoted := by
  obtain ⟨fd, F⟩ := T.c.def_ 3 (d := d_quoted) rfl
  refine ⟨⟨fd, ["text"], fn_dataG F sc_quoted fun cdv A outer s H E hr gd0 => ?_, F.bindsN fun _ _ _ _ _ _ us hl => match us, hl with | [_], _ => rfl⟩, T.glo 15, F.kp⟩
  exact (dss_one (ds_ret (de_bin op_oAdd (de_strT op_oAdd (det_rep (det_rep (DE.t (dv 0))))) de_str)))
def L_unquoted_1_t : MT := (dTest (dBin oLt (dVar 2) (dBlt oLen (aCons (dVar 3) aNil))))
def L_unquoted_1 : MS := (sSeq (sIf (dOrT (dTest (dBin oEq (dBin oIx (dVar 3) (dVar 2)) (dC (.str "\"")))) (dAndT (dTest (dBin oEq (dSl (dVar 3) (oPart (dVar 2)) (oPart (dBin oAdd (dVar 2) (dC (.int 1))))) (dC (.str "\\")))) (dTest (dBin oNotIn (dSl (dVar 3) (oPart (dBin oAdd (dVar 2) (dC (.int 1)))) (oPart (dBin oAdd (dVar 2) (dC (.int 2))))) (dTup (aCons (dC (.str "\\")) (aCons (dC (.str "\"")) aNil)))))))
    (sRet (dC .non))
    sNil)
    (sSeq (sAugA 2 (dBlt oIntA (aCons (dBin oEq (dBin oIx (dVar 3) (dVar 2)) (dC (.str "\\"))) aNil)))
    (sSeq (sAugA 1 (dBin oIx (dVar 3) (dVar 2)))
    (sAugA 2 (dC (.int 1))))))
def B_unquoted : MS := (sSeq (sIf (dOrT (dTest (dBin oLt (dBlt oLen (aCons (dVar 0) aNil)) (dC (.int 2)))) (dOrT (dTest (dBin oNe (dBin oIx (dVar 0) (dC (.int 0))) (dC (.str "\"")))) (dTest (dBin oNe (dBin oIx (dVar 0) (dNeg (dC (.int 1)))) (dC (.str "\""))))))
    (sRet (dC .non))
    sNil)
    (sSeq (sPar3 1 2 3 (aCons (dC (.str "")) (aCons (dC (.int 0)) (aCons (dSl (dVar 0) (oPart (dC (.int 1))) (oPart (dNeg (dC (.int 1))))) aNil))))
    (sSeq (whileN L_unquoted_1_t L_unquoted_1 20000)
    (sRet (dVar 1)))))
def F_unquoted : FD := fnD 4 B_unquoted
theorem sc_unquoted : FnScope ["text", "found", "at", "inner"] ["text"] (defScope s_unquoted) := ⟨rfl, rfl, rfl, by decide +kernel, rfl, by decide +kernel, by decide +kernel⟩
theorem ok_unquoted (T : T0 K mg) : FnG P w K mg base 1 "unquoted" 1 F_unquoted := by
  obtain ⟨fd, F⟩ := T.c.def_ 4 (d := d_unquoted) rfl
  refine ⟨⟨fd, ["text"], fn_dataG F sc_unquoted fun cdv A outer s H E hr gd0 => ?_, F.bindsN fun _ _ _ _ _ _ us hl => match us, hl with | [_], _ => rfl⟩, T.glo 16, F.kp⟩
  exact (dss_cons (ds_if (DW.dt (dw_or (dt_rel op_oLt (de_bf c_oLen rfl (T.free 5) (by decide +kernel) (da_cons (dv 0) da_nil)) de_int) (dw_or (dt_rel (op_oNe hr.units) (de_ix (dv 0) de_int) de_str) (dw_or1 (dt_rel (op_oNe hr.units) (de_ix (dv 0) (de_neg de_int)) de_str)))))
    (dss_one (ds_ret de_non))
    dss_nil)
    (dss_cons (ds_par3 1 2 3 rfl sc_unquoted.nd (da_cons de_str (da_cons de_int (da_cons (de_sl (dv 0) (dpo_some de_int) (dpo_some (de_neg de_int))) da_nil))))
    (dss_cons (ds_while 20000 (passes_of rfl) (dt_rel op_oLt (dv 2) (de_bf c_oLen rfl (T.free 5) (by decide +kernel) (da_cons (dv 3) da_nil)))
    (dss_cons (ds_if (DW.dt (dw_or (dt_rel (op_oEq hr.units) (de_ix (dv 3) (dv 2)) de_str) (dw_or1 (DW.dt (dw_and (dt_rel (op_oEq hr.units) (de_sl (dv 3) (dpo_some (dv 2)) (dpo_some (de_bin op_oAdd (dv 2) de_int))) de_str) (dw_and1 (dt_rel op_oNotIn (de_sl (dv 3) (dpo_some (de_bin op_oAdd (dv 2) de_int)) (dpo_some (de_bin op_oAdd (dv 2) de_int))) (de_tup (da_cons de_str (da_cons de_str da_nil))))))))))
    (dss_one (ds_ret de_non))
    dss_nil)
    (dss_cons (ds_augA 2 sc_unquoted.nd rfl (by first | exact Or.inl rfl | exact Or.inr rfl) (de_bt c_oIntA rfl (T.free 13) (by decide +kernel) (da_cons (de_rel (op_oEq hr.units) (de_ix (dv 3) (dv 2)) de_str) da_nil)))
    (dss_cons (ds_augA 1 sc_unquoted.nd rfl (by first | exact Or.inl rfl | exact Or.inr rfl) (de_ix (dv 3) (dv 2)))
    (dss_one (ds_augA 2 sc_unquoted.nd rfl (by first | exact Or.inl rfl | exact Or.inr rfl) de_int))))))
    (dss_one (ds_ret (dv 1))))))
def B_number_in : MS := (sSeq (sIf (dOrT (dNotT (dTest (dChain oLe oLe (dC (.int 1)) (dBlt oLen (aCons (dVar 0) aNil)) (dC (.int 16))))) (dOrT (dNotT (dTest (dBlt oAll (aCons (dLC [1] (iOf (dVar 0)) (gN 1) mYes (dBin oIn (dVar 1) (dC (.str "0123456789")))) aNil)))) (dAndT (dTest (dBin oEq (dBin oIx (dVar 0) (dC (.int 0))) (dC (.str "0")))) (dTest (dBin oNe (dVar 0) (dC (.str "0")))))))
    (sRet (dC .non))
    sNil)
    (sRet (dBlt oIntA (aCons (dVar 0) aNil))))
def F_number_in : FD := fnD 2 B_number_in
theorem sc_number_in : FnScope ["text", "sign"] ["text"] (defScope s_number_in) := ⟨rfl, rfl, rfl, by decide +kernel, rfl, by decide +kernel, by decide +kernel⟩
theorem ok_number_in (T : T0 K mg) : FnG P w K mg base 1 "number_in" 1 F_number_in := by
  obtain ⟨fd, F⟩ := T.c.def_ 5 (d := d_number_in) rfl
  refine ⟨⟨fd, ["text"], fn_dataG F sc_number_in fun cdv A outer s H E hr gd0 => ?_, F.bindsN fun _ _ _ _ _ _ us hl => match us, hl with | [_], _ => rfl⟩, T.glo 18, F.kp⟩
  exact (dss_cons (ds_if (DW.dt (dw_or (dt_not (dt_chain op_oLe op_oLe de_int (de_bf c_oLen rfl (T.free 5) (by decide +kernel) (da_cons (dv 0) da_nil)) de_int)) (dw_or (dt_not (dt_val (de_bf (c_oAll rfl) rfl (T.free 4) (by decide +kernel) (da_cons (de_lc rfl sc_number_in.nd (di_any (dv 0)) (blkOk_by (own := [("sign", 1)]) (by kernel_rfl)) (fun _ _ _ _ _ => (dg_name 1 sc_number_in.nd rfl (by first | exact Or.inl rfl | exact Or.inr rfl))) (fun _ _ _ _ _ => dts_nil) (fun _ _ _ _ _ => (de_rel op_oIn (dv 1) (de_gstr (T.str 17)))) (by decide)) da_nil)))) (dw_or1 (DW.dt (dw_and (dt_rel (op_oEq hr.units) (de_ix (dv 0) de_int) de_str) (dw_and1 (dt_rel (op_oNe hr.units) (dv 0) de_str))))))))
    (dss_one (ds_ret de_non))
    dss_nil)
    (dss_one (ds_ret (de_bt c_oIntA rfl (T.free 13) (by decide +kernel) (da_cons (dv 0) da_nil)))))
def B_is_count : MS := (sRet (dAnd (dBlt oIsi (aCons (dVar 0) (aCons (dC (.ty "int")) aNil))) (dAnd (dNot (dBlt oIsi (aCons (dVar 0) (aCons (dC (.ty "bool")) aNil)))) (dChain oLe oLe (dC (.int 1)) (dVar 0) (dC (.int 20))))))
def F_is_count : FD := fnD 1 B_is_count
theorem sc_is_count : FnScope ["thing"] ["thing"] (defScope s_is_count) := ⟨rfl, rfl, rfl, by decide +kernel, rfl, by decide +kernel, by decide +kernel⟩
theorem ok_is_count (T : T0 K mg) : FnG P w K mg base 1 "is_count" 1 F_is_count := by
  obtain ⟨fd, F⟩ := T.c.def_ 12 (d := d_is_count) rfl
  refine ⟨⟨fd, ["thing"], fn_dataG F sc_is_count fun cdv A outer s H E hr gd0 => ?_, F.bindsN fun _ _ _ _ _ _ us hl => match us, hl with | [_], _ => rfl⟩, T.glo 20, F.kp⟩
  exact (dss_one (ds_ret (de_and (de_bf c_oIsi rfl (T.free 7) (by decide +kernel) (da_cons (dv 0) (da_cons (de_ty (n := "int") rfl (T.free 13) (by decide +kernel)) da_nil))) (de_and (de_not (de_bf c_oIsi rfl (T.free 7) (by decide +kernel) (da_cons (dv 0) (da_cons (de_ty (n := "bool") rfl (T.free 12) (by decide +kernel)) da_nil)))) (de_one (de_chain op_oLe op_oLe de_int (dv 0) (de_gint (T.int 19))))))))
def B_Reader___init__ : MS := (sSeq (sFldO "lines" ["Reader"] (dVar 0) (dVar 1))
    (sSeq (sFldO "at" ["Reader"] (dVar 0) (dC (.int 0)))
    (sFldO "many" ["Reader"] (dVar 0) (dC (.int 0)))))
def F_Reader___init__ : FD := fnD 2 B_Reader___init__
theorem sc_Reader___init__ : FnScope ["self", "lines"] ["self", "lines"] (defScope s_Reader___init__) := ⟨rfl, rfl, rfl, by decide +kernel, rfl, by decide +kernel, by decide +kernel⟩
theorem mkr_Reader (T : T0 K mg) : Mk K (He.ga K "Reader") (He.ma K (He.ga K "Reader") "__init__") := He.mkr_ok (T.c.fact 25 (f := .mkr "Reader"))
theorem ok_Reader___init__ (T : T0 K mg) : ∃ fd, FnGd P w K mg base 1 (He.ma K (He.ga K "Reader") "__init__") fd ["self", "lines"] (spD K 2 F_Reader___init__) ∧ Binds K fd ["self", "lines"] [] := by
  obtain ⟨fd, F⟩ := T.c.def_ 18 (d := d_Reader___init__) rfl
  refine ⟨fd, fn_dataG F sc_Reader___init__ fun cdv A outer s H E hr gd0 => ?_, F.bindsN fun _ _ _ _ _ _ us hl => match us, hl with | [_, _], _ => rfl⟩
  exact (dss_cons (ds_fldO (dv 0) (dv 1) (fc_lines T))
    (dss_cons (ds_fldO (dv 0) de_int (fc_at T))
    (dss_one (ds_fldO (dv 0) de_int (fc_many T)))))
theorem mk_Reader {X : Cx} (T : T0 X.K X.mg) : CalleeX X 2 (He.ga X.K "Reader") 1 [] (makeF "Reader" (bindF 2 2 (fun ds es => ds ++ es) F_Reader___init__)) := by
  obtain ⟨fd, g, b⟩ := ok_Reader___init__ (P := X.prog) (w := X.w) (base := X.base) T
  exact callee_mk (mkr_Reader T) g (KBD.of_binds b)
def B_Reader_text_at : MS := (sSeq (sIf (dTest (dBin oEq (dFld "at" ["Reader"] (dVar 0)) (dBlt oLen (aCons (dFld "lines" ["Reader"] (dVar 0)) aNil))))
    (sRet (dC .non))
    sNil)
    (sSeq (sAsg (dBin oIx (dFld "lines" ["Reader"] (dVar 0)) (dFld "at" ["Reader"] (dVar 0))) (gN 2))
    (sSeq (sIf (dNotT (dTest (dTM oStarts (dVar 2) (aCons (dBin oMul (dC (.str "  ")) (dVar 1)) aNil))))
    (sRet (dC .non))
    sNil)
    (sRet (dSl (dVar 2) (oPart (dBin oMul (dC (.int 2)) (dVar 1))) oNoPart)))))
def F_Reader_text_at : FD := fnD 3 B_Reader_text_at
theorem sc_Reader_text_at : FnScope ["self", "depth", "line"] ["self", "depth"] (defScope s_Reader_text_at) := ⟨rfl, rfl, rfl, by decide +kernel, rfl, by decide +kernel, by decide +kernel⟩
theorem ok_Reader_text_at (T : T0 K mg) : MethA P w K mg base 1 "Reader" "text_at" 2 F_Reader_text_at := by
  obtain ⟨fd, F⟩ := T.c.def_ 19 (d := d_Reader_text_at) rfl
  refine ⟨⟨fd, ["self", "depth"], fn_dataG F sc_Reader_text_at fun cdv A outer s H E hr gd0 => ?_, F.bindsN fun _ _ _ _ _ _ us hl => match us, hl with | [_, _], _ => rfl⟩, He.meth_ok (T.c.fact 26 (f := .meth "Reader" "text_at")), He.cls_ok (T.c.fact 21 (f := .cls "Reader"))⟩
  exact (dss_cons (ds_if (dt_rel (op_oEq hr.units) (de_fld (dv 0) (fc_at T)) (de_bf c_oLen rfl (T.free 5) (by decide +kernel) (da_cons (de_fld (dv 0) (fc_lines T)) da_nil)))
    (dss_one (ds_ret de_non))
    dss_nil)
    (dss_cons (ds_set 2 sc_Reader_text_at.nd rfl (by first | exact Or.inl rfl | exact Or.inr rfl) (de_ix (de_fld (dv 0) (fc_lines T)) (de_fld (dv 0) (fc_at T))))
    (dss_cons (ds_if (dt_not (dt_val (de_tm PySem.F.slot_str_startswith PySem.F.type_str_startswith mt_startswith m_oStarts (dv 2) (da_cons (de_bin op_oMul de_str (dv 1)) da_nil))))
    (dss_one (ds_ret de_non))
    dss_nil)
    (dss_one (ds_ret (de_sl (dv 2) (dpo_some (de_bin op_oMul de_int (dv 1))) dpo_none))))))
def B_law_pool : MS := (sSeq (sAsg (dIfE (dTest (dBin oLt (dVar 1) (dBlt oLen (aCons (dVar 0) aNil)))) (dBin oIx (dVar 0) (dVar 1)) (dC (.int 0))) (gN 2))
    (sSeq (sAsg (dBin oMul (dBlt oIntA (aCons (dBin oAdd (dBin oAdd (dBin oMod (dBlt oIntA (aCons (dVar 2) aNil)) (dC (.int 2147483629))) (dBin oMul (dBin oMul (dC (.int 7919)) (dVar 1)) (dVar 1))) (dC (.int 13))) aNil)) (dC (.int 48271))) (gN 3))
    (sRet (dLstO (aCons (dIfE (dTest (dBin oGe (dVar 2) (dBin oPow (dC (.int 10)) (dC (.int 18))))) (dVar 2) (dC (.int 0))) (aCons (dBin oAdd (dBin oMod (dBlt oIntA (aCons (dVar 3) aNil)) (dC (.int 2147483647))) (dC (.int 1))) aNil))))))
def F_law_pool : FD := fnD 4 B_law_pool
theorem sc_law_pool : FnScope ["_law_script", "_law_k", "_law_cell", "_law_seed"] ["_law_script", "_law_k"] (defScope s_law_pool) := ⟨rfl, rfl, rfl, by decide +kernel, rfl, by decide +kernel, by decide +kernel⟩
theorem ok_law_pool (T : T0 K mg) : FnG P w K mg base 1 "_law_pool" 2 F_law_pool := by
  obtain ⟨fd, F⟩ := T.c.def_ 24 (d := d_law_pool) rfl
  refine ⟨⟨fd, ["_law_script", "_law_k"], fn_dataG F sc_law_pool fun cdv A outer s H E hr gd0 => ?_, F.bindsN fun _ _ _ _ _ _ us hl => match us, hl with | [_, _], _ => rfl⟩, T.glo 27, F.kp⟩
  exact (dss_cons (ds_set 2 sc_law_pool.nd rfl (by first | exact Or.inl rfl | exact Or.inr rfl) (de_if (dt_rel op_oLt (dv 1) (de_bf c_oLen rfl (T.free 5) (by decide +kernel) (da_cons (dv 0) da_nil))) (de_ix (dv 0) (dv 1)) de_int))
    (dss_cons (ds_set 3 sc_law_pool.nd rfl (by first | exact Or.inl rfl | exact Or.inr rfl) (de_bin op_oMul (de_bt c_oIntA rfl (T.free 13) (by decide +kernel) (da_cons (de_bin op_oAdd (de_bin op_oAdd (de_bin op_oMod (de_bt c_oIntA rfl (T.free 13) (by decide +kernel) (da_cons (dv 2) da_nil)) de_int) (de_bin op_oMul (de_bin op_oMul de_int (dv 1)) (dv 1))) de_int) da_nil)) de_int))
    (dss_one (ds_ret (de_lstO (da_cons (de_if (dt_rel op_oGe (dv 2) (de_bin op_oPow de_int de_int)) (dv 2) de_int) (da_cons (de_bin op_oAdd (de_bin op_oMod (de_bt c_oIntA rfl (T.free 13) (by decide +kernel) (da_cons (dv 3) da_nil)) de_int) de_int) da_nil)))))))
def B_law_take : MS := (sSeq (sIf (dTest (dBin oGt (dBin oIx (dVar 0) (dC (.int 0))) (dC (.int 0))))
    (sSeq (sAsg (dBin oMod (dBlt oIntA (aCons (dBin oIx (dVar 0) (dC (.int 0))) aNil)) (dVar 1)) (gN 2))
    (sSeq (sSetIx (dBin oFDiv (dBin oIx (dVar 0) (dC (.int 0))) (dVar 1)) (dVar 0) (dC (.int 0)))
    (sRet (dVar 2))))
    sNil)
    (sSeq (sSetIx (dBin oMod (dBlt oIntA (aCons (dBin oAdd (dBin oMul (dBin oIx (dVar 0) (dC (.int 1))) (dC (.int 48271))) (dC (.int 11))) aNil)) (dC (.int 2147483647))) (dVar 0) (dC (.int 1)))
    (sRet (dBin oMod (dBin oFDiv (dBin oMod (dBlt oIntA (aCons (dBin oMul (dBin oIx (dVar 0) (dC (.int 1))) (dBin oIx (dVar 0) (dC (.int 1)))) aNil)) (dC (.int 2147483629))) (dC (.int 64))) (dVar 1)))))
def F_law_take : FD := fnD 3 B_law_take
theorem sc_law_take : FnScope ["_law_pool_here", "_law_many", "_law_found"] ["_law_pool_here", "_law_many"] (defScope s_law_take) := ⟨rfl, rfl, rfl, by decide +kernel, rfl, by decide +kernel, by decide +kernel⟩
theorem ok_law_take (T : T0 K mg) : FnG P w K mg base 1 "_law_take" 2 F_law_take := by
  obtain ⟨fd, F⟩ := T.c.def_ 25 (d := d_law_take) rfl
  refine ⟨⟨fd, ["_law_pool_here", "_law_many"], fn_dataG F sc_law_take fun cdv A outer s H E hr gd0 => ?_, F.bindsN fun _ _ _ _ _ _ us hl => match us, hl with | [_, _], _ => rfl⟩, T.glo 28, F.kp⟩
  exact (dss_cons (ds_if (dt_rel op_oGt (de_ix (dv 0) de_int) de_int)
    (dss_cons (ds_set 2 sc_law_take.nd rfl (by first | exact Or.inl rfl | exact Or.inr rfl) (de_bin op_oMod (de_bt c_oIntA rfl (T.free 13) (by decide +kernel) (da_cons (de_ix (dv 0) de_int) da_nil)) (dv 1)))
    (dss_cons (ds_setIx (de_bin op_oFDiv (de_ix (dv 0) de_int) (dv 1)) (dv 0) de_int)
    (dss_one (ds_ret (dv 2)))))
    dss_nil)
    (dss_cons (ds_setIx (de_bin op_oMod (de_bt c_oIntA rfl (T.free 13) (by decide +kernel) (da_cons (de_bin op_oAdd (de_bin op_oMul (de_ix (dv 0) de_int) de_int) de_int) da_nil)) de_int) (dv 0) de_int)
    (dss_one (ds_ret (de_bin op_oMod (de_bin op_oFDiv (de_bin op_oMod (de_bt c_oIntA rfl (T.free 13) (by decide +kernel) (da_cons (de_bin op_oMul (de_ix (dv 0) de_int) (de_ix (dv 0) de_int)) da_nil)) de_int) de_int) (dv 1))))))
def B_law_is_number : MS := (sRet (dBin oIn (dVar 0) (dLC [1] (iR2 (aCons (dC (.int 1)) (aCons (dC (.int 21)) aNil))) (gN 1) mYes (dBlt oStr (aCons (dVar 1) aNil)))))
def F_law_is_number : FD := fnD 2 B_law_is_number
theorem sc_law_is_number : FnScope ["_law_text", "_law_count"] ["_law_text"] (defScope s_law_is_number) := ⟨rfl, rfl, rfl, by decide +kernel, rfl, by decide +kernel, by decide +kernel⟩
theorem ok_law_is_number (T : T0 K mg) : FnG P w K mg base 1 "_law_is_number" 1 F_law_is_number := by
  obtain ⟨fd, F⟩ := T.c.def_ 30 (d := d_law_is_number) rfl
  refine ⟨⟨fd, ["_law_text"], fn_dataG F sc_law_is_number fun cdv A outer s H E hr gd0 => ?_, F.bindsN fun _ _ _ _ _ _ us hl => match us, hl with | [_], _ => rfl⟩, T.glo 30, F.kp⟩
  exact (dss_one (ds_ret (de_rel op_oIn (dv 0) (de_lc rfl sc_law_is_number.nd (di_range2 rfl (T.free 29) (da_cons de_int (da_cons de_int da_nil))) (blkOk_by (own := [("_law_count", 1)]) (by kernel_rfl)) (fun _ _ _ _ _ => (dg_name 1 sc_law_is_number.nd rfl (by first | exact Or.inl rfl | exact Or.inr rfl))) (fun _ _ _ _ _ => dts_nil) (fun _ _ _ _ _ => (de_bt c_oStr rfl (T.free 6) (by decide +kernel) (da_cons (dv 1) da_nil))) (by decide)))))
def B_law_is_word : MS := (sRet (dAnd (dChain oLe oLe (dC (.int 1)) (dBlt oLen (aCons (dVar 0) aNil)) (dC (.int 8))) (dBin oEq (dLC [1] (iOf (dVar 0)) (gN 1) (dTest (dBin oNotIn (dVar 1) (dC (.str "abcdefghijklmnopqrstuvwxyz")))) (dVar 1)) (dLst aNil))))
def F_law_is_word : FD := fnD 2 B_law_is_word
theorem sc_law_is_word : FnScope ["_law_text", "_law_sign"] ["_law_text"] (defScope s_law_is_word) := ⟨rfl, rfl, rfl, by decide +kernel, rfl, by decide +kernel, by decide +kernel⟩
theorem ok_law_is_word (T : T0 K mg) : FnG P w K mg base 1 "_law_is_word" 1 F_law_is_word := by
  obtain ⟨fd, F⟩ := T.c.def_ 31 (d := d_law_is_word) rfl
  refine ⟨⟨fd, ["_law_text"], fn_dataG F sc_law_is_word fun cdv A outer s H E hr gd0 => ?_, F.bindsN fun _ _ _ _ _ _ us hl => match us, hl with | [_], _ => rfl⟩, T.glo 31, F.kp⟩
  exact (dss_one (ds_ret (de_and (de_chain op_oLe op_oLe de_int (de_bf c_oLen rfl (T.free 5) (by decide +kernel) (da_cons (dv 0) da_nil)) de_int) (de_one (de_rel (op_oEq hr.units) (de_lc rfl sc_law_is_word.nd (di_any (dv 0)) (blkOk_by (own := [("_law_sign", 1)]) (by kernel_rfl)) (fun _ _ _ _ _ => (dg_name 1 sc_law_is_word.nd rfl (by first | exact Or.inl rfl | exact Or.inr rfl))) (fun _ _ _ _ _ => (dts_one (dt_rel op_oNotIn (dv 1) de_str))) (fun _ _ _ _ _ => (dv 1)) (by decide)) (de_lst da_nil))))))
def L_law_depth_1_t : MT := (dAndT (dTest (dBin oLt (dVar 2) (dVar 1))) (dTest (dTM oStarts (dVar 0) (aCons (dBin oMul (dC (.str "  ")) (dBin oAdd (dVar 2) (dC (.int 1)))) aNil))))
def L_law_depth_1 : MS := (sAsg (dBin oAdd (dVar 2) (dC (.int 1))) (gN 2))
def B_law_depth : MS := (sSeq (sAsg (dC (.int 0)) (gN 2))
    (sSeq (whileN L_law_depth_1_t L_law_depth_1 20000)
    (sRet (dVar 2))))
def F_law_depth : FD := fnD 3 B_law_depth
theorem sc_law_depth : FnScope ["_law_line", "_law_most", "_law_found"] ["_law_line", "_law_most"] (defScope s_law_depth) := ⟨rfl, rfl, rfl, by decide +kernel, rfl, by decide +kernel, by decide +kernel⟩
theorem ok_law_depth (T : T0 K mg) : FnG P w K mg base 1 "_law_depth" 2 F_law_depth := by
  obtain ⟨fd, F⟩ := T.c.def_ 34 (d := d_law_depth) rfl
  refine ⟨⟨fd, ["_law_line", "_law_most"], fn_dataG F sc_law_depth fun cdv A outer s H E hr gd0 => ?_, F.bindsN fun _ _ _ _ _ _ us hl => match us, hl with | [_, _], _ => rfl⟩, T.glo 32, F.kp⟩
  exact (dss_cons (ds_set 2 sc_law_depth.nd rfl (by first | exact Or.inl rfl | exact Or.inr rfl) de_int)
    (dss_cons (ds_while 20000 (passes_of rfl) (DW.dt (dw_and (dt_rel op_oLt (dv 2) (dv 1)) (dw_and1 (dt_val (de_tm PySem.F.slot_str_startswith PySem.F.type_str_startswith mt_startswith m_oStarts (dv 0) (da_cons (de_bin op_oMul de_str (de_bin op_oAdd (dv 2) de_int)) da_nil))))))
    (dss_one (ds_set 2 sc_law_depth.nd rfl (by first | exact Or.inl rfl | exact Or.inr rfl) (de_bin op_oAdd (dv 2) de_int))))
    (dss_one (ds_ret (dv 2)))))
def B_are_keys : MS := (sSeq (sIf (dTest (dBin oIs (dVar 0) (dC .non)))
    (sRet (dC (.bl true)))
    sNil)
    (sSeq (sIf (dOrT (dNotT (dTest (dBlt oIsi (aCons (dVar 0) (aCons (dC (.ty "tuple")) aNil))))) (dNotT (dTest (dBlt oAll (aCons (dLC [1] (iOf (dVar 0)) (gN 1) mYes (dCall 1 F_is_word [] (aCons (dVar 1) aNil))) aNil)))))
    (sRet (dC (.bl false)))
    sNil)
    (sRet (dBin oEq (dBlt oList (aCons (dVar 0) aNil)) (dSS (dVar 0))))))
def F_are_keys : FD := fnD 2 B_are_keys
theorem sc_are_keys : FnScope ["thing", "one"] ["thing"] (defScope s_are_keys) := ⟨rfl, rfl, rfl, by decide +kernel, rfl, by decide +kernel, by decide +kernel⟩
theorem ok_are_keys (T : T0 K mg) : FnG P w K mg base 2 "are_keys" 1 F_are_keys := by
  obtain ⟨fd, F⟩ := T.c.def_ 6 (d := d_are_keys) rfl
  refine ⟨⟨fd, ["thing"], fn_dataG F sc_are_keys fun cdv A outer s H E hr gd0 => ?_, F.bindsN fun _ _ _ _ _ _ us hl => match us, hl with | [_], _ => rfl⟩, T.glo 37, F.kp⟩
  exact (dss_cons (ds_if (dt_rel op_oIs (dv 0) de_non)
    (dss_one (ds_ret de_bl))
    dss_nil)
    (dss_cons (ds_if (DW.dt (dw_or (dt_not (dt_val (de_bf c_oIsi rfl (T.free 7) (by decide +kernel) (da_cons (dv 0) (da_cons (de_ty (n := "tuple") rfl (T.free 36) (by decide +kernel)) da_nil))))) (dw_or1 (dt_not (dt_val (de_bf (c_oAll rfl) rfl (T.free 4) (by decide +kernel) (da_cons (de_lc rfl sc_are_keys.nd (di_any (dv 0)) (blkOk_by (own := [("one", 1)]) (by kernel_rfl)) (fun _ _ _ _ _ => (dg_name 1 sc_are_keys.nd rfl (by first | exact Or.inl rfl | exact Or.inr rfl))) (fun _ _ _ _ _ => dts_nil) (fun _ _ _ _ _ => (de_fnG (ok_is_word T) hr gd0 rfl takes0 (da_cons (dv 1) da_nil) (by decide))) (by decide)) da_nil)))))))
    (dss_one (ds_ret de_bl))
    dss_nil)
    (dss_one (ds_ret (de_rel (op_oEq hr.units) (de_bt c_oList rfl (T.free 33) (by decide +kernel) (da_cons (dv 0) da_nil)) (de_ss rfl rfl (T.free 34) rfl (T.free 35) (dv 0)))))))
def B_is_place_in_row : MS := (sRet (dOr (dCall 1 F_is_number [] (aCons (dVar 0) aNil)) (dAnd (dBlt oIsi (aCons (dVar 0) (aCons (dC (.ty "int")) aNil))) (dAnd (dNot (dBlt oIsi (aCons (dVar 0) (aCons (dC (.ty "bool")) aNil)))) (dBin oEq (dVar 0) (dC (.int 0)))))))
def F_is_place_in_row : FD := fnD 1 B_is_place_in_row
theorem sc_is_place_in_row : FnScope ["thing"] ["thing"] (defScope s_is_place_in_row) := ⟨rfl, rfl, rfl, by decide +kernel, rfl, by decide +kernel, by decide +kernel⟩
theorem ok_is_place_in_row (T : T0 K mg) : FnG P w K mg base 2 "is_place_in_row" 1 F_is_place_in_row := by
  obtain ⟨fd, F⟩ := T.c.def_ 7 (d := d_is_place_in_row) rfl
  refine ⟨⟨fd, ["thing"], fn_dataG F sc_is_place_in_row fun cdv A outer s H E hr gd0 => ?_, F.bindsN fun _ _ _ _ _ _ us hl => match us, hl with | [_], _ => rfl⟩, T.glo 38, F.kp⟩
  exact (dss_one (ds_ret (de_or (de_fnG (ok_is_number T) hr gd0 rfl (takes_of rfl rfl rfl rfl) (da_cons (dv 0) da_nil) (by decide)) (de_one (de_and (de_bf c_oIsi rfl (T.free 7) (by decide +kernel) (da_cons (dv 0) (da_cons (de_ty (n := "int") rfl (T.free 13) (by decide +kernel)) da_nil))) (de_and (de_not (de_bf c_oIsi rfl (T.free 7) (by decide +kernel) (da_cons (dv 0) (da_cons (de_ty (n := "bool") rfl (T.free 12) (by decide +kernel)) da_nil)))) (de_one (de_rel (op_oEq hr.units) (dv 0) de_int))))))))
def B_event_in : MS := (sSeq (sAsg (dTM oSplit (dVar 0) (aCons (dC (.str " ")) aNil)) (gN 1))
    (sMatch (dVar 1) (((pSeqS 4 (psCons (pStr "write") (psCons (pNm 2) (psCons (pNm 3) (psStar 4))))), (sRet (dTup (aCons (dC (.str "write")) (aCons (dVar 2) (aCons (dVar 3) (aCons (dCall 1 F_unquoted [] (aCons (dM1 oJoin (dC (.str " ")) (dVar 4)) aNil)) aNil))))))) ::
    (((pSeq 4 (psCons (pStr "send") (psCons (pNm 2) (psCons (pNm 5) (psCons (pStr "*") psNil))))), (sRet (dTup (aCons (dC (.str "send")) (aCons (dVar 2) (aCons (dVar 5) (aCons (dC .non) aNil))))))) ::
    (((pSeq 4 (psCons (pStr "send") (psCons (pNm 2) (psCons (pNm 5) (psCons (pStr "") psNil))))), (sRet (dTup (aCons (dC (.str "send")) (aCons (dVar 2) (aCons (dVar 5) (aCons (dTup aNil) aNil))))))) ::
    (((pSeqS 4 (psCons (pStr "send") (psCons (pNm 2) (psCons (pNm 5) (psStar 6))))), (sRet (dIfE (dTest (dBin oNe (dVar 6) (dLst aNil))) (dTup (aCons (dC (.str "send")) (aCons (dVar 2) (aCons (dVar 5) (aCons (dBlt oTuple (aCons (dVar 6) aNil)) aNil))))) (dC .non)))) ::
    (((pSeq 4 (psCons (pStr "take") (psCons (pNm 5) (psCons (pNm 2) (psCons (pNm 7) psNil))))), (sRet (dTup (aCons (dC (.str "take")) (aCons (dVar 5) (aCons (dVar 2) (aCons (dCall 1 F_number_in [] (aCons (dVar 7) aNil)) aNil))))))) ::
    (((pSeq 3 (psCons (pStr "pass") (psCons (pNm 2) (psCons (pNm 7) psNil)))), (sRet (dTup (aCons (dC (.str "pass")) (aCons (dVar 2) (aCons (dCall 1 F_number_in [] (aCons (dVar 7) aNil)) aNil)))))) ::
    ((pAny, (sRet (dBlt oTuple (aCons (dVar 1) aNil)))) ::
    [])))))))))
def F_event_in : FD := fnD 8 B_event_in
theorem sc_event_in : FnScope ["text", "parts", "p", "key", "rest", "q", "keys", "number"] ["text"] (defScope s_event_in) := ⟨rfl, rfl, rfl, by decide +kernel, rfl, by decide +kernel, by decide +kernel⟩
theorem ok_event_in (T : T0 K mg) : FnG P w K mg base 2 "event_in" 1 F_event_in := by
  obtain ⟨fd, F⟩ := T.c.def_ 10 (d := d_event_in) rfl
  refine ⟨⟨fd, ["text"], fn_dataG F sc_event_in fun cdv A outer s H E hr gd0 => ?_, F.bindsN fun _ _ _ _ _ _ us hl => match us, hl with | [_], _ => rfl⟩, T.glo 39, F.kp⟩
  exact (dss_cons (ds_set 1 sc_event_in.nd rfl (by first | exact Or.inl rfl | exact Or.inr rfl) (de_tm PySem.F.slot_str_split PySem.F.type_str_split mt_split m_oSplit (dv 0) (da_cons de_str da_nil)))
    (dss_one (ds_match (dv 1) (dcs_cons sc_event_in.nd (dp_seqS rfl (dps_cons (dp_str hr.units) (dps_cons (dp_name 2) (dps_cons (dp_name 3) (dps_star 4))))) (dss_one (ds_ret (de_tup (da_cons de_str (da_cons (dv 2) (da_cons (dv 3) (da_cons (de_fnG (ok_unquoted T) hr gd0 rfl (takes_of rfl rfl rfl rfl) (da_cons (de_join de_str (dv 4)) da_nil) (by decide)) da_nil)))))))
    (dcs_cons sc_event_in.nd (dp_seq rfl (dps_cons (dp_str hr.units) (dps_cons (dp_name 2) (dps_cons (dp_name 5) (dps_cons (dp_str hr.units) dps_nil))))) (dss_one (ds_ret (de_tup (da_cons de_str (da_cons (dv 2) (da_cons (dv 5) (da_cons de_non da_nil)))))))
    (dcs_cons sc_event_in.nd (dp_seq rfl (dps_cons (dp_str hr.units) (dps_cons (dp_name 2) (dps_cons (dp_name 5) (dps_cons (dp_str hr.units) dps_nil))))) (dss_one (ds_ret (de_tup (da_cons de_str (da_cons (dv 2) (da_cons (dv 5) (da_cons (de_tup da_nil) da_nil)))))))
    (dcs_cons sc_event_in.nd (dp_seqS rfl (dps_cons (dp_str hr.units) (dps_cons (dp_name 2) (dps_cons (dp_name 5) (dps_star 6))))) (dss_one (ds_ret (de_if (dt_rel (op_oNe hr.units) (dv 6) (de_lst da_nil)) (de_tup (da_cons de_str (da_cons (dv 2) (da_cons (dv 5) (da_cons (de_bt c_oTuple rfl (T.free 36) (by decide +kernel) (da_cons (dv 6) da_nil)) da_nil))))) de_non)))
    (dcs_cons sc_event_in.nd (dp_seq rfl (dps_cons (dp_str hr.units) (dps_cons (dp_name 5) (dps_cons (dp_name 2) (dps_cons (dp_name 7) dps_nil))))) (dss_one (ds_ret (de_tup (da_cons de_str (da_cons (dv 5) (da_cons (dv 2) (da_cons (de_fnG (ok_number_in T) hr gd0 rfl (takes_of rfl rfl rfl rfl) (da_cons (dv 7) da_nil) (by decide)) da_nil)))))))
    (dcs_cons sc_event_in.nd (dp_seq rfl (dps_cons (dp_str hr.units) (dps_cons (dp_name 2) (dps_cons (dp_name 7) dps_nil)))) (dss_one (ds_ret (de_tup (da_cons de_str (da_cons (dv 2) (da_cons (de_fnG (ok_number_in T) hr gd0 rfl (takes_of rfl rfl rfl rfl) (da_cons (dv 7) da_nil) (by decide)) da_nil))))))
    (dcs_cons sc_event_in.nd dp_any (dss_one (ds_ret (de_bt c_oTuple rfl (T.free 36) (by decide +kernel) (da_cons (dv 1) da_nil))))
    dcs_nil))))))))))
def B_law_step (φ_law_step φ_law_plan : FD) : MS := (sSeq (sPar 2 3 (aCons (dBin oIx (dLst (aCons (dC (.str "ann")) (aCons (dC (.str "bob")) (aCons (dC (.str "h")) (aCons (dC (.str "zed")) aNil))))) (dCall 2 F_law_take [] (aCons (dVar 0) (aCons (dC (.int 4)) aNil)))) (aCons (dBin oIx (dLst (aCons (dC (.str "k")) (aCons (dC (.str "l")) aNil))) (dCall 2 F_law_take [] (aCons (dVar 0) (aCons (dC (.int 2)) aNil)))) aNil)))
    (sSeq (sAsg (dCall 2 F_law_take [] (aCons (dVar 0) (aCons (dC (.int 11)) aNil))) (gN 4))
    (sSeq (sIf (dOrT (dTest (dBin oLt (dVar 4) (dC (.int 6)))) (dTest (dBin oEq (dVar 1) (dC (.int 0)))))
    (sSeq (sAsg (dLst (aCons (dTup (aCons (dC (.str "write")) (aCons (dVar 2) (aCons (dVar 3) (aCons (dBin oIx (dLst (aCons (dC (.str "x")) (aCons (dC (.str "a b")) (aCons (dC (.str "")) (aCons (dC (.str " \"\\ ")) aNil))))) (dCall 2 F_law_take [] (aCons (dVar 0) (aCons (dC (.int 4)) aNil)))) aNil))))) (aCons (dTup (aCons (dC (.str "delete")) (aCons (dVar 2) (aCons (dVar 3) aNil)))) aNil))) (gN 5))
    (sSeq (sAsg (dBin oAdd (dVar 5) (dLst (aCons (dTup (aCons (dC (.str "save")) (aCons (dVar 2) aNil))) (aCons (dTup (aCons (dC (.str "drop")) (aCons (dVar 2) (aCons (dVar 3) aNil)))) (aCons (dTup (aCons (dC (.str "pass")) (aCons (dVar 2) (aCons (dBin oAdd (dC (.int 1)) (dCall 2 F_law_take [] (aCons (dVar 0) (aCons (dC (.int 9)) aNil)))) aNil)))) aNil))))) (gN 5))
    (sSeq (sAsg (dBin oAdd (dVar 5) (dLst (aCons (dTup (aCons (dC (.str "send")) (aCons (dVar 2) (aCons (dC (.str "bob")) (aCons (dBin oIx (dLst (aCons (dC .non) (aCons (dTup aNil) (aCons (dTup (aCons (dC (.str "k")) (aCons (dC (.str "l")) aNil))) (aCons (dTup (aCons (dC (.str "k")) aNil)) aNil))))) (dCall 2 F_law_take [] (aCons (dVar 0) (aCons (dC (.int 4)) aNil)))) aNil))))) aNil))) (gN 5))
    (sRet (dTup (aCons (dC (.str "do")) (aCons (dBin oIx (dBin oAdd (dVar 5) (dLst (aCons (dTup (aCons (dC (.str "take")) (aCons (dC (.str "bob")) (aCons (dVar 2) (aCons (dCall 2 F_law_take [] (aCons (dVar 0) (aCons (dC (.int 3)) aNil))) aNil))))) (aCons (dTup (aCons (dC (.str "open")) (aCons (dC (.str "h")) (aCons (dC (.str "bob")) aNil)))) aNil)))) (dCall 2 F_law_take [] (aCons (dVar 0) (aCons (dC (.int 8)) aNil)))) aNil)))))))
    sNil)
    (sSeq (sAsg (dCall 3 φ_law_plan [] (aCons (dVar 0) (aCons (dBin oSub (dVar 1) (dC (.int 1))) (aCons (dC (.int 1)) aNil)))) (gN 6))
    (sSeq (sIf (dTest (dBin oLt (dVar 4) (dC (.int 8))))
    (sRet (dBin oIx (dLst (aCons (dTup (aCons (dC (.str "repeat")) (aCons (dBin oAdd (dC (.int 1)) (dCall 2 F_law_take [] (aCons (dVar 0) (aCons (dC (.int 3)) aNil)))) (aCons (dVar 6) aNil)))) (aCons (dTup (aCons (dC (.str "try")) (aCons (dVar 6) aNil))) aNil))) (dBin oSub (dVar 4) (dC (.int 6)))))
    sNil)
    (sSeq (sIf (dTest (dBin oEq (dVar 4) (dC (.int 8))))
    (sRet (dTup (aCons (dC (.str "try")) (aCons (dVar 6) aNil))))
    sNil)
    (sSeq (sIf (dTest (dBin oEq (dVar 4) (dC (.int 9))))
    (sRet (dTup (aCons (dC (.str "each")) (aCons (dBin oIx (dLst (aCons (dC (.str "h")) (aCons (dC (.str "ann")) (aCons (dC (.str "g")) aNil)))) (dCall 2 F_law_take [] (aCons (dVar 0) (aCons (dC (.int 3)) aNil)))) (aCons (dVar 6) aNil)))))
    sNil)
    (sRet (dTup (aCons (dC (.str "if")) (aCons (dVar 2) (aCons (dVar 3) (aCons (dVar 6) (aCons (dCall 3 φ_law_plan [] (aCons (dVar 0) (aCons (dBin oSub (dVar 1) (dC (.int 1))) (aCons (dC (.int 0)) aNil)))) aNil))))))))))))))
theorem sc_law_step : FnScope ["_law_pool_here", "_law_deep", "_law_place", "_law_key", "_law_choice", "_law_some", "_law_inner"] ["_law_pool_here", "_law_deep"] (defScope s_law_step) := ⟨rfl, rfl, rfl, by decide +kernel, rfl, by decide +kernel, by decide +kernel⟩
def B_law_plan (φ_law_step φ_law_plan : FD) : MS := (sRet (dBlt oTuple (aCons (dLC [3] (iR1 (aCons (dBin oAdd (dVar 2) (dCall 2 F_law_take [] (aCons (dVar 0) (aCons (dC (.int 3)) aNil)))) aNil)) (gN 3) mYes (dCall 2 φ_law_step [] (aCons (dVar 0) (aCons (dVar 1) aNil)))) aNil)))
theorem sc_law_plan : FnScope ["_law_pool_here", "_law_deep", "_law_least", "_law_turn"] ["_law_pool_here", "_law_deep", "_law_least"] (defScope s_law_plan) := ⟨rfl, rfl, rfl, by decide +kernel, rfl, by decide +kernel, by decide +kernel⟩
mutual
def F_law_step : Nat → FD
  | 0 => fun _ _ => .bad
  | n + 1 => fnD 7 (B_law_step (F_law_step n) (F_law_plan n))
def F_law_plan : Nat → FD
  | 0 => fun _ _ => .bad
  | n + 1 => fnD 4 (B_law_plan (F_law_step n) (F_law_plan n))
end
theorem bg_law_step (T : T0 K mg) : FnG P w K mg base (2 + 0) "_law_step" 2 (F_law_step 0) := by
  obtain ⟨fd, F⟩ := T.c.def_ 26 (d := d_law_step) rfl
  exact ⟨⟨fd, ["_law_pool_here", "_law_deep"], fn_dataG (k := 1) (B := fun _ _ => .bad) F sc_law_step fun cdv A outer s H E hr gd0 => dss_bad, F.bindsN fun _ _ _ _ _ _ us hl => match us, hl with | [_, _], _ => rfl⟩, T.glo 40, F.kp⟩
theorem st_law_step (T : T0 K mg) {n : Nat} {φ_law_step : FD} {φ_law_plan : FD} (h_law_step : FnG P w K mg base (2 + n) "_law_step" 2 φ_law_step) (h_law_plan : FnG P w K mg base (2 + n) "_law_plan" 3 φ_law_plan) : FnG P w K mg base (2 + (n + 1)) "_law_step" 2 (fnD 7 (B_law_step φ_law_step φ_law_plan)) := by
  obtain ⟨fd, F⟩ := T.c.def_ 26 (d := d_law_step) rfl
  refine ⟨⟨fd, ["_law_pool_here", "_law_deep"], fn_dataG (k := 2 + n) F sc_law_step fun cdv A outer s H E hr gd0 => ?_, F.bindsN fun _ _ _ _ _ _ us hl => match us, hl with | [_, _], _ => rfl⟩, T.glo 40, F.kp⟩
  exact (dss_cons (ds_par 2 3 rfl sc_law_step.nd (da_cons (de_ix (de_lst (da_cons de_str (da_cons de_str (da_cons de_str (da_cons de_str da_nil))))) (de_fnG (ok_law_take T) hr gd0 rfl (takes_of rfl rfl rfl rfl) (da_cons (dv 0) (da_cons de_int da_nil)) (by omega))) (da_cons (de_ix (de_lst (da_cons de_str (da_cons de_str da_nil))) (de_fnG (ok_law_take T) hr gd0 rfl (takes_of rfl rfl rfl rfl) (da_cons (dv 0) (da_cons de_int da_nil)) (by omega))) da_nil)))
    (dss_cons (ds_set 4 sc_law_step.nd rfl (by first | exact Or.inl rfl | exact Or.inr rfl) (de_fnG (ok_law_take T) hr gd0 rfl (takes_of rfl rfl rfl rfl) (da_cons (dv 0) (da_cons de_int da_nil)) (by omega)))
    (dss_cons (ds_if (DW.dt (dw_or (dt_rel op_oLt (dv 4) de_int) (dw_or1 (dt_rel (op_oEq hr.units) (dv 1) de_int))))
    (dss_cons (ds_set 5 sc_law_step.nd rfl (by first | exact Or.inl rfl | exact Or.inr rfl) (de_lst (da_cons (de_tup (da_cons de_str (da_cons (dv 2) (da_cons (dv 3) (da_cons (de_ix (de_lst (da_cons de_str (da_cons de_str (da_cons de_str (da_cons de_str da_nil))))) (de_fnG (ok_law_take T) hr gd0 rfl (takes_of rfl rfl rfl rfl) (da_cons (dv 0) (da_cons de_int da_nil)) (by omega))) da_nil))))) (da_cons (de_tup (da_cons de_str (da_cons (dv 2) (da_cons (dv 3) da_nil)))) da_nil))))
    (dss_cons (ds_set 5 sc_law_step.nd rfl (by first | exact Or.inl rfl | exact Or.inr rfl) (de_bin op_oAdd (dv 5) (de_lst (da_cons (de_tup (da_cons de_str (da_cons (dv 2) da_nil))) (da_cons (de_tup (da_cons de_str (da_cons (dv 2) (da_cons (dv 3) da_nil)))) (da_cons (de_tup (da_cons de_str (da_cons (dv 2) (da_cons (de_bin op_oAdd de_int (de_fnG (ok_law_take T) hr gd0 rfl (takes_of rfl rfl rfl rfl) (da_cons (dv 0) (da_cons de_int da_nil)) (by omega))) da_nil)))) da_nil))))))
    (dss_cons (ds_set 5 sc_law_step.nd rfl (by first | exact Or.inl rfl | exact Or.inr rfl) (de_bin op_oAdd (dv 5) (de_lst (da_cons (de_tup (da_cons de_str (da_cons (dv 2) (da_cons de_str (da_cons (de_ix (de_lst (da_cons de_non (da_cons (de_tup da_nil) (da_cons (de_tup (da_cons de_str (da_cons de_str da_nil))) (da_cons (de_tup (da_cons de_str da_nil)) da_nil))))) (de_fnG (ok_law_take T) hr gd0 rfl (takes_of rfl rfl rfl rfl) (da_cons (dv 0) (da_cons de_int da_nil)) (by omega))) da_nil))))) da_nil))))
    (dss_one (ds_ret (de_tup (da_cons de_str (da_cons (de_ix (de_bin op_oAdd (dv 5) (de_lst (da_cons (de_tup (da_cons de_str (da_cons de_str (da_cons (dv 2) (da_cons (de_fnG (ok_law_take T) hr gd0 rfl (takes_of rfl rfl rfl rfl) (da_cons (dv 0) (da_cons de_int da_nil)) (by omega)) da_nil))))) (da_cons (de_tup (da_cons de_str (da_cons de_str (da_cons de_str da_nil)))) da_nil)))) (de_fnG (ok_law_take T) hr gd0 rfl (takes_of rfl rfl rfl rfl) (da_cons (dv 0) (da_cons de_int da_nil)) (by omega))) da_nil))))))))
    dss_nil)
    (dss_cons (ds_set 6 sc_law_step.nd rfl (by first | exact Or.inl rfl | exact Or.inr rfl) (de_fnG h_law_plan hr gd0 rfl (takes_of rfl rfl rfl rfl) (da_cons (dv 0) (da_cons (de_bin op_oSub (dv 1) de_int) (da_cons de_int da_nil))) (by omega)))
    (dss_cons (ds_if (dt_rel op_oLt (dv 4) de_int)
    (dss_one (ds_ret (de_ix (de_lst (da_cons (de_tup (da_cons de_str (da_cons (de_bin op_oAdd de_int (de_fnG (ok_law_take T) hr gd0 rfl (takes_of rfl rfl rfl rfl) (da_cons (dv 0) (da_cons de_int da_nil)) (by omega))) (da_cons (dv 6) da_nil)))) (da_cons (de_tup (da_cons de_str (da_cons (dv 6) da_nil))) da_nil))) (de_bin op_oSub (dv 4) de_int))))
    dss_nil)
    (dss_cons (ds_if (dt_rel (op_oEq hr.units) (dv 4) de_int)
    (dss_one (ds_ret (de_tup (da_cons de_str (da_cons (dv 6) da_nil)))))
    dss_nil)
    (dss_cons (ds_if (dt_rel (op_oEq hr.units) (dv 4) de_int)
    (dss_one (ds_ret (de_tup (da_cons de_str (da_cons (de_ix (de_lst (da_cons de_str (da_cons de_str (da_cons de_str da_nil)))) (de_fnG (ok_law_take T) hr gd0 rfl (takes_of rfl rfl rfl rfl) (da_cons (dv 0) (da_cons de_int da_nil)) (by omega))) (da_cons (dv 6) da_nil))))))
    dss_nil)
    (dss_one (ds_ret (de_tup (da_cons de_str (da_cons (dv 2) (da_cons (dv 3) (da_cons (dv 6) (da_cons (de_fnG h_law_plan hr gd0 rfl (takes_of rfl rfl rfl rfl) (da_cons (dv 0) (da_cons (de_bin op_oSub (dv 1) de_int) (da_cons de_int da_nil))) (by omega)) da_nil)))))))))))))))
theorem bg_law_plan (T : T0 K mg) : FnG P w K mg base (2 + 0) "_law_plan" 3 (F_law_plan 0) := by
  obtain ⟨fd, F⟩ := T.c.def_ 27 (d := d_law_plan) rfl
  exact ⟨⟨fd, ["_law_pool_here", "_law_deep", "_law_least"], fn_dataG (k := 1) (B := fun _ _ => .bad) F sc_law_plan fun cdv A outer s H E hr gd0 => dss_bad, F.bindsN fun _ _ _ _ _ _ us hl => match us, hl with | [_, _, _], _ => rfl⟩, T.glo 41, F.kp⟩
theorem st_law_plan (T : T0 K mg) {n : Nat} {φ_law_step : FD} {φ_law_plan : FD} (h_law_step : FnG P w K mg base (2 + n) "_law_step" 2 φ_law_step) (h_law_plan : FnG P w K mg base (2 + n) "_law_plan" 3 φ_law_plan) : FnG P w K mg base (2 + (n + 1)) "_law_plan" 3 (fnD 4 (B_law_plan φ_law_step φ_law_plan)) := by
  obtain ⟨fd, F⟩ := T.c.def_ 27 (d := d_law_plan) rfl
  refine ⟨⟨fd, ["_law_pool_here", "_law_deep", "_law_least"], fn_dataG (k := 2 + n) F sc_law_plan fun cdv A outer s H E hr gd0 => ?_, F.bindsN fun _ _ _ _ _ _ us hl => match us, hl with | [_, _, _], _ => rfl⟩, T.glo 41, F.kp⟩
  exact (dss_one (ds_ret (de_bt c_oTuple rfl (T.free 36) (by decide +kernel) (da_cons (de_lc rfl sc_law_plan.nd (di_range1 rfl (T.free 29) (da_cons (de_bin op_oAdd (dv 2) (de_fnG (ok_law_take T) hr gd0 rfl (takes_of rfl rfl rfl rfl) (da_cons (dv 0) (da_cons de_int da_nil)) (by omega))) da_nil)) (blkOk_by (own := [("_law_turn", 3)]) (by kernel_rfl)) (fun _ _ _ _ _ => (dg_name 3 sc_law_plan.nd rfl (by first | exact Or.inl rfl | exact Or.inr rfl))) (fun _ _ _ _ _ => dts_nil) (fun _ _ _ _ _ => (de_fnG h_law_step hr gd0 rfl takes0 (da_cons (dv 0) (da_cons (dv 1) da_nil)) (by omega))) (by decide)) da_nil))))
theorem okg_law_step_law_plan (T : T0 K mg) : ∀ n : Nat, FnG P w K mg base (2 + n) "_law_step" 2 (F_law_step n) ∧ FnG P w K mg base (2 + n) "_law_plan" 3 (F_law_plan n)
  | 0 => ⟨bg_law_step T, bg_law_plan T⟩
  | n + 1 => have ⟨i0, i1⟩ := okg_law_step_law_plan T n; ⟨st_law_step T i0 i1, st_law_plan T i0 i1⟩
theorem ok_law_step (T : T0 K mg) (n : Nat) : FnG P w K mg base (2 + n) "_law_step" 2 (F_law_step n) := (okg_law_step_law_plan T n).1
theorem ok_law_plan (T : T0 K mg) (n : Nat) : FnG P w K mg base (2 + n) "_law_plan" 3 (F_law_plan n) := (okg_law_step_law_plan T n).2
def B_law_odd_line : MS := (sSeq (sAsg (dLst (aCons (dC (.str "")) (aCons (dC (.str " ")) (aCons (dC (.str "else")) (aCons (dC (.str "try ")) (aCons (dC (.str "try")) (aCons (dC (.str " try")) (aCons (dC (.str "repeat")) (aCons (dC (.str "repeat 0")) (aCons (dC (.str "repeat 21")) (aCons (dC (.str "repeat 20")) (aCons (dC (.str "repeat 03")) (aCons (dC (.str "repeat 1 ")) aNil))))))))))))) (gN 1))
    (sSeq (sAsg (dBin oAdd (dVar 1) (dLst (aCons (dC (.str "each")) (aCons (dC (.str "each H")) (aCons (dC (.str "each h ")) (aCons (dC (.str "each abcdefghi")) (aCons (dC (.str "each abcdefgh")) (aCons (dC (.str "if ann")) (aCons (dC (.str "if ann k ")) (aCons (dC (.str "if ann k")) (aCons (dC (.str "if  k")) aNil))))))))))) (gN 1))
    (sSeq (sAsg (dBin oAdd (dVar 1) (dLst (aCons (dC (.str "save")) (aCons (dC (.str "save ann")) (aCons (dC (.str "save ann ")) (aCons (dC (.str "send ann bob ")) (aCons (dC (.str "send ann bob")) (aCons (dC (.str "end")) (aCons (dC (.str "repeat -1")) (aCons (dC (.str "each  h")) (aCons (dC (.str "Try")) aNil))))))))))) (gN 1))
    (sRet (dBin oIx (dBin oAdd (dVar 1) (dLst (aCons (dC (.str "write ann k \"x")) (aCons (dC (.str "write ann k \"x\"")) (aCons (dC (.str "drop ann k")) aNil))))) (dCall 2 F_law_take [] (aCons (dVar 0) (aCons (dC (.int 33)) aNil))))))))
def F_law_odd_line : FD := fnD 2 B_law_odd_line
theorem sc_law_odd_line : FnScope ["_law_pool_here", "_law_some"] ["_law_pool_here"] (defScope s_law_odd_line) := ⟨rfl, rfl, rfl, by decide +kernel, rfl, by decide +kernel, by decide +kernel⟩
theorem ok_law_odd_line (T : T0 K mg) : FnG P w K mg base 2 "_law_odd_line" 1 F_law_odd_line := by
  obtain ⟨fd, F⟩ := T.c.def_ 38 (d := d_law_odd_line) rfl
  refine ⟨⟨fd, ["_law_pool_here"], fn_dataG F sc_law_odd_line fun cdv A outer s H E hr gd0 => ?_, F.bindsN fun _ _ _ _ _ _ us hl => match us, hl with | [_], _ => rfl⟩, T.glo 42, F.kp⟩
  exact (dss_cons (ds_set 1 sc_law_odd_line.nd rfl (by first | exact Or.inl rfl | exact Or.inr rfl) (de_lst (da_cons de_str (da_cons de_str (da_cons de_str (da_cons de_str (da_cons de_str (da_cons de_str (da_cons de_str (da_cons de_str (da_cons de_str (da_cons de_str (da_cons de_str (da_cons de_str da_nil))))))))))))))
    (dss_cons (ds_set 1 sc_law_odd_line.nd rfl (by first | exact Or.inl rfl | exact Or.inr rfl) (de_bin op_oAdd (dv 1) (de_lst (da_cons de_str (da_cons de_str (da_cons de_str (da_cons de_str (da_cons de_str (da_cons de_str (da_cons de_str (da_cons de_str (da_cons de_str da_nil))))))))))))
    (dss_cons (ds_set 1 sc_law_odd_line.nd rfl (by first | exact Or.inl rfl | exact Or.inr rfl) (de_bin op_oAdd (dv 1) (de_lst (da_cons de_str (da_cons de_str (da_cons de_str (da_cons de_str (da_cons de_str (da_cons de_str (da_cons de_str (da_cons de_str (da_cons de_str da_nil))))))))))))
    (dss_one (ds_ret (de_ix (de_bin op_oAdd (dv 1) (de_lst (da_cons de_str (da_cons de_str (da_cons de_str da_nil))))) (de_fnG (ok_law_take T) hr gd0 rfl (takes_of rfl rfl rfl rfl) (da_cons (dv 0) (da_cons de_int da_nil)) (by decide))))))))
def B_is_event : MS := (sSeq (sIf (dOrT (dNotT (dTest (dBlt oIsi (aCons (dVar 0) (aCons (dC (.ty "tuple")) aNil))))) (dOrT (dTest (dBin oLt (dBlt oLen (aCons (dVar 0) aNil)) (dC (.int 2)))) (dOrT (dNotT (dTest (dCall 1 F_is_word [] (aCons (dBin oIx (dVar 0) (dC (.int 0))) aNil)))) (dNotT (dTest (dCall 1 F_is_word [] (aCons (dBin oIx (dVar 0) (dC (.int 1))) aNil)))))))
    (sRet (dC (.bl false)))
    sNil)
    (sMatch (dVar 0) (((pSeq 4 (psCons (pStr "write") (psCons (pNm 1) (psCons (pNm 2) (psCons (pNm 3) psNil))))), (sRet (dAnd (dCall 1 F_is_word [] (aCons (dVar 2) aNil)) (dCall 1 F_is_value [] (aCons (dVar 3) aNil))))) ::
    (((pSeq 3 (psCons (pStr "pass") (psCons (pNm 1) (psCons (pNm 4) psNil)))), (sRet (dCall 1 F_is_number [] (aCons (dVar 4) aNil)))) ::
    (((pSeq 4 (psCons (pStr "send") (psCons (pNm 1) (psCons (pNm 5) (psCons (pNm 6) psNil))))), (sRet (dAnd (dCall 1 F_is_word [] (aCons (dVar 5) aNil)) (dCall 1 F_are_keys [] (aCons (dVar 6) aNil))))) ::
    (((pSeq 4 (psCons (pStr "take") (psCons (pNm 5) (psCons (pNm 1) (psCons (pNm 4) psNil))))), (sRet (dAnd (dCall 1 F_is_word [] (aCons (dVar 1) aNil)) (dCall 1 F_is_place_in_row [] (aCons (dVar 4) aNil))))) ::
    (((pSeq 3 (psCons (pNm 7) (psCons (pNm 1) (psCons (pNm 8) psNil)))), (sRet (dAnd (dBin oIn (dVar 7) (dC (.tup ([.str "delete", .str "keep", .str "restore", .str "discard", .str "forget", .str "mute", .str "shut", .str "open", .str "drop"].map dvD)))) (dCall 1 F_is_word [] (aCons (dVar 8) aNil))))) ::
    (((pSeq 2 (psCons (pNm 7) (psCons (pNm 1) psNil))), (sRet (dBin oIn (dVar 7) (dC (.tup ([.str "save", .str "crash", .str "leave", .str "come"].map dvD)))))) ::
    ((pAny, (sRet (dC (.bl false)))) ::
    [])))))))))
def F_is_event : FD := fnD 9 B_is_event
theorem sc_is_event : FnScope ["thing", "p", "key", "value", "number", "q", "keys", "word", "other"] ["thing"] (defScope s_is_event) := ⟨rfl, rfl, rfl, by decide +kernel, rfl, by decide +kernel, by decide +kernel⟩
theorem ok_is_event (T : T0 K mg) : FnG P w K mg base 3 "is_event" 1 F_is_event := by
  obtain ⟨fd, F⟩ := T.c.def_ 8 (d := d_is_event) rfl
  refine ⟨⟨fd, ["thing"], fn_dataG F sc_is_event fun cdv A outer s H E hr gd0 => ?_, F.bindsN fun _ _ _ _ _ _ us hl => match us, hl with | [_], _ => rfl⟩, T.glo 45, F.kp⟩
  exact (dss_cons (ds_if (DW.dt (dw_or (dt_not (dt_val (de_bf c_oIsi rfl (T.free 7) (by decide +kernel) (da_cons (dv 0) (da_cons (de_ty (n := "tuple") rfl (T.free 36) (by decide +kernel)) da_nil))))) (dw_or (dt_rel op_oLt (de_bf c_oLen rfl (T.free 5) (by decide +kernel) (da_cons (dv 0) da_nil)) de_int) (dw_or (dt_not (dt_val (de_fnG (ok_is_word T) hr gd0 rfl (takes_of rfl rfl rfl rfl) (da_cons (de_ix (dv 0) de_int) da_nil) (by decide)))) (dw_or1 (dt_not (dt_val (de_fnG (ok_is_word T) hr gd0 rfl (takes_of rfl rfl rfl rfl) (da_cons (de_ix (dv 0) de_int) da_nil) (by decide)))))))))
    (dss_one (ds_ret de_bl))
    dss_nil)
    (dss_one (ds_match (dv 0) (dcs_cons sc_is_event.nd (dp_seq rfl (dps_cons (dp_str hr.units) (dps_cons (dp_name 1) (dps_cons (dp_name 2) (dps_cons (dp_name 3) dps_nil))))) (dss_one (ds_ret (de_and (de_fnG (ok_is_word T) hr gd0 rfl (takes_of rfl rfl rfl rfl) (da_cons (dv 2) da_nil) (by decide)) (de_one (de_fnG (ok_is_value T) hr gd0 rfl (takes_of rfl rfl rfl rfl) (da_cons (dv 3) da_nil) (by decide))))))
    (dcs_cons sc_is_event.nd (dp_seq rfl (dps_cons (dp_str hr.units) (dps_cons (dp_name 1) (dps_cons (dp_name 4) dps_nil)))) (dss_one (ds_ret (de_fnG (ok_is_number T) hr gd0 rfl (takes_of rfl rfl rfl rfl) (da_cons (dv 4) da_nil) (by decide))))
    (dcs_cons sc_is_event.nd (dp_seq rfl (dps_cons (dp_str hr.units) (dps_cons (dp_name 1) (dps_cons (dp_name 5) (dps_cons (dp_name 6) dps_nil))))) (dss_one (ds_ret (de_and (de_fnG (ok_is_word T) hr gd0 rfl (takes_of rfl rfl rfl rfl) (da_cons (dv 5) da_nil) (by decide)) (de_one (de_fnG (ok_are_keys T) hr gd0 rfl (takes_of rfl rfl rfl rfl) (da_cons (dv 6) da_nil) (by decide))))))
    (dcs_cons sc_is_event.nd (dp_seq rfl (dps_cons (dp_str hr.units) (dps_cons (dp_name 5) (dps_cons (dp_name 1) (dps_cons (dp_name 4) dps_nil))))) (dss_one (ds_ret (de_and (de_fnG (ok_is_word T) hr gd0 rfl (takes_of rfl rfl rfl rfl) (da_cons (dv 1) da_nil) (by decide)) (de_one (de_fnG (ok_is_place_in_row T) hr gd0 rfl (takes_of rfl rfl rfl rfl) (da_cons (dv 4) da_nil) (by decide))))))
    (dcs_cons sc_is_event.nd (dp_seq rfl (dps_cons (dp_name 7) (dps_cons (dp_name 1) (dps_cons (dp_name 8) dps_nil)))) (dss_one (ds_ret (de_and (de_rel op_oIn (dv 7) (de_gtup rfl (T.glo 44) (T.xb 6 (f := fun K => He.tupB K "WITH_WORD" [.str "delete", .str "keep", .str "restore", .str "discard", .str "forget", .str "mute", .str "shut", .str "open", .str "drop"])))) (de_one (de_fnG (ok_is_word T) hr gd0 rfl (takes_of rfl rfl rfl rfl) (da_cons (dv 8) da_nil) (by decide))))))
    (dcs_cons sc_is_event.nd (dp_seq rfl (dps_cons (dp_name 7) (dps_cons (dp_name 1) dps_nil))) (dss_one (ds_ret (de_rel op_oIn (dv 7) (de_gtup rfl (T.glo 43) (T.xb 5 (f := fun K => He.tupB K "ALONE" [.str "save", .str "crash", .str "leave", .str "come"]))))))
    (dcs_cons sc_is_event.nd dp_any (dss_one (ds_ret de_bl))
    dcs_nil))))))))))
def B_law_bent : MS := (sSeq (sPar 2 3 (aCons (dCall 2 F_law_take [] (aCons (dVar 0) (aCons (dBin oAdd (dBlt oLen (aCons (dVar 1) aNil)) (dC (.int 1))) aNil))) (aCons (dCall 2 F_law_take [] (aCons (dVar 0) (aCons (dBin oAdd (dBlt oLen (aCons (dVar 1) aNil)) (dC (.int 1))) aNil))) aNil)))
    (sSeq (sPar 4 5 (aCons (dBin oIx (dBin oAdd (dVar 1) (dLst (aCons (dC (.str "save ann")) aNil))) (dVar 2)) (aCons (dCall 2 F_law_take [] (aCons (dVar 0) (aCons (dC (.int 7)) aNil))) aNil)))
    (sSeq (sAsg (dLst (aCons (dBin oAdd (dSl (dVar 1) oNoPart (oPart (dVar 2))) (dSl (dVar 1) (oPart (dBin oAdd (dVar 2) (dC (.int 1)))) oNoPart)) (aCons (dBin oAdd (dBin oAdd (dSl (dVar 1) oNoPart (oPart (dVar 2))) (dLst (aCons (dVar 4) aNil))) (dSl (dVar 1) (oPart (dVar 2)) oNoPart)) (aCons (dBin oAdd (dBin oAdd (dSl (dVar 1) oNoPart (oPart (dVar 3))) (dLst (aCons (dVar 4) aNil))) (dSl (dVar 1) (oPart (dVar 3)) oNoPart)) aNil)))) (gN 6))
    (sSeq (sAsg (dBin oAdd (dVar 6) (dLst (aCons (dBin oAdd (dBin oAdd (dSl (dVar 1) oNoPart (oPart (dVar 2))) (dLst (aCons (dBin oAdd (dC (.str "  ")) (dVar 4)) aNil))) (dSl (dVar 1) (oPart (dBin oAdd (dVar 2) (dC (.int 1)))) oNoPart)) (aCons (dBin oAdd (dBin oAdd (dSl (dVar 1) oNoPart (oPart (dVar 2))) (dLst (aCons (dSl (dVar 4) (oPart (dC (.int 2))) oNoPart) aNil))) (dSl (dVar 1) (oPart (dBin oAdd (dVar 2) (dC (.int 1)))) oNoPart)) aNil)))) (gN 6))
    (sSeq (sAsg (dBin oAdd (dBin oMul (dC (.str "  ")) (dCall 2 F_law_take [] (aCons (dVar 0) (aCons (dC (.int 4)) aNil)))) (dCall 1 F_law_odd_line [] (aCons (dVar 0) aNil))) (gN 7))
    (sRet (dBin oIx (dBin oAdd (dVar 6) (dLst (aCons (dBin oAdd (dBin oAdd (dSl (dVar 1) oNoPart (oPart (dVar 2))) (dLst (aCons (dVar 7) aNil))) (dSl (dVar 1) (oPart (dVar 2)) oNoPart)) (aCons (dBin oAdd (dBin oAdd (dSl (dVar 1) oNoPart (oPart (dVar 2))) (dLst (aCons (dVar 7) aNil))) (dSl (dVar 1) (oPart (dBin oAdd (dVar 2) (dC (.int 1)))) oNoPart)) aNil)))) (dVar 5))))))))
def F_law_bent : FD := fnD 8 B_law_bent
theorem sc_law_bent : FnScope ["_law_pool_here", "_law_lines_here", "_law_at", "_law_to", "_law_one", "_law_choice", "_law_some", "_law_other"] ["_law_pool_here", "_law_lines_here"] (defScope s_law_bent) := ⟨rfl, rfl, rfl, by decide +kernel, rfl, by decide +kernel, by decide +kernel⟩
theorem ok_law_bent (T : T0 K mg) : FnG P w K mg base 3 "_law_bent" 2 F_law_bent := by
  obtain ⟨fd, F⟩ := T.c.def_ 39 (d := d_law_bent) rfl
  refine ⟨⟨fd, ["_law_pool_here", "_law_lines_here"], fn_dataG F sc_law_bent fun cdv A outer s H E hr gd0 => ?_, F.bindsN fun _ _ _ _ _ _ us hl => match us, hl with | [_, _], _ => rfl⟩, T.glo 46, F.kp⟩
  exact (dss_cons (ds_par 2 3 rfl sc_law_bent.nd (da_cons (de_fnG (ok_law_take T) hr gd0 rfl (takes_of rfl rfl rfl rfl) (da_cons (dv 0) (da_cons (de_bin op_oAdd (de_bf c_oLen rfl (T.free 5) (by decide +kernel) (da_cons (dv 1) da_nil)) de_int) da_nil)) (by decide)) (da_cons (de_fnG (ok_law_take T) hr gd0 rfl (takes_of rfl rfl rfl rfl) (da_cons (dv 0) (da_cons (de_bin op_oAdd (de_bf c_oLen rfl (T.free 5) (by decide +kernel) (da_cons (dv 1) da_nil)) de_int) da_nil)) (by decide)) da_nil)))
    (dss_cons (ds_par 4 5 rfl sc_law_bent.nd (da_cons (de_ix (de_bin op_oAdd (dv 1) (de_lst (da_cons de_str da_nil))) (dv 2)) (da_cons (de_fnG (ok_law_take T) hr gd0 rfl (takes_of rfl rfl rfl rfl) (da_cons (dv 0) (da_cons de_int da_nil)) (by decide)) da_nil)))
    (dss_cons (ds_set 6 sc_law_bent.nd rfl (by first | exact Or.inl rfl | exact Or.inr rfl) (de_lst (da_cons (de_bin op_oAdd (de_sl (dv 1) dpo_none (dpo_some (dv 2))) (de_sl (dv 1) (dpo_some (de_bin op_oAdd (dv 2) de_int)) dpo_none)) (da_cons (de_bin op_oAdd (de_bin op_oAdd (de_sl (dv 1) dpo_none (dpo_some (dv 2))) (de_lst (da_cons (dv 4) da_nil))) (de_sl (dv 1) (dpo_some (dv 2)) dpo_none)) (da_cons (de_bin op_oAdd (de_bin op_oAdd (de_sl (dv 1) dpo_none (dpo_some (dv 3))) (de_lst (da_cons (dv 4) da_nil))) (de_sl (dv 1) (dpo_some (dv 3)) dpo_none)) da_nil)))))
    (dss_cons (ds_set 6 sc_law_bent.nd rfl (by first | exact Or.inl rfl | exact Or.inr rfl) (de_bin op_oAdd (dv 6) (de_lst (da_cons (de_bin op_oAdd (de_bin op_oAdd (de_sl (dv 1) dpo_none (dpo_some (dv 2))) (de_lst (da_cons (de_bin op_oAdd de_str (dv 4)) da_nil))) (de_sl (dv 1) (dpo_some (de_bin op_oAdd (dv 2) de_int)) dpo_none)) (da_cons (de_bin op_oAdd (de_bin op_oAdd (de_sl (dv 1) dpo_none (dpo_some (dv 2))) (de_lst (da_cons (de_sl (dv 4) (dpo_some de_int) dpo_none) da_nil))) (de_sl (dv 1) (dpo_some (de_bin op_oAdd (dv 2) de_int)) dpo_none)) da_nil)))))
    (dss_cons (ds_set 7 sc_law_bent.nd rfl (by first | exact Or.inl rfl | exact Or.inr rfl) (de_bin op_oAdd (de_bin op_oMul de_str (de_fnG (ok_law_take T) hr gd0 rfl (takes_of rfl rfl rfl rfl) (da_cons (dv 0) (da_cons de_int da_nil)) (by decide))) (de_fnG (ok_law_odd_line T) hr gd0 rfl (takes_of rfl rfl rfl rfl) (da_cons (dv 0) da_nil) (by decide))))
    (dss_one (ds_ret (de_ix (de_bin op_oAdd (dv 6) (de_lst (da_cons (de_bin op_oAdd (de_bin op_oAdd (de_sl (dv 1) dpo_none (dpo_some (dv 2))) (de_lst (da_cons (dv 7) da_nil))) (de_sl (dv 1) (dpo_some (dv 2)) dpo_none)) (da_cons (de_bin op_oAdd (de_bin op_oAdd (de_sl (dv 1) dpo_none (dpo_some (dv 2))) (de_lst (da_cons (dv 7) da_nil))) (de_sl (dv 1) (dpo_some (de_bin op_oAdd (dv 2) de_int)) dpo_none)) da_nil)))) (dv 5)))))))))
def B_format_event : MS := (sSeq (sIf (dNotT (dTest (dCall 1 F_is_event [] (aCons (dVar 0) aNil))))
    (sRaise "BadEvent" "value" (dVar 0))
    sNil)
    (sMatch (dVar 0) (((pSeq 4 (psCons (pStr "write") (psCons (pNm 1) (psCons (pNm 2) (psCons (pNm 3) psNil))))), (sRet (dJs ((dC (.str "write ")) :: ((dFmt (dVar 1)) :: ((dC (.str " ")) :: ((dFmt (dVar 2)) :: ((dC (.str " ")) :: ((dFmt (dCall 1 F_quoted [] (aCons (dVar 3) aNil))) :: [])))))) Str.empty))) ::
    (((pSeq 4 (psCons (pStr "send") (psCons (pNm 1) (psCons (pNm 4) (psCons pNon psNil))))), (sRet (dJs ((dC (.str "send ")) :: ((dFmt (dVar 1)) :: ((dC (.str " ")) :: ((dFmt (dVar 4)) :: ((dC (.str " *")) :: []))))) Str.empty))) ::
    (((pSeq 4 (psCons (pStr "send") (psCons (pNm 1) (psCons (pNm 4) (psCons (pNm 5) psNil))))), (sRet (dIfE (dTest (dBin oNe (dVar 5) (dTup aNil))) (dM1 oJoin (dC (.str " ")) (dLst (aCons (dC (.str "send")) (aCons (dVar 1) (aCons (dVar 4) (aStar (dVar 5) aNil)))))) (dJs ((dC (.str "send ")) :: ((dFmt (dVar 1)) :: ((dC (.str " ")) :: ((dFmt (dVar 4)) :: ((dC (.str " ")) :: []))))) Str.empty)))) ::
    ((pAny, (sRet (dM1 oJoin (dC (.str " ")) (dLC [6] (iOf (dVar 0)) (gN 6) mYes (dBlt oStr (aCons (dVar 6) aNil)))))) ::
    []))))))
def F_format_event : FD := fnD 7 B_format_event
theorem sc_format_event : FnScope ["event", "p", "key", "value", "q", "keys", "part"] ["event"] (defScope s_format_event) := ⟨rfl, rfl, rfl, by decide +kernel, rfl, by decide +kernel, by decide +kernel⟩
theorem ok_format_event (T : T0 K mg) : FnG P w K mg base 4 "format_event" 1 F_format_event := by
  obtain ⟨fd, F⟩ := T.c.def_ 9 (d := d_format_event) rfl
  refine ⟨⟨fd, ["event"], fn_dataG F sc_format_event fun cdv A outer s H E hr gd0 => ?_, F.bindsN fun _ _ _ _ _ _ us hl => match us, hl with | [_], _ => rfl⟩, T.glo 47, F.kp⟩
  exact (dss_cons (ds_if (dt_not (dt_val (de_fnG (ok_is_event T) hr gd0 rfl (takes_of rfl rfl rfl rfl) (da_cons (dv 0) da_nil) (by decide))))
    (dss_one (ds_raise (err_BadEvent T) hr rfl rfl (takes_of rfl rfl rfl rfl) (dv 0)))
    dss_nil)
    (dss_one (ds_match (dv 0) (dcs_cons sc_format_event.nd (dp_seq rfl (dps_cons (dp_str hr.units) (dps_cons (dp_name 1) (dps_cons (dp_name 2) (dps_cons (dp_name 3) dps_nil))))) (dss_one (ds_ret (de_js (DJs.cons de_str (DJs.cons (de_fmt (dv 1)) (DJs.cons de_str (DJs.cons (de_fmt (dv 2)) (DJs.cons de_str (DJs.cons (de_fmt (de_fnG (ok_quoted T) hr gd0 rfl (takes_of rfl rfl rfl rfl) (da_cons (dv 3) da_nil) (by decide))) DJs.nil)))))))))
    (dcs_cons sc_format_event.nd (dp_seq rfl (dps_cons (dp_str hr.units) (dps_cons (dp_name 1) (dps_cons (dp_name 4) (dps_cons dp_non dps_nil))))) (dss_one (ds_ret (de_js (DJs.cons de_str (DJs.cons (de_fmt (dv 1)) (DJs.cons de_str (DJs.cons (de_fmt (dv 4)) (DJs.cons de_str DJs.nil))))))))
    (dcs_cons sc_format_event.nd (dp_seq rfl (dps_cons (dp_str hr.units) (dps_cons (dp_name 1) (dps_cons (dp_name 4) (dps_cons (dp_name 5) dps_nil))))) (dss_one (ds_ret (de_if (dt_rel (op_oNe hr.units) (dv 5) (de_tup da_nil)) (de_join de_str (de_lst (da_cons de_str (da_cons (dv 1) (da_cons (dv 4) (da_star (dv 5) da_nil)))))) (de_js (DJs.cons de_str (DJs.cons (de_fmt (dv 1)) (DJs.cons de_str (DJs.cons (de_fmt (dv 4)) (DJs.cons de_str DJs.nil)))))))))
    (dcs_cons sc_format_event.nd dp_any (dss_one (ds_ret (de_join de_str (de_lc rfl sc_format_event.nd (di_any (dv 0)) (blkOk_by (own := [("part", 6)]) (by kernel_rfl)) (fun _ _ _ _ _ => (dg_name 6 sc_format_event.nd rfl (by first | exact Or.inl rfl | exact Or.inr rfl))) (fun _ _ _ _ _ => dts_nil) (fun _ _ _ _ _ => (de_bt c_oStr rfl (T.free 6) (by decide +kernel) (da_cons (dv 6) da_nil))) (by decide)))))
    dcs_nil)))))))
def B_inner_plans : MS := (sSeq (sIf (dOrT (dNotT (dTest (dBlt oIsi (aCons (dVar 0) (aCons (dC (.ty "tuple")) aNil))))) (dOrT (dTest (dBin oEq (dBlt oLen (aCons (dVar 0) aNil)) (dC (.int 0)))) (dNotT (dTest (dBlt oIsi (aCons (dBin oIx (dVar 0) (dC (.int 0))) (aCons (dC (.ty "str")) aNil)))))))
    (sRet (dC .non))
    sNil)
    (sMatch (dVar 0) (((pSeq 2 (psCons (pStr "do") (psCons (pNm 1) psNil))), (sRet (dIfE (dTest (dCall 1 F_is_event [] (aCons (dVar 1) aNil))) (dLst aNil) (dC .non)))) ::
    (((pSeq 3 (psCons (pStr "repeat") (psCons (pNm 2) (psCons (pNm 3) psNil)))), (sRet (dIfE (dTest (dCall 1 F_is_count [] (aCons (dVar 2) aNil))) (dLst (aCons (dVar 3) aNil)) (dC .non)))) ::
    (((pSeq 2 (psCons (pStr "try") (psCons (pNm 3) psNil))), (sRet (dLst (aCons (dVar 3) aNil)))) ::
    (((pSeq 3 (psCons (pStr "each") (psCons (pNm 4) (psCons (pNm 3) psNil)))), (sRet (dIfE (dTest (dCall 1 F_is_word [] (aCons (dVar 4) aNil))) (dLst (aCons (dVar 3) aNil)) (dC .non)))) ::
    (((pSeq 5 (psCons (pStr "if") (psCons (pNm 5) (psCons (pNm 6) (psCons (pNm 3) (psCons (pNm 7) psNil)))))), (sRet (dIfE (dAndT (dTest (dCall 1 F_is_word [] (aCons (dVar 5) aNil))) (dTest (dCall 1 F_is_word [] (aCons (dVar 6) aNil)))) (dLst (aCons (dVar 3) (aCons (dVar 7) aNil))) (dC .non)))) ::
    ((pAny, (sRet (dC .non))) ::
    []))))))))
def F_inner_plans : FD := fnD 8 B_inner_plans
theorem sc_inner_plans : FnScope ["step", "event", "count", "plan", "name", "place", "key", "other"] ["step"] (defScope s_inner_plans) := ⟨rfl, rfl, rfl, by decide +kernel, rfl, by decide +kernel, by decide +kernel⟩
theorem ok_inner_plans (T : T0 K mg) : FnG P w K mg base 4 "inner_plans" 1 F_inner_plans := by
  obtain ⟨fd, F⟩ := T.c.def_ 13 (d := d_inner_plans) rfl
  refine ⟨⟨fd, ["step"], fn_dataG F sc_inner_plans fun cdv A outer s H E hr gd0 => ?_, F.bindsN fun _ _ _ _ _ _ us hl => match us, hl with | [_], _ => rfl⟩, T.glo 48, F.kp⟩
  exact (dss_cons (ds_if (DW.dt (dw_or (dt_not (dt_val (de_bf c_oIsi rfl (T.free 7) (by decide +kernel) (da_cons (dv 0) (da_cons (de_ty (n := "tuple") rfl (T.free 36) (by decide +kernel)) da_nil))))) (dw_or (dt_rel (op_oEq hr.units) (de_bf c_oLen rfl (T.free 5) (by decide +kernel) (da_cons (dv 0) da_nil)) de_int) (dw_or1 (dt_not (dt_val (de_bf c_oIsi rfl (T.free 7) (by decide +kernel) (da_cons (de_ix (dv 0) de_int) (da_cons (de_ty (n := "str") rfl (T.free 6) (by decide +kernel)) da_nil)))))))))
    (dss_one (ds_ret de_non))
    dss_nil)
    (dss_one (ds_match (dv 0) (dcs_cons sc_inner_plans.nd (dp_seq rfl (dps_cons (dp_str hr.units) (dps_cons (dp_name 1) dps_nil))) (dss_one (ds_ret (de_if (dt_val (de_fnG (ok_is_event T) hr gd0 rfl (takes_of rfl rfl rfl rfl) (da_cons (dv 1) da_nil) (by decide))) (de_lst da_nil) de_non)))
    (dcs_cons sc_inner_plans.nd (dp_seq rfl (dps_cons (dp_str hr.units) (dps_cons (dp_name 2) (dps_cons (dp_name 3) dps_nil)))) (dss_one (ds_ret (de_if (dt_val (de_fnG (ok_is_count T) hr gd0 rfl (takes_of rfl rfl rfl rfl) (da_cons (dv 2) da_nil) (by decide))) (de_lst (da_cons (dv 3) da_nil)) de_non)))
    (dcs_cons sc_inner_plans.nd (dp_seq rfl (dps_cons (dp_str hr.units) (dps_cons (dp_name 3) dps_nil))) (dss_one (ds_ret (de_lst (da_cons (dv 3) da_nil))))
    (dcs_cons sc_inner_plans.nd (dp_seq rfl (dps_cons (dp_str hr.units) (dps_cons (dp_name 4) (dps_cons (dp_name 3) dps_nil)))) (dss_one (ds_ret (de_if (dt_val (de_fnG (ok_is_word T) hr gd0 rfl (takes_of rfl rfl rfl rfl) (da_cons (dv 4) da_nil) (by decide))) (de_lst (da_cons (dv 3) da_nil)) de_non)))
    (dcs_cons sc_inner_plans.nd (dp_seq rfl (dps_cons (dp_str hr.units) (dps_cons (dp_name 5) (dps_cons (dp_name 6) (dps_cons (dp_name 3) (dps_cons (dp_name 7) dps_nil)))))) (dss_one (ds_ret (de_if (DW.dt (dw_and (dt_val (de_fnG (ok_is_word T) hr gd0 rfl (takes_of rfl rfl rfl rfl) (da_cons (dv 5) da_nil) (by decide))) (dw_and1 (dt_val (de_fnG (ok_is_word T) hr gd0 rfl (takes_of rfl rfl rfl rfl) (da_cons (dv 6) da_nil) (by decide)))))) (de_lst (da_cons (dv 3) (da_cons (dv 7) da_nil))) de_non)))
    (dcs_cons sc_inner_plans.nd dp_any (dss_one (ds_ret de_non))
    dcs_nil)))))))))
def B_parse_event : MS := (sSeq (sAsg (dIfE (dTest (dBlt oIsi (aCons (dVar 0) (aCons (dC (.ty "str")) aNil)))) (dCall 1 F_event_in [] (aCons (dVar 0) aNil)) (dC .non)) (gN 1))
    (sSeq (sIf (dOrT (dTest (dBin oIs (dVar 1) (dC .non))) (dOrT (dNotT (dTest (dCall 1 F_is_event [] (aCons (dVar 1) aNil)))) (dTest (dBin oNe (dCall 1 F_format_event [] (aCons (dVar 1) aNil)) (dVar 0)))))
    (sRaise "BadText" "value" (dVar 0))
    sNil)
    (sRet (dVar 1))))
def F_parse_event : FD := fnD 2 B_parse_event
theorem sc_parse_event : FnScope ["text", "found"] ["text"] (defScope s_parse_event) := ⟨rfl, rfl, rfl, by decide +kernel, rfl, by decide +kernel, by decide +kernel⟩
theorem ok_parse_event (T : T0 K mg) : FnG P w K mg base 5 "parse_event" 1 F_parse_event := by
  obtain ⟨fd, F⟩ := T.c.def_ 11 (d := d_parse_event) rfl
  refine ⟨⟨fd, ["text"], fn_dataG F sc_parse_event fun cdv A outer s H E hr gd0 => ?_, F.bindsN fun _ _ _ _ _ _ us hl => match us, hl with | [_], _ => rfl⟩, T.glo 49, F.kp⟩
  exact (dss_cons (ds_set 1 sc_parse_event.nd rfl (by first | exact Or.inl rfl | exact Or.inr rfl) (de_if (dt_val (de_bf c_oIsi rfl (T.free 7) (by decide +kernel) (da_cons (dv 0) (da_cons (de_ty (n := "str") rfl (T.free 6) (by decide +kernel)) da_nil)))) (de_fnG (ok_event_in T) hr gd0 rfl (takes_of rfl rfl rfl rfl) (da_cons (dv 0) da_nil) (by decide)) de_non))
    (dss_cons (ds_if (DW.dt (dw_or (dt_rel op_oIs (dv 1) de_non) (dw_or (dt_not (dt_val (de_fnG (ok_is_event T) hr gd0 rfl (takes_of rfl rfl rfl rfl) (da_cons (dv 1) da_nil) (by decide)))) (dw_or1 (dt_rel (op_oNe hr.units) (de_fnG (ok_format_event T) hr gd0 rfl (takes_of rfl rfl rfl rfl) (da_cons (dv 1) da_nil) (by decide)) (dv 0))))))
    (dss_one (ds_raise (err_BadText T) hr rfl rfl (takes_of rfl rfl rfl rfl) (dv 0)))
    dss_nil)
    (dss_one (ds_ret (dv 1)))))
def L_steps_in_1 (φ_steps_in : FD) : MS := (sAugA 2 (dCall 2 φ_steps_in [] (aCons (dVar 5) (aCons (dBin oAdd (dVar 1) (dC (.int 1))) aNil))))
def L_steps_in_2 (φ_steps_in : FD) : MS := (sSeq (sAsg (dCall 1 F_inner_plans [] (aCons (dVar 3) aNil)) (gN 4))
    (sSeq (sIf (dOrT (dTest (dBin oIs (dVar 4) (dC .non))) (dAndT (dTest (dBin oNe (dVar 4) (dLst aNil))) (dTest (dBin oEq (dBin oIx (dVar 4) (dC (.int 0))) (dTup aNil)))))
    (sRet (dBin oAdd (dC (.int 200)) (dC (.int 1))))
    sNil)
    (sSeq (sAugA 2 (dC (.int 1)))
    (sSeq (sFor (iOf (dVar 4)) (gN 5) (L_steps_in_1 φ_steps_in))
    (sIf (dTest (dBin oGt (dVar 2) (dC (.int 200))))
    (sRet (dVar 2))
    sNil)))))
def B_steps_in (φ_steps_in : FD) : MS := (sSeq (sIf (dOrT (dNotT (dTest (dBlt oIsi (aCons (dVar 0) (aCons (dC (.ty "tuple")) aNil))))) (dAndT (dTest (dBin oGt (dVar 1) (dC (.int 6)))) (dTest (dBin oNe (dVar 0) (dTup aNil)))))
    (sRet (dBin oAdd (dC (.int 200)) (dC (.int 1))))
    sNil)
    (sSeq (sAsg (dC (.int 0)) (gN 2))
    (sSeq (sFor (iOf (dVar 0)) (gN 3) (L_steps_in_2 φ_steps_in))
    (sRet (dVar 2)))))
theorem sc_steps_in : FnScope ["plan", "depth", "many", "step", "inner", "one"] ["plan", "depth"] (defScope s_steps_in) := ⟨rfl, rfl, rfl, by decide +kernel, rfl, by decide +kernel, by decide +kernel⟩

def F_steps_in : Nat → FD
  | 0 => fun _ _ => .bad
  | n + 1 => fnD 6 (B_steps_in (F_steps_in n))

theorem bg_steps_in (T : T0 K mg) : FnG P w K mg base (5 + 0) "steps_in" 2 (F_steps_in 0) := by
  obtain ⟨fd, F⟩ := T.c.def_ 14 (d := d_steps_in) rfl
  exact ⟨⟨fd, ["plan", "depth"], fn_dataG (k := 4) (B := fun _ _ => .bad) F sc_steps_in fun cdv A outer s H E hr gd0 => dss_bad, F.bindsN fun _ _ _ _ _ _ us hl => match us, hl with | [_, _], _ => rfl⟩, T.glo 52, F.kp⟩
theorem st_steps_in (T : T0 K mg) {n : Nat} {φ_steps_in : FD} (h_steps_in : FnG P w K mg base (5 + n) "steps_in" 2 φ_steps_in) : FnG P w K mg base (5 + (n + 1)) "steps_in" 2 (fnD 6 (B_steps_in φ_steps_in)) := by
  obtain ⟨fd, F⟩ := T.c.def_ 14 (d := d_steps_in) rfl
  refine ⟨⟨fd, ["plan", "depth"], fn_dataG (k := 5 + n) F sc_steps_in fun cdv A outer s H E hr gd0 => ?_, F.bindsN fun _ _ _ _ _ _ us hl => match us, hl with | [_, _], _ => rfl⟩, T.glo 52, F.kp⟩
  exact (dss_cons (ds_if (DW.dt (dw_or (dt_not (dt_val (de_bf c_oIsi rfl (T.free 7) (by decide +kernel) (da_cons (dv 0) (da_cons (de_ty (n := "tuple") rfl (T.free 36) (by decide +kernel)) da_nil))))) (dw_or1 (DW.dt (dw_and (dt_rel op_oGt (dv 1) (de_gint (T.int 51))) (dw_and1 (dt_rel (op_oNe hr.units) (dv 0) (de_tup da_nil))))))))
    (dss_one (ds_ret (de_bin op_oAdd (de_gint (T.int 50)) de_int)))
    dss_nil)
    (dss_cons (ds_set 2 sc_steps_in.nd rfl (by first | exact Or.inl rfl | exact Or.inr rfl) de_int)
    (dss_cons (ds_for (passes_of rfl) rfl (di_any (dv 0)) (dg_name 3 sc_steps_in.nd rfl (by first | exact Or.inl rfl | exact Or.inr rfl))
    (dss_cons (ds_set 4 sc_steps_in.nd rfl (by first | exact Or.inl rfl | exact Or.inr rfl) (de_fnG (ok_inner_plans T) hr gd0 rfl (takes_of rfl rfl rfl rfl) (da_cons (dv 3) da_nil) (by omega)))
    (dss_cons (ds_if (DW.dt (dw_or (dt_rel op_oIs (dv 4) de_non) (dw_or1 (DW.dt (dw_and (dt_rel (op_oNe hr.units) (dv 4) (de_lst da_nil)) (dw_and1 (dt_rel (op_oEq hr.units) (de_ix (dv 4) de_int) (de_tup da_nil))))))))
    (dss_one (ds_ret (de_bin op_oAdd (de_gint (T.int 50)) de_int)))
    dss_nil)
    (dss_cons (ds_augA 2 sc_steps_in.nd rfl (by first | exact Or.inl rfl | exact Or.inr rfl) de_int)
    (dss_cons (ds_for (passes_of rfl) rfl (di_any (dv 4)) (dg_name 5 sc_steps_in.nd rfl (by first | exact Or.inl rfl | exact Or.inr rfl))
    (dss_one (ds_augA 2 sc_steps_in.nd rfl (by first | exact Or.inl rfl | exact Or.inr rfl) (de_fnG h_steps_in hr gd0 rfl (takes_of rfl rfl rfl rfl) (da_cons (dv 5) (da_cons (de_bin op_oAdd (dv 1) de_int) da_nil)) (by omega)))))
    (dss_one (ds_if (dt_rel op_oGt (dv 2) (de_gint (T.int 50)))
    (dss_one (ds_ret (dv 2)))
    dss_nil)))))))
    (dss_one (ds_ret (dv 2))))))
theorem ok_steps_in (T : T0 K mg) : ∀ n : Nat, FnG P w K mg base (5 + n) "steps_in" 2 (F_steps_in n)
  | 0 => bg_steps_in T
  | n + 1 => st_steps_in T (ok_steps_in T n)
def B_law_head : MS := (sSeq (sIf (dTest (dBin oEq (dBin oIx (dVar 0) (dC (.int 0))) (dC (.str "do"))))
    (sRet (dCall 1 F_format_event [] (aCons (dBin oIx (dVar 0) (dC (.int 1))) aNil)))
    sNil)
    (sSeq (sIf (dTest (dBin oEq (dBin oIx (dVar 0) (dC (.int 0))) (dC (.str "repeat"))))
    (sRet (dBin oAdd (dC (.str "repeat ")) (dBlt oStr (aCons (dBin oIx (dVar 0) (dC (.int 1))) aNil))))
    sNil)
    (sSeq (sIf (dTest (dBin oEq (dBin oIx (dVar 0) (dC (.int 0))) (dC (.str "each"))))
    (sRet (dBin oAdd (dC (.str "each ")) (dBin oIx (dVar 0) (dC (.int 1)))))
    sNil)
    (sRet (dIfE (dTest (dBin oEq (dBin oIx (dVar 0) (dC (.int 0))) (dC (.str "try")))) (dC (.str "try")) (dBin oAdd (dBin oAdd (dBin oAdd (dC (.str "if ")) (dBin oIx (dVar 0) (dC (.int 1)))) (dC (.str " "))) (dBin oIx (dVar 0) (dC (.int 2)))))))))
def F_law_head : FD := fnD 1 B_law_head
theorem sc_law_head : FnScope ["_law_step_here"] ["_law_step_here"] (defScope s_law_head) := ⟨rfl, rfl, rfl, by decide +kernel, rfl, by decide +kernel, by decide +kernel⟩
theorem ok_law_head (T : T0 K mg) : FnG P w K mg base 5 "_law_head" 1 F_law_head := by
  obtain ⟨fd, F⟩ := T.c.def_ 28 (d := d_law_head) rfl
  refine ⟨⟨fd, ["_law_step_here"], fn_dataG F sc_law_head fun cdv A outer s H E hr gd0 => ?_, F.bindsN fun _ _ _ _ _ _ us hl => match us, hl with | [_], _ => rfl⟩, T.glo 53, F.kp⟩
  exact (dss_cons (ds_if (dt_rel (op_oEq hr.units) (de_ix (dv 0) de_int) de_str)
    (dss_one (ds_ret (de_fnG (ok_format_event T) hr gd0 rfl (takes_of rfl rfl rfl rfl) (da_cons (de_ix (dv 0) de_int) da_nil) (by decide))))
    dss_nil)
    (dss_cons (ds_if (dt_rel (op_oEq hr.units) (de_ix (dv 0) de_int) de_str)
    (dss_one (ds_ret (de_bin op_oAdd de_str (de_bt c_oStr rfl (T.free 6) (by decide +kernel) (da_cons (de_ix (dv 0) de_int) da_nil)))))
    dss_nil)
    (dss_cons (ds_if (dt_rel (op_oEq hr.units) (de_ix (dv 0) de_int) de_str)
    (dss_one (ds_ret (de_bin op_oAdd de_str (de_ix (dv 0) de_int))))
    dss_nil)
    (dss_one (ds_ret (de_if (dt_rel (op_oEq hr.units) (de_ix (dv 0) de_int) de_str) de_str (de_bin op_oAdd (de_bin op_oAdd (de_bin op_oAdd de_str (de_ix (dv 0) de_int)) de_str) (de_ix (dv 0) de_int))))))))
def B_event_step : MS := (sTryN (sRet (dTup (aCons (dC (.str "do")) (aCons (dCall 1 F_parse_event [] (aCons (dVar 0) aNil)) aNil)))) (cl1 "BadText") (sRet (dC .non)))
def F_event_step : FD := fnD 1 B_event_step
theorem sc_event_step : FnScope ["text"] ["text"] (defScope s_event_step) := ⟨rfl, rfl, rfl, by decide +kernel, rfl, by decide +kernel, by decide +kernel⟩
theorem ok_event_step (T : T0 K mg) : FnG P w K mg base 6 "event_step" 1 F_event_step := by
  obtain ⟨fd, F⟩ := T.c.def_ 17 (d := d_event_step) rfl
  refine ⟨⟨fd, ["text"], fn_dataG F sc_event_step fun cdv A outer s H E hr gd0 => ?_, F.bindsN fun _ _ _ _ _ _ us hl => match us, hl with | [_], _ => rfl⟩, T.glo 55, F.kp⟩
  exact (dss_one (ds_tryN (cl := cl1 "BadText") rfl rfl ⟨rfl, rfl, .inl (T.glo 0)⟩ (takes_of rfl rfl rfl rfl) (cl1_ok (He.exm_ok (T.c.fact 54 (f := .exm "BadText" "BadText" true)))) (fun W1 pn1 xe1 tk1 ps1 => (dss_one (ds_ret (de_tup (da_cons de_str (da_cons (de_fnG (ok_parse_event T) hr gd0 rfl tk1 (da_cons (dv 0) da_nil) (by decide)) da_nil)))))) (fun xa xo xp => (dss_one (ds_ret de_non)))))
def L_law_lines_1 (φ_law_lines : FD) : MS := (sSeq (sExpr (dApp (dVar 2) (aCons (dBin oAdd (dBin oMul (dC (.str "  ")) (dVar 1)) (dCall 1 F_law_head [] (aCons (dVar 3) aNil))) aNil)))
    (sSeq (sIf (dTest (dBin oIn (dBin oIx (dVar 3) (dC (.int 0))) (dLst (aCons (dC (.str "repeat")) (aCons (dC (.str "each")) aNil)))))
    (sAsg (dBin oAddO (dVar 2) (dCall 2 φ_law_lines [] (aCons (dBin oIx (dVar 3) (dC (.int 2))) (aCons (dBin oAdd (dVar 1) (dC (.int 1))) aNil)))) (gN 2))
    sNil)
    (sSeq (sIf (dTest (dBin oEq (dBin oIx (dVar 3) (dC (.int 0))) (dC (.str "try"))))
    (sAsg (dBin oAddO (dVar 2) (dCall 2 φ_law_lines [] (aCons (dBin oIx (dVar 3) (dC (.int 1))) (aCons (dBin oAdd (dVar 1) (dC (.int 1))) aNil)))) (gN 2))
    sNil)
    (sIf (dTest (dBin oEq (dBin oIx (dVar 3) (dC (.int 0))) (dC (.str "if"))))
    (sSeq (sAsg (dBin oAddO (dVar 2) (dCall 2 φ_law_lines [] (aCons (dBin oIx (dVar 3) (dC (.int 3))) (aCons (dBin oAdd (dVar 1) (dC (.int 1))) aNil)))) (gN 2))
    (sIf (dTest (dBin oNe (dBin oIx (dVar 3) (dC (.int 4))) (dTup aNil)))
    (sAsg (dBin oAddO (dBin oAddL (dVar 2) (dLst (aCons (dBin oAdd (dBin oMul (dC (.str "  ")) (dVar 1)) (dC (.str "else"))) aNil))) (dCall 2 φ_law_lines [] (aCons (dBin oIx (dVar 3) (dC (.int 4))) (aCons (dBin oAdd (dVar 1) (dC (.int 1))) aNil)))) (gN 2))
    sNil))
    sNil))))
def B_law_lines (φ_law_lines : FD) : MS := (sSeq (sAsg (dLstO aNil) (gN 2))
    (sSeq (sFor (iOf (dVar 0)) (gN 3) (L_law_lines_1 φ_law_lines))
    (sRet (dVar 2))))
theorem sc_law_lines : FnScope ["_law_plan_here", "_law_deep", "_law_found", "_law_step_here"] ["_law_plan_here", "_law_deep"] (defScope s_law_lines) := ⟨rfl, rfl, rfl, by decide +kernel, rfl, by decide +kernel, by decide +kernel⟩

def F_law_lines : Nat → FD
  | 0 => fun _ _ => .bad
  | n + 1 => fnD 4 (B_law_lines (F_law_lines n))

theorem bg_law_lines (T : T0 K mg) : FnG P w K mg base (6 + 0) "_law_lines" 2 (F_law_lines 0) := by
  obtain ⟨fd, F⟩ := T.c.def_ 29 (d := d_law_lines) rfl
  exact ⟨⟨fd, ["_law_plan_here", "_law_deep"], fn_dataG (k := 5) (B := fun _ _ => .bad) F sc_law_lines fun cdv A outer s H E hr gd0 => dss_bad, F.bindsN fun _ _ _ _ _ _ us hl => match us, hl with | [_, _], _ => rfl⟩, T.glo 56, F.kp⟩
theorem st_law_lines (T : T0 K mg) {n : Nat} {φ_law_lines : FD} (h_law_lines : FnG P w K mg base (6 + n) "_law_lines" 2 φ_law_lines) : FnG P w K mg base (6 + (n + 1)) "_law_lines" 2 (fnD 4 (B_law_lines φ_law_lines)) := by
  obtain ⟨fd, F⟩ := T.c.def_ 29 (d := d_law_lines) rfl
  refine ⟨⟨fd, ["_law_plan_here", "_law_deep"], fn_dataG (k := 6 + n) F sc_law_lines fun cdv A outer s H E hr gd0 => ?_, F.bindsN fun _ _ _ _ _ _ us hl => match us, hl with | [_, _], _ => rfl⟩, T.glo 56, F.kp⟩
  exact (dss_cons (ds_set 2 sc_law_lines.nd rfl (by first | exact Or.inl rfl | exact Or.inr rfl) (de_lstO da_nil))
    (dss_cons (ds_for (passes_of rfl) rfl (di_any (dv 0)) (dg_name 3 sc_law_lines.nd rfl (by first | exact Or.inl rfl | exact Or.inr rfl))
    (dss_cons (ds_expr (de_app (dv 2) (da_cons (de_bin op_oAdd (de_bin op_oMul de_str (dv 1)) (de_fnG (ok_law_head T) hr gd0 rfl (takes_of rfl rfl rfl rfl) (da_cons (dv 3) da_nil) (by omega))) da_nil)))
    (dss_cons (ds_if (dt_rel op_oIn (de_ix (dv 3) de_int) (de_lst (da_cons de_str (da_cons de_str da_nil))))
    (dss_one (ds_set 2 sc_law_lines.nd rfl (by first | exact Or.inl rfl | exact Or.inr rfl) (de_bin op_oAddO (dv 2) (de_fnG h_law_lines hr gd0 rfl (takes_of rfl rfl rfl rfl) (da_cons (de_ix (dv 3) de_int) (da_cons (de_bin op_oAdd (dv 1) de_int) da_nil)) (by omega)))))
    dss_nil)
    (dss_cons (ds_if (dt_rel (op_oEq hr.units) (de_ix (dv 3) de_int) de_str)
    (dss_one (ds_set 2 sc_law_lines.nd rfl (by first | exact Or.inl rfl | exact Or.inr rfl) (de_bin op_oAddO (dv 2) (de_fnG h_law_lines hr gd0 rfl (takes_of rfl rfl rfl rfl) (da_cons (de_ix (dv 3) de_int) (da_cons (de_bin op_oAdd (dv 1) de_int) da_nil)) (by omega)))))
    dss_nil)
    (dss_one (ds_if (dt_rel (op_oEq hr.units) (de_ix (dv 3) de_int) de_str)
    (dss_cons (ds_set 2 sc_law_lines.nd rfl (by first | exact Or.inl rfl | exact Or.inr rfl) (de_bin op_oAddO (dv 2) (de_fnG h_law_lines hr gd0 rfl (takes_of rfl rfl rfl rfl) (da_cons (de_ix (dv 3) de_int) (da_cons (de_bin op_oAdd (dv 1) de_int) da_nil)) (by omega))))
    (dss_one (ds_if (dt_rel (op_oNe hr.units) (de_ix (dv 3) de_int) (de_tup da_nil))
    (dss_one (ds_set 2 sc_law_lines.nd rfl (by first | exact Or.inl rfl | exact Or.inr rfl) (de_bin op_oAddO (de_bin op_oAddL (dv 2) (de_lst (da_cons (de_bin op_oAdd (de_bin op_oMul de_str (dv 1)) de_str) da_nil))) (de_fnG h_law_lines hr gd0 rfl (takes_of rfl rfl rfl rfl) (da_cons (de_ix (dv 3) de_int) (da_cons (de_bin op_oAdd (dv 1) de_int) da_nil)) (by omega)))))
    dss_nil)))
    dss_nil))))))
    (dss_one (ds_ret (dv 2)))))
theorem ok_law_lines (T : T0 K mg) : ∀ n : Nat, FnG P w K mg base (6 + n) "_law_lines" 2 (F_law_lines n)
  | 0 => bg_law_lines T
  | n + 1 => st_law_lines T (ok_law_lines T n)
def B_law_is_event : MS := (sSeq (sAsg (dC (.bl true)) (gN 1))
    (sSeq (sTryN (sExpr (dCall 1 F_parse_event [] (aCons (dVar 0) aNil))) (cl1 "BadText") (sAsg (dC (.bl false)) (gN 1)))
    (sRet (dVar 1))))
def F_law_is_event : FD := fnD 2 B_law_is_event
theorem sc_law_is_event : FnScope ["_law_text", "_law_kept"] ["_law_text"] (defScope s_law_is_event) := ⟨rfl, rfl, rfl, by decide +kernel, rfl, by decide +kernel, by decide +kernel⟩
theorem ok_law_is_event (T : T0 K mg) : FnG P w K mg base 6 "_law_is_event" 1 F_law_is_event := by
  obtain ⟨fd, F⟩ := T.c.def_ 32 (d := d_law_is_event) rfl
  refine ⟨⟨fd, ["_law_text"], fn_dataG F sc_law_is_event fun cdv A outer s H E hr gd0 => ?_, F.bindsN fun _ _ _ _ _ _ us hl => match us, hl with | [_], _ => rfl⟩, T.glo 57, F.kp⟩
  exact (dss_cons (ds_set 1 sc_law_is_event.nd rfl (by first | exact Or.inl rfl | exact Or.inr rfl) de_bl)
    (dss_cons (ds_tryN (cl := cl1 "BadText") rfl rfl ⟨rfl, rfl, .inl (T.glo 0)⟩ (takes_of rfl rfl rfl rfl) (cl1_ok (He.exm_ok (T.c.fact 54 (f := .exm "BadText" "BadText" true)))) (fun W2 pn2 xe2 tk2 ps2 => (dss_one (ds_expr (de_fnG (ok_parse_event T) hr gd0 rfl tk2 (da_cons (dv 0) da_nil) (by decide))))) (fun xa xo xp => (dss_one (ds_set 1 sc_law_is_event.nd rfl (by first | exact Or.inl rfl | exact Or.inr rfl) de_bl))))
    (dss_one (ds_ret (dv 1)))))
def B_step_in : MS := (sSeq (sAsg (dTM oSplit (dVar 0) (aCons (dC (.str " ")) aNil)) (gN 1))
    (sMatch (dVar 1) (((pSeq 2 (psCons (pStr "repeat") (psCons (pNm 2) psNil))), (sRet (dIfE (dTest (dCall 1 F_is_count [] (aCons (dCall 1 F_number_in [] (aCons (dVar 2) aNil)) aNil))) (dTup (aCons (dC (.str "repeat")) (aCons (dCall 1 F_number_in [] (aCons (dVar 2) aNil)) (aCons (dTup aNil) aNil)))) (dC .non)))) ::
    (((pSeq 1 (psCons (pStr "try") psNil)), (sRet (dTup (aCons (dC (.str "try")) (aCons (dTup aNil) aNil))))) ::
    (((pSeq 2 (psCons (pStr "each") (psCons (pNm 3) psNil))), (sRet (dIfE (dTest (dCall 1 F_is_word [] (aCons (dVar 3) aNil))) (dTup (aCons (dC (.str "each")) (aCons (dVar 3) (aCons (dTup aNil) aNil)))) (dC .non)))) ::
    (((pSeq 3 (psCons (pStr "if") (psCons (pNm 4) (psCons (pNm 5) psNil)))), (sRet (dIfE (dAndT (dTest (dCall 1 F_is_word [] (aCons (dVar 4) aNil))) (dTest (dCall 1 F_is_word [] (aCons (dVar 5) aNil)))) (dTup (aCons (dC (.str "if")) (aCons (dVar 4) (aCons (dVar 5) (aCons (dTup aNil) (aCons (dTup aNil) aNil)))))) (dC .non)))) ::
    ((pAny, (sRet (dCall 1 F_event_step [] (aCons (dVar 0) aNil)))) ::
    [])))))))
def F_step_in : FD := fnD 6 B_step_in
theorem sc_step_in : FnScope ["text", "parts", "count", "name", "place", "key"] ["text"] (defScope s_step_in) := ⟨rfl, rfl, rfl, by decide +kernel, rfl, by decide +kernel, by decide +kernel⟩
theorem ok_step_in (T : T0 K mg) : FnG P w K mg base 7 "step_in" 1 F_step_in := by
  obtain ⟨fd, F⟩ := T.c.def_ 16 (d := d_step_in) rfl
  refine ⟨⟨fd, ["text"], fn_dataG F sc_step_in fun cdv A outer s H E hr gd0 => ?_, F.bindsN fun _ _ _ _ _ _ us hl => match us, hl with | [_], _ => rfl⟩, T.glo 58, F.kp⟩
  exact (dss_cons (ds_set 1 sc_step_in.nd rfl (by first | exact Or.inl rfl | exact Or.inr rfl) (de_tm PySem.F.slot_str_split PySem.F.type_str_split mt_split m_oSplit (dv 0) (da_cons de_str da_nil)))
    (dss_one (ds_match (dv 1) (dcs_cons sc_step_in.nd (dp_seq rfl (dps_cons (dp_str hr.units) (dps_cons (dp_name 2) dps_nil))) (dss_one (ds_ret (de_if (dt_val (de_fnG (ok_is_count T) hr gd0 rfl (takes_of rfl rfl rfl rfl) (da_cons (de_fnG (ok_number_in T) hr gd0 rfl (takes_of rfl rfl rfl rfl) (da_cons (dv 2) da_nil) (by decide)) da_nil) (by decide))) (de_tup (da_cons de_str (da_cons (de_fnG (ok_number_in T) hr gd0 rfl (takes_of rfl rfl rfl rfl) (da_cons (dv 2) da_nil) (by decide)) (da_cons (de_tup da_nil) da_nil)))) de_non)))
    (dcs_cons sc_step_in.nd (dp_seq rfl (dps_cons (dp_str hr.units) dps_nil)) (dss_one (ds_ret (de_tup (da_cons de_str (da_cons (de_tup da_nil) da_nil)))))
    (dcs_cons sc_step_in.nd (dp_seq rfl (dps_cons (dp_str hr.units) (dps_cons (dp_name 3) dps_nil))) (dss_one (ds_ret (de_if (dt_val (de_fnG (ok_is_word T) hr gd0 rfl (takes_of rfl rfl rfl rfl) (da_cons (dv 3) da_nil) (by decide))) (de_tup (da_cons de_str (da_cons (dv 3) (da_cons (de_tup da_nil) da_nil)))) de_non)))
    (dcs_cons sc_step_in.nd (dp_seq rfl (dps_cons (dp_str hr.units) (dps_cons (dp_name 4) (dps_cons (dp_name 5) dps_nil)))) (dss_one (ds_ret (de_if (DW.dt (dw_and (dt_val (de_fnG (ok_is_word T) hr gd0 rfl (takes_of rfl rfl rfl rfl) (da_cons (dv 4) da_nil) (by decide))) (dw_and1 (dt_val (de_fnG (ok_is_word T) hr gd0 rfl (takes_of rfl rfl rfl rfl) (da_cons (dv 5) da_nil) (by decide)))))) (de_tup (da_cons de_str (da_cons (dv 4) (da_cons (dv 5) (da_cons (de_tup da_nil) (da_cons (de_tup da_nil) da_nil)))))) de_non)))
    (dcs_cons sc_step_in.nd dp_any (dss_one (ds_ret (de_fnG (ok_event_step T) hr gd0 rfl (takes_of rfl rfl rfl rfl) (da_cons (dv 0) da_nil) (by decide))))
    dcs_nil))))))))
def B_law_kind : MS := (sSeq (sAsg (dTM oSplit (dVar 0) (aCons (dC (.str " ")) aNil)) (gN 1))
    (sSeq (sIf (dAndT (dTest (dBin oEq (dBlt oLen (aCons (dVar 1) aNil)) (dC (.int 2)))) (dAndT (dTest (dBin oEq (dBin oIx (dVar 1) (dC (.int 0))) (dC (.str "repeat")))) (dTest (dCall 1 F_law_is_number [] (aCons (dBin oIx (dVar 1) (dC (.int 1))) aNil)))))
    (sRet (dC (.str "repeat")))
    sNil)
    (sSeq (sIf (dOrT (dTest (dBin oEq (dVar 0) (dC (.str "try")))) (dTest (dBin oEq (dVar 0) (dC (.str "else")))))
    (sRet (dVar 0))
    sNil)
    (sSeq (sIf (dAndT (dTest (dBin oEq (dBlt oLen (aCons (dVar 1) aNil)) (dC (.int 2)))) (dAndT (dTest (dBin oEq (dBin oIx (dVar 1) (dC (.int 0))) (dC (.str "each")))) (dTest (dCall 1 F_law_is_word [] (aCons (dBin oIx (dVar 1) (dC (.int 1))) aNil)))))
    (sRet (dC (.str "each")))
    sNil)
    (sSeq (sIf (dAndT (dTest (dBin oEq (dBlt oLen (aCons (dVar 1) aNil)) (dC (.int 3)))) (dAndT (dTest (dBin oEq (dBin oIx (dVar 1) (dC (.int 0))) (dC (.str "if")))) (dAndT (dTest (dCall 1 F_law_is_word [] (aCons (dBin oIx (dVar 1) (dC (.int 1))) aNil))) (dTest (dCall 1 F_law_is_word [] (aCons (dBin oIx (dVar 1) (dC (.int 2))) aNil))))))
    (sRet (dC (.str "if")))
    sNil)
    (sRet (dIfE (dTest (dCall 1 F_law_is_event [] (aCons (dVar 0) aNil))) (dC (.str "do")) (dC (.str "odd")))))))))
def F_law_kind : FD := fnD 2 B_law_kind
theorem sc_law_kind : FnScope ["_law_text", "_law_parts"] ["_law_text"] (defScope s_law_kind) := ⟨rfl, rfl, rfl, by decide +kernel, rfl, by decide +kernel, by decide +kernel⟩
theorem ok_law_kind (T : T0 K mg) : FnG P w K mg base 7 "_law_kind" 1 F_law_kind := by
  obtain ⟨fd, F⟩ := T.c.def_ 33 (d := d_law_kind) rfl
  refine ⟨⟨fd, ["_law_text"], fn_dataG F sc_law_kind fun cdv A outer s H E hr gd0 => ?_, F.bindsN fun _ _ _ _ _ _ us hl => match us, hl with | [_], _ => rfl⟩, T.glo 59, F.kp⟩
  exact (dss_cons (ds_set 1 sc_law_kind.nd rfl (by first | exact Or.inl rfl | exact Or.inr rfl) (de_tm PySem.F.slot_str_split PySem.F.type_str_split mt_split m_oSplit (dv 0) (da_cons de_str da_nil)))
    (dss_cons (ds_if (DW.dt (dw_and (dt_rel (op_oEq hr.units) (de_bf c_oLen rfl (T.free 5) (by decide +kernel) (da_cons (dv 1) da_nil)) de_int) (dw_and (dt_rel (op_oEq hr.units) (de_ix (dv 1) de_int) de_str) (dw_and1 (dt_val (de_fnG (ok_law_is_number T) hr gd0 rfl (takes_of rfl rfl rfl rfl) (da_cons (de_ix (dv 1) de_int) da_nil) (by decide)))))))
    (dss_one (ds_ret de_str))
    dss_nil)
    (dss_cons (ds_if (DW.dt (dw_or (dt_rel (op_oEq hr.units) (dv 0) de_str) (dw_or1 (dt_rel (op_oEq hr.units) (dv 0) de_str))))
    (dss_one (ds_ret (dv 0)))
    dss_nil)
    (dss_cons (ds_if (DW.dt (dw_and (dt_rel (op_oEq hr.units) (de_bf c_oLen rfl (T.free 5) (by decide +kernel) (da_cons (dv 1) da_nil)) de_int) (dw_and (dt_rel (op_oEq hr.units) (de_ix (dv 1) de_int) de_str) (dw_and1 (dt_val (de_fnG (ok_law_is_word T) hr gd0 rfl (takes_of rfl rfl rfl rfl) (da_cons (de_ix (dv 1) de_int) da_nil) (by decide)))))))
    (dss_one (ds_ret de_str))
    dss_nil)
    (dss_cons (ds_if (DW.dt (dw_and (dt_rel (op_oEq hr.units) (de_bf c_oLen rfl (T.free 5) (by decide +kernel) (da_cons (dv 1) da_nil)) de_int) (dw_and (dt_rel (op_oEq hr.units) (de_ix (dv 1) de_int) de_str) (dw_and (dt_val (de_fnG (ok_law_is_word T) hr gd0 rfl (takes_of rfl rfl rfl rfl) (da_cons (de_ix (dv 1) de_int) da_nil) (by decide))) (dw_and1 (dt_val (de_fnG (ok_law_is_word T) hr gd0 rfl (takes_of rfl rfl rfl rfl) (da_cons (de_ix (dv 1) de_int) da_nil) (by decide))))))))
    (dss_one (ds_ret de_str))
    dss_nil)
    (dss_one (ds_ret (de_if (dt_val (de_fnG (ok_law_is_event T) hr gd0 rfl (takes_of rfl rfl rfl rfl) (da_cons (dv 0) da_nil) (by decide))) de_str de_str))))))))
def L_Reader_plan_1_t (φ_Reader_plan φ_Reader_body φ_Reader_filled : FD) : MS := (mAndW (mWal 3 oIsNot (dMeth "text_at" 2 [("Reader", F_Reader_text_at)] (dVar 0) (aCons (dVar 1) aNil)) (dC .non)) (dTest (dBin oNe (dVar 3) (dC (.str "else")))))
def L_Reader_plan_1 (φ_Reader_plan φ_Reader_body φ_Reader_filled : FD) : MS := (sSeq (sAsg (dCall 1 F_step_in [] (aCons (dVar 3) aNil)) (gN 4))
    (sSeq (sIf (dOrT (dTest (dBin oIs (dVar 4) (dC .non))) (dOrT (dTest (dBin oEq (dVar 1) (dC (.int 6)))) (dTest (dBin oEq (dFld "many" ["Reader"] (dVar 0)) (dC (.int 200))))))
    (sRaise "BadLine" "value" (dFld "at" ["Reader"] (dVar 0)))
    sNil)
    (sSeq (sFldAug "at" ["Reader"] (dVar 0) (dC (.int 1)))
    (sSeq (sFldAug "many" ["Reader"] (dVar 0) (dC (.int 1)))
    (sExpr (dApp (dVar 2) (aCons (dIfE (dTest (dBin oEq (dBin oIx (dVar 4) (dC (.int 0))) (dC (.str "do")))) (dVar 4) (dMeth "filled" 3 [("Reader", φ_Reader_filled)] (dVar 0) (aCons (dVar 4) (aCons (dVar 1) aNil)))) aNil)))))))
def B_Reader_plan (φ_Reader_plan φ_Reader_body φ_Reader_filled : FD) : MS := (sSeq (sAsg (dLstO aNil) (gN 2))
    (sSeq (whileW (L_Reader_plan_1_t φ_Reader_plan φ_Reader_body φ_Reader_filled) (L_Reader_plan_1 φ_Reader_plan φ_Reader_body φ_Reader_filled) 300)
    (sRet (dBlt oTuple (aCons (dVar 2) aNil)))))
theorem sc_Reader_plan : FnScope ["self", "depth", "found", "text", "step"] ["self", "depth"] (defScope s_Reader_plan) := ⟨rfl, rfl, rfl, by decide +kernel, rfl, by decide +kernel, by decide +kernel⟩
def B_Reader_body (φ_Reader_plan φ_Reader_body φ_Reader_filled : FD) : MS := (sSeq (sAsg (dMeth "plan" 2 [("Reader", φ_Reader_plan)] (dVar 0) (aCons (dVar 1) aNil)) (gN 2))
    (sSeq (sIf (dTest (dBin oEq (dVar 2) (dTup aNil)))
    (sRaise "BadLine" "value" (dFld "at" ["Reader"] (dVar 0)))
    sNil)
    (sRet (dVar 2))))
theorem sc_Reader_body : FnScope ["self", "depth", "found"] ["self", "depth"] (defScope s_Reader_body) := ⟨rfl, rfl, rfl, by decide +kernel, rfl, by decide +kernel, by decide +kernel⟩
def B_Reader_filled (φ_Reader_plan φ_Reader_body φ_Reader_filled : FD) : MS := (sSeq (sAsg (dMeth "body" 2 [("Reader", φ_Reader_body)] (dVar 0) (aCons (dBin oAdd (dVar 2) (dC (.int 1))) aNil)) (gN 3))
    (sSeq (sIf (dTest (dBin oNe (dBin oIx (dVar 1) (dC (.int 0))) (dC (.str "if"))))
    (sRet (dBin oAdd (dSl (dVar 1) oNoPart (oPart (dNeg (dC (.int 1))))) (dTup (aCons (dVar 3) aNil))))
    sNil)
    (sSeq (sIf (dTest (dBin oNe (dMeth "text_at" 2 [("Reader", F_Reader_text_at)] (dVar 0) (aCons (dVar 2) aNil)) (dC (.str "else"))))
    (sRet (dBin oAdd (dSl (dVar 1) oNoPart (oPart (dC (.int 3)))) (dTup (aCons (dVar 3) (aCons (dTup aNil) aNil)))))
    sNil)
    (sSeq (sFldAug "at" ["Reader"] (dVar 0) (dC (.int 1)))
    (sRet (dBin oAdd (dSl (dVar 1) oNoPart (oPart (dC (.int 3)))) (dTup (aCons (dVar 3) (aCons (dMeth "body" 2 [("Reader", φ_Reader_body)] (dVar 0) (aCons (dBin oAdd (dVar 2) (dC (.int 1))) aNil)) aNil)))))))))
theorem sc_Reader_filled : FnScope ["self", "step", "depth", "plan"] ["self", "step", "depth"] (defScope s_Reader_filled) := ⟨rfl, rfl, rfl, by decide +kernel, rfl, by decide +kernel, by decide +kernel⟩
mutual
def F_Reader_plan : Nat → FD
  | 0 => fun _ _ => .bad
  | n + 1 => fnD 5 (B_Reader_plan (F_Reader_plan n) (F_Reader_body n) (F_Reader_filled n))
def F_Reader_body : Nat → FD
  | 0 => fun _ _ => .bad
  | n + 1 => fnD 3 (B_Reader_body (F_Reader_plan n) (F_Reader_body n) (F_Reader_filled n))
def F_Reader_filled : Nat → FD
  | 0 => fun _ _ => .bad
  | n + 1 => fnD 4 (B_Reader_filled (F_Reader_plan n) (F_Reader_body n) (F_Reader_filled n))
end
theorem bg_Reader_plan (T : T0 K mg) : MethA P w K mg base (8 + 0) "Reader" "plan" 2 (F_Reader_plan 0) := by
  obtain ⟨fd, F⟩ := T.c.def_ 20 (d := d_Reader_plan) rfl
  exact ⟨⟨fd, ["self", "depth"], fn_dataG (k := 7) (B := fun _ _ => .bad) F sc_Reader_plan fun cdv A outer s H E hr gd0 => dss_bad, F.bindsN fun _ _ _ _ _ _ us hl => match us, hl with | [_, _], _ => rfl⟩, He.meth_ok (T.c.fact 60 (f := .meth "Reader" "plan")), He.cls_ok (T.c.fact 21 (f := .cls "Reader"))⟩
theorem st_Reader_plan (T : T0 K mg) {n : Nat} {φ_Reader_plan : FD} {φ_Reader_body : FD} {φ_Reader_filled : FD} (h_Reader_plan : MethA P w K mg base (8 + n) "Reader" "plan" 2 φ_Reader_plan) (h_Reader_body : MethA P w K mg base (8 + n) "Reader" "body" 2 φ_Reader_body) (h_Reader_filled : MethA P w K mg base (8 + n) "Reader" "filled" 3 φ_Reader_filled) : MethA P w K mg base (8 + (n + 1)) "Reader" "plan" 2 (fnD 5 (B_Reader_plan φ_Reader_plan φ_Reader_body φ_Reader_filled)) := by
  obtain ⟨fd, F⟩ := T.c.def_ 20 (d := d_Reader_plan) rfl
  refine ⟨⟨fd, ["self", "depth"], fn_dataG (k := 8 + n) F sc_Reader_plan fun cdv A outer s H E hr gd0 => ?_, F.bindsN fun _ _ _ _ _ _ us hl => match us, hl with | [_, _], _ => rfl⟩, He.meth_ok (T.c.fact 60 (f := .meth "Reader" "plan")), He.cls_ok (T.c.fact 21 (f := .cls "Reader"))⟩
  exact (dss_cons (ds_set 2 sc_Reader_plan.nd rfl (by first | exact Or.inl rfl | exact Or.inr rfl) (de_lstO da_nil))
    (dss_cons (ds_whileW 300 (passes_of rfl) (dtw_and (dtw_cmp 3 op_oIsNot sc_Reader_plan.nd rfl (by first | exact Or.inl rfl | exact Or.inr rfl) (de_meth (dv 0) (mt_cons (ok_Reader_text_at T) mt_nil (by omega)) hr gd0 (takes_of rfl rfl rfl rfl) (da_cons (dv 1) da_nil)) de_non) (dt_rel (op_oNe hr.units) (dv 3) de_str))
    (dss_cons (ds_set 4 sc_Reader_plan.nd rfl (by first | exact Or.inl rfl | exact Or.inr rfl) (de_fnG (ok_step_in T) hr gd0 rfl (takes_of rfl rfl rfl rfl) (da_cons (dv 3) da_nil) (by omega)))
    (dss_cons (ds_if (DW.dt (dw_or (dt_rel op_oIs (dv 4) de_non) (dw_or (dt_rel (op_oEq hr.units) (dv 1) (de_gint (T.int 51))) (dw_or1 (dt_rel (op_oEq hr.units) (de_fld (dv 0) (fc_many T)) (de_gint (T.int 50)))))))
    (dss_one (ds_raise (err_BadLine T) hr rfl rfl (takes_of rfl rfl rfl rfl) (de_fld (dv 0) (fc_at T)) (hj := by omega)))
    dss_nil)
    (dss_cons (ds_fldAug (fld := "at") (dv 0) de_int (fc_at T))
    (dss_cons (ds_fldAug (fld := "many") (dv 0) de_int (fc_many T))
    (dss_one (ds_expr (de_app (dv 2) (da_cons (de_if (dt_rel (op_oEq hr.units) (de_ix (dv 4) de_int) de_str) (dv 4) (de_meth (dv 0) (mt_cons h_Reader_filled mt_nil (by omega)) hr gd0 (takes_of rfl rfl rfl rfl) (da_cons (dv 4) (da_cons (dv 1) da_nil)))) da_nil)))))))))
    (dss_one (ds_ret (de_bt c_oTuple rfl (T.free 36) (by decide +kernel) (da_cons (dv 2) da_nil))))))
theorem bg_Reader_body (T : T0 K mg) : MethA P w K mg base (8 + 0) "Reader" "body" 2 (F_Reader_body 0) := by
  obtain ⟨fd, F⟩ := T.c.def_ 21 (d := d_Reader_body) rfl
  exact ⟨⟨fd, ["self", "depth"], fn_dataG (k := 7) (B := fun _ _ => .bad) F sc_Reader_body fun cdv A outer s H E hr gd0 => dss_bad, F.bindsN fun _ _ _ _ _ _ us hl => match us, hl with | [_, _], _ => rfl⟩, He.meth_ok (T.c.fact 61 (f := .meth "Reader" "body")), He.cls_ok (T.c.fact 21 (f := .cls "Reader"))⟩
theorem st_Reader_body (T : T0 K mg) {n : Nat} {φ_Reader_plan : FD} {φ_Reader_body : FD} {φ_Reader_filled : FD} (h_Reader_plan : MethA P w K mg base (8 + n) "Reader" "plan" 2 φ_Reader_plan) (h_Reader_body : MethA P w K mg base (8 + n) "Reader" "body" 2 φ_Reader_body) (h_Reader_filled : MethA P w K mg base (8 + n) "Reader" "filled" 3 φ_Reader_filled) : MethA P w K mg base (8 + (n + 1)) "Reader" "body" 2 (fnD 3 (B_Reader_body φ_Reader_plan φ_Reader_body φ_Reader_filled)) := by
  obtain ⟨fd, F⟩ := T.c.def_ 21 (d := d_Reader_body) rfl
  refine ⟨⟨fd, ["self", "depth"], fn_dataG (k := 8 + n) F sc_Reader_body fun cdv A outer s H E hr gd0 => ?_, F.bindsN fun _ _ _ _ _ _ us hl => match us, hl with | [_, _], _ => rfl⟩, He.meth_ok (T.c.fact 61 (f := .meth "Reader" "body")), He.cls_ok (T.c.fact 21 (f := .cls "Reader"))⟩
  exact (dss_cons (ds_set 2 sc_Reader_body.nd rfl (by first | exact Or.inl rfl | exact Or.inr rfl) (de_meth (dv 0) (mt_cons h_Reader_plan mt_nil (by omega)) hr gd0 (takes_of rfl rfl rfl rfl) (da_cons (dv 1) da_nil)))
    (dss_cons (ds_if (dt_rel (op_oEq hr.units) (dv 2) (de_tup da_nil))
    (dss_one (ds_raise (err_BadLine T) hr rfl rfl (takes_of rfl rfl rfl rfl) (de_fld (dv 0) (fc_at T)) (hj := by omega)))
    dss_nil)
    (dss_one (ds_ret (dv 2)))))
theorem bg_Reader_filled (T : T0 K mg) : MethA P w K mg base (8 + 0) "Reader" "filled" 3 (F_Reader_filled 0) := by
  obtain ⟨fd, F⟩ := T.c.def_ 22 (d := d_Reader_filled) rfl
  exact ⟨⟨fd, ["self", "step", "depth"], fn_dataG (k := 7) (B := fun _ _ => .bad) F sc_Reader_filled fun cdv A outer s H E hr gd0 => dss_bad, F.bindsN fun _ _ _ _ _ _ us hl => match us, hl with | [_, _, _], _ => rfl⟩, He.meth_ok (T.c.fact 62 (f := .meth "Reader" "filled")), He.cls_ok (T.c.fact 21 (f := .cls "Reader"))⟩
theorem st_Reader_filled (T : T0 K mg) {n : Nat} {φ_Reader_plan : FD} {φ_Reader_body : FD} {φ_Reader_filled : FD} (h_Reader_plan : MethA P w K mg base (8 + n) "Reader" "plan" 2 φ_Reader_plan) (h_Reader_body : MethA P w K mg base (8 + n) "Reader" "body" 2 φ_Reader_body) (h_Reader_filled : MethA P w K mg base (8 + n) "Reader" "filled" 3 φ_Reader_filled) : MethA P w K mg base (8 + (n + 1)) "Reader" "filled" 3 (fnD 4 (B_Reader_filled φ_Reader_plan φ_Reader_body φ_Reader_filled)) := by
  obtain ⟨fd, F⟩ := T.c.def_ 22 (d := d_Reader_filled) rfl
  refine ⟨⟨fd, ["self", "step", "depth"], fn_dataG (k := 8 + n) F sc_Reader_filled fun cdv A outer s H E hr gd0 => ?_, F.bindsN fun _ _ _ _ _ _ us hl => match us, hl with | [_, _, _], _ => rfl⟩, He.meth_ok (T.c.fact 62 (f := .meth "Reader" "filled")), He.cls_ok (T.c.fact 21 (f := .cls "Reader"))⟩
  exact (dss_cons (ds_set 3 sc_Reader_filled.nd rfl (by first | exact Or.inl rfl | exact Or.inr rfl) (de_meth (dv 0) (mt_cons h_Reader_body mt_nil (by omega)) hr gd0 (takes_of rfl rfl rfl rfl) (da_cons (de_bin op_oAdd (dv 2) de_int) da_nil)))
    (dss_cons (ds_if (dt_rel (op_oNe hr.units) (de_ix (dv 1) de_int) de_str)
    (dss_one (ds_ret (de_bin op_oAdd (de_sl (dv 1) dpo_none (dpo_some (de_neg de_int))) (de_tup (da_cons (dv 3) da_nil)))))
    dss_nil)
    (dss_cons (ds_if (dt_rel (op_oNe hr.units) (de_meth (dv 0) (mt_cons (ok_Reader_text_at T) mt_nil (by omega)) hr gd0 (takes_of rfl rfl rfl rfl) (da_cons (dv 2) da_nil)) de_str)
    (dss_one (ds_ret (de_bin op_oAdd (de_sl (dv 1) dpo_none (dpo_some de_int)) (de_tup (da_cons (dv 3) (da_cons (de_tup da_nil) da_nil))))))
    dss_nil)
    (dss_cons (ds_fldAug (fld := "at") (dv 0) de_int (fc_at T))
    (dss_one (ds_ret (de_bin op_oAdd (de_sl (dv 1) dpo_none (dpo_some de_int)) (de_tup (da_cons (dv 3) (da_cons (de_meth (dv 0) (mt_cons h_Reader_body mt_nil (by omega)) hr gd0 (takes_of rfl rfl rfl rfl) (da_cons (de_bin op_oAdd (dv 2) de_int) da_nil)) da_nil))))))))))
theorem okg_Reader_plan_Reader_body_Reader_filled (T : T0 K mg) : ∀ n : Nat, MethA P w K mg base (8 + n) "Reader" "plan" 2 (F_Reader_plan n) ∧ MethA P w K mg base (8 + n) "Reader" "body" 2 (F_Reader_body n) ∧ MethA P w K mg base (8 + n) "Reader" "filled" 3 (F_Reader_filled n)
  | 0 => ⟨bg_Reader_plan T, bg_Reader_body T, bg_Reader_filled T⟩
  | n + 1 => have ⟨i0, i1, i2⟩ := okg_Reader_plan_Reader_body_Reader_filled T n; ⟨st_Reader_plan T i0 i1 i2, st_Reader_body T i0 i1 i2, st_Reader_filled T i0 i1 i2⟩
theorem ok_Reader_plan (T : T0 K mg) (n : Nat) : MethA P w K mg base (8 + n) "Reader" "plan" 2 (F_Reader_plan n) := (okg_Reader_plan_Reader_body_Reader_filled T n).1
theorem ok_Reader_body (T : T0 K mg) (n : Nat) : MethA P w K mg base (8 + n) "Reader" "body" 2 (F_Reader_body n) := (okg_Reader_plan_Reader_body_Reader_filled T n).2.1
theorem ok_Reader_filled (T : T0 K mg) (n : Nat) : MethA P w K mg base (8 + n) "Reader" "filled" 3 (F_Reader_filled n) := (okg_Reader_plan_Reader_body_Reader_filled T n).2.2
def L_law_bad_1 : MS := (sSeq (sPar 5 6 (aCons (dCall 2 F_law_depth [] (aCons (dBin oIx (dVar 0) (dVar 4)) (aCons (dBlt oLen (aCons (dVar 1) aNil)) aNil))) (aCons (dC (.str "none")) aNil)))
    (sSeq (sIf (dTest (dBin oLt (dVar 5) (dBlt oLen (aCons (dVar 1) aNil))))
    (sSeq (sIf (dTest (dVar 2))
    (sRet (dLst (aCons (dVar 4) aNil)))
    sNil)
    (sSeq (sAsg (dBin oIx (dVar 1) (dVar 5)) (gN 6))
    (sAsg (dSl (dVar 1) oNoPart (oPart (dVar 5))) (gN 1))))
    sNil)
    (sSeq (sAsg (dCall 1 F_law_kind [] (aCons (dSl (dBin oIx (dVar 0) (dVar 4)) (oPart (dBin oMul (dC (.int 2)) (dVar 5))) oNoPart) aNil)) (gN 7))
    (sSeq (sIf (dOrT (dTest (dBin oEq (dVar 7) (dC (.str "odd")))) (dAndT (dTest (dBin oEq (dVar 7) (dC (.str "else")))) (dTest (dBin oNe (dVar 6) (dC (.str "if"))))))
    (sRet (dLst (aCons (dVar 4) aNil)))
    sNil)
    (sSeq (sIf (dTest (dBin oNe (dVar 7) (dC (.str "else"))))
    (sSeq (sIf (dOrT (dTest (dBin oEq (dVar 5) (dC (.int 6)))) (dTest (dBin oEq (dVar 3) (dC (.int 200)))))
    (sRet (dLst (aCons (dVar 4) aNil)))
    sNil)
    (sAsg (dBin oAdd (dVar 3) (dC (.int 1))) (gN 3)))
    sNil)
    (sSeq (sAsg (dBin oNe (dVar 7) (dC (.str "do"))) (gN 2))
    (sIf (dTest (dVar 2))
    (sAsg (dBin oAdd (dVar 1) (dLst (aCons (dVar 7) aNil))) (gN 1))
    sNil)))))))
def B_law_bad : MS := (sSeq (sPar3 1 2 3 (aCons (dLst aNil) (aCons (dC (.bl false)) (aCons (dC (.int 0)) aNil))))
    (sSeq (sFor (iR1 (aCons (dBlt oLen (aCons (dVar 0) aNil)) aNil)) (gN 4) L_law_bad_1)
    (sRet (dIfE (dTest (dVar 2)) (dLst (aCons (dBlt oLen (aCons (dVar 0) aNil)) aNil)) (dLst aNil)))))
def F_law_bad : FD := fnD 8 B_law_bad
theorem sc_law_bad : FnScope ["_law_lines_here", "_law_blocks", "_law_is_empty", "_law_many", "_law_at", "_law_depth_here", "_law_last", "_law_kind_here"] ["_law_lines_here"] (defScope s_law_bad) := ⟨rfl, rfl, rfl, by decide +kernel, rfl, by decide +kernel, by decide +kernel⟩
theorem ok_law_bad (T : T0 K mg) : FnG P w K mg base 8 "_law_bad" 1 F_law_bad := by
  obtain ⟨fd, F⟩ := T.c.def_ 35 (d := d_law_bad) rfl
  refine ⟨⟨fd, ["_law_lines_here"], fn_dataG F sc_law_bad fun cdv A outer s H E hr gd0 => ?_, F.bindsN fun _ _ _ _ _ _ us hl => match us, hl with | [_], _ => rfl⟩, T.glo 63, F.kp⟩
  exact (dss_cons (ds_par3 1 2 3 rfl sc_law_bad.nd (da_cons (de_lst da_nil) (da_cons de_bl (da_cons de_int da_nil))))
    (dss_cons (ds_for (passes_of rfl) rfl (di_range1 rfl (T.free 29) (da_cons (de_bf c_oLen rfl (T.free 5) (by decide +kernel) (da_cons (dv 0) da_nil)) da_nil)) (dg_name 4 sc_law_bad.nd rfl (by first | exact Or.inl rfl | exact Or.inr rfl))
    (dss_cons (ds_par 5 6 rfl sc_law_bad.nd (da_cons (de_fnG (ok_law_depth T) hr gd0 rfl (takes_of rfl rfl rfl rfl) (da_cons (de_ix (dv 0) (dv 4)) (da_cons (de_bf c_oLen rfl (T.free 5) (by decide +kernel) (da_cons (dv 1) da_nil)) da_nil)) (by decide)) (da_cons de_str da_nil)))
    (dss_cons (ds_if (dt_rel op_oLt (dv 5) (de_bf c_oLen rfl (T.free 5) (by decide +kernel) (da_cons (dv 1) da_nil)))
    (dss_cons (ds_if (dt_val (dv 2))
    (dss_one (ds_ret (de_lst (da_cons (dv 4) da_nil))))
    dss_nil)
    (dss_cons (ds_set 6 sc_law_bad.nd rfl (by first | exact Or.inl rfl | exact Or.inr rfl) (de_ix (dv 1) (dv 5)))
    (dss_one (ds_set 1 sc_law_bad.nd rfl (by first | exact Or.inl rfl | exact Or.inr rfl) (de_sl (dv 1) dpo_none (dpo_some (dv 5)))))))
    dss_nil)
    (dss_cons (ds_set 7 sc_law_bad.nd rfl (by first | exact Or.inl rfl | exact Or.inr rfl) (de_fnG (ok_law_kind T) hr gd0 rfl (takes_of rfl rfl rfl rfl) (da_cons (de_sl (de_ix (dv 0) (dv 4)) (dpo_some (de_bin op_oMul de_int (dv 5))) dpo_none) da_nil) (by decide)))
    (dss_cons (ds_if (DW.dt (dw_or (dt_rel (op_oEq hr.units) (dv 7) de_str) (dw_or1 (DW.dt (dw_and (dt_rel (op_oEq hr.units) (dv 7) de_str) (dw_and1 (dt_rel (op_oNe hr.units) (dv 6) de_str)))))))
    (dss_one (ds_ret (de_lst (da_cons (dv 4) da_nil))))
    dss_nil)
    (dss_cons (ds_if (dt_rel (op_oNe hr.units) (dv 7) de_str)
    (dss_cons (ds_if (DW.dt (dw_or (dt_rel (op_oEq hr.units) (dv 5) de_int) (dw_or1 (dt_rel (op_oEq hr.units) (dv 3) de_int))))
    (dss_one (ds_ret (de_lst (da_cons (dv 4) da_nil))))
    dss_nil)
    (dss_one (ds_set 3 sc_law_bad.nd rfl (by first | exact Or.inl rfl | exact Or.inr rfl) (de_bin op_oAdd (dv 3) de_int))))
    dss_nil)
    (dss_cons (ds_set 2 sc_law_bad.nd rfl (by first | exact Or.inl rfl | exact Or.inr rfl) (de_rel (op_oNe hr.units) (dv 7) de_str))
    (dss_one (ds_if (dt_val (dv 2))
    (dss_one (ds_set 1 sc_law_bad.nd rfl (by first | exact Or.inl rfl | exact Or.inr rfl) (de_bin op_oAdd (dv 1) (de_lst (da_cons (dv 7) da_nil)))))
    dss_nil)))))))))
    (dss_one (ds_ret (de_if (dt_val (dv 2)) (de_lst (da_cons (de_bf c_oLen rfl (T.free 5) (by decide +kernel) (da_cons (dv 0) da_nil)) da_nil)) (de_lst da_nil))))))
def B_law_due : MS := (sRet (dCall 1 F_law_bad [] (aCons (dIfE (dTest (dBin oEq (dVar 0) (dC (.str "")))) (dLst aNil) (dTM oSplit (dVar 0) (aCons (dC (.str "\n")) aNil))) aNil)))
def F_law_due : FD := fnD 1 B_law_due
theorem sc_law_due : FnScope ["_law_text"] ["_law_text"] (defScope s_law_due) := ⟨rfl, rfl, rfl, by decide +kernel, rfl, by decide +kernel, by decide +kernel⟩
theorem ok_law_due (T : T0 K mg) : FnG P w K mg base 9 "_law_due" 1 F_law_due := by
  obtain ⟨fd, F⟩ := T.c.def_ 36 (d := d_law_due) rfl
  refine ⟨⟨fd, ["_law_text"], fn_dataG F sc_law_due fun cdv A outer s H E hr gd0 => ?_, F.bindsN fun _ _ _ _ _ _ us hl => match us, hl with | [_], _ => rfl⟩, T.glo 64, F.kp⟩
  exact (dss_one (ds_ret (de_fnG (ok_law_bad T) hr gd0 rfl (takes_of rfl rfl rfl rfl) (da_cons (de_if (dt_rel (op_oEq hr.units) (dv 0) de_str) (de_lst da_nil) (de_tm PySem.F.slot_str_split PySem.F.type_str_split mt_split m_oSplit (dv 0) (da_cons de_str da_nil))) da_nil) (by decide))))
def B_is_plan : MS := (sRet (dBin oLe (dCall 2 (F_steps_in 8) [] (aCons (dVar 0) (aCons (dC (.int 1)) aNil))) (dC (.int 200))))
def F_is_plan : FD := fnD 1 B_is_plan
theorem sc_is_plan : FnScope ["thing"] ["thing"] (defScope s_is_plan) := ⟨rfl, rfl, rfl, by decide +kernel, rfl, by decide +kernel, by decide +kernel⟩
theorem ok_is_plan (T : T0 K mg) : FnG P w K mg base 14 "is_plan" 1 F_is_plan := by
  obtain ⟨fd, F⟩ := T.c.def_ 15 (d := d_is_plan) rfl
  refine ⟨⟨fd, ["thing"], fn_dataG F sc_is_plan fun cdv A outer s H E hr gd0 => ?_, F.bindsN fun _ _ _ _ _ _ us hl => match us, hl with | [_], _ => rfl⟩, T.glo 65, F.kp⟩
  exact (dss_one (ds_ret (de_rel op_oLe (de_fnG (ok_steps_in T 8) hr gd0 rfl (takes_of rfl rfl rfl rfl) (da_cons (dv 0) (da_cons de_int da_nil)) (by decide)) (de_gint (T.int 50)))))
def B_parse_plan : MS := (sSeq (sIf (dNotT (dTest (dBlt oIsi (aCons (dVar 0) (aCons (dC (.ty "str")) aNil)))))
    (sRaise "BadLine" "value" (dC (.int 0)))
    sNil)
    (sSeq (sAsg (dCC 1 (makeF "Reader" (bindF 2 2 (fun ds es => ds ++ es) F_Reader___init__)) (aCons (dIfE (dTest (dBin oNe (dVar 0) (dC (.str "")))) (dTM oSplit (dVar 0) (aCons (dC (.str "\n")) aNil)) (dLst aNil)) aNil)) (gN 1))
    (sSeq (sAsg (dMeth "plan" 2 [("Reader", (F_Reader_plan 24))] (dVar 1) (aCons (dC (.int 0)) aNil)) (gN 2))
    (sSeq (sIf (dTest (dBin oLt (dFld "at" ["Reader"] (dVar 1)) (dBlt oLen (aCons (dFld "lines" ["Reader"] (dVar 1)) aNil))))
    (sRaise "BadLine" "value" (dFld "at" ["Reader"] (dVar 1)))
    sNil)
    (sRet (dVar 2))))))
def F_parse_plan : FD := fnD 3 B_parse_plan
theorem sc_parse_plan : FnScope ["text", "reader", "found"] ["text"] (defScope s_parse_plan) := ⟨rfl, rfl, rfl, by decide +kernel, rfl, by decide +kernel, by decide +kernel⟩
theorem ok_parse_plan (T : T0 K mg) : FnG P w K mg base 33 "parse_plan" 1 F_parse_plan := by
  obtain ⟨fd, F⟩ := T.c.def_ 23 (d := d_parse_plan) rfl
  refine ⟨⟨fd, ["text"], fn_dataG F sc_parse_plan fun cdv A outer s H E hr gd0 => ?_, F.bindsN fun _ _ _ _ _ _ us hl => match us, hl with | [_], _ => rfl⟩, T.glo 67, F.kp⟩
  exact (dss_cons (ds_if (dt_not (dt_val (de_bf c_oIsi rfl (T.free 7) (by decide +kernel) (da_cons (dv 0) (da_cons (de_ty (n := "str") rfl (T.free 6) (by decide +kernel)) da_nil)))))
    (dss_one (ds_raise (err_BadLine T) hr rfl rfl (takes_of rfl rfl rfl rfl) de_int))
    dss_nil)
    (dss_cons (ds_set 1 sc_parse_plan.nd rfl (by first | exact Or.inl rfl | exact Or.inr rfl) (de_cc (mk_Reader T) hr gd0 rfl (T.glo 66) (mkr_Reader T).kp (takes_of rfl rfl rfl rfl) (da_cons (de_if (dt_rel (op_oNe hr.units) (dv 0) de_str) (de_tm PySem.F.slot_str_split PySem.F.type_str_split mt_split m_oSplit (dv 0) (da_cons de_str da_nil)) (de_lst da_nil)) da_nil) (by decide)))
    (dss_cons (ds_set 2 sc_parse_plan.nd rfl (by first | exact Or.inl rfl | exact Or.inr rfl) (de_meth (dv 1) (mt_cons (ok_Reader_plan T 24) mt_nil (by decide)) hr gd0 (takes_of rfl rfl rfl rfl) (da_cons de_int da_nil)))
    (dss_cons (ds_if (dt_rel op_oLt (de_fld (dv 1) (fc_at T)) (de_bf c_oLen rfl (T.free 5) (by decide +kernel) (da_cons (de_fld (dv 1) (fc_lines T)) da_nil)))
    (dss_one (ds_raise (err_BadLine T) hr rfl rfl (takes_of rfl rfl rfl rfl) (de_fld (dv 1) (fc_at T))))
    dss_nil)
    (dss_one (ds_ret (dv 2)))))))
def H_law_right_1 (xa xd : Nat) : MS := (sAsg (dLst (aCons (dXf xa xd "value" (dVar 3)) aNil)) (gN 1))
theorem u_H_law_right_1 (y : Exc) (a dd : Nat) (ρ : DE.Env) (S : Sto) : RS.unset 3 (H_law_right_1 a dd (ρ.set 3 (some (.xcp a dd y.fs))) S) = RS.unset 3 (H_law_right_1 0 0 (ρ.set 3 (some (.xcp 0 0 y.fs))) S) := by
  by_cases h : 3 < ρ.length <;> simp [H_law_right_1, sAsg, dLst, aCons, dBlt, dXf, oXi, dC, dVar, gN, aNil, getset, unset_stm, set3 (show 3 ≠ 1 by decide), h]
  all_goals (repeat' split) <;> simp_all [set3 (show 3 ≠ 1 by decide)]
def B_law_right : MS := (sSeq (sAsg (dTup (aCons (dC .non) (aCons (dC .non) aNil))) (gTL 2 (gsCons (gN 1) (gsCons (gN 2) gsNil))))
    (sSeq (sTry (sAsg (dCall 1 F_parse_plan [] (aCons (dVar 0) aNil)) (gN 2)) (cl1 "BadLine") 3 (fun _ xa xd => H_law_right_1 xa xd))
    (sSeq (sAsg (dCall 1 F_law_due [] (aCons (dVar 0) aNil)) (gN 4))
    (sSeq (sIf (dTest (dBin oNe (dVar 4) (dLst aNil)))
    (sRet (dBin oEq (dVar 1) (dVar 4)))
    sNil)
    (sRet (dAnd (dBin oIs (dVar 1) (dC .non)) (dAnd (dBin oIs (dCall 1 F_is_plan [] (aCons (dVar 2) aNil)) (dC (.bl true))) (dBin oEq (dM1 oJoin (dC (.str "\n")) (dCall 2 (F_law_lines 8) [] (aCons (dVar 2) (aCons (dC (.int 0)) aNil)))) (dVar 0)))))))))
def F_law_right : FD := fnD 5 B_law_right
theorem sc_law_right : FnScope ["_law_text", "_law_kept", "_law_found", "e", "_law_due_here"] ["_law_text"] (defScope s_law_right) := ⟨rfl, rfl, rfl, by decide +kernel, rfl, by decide +kernel, by decide +kernel⟩
theorem ok_law_right (T : T0 K mg) : FnG P w K mg base 34 "_law_right" 1 F_law_right := by
  obtain ⟨fd, F⟩ := T.c.def_ 37 (d := d_law_right) rfl
  refine ⟨⟨fd, ["_law_text"], fn_dataG F sc_law_right fun cdv A outer s H E hr gd0 => ?_, F.bindsN fun _ _ _ _ _ _ us hl => match us, hl with | [_], _ => rfl⟩, T.glo 69, F.kp⟩
  exact (dss_cons (ds_asg (de_tup (da_cons de_non (da_cons de_non da_nil))) (dg_tl rfl (dgs_cons (dg_name 1 sc_law_right.nd rfl (by first | exact Or.inl rfl | exact Or.inr rfl)) (dgs_cons (dg_name 2 sc_law_right.nd rfl (by first | exact Or.inl rfl | exact Or.inr rfl)) dgs_nil))))
    (dss_cons (ds_try (n := "e") (i := 3) (cl := cl1 "BadLine") (hm := fun _ xa xd => H_law_right_1 xa xd) rfl rfl sc_law_right.nd rfl rfl ⟨rfl, rfl, .inl (T.glo 2)⟩ (takes_of rfl rfl rfl rfl) (cl1_ok (He.exm_ok (T.c.fact 68 (f := .exm "BadLine" "BadLine" true)))) (fun W3 pn3 xe3 tk3 ps3 => (dss_one (ds_set 2 sc_law_right.nd rfl (by first | exact Or.inl rfl | exact Or.inr rfl) (de_fnG (ok_parse_plan T) hr gd0 rfl tk3 (da_cons (dv 0) da_nil) (by decide)))))
    (fun y xa xd xo xp hc xz xf => by
      obtain ⟨yc, yf⟩ := y
      obtain ⟨rfl, _⟩ := cl1_eq hc
      exact (dss_one (ds_set 1 sc_law_right.nd rfl (by first | exact Or.inl rfl | exact Or.inr rfl) (de_lst (da_cons (de_xf (y := "BadLine") (err_BadLine T (P := P) (w := w) (base := base)).x.x (err_BadLine T (P := P) (w := w) (base := base)).x.n xz xf (dv 3)) da_nil))))) (fun y a dd ρ S _ => u_H_law_right_1 y a dd ρ S))
    (dss_cons (ds_set 4 sc_law_right.nd rfl (by first | exact Or.inl rfl | exact Or.inr rfl) (de_fnG (ok_law_due T) hr gd0 rfl (takes_of rfl rfl rfl rfl) (da_cons (dv 0) da_nil) (by decide)))
    (dss_cons (ds_if (dt_rel (op_oNe hr.units) (dv 4) (de_lst da_nil))
    (dss_one (ds_ret (de_rel (op_oEq hr.units) (dv 1) (dv 4))))
    dss_nil)
    (dss_one (ds_ret (de_and (de_rel op_oIs (dv 1) de_non) (de_and (de_rel op_oIs (de_fnG (ok_is_plan T) hr gd0 rfl (takes_of rfl rfl rfl rfl) (da_cons (dv 2) da_nil) (by decide)) de_bl) (de_one (de_rel (op_oEq hr.units) (de_join de_str (de_fnG (ok_law_lines T 8) hr gd0 rfl (takes_of rfl rfl rfl rfl) (da_cons (dv 2) (da_cons de_int da_nil)) (by decide))) (dv 0)))))))))))
def H_law_1 (xa xd : Nat) : MS := (sAsg (dXf xa xd "value" (dVar 12)) (gN 11))
theorem u_H_law_1 (y : Exc) (a dd : Nat) (ρ : DE.Env) (S : Sto) : RS.unset 12 (H_law_1 a dd (ρ.set 12 (some (.xcp a dd y.fs))) S) = RS.unset 12 (H_law_1 0 0 (ρ.set 12 (some (.xcp 0 0 y.fs))) S) := by
  by_cases h : 12 < ρ.length <;> simp [H_law_1, sAsg, dLst, aCons, dBlt, dXf, oXi, dC, dVar, gN, aNil, getset, unset_stm, set3 (show 12 ≠ 11 by decide), h]
  all_goals (repeat' split) <;> simp_all [set3 (show 12 ≠ 11 by decide)]
def L_law_2 : MS := (sSeq (sAsg (dC .non) (gN 11))
    (sSeq (sTry (sExpr (dCall 1 F_parse_plan [] (aCons (dVar 10) aNil))) (cl1 "BadLine") 12 (fun _ xa xd => H_law_1 xa xd))
    (sIf (dTest (dBin oNe (dVar 11) (dC (.int 0))))
    (sRet (dC (.bl false)))
    sNil)))
def L_law_3 : MS := (sIf (dNotT (dTest (dCall 1 F_law_right [] (aCons (dVar 9) aNil))))
    (sRet (dC (.bl false)))
    sNil)
def L_law_4 : MS := (sSeq (sAsg (dCall 2 F_law_bent [] (aCons (dVar 2) (aCons (dVar 3) aNil))) (gN 6))
    (sSeq (sExpr (dApp (dVar 4) (aCons (dM1 oJoin (dC (.str "\n")) (dVar 6)) aNil)))
    (sExpr (dApp (dVar 4) (aCons (dM1 oJoin (dC (.str "\n")) (dCall 2 F_law_bent [] (aCons (dVar 2) (aCons (dVar 6) aNil)))) aNil)))))
def L_law_5 : MS := (sSeq (sAsg (dCall 2 F_law_pool [] (aCons (dVar 0) (aCons (dVar 1) aNil))) (gN 2))
    (sSeq (sAsg (dSlO (dCall 2 (F_law_lines 8) [] (aCons (dCall 3 (F_law_plan 8) [] (aCons (dVar 2) (aCons (dC (.int 3)) (aCons (dC (.int 1)) aNil)))) (aCons (dC (.int 0)) aNil))) oNoPart (oPart (dC (.int 60)))) (gN 3))
    (sSeq (sAsg (dLstO (aCons (dM1 oJoin (dC (.str "\n")) (dVar 3)) (aCons (dBin oAdd (dM1 oJoin (dC (.str "\n")) (dVar 3)) (dC (.str "\n"))) (aCons (dBin oAdd (dC (.str "\n")) (dM1 oJoin (dC (.str "\n")) (dVar 3))) (aCons (dM1 oJoin (dC (.str "\n")) (dSl (dVar 3) oNoPart (oPart (dNeg (dC (.int 1)))))) aNil))))) (gN 4))
    (sSeq (sFor (iR1 (aCons (dC (.int 8)) aNil)) (gN 5) L_law_4)
    (sSeq (sAsg (dLC [8] (iR1 (aCons (dC (.int 6)) aNil)) (gN 8) mYes (dBin oAdd (dBin oMul (dC (.str "  ")) (dVar 8)) (dC (.str "try")))) (gN 7))
    (sSeq (sAsg (dBin oAddL (dVar 4) (dLst (aCons (dM1 oJoin (dC (.str "\n")) (dVar 7)) (aCons (dM1 oJoin (dC (.str "\n")) (dBin oAdd (dVar 7) (dLst (aCons (dBin oAdd (dBin oMul (dC (.str "  ")) (dC (.int 6))) (dC (.str "save a"))) aNil)))) (aCons (dM1 oJoin (dC (.str "\n")) (dBin oAdd (dSl (dVar 7) oNoPart (oPart (dC (.int 5)))) (dLst (aCons (dBin oAdd (dBin oMul (dC (.str "  ")) (dC (.int 5))) (dC (.str "save a"))) aNil)))) aNil))))) (gN 4))
    (sSeq (sAsg (dBin oAddL (dVar 4) (dLst (aCons (dM1 oJoin (dC (.str "\n")) (dBin oMul (dLst (aCons (dC (.str "save a")) aNil)) (dC (.int 200)))) (aCons (dM1 oJoin (dC (.str "\n")) (dBin oMul (dLst (aCons (dC (.str "save a")) aNil)) (dC (.int 201)))) (aCons (dM1 oJoin (dC (.str "\n")) (dBin oAdd (dLst (aCons (dC (.str "try")) aNil)) (dBin oMul (dLst (aCons (dC (.str "  save a")) aNil)) (dC (.int 200))))) aNil))))) (gN 4))
    (sSeq (sFor (iOf (dVar 4)) (gN 9) L_law_3)
    (sFor (iOf (dLst (aCons (dC .non) (aCons (dC (.int 5)) (aCons (dLst aNil) (aCons (dVar 3) aNil)))))) (gN 10) L_law_2)))))))))
def B_law : MS := (sSeq (sFor (iR1 (aCons (dBlt oMax (aCons (dC (.int 1)) (aCons (dBlt oMin (aCons (dBlt oLen (aCons (dVar 0) aNil)) (aCons (dC (.int 2)) aNil))) aNil))) aNil)) (gN 1) L_law_5)
    (sRet (dC (.bl true))))
def F_law : FD := fnD 13 B_law
theorem sc_law : FnScope ["_law_script", "_law_k", "_law_pool_here", "_law_lines_here", "_law_some", "_law_turn", "_law_bent_here", "_law_deep", "_law_depth_here", "_law_text", "_law_odd", "_law_kept", "e"] ["_law_script"] (defScope s_law) := ⟨rfl, rfl, rfl, by decide +kernel, rfl, by decide +kernel, by decide +kernel⟩
theorem ok_law_at (T : T0 K mg) {fd : FuncData} (F : FunD K "law" "law" d_law.params d_law.body d_law.scope (d_law.dvs K) (d_law.kws K) (He.fAd K d_law.at_) fd) : FnGd P w K mg base 35 (He.ga K "law") fd ["_law_script"] (spD K 1 F_law) :=
  fn_dataG F sc_law fun cdv A outer s H E hr gd0 => (dss_cons (ds_for (passes_of rfl) rfl (di_range1 rfl (T.free 29) (da_cons (de_bf (c_oMax rfl) rfl (T.free 71) (by decide +kernel) (da_cons de_int (da_cons (de_bf (c_oMin rfl) rfl (T.free 70) (by decide +kernel) (da_cons (de_bf c_oLen rfl (T.free 5) (by decide +kernel) (da_cons (dv 0) da_nil)) (da_cons de_int da_nil))) da_nil))) da_nil)) (dg_name 1 sc_law.nd rfl (by first | exact Or.inl rfl | exact Or.inr rfl))
    (dss_cons (ds_set 2 sc_law.nd rfl (by first | exact Or.inl rfl | exact Or.inr rfl) (de_fnG (ok_law_pool T) hr gd0 rfl (takes_of rfl rfl rfl rfl) (da_cons (dv 0) (da_cons (dv 1) da_nil)) (by decide)))
    (dss_cons (ds_set 3 sc_law.nd rfl (by first | exact Or.inl rfl | exact Or.inr rfl) (de_slO (de_fnG (ok_law_lines T 8) hr gd0 rfl (takes_of rfl rfl rfl rfl) (da_cons (de_fnG (ok_law_plan T 8) hr gd0 rfl (takes_of rfl rfl rfl rfl) (da_cons (dv 2) (da_cons de_int (da_cons de_int da_nil))) (by decide)) (da_cons de_int da_nil)) (by decide)) dpo_none (dpo_some de_int)))
    (dss_cons (ds_set 4 sc_law.nd rfl (by first | exact Or.inl rfl | exact Or.inr rfl) (de_lstO (da_cons (de_join de_str (dv 3)) (da_cons (de_bin op_oAdd (de_join de_str (dv 3)) de_str) (da_cons (de_bin op_oAdd de_str (de_join de_str (dv 3))) (da_cons (de_join de_str (de_sl (dv 3) dpo_none (dpo_some (de_neg de_int)))) da_nil))))))
    (dss_cons (ds_for (passes_of rfl) rfl (di_range1 rfl (T.free 29) (da_cons de_int da_nil)) (dg_name 5 sc_law.nd rfl (by first | exact Or.inl rfl | exact Or.inr rfl))
    (dss_cons (ds_set 6 sc_law.nd rfl (by first | exact Or.inl rfl | exact Or.inr rfl) (de_fnG (ok_law_bent T) hr gd0 rfl (takes_of rfl rfl rfl rfl) (da_cons (dv 2) (da_cons (dv 3) da_nil)) (by decide)))
    (dss_cons (ds_expr (de_app (dv 4) (da_cons (de_join de_str (dv 6)) da_nil)))
    (dss_one (ds_expr (de_app (dv 4) (da_cons (de_join de_str (de_fnG (ok_law_bent T) hr gd0 rfl (takes_of rfl rfl rfl rfl) (da_cons (dv 2) (da_cons (dv 6) da_nil)) (by decide))) da_nil)))))))
    (dss_cons (ds_setLc 7 rfl sc_law.nd rfl rfl (sw_true rfl rfl rfl (by decide +kernel)) (di_range1 rfl (T.free 29) (da_cons de_int da_nil)) (blkOk_by (own := [("_law_depth_here", 8)]) (by kernel_rfl)) (fun _ _ _ _ _ => (dg_name 8 sc_law.nd rfl (by first | exact Or.inl rfl | exact Or.inr rfl))) (fun _ _ _ _ _ => dts_nil) (fun _ _ _ _ _ => (de_bin op_oAdd (de_bin op_oMul de_str (dv 8)) de_str)) (by decide))
    (dss_cons (ds_set 4 sc_law.nd rfl (by first | exact Or.inl rfl | exact Or.inr rfl) (de_bin op_oAddL (dv 4) (de_lst (da_cons (de_join de_str (dv 7)) (da_cons (de_join de_str (de_bin op_oAdd (dv 7) (de_lst (da_cons (de_bin op_oAdd (de_bin op_oMul de_str de_int) de_str) da_nil)))) (da_cons (de_join de_str (de_bin op_oAdd (de_sl (dv 7) dpo_none (dpo_some de_int)) (de_lst (da_cons (de_bin op_oAdd (de_bin op_oMul de_str de_int) de_str) da_nil)))) da_nil))))))
    (dss_cons (ds_set 4 sc_law.nd rfl (by first | exact Or.inl rfl | exact Or.inr rfl) (de_bin op_oAddL (dv 4) (de_lst (da_cons (de_join de_str (de_bin op_oMul (de_lst (da_cons de_str da_nil)) de_int)) (da_cons (de_join de_str (de_bin op_oMul (de_lst (da_cons de_str da_nil)) de_int)) (da_cons (de_join de_str (de_bin op_oAdd (de_lst (da_cons de_str da_nil)) (de_bin op_oMul (de_lst (da_cons de_str da_nil)) de_int))) da_nil))))))
    (dss_cons (ds_for (passes_of rfl) rfl (di_any (dv 4)) (dg_name 9 sc_law.nd rfl (by first | exact Or.inl rfl | exact Or.inr rfl))
    (dss_one (ds_if (dt_not (dt_val (de_fnG (ok_law_right T) hr gd0 rfl (takes_of rfl rfl rfl rfl) (da_cons (dv 9) da_nil) (by decide))))
    (dss_one (ds_ret de_bl))
    dss_nil)))
    (dss_one (ds_for (passes_of rfl) rfl (di_any (de_lst (da_cons de_non (da_cons de_int (da_cons (de_lst da_nil) (da_cons (dv 3) da_nil)))))) (dg_name 10 sc_law.nd rfl (by first | exact Or.inl rfl | exact Or.inr rfl))
    (dss_cons (ds_set 11 sc_law.nd rfl (by first | exact Or.inl rfl | exact Or.inr rfl) de_non)
    (dss_cons (ds_try (n := "e") (i := 12) (cl := cl1 "BadLine") (hm := fun _ xa xd => H_law_1 xa xd) rfl rfl sc_law.nd rfl rfl ⟨rfl, rfl, .inl (T.glo 2)⟩ (takes_of rfl rfl rfl rfl) (cl1_ok (He.exm_ok (T.c.fact 68 (f := .exm "BadLine" "BadLine" true)))) (fun W4 pn4 xe4 tk4 ps4 => (dss_one (ds_expr (de_fnG (ok_parse_plan T) hr gd0 rfl tk4 (da_cons (dv 10) da_nil) (by decide)))))
    (fun y xa xd xo xp hc xz xf => by
      obtain ⟨yc, yf⟩ := y
      obtain ⟨rfl, _⟩ := cl1_eq hc
      exact (dss_one (ds_set 11 sc_law.nd rfl (by first | exact Or.inl rfl | exact Or.inr rfl) (de_xf (y := "BadLine") (err_BadLine T (P := P) (w := w) (base := base)).x.x (err_BadLine T (P := P) (w := w) (base := base)).x.n xz xf (dv 12))))) (fun y a dd ρ S _ => u_H_law_1 y a dd ρ S))
    (dss_one (ds_if (dt_rel (op_oNe hr.units) (dv 11) de_int)
    (dss_one (ds_ret de_bl))
    dss_nil)))))))))))))))
    (dss_one (ds_ret de_bl)))
end
def loose0 : List PySem.Str := ["__name__", "TombError", "BadText", "BadEvent", "BadLine", "LETTERS", "DIGITS", "MOST_NUMBER", "MOST_VALUE", "is_word", "is_value", "is_number", "quoted", "unquoted", "number_in", "ALONE", "WITH_WORD", "are_keys", "is_place_in_row", "is_event", "format_event", "event_in", "parse_event", "MOST_COUNT", "MOST_DEPTH", "MOST_STEPS", "is_count", "inner_plans", "steps_in", "is_plan"]
def loose1 : List PySem.Str := ["step_in", "event_step", "Reader", "parse_plan", "_law_pool", "_law_take", "_law_step", "_law_plan", "_law_head", "_law_lines", "_law_is_number", "_law_is_word", "_law_is_event", "_law_kind", "_law_depth", "_law_bad", "_law_due", "_law_right", "_law_odd_line", "_law_bent"]
def loose : List PySem.Str := loose0 ++ loose1
abbrev R : PySem.W.OpenRow := PySem.W.OpenLaw.row PySem.Challenge.rw_tombkeeper_k77_whole_plan_lines_judged
abbrev hk : PySem.W.Hook := hookX 5 fa fn xs
def ob (s : PySem.W.SharedT) : He.AlD × Bool := obsXG 5 fa fn xs (HandSHeadRun.getT s)
theorem ob_eq (s : PySem.W.SharedT) : ob s = hk.obs s.abs := obsXG_eq (HandSHeadRun.getT_eq s)
theorem run (w : World) : HandSHeadRun.RunEq R (PySem.W.view R.prog [54]) hk ob 4000 loose w := by
  intro os
  kernel_rfl
theorem law_sp (hF : ∀ ns : List Int, ns.length ≤ 63 → ∃ S', F_law [.scr (ns.map .int)] [] = .ok (.bl true) S') (K : PySem.W.Frag) (H : Hp) (a : Addr) (ns : List Int) (hl : ns.length ≤ 63) (hS : SqL K H a (ns.map V.int)) :
    spD K 1 F_law [.ref a] H (fun v _ => v = .bl true) fun _ _ _ => False := by
  obtain ⟨S', e⟩ := hF ns hl
  refine ⟨⟨[], []⟩, [], [.scr (ns.map .int)], ⟨.nil, rfl, fun k a d h => by simp at h, fun a h => by cases h⟩, ⟨.ref a, [], rfl, ⟨a, ns.map V.int, rfl, ?_, ?_⟩, rfl⟩, rfl, ?_⟩
  · rcases hS with h | h
    · exact .inl ⟨⟨by simp, by simp⟩, h⟩
    · exact .inr (.inr h)
  · clear hS e hl
    induction ns with
    | nil => rfl
    | cons n r ih => exact ⟨.int n, r.map V.int, rfl, rfl, ih⟩
  · rw [e]
    exact fun O' H' v _ _ r => r
theorem facts {P : Program} {w : World} {K : PySem.W.Frag} {h : Heap} {mg : Str → Option Value} {f : Addr} (X : K.In h) (G : h.Ns mainGlobals mg) (hfa : mg ("law" : Str) = some (.ref f)) (c : He.SaysD fa fn K) (cx : (xs.all fun f => f K) = true) :
    ∃ fd : FuncData, (∀ (s : Shared) (v : Value), BindsTo s fd ⟨[v], []⟩ [("_law_script", v)]) ∧ ∀ base : Heap, K.In base → base.Ns mainGlobals mg → FnGd P w K mg base 35 f fd ["_law_script"] (spD K 1 F_law) := by
  have T : T0 K mg := ⟨c, cx, h, X, G⟩
  obtain ⟨fd, F⟩ := c.def_ 40 (d := d_law) rfl
  have e := hfa.symm.trans (T.glo 72)
  cases e
  have b := FunD.bindsA (ps := ["_law_script"]) F fun _ _ _ _ _ _ us hl => match us, hl with | [_], _ => rfl
  exact ⟨fd, fun s v => b s [v] rfl, fun base _ _ => ok_law_at T F⟩
end G
section
open PySem PySem.W PySem.Calls PyProof.Rows
theorem G.cw (hF : ∀ ns : List Int, ns.length ≤ 63 → ∃ S', G.F_law [.scr (ns.map .int)] [] = .ok (.bl true) S') : PySem.Challenge.rw_tombkeeper_k77_whole_plan_lines_judged.Holds := by
  w_on; o_law
  refine HandSHeadRun.head_any (r := OpenLaw.row PySem.Challenge.rw_tombkeeper_k77_whole_plan_lines_judged) (q := view (OpenLaw.row PySem.Challenge.rw_tombkeeper_k77_whole_plan_lines_judged).prog [54]) (H := G.hk) (ob := G.ob) (M := 4000) (loose := G.loose) (d := HandSHeadRun.topDef (OpenLaw.row PySem.Challenge.rw_tombkeeper_k77_whole_plan_lines_judged).prog 54) (kwd := []) G.ob_eq
    (by kernel_rfl) (fun s => by kernel_rfl) G.run (by kernel_rfl) (by kernel_rfl) (by kernel_rfl) (by rfl) (by first | assumption | decide +kernel) (by decide +kernel) ⟨rfl, rfl, rfl, rfl, rfl, by decide +kernel⟩ ?hw ?hc
  case hw => w_witness2
  case hc =>
    refine DE.walk_G (l := PySem.Challenge.rw_tombkeeper_k77_whole_plan_lines_judged) (n := 63) (k := 35) (x := "_law_script") rfl (by decide) (by kernel_rfl) ⟨rfl, by decide, by decide⟩ ?F
    case F =>
      intro w mg fa h Y Gn hmg0
      obtain ⟨K, KX, c, cx⟩ := Y
      have hmg : mg ("law" : PySem.Str) = some (.ref fa) := by
        have e : (HandSHeadRun.topDef (OpenLaw.row PySem.Challenge.rw_tombkeeper_k77_whole_plan_lines_judged).prog 54).name = ("law" : PySem.Str) := by kernel_rfl
        rw [← e]
        exact hmg0
      obtain ⟨fd, hb, hF'⟩ := G.facts (P := (PySem.Challenge.rw_tombkeeper_k77_whole_plan_lines_judged).prog) (w := w) KX Gn hmg c cx
      exact ⟨K, fd, DE.spD K 1 G.F_law, KX, hb, fun H a ns hl hS => G.law_sp hF K H a ns hl hS, hF'⟩
end

set_option maxHeartbeats 4000000
namespace DE
open PySem L2
/-! equations for simp -/
def onBl {α : Type} (d : D) (k : Bool → RE α) : RE α := match d with
  | .bl b => k b
  | _ => .bad
@[simp] theorem onBl_bl {α : Type} (b : Bool) (k : Bool → RE α) : onBl (.bl b) k = k b := id rfl
def onInt {α : Type} (d : D) (k : Int → RE α) : RE α := match d with
  | .int b => k b
  | _ => .bad
@[simp] theorem onInt_int {α : Type} (b : Int) (k : Int → RE α) : onInt (.int b) k = k b := id rfl
def onStr {α : Type} (d : D) (k : Str → RE α) : RE α := match d with
  | .str b => k b
  | _ => .bad
@[simp] theorem onStr_str {α : Type} (b : Str) (k : Str → RE α) : onStr (.str b) k = k b := id rfl
def RS.seq (r : RS) (g : MS) : RS := match r with
  | .nx ρ1 S1 => g ρ1 S1
  | r => r
@[simp] theorem seq_nx (ρ : DE.Env) (S : Sto) (g : MS) : RS.seq (.nx ρ S) g = g ρ S := id rfl
@[simp] theorem seq_rt (d : D) (S : Sto) (g : MS) : RS.seq (.rt d S) g = .rt d S := id rfl
@[simp] theorem seq_bk (ρ : DE.Env) (S : Sto) (g : MS) : RS.seq (.bk ρ S) g = .bk ρ S := id rfl
@[simp] theorem seq_ct (ρ : DE.Env) (S : Sto) (g : MS) : RS.seq (.ct ρ S) g = .ct ρ S := id rfl
@[simp] theorem seq_exc (x : Exc) (ρ : DE.Env) (S : Sto) (g : MS) : RS.seq (.exc x ρ S) g = .exc x ρ S := id rfl
@[simp] theorem seq_bad (g : MS) : RS.seq .bad g = .bad := id rfl
def RS.fin (r : RS) : RE D := match r with
  | .nx _ S' => .ok .non S'
  | .rt d S' => .ok d S'
  | .exc x _ S' => .exc x S'
  | _ => .bad
@[simp] theorem fin_nx (ρ : DE.Env) (S : Sto) : RS.fin (.nx ρ S) = .ok .non S := id rfl
@[simp] theorem fin_rt (d : D) (S : Sto) : RS.fin (.rt d S) = .ok d S := id rfl
@[simp] theorem fin_exc (x : Exc) (ρ : DE.Env) (S : Sto) : RS.fin (.exc x ρ S) = .exc x S := id rfl
@[simp] theorem fin_bad : RS.fin .bad = .bad := id rfl
section
variable {α β : Type} {c : Prop} [Decidable c]
@[simp] theorem bind_ite (a b : RE α) (f : α → Sto → RE β) : (if c then a else b).bind f = if c then a.bind f else b.bind f := by split <;> rfl
@[simp] theorem stm_ite (a b : RE α) (ρ : DE.Env) (f : α → Sto → RS) : (if c then a else b).stm ρ f = if c then a.stm ρ f else b.stm ρ f := by split <;> rfl
@[simp] theorem seq_ite (a b : RS) (g : MS) : RS.seq (if c then a else b) g = if c then RS.seq a g else RS.seq b g := by split <;> rfl
@[simp] theorem fin_ite (a b : RS) : RS.fin (if c then a else b) = if c then RS.fin a else RS.fin b := by split <;> rfl
end
section
variable {ρ : DE.Env} {S : Sto}
@[simp] theorem e_dVar (i : Nat) : dVar i ρ S = (match ρ[i]? with | some (some d) => .ok d S | _ => .bad) := id rfl
@[simp] theorem e_dC (d : D) : dC d ρ S = .ok d S := id rfl
@[simp] theorem e_dBin (o : D → D → Sto → RE D) (f g : ME) : dBin o f g ρ S = (f ρ S).bind fun d S1 => (g ρ S1).bind fun e S2 => o d e S2 := id rfl
@[simp] theorem e_dTest (f : ME) : dTest f ρ S = (f ρ S).bind fun d S1 => onBl d fun b => .ok b S1 := id rfl
@[simp] theorem e_dAndT (f g : MT) : dAndT f g ρ S = (f ρ S).bind fun d S1 => if d = true then g ρ S1 else .ok false S1 := id rfl
@[simp] theorem e_dOrT (f g : MT) : dOrT f g ρ S = (f ρ S).bind fun d S1 => if d = true then .ok true S1 else g ρ S1 := id rfl
@[simp] theorem e_dNotT (f : MT) : dNotT f ρ S = (f ρ S).bind fun d S1 => .ok (!d) S1 := id rfl
theorem bind_congr' {α β : Type} {r : RE α} {f g : α → Sto → RE β} (h : ∀ a S, f a S = g a S) : r.bind f = r.bind g := by cases r <;> simp [h]
@[simp] theorem e_dAnd (f g : ME) : dAnd f g ρ S = (f ρ S).bind fun d S1 => onBl d fun b => if b = true then g ρ S1 else .ok (.bl false) S1 := bind_congr' fun d S1 => by
  cases d <;> try rfl
  rename_i b; cases b <;> rfl
@[simp] theorem e_dOr (f g : ME) : dOr f g ρ S = (f ρ S).bind fun d S1 => onBl d fun b => if b = true then .ok (.bl true) S1 else g ρ S1 := bind_congr' fun d S1 => by
  cases d <;> try rfl
  rename_i b; cases b <;> rfl
@[simp] theorem e_dNot (f : ME) : dNot f ρ S = (f ρ S).bind fun d S1 => onBl d fun b => .ok (.bl (!b)) S1 := id rfl
@[simp] theorem e_dIfE (t : MT) (f g : ME) : dIfE t f g ρ S = (t ρ S).bind fun d S1 => if d = true then f ρ S1 else g ρ S1 := id rfl
@[simp] theorem e_dChain (o p : D → D → Sto → RE D) (f g h : ME) : dChain o p f g h ρ S = (f ρ S).bind fun x S1 => (g ρ S1).bind fun y S2 => (o x y S2).bind fun d S3 => onBl d fun b => if b = true then (h ρ S3).bind fun z S4 => p y z S4 else .ok (.bl false) S3 :=
  bind_congr' fun x S1 => bind_congr' fun y S2 => bind_congr' fun d S3 => by
    cases d <;> try rfl
    rename_i b; cases b <;> rfl
@[simp] theorem e_aNil : aNil ρ S = .ok [] S := id rfl
@[simp] theorem e_aCons (f : ME) (g : MA) : aCons f g ρ S = (f ρ S).bind fun d S1 => (g ρ S1).bind fun ds S2 => .ok (d :: ds) S2 := id rfl
@[simp] theorem e_dTup (f : MA) : dTup f ρ S = (f ρ S).bind fun ds S1 => if ds.length ≤ cap then .ok (.tup ds) S1 else .bad := id rfl
@[simp] theorem e_dLst (f : MA) : dLst f ρ S = (f ρ S).bind fun ds S1 => if ds.length ≤ cap then .ok (.lst ds) S1 else .bad := id rfl
@[simp] theorem e_dLstO (f : MA) : dLstO f ρ S = (f ρ S).bind fun ds S1 => if ds.length ≤ cap then .ok (.own S1.length) (S1 ++ [.lst ds]) else .bad := id rfl
@[simp] theorem e_sNil : sNil ρ S = .nx ρ S := id rfl
@[simp] theorem e_sSeq (f g : MS) : sSeq f g ρ S = RS.seq (f ρ S) g := id rfl
@[simp] theorem e_sExpr (f : ME) : sExpr f ρ S = (f ρ S).stm ρ fun _ S1 => .nx ρ S1 := id rfl
@[simp] theorem e_sRet (f : ME) : sRet f ρ S = (f ρ S).stm ρ fun d S1 => .rt d S1 := id rfl
@[simp] theorem e_sRetN : sRetN ρ S = .rt .non S := id rfl
@[simp] theorem e_sBreak : sBreak ρ S = .bk ρ S := id rfl
@[simp] theorem e_sCont : sCont ρ S = .ct ρ S := id rfl
@[simp] theorem e_sIf (t : MT) (f g : MS) : sIf t f g ρ S = (t ρ S).stm ρ fun b S1 => if b = true then f ρ S1 else g ρ S1 := id rfl
@[simp] theorem e_sAsg (f : ME) (g : MG) : sAsg f g ρ S = (f ρ S).stm ρ fun d S1 => match g d ρ with | some ρ1 => .nx ρ1 S1 | none => .bad := id rfl
@[simp] theorem e_gN (i : Nat) (d : D) : gN i d ρ = some (ρ.set i (some d)) := id rfl
@[simp] theorem e_sFor (i : MA) (g : MG) (b : MS) : sFor i g b ρ S = (i ρ S).stm ρ fun ds S1 => loopS g b ds ρ S1 := id rfl
@[simp] theorem e_dLC (own : List Nat) (i : MA) (g : MG) (t : MT) (e : ME) : dLC own i g t e ρ S = (i ρ S).bind fun ds S1 => if ds.length ≤ cap then (loopC own g t e ρ ds S1).bind fun vs S2 => .ok (.lst vs) S2 else .bad := id rfl
@[simp] theorem e_iOf (f : ME) : iOf f ρ S = (f ρ S).bind fun d S1 => match itemsOf d with | some ds => .ok ds S1 | none => .bad := id rfl
@[simp] theorem e_iR1 (f : MA) : iR1 f ρ S = (f ρ S).bind fun ds S1 => match ds with | [.int n] => if -(2 ^ 62) ≤ n ∧ n < 2 ^ 62 then .ok (rangeD 0 n.toNat) S1 else .bad | _ => .bad := id rfl
@[simp] theorem e_dCall (n : Nat) (F : FD) (dd : List D) (fa : MA) : dCall n F dd fa ρ S = (fa ρ S).bind fun ds S1 => if (ds ++ dd).length = n then F (ds ++ dd) S1 else .bad := id rfl
@[simp] theorem e_dBlt (op : FD) (fa : MA) : dBlt op fa ρ S = (fa ρ S).bind fun ds S1 => op ds S1 := id rfl
@[simp] theorem e_dNeg (f : ME) : dNeg f ρ S = (f ρ S).bind fun d S1 => onInt d fun i => .ok (.int (-i)) S1 := id rfl
@[simp] theorem e_dM1 (op : Str → D → Sto → RE D) (f g : ME) : dM1 op f g ρ S = (f ρ S).bind fun d S1 => onStr d fun x => (g ρ S1).bind fun e S2 => op x e S2 := id rfl
@[simp] theorem e_dSl (f : ME) (lo hi : MO) : dSl f lo hi ρ S = (f ρ S).bind fun d S1 => (lo ρ S1).bind fun l S2 => (hi ρ S2).bind fun u S3 => slD d l u S3 := id rfl
@[simp] theorem e_oNoPart : oNoPart ρ S = .ok none S := id rfl
@[simp] theorem e_oPart (f : ME) : oPart f ρ S = (f ρ S).bind fun d S1 => onInt d fun i => .ok (some i) S1 := id rfl
@[simp] theorem e_dDictE : dDictE ρ S = .ok (.dK []) S := id rfl
@[simp] theorem e_mYes : mYes ρ S = .ok true S := id rfl
theorem e_fnD (n : Nat) (B : MS) (ds : List D) : fnD n B ds S = (B (ds.map some ++ List.replicate (n - ds.length) none) S).fin := rfl
end
/-! comprehensions whose parts change nothing -/
theorem loopC_fm {own : List Nat} {g : MG} {t : MT} {e : ME} {ρ : DE.Env} {S : Sto} {r : D → DE.Env} {p : D → Bool} {v : D → D} : ∀ {ds : List D}, (∀ d ∈ ds, g d (wipeD ρ own) = some (r d) ∧ t (r d) S = .ok (p d) S ∧ (p d = true → e (r d) S = .ok (v d) S)) →
    loopC own g t e ρ ds S = .ok ((ds.filter p).map v) S
  | [], _ => rfl
  | d :: ds, h => by
    obtain ⟨h1, h2, h3⟩ := h d List.mem_cons_self
    have ih := loopC_fm (ds := ds) fun x hx => h x (List.mem_cons_of_mem _ hx)
    unfold loopC
    rw [h1]
    simp only [h2]
    cases q : p d with
    | true => simp only [h3 q, ih, RE.bind_ok, List.filter_cons, q, if_true, List.map_cons]
    | false => simp only [ih, List.filter_cons, q]; rfl
theorem loopC_map {own : List Nat} {g : MG} {t : MT} {e : ME} {ρ : DE.Env} {S : Sto} {r : D → DE.Env} {v : D → D} {ds : List D} (h : ∀ d ∈ ds, g d (wipeD ρ own) = some (r d) ∧ t (r d) S = .ok true S ∧ e (r d) S = .ok (v d) S) :
    loopC own g t e ρ ds S = .ok (ds.map v) S := by
  have := loopC_fm (p := fun _ => true) (v := v) fun d hd => let ⟨a, b, c⟩ := h d hd; ⟨a, b, fun _ => c⟩
  rw [this, List.filter_eq_self.mpr (fun _ _ => rfl)]
/-! operators at data whose kind is known -/
@[simp] theorem oEq_int (i j : Int) (S : Sto) : oEq (.int i) (.int j) S = .ok (.bl (i == j)) S := id rfl
@[simp] theorem oNe_int (i j : Int) (S : Sto) : oNe (.int i) (.int j) S = .ok (.bl (!(i == j))) S := id rfl
@[simp] theorem oLt_int (i j : Int) (S : Sto) : oLt (.int i) (.int j) S = .ok (.bl (decide (i < j))) S := id rfl
@[simp] theorem oLe_int (i j : Int) (S : Sto) : oLe (.int i) (.int j) S = .ok (.bl (decide (i ≤ j))) S := id rfl
@[simp] theorem oGt_int (i j : Int) (S : Sto) : oGt (.int i) (.int j) S = .ok (.bl (decide (j < i))) S := id rfl
@[simp] theorem oGe_int (i j : Int) (S : Sto) : oGe (.int i) (.int j) S = .ok (.bl (decide (j ≤ i))) S := id rfl
@[simp] theorem oAdd_int (i j : Int) (S : Sto) : oAdd (.int i) (.int j) S = .ok (.int (i + j)) S := id rfl
@[simp] theorem oSub_int (i j : Int) (S : Sto) : oSub (.int i) (.int j) S = .ok (.int (i - j)) S := id rfl
theorem oMul_int {i j : Int} {S : Sto} (h : (-lim64 < i ∧ i < lim64) ∨ (-lim64 < j ∧ j < lim64)) : oMul (.int i) (.int j) S = .ok (.int (i * j)) S := if_pos h
theorem oMod_int {i j : Int} {S : Sto} (h : 0 < j) : oMod (.int i) (.int j) S = .ok (.int (i % j)) S := if_pos (decide_eq_true h)
theorem oFDiv_int {i j : Int} {S : Sto} (h : 0 < j) (h2 : j < 1073741824) : oFDiv (.int i) (.int j) S = .ok (.int (i / j)) S := if_pos (decide_eq_true ⟨h, h2⟩)
@[simp] theorem oIs_non (d : D) (S : Sto) : oIs d .non S = .ok (.bl (isNon d)) S := by cases d <;> rfl
@[simp] theorem oIsNot_non (d : D) (S : Sto) : oIsNot d .non S = .ok (.bl (!isNon d)) S := by cases d <;> rfl
@[simp] theorem oIs_bl (a b : Bool) (S : Sto) : oIs (.bl a) (.bl b) S = .ok (.bl (decide (a = b))) S := id rfl
@[simp] theorem oIsNot_bl (a b : Bool) (S : Sto) : oIsNot (.bl a) (.bl b) S = .ok (.bl (!decide (a = b))) S := id rfl
theorem oEq_str {x y : Str} {S : Sto} (hx : PyData.strOk x = true) (hy : PyData.strOk y = true) : oEq (.str x) (.str y) S = .ok (.bl (x == y)) S := by
  have h1 : SeqAt.shaped (.str x) = true := by simp [SeqAt.shaped, PyData.canLay0, PyData.depth, hx]
  have h2 : SeqAt.shaped (.str y) = true := by simp [SeqAt.shaped, PyData.canLay0, PyData.depth, hy]
  unfold oEq eqD
  simp only [toPy, h1, h2, and_self, if_true, PyData.eqv]
theorem oNe_str {x y : Str} {S : Sto} (hx : PyData.strOk x = true) (hy : PyData.strOk y = true) : oNe (.str x) (.str y) S = .ok (.bl (!(x == y))) S := by
  have h1 : SeqAt.shaped (.str x) = true := by simp [SeqAt.shaped, PyData.canLay0, PyData.depth, hx]
  have h2 : SeqAt.shaped (.str y) = true := by simp [SeqAt.shaped, PyData.canLay0, PyData.depth, hy]
  unfold oNe eqD
  simp only [toPy, h1, h2, and_self, if_true, PyData.eqv]
theorem reprB_ok (b : Bool) : PyData.strOk (reprB b) = true := by cases b <;> decide +kernel
theorem oEq_repr (a b : Bool) (S : Sto) : oEq (.str (reprB a)) (.str (reprB b)) S = .ok (.bl (a == b)) S := by
  rw [oEq_str (reprB_ok a) (reprB_ok b)]
  have h1 : (reprB true == reprB false) = false := by decide +kernel
  have h2 : (reprB false == reprB true) = false := by decide +kernel
  cases a <;> cases b <;> simp [h1, h2]
theorem oNe_repr (a b : Bool) (S : Sto) : oNe (.str (reprB a)) (.str (reprB b)) S = .ok (.bl (!(a == b))) S := by
  rw [oNe_str (reprB_ok a) (reprB_ok b)]
  have h1 : (reprB true == reprB false) = false := by decide +kernel
  have h2 : (reprB false == reprB true) = false := by decide +kernel
  cases a <;> cases b <;> simp [h1, h2]
/-! loops -/
theorem loopS_inv {g : MG} {body : MS} (Inv : DE.Env → Sto → Prop) : ∀ {ds : List D} {ρ : DE.Env} {S : Sto}, (∀ d ∈ ds, ∀ ρ S, Inv ρ S → ∃ ρ1, g d ρ = some ρ1 ∧ ∃ ρ2 S2, body ρ1 S = .nx ρ2 S2 ∧ Inv ρ2 S2) → Inv ρ S → ∃ ρ' S', loopS g body ds ρ S = .nx ρ' S' ∧ Inv ρ' S'
  | [], ρ, S, _, h0 => ⟨ρ, S, rfl, h0⟩
  | d :: ds, ρ, S, h, h0 => by
    obtain ⟨ρ1, e1, ρ2, S2, e2, h2⟩ := h d List.mem_cons_self ρ S h0
    obtain ⟨ρ', S', e3, h3⟩ := loopS_inv Inv (ds := ds) (fun x hx => h x (List.mem_cons_of_mem _ hx)) h2
    refine ⟨ρ', S', ?_, h3⟩
    unfold loopS
    rw [e1]
    simp only [e2]
    exact e3
/-- a comprehension whose parts change the store, each item as told -/
theorem loopC_inv {own : List Nat} {g : MG} {t : MT} {e : ME} {ρ : DE.Env} (Inv : Sto → Prop) (P : D → Prop) : ∀ {ds : List D} {S : Sto}, (∀ d ∈ ds, ∀ S, Inv S → ∃ ρ1, g d (wipeD ρ own) = some ρ1 ∧ t ρ1 S = .ok true S ∧ ∃ v S2, e ρ1 S = .ok v S2 ∧ P v ∧ Inv S2) → Inv S →
    ∃ vs S', loopC own g t e ρ ds S = .ok vs S' ∧ (∀ v ∈ vs, P v) ∧ vs.length = ds.length ∧ Inv S'
  | [], S, _, h0 => ⟨[], S, rfl, (fun _ h => by cases h), rfl, h0⟩
  | d :: ds, S, h, h0 => by
    obtain ⟨ρ1, e1, e2, v, S2, e3, hv, h2⟩ := h d List.mem_cons_self S h0
    obtain ⟨vs, S', e4, hvs, hl, h4⟩ := loopC_inv Inv P (ds := ds) (fun x hx => h x (List.mem_cons_of_mem _ hx)) h2
    refine ⟨v :: vs, S', ?_, fun x hx => ?_, by simp [hl], h4⟩
    · unfold loopC
      rw [e1]
      simp only [e2, e3, e4, RE.bind_ok]
    · rcases List.mem_cons.mp hx with rfl | hx
      · exact hv
      · exact hvs x hx
theorem mem_rangeD {lo : Int} {n : Nat} {d : D} (h : d ∈ rangeD lo n) : ∃ i : Nat, i < n ∧ d = .int (lo + i) := by
  unfold rangeD at h
  obtain ⟨i, hi, rfl⟩ := List.mem_map.mp h
  exact ⟨i, List.mem_range.mp hi, rfl⟩
/-! the pool of draws -/
def PoolAt (k : Nat) (S : Sto) : Prop := ∃ x y, S[k]? = some (.lst [.int x, .int y])
theorem oPow_int {i j z : Int} {S : Sto} (h : decide (0 ≤ j ∧ j ≤ 1000000 ∧ i.natAbs < lim64.toNat) = true) (e : i ^ j.toNat = z) : oPow (.int i) (.int j) S = .ok (.int z) S := by
  subst e
  exact if_pos h
@[simp] theorem pow18 (S : Sto) : oPow (.int 10) (.int 18) S = .ok (.int 1000000000000000000) S := oPow_int (by decide +kernel) (by decide +kernel)
@[simp] theorem pow15 (S : Sto) : oPow (.int 10) (.int 15) S = .ok (.int 1000000000000000) S := oPow_int (by decide +kernel) (by decide +kernel)
end DE

set_option maxHeartbeats 4000000
namespace DE
open PySem L2
def onM (r : Option (Option Bd)) (a : RS) (b : Bd → RS) : RS := match r with
  | none => .bad
  | some none => a
  | some (some bs) => b bs
@[simp] theorem onM_no (a : RS) (b : Bd → RS) : onM (some none) a b = a := id rfl
@[simp] theorem onM_yes (a : RS) (b : Bd → RS) (bs : Bd) : onM (some (some bs)) a b = b bs := id rfl
@[simp] theorem onM_ite (c : Prop) [Decidable c] (x y : Option Bd) (a : RS) (b : Bd → RS) : onM (some (if c then x else y)) a b = if c then onM (some x) a b else onM (some y) a b := by split <;> rfl
section
variable {ρ : DE.Env} {S : Sto}
@[simp] theorem e_sMatch (f : ME) (cs : List (MP × MS)) : sMatch f cs ρ S = (f ρ S).stm ρ fun d S1 => mCs cs d ρ S1 := id rfl
@[simp] theorem e_mNil (d : D) : mCs [] d ρ S = .nx ρ S := id rfl
@[simp] theorem e_mCons (p : MP) (b : MS) (r : List (MP × MS)) (d : D) : mCs ((p, b) :: r) d ρ S = onM (p d) (mCs r d ρ S) (fun bs => b (bindB bs ρ) S) := by
  show (match p d with | none => RS.bad | some none => _ | some (some bs) => _) = _
  cases p d with
  | none => rfl
  | some x => cases x <;> rfl
@[simp] theorem e_sAug (i : Nat) (g : ME) : sAug i g ρ S = (match ρ[i]? with
  | some (some (.int a)) => (g ρ S).stm ρ fun e S1 => match e with
    | .int b => .nx (ρ.set i (some (.int (a + b)))) S1
    | _ => .bad
  | _ => .bad) := id rfl
@[simp] theorem e_sPar (i j : Nat) (fa : MA) : sPar i j fa ρ S = (fa ρ S).stm ρ fun ds S1 => match ds with
  | [d, e] => .nx ((ρ.set i (some d)).set j (some e)) S1
  | _ => .bad := id rfl
@[simp] theorem e_dSS (f : ME) : dSS f ρ S = (f ρ S).bind fun d S1 => match d with
  | .tup ds => (match strsOf ds with
    | some xs => if xs.length < 4000 then .ok (.lst ((sortD xs).map .str)) S1 else .bad
    | none => .bad)
  | _ => .bad := id rfl
@[simp] theorem oInt_int (i : Int) : oInt [.int i] S = .ok (.int i) S := id rfl
@[simp] theorem oInt_bl (b : Bool) : oInt [.bl b] S = .ok (.int (if b then 1 else 0)) S := id rfl
end
@[simp] theorem e_pNm (i : Nat) (d : D) : pNm i d = some (some [(i, d)]) := id rfl
@[simp] theorem e_pAny (d : D) : pAny d = some (some []) := id rfl
@[simp] theorem e_pSeq (n : Nat) (g : List D → Option (Option Bd)) (ds : List D) : pSeq n g (.tup ds) = if ds.length = n then g ds else some none := id rfl
@[simp] theorem e_psNil (ds : List D) : psNil ds = some (some []) := id rfl
def andM (x : Option (Option Bd)) (y : Option (Option Bd)) : Option (Option Bd) := x.bind fun x => match x with
  | none => some none
  | some bs => y.map fun y => match y with
    | none => none
    | some cs => some (bs ++ cs)
@[simp] theorem e_psCons (f : MP) (g : List D → Option (Option Bd)) (d : D) (r : List D) : psCons f g (d :: r) = andM (f d) (g r) := id rfl
@[simp] theorem andM_no (y : Option (Option Bd)) : andM (some none) y = some none := id rfl
@[simp] theorem andM_yes (bs cs : Bd) : andM (some (some bs)) (some (some cs)) = some (some (bs ++ cs)) := id rfl
@[simp] theorem andM_yn (bs : Bd) : andM (some (some bs)) (some none) = some none := id rfl
@[simp] theorem andM_ite (c : Prop) [Decidable c] (bs : Bd) (y : Option (Option Bd)) : andM (some (if c then some bs else none)) y = if c then andM (some (some bs)) y else some none := by split <;> rfl
@[simp] theorem onM_ite2 (c : Prop) [Decidable c] (x y : Option (Option Bd)) (a : RS) (b : Bd → RS) : onM (if c then x else y) a b = if c then onM x a b else onM y a b := by split <;> rfl
theorem pStr_str {x y : Str} (hx : PyData.strOk x = true) (hy : PyData.strOk y = true) : pStr x (.str y) = some (if y == x then some [] else none) := by
  have h1 : SeqAt.shaped (.str x) = true := by simp [SeqAt.shaped, PyData.canLay0, PyData.depth, hx]
  have h2 : SeqAt.shaped (.str y) = true := by simp [SeqAt.shaped, PyData.canLay0, PyData.depth, hy]
  unfold pStr eqD
  simp only [toPy, h1, h2, and_self, if_true, PyData.eqv, Option.map_some]
/-! data that can be compared -/
def okD : Nat → D → Bool
  | _, .non => true
  | _, .bl _ => true
  | _, .int _ => true
  | _, .str s => decide (s.length ≤ 1000) && s.cps.toList.all (fun c => decide (c < 128))
  | n + 1, .tup ds => decide (ds.length ≤ 1000) && ds.all (okD n)
  | n + 1, .lst ds => decide (ds.length ≤ 1000) && ds.all (okD n)
  | _, _ => false
theorem okD_mono : ∀ {n m : Nat} {d : D}, okD n d = true → n ≤ m → okD m d = true
  | n, m, .non, _, _ => by cases m <;> rfl
  | n, m, .bl _, _, _ => by cases m <;> rfl
  | n, m, .int _, _, _ => by cases m <;> rfl
  | n, m, .str s, h, _ => by
    cases n <;> cases m <;> exact h
  | 0, m, .tup ds, h, _ => by simp [okD] at h
  | 0, m, .lst ds, h, _ => by simp [okD] at h
  | n + 1, 0, .tup ds, _, h => by omega
  | n + 1, 0, .lst ds, _, h => by omega
  | n + 1, m + 1, .tup ds, h, hm => by
    simp only [okD, Bool.and_eq_true, List.all_eq_true] at h ⊢
    exact ⟨h.1, fun x hx => okD_mono (h.2 x hx) (by omega)⟩
  | n + 1, m + 1, .lst ds, h, hm => by
    simp only [okD, Bool.and_eq_true, List.all_eq_true] at h ⊢
    exact ⟨h.1, fun x hx => okD_mono (h.2 x hx) (by omega)⟩
  | n, m, .ty _, h, _ => by cases n <;> simp [okD] at h
  | n, m, .glo _, h, _ => by cases n <;> simp [okD] at h
  | n, m, .scr _, h, _ => by cases n <;> simp [okD] at h
  | n, m, .dK _, h, _ => by cases n <;> simp [okD] at h
  | n, m, .dT _, h, _ => by cases n <;> simp [okD] at h
  | n, m, .obj _ _, h, _ => by cases n <;> simp [okD] at h
  | n, m, .own _, h, _ => by cases n <;> simp [okD] at h
  | n, m, .xcp _ _ _, h, _ => by cases n <;> simp [okD] at h
  | n, m, .exo _ _, h, _ => by cases n <;> simp [okD] at h
theorem okS_strOk {s : Str} (h : s.cps.toList.all (fun c => decide (c < 128)) = true) : PyData.strOk s = true := by
  unfold PyData.strOk
  rw [← Array.all_toList]
  rw [List.all_eq_true] at h ⊢
  intro x hx
  have := of_decide_eq_true (h x hx)
  exact decide_eq_true (by omega)
mutual
theorem okD_py : ∀ {n : Nat} {d : D}, okD n d = true → ∃ p, toPy d = some p ∧ p.canLay0 = true ∧ p.depth ≤ n
  | _, .non, _ => ⟨_, rfl, rfl, Nat.zero_le _⟩
  | _, .bl _, _ => ⟨_, rfl, rfl, Nat.zero_le _⟩
  | _, .int _, _ => ⟨_, rfl, rfl, Nat.zero_le _⟩
  | n, .str s, h => ⟨_, rfl, by
      have h' : (decide (s.length ≤ 1000) && s.cps.toList.all (fun c => decide (c < 128))) = true := by cases n <;> exact h
      simp only [PyData.canLay0]
      exact okS_strOk (Bool.and_eq_true_iff.mp h').2, Nat.zero_le _⟩
  | n + 1, .tup ds, h => by
    simp only [okD, Bool.and_eq_true] at h
    obtain ⟨ps, e, c, d⟩ := okDs_py (n := n) (ds := ds) (List.all_eq_true.mp h.2)
    exact ⟨.tuple ps, by simp only [toPy, e, Option.map_some], by simpa only [PyData.canLay0] using c, by simp only [PyData.depth]; omega⟩
  | n + 1, .lst ds, h => by
    simp only [okD, Bool.and_eq_true] at h
    obtain ⟨ps, e, c, d⟩ := okDs_py (n := n) (ds := ds) (List.all_eq_true.mp h.2)
    exact ⟨.list ps, by simp only [toPy, e, Option.map_some], by simpa only [PyData.canLay0] using c, by simp only [PyData.depth]; omega⟩
  | 0, .tup ds, h => by simp [okD] at h
  | 0, .lst ds, h => by simp [okD] at h
  | n, .ty _, h => by cases n <;> simp [okD] at h
  | n, .glo _, h => by cases n <;> simp [okD] at h
  | n, .scr _, h => by cases n <;> simp [okD] at h
  | n, .dK _, h => by cases n <;> simp [okD] at h
  | n, .dT _, h => by cases n <;> simp [okD] at h
  | n, .obj _ _, h => by cases n <;> simp [okD] at h
  | n, .own _, h => by cases n <;> simp [okD] at h
  | n, .xcp _ _ _, h => by cases n <;> simp [okD] at h
  | n, .exo _ _, h => by cases n <;> simp [okD] at h
theorem okDs_py : ∀ {n : Nat} {ds : List D}, (∀ d ∈ ds, okD n d = true) → ∃ ps, toPys ds = some ps ∧ PyData.canLayAll0 ps = true ∧ PyData.depthAll ps ≤ n
  | _, [], _ => ⟨[], rfl, rfl, Nat.zero_le _⟩
  | n, d :: ds, h => by
    obtain ⟨p, e1, c1, d1⟩ := okD_py (h d List.mem_cons_self)
    obtain ⟨ps, e2, c2, d2⟩ := okDs_py fun x hx => h x (List.mem_cons_of_mem _ hx)
    exact ⟨p :: ps, by simp only [toPys, e1, e2], by simp [PyData.canLayAll0, c1, c2], by simp only [PyData.depthAll]; omega⟩
end
def isE : D → Bool
  | .tup [] => true
  | _ => false
theorem okD_shaped {n : Nat} {d : D} (h : okD n d = true) (hn : n ≤ 64) : ∃ p, toPy d = some p ∧ SeqAt.shaped p = true := by
  obtain ⟨p, e, c, k⟩ := okD_py h
  exact ⟨p, e, by simp [SeqAt.shaped, c]; omega⟩
theorem eqv_unit {d : D} {p : PyData} (e : toPy d = some p) : PyData.eqv p (.tuple []) = isE d := by
  cases d <;> simp only [toPy] at e <;> try cases e
  case non => rfl
  case bl => rfl
  case int => rfl
  case str => rfl
  case tup ds =>
    cases ds with
    | nil => simp [toPys] at e; subst e; rfl
    | cons x r =>
      cases q : toPys (x :: r) with
      | none => rw [q] at e; cases e
      | some ps =>
        rw [q] at e
        cases e
        cases ps with
        | nil => simp only [toPys] at q; split at q <;> cases q
        | cons _ _ => simp [PyData.eqv, PyData.eqvAll, isE]
  case lst ds =>
    cases q : toPys ds with
    | none => rw [q] at e; cases e
    | some ps => rw [q] at e; cases e; rfl
theorem oEq_unit {n : Nat} {d : D} {S : Sto} (h : okD n d = true) (hn : n ≤ 64) : oEq d (.tup []) S = .ok (.bl (isE d)) S := by
  obtain ⟨p, e, s⟩ := okD_shaped h hn
  have u : SeqAt.shaped (.tuple []) = true := by decide
  unfold oEq eqD
  simp only [e, toPy, toPys, Option.map_some, s, u, and_self, if_true, eqv_unit e]
theorem oNe_unit {n : Nat} {d : D} {S : Sto} (h : okD n d = true) (hn : n ≤ 64) : oNe d (.tup []) S = .ok (.bl (!isE d)) S := by
  obtain ⟨p, e, s⟩ := okD_shaped h hn
  have u : SeqAt.shaped (.tuple []) = true := by decide
  unfold oNe eqD
  simp only [e, toPy, toPys, Option.map_some, s, u, and_self, if_true, eqv_unit e]
end DE

set_option maxHeartbeats 4000000
namespace DE
open PySem PySem.Builtin PySem.Builtin.Str PySem.StrLaws
/-! ### a text cut at a sign, as lists of codes -/
abbrev mkS (l : List Nat) : Str := ⟨l.toArray⟩
@[simp] theorem mkS_list (l : List Nat) : (mkS l).cps.toList = l := by simp
theorem mkS_of (x : Str) : mkS x.cps.toList = x := by obtain ⟨a⟩ := x; simp
@[simp] theorem mkS_len (l : List Nat) : (mkS l).length = l.length := by simp [mkS, Str.length]
theorem mkS_inj {a b : List Nat} : mkS a = mkS b ↔ a = b := ⟨fun h => by have := congrArg (fun x : Str => x.cps.toList) h; simpa using this, fun h => by rw [h]⟩
def posL (c : Nat) : Nat → List Nat → Nat → List Nat
  | _, [], _ => []
  | i, a :: l, lim => if lim = 0 then [] else if a = c then i :: posL c (i + 1) l (lim - 1) else posL c (i + 1) l lim
def consH (a : Nat) : List (List Nat) → List (List Nat)
  | [] => [[a]]
  | h :: t => (a :: h) :: t
/-- at most lim cuts -/
def splitN (c : Nat) : Nat → List Nat → List (List Nat)
  | _, [] => [[]]
  | lim, a :: l => if a = c ∧ lim ≠ 0 then [] :: splitN c (lim - 1) l else consH a (splitN c lim l)
def splitL (c : Nat) : List Nat → List (List Nat)
  | [] => [[]]
  | a :: l => if a = c then [] :: splitL c l else consH a (splitL c l)
theorem subAt_one (x : Str) (c i : Nat) : subAt x ⟨#[c]⟩ i = decide (x.cps.toList[i]? = some c) := by
  rw [subAt_eq]
  have e : (⟨#[c]⟩ : Str).length = 1 := rfl
  rw [e]
  have e2 : (⟨#[c]⟩ : Str).cps.toList = [c] := rfl
  rw [e2]
  cases q : x.cps.toList.drop i with
  | nil =>
    have : x.cps.toList[i]? = none := by rw [List.getElem?_eq_none_iff]; exact List.drop_eq_nil_iff.mp q
    rw [this]; rfl
  | cons a r =>
    have : x.cps.toList[i]? = some a := by
      have := congrArg (fun l => l[0]?) q
      simpa using this
    rw [this]
    by_cases h : a = c <;> simp [h]
theorem occ_pos (x : Str) (c lim : Nat) : ∀ (l : List Nat) (i free : Nat) (found : Array Nat), x.cps.toList.drop i = l → free ≤ i → i ≤ x.length →
    (forIn (List.range' i (l.length + 1)) (found, free) (occBody x ⟨#[c]⟩ x.length lim)).run.fst.toList = found.toList ++ posL c i l (lim - found.size)
  | [], i, free, found, hd, hf, hi => by
    have hx : x.length ≤ i := by
      have := List.drop_eq_nil_iff.mp hd
      simpa [Str.length] using this
    have e : (⟨#[c]⟩ : Str).length = 1 := rfl
    have nc : ¬ (((found.size < lim ∧ free ≤ i) ∧ i + (⟨#[c]⟩ : Str).length ≤ x.length) ∧ subAt x ⟨#[c]⟩ i = true) := fun h => by rw [e] at h; omega
    rw [show List.range' i (([] : List Nat).length + 1) = [i] from rfl, List.forIn_cons]
    unfold occBody
    rw [if_neg nc]
    simp [posL]
  | a :: l, i, free, found, hd, hf, hi => by
    have hg : x.cps.toList[i]? = some a := by
      have := congrArg (fun l => l[0]?) hd
      simpa using this
    have hlt : i < x.length := by
      have := (List.getElem?_eq_some_iff.mp hg).1
      simpa [Str.length] using this
    have hd2 : x.cps.toList.drop (i + 1) = l := by
      rw [← List.drop_drop, hd]; rfl
    have e : (⟨#[c]⟩ : Str).length = 1 := rfl
    rw [List.length_cons, List.range'_succ, List.forIn_cons]
    unfold occBody
    rw [subAt_one, hg, e]
    by_cases hl : found.size < lim
    · by_cases hc : a = c
      · subst hc
        have c1 : ((found.size < lim ∧ free ≤ i) ∧ i + 1 ≤ x.length) ∧ decide (some a = some a) = true := ⟨⟨⟨hl, hf⟩, hlt⟩, by simp⟩
        rw [if_pos c1]
        have ih := occ_pos x a lim l (i + 1) (i + 1) (found.push i) hd2 (Nat.le_refl _) hlt
        refine Eq.trans ih ?_
        have : lim - found.size ≠ 0 := by omega
        simp only [posL, if_neg this, if_true, Array.toList_push, Array.size_push, List.append_assoc, List.cons_append, List.nil_append]
        rw [show lim - (found.size + 1) = lim - found.size - 1 by omega]
      · have c1 : ¬ (((found.size < lim ∧ free ≤ i) ∧ i + 1 ≤ x.length) ∧ decide (some a = some c) = true) := fun h => hc (by simpa using h.2)
        rw [if_neg c1]
        have ih := occ_pos x c lim l (i + 1) free found hd2 (by omega) hlt
        refine Eq.trans ih ?_
        have : lim - found.size ≠ 0 := by omega
        simp only [posL, if_neg this, if_neg hc]
    · have c1 : ¬ (((found.size < lim ∧ free ≤ i) ∧ i + 1 ≤ x.length) ∧ decide (some a = some c) = true) := fun h => hl h.1.1.1
      rw [if_neg c1]
      have ih := occ_pos x c lim l (i + 1) free found hd2 (by omega) hlt
      refine Eq.trans ih ?_
      have z : lim - found.size = 0 := by omega
      have pz : ∀ (l : List Nat) i, posL c i l 0 = [] := fun l i => by cases l <;> simp [posL]
      rw [z, pz, pz]
theorem occ_one (x : Str) (c lim : Nat) : occurrences x ⟨#[c]⟩ 0 x.length lim = posL c 0 x.cps.toList lim := by
  rw [occ_eq]
  have := occ_pos x c lim x.cps.toList 0 0 #[] (by simp) (Nat.le_refl _) (Nat.zero_le _)
  have e : x.cps.toList.length = x.length := by simp [Str.length]
  rw [e] at this
  simpa using this
theorem consH_ne (a : Nat) (ps : List (List Nat)) : consH a ps ≠ [] := by cases ps <;> simp [consH]
theorem splitN_ne (c : Nat) : ∀ (lim : Nat) (l : List Nat), splitN c lim l ≠ []
  | _, [] => by simp [splitN]
  | lim, a :: l => by unfold splitN; split; · simp
                      · exact consH_ne _ _
def preH (p : List Nat) : List (List Nat) → List (List Nat)
  | [] => [p]
  | h :: t => (p ++ h) :: t
theorem preH_consH (p : List Nat) (a : Nat) {ps : List (List Nat)} (h : ps ≠ []) : preH p (consH a ps) = preH (p ++ [a]) ps := by
  cases ps with
  | nil => exact absurd rfl h
  | cons x r => simp [consH, preH]
theorem parts_pos (x : Str) (c : Nat) : ∀ (l : List Nat) (a i lim : Nat), x.cps.toList.drop i = l → a ≤ i → i ≤ x.length → partsFrom x 1 a (posL c i l lim) = (preH ((x.cps.toList.take i).drop a) (splitN c lim l)).map mkS
  | [], a, i, lim, hd, ha, hi => by
    have hx : x.length ≤ i := by
      have := List.drop_eq_nil_iff.mp hd
      simpa [Str.length] using this
    have hn : x.cps.toList.length = x.length := by simp [Str.length]
    simp only [posL, partsFrom, splitN, preH, List.append_nil, List.map_cons, List.map_nil, List.cons.injEq, and_true]
    apply str_ext
    have h1 : (x.cps.toList.drop a).take (x.length - a) = x.cps.toList.drop a := List.take_of_length_le (by rw [List.length_drop, hn]; exact Nat.le_refl _)
    have h2 : x.cps.toList.take i = x.cps.toList := List.take_of_length_le (by rw [hn]; exact hx)
    rw [strSub_toList, mkS_list, h1, h2]
  | b :: l, a, i, lim, hd, ha, hi => by
    have hg : x.cps.toList[i]? = some b := by
      have := congrArg (fun l => l[0]?) hd
      simpa using this
    have hlt : i < x.length := by
      have := (List.getElem?_eq_some_iff.mp hg).1
      simpa [Str.length] using this
    have hd2 : x.cps.toList.drop (i + 1) = l := by
      rw [← List.drop_drop, hd]; rfl
    have tk : x.cps.toList.take (i + 1) = x.cps.toList.take i ++ [b] := by rw [List.take_add_one, hg]; rfl
    have hn : x.cps.toList.length = x.length := by simp [Str.length]
    by_cases hl : lim = 0
    · subst hl
      have pz : posL c i (b :: l) 0 = posL c (i + 1) l 0 := by cases l <;> simp [posL]
      rw [pz, parts_pos x c l a (i + 1) 0 hd2 (by omega) hlt]
      simp only [splitN, ne_eq, not_true_eq_false, and_false, if_false]
      rw [preH_consH _ _ (splitN_ne _ _ _), tk, List.drop_append_of_le_length (by rw [List.length_take, hn]; omega)]
    · by_cases hc : b = c
      · subst hc
        have e1 : posL b i (b :: l) lim = i :: posL b (i + 1) l (lim - 1) := by simp [posL, hl]
        have e2 : splitN b lim (b :: l) = [] :: splitN b (lim - 1) l := by simp [splitN, hl]
        rw [e1, e2]
        simp only [partsFrom, preH, List.append_nil, List.map_cons]
        rw [parts_pos x b l (i + 1) (i + 1) (lim - 1) hd2 (Nat.le_refl _) hlt]
        congr 1
        · apply str_ext
          rw [strSub_toList, mkS_list]
          rw [List.drop_take]
        · have : (x.cps.toList.take (i + 1)).drop (i + 1) = [] := by rw [List.drop_eq_nil_iff]; simp; omega
          rw [this]
          cases q : splitN b (lim - 1) l with
          | nil => exact absurd q (splitN_ne _ _ _)
          | cons h t => rfl
      · simp only [posL, if_neg hl, if_neg hc]
        rw [parts_pos x c l a (i + 1) lim hd2 (by omega) hlt]
        have : ¬ (b = c ∧ lim ≠ 0) := fun h => hc h.1
        simp only [splitN, if_neg this]
        rw [preH_consH _ _ (splitN_ne _ _ _), tk, List.drop_append_of_le_length (by rw [List.length_take, hn]; omega)]

theorem splitN_big (c : Nat) : ∀ (l : List Nat) (lim : Nat), l.length ≤ lim → splitN c lim l = splitL c l
  | [], _, _ => by simp [splitN, splitL]
  | a :: l, lim, h => by
    have h' : l.length + 1 ≤ lim := h
    have hz : lim ≠ 0 := by omega
    by_cases hc : a = c
    · simp only [splitN, splitL, hc, hz, ne_eq, not_false_eq_true, and_self, if_true]
      rw [splitN_big c l (lim - 1) (by omega)]
    · have : ¬ (a = c ∧ lim ≠ 0) := fun h => hc h.1
      simp only [splitN, splitL, if_neg this, if_neg hc]
      rw [splitN_big c l lim (by omega)]
theorem splitN_zero (c : Nat) : ∀ l : List Nat, splitN c 0 l = [l]
  | [] => rfl
  | a :: l => by simp [splitN, splitN_zero c l, consH]
theorem posL_nil (c : Nat) : ∀ (l : List Nat) (i lim : Nat), lim ≠ 0 → posL c i l lim = [] → splitN c lim l = [l]
  | [], _, _, _, _ => rfl
  | a :: l, i, lim, hz, h => by
    by_cases hc : a = c
    · simp [posL, hz, hc] at h
    · have : ¬ (a = c ∧ lim ≠ 0) := fun h => hc h.1
      simp only [posL, if_neg hz, if_neg hc] at h
      simp only [splitN, if_neg this, posL_nil c l (i + 1) lim hz h, consH]
theorem strKind_pos (x : Str) : 1 ≤ Str.strKind x := by
  unfold Str.strKind
  split
  · decide
  · split <;> decide
theorem kind_one {c : Nat} (h : c < 256) : Str.strKind ⟨#[c]⟩ = 1 := by simp [Str.strKind, h]
theorem parts_eq (x : Str) (c lim : Nat) : partsBetween x (occurrences x ⟨#[c]⟩ 0 x.length lim) (⟨#[c]⟩ : Str).length = (splitN c lim x.cps.toList).map mkS := by
  rw [partsBetween_eq, occ_one]
  have := parts_pos x c x.cps.toList 0 0 lim (by simp) (Nat.le_refl _) (Nat.zero_le _)
  have e : (⟨#[c]⟩ : Str).length = 1 := rfl
  rw [e, this]
  congr 1
  cases q : splitN c lim x.cps.toList with
  | nil => exact absurd q (splitN_ne _ _ _)
  | cons h t => simp [preH]
theorem split_eq (x : Str) {c : Nat} (h : c < 256) : Txt.split x ⟨#[c]⟩ = (splitL c x.cps.toList).map mkS := by
  have hn : x.cps.toList.length = x.length := by simp [Str.length]
  have big := splitN_big c x.cps.toList (x.length + 1) (by omega)
  unfold Txt.split
  have e : (⟨#[c]⟩ : Str).length = 1 := rfl
  by_cases h1 : (decide (x.length < (⟨#[c]⟩ : Str).length) || decide (Str.strKind x < Str.strKind ⟨#[c]⟩)) = true
  · rw [if_pos h1]
    have kp := strKind_pos x
    rw [kind_one h, e] at h1
    simp only [Bool.or_eq_true, decide_eq_true_eq] at h1
    have : x.cps.toList = [] := by rw [← List.length_eq_zero_iff, hn]; omega
    rw [this]
    simp only [splitL, List.map_cons, List.map_nil, List.cons.injEq, and_true]
    apply str_ext; rw [this]
  · rw [if_neg h1]
    by_cases h2 : (occurrences x ⟨#[c]⟩ 0 x.length (x.length + 1)).isEmpty = true
    · rw [if_pos h2]
      rw [occ_one] at h2
      have := posL_nil c x.cps.toList 0 (x.length + 1) (by omega) (List.isEmpty_iff.mp h2)
      rw [← big, this]
      simp only [List.map_cons, List.map_nil, mkS_of]
    · rw [if_neg h2, parts_eq, big]
theorem splitMax_eq (x : Str) {c : Nat} (h : c < 256) (k : Nat) (hk : k ≠ 0) : Txt.splitMax x ⟨#[c]⟩ k = (splitN c k x.cps.toList).map mkS := by
  have hn : x.cps.toList.length = x.length := by simp [Str.length]
  have lm : limitOf x (k : Int) = k := by
    unfold limitOf
    have : ¬ ((k : Int) < 0) := by omega
    simp [this]
  unfold Txt.splitMax
  rw [lm]
  have e : (⟨#[c]⟩ : Str).length = 1 := rfl
  by_cases h1 : (decide (x.length < (⟨#[c]⟩ : Str).length) || decide (Str.strKind x < Str.strKind ⟨#[c]⟩)) = true
  · rw [if_pos h1]
    have kp := strKind_pos x
    rw [kind_one h, e] at h1
    simp only [Bool.or_eq_true, decide_eq_true_eq] at h1
    have : x.cps.toList = [] := by rw [← List.length_eq_zero_iff, hn]; omega
    rw [this]
    simp only [splitN, List.map_cons, List.map_nil, List.cons.injEq, and_true]
    apply str_ext; rw [this]
  · rw [if_neg h1]
    by_cases h2 : (occurrences x ⟨#[c]⟩ 0 x.length k).isEmpty = true
    · rw [if_pos h2]
      rw [occ_one] at h2
      rw [posL_nil c x.cps.toList 0 k hk (List.isEmpty_iff.mp h2)]
      simp only [List.map_cons, List.map_nil, mkS_of]
    · rw [if_neg h2, parts_eq]
theorem posL_len (c : Nat) : ∀ (l : List Nat) (i lim : Nat), (posL c i l lim).length + 1 = (splitN c lim l).length
  | [], _, _ => rfl
  | a :: l, i, lim => by
    by_cases hl : lim = 0
    · subst hl; rw [splitN_zero]; simp [posL]
    · by_cases hc : a = c
      · simp only [posL, splitN, hl, hc, ne_eq, not_false_eq_true, and_self, if_true, if_false, List.length_cons, posL_len c l (i + 1) (lim - 1)]
      · have : ¬ (a = c ∧ lim ≠ 0) := fun h => hc h.1
        simp only [posL, splitN, if_neg hl, if_neg hc, if_neg this, posL_len c l (i + 1) lim]
        cases q : splitN c lim l with
        | nil => exact absurd q (splitN_ne _ _ _)
        | cons h t => rfl
theorem count_eq (x : Str) (c : Nat) : Txt.count x ⟨#[c]⟩ = (((splitL c x.cps.toList).length - 1 : Nat) : Int) := by
  have hn : x.cps.toList.length = x.length := by simp [Str.length]
  unfold Txt.count
  rw [occ_one, ← splitN_big c x.cps.toList (x.length + 1) (by omega), ← posL_len c x.cps.toList 0]
  simp
def joinL (c : Nat) : List (List Nat) → List Nat
  | [] => []
  | [p] => p
  | p :: q :: r => p ++ c :: joinL c (q :: r)
theorem splitL_ne (c : Nat) : ∀ l : List Nat, splitL c l ≠ []
  | [] => by simp [splitL]
  | a :: l => by unfold splitL; split; · simp
                 · exact consH_ne _ _
theorem joinL_consH (c a : Nat) {ps : List (List Nat)} (h : ps ≠ []) : joinL c (consH a ps) = a :: joinL c ps := by
  cases ps with
  | nil => exact absurd rfl h
  | cons p r => cases r <;> simp [consH, joinL]
theorem joinL_nil (c : Nat) {ps : List (List Nat)} (h : ps ≠ []) : joinL c ([] :: ps) = c :: joinL c ps := by
  cases ps with
  | nil => exact absurd rfl h
  | cons p r => simp [joinL]
theorem join_splitL (c : Nat) : ∀ l : List Nat, joinL c (splitL c l) = l
  | [] => rfl
  | a :: l => by
    by_cases hc : a = c
    · simp only [splitL, hc, if_true]
      rw [joinL_nil c (splitL_ne c l), join_splitL c l]
    · simp only [splitL, if_neg hc]
      rw [joinL_consH c a (splitL_ne c l), join_splitL c l]
/-- one cut -/
theorem splitN_one (c : Nat) : ∀ l : List Nat, splitN c 1 l = match splitL c l with
    | a :: b :: r => [a, joinL c (b :: r)]
    | ws => ws
  | [] => rfl
  | a :: l => by
    by_cases hc : a = c
    · subst hc
      have e : splitN a 1 (a :: l) = [] :: splitN a 0 l := by simp [splitN]
      rw [e, splitN_zero]
      simp only [splitL, if_true]
      cases q : splitL a l with
      | nil => exact absurd q (splitL_ne _ _)
      | cons h t =>
        show [[], l] = [[], joinL a (h :: t)]
        rw [← q, join_splitL]
    · have : ¬ (a = c ∧ 1 ≠ 0) := fun h => hc h.1
      simp only [splitN, splitL, if_neg this, if_neg hc, splitN_one c l]
      cases q : splitL c l with
      | nil => exact absurd q (splitL_ne _ _)
      | cons h t => cases t <;> simp [consH]
/-- two cuts -/
theorem splitN_two (c : Nat) : ∀ l : List Nat, splitN c 2 l = match splitL c l with
    | a :: b :: d :: r => [a, b, joinL c (d :: r)]
    | ws => ws
  | [] => rfl
  | a :: l => by
    by_cases hc : a = c
    · subst hc
      have e : splitN a 2 (a :: l) = [] :: splitN a 1 l := by simp [splitN]
      rw [e, splitN_one a l]
      simp only [splitL, if_true]
      cases q : splitL a l with
      | nil => exact absurd q (splitL_ne _ _)
      | cons h t => cases t <;> simp
    · have : ¬ (a = c ∧ 2 ≠ 0) := fun h => hc h.1
      simp only [splitN, splitL, if_neg this, if_neg hc, splitN_two c l]
      cases q : splitL c l with
      | nil => exact absurd q (splitL_ne _ _)
      | cons h t => rcases t with _ | ⟨_, _ | ⟨_, _⟩⟩ <;> simp [consH]
theorem splitL_free (c : Nat) : ∀ l : List Nat, ∀ p ∈ splitL c l, c ∉ p
  | [] => by simp [splitL]
  | a :: l => by
    intro p hp
    by_cases hc : a = c
    · simp only [splitL, hc, if_true, List.mem_cons] at hp
      rcases hp with rfl | hp
      · simp
      · exact splitL_free c l p hp
    · simp only [splitL, if_neg hc] at hp
      have ih := splitL_free c l
      cases q : splitL c l with
      | nil => exact absurd q (splitL_ne _ _)
      | cons h t =>
        rw [q] at hp ih
        simp only [consH, List.mem_cons] at hp
        rcases hp with rfl | hp
        · simp only [List.mem_cons, not_or]
          exact ⟨fun e => hc e.symm, ih h List.mem_cons_self⟩
        · exact ih p (List.mem_cons_of_mem _ hp)
/-- pieces without the sign, joined, are cut again -/
theorem split_joinL (c : Nat) : ∀ ps : List (List Nat), ps ≠ [] → (∀ p ∈ ps, c ∉ p) → splitL c (joinL c ps) = ps
  | [], h, _ => absurd rfl h
  | [p], _, hp => by
    have : ∀ p : List Nat, c ∉ p → splitL c p = [p] := fun p => by
      induction p with
      | nil => intro _; rfl
      | cons a r ih =>
        intro h
        simp only [List.mem_cons, not_or] at h
        simp only [splitL, if_neg (Ne.symm h.1), ih h.2, consH]
    exact this p (hp p List.mem_cons_self)
  | p :: q :: r, _, hp => by
    have ih := split_joinL c (q :: r) (by simp) fun x hx => hp x (List.mem_cons_of_mem _ hx)
    have : ∀ (p l : List Nat), c ∉ p → splitL c (p ++ c :: l) = p :: splitL c l := fun p l => by
      induction p with
      | nil => intro _; simp [splitL]
      | cons a t ih =>
        intro h
        simp only [List.mem_cons, not_or] at h
        simp only [List.cons_append, splitL, if_neg (Ne.symm h.1), ih h.2, consH]
    show splitL c (p ++ c :: joinL c (q :: r)) = _
    rw [this p _ (hp p List.mem_cons_self), ih]
theorem foldl_glue (c : Nat) : ∀ (ps : List (List Nat)) (acc : Array Nat), ((ps.map mkS).foldl (fun acc p => acc ++ (⟨#[c]⟩ : Str).cps ++ p.cps) acc).toList = acc.toList ++ (ps.flatMap fun p => c :: p)
  | [], acc => by simp
  | p :: ps, acc => by
    rw [List.map_cons, List.foldl_cons, foldl_glue c ps]
    simp
theorem joinL_flat (c : Nat) : ∀ (p : List Nat) (ps : List (List Nat)), joinL c (p :: ps) = p ++ ps.flatMap fun p => c :: p
  | p, [] => by simp [joinL]
  | p, q :: r => by rw [joinL, joinL_flat c q r]; simp
theorem join_eq (c : Nat) (ps : List (List Nat)) : Txt.join ⟨#[c]⟩ (ps.map mkS) = mkS (joinL c ps) := by
  unfold Txt.join glued
  apply str_ext
  rw [mkS_list]
  cases ps with
  | nil => simp [joinL, Str.empty]
  | cons p r =>
    rw [joinL_flat, List.map_cons, List.drop_one, List.tail_cons, foldl_glue]
    simp
end DE

namespace DE
open PySem PySem.Builtin PySem.Builtin.Str
/-! ### what repr gives is plnD -/
def Asci (x : Str) : Prop := ∀ c ∈ x.cps.toList, c < 128
theorem Asci.app {x y : Str} (hx : Asci x) (hy : Asci y) : Asci (x ++ y) := by
  intro c hc
  have e : (x ++ y).cps.toList = x.cps.toList ++ y.cps.toList := by
    show (x.cps ++ y.cps).toList = _
    simp
  rw [e] at hc
  rcases List.mem_append.mp hc with h | h
  · exact hx c h
  · exact hy c h
theorem Asci.strOk {x : Str} (h : Asci x) : PyData.strOk x = true := by
  unfold PyData.strOk
  rw [← Array.all_toList, List.all_eq_true]
  intro c hc
  have := h c hc
  simp; omega
theorem repr_tab : ((List.range 128).all fun c => (reprChar 39 c).all (fun d => decide (d < 128)) && (reprChar 34 c).all (fun d => decide (d < 128))) = true := by decide +kernel
theorem reprChar_asc {q c : Nat} (hq : q = 39 ∨ q = 34) (hc : c < 128) : ∀ d ∈ reprChar q c, d < 128 := by
  have h := List.all_eq_true.mp repr_tab c (by simpa using hc)
  rw [Bool.and_eq_true, List.all_eq_true, List.all_eq_true] at h
  rcases hq with rfl | rfl
  · exact fun d hd => of_decide_eq_true (h.1 d hd)
  · exact fun d hd => of_decide_eq_true (h.2 d hd)
theorem foldl_asc {q : Nat} (hq : q = 39 ∨ q = 34) : ∀ (l : List Nat) (acc : Array Nat), (∀ c ∈ l, c < 128) → (∀ c ∈ acc.toList, c < 128) → ∀ c ∈ (l.foldl (fun out c => out ++ (reprChar q c).toArray) acc).toList, c < 128
  | [], acc, _, h => h
  | c :: r, acc, hl, h => by
    refine foldl_asc hq r _ (fun x hx => hl x (List.mem_cons_of_mem _ hx)) fun x hx => ?_
    have e : (acc ++ (reprChar q c).toArray).toList = acc.toList ++ reprChar q c := by simp
    rw [e] at hx
    rcases List.mem_append.mp hx with z | z
    · exact h x z
    · exact reprChar_asc hq (hl c List.mem_cons_self) x z
theorem quote_or (x : Str) : reprQuote x = 39 ∨ reprQuote x = 34 := by
  unfold reprQuote
  split
  · exact .inr rfl
  · exact .inl rfl
theorem reprText_asc {x : Str} (h : Asci x) : Asci (reprText x) := by
  have q := quote_or x
  have ql : reprQuote x < 128 := by rcases q with e | e <;> rw [e] <;> decide
  intro c hc
  unfold reprText at hc
  rw [Array.toList_push] at hc
  rcases List.mem_append.mp hc with z | z
  · rw [← Array.foldl_toList] at z
    exact foldl_asc q _ _ h (fun d hd => by simp at hd; subst hd; exact ql) c z
  · simp at z; subst z; exact ql
theorem ofString_asc {z : String} (h : ∀ c ∈ z.toList, c.toNat < 128) : Asci (Str.ofString z) := by
  intro c hc
  rw [Str.ofString_eq_toList] at hc
  simp only [List.mem_map] at hc
  obtain ⟨d, hd, rfl⟩ := hc
  exact h d hd
theorem nat_asc (n : Nat) : ∀ c ∈ (Nat.repr n).toList, c.toNat < 128 := by
  intro c hc
  rw [Nat.toList_repr] at hc
  have := Nat.isDigit_of_mem_toDigits (by decide) (by decide) hc
  unfold Char.isDigit at this
  simp only [Bool.and_eq_true, decide_eq_true_eq] at this
  have h2 := this.2
  have h3 : c.val.toNat ≤ 57 := by simpa [UInt32.le_iff_toNat_le] using h2
  show c.val.toNat < 128
  omega
theorem int_asc (i : Int) : Asci (Str.ofString (toString i)) := by
  cases i with
  | ofNat m => exact ofString_asc (nat_asc m)
  | negSucc m =>
    have e : toString (Int.negSucc m) = "-" ++ Nat.repr (m + 1) := rfl
    rw [e]
    refine ofString_asc fun c hc => ?_
    rw [String.toList_append] at hc
    rcases List.mem_append.mp hc with z | z
    · have : c = '-' := by simpa using z
      subst this; decide
    · exact nat_asc _ c z
theorem str_asc (z : String) (h : z.toList.all (fun c => decide (c.toNat < 128)) = true) : Asci (Str.ofString z) := ofString_asc fun c hc => of_decide_eq_true (List.all_eq_true.mp h c hc)
theorem textFrom_asc : ∀ (ts : List Str) (k : Nat) (acc : Str), Asci acc → (∀ t ∈ ts, Asci t) → Asci (textFrom k acc ts)
  | [], _, _, h, _ => h
  | t :: r, k, acc, h, ht => by
    refine textFrom_asc r (k + 1) _ ((h.app ?_).app (ht t List.mem_cons_self)) fun x hx => ht x (List.mem_cons_of_mem _ hx)
    split
    · exact str_asc ", " (by decide +kernel)
    · exact str_asc "" (by decide +kernel)
theorem join_asc {sep : Str} (hs : Asci sep) : ∀ (ts : List Str), (∀ t ∈ ts, Asci t) → Asci (Str.join sep ts)
  | [], _ => fun c hc => by simp [Str.join, Str.empty] at hc
  | [x], h => h x List.mem_cons_self
  | x :: y :: r, h => ((h x List.mem_cons_self).app hs).app (join_asc hs (y :: r) fun t ht => h t (List.mem_cons_of_mem _ ht))
theorem listText_asc {ts : List Str} (h : ∀ t ∈ ts, Asci t) : Asci (listText ts) := (textFrom_asc ts 0 _ (str_asc "[" (by decide +kernel)) h).app (str_asc "]" (by decide +kernel))
theorem tupleText_asc {ts : List Str} (h : ∀ t ∈ ts, Asci t) : Asci (tupleText ts) := by
  unfold tupleText
  refine ((str_asc "(" (by decide +kernel)).app (join_asc (str_asc ", " (by decide +kernel)) ts h)).app ?_
  split
  · exact str_asc ",)" (by decide +kernel)
  · exact str_asc ")" (by decide +kernel)
mutual
/-- data whose repr is plnD: its texts are plnD, its ints below 10^30, no dicts -/
def plnD : PyData → Bool
  | .none => true
  | .bool _ => true
  | .int i => decide (i.natAbs < 10 ^ 30)
  | .str x => x.cps.toList.all fun c => decide (c < 128)
  | .list xs => plnDs xs
  | .tuple xs => plnDs xs
  | .dict _ => false
def plnDs : List PyData → Bool
  | [] => true
  | x :: xs => plnD x && plnDs xs
end
mutual
theorem shown_asc : ∀ d : PyData, plnD d = true → Asci d.shown
  | .none, _ => by simp only [PyData.shown]; exact str_asc "None" (by decide +kernel)
  | .bool b, _ => by
    simp only [PyData.shown]
    cases b
    · exact str_asc "False" (by decide +kernel)
    · exact str_asc "True" (by decide +kernel)
  | .int i, _ => by simp only [PyData.shown]; exact int_asc i
  | .str x, h => by
    simp only [PyData.shown]
    simp only [plnD, List.all_eq_true, decide_eq_true_eq] at h
    exact reprText_asc h
  | .list xs, h => by simp only [PyData.shown]; exact listText_asc (shownAll_asc xs (by simpa only [plnD] using h))
  | .tuple xs, h => by simp only [PyData.shown]; exact tupleText_asc (shownAll_asc xs (by simpa only [plnD] using h))
  | .dict _, h => by simp [plnD] at h
theorem shownAll_asc : ∀ ds : List PyData, plnDs ds = true → ∀ t ∈ PyData.shownAll ds, Asci t
  | [], _ => fun t ht => by simp only [PyData.shownAll] at ht; cases ht
  | x :: xs, h => fun t ht => by
    simp only [plnDs, Bool.and_eq_true] at h
    simp only [PyData.shownAll, List.mem_cons] at ht
    rcases ht with rfl | ht
    · exact shown_asc x h.1
    · exact shownAll_asc xs h.2 t ht
end
theorem log2_lt {n : Nat} (h : n < 10 ^ 30) : n.log2 < 1920 := by
  by_cases z : n = 0
  · subst z; decide
  · exact (Nat.log2_lt z).mpr (Nat.lt_trans h (by decide +kernel))
mutual
theorem plain_show : ∀ d : PyData, plnD d = true → d.showable = true ∧ d.leavesShort 40 = true
  | .none, _ => by simp [PyData.showable, PyData.leavesShort]
  | .bool _, _ => by simp [PyData.showable, PyData.leavesShort]
  | .int i, h => by
    have h' : i.natAbs < 10 ^ 30 := by simpa only [plnD, decide_eq_true_eq] using h
    have e := int_text_length_le10 (a := i) (k := 30) (by decide) h'
    have e2 : (PyData.shown (.int i)).length = (toString i).length := by
      simp only [PyData.shown]
      show (Str.ofString (toString i)).length = _
      rw [Str.ofString_eq_toList]
      simp [Str.length]
      exact String.length_toList
    refine ⟨by simpa only [PyData.showable, decide_eq_true_eq] using log2_lt h', ?_⟩
    simp only [PyData.leavesShort, decide_eq_true_eq]
    rw [e2]; omega
  | .str x, h => by
    refine ⟨by simp [PyData.showable], ?_⟩
    simp only [plnD, List.all_eq_true, decide_eq_true_eq] at h
    simp only [PyData.leavesShort, List.all_eq_true, decide_eq_true_eq]
    intro c hc
    exact Nat.lt_trans (h c hc) (by decide)
  | .list xs, h => by
    have := plain_showAll xs (by simpa only [plnD] using h)
    simpa only [PyData.showable, PyData.leavesShort] using this
  | .tuple xs, h => by
    have := plain_showAll xs (by simpa only [plnD] using h)
    simpa only [PyData.showable, PyData.leavesShort] using this
  | .dict _, h => by simp [plnD] at h
theorem plain_showAll : ∀ ds : List PyData, plnDs ds = true → PyData.showableAll ds = true ∧ PyData.leavesShortAll 40 ds = true
  | [], _ => by simp [PyData.showableAll, PyData.leavesShortAll]
  | x :: xs, h => by
    simp only [plnDs, Bool.and_eq_true] at h
    have h1 := plain_show x h.1
    have h2 := plain_showAll xs h.2
    simp only [PyData.showableAll, PyData.leavesShortAll, Bool.and_eq_true]
    exact ⟨⟨h1.1, h2.1⟩, ⟨h1.2, h2.2⟩⟩
end
theorem plain_len {d : PyData} (h : plnD d = true) : d.shown.length ≤ 42 * d.weight + 40 := PyData.shown_le 40 (by decide) d (plain_show d h).2
theorem plnDs_mem {ds : List PyData} : plnDs ds = true ↔ ∀ d ∈ ds, plnD d = true := by
  induction ds with
  | nil => simp [plnDs]
  | cons x xs ih => simp [plnDs, ih]
end DE

set_option maxHeartbeats 4000000
namespace G
open PySem L2 DE
mutual
theorem pln_can : ∀ p : PyData, plnD p = true → p.canLay0 = true
  | .none, _ => rfl
  | .bool _, _ => rfl
  | .int _, _ => rfl
  | .str x, h => by
    simp only [plnD, List.all_eq_true, decide_eq_true_eq] at h
    simp only [PyData.canLay0]
    exact Asci.strOk (x := x) h
  | .list ps, h => by simp only [PyData.canLay0]; exact plns_can ps (by simpa only [plnD] using h)
  | .tuple ps, h => by simp only [PyData.canLay0]; exact plns_can ps (by simpa only [plnD] using h)
  | .dict _, h => by simp [plnD] at h
theorem plns_can : ∀ ps : List PyData, plnDs ps = true → PyData.canLayAll0 ps = true
  | [], _ => rfl
  | p :: ps, h => by
    simp only [plnDs, Bool.and_eq_true] at h
    simp [PyData.canLayAll0, pln_can p h.1, plns_can ps h.2]
end
mutual
theorem pln_self : ∀ p : PyData, plnD p = true → PyData.eqv p p = true
  | .none, _ => by simp [PyData.eqv]
  | .bool b, _ => by simp [PyData.eqv]
  | .int i, _ => by simp [PyData.eqv]
  | .str x, _ => by simp [PyData.eqv]
  | .list ps, h => by simp only [PyData.eqv]; exact plns_self ps (by simpa only [plnD] using h)
  | .tuple ps, h => by simp only [PyData.eqv]; exact plns_self ps (by simpa only [plnD] using h)
  | .dict _, h => by simp [plnD] at h
theorem plns_self : ∀ ps : List PyData, plnDs ps = true → PyData.eqvAll ps ps = true
  | [], _ => by simp [PyData.eqvAll]
  | p :: ps, h => by
    simp only [plnDs, Bool.and_eq_true] at h
    simp [PyData.eqvAll, pln_self p h.1, plns_self ps h.2]
end
theorem pln_shaped {p : PyData} (h : plnD p = true) (hd : p.depth ≤ 63) : SeqAt.shaped p = true := by simp [SeqAt.shaped, pln_can p h]; omega
theorem eqD_pln {d e : D} {p q : PyData} (hd : toPy d = some p) (he : toPy e = some q) (h1 : plnD p = true) (h2 : plnD q = true) (k1 : p.depth ≤ 63) (k2 : q.depth ≤ 63) : eqD d e = some (PyData.eqv p q) := by
  simp only [eqD, hd, he]
  rw [if_pos ⟨pln_shaped h1 k1, pln_shaped h2 k2⟩]
theorem ne_self {d : D} {p : PyData} (hd : toPy d = some p) (h1 : plnD p = true) (k1 : p.depth ≤ 63) (S : Sto) : oNe d d S = .ok (.bl false) S := by
  simp only [oNe, eqD_pln hd hd h1 h1 k1 k1, pln_self p h1, Bool.not_true]
theorem eq_self {d : D} {p : PyData} (hd : toPy d = some p) (h1 : plnD p = true) (k1 : p.depth ≤ 63) (S : Sto) : oEq d d S = .ok (.bl true) S := by
  simp only [oEq, eqD_pln hd hd h1 h1 k1 k1, pln_self p h1]
theorem repr_pln {d : D} {p : PyData} (hd : toPy d = some p) (h1 : plnD p = true) (k1 : p.depth ≤ 60) (hl : p.shown.length ≤ cap) (S : Sto) : oRepr [d] S = .ok (.str p.shown) S := by
  have r1 : reprOf p = some p.shown := by unfold reprOf; rw [if_pos ⟨(plain_show p h1).1, k1, hl⟩]
  have nd : oRepr [d] S = (match (toPy d).bind reprOf with | some x => .ok (.str x) S | none => .bad) := by
    cases d <;> first | rfl | (rename_i kvs; cases kvs <;> simp [toPy] at hd)
  rw [nd, hd]
  simp [r1]
theorem str_len {x : Str} (h : Asci x) : (PyData.str x).shown.length ≤ 10 * x.length + 30 := by
  have l2 : (PyData.str x).leavesShort 8 = true := by
    simp only [PyData.leavesShort, List.all_eq_true, decide_eq_true_eq]
    exact fun c hc => Nat.lt_trans (h c hc) (by decide)
  have := PyData.shown_le 8 (by decide) _ l2
  have e : x.cps.size = x.length := rfl
  simp only [PyData.weight, e] at this
  omega
end G

set_option maxHeartbeats 4000000
namespace G
open PySem L2 DE
def low (c : Nat) : Bool := decide (97 ≤ c) && decide (c ≤ 122)
def prn (c : Nat) : Bool := decide (32 ≤ c) && decide (c ≤ 126)
def wS (s : Str) : Bool := decide (1 ≤ s.length) && (decide (s.length ≤ 8) && s.cps.toList.all low)
def vS (s : Str) : Bool := decide (s.length ≤ 40) && s.cps.toList.all prn
def GoodS (s : Str) : Prop := s.length ≤ 1000 ∧ ∀ c ∈ s.cps.toList, c < 128
theorem letters : (Str.ofString "abcdefghijklmnopqrstuvwxyz").cps.toList = [97, 98, 99, 100, 101, 102, 103, 104, 105, 106, 107, 108, 109, 110, 111, 112, 113, 114, 115, 116, 117, 118, 119, 120, 121, 122] := by decide +kernel
theorem in_letters (c : Nat) : inS ⟨#[c]⟩ (Str.ofString "abcdefghijklmnopqrstuvwxyz") = low c := by
  unfold inS
  rw [if_pos (show (⟨#[c]⟩ : Str).cps.size = 1 from rfl), letters]
  show decide (c ∈ _) = low c
  unfold low
  rw [Bool.eq_iff_iff]
  simp
  omega
theorem strLt_l {c k : Nat} {z : Str} (hz : z.cps.toList = [k]) : strLt ⟨#[c]⟩ z = decide (c < k) := by
  unfold strLt
  rw [hz]
  simp [List.cons_lt_cons_iff]
theorem strLt_r {c k : Nat} {z : Str} (hz : z.cps.toList = [k]) : strLt z ⟨#[c]⟩ = decide (k < c) := by
  unfold strLt
  rw [hz]
  simp [List.cons_lt_cons_iff]
theorem q_a : (Str.ofString "a").cps.toList = [97] := by decide +kernel
theorem q_z : (Str.ofString "z").cps.toList = [122] := by decide +kernel
theorem q_sp : (Str.ofString " ").cps.toList = [32] := by decide +kernel
theorem q_ti : (Str.ofString "~").cps.toList = [126] := by decide +kernel
theorem le_low (c : Nat) : (if c < 97 then false else !decide (122 < c)) = low c := by
  unfold low
  rw [Bool.eq_iff_iff]
  simp
theorem blsOf_map {α : Type} (p : α → Bool) : ∀ l : List α, blsOf (l.map fun x => D.bl (p x)) = some (l.map p)
  | [] => rfl
  | x :: l => by simp [blsOf, blsOf_map p l]
theorem dSigns_len (s : Str) : (dSigns s).length = s.length := by simp [dSigns]; rfl
/-! a comprehension over the dSigns of a text -/
theorem lc_signs {ρ : DE.Env} {S : Sto} {own : List Nat} {g : MG} {t : MT} {e : ME} {s : Str} {r : Nat → DE.Env} {p : Nat → Bool} {v : Nat → D} (h : ∀ c ∈ s.cps.toList, g (.str ⟨#[c]⟩) (wipeD ρ own) = some (r c) ∧ t (r c) S = .ok (p c) S ∧ (p c = true → e (r c) S = .ok (v c) S)) :
    loopC own g t e ρ (dSigns s) S = .ok ((s.cps.toList.filter p).map v) S := by
  unfold dSigns
  generalize s.cps.toList = l at h ⊢
  induction l with
  | nil => rfl
  | cons c l ih =>
    obtain ⟨h1, h2, h3⟩ := h c List.mem_cons_self
    have ih := ih fun x hx => h x (List.mem_cons_of_mem _ hx)
    rw [List.map_cons]
    unfold loopC
    rw [h1]
    simp only [h2]
    cases q : p c with
    | true => simp only [h3 q, ih, RE.bind_ok, List.filter_cons, q, if_true, List.map_cons]
    | false => simp only [ih, List.filter_cons, q]; rfl
theorem filt_all {α : Type} (l : List α) : l.filter (fun _ => true) = l := List.filter_eq_self.mpr fun _ _ => rfl
theorem toPys_signs (l : List Nat) : toPys (l.map fun c => D.str ⟨#[c]⟩) = some (l.map fun c => PyData.str ⟨#[c]⟩) := by
  induction l with
  | nil => rfl
  | cons c l ih => simp only [List.map_cons, toPys, toPy, ih]
theorem shaped_signs (l : List Nat) (h : ∀ c ∈ l, c < 128) : SeqAt.shaped (.list (l.map fun c => PyData.str ⟨#[c]⟩)) = true := by
  unfold SeqAt.shaped
  have h1 : PyData.canLayAll0 (l.map fun c => PyData.str ⟨#[c]⟩) = true := by
    induction l with
    | nil => rfl
    | cons c l ih =>
      simp only [List.map_cons, PyData.canLayAll0, PyData.canLay0, PyData.strOk]
      have := h c List.mem_cons_self
      simp [ih fun x hx => h x (List.mem_cons_of_mem _ hx)]
      omega
  have h2 : PyData.depthAll (l.map fun c => PyData.str ⟨#[c]⟩) = 0 := by
    clear h h1
    induction l with
    | nil => rfl
    | cons c l ih => simp [PyData.depthAll, PyData.depth, ih]
  simp [PyData.canLay0, PyData.depth, h1, h2]
theorem eq_nil (l : List Nat) (S : Sto) (h : ∀ c ∈ l, c < 128) : oEq (.lst (l.map fun c => D.str ⟨#[c]⟩)) (.lst []) S = .ok (.bl l.isEmpty) S := by
  have hs := shaped_signs l h
  have hn : SeqAt.shaped (.list []) = true := by decide
  unfold oEq eqD
  simp only [toPy, toPys_signs, Option.map_some, toPys]
  simp only [hs, hn, and_self, if_true]
  cases l <;> rfl
theorem isEmpty_filt {α : Type} (p : α → Bool) (l : List α) : (l.filter fun c => !p c).isEmpty = l.all p := by
  induction l with
  | nil => rfl
  | cons c l ih => cases h : p c <;> simp [List.filter_cons, h, ih]
/-! ### words, values -/
theorem is_word_str (s : Str) (S : Sto) (h : s.length ≤ cap) : F_is_word [.str s] S = .ok (.bl (wS s)) S := by
  have hl : loopC [1] (gN 1) mYes (dBin oIn (dVar 1) (dC (D.str (Str.ofString "abcdefghijklmnopqrstuvwxyz")))) [some (D.str s), none] (dSigns s) S = .ok ((s.cps.toList.map fun c => D.bl (low c))) S := by
    rw [lc_signs (r := fun c => [some (D.str s), some (.str ⟨#[c]⟩)]) (p := fun _ => true) (v := fun c => .bl (low c)) fun c hc => ⟨by simp [wipeD], by simp, fun _ => by simp [oIn, inD, in_letters]⟩, filt_all]
  simp [F_is_word, e_fnD, B_is_word, oIsi, tyName, tyList, subT, oLen, h, oLe, itemsOf, dSigns_len, hl]
  by_cases h1 : 1 ≤ s.length
  · by_cases h8 : s.length ≤ 8
    · have e1 : (1 : Int) ≤ s.length := by omega
      have e2 : ¬ (8 : Int) < s.length := by omega
      simp [e1, e2, oAll, blsOf_map, wS, h1, h8]
    · have e1 : (1 : Int) ≤ s.length := by omega
      have e2 : (8 : Int) < s.length := by omega
      simp [e1, e2, wS, h8]
  · have e1 : ¬ (1 : Int) ≤ s.length := by omega
    simp [e1, wS, h1]
theorem ge_prn (c : Nat) : (if c < 32 then false else !decide (126 < c)) = prn c := by
  unfold prn
  rw [Bool.eq_iff_iff]
  simp
theorem is_value_str (s : Str) (S : Sto) (h : s.length ≤ cap) : F_is_value [.str s] S = .ok (.bl (vS s)) S := by
  have hl : loopC [1] (gN 1) mYes (dChain oLe oLe (dC (.str (Str.ofString " "))) (dVar 1) (dC (.str (Str.ofString "~")))) [some (D.str s), none] (dSigns s) S = .ok ((s.cps.toList.map fun c => D.bl (prn c))) S := by
    rw [lc_signs (r := fun c => [some (D.str s), some (.str ⟨#[c]⟩)]) (p := fun _ => true) (v := fun c => .bl (prn c)) fun c hc => ⟨by simp [wipeD], by simp, fun _ => ?_⟩, filt_all]
    simp [oLe, strLt_l q_sp, strLt_r q_ti]
    rw [← ge_prn c]
    by_cases h : c < 32 <;> simp [h] <;> omega
  simp [F_is_value, e_fnD, B_is_value, oIsi, tyName, tyList, subT, oLen, h, oLe, itemsOf, dSigns_len, hl]
  by_cases h1 : s.length ≤ 40
  · have e1 : ¬ (40 : Int) < s.length := by omega
    simp [e1, oAll, blsOf_map, vS, h1]
  · have e1 : (40 : Int) < s.length := by omega
    have e2 : ¬ (s.length : Int) ≤ 40 := by omega
    simp [e1, e2, vS, h1]

/-! ### the data of this law -/
inductive Gd : Nat → D → Prop where
  | non {n} : Gd n .non
  | bl {n} (b : Bool) : Gd n (.bl b)
  | int {n} (i : Int) : Gd n (.int i)
  | str {n} (s : Str) : GoodS s → Gd n (.str s)
  | tup {n} (ds : List D) : (∀ d ∈ ds, Gd n d) → ds.length ≤ 1000 → Gd (n + 1) (.tup ds)
  | lst {n} (ds : List D) : (∀ d ∈ ds, Gd n d) → ds.length ≤ 1000 → Gd (n + 1) (.lst ds)
theorem Gd.of : ∀ {n : Nat} {d : D}, okD n d = true → Gd n d
  | _, .non, _ => .non
  | _, .bl b, _ => .bl b
  | _, .int i, _ => .int i
  | n, .str s, h => by
    have h' : (decide (s.length ≤ 1000) && s.cps.toList.all (fun c => decide (c < 128))) = true := by cases n <;> exact h
    obtain ⟨h1, h2⟩ := Bool.and_eq_true_iff.mp h'
    exact .str s ⟨of_decide_eq_true h1, fun c hc => of_decide_eq_true (List.all_eq_true.mp h2 c hc)⟩
  | n + 1, .tup ds, h => by
    simp only [okD, Bool.and_eq_true, decide_eq_true_eq, List.all_eq_true] at h
    exact .tup ds (fun d hd => Gd.of (h.2 d hd)) h.1
  | n + 1, .lst ds, h => by
    simp only [okD, Bool.and_eq_true, decide_eq_true_eq, List.all_eq_true] at h
    exact .lst ds (fun d hd => Gd.of (h.2 d hd)) h.1
  | 0, .tup ds, h => by simp [okD] at h
  | 0, .lst ds, h => by simp [okD] at h
  | n, .ty _, h => by cases n <;> simp [okD] at h
  | n, .glo _, h => by cases n <;> simp [okD] at h
  | n, .scr _, h => by cases n <;> simp [okD] at h
  | n, .dK _, h => by cases n <;> simp [okD] at h
  | n, .dT _, h => by cases n <;> simp [okD] at h
  | n, .obj _ _, h => by cases n <;> simp [okD] at h
  | n, .own _, h => by cases n <;> simp [okD] at h
  | n, .xcp _ _ _, h => by cases n <;> simp [okD] at h
  | n, .exo _ _, h => by cases n <;> simp [okD] at h
theorem Gd.ok {n : Nat} {d : D} (h : Gd n d) : okD n d = true := by
  induction h with
  | non => rename_i n; cases n <;> rfl
  | bl b => rename_i n; cases n <;> rfl
  | int i => rename_i n; cases n <;> rfl
  | str s h =>
    rename_i n
    have h' : (decide (s.length ≤ 1000) && s.cps.toList.all (fun c => decide (c < 128))) = true := by
      rw [Bool.and_eq_true]
      exact ⟨decide_eq_true h.1, List.all_eq_true.mpr fun c hc => decide_eq_true (h.2 c hc)⟩
    cases n <;> exact h'
  | tup ds _ hl ih => simp only [okD, Bool.and_eq_true, decide_eq_true_eq, List.all_eq_true]; exact ⟨hl, ih⟩
  | lst ds _ hl ih => simp only [okD, Bool.and_eq_true, decide_eq_true_eq, List.all_eq_true]; exact ⟨hl, ih⟩
theorem Gd.mono {n m : Nat} {d : D} (h : Gd n d) (k : n ≤ m) : Gd m d := Gd.of (okD_mono h.ok k)
def wD : D → Bool
  | .str s => wS s
  | _ => false
def vD : D → Bool
  | .str s => vS s
  | _ => false
def nD : D → Bool
  | .int i => decide (1 ≤ i) && decide (i ≤ 1000000000000000)
  | _ => false
def cD : D → Bool
  | .int i => decide (1 ≤ i) && decide (i ≤ 20)
  | _ => false
theorem is_word_eq {n : Nat} {d : D} (S : Sto) (h : Gd n d) : F_is_word [d] S = .ok (.bl (wD d)) S := by
  cases h with
  | str s hs => exact is_word_str s S (Nat.le_trans hs.1 (by decide))
  | _ => simp [F_is_word, e_fnD, B_is_word, oIsi, tyName, tyList, subT, wD]
theorem is_value_eq {n : Nat} {d : D} (S : Sto) (h : Gd n d) : F_is_value [d] S = .ok (.bl (vD d)) S := by
  cases h with
  | str s hs => exact is_value_str s S (Nat.le_trans hs.1 (by decide))
  | _ => simp [F_is_value, e_fnD, B_is_value, oIsi, tyName, tyList, subT, vD]
theorem is_number_eq {n : Nat} {d : D} (S : Sto) (h : Gd n d) : F_is_number [d] S = .ok (.bl (nD d)) S := by
  cases h with
  | int i =>
    simp [F_is_number, e_fnD, B_is_number, oIsi, tyName, tyList, subT, nD, oLe]
    by_cases h1 : 1 ≤ i <;> simp [h1]
  | _ => simp [F_is_number, e_fnD, B_is_number, oIsi, tyName, tyList, subT, nD]
def pD : D → Bool
  | .int i => (decide (1 ≤ i) && decide (i ≤ 1000000000000000)) || (i == 0)
  | _ => false
theorem is_place_eq {n : Nat} {d : D} (S : Sto) (h : Gd n d) : F_is_place_in_row [d] S = .ok (.bl (pD d)) S := by
  have hn := is_number_eq S h
  cases h with
  | int i =>
    simp [F_is_place_in_row, e_fnD, B_is_place_in_row, oIsi, tyName, tyList, subT, pD, hn, nD]
    by_cases h1 : 1 ≤ i <;> by_cases h2 : i ≤ 1000000000000000 <;> simp [h1, h2]
  | _ => simp [F_is_place_in_row, e_fnD, B_is_place_in_row, oIsi, tyName, tyList, subT, pD, hn, nD]
theorem oEq_tot {n m : Nat} {d e : D} (hd : Gd n d) (he : Gd m e) (hn : n ≤ 64) (hm : m ≤ 64) : ∃ b, ∀ S, oEq d e S = .ok (.bl b) S := by
  obtain ⟨p, e1, s1⟩ := okD_shaped hd.ok hn
  obtain ⟨q, e2, s2⟩ := okD_shaped he.ok hm
  exact ⟨PyData.eqv p q, fun S => by unfold oEq eqD; simp only [e1, e2, s1, s2, and_self, if_true]⟩
theorem strs_of_words : ∀ {n : Nat} {ds : List D}, (∀ d ∈ ds, Gd n d) → ds.all wD = true → ∃ xs, ds = xs.map D.str ∧ strsOf ds = some xs ∧ ∀ x ∈ xs, GoodS x
  | _, [], _, _ => ⟨[], rfl, rfl, fun _ h => by cases h⟩
  | n, d :: ds, h, hw => by
    rw [List.all_cons, Bool.and_eq_true] at hw
    obtain ⟨xs, e1, e2, e3⟩ := strs_of_words (fun x hx => h x (List.mem_cons_of_mem _ hx)) hw.2
    have hd := h d List.mem_cons_self
    have hw1 := hw.1
    cases hd with
    | str s hs => exact ⟨s :: xs, by rw [e1]; rfl, by simp [strsOf, e2], fun x hx => by
        rcases List.mem_cons.mp hx with z | z
        · rw [z]; exact hs
        · exact e3 x z⟩
    | _ => simp [wD] at hw1
theorem gd_strs {xs : List Str} (h : ∀ x ∈ xs, GoodS x) (hl : xs.length ≤ 1000) : Gd 1 (.lst (xs.map D.str)) := .lst _ (fun d hd => by
  obtain ⟨x, hx, rfl⟩ := List.mem_map.mp hd
  exact .str x (h x hx)) (by simpa using hl)
theorem are_keys_tot {n : Nat} {d : D} (h : Gd n d) : ∃ b, ∀ S, F_are_keys [d] S = .ok (.bl b) S := by
  cases h with
  | non => exact ⟨true, fun S => by simp [F_are_keys, e_fnD, B_are_keys, DE.isNon]⟩
  | bl b => exact ⟨false, fun S => by simp [F_are_keys, e_fnD, B_are_keys, DE.isNon, oIsi, tyName, tyList, subT]⟩
  | int i => exact ⟨false, fun S => by simp [F_are_keys, e_fnD, B_are_keys, DE.isNon, oIsi, tyName, tyList, subT]⟩
  | str s hs => exact ⟨false, fun S => by simp [F_are_keys, e_fnD, B_are_keys, DE.isNon, oIsi, tyName, tyList, subT]⟩
  | lst ds hg hl => exact ⟨false, fun S => by simp [F_are_keys, e_fnD, B_are_keys, DE.isNon, oIsi, tyName, tyList, subT]⟩
  | tup ds hg hl =>
    have hc : ds.length ≤ cap := Nat.le_trans hl (by decide)
    have lc : ∀ S, loopC [1] (gN 1) mYes (dCall 1 F_is_word [] (aCons (dVar 1) aNil)) [some (D.tup ds), none] ds S = .ok (ds.map fun d => .bl (wD d)) S := fun S => by
      refine loopC_map (r := fun d => [some (D.tup ds), some d]) fun d hd => ⟨by simp [wipeD], by simp, ?_⟩
      simp [is_word_eq S (hg d hd)]
    by_cases hw : ds.all wD = true
    · obtain ⟨xs, e1, e2, e3⟩ := strs_of_words hg hw
      have xl : xs.length ≤ 1000 := by rw [e1] at hl; simpa using hl
      have g1 : Gd 1 (.lst ds) := by rw [e1]; exact gd_strs e3 xl
      have g2 : Gd 1 (.lst ((sortD xs).map D.str)) := gd_strs (fun x hx => e3 x (mem_sortD.mp hx)) (Nat.le_trans sortD_len xl)
      obtain ⟨b, hb⟩ := oEq_tot g1 g2 (by decide) (by decide)
      refine ⟨b, fun S => ?_⟩
      have x4 : xs.length < 4000 := by omega
      simp [F_are_keys, e_fnD, B_are_keys, DE.isNon, oIsi, tyName, tyList, subT, itemsOf, hc, lc, oAll, blsOf_map]
      rw [List.all_eq_true] at hw
      have hne : ¬ ∃ x, x ∈ ds ∧ wD x = false := fun ⟨x, hx, e⟩ => by rw [hw x hx] at e; cases e
      simp [hne, oList, seqOf, e2, x4, hb]
    · refine ⟨false, fun S => ?_⟩
      simp [F_are_keys, e_fnD, B_are_keys, DE.isNon, oIsi, tyName, tyList, subT, itemsOf, hc, lc, oAll, blsOf_map]
      have hne : ∃ x, x ∈ ds ∧ wD x = false := by
        simpa using hw
      intro ha
      obtain ⟨x, hx, e⟩ := hne
      rw [ha x hx] at e; cases e
theorem ix_tup {ds : List D} {d : D} (i : Nat) (h : ds[i]? = some d) (S : Sto) : oIx (.tup ds) (.int i) S = .ok d S := by
  have hl : (i : Int) < ds.length := by have := (List.getElem?_eq_some_iff.mp h).1; omega
  simp [oIx, seqOf, atI, ixN, hl, h]
theorem gs_ok {s : Str} (h : GoodS s) : PyData.strOk s = true := okS_strOk (List.all_eq_true.mpr fun c hc => decide_eq_true (h.2 c hc))
theorem p_str {s : Str} (h : GoodS s) (x : Str) (hx : PyData.strOk x = true := by decide +kernel) : pStr x (.str s) = some (if s == x then some [] else none) := pStr_str hx (gs_ok h)
theorem ev_in {s : Str} {ds : List D} {vs : List V} (h : toVs ds = some vs) : ∃ b, ∀ S, oIn (.str s) (.tup ds) S = .ok (.bl b) S := ⟨inV (.str s) vs, fun S => by simp [oIn, inD, toV, h]⟩
theorem wD_str {d : D} (h : wD d = true) : ∃ s, d = .str s := by
  cases d <;> simp [wD] at h
  exact ⟨_, rfl⟩
theorem is_event_tot {n : Nat} {d : D} (h : Gd n d) : ∃ b, ∀ S, F_is_event [d] S = .ok (.bl b) S := by
  cases h with
  | non => exact ⟨false, fun S => by simp [F_is_event, e_fnD, B_is_event, oIsi, tyName, tyList, subT]⟩
  | bl b => exact ⟨false, fun S => by simp [F_is_event, e_fnD, B_is_event, oIsi, tyName, tyList, subT]⟩
  | int i => exact ⟨false, fun S => by simp [F_is_event, e_fnD, B_is_event, oIsi, tyName, tyList, subT]⟩
  | str s hs => exact ⟨false, fun S => by simp [F_is_event, e_fnD, B_is_event, oIsi, tyName, tyList, subT]⟩
  | lst ds hg hl => exact ⟨false, fun S => by simp [F_is_event, e_fnD, B_is_event, oIsi, tyName, tyList, subT]⟩
  | tup ds hg hl =>
    rcases ds with _ | ⟨a, _ | ⟨b, r⟩⟩
    · exact ⟨false, fun S => by simp [F_is_event, e_fnD, B_is_event, oIsi, tyName, tyList, subT, oLen, seqOf]⟩
    · exact ⟨false, fun S => by simp [F_is_event, e_fnD, B_is_event, oIsi, tyName, tyList, subT, oLen, seqOf]⟩
    · have ga := hg a (by simp)
      have gb := hg b (by simp)
      have l2 : ¬ ((r.length : Int) + 1 + 1 < 2) := by omega
      have i0 : ∀ S, oIx (.tup (a :: b :: r)) (.int 0) S = .ok a S := fun S => ix_tup 0 rfl S
      have i1 : ∀ S, oIx (.tup (a :: b :: r)) (.int 1) S = .ok b S := fun S => ix_tup 1 rfl S
      have base := fun S => is_word_eq S ga
      have base2 := fun S => is_word_eq S gb
      by_cases hwa : wD a = true
      · by_cases hwb : wD b = true
        · obtain ⟨s, rfl⟩ := wD_str hwa
          have gs : GoodS s := by cases ga; assumption
          have q1 := p_str gs "write"
          have q2 := p_str gs "pass"
          have q3 := p_str gs "send"
          have q4 := p_str gs "take"
          rcases r with _ | ⟨c, _ | ⟨d, _ | ⟨e, r⟩⟩⟩
          · obtain ⟨v, hv⟩ := ev_in (s := s) (ds := [He.Dv.str "save", .str "crash", .str "leave", .str "come"].map dvD) (vs := [.str "save", .str "crash", .str "leave", .str "come"]) rfl
            refine ⟨v, fun S => ?_⟩
            simp [F_is_event, e_fnD, B_is_event, oIsi, tyName, tyList, subT, oLen, seqOf, i0, i1, base, base2, hwa, hwb, bindB] at hv ⊢
            simp [hv]
          · have gc := hg c (by simp)
            obtain ⟨v, hv⟩ := ev_in (s := s) (ds := [He.Dv.str "delete", .str "keep", .str "restore", .str "discard", .str "forget", .str "mute", .str "shut", .str "open", .str "drop"].map dvD) (vs := [.str "delete", .str "keep", .str "restore", .str "discard", .str "forget", .str "mute", .str "shut", .str "open", .str "drop"]) rfl
            refine ⟨if s == "pass" then nD c else (v && wD c), fun S => ?_⟩
            simp only [List.map] at hv
            simp [F_is_event, e_fnD, B_is_event, oIsi, tyName, tyList, subT, oLen, seqOf, i0, i1, base, base2, hwa, hwb, bindB, q1, q2, q3, q4, is_number_eq _ gc, is_word_eq _ gc, hv]
            by_cases h1 : s = Str.ofString "pass"
            · simp [h1]
            · simp [h1]
              cases v <;> cases wD c <;> simp
          · have gc := hg c (by simp)
            have gd := hg d (by simp)
            obtain ⟨v, hv⟩ := are_keys_tot gd
            refine ⟨if s == "write" then (wD c && vD d) else if s == "send" then (wD c && v) else if s == "take" then (wD c && pD d) else false, fun S => ?_⟩
            simp [F_is_event, e_fnD, B_is_event, oIsi, tyName, tyList, subT, oLen, seqOf, i0, i1, base, base2, hwa, hwb, bindB, q1, q2, q3, q4, is_value_eq _ gd, is_word_eq _ gc, hv, is_place_eq _ gd]
            have n1 : (Str.ofString "send" = Str.ofString "write") = False := eq_false (by decide +kernel)
            have n2 : (Str.ofString "take" = Str.ofString "write") = False := eq_false (by decide +kernel)
            have n3 : (Str.ofString "take" = Str.ofString "send") = False := eq_false (by decide +kernel)
            by_cases h1 : s = Str.ofString "write"
            · simp [h1]
              cases wD c <;> simp
            · by_cases h2 : s = Str.ofString "send"
              · simp [h2, n1]
                cases wD c <;> simp
              · by_cases h3 : s = Str.ofString "take"
                · simp [h3, n2, n3]
                  cases wD c <;> simp
                · simp [h1, h2, h3]
          · refine ⟨false, fun S => ?_⟩
            clear l2
            have l2 : ¬ ((r.length : Int) + 1 + 1 + 1 + 1 + 1 < 2) := by omega
            have n4 : ¬ (r.length + 1 + 1 + 1 + 1 + 1 = 4) := by omega
            have n3 : ¬ (r.length + 1 + 1 + 1 + 1 + 1 = 3) := by omega
            have n2 : ¬ (r.length + 1 + 1 + 1 + 1 + 1 = 2) := by omega
            simp [F_is_event, e_fnD, B_is_event, oIsi, tyName, tyList, subT, oLen, seqOf, i0, i1, base, base2, hwa, hwb, bindB, n4, n3, n2, l2]
        · refine ⟨false, fun S => ?_⟩
          simp [F_is_event, e_fnD, B_is_event, oIsi, tyName, tyList, subT, oLen, seqOf, l2, i0, i1, base, base2, hwa, hwb]
      · refine ⟨false, fun S => ?_⟩
        simp [F_is_event, e_fnD, B_is_event, oIsi, tyName, tyList, subT, oLen, seqOf, l2, i0, i1, base, base2, hwa]
theorem eqvAll_strs : ∀ xs ys : List Str, PyData.eqvAll (xs.map PyData.str) (ys.map PyData.str) = decide (xs = ys)
  | [], [] => by simp [PyData.eqvAll]
  | [], y :: ys => by simp [PyData.eqvAll]
  | x :: xs, [] => by simp [PyData.eqvAll]
  | x :: xs, y :: ys => by
    simp only [List.map_cons, PyData.eqvAll, PyData.eqv, eqvAll_strs xs ys]
    rw [Bool.eq_iff_iff]
    simp
theorem toPys_strs : ∀ xs : List Str, toPys (xs.map D.str) = some (xs.map PyData.str)
  | [] => rfl
  | x :: xs => by simp only [List.map_cons, toPys, toPy, toPys_strs xs]
theorem oEq_strs {xs ys : List Str} (hx : ∀ x ∈ xs, GoodS x) (hy : ∀ x ∈ ys, GoodS x) (lx : xs.length ≤ 1000) (ly : ys.length ≤ 1000) (S : Sto) : oEq (.lst (xs.map D.str)) (.lst (ys.map D.str)) S = .ok (.bl (decide (xs = ys))) S := by
  obtain ⟨p, e1, s1⟩ := okD_shaped (gd_strs hx lx).ok (show 1 ≤ 64 by decide)
  obtain ⟨q, e2, s2⟩ := okD_shaped (gd_strs hy ly).ok (show 1 ≤ 64 by decide)
  have f1 : p = .list (xs.map .str) := by simpa [toPy, toPys_strs] using e1.symm
  have f2 : q = .list (ys.map .str) := by simpa [toPy, toPys_strs] using e2.symm
  unfold oEq eqD
  simp only [e1, e2, s1, s2, and_self, if_true]
  rw [f1, f2]
  simp only [PyData.eqv, eqvAll_strs]
theorem toPys_len : ∀ {ds : List D} {ps : List PyData}, toPys ds = some ps → ps.isEmpty = ds.isEmpty
  | [], ps, h => by simp [toPys] at h; subst h; rfl
  | d :: ds, ps, h => by
    simp only [toPys] at h
    split at h
    · cases h; rfl
    · cases h
theorem oEq_none {n : Nat} {ds : List D} (h : Gd n (.lst ds)) (hn : n ≤ 64) (S : Sto) : oEq (.lst ds) (.lst []) S = .ok (.bl ds.isEmpty) S := by
  obtain ⟨p, e1, s1⟩ := okD_shaped h.ok hn
  have s2 : SeqAt.shaped (.list []) = true := by decide
  have e2 : toPy (.lst []) = some (.list []) := rfl
  unfold oEq eqD
  simp only [e1, e2, s1, s2, and_self, if_true]
  simp only [toPy] at e1
  cases q : toPys ds with
  | none => simp [q] at e1
  | some ps =>
    have := toPys_len q
    simp [q] at e1
    subst e1
    rw [← this]
    cases ps <;> simp [PyData.eqv, PyData.eqvAll]
theorem oNe_none {n : Nat} {ds : List D} (h : Gd n (.lst ds)) (hn : n ≤ 64) (S : Sto) : oNe (.lst ds) (.lst []) S = .ok (.bl (!ds.isEmpty)) S := by
  have := oEq_none h hn S
  unfold oEq at this
  unfold oNe
  cases q : eqD (.lst ds) (.lst []) with
  | none => rw [q] at this; cases this
  | some b =>
    rw [q] at this
    simp at this
    rw [this]
def kD : D → Bool
  | .non => true
  | .tup ds => ds.all wD && (match strsOf ds with | some xs => decide (Asc xs) | none => false)
  | _ => false
theorem are_keys_eq {n : Nat} {d : D} (S : Sto) (h : Gd n d) : F_are_keys [d] S = .ok (.bl (kD d)) S := by
  cases h with
  | non => simp [F_are_keys, e_fnD, B_are_keys, DE.isNon, kD]
  | bl b => simp [F_are_keys, e_fnD, B_are_keys, DE.isNon, oIsi, tyName, tyList, subT, kD]
  | int i => simp [F_are_keys, e_fnD, B_are_keys, DE.isNon, oIsi, tyName, tyList, subT, kD]
  | str s hs => simp [F_are_keys, e_fnD, B_are_keys, DE.isNon, oIsi, tyName, tyList, subT, kD]
  | lst ds hg hl => simp [F_are_keys, e_fnD, B_are_keys, DE.isNon, oIsi, tyName, tyList, subT, kD]
  | tup ds hg hl =>
    have hc : ds.length ≤ cap := Nat.le_trans hl (by decide)
    have lc : ∀ S, loopC [1] (gN 1) mYes (dCall 1 F_is_word [] (aCons (dVar 1) aNil)) [some (D.tup ds), none] ds S = .ok (ds.map fun d => .bl (wD d)) S := fun S => by
      refine loopC_map (r := fun d => [some (D.tup ds), some d]) fun d hd => ⟨by simp [wipeD], by simp, ?_⟩
      simp [is_word_eq S (hg d hd)]
    by_cases hw : ds.all wD = true
    · obtain ⟨xs, e1, e2, e3⟩ := strs_of_words hg hw
      have xl : xs.length ≤ 1000 := by rw [e1] at hl; simpa using hl
      have hb := oEq_strs e3 (fun x hx => e3 x (mem_sortD.mp hx)) xl (Nat.le_trans sortD_len xl) S
      have x4 : xs.length < 4000 := by omega
      have hk : kD (.tup ds) = decide (xs = sortD xs) := by
        simp only [kD, hw, e2, Bool.true_and]
        exact decide_eq_decide.mpr eq_sortD.symm
      rw [hk]
      simp [F_are_keys, e_fnD, B_are_keys, DE.isNon, oIsi, tyName, tyList, subT, itemsOf, hc, lc, oAll, blsOf_map]
      rw [List.all_eq_true] at hw
      have hne : ¬ ∃ x, x ∈ ds ∧ wD x = false := fun ⟨x, hx, e⟩ => by rw [hw x hx] at e; cases e
      rw [← e1] at hb
      simp [hne, oList, seqOf, e2, x4, hb]
    · have hk : kD (.tup ds) = false := by simp only [kD]; rw [Bool.not_eq_true] at hw; rw [hw]; rfl
      rw [hk]
      simp [F_are_keys, e_fnD, B_are_keys, DE.isNon, oIsi, tyName, tyList, subT, itemsOf, hc, lc, oAll, blsOf_map]
      have hne : ∃ x, x ∈ ds ∧ wD x = false := by
        simpa using hw
      intro ha
      obtain ⟨x, hx, e⟩ := hne
      rw [ha x hx] at e; cases e
abbrev ALN : List V := [.str "save", .str "crash", .str "leave", .str "come"]
abbrev WWD : List V := [.str "delete", .str "keep", .str "restore", .str "discard", .str "forget", .str "mute", .str "shut", .str "open", .str "drop"]
def restB (s : Str) : List D → Bool
  | [] => inV (.str s) ALN
  | [c] => if s == "pass" then nD c else (inV (.str s) WWD && wD c)
  | [c, d] => if s == "write" then (wD c && vD d) else if s == "send" then (wD c && kD d) else if s == "take" then (wD c && pD d) else false
  | _ => false
def evB : D → Bool
  | .tup (.str s :: b :: r) => wS s && (wD b && restB s r)
  | _ => false
theorem ev_inl {s : Str} {ds : List D} {vs : List V} (h : toVs ds = some vs) (S : Sto) : oIn (.str s) (.lst ds) S = .ok (.bl (inV (.str s) vs)) S := by simp [oIn, inD, toV, h]
theorem ev_int {s : Str} {ds : List D} {vs : List V} (h : toVs ds = some vs) (S : Sto) : oIn (.str s) (.tup ds) S = .ok (.bl (inV (.str s) vs)) S := by simp [oIn, inD, toV, h]
theorem evB_a {a b : D} {r : List D} (h : wD a = false) : evB (.tup (a :: b :: r)) = false := by
  cases a <;> simp [evB]
  simp [wD] at h
  simp [h]
theorem is_event_eq {n : Nat} {d : D} (h : Gd n d) (S : Sto) : F_is_event [d] S = .ok (.bl (evB d)) S := by
  cases h with
  | non => simp [F_is_event, e_fnD, B_is_event, oIsi, tyName, tyList, subT, evB]
  | bl b => simp [F_is_event, e_fnD, B_is_event, oIsi, tyName, tyList, subT, evB]
  | int i => simp [F_is_event, e_fnD, B_is_event, oIsi, tyName, tyList, subT, evB]
  | str s hs => simp [F_is_event, e_fnD, B_is_event, oIsi, tyName, tyList, subT, evB]
  | lst ds hg hl => simp [F_is_event, e_fnD, B_is_event, oIsi, tyName, tyList, subT, evB]
  | tup ds hg hl =>
    rcases ds with _ | ⟨a, _ | ⟨b, r⟩⟩
    · simp [F_is_event, e_fnD, B_is_event, oIsi, tyName, tyList, subT, oLen, seqOf, evB]
    · simp [F_is_event, e_fnD, B_is_event, oIsi, tyName, tyList, subT, oLen, seqOf, evB]
    · have ga := hg a (by simp)
      have gb := hg b (by simp)
      have l2 : ¬ ((r.length : Int) + 1 + 1 < 2) := by omega
      have i0 : ∀ S, oIx (.tup (a :: b :: r)) (.int 0) S = .ok a S := fun S => ix_tup 0 rfl S
      have i1 : ∀ S, oIx (.tup (a :: b :: r)) (.int 1) S = .ok b S := fun S => ix_tup 1 rfl S
      have base := fun S => is_word_eq S ga
      have base2 := fun S => is_word_eq S gb
      by_cases hwa : wD a = true
      · by_cases hwb : wD b = true
        · obtain ⟨s, rfl⟩ := wD_str hwa
          have gs : GoodS s := by cases ga; assumption
          have hs : wS s = true := hwa
          have he : evB (.tup (.str s :: b :: r)) = restB s r := by simp [evB, hs, hwb]
          rw [he]
          have q1 := p_str gs "write"
          have q2 := p_str gs "pass"
          have q3 := p_str gs "send"
          have q4 := p_str gs "take"
          rcases r with _ | ⟨c, _ | ⟨d, _ | ⟨e, r⟩⟩⟩
          · have hv := fun S => ev_int (s := s) (ds := [He.Dv.str "save", .str "crash", .str "leave", .str "come"].map dvD) (vs := ALN) rfl S
            simp [F_is_event, e_fnD, B_is_event, oIsi, tyName, tyList, subT, oLen, seqOf, i0, i1, base, base2, hwa, hwb, bindB] at hv ⊢
            simp [hv, restB]
          · have gc := hg c (by simp)
            have hv := fun S => ev_int (s := s) (ds := [He.Dv.str "delete", .str "keep", .str "restore", .str "discard", .str "forget", .str "mute", .str "shut", .str "open", .str "drop"].map dvD) (vs := WWD) rfl S
            simp only [List.map] at hv
            simp only [restB]
            generalize inV (.str s) WWD = v at hv ⊢
            simp [F_is_event, e_fnD, B_is_event, oIsi, tyName, tyList, subT, oLen, seqOf, i0, i1, base, base2, hwa, hwb, bindB, q1, q2, q3, q4, is_number_eq _ gc, is_word_eq _ gc, hv]
            by_cases h1 : s = Str.ofString "pass"
            · simp [h1]
            · simp [h1]
              cases v <;> cases wD c <;> simp
          · have gc := hg c (by simp)
            have gd := hg d (by simp)
            have hv := fun S => are_keys_eq S gd
            simp only [restB]
            simp [F_is_event, e_fnD, B_is_event, oIsi, tyName, tyList, subT, oLen, seqOf, i0, i1, base, base2, hwa, hwb, bindB, q1, q2, q3, q4, is_value_eq _ gd, is_word_eq _ gc, hv, is_place_eq _ gd]
            have n1 : (Str.ofString "send" = Str.ofString "write") = False := eq_false (by decide +kernel)
            have n2 : (Str.ofString "take" = Str.ofString "write") = False := eq_false (by decide +kernel)
            have n3 : (Str.ofString "take" = Str.ofString "send") = False := eq_false (by decide +kernel)
            by_cases h1 : s = Str.ofString "write"
            · simp [h1]
              cases wD c <;> simp
            · by_cases h2 : s = Str.ofString "send"
              · simp [h2, n1]
                cases wD c <;> simp
              · by_cases h3 : s = Str.ofString "take"
                · simp [h3, n2, n3]
                  cases wD c <;> simp
                · simp [h1, h2, h3]
          · clear l2
            have l2 : ¬ ((r.length : Int) + 1 + 1 + 1 + 1 + 1 < 2) := by omega
            have n4 : ¬ (r.length + 1 + 1 + 1 + 1 + 1 = 4) := by omega
            have n3 : ¬ (r.length + 1 + 1 + 1 + 1 + 1 = 3) := by omega
            have n2 : ¬ (r.length + 1 + 1 + 1 + 1 + 1 = 2) := by omega
            simp [F_is_event, e_fnD, B_is_event, oIsi, tyName, tyList, subT, oLen, seqOf, i0, i1, base, base2, hwa, hwb, bindB, n4, n3, n2, l2, restB]
        · have he : evB (.tup (a :: b :: r)) = false := by
            obtain ⟨s, rfl⟩ := wD_str hwa
            simp [evB, hwb]
          rw [he]
          simp [F_is_event, e_fnD, B_is_event, oIsi, tyName, tyList, subT, oLen, seqOf, l2, i0, i1, base, base2, hwa, hwb]
      · rw [evB_a (by simpa using hwa)]
        simp [F_is_event, e_fnD, B_is_event, oIsi, tyName, tyList, subT, oLen, seqOf, l2, i0, i1, base, base2, hwa]
end G

set_option maxHeartbeats 4000000
namespace G
open PySem L2 DE
/-! ### texts as lists of codes -/
def As (l : List Nat) : Prop := l.length ≤ 9500 ∧ ∀ c ∈ l, c < 128
theorem As.ok {l : List Nat} (h : As l) : PyData.strOk (mkS l) = true := Asci.strOk (x := mkS l) (by unfold Asci; rw [mkS_list]; exact h.2)
theorem As.cap {l : List Nat} (h : As l) : (mkS l).length ≤ cap := by rw [mkS_len]; exact Nat.le_trans h.1 (by decide)
theorem As.sub {l m : List Nat} (h : As l) (hl : m.length ≤ l.length) (hm : ∀ c ∈ m, c ∈ l) : As m := ⟨Nat.le_trans hl h.1, fun c hc => h.2 c (hm c hc)⟩
theorem As.drop {l : List Nat} (h : As l) (n : Nat) : As (l.drop n) := h.sub (by simp) fun c hc => List.mem_of_mem_drop hc
theorem As.take {l : List Nat} (h : As l) (n : Nat) : As (l.take n) := h.sub (by simp; omega) fun c hc => List.mem_of_mem_take hc
theorem q34 : Str.ofString "\"" = mkS [34] := by decide +kernel
theorem q92 : Str.ofString "\\" = mkS [92] := by decide +kernel
theorem q45 : Str.ofString "-" = mkS [45] := by decide +kernel
theorem q32 : Str.ofString " " = mkS [32] := by decide +kernel
theorem q46 : Str.ofString "." = mkS [46] := by decide +kernel
theorem q0 : Str.ofString "" = mkS [] := by decide +kernel
theorem q48 : Str.ofString "0" = mkS [48] := by decide +kernel
theorem eq_s {a b : List Nat} (ha : As a) (hb : As b) (S : Sto) : oEq (.str (mkS a)) (.str (mkS b)) S = .ok (.bl (decide (a = b))) S := by
  rw [oEq_str ha.ok hb.ok]
  congr 2
  rw [Bool.eq_iff_iff, beq_iff_eq, decide_eq_true_eq, mkS_inj]
theorem ne_s {a b : List Nat} (ha : As a) (hb : As b) (S : Sto) : oNe (.str (mkS a)) (.str (mkS b)) S = .ok (.bl (!decide (a = b))) S := by
  rw [oNe_str ha.ok hb.ok]
  congr 3
  rw [Bool.eq_iff_iff, beq_iff_eq, decide_eq_true_eq, mkS_inj]
theorem as1 (c : Nat) (h : c < 128) : As [c] := ⟨by simp, by simpa using h⟩
theorem as0 : As [] := ⟨by decide, by simp⟩
theorem len_s (l : List Nat) (S : Sto) : oLen [.str (mkS l)] S = (if l.length ≤ cap then .ok (.int l.length) S else .bad) := by simp [oLen]
theorem ix_s {l : List Nat} {i c : Nat} (h : l[i]? = some c) (hl : l.length ≤ cap) (S : Sto) : oIx (.str (mkS l)) (.int i) S = .ok (.str (mkS [c])) S := by
  have hi := (List.getElem?_eq_some_iff.mp h).1
  have e : atI (mkS l).cps.toList (i : Int) = some c := by
    rw [mkS_list]
    rw [List.getElem?_eq_getElem hi] at h
    simp [atI, ixN, hi]
    exact Option.some.inj h
  simp [oIx, hl, e]
theorem ix_m1 {l : List Nat} {c : Nat} (h : l.getLast? = some c) (hl : l.length ≤ cap) (S : Sto) : oIx (.str (mkS l)) (.int (-1)) S = .ok (.str (mkS [c])) S := by
  have hn : l ≠ [] := fun e => by rw [e] at h; cases h
  have hp : 0 < l.length := List.length_pos_iff.mpr hn
  have hg : l[l.length - 1]? = some c := by rw [← List.getLast?_eq_getElem?]; exact h
  have e : atI (mkS l).cps.toList (-1) = some c := by
    rw [mkS_list]
    have h1 : ¬ (0 ≤ (-1 : Int)) := by decide
    have h2 : 0 ≤ (-1 : Int) + (l.length : Int) := by omega
    have h3 : ((-1 : Int) + (l.length : Int)).toNat = l.length - 1 := by omega
    simp only [atI, ixN]
    have h4 : ¬ ((0 : Int) ≤ -1 ∧ (-1 : Int) < l.length) := fun z => h1 z.1
    have h5 : -(l.length : Int) ≤ -1 := by omega
    rw [if_neg h1, if_pos h5, h3]
    exact hg
  simp [oIx, hl, e]
theorem sl_s (l : List Nat) (i j : Nat) (hl : l.length ≤ cap) (S : Sto) : slD (.str (mkS l)) (some (i : Int)) (some (j : Int)) S = .ok (.str (mkS ((l.drop i).take (j - i)))) S := by
  simp only [slD, mkS_len, if_pos hl]
  congr 2
  unfold cutS
  rw [HT.sIx_nat, HT.sIx_nat, mkS_list, mkS_len]
  congr 1
  congr 1
  rcases Nat.le_total i l.length with h1 | h1
  · rw [Nat.min_eq_left h1]
    rcases Nat.le_total j l.length with h2 | h2
    · rw [Nat.min_eq_left h2]
    · rw [Nat.min_eq_right h2, List.take_of_length_le (by simp), List.take_of_length_le (by simp; omega)]
  · rw [Nat.min_eq_right h1, List.drop_eq_nil_of_le (Nat.le_refl _), List.drop_eq_nil_of_le h1]
    simp
theorem sl_to (l : List Nat) (j : Nat) (hl : l.length ≤ cap) (S : Sto) : slD (.str (mkS l)) none (some (j : Int)) S = .ok (.str (mkS (l.take j))) S := by
  simp only [slD, mkS_len, if_pos hl]
  congr 2
  unfold cutS
  rw [HT.sIx_none, HT.sIx_nat, mkS_list, mkS_len]
  congr 1
  congr 1
  rw [List.drop_zero, Nat.sub_zero]
  rcases Nat.le_total j l.length with h2 | h2
  · rw [Nat.min_eq_left h2]
  · rw [Nat.min_eq_right h2, List.take_of_length_le (Nat.le_refl _), List.take_of_length_le h2]
theorem sl_from (l : List Nat) (i : Nat) (hl : l.length ≤ cap) (S : Sto) : slD (.str (mkS l)) (some (i : Int)) none S = .ok (.str (mkS (l.drop i))) S := by
  simp only [slD, mkS_len, if_pos hl]
  congr 2
  unfold cutS
  rw [HT.sIx_none, HT.sIx_nat, mkS_list, mkS_len]
  congr 1
  congr 1
  rcases Nat.le_total i l.length with h1 | h1
  · rw [Nat.min_eq_left h1, List.take_of_length_le (by simp)]
  · rw [Nat.min_eq_right h1, List.drop_eq_nil_of_le (Nat.le_refl _), List.drop_eq_nil_of_le h1]
    simp
theorem sl_in (l : List Nat) (h2 : 2 ≤ l.length) (hl : l.length ≤ cap) (S : Sto) : slD (.str (mkS l)) (some 1) (some (-1)) S = .ok (.str (mkS ((l.drop 1).dropLast))) S := by
  simp only [slD, mkS_len, if_pos hl]
  congr 2
  unfold cutS
  have e1 : HT.sIx (mkS l).length 0 (some 1) = 1 := by
    have := HT.sIx_nat (mkS l).length 0 1
    rw [mkS_len] at this ⊢
    rw [show ((1 : Nat) : Int) = 1 from rfl] at this
    rw [this]; omega
  have e2 : HT.sIx (mkS l).length (mkS l).length (some (-1)) = l.length - 1 := by
    rw [mkS_len]
    show (if (-1 : Int) < 0 then ((-1 : Int) + (l.length : Int)).toNat else min (-1 : Int).toNat l.length) = _
    rw [if_pos (by decide)]; omega
  rw [e1, e2, mkS_list, List.dropLast_eq_take]
  congr 1
  congr 1
  rw [List.length_drop]
theorem add_s (a b : List Nat) (h : a.length + b.length ≤ cap) (S : Sto) : oAdd (.str (mkS a)) (.str (mkS b)) S = .ok (.str (mkS (a ++ b))) S := by
  simp only [oAdd, mkS_len, if_pos h]
  congr 2
  apply str_ext
  show (((mkS a).cps ++ (mkS b).cps).toList) = _
  simp
theorem eqV_str (a b : Str) : eqV (.str a) (.str b) = (a == b) := by
  first
    | rfl
    | simp [eqV]
theorem eqV_s (a b : List Nat) : eqV (.str (mkS a)) (.str (mkS b)) = decide (a = b) := by
  rw [eqV_str, Bool.eq_iff_iff, beq_iff_eq, decide_eq_true_eq]
  exact mkS_inj
theorem inV_2 (a b c : List Nat) : inV (.str (mkS a)) [.str (mkS b), .str (mkS c)] = (decide (b = a) || decide (c = a)) := by
  simp only [inV, List.any_cons, List.any_nil, eqV_s, Bool.or_false]
theorem nin_t (a b c : List Nat) (S : Sto) : oNotIn (.str (mkS a)) (.tup [.str (mkS b), .str (mkS c)]) S = .ok (.bl (!(decide (b = a) || decide (c = a)))) S := by
  simp only [oNotIn, inD, toV, toVs, inV_2]
theorem nin_l (a b c : List Nat) (S : Sto) : oNotIn (.str (mkS a)) (.lst [.str (mkS b), .str (mkS c)]) S = .ok (.bl (!(decide (b = a) || decide (c = a)))) S := by
  simp only [oNotIn, inD, toV, toVs, inV_2]
theorem in_l (a b c : List Nat) (S : Sto) : oIn (.str (mkS a)) (.lst [.str (mkS b), .str (mkS c)]) S = .ok (.bl (decide (b = a) || decide (c = a))) S := by
  simp only [oIn, inD, toV, toVs, inV_2]
/-- what stands between quotation marks -/
def dec : List Nat → Option (List Nat)
  | [] => some []
  | [a] => if a = 34 ∨ a = 92 then none else some [a]
  | a :: c :: r => if a = 34 then none else if a = 92 then (if c = 92 ∨ c = 34 then (dec r).map (c :: ·) else none) else (dec (c :: r)).map (a :: ·)
theorem e_whileN (t : MT) (b : MS) (n : Nat) (ρ : DE.Env) (S : Sto) : whileN t b (n + 1) ρ S = (t ρ S).stm ρ fun c S1 => if c = true then (match b ρ S1 with
    | .nx ρ2 S2 => whileN t b n ρ2 S2
    | .ct ρ2 S2 => whileN t b n ρ2 S2
    | .bk ρ2 S2 => .nx ρ2 S2
    | r => r) else .nx ρ S1 := id rfl
@[simp] theorem e_sAugA (i : Nat) (g : ME) (ρ : DE.Env) (S : Sto) : sAugA i g ρ S = (match ρ[i]? with
  | some (some (.int a)) => (g ρ S).stm ρ fun e S1 => match e with
    | .int b => .nx (ρ.set i (some (.int (a + b)))) S1
    | _ => .bad
  | some (some (.str a)) => (g ρ S).stm ρ fun e S1 => match e with
    | .str b => if a.length + b.length ≤ cap then .nx (ρ.set i (some (.str (a ++ b)))) S1 else .bad
    | _ => .bad
  | _ => .bad) := id rfl
@[simp] theorem mkS_app (a b : List Nat) : mkS a ++ mkS b = mkS (a ++ b) := by
  apply str_ext
  show (((mkS a).cps ++ (mkS b).cps).toList) = _
  simp
@[simp] theorem e_sPar3 (i j l : Nat) (fa : MA) (ρ : DE.Env) (S : Sto) : sPar3 i j l fa ρ S = (fa ρ S).stm ρ fun ds S1 => match ds with
  | [d, e, f] => .nx (((ρ.set i (some d)).set j (some e)).set l (some f)) S1
  | _ => .bad := id rfl
@[simp] theorem e_dTM (op : Str → List D → Sto → RE D) (f : ME) (fa : MA) (ρ : DE.Env) (S : Sto) : dTM op f fa ρ S = (f ρ S).bind fun d S1 => onStr d fun x => (fa ρ S1).bind fun ds S2 => op x ds S2 := id rfl
theorem e_u1 (ρ : DE.Env) (S : Sto) : L_unquoted_1_t ρ S = (dTest (dBin oLt (dVar 2) (dBlt oLen (aCons (dVar 3) aNil)))) ρ S := rfl
def uNext (t : Option D) (f inn : List Nat) (i : Nat) (S : Sto) (a : Nat) (l : List Nat) : RS :=
  if a = 34 then .rt .non S else if a = 92 then (match l with
    | c :: _ => if c = 92 ∨ c = 34 then .nx [t, some (.str (mkS (f ++ [c]))), some (.int (i + 2 : Nat)), some (.str (mkS inn))] S else .rt .non S
    | [] => .rt .non S) else .nx [t, some (.str (mkS (f ++ [a]))), some (.int (i + 1 : Nat)), some (.str (mkS inn))] S
theorem in2 (c : Nat) : (decide ([92] = [c]) || decide ([34] = [c])) = decide (c = 92 ∨ c = 34) := by
  by_cases h1 : c = 92
  · subst h1; simp
  · by_cases h2 : c = 34
    · subst h2; simp
    · simp [h1, h2, Ne.symm h1, Ne.symm h2]
/-- one turn of unquoted -/
theorem u_turn {t : Option D} {f inn : List Nat} {i : Nat} (S : Sto) (ha : As inn) (hf : f.length + 1 ≤ cap) {a : Nat} {l : List Nat} (hd : inn.drop i = a :: l) :
    L_unquoted_1 [t, some (.str (mkS f)), some (.int i), some (.str (mkS inn))] S = uNext t f inn i S a l := by
  have hn : inn.length ≤ cap := Nat.le_trans ha.1 (by decide)
  have hg : inn[i]? = some a := by
    have := congrArg (fun l => l[0]?) hd
    simpa using this
  have ha1 : As [a] := ha.sub (by have := (List.getElem?_eq_some_iff.mp hg).1; simp; omega) fun c hc => by
    rw [List.mem_singleton.mp hc]
    exact List.mem_of_getElem? hg
  have d1 : inn.drop (i + 1) = l := by rw [← List.drop_drop, hd]; rfl
  have i1 := ix_s hg hn S
  have s1 : slD (.str (mkS inn)) (some (i : Int)) (some ((i : Int) + 1)) S = .ok (.str (mkS [a])) S := by
    have := sl_s inn i (i + 1) hn S
    rw [hd] at this
    simpa using this
  have e1 := eq_s ha1 (as1 34 (by decide)) S
  have e2 := eq_s ha1 (as1 92 (by decide)) S
  have c2 : 2 ≤ cap := by decide
  have w0 : (i : Int) + 0 = i := by omega
  unfold uNext
  by_cases h34 : a = 34
  · subst h34
    simp [L_unquoted_1, q34, q92, i1, e1]
  · by_cases h92 : a = 92
    · subst h92
      cases l with
      | nil =>
        have s2 : slD (.str (mkS inn)) (some ((i : Int) + 1)) (some ((i : Int) + 2)) S = .ok (.str (mkS [])) S := by
          have := sl_s inn (i + 1) (i + 2) hn S
          rw [d1] at this
          simpa using this
        have n2 : oNotIn (.str (mkS [])) (.tup [.str (mkS [92]), .str (mkS [34])]) S = .ok (.bl true) S := by rw [nin_t]; simp
        simp [L_unquoted_1, q34, q92, i1, e1, s1, e2, oAdd, s2, n2, c2]
      | cons c r =>
        have s2 : slD (.str (mkS inn)) (some ((i : Int) + 1)) (some ((i : Int) + 2)) S = .ok (.str (mkS [c])) S := by
          have := sl_s inn (i + 1) (i + 2) hn S
          rw [d1] at this
          simpa using this
        have n2 : oNotIn (.str (mkS [c])) (.tup [.str (mkS [92]), .str (mkS [34])]) S = .ok (.bl (!decide (c = 92 ∨ c = 34))) S := by rw [nin_t, in2]
        have hg2 : inn[i + 1]? = some c := by
          have := congrArg (fun l => l[0]?) d1
          simpa using this
        have i2 := ix_s hg2 hn S
        have i2' : oIx (.str (mkS inn)) (.int ((i : Int) + 1)) S = .ok (.str (mkS [c])) S := by simpa using i2
        have a2 := add_s f [c] (by simpa using hf) S
        have p2 : ((i + 2 : Nat) : Int) = (i : Int) + 1 + 1 := by omega
        have ai : ∀ j : Int, oAdd (.int i) (.int j) S = .ok (.int (i + j)) S := fun j => rfl
        have aj : ∀ j k : Int, oAdd (.int j) (.int k) S = .ok (.int (j + k)) S := fun j k => rfl
        by_cases hc : c = 92 ∨ c = 34
        · simp only [if_pos hc, p2]
          simp [L_unquoted_1, q34, q92, i1, e1, s1, e2, aj, s2, n2, c2, hc, oIntA, oInt, i2', hf]
        · simp only [if_neg hc]
          simp [L_unquoted_1, q34, q92, i1, e1, s1, e2, aj, s2, n2, c2, hc]
    · have a2 := add_s f [a] (by simpa using hf) S
      have p2 : ((i + 1 : Nat) : Int) = (i : Int) + 1 := by omega
      have aj : ∀ j k : Int, oAdd (.int j) (.int k) S = .ok (.int (j + k)) S := fun j k => rfl
      simp only [if_neg h34, if_neg h92, p2]
      simp [L_unquoted_1, q34, q92, i1, e1, s1, e2, h34, h92, aj, oIntA, oInt, w0, hf]
/-- the loop of unquoted -/
theorem u_loop {t : Option D} {inn : List Nat} (S : Sto) (ha : As inn) : ∀ (rest : List Nat) (n i : Nat) (f : List Nat), inn.drop i = rest → rest.length < n → f.length ≤ i → i ≤ inn.length →
    whileN L_unquoted_1_t L_unquoted_1 n [t, some (.str (mkS f)), some (.int i), some (.str (mkS inn))] S = (match dec rest with
      | some d => .nx [t, some (.str (mkS (f ++ d))), some (.int inn.length), some (.str (mkS inn))] S
      | none => .rt .non S)
  | [], n, i, f, hd, hn, hf, hi => by
    obtain ⟨m, rfl⟩ : ∃ m, n = m + 1 := ⟨n - 1, by have : 0 < n := hn; omega⟩
    have hx : i = inn.length := by have := List.drop_eq_nil_iff.mp hd; omega
    have hl : inn.length ≤ cap := Nat.le_trans ha.1 (by decide)
    subst hx
    rw [e_whileN, e_u1]
    have lt : oLt (.int inn.length) (.int inn.length) S = .ok (.bl false) S := by simp [oLt]
    simp [len_s, hl, lt, dec]
  | a :: l, n, i, f, hd, hn, hf, hi => by
    obtain ⟨m, rfl⟩ : ∃ m, n = m + 1 := ⟨n - 1, by have : 0 < n := Nat.lt_of_le_of_lt (Nat.zero_le _) hn; omega⟩
    have hl : inn.length ≤ cap := Nat.le_trans ha.1 (by decide)
    have hlt : i < inn.length := by
      have := congrArg List.length hd
      simp at this; omega
    have lt : oLt (.int i) (.int inn.length) S = .ok (.bl true) S := by simp [oLt, hlt]
    have tt : L_unquoted_1_t [t, some (.str (mkS f)), some (.int i), some (.str (mkS inn))] S = .ok true S := by
      rw [e_u1]; simp [len_s, hl, lt]
    have fc : f.length + 1 ≤ cap := Nat.le_trans (by have := ha.1; omega : f.length + 1 ≤ 9500) (by decide)
    have d1 : inn.drop (i + 1) = l := by rw [← List.drop_drop, hd]; rfl
    rw [e_whileN, tt]
    simp only [RE.stm_ok, if_true]
    rw [u_turn S ha fc hd]
    unfold uNext
    have hn' : l.length + 1 < m + 1 := hn
    cases l with
    | nil =>
      by_cases h34 : a = 34
      · simp [dec, h34]
      · by_cases h92 : a = 92
        · simp [dec, h92]
        · have := u_loop S ha [] m (i + 1) (f ++ [a]) d1 (by simp; omega) (by simp; omega) hlt (t := t)
          simp only [dec] at this
          simp only [if_neg h34, if_neg h92]
          rw [this]
          simp [dec, h34, h92]
    | cons c r =>
      have d2 : inn.drop (i + 2) = r := by
        have := congrArg (List.drop 1) d1
        rw [List.drop_drop] at this
        exact this
      have h2 : i + 2 ≤ inn.length := by
        have := congrArg List.length d1
        simp at this; omega
      by_cases h34 : a = 34
      · simp [dec, h34]
      · by_cases h92 : a = 92
        · by_cases hc : c = 92 ∨ c = 34
          · have := u_loop S ha r m (i + 2) (f ++ [c]) d2 (by simp at hn'; omega) (by simp; omega) h2 (t := t)
            simp only [if_neg h34, if_pos h92, if_pos hc]
            rw [this]
            cases q : dec r <;> simp [dec, h92, hc, q]
          · simp [dec, h92, hc]
        · have := u_loop S ha (c :: r) m (i + 1) (f ++ [a]) d1 (by simp at hn' ⊢; omega) (by simp; omega) hlt (t := t)
          simp only [if_neg h34, if_neg h92]
          rw [this]
          cases q : dec (c :: r) <;> simp [dec, h34, h92, q]
/-- what unquoted gives -/
def unq (l : List Nat) : Option (List Nat) := if l.length < 2 ∨ l[0]? ≠ some 34 ∨ l.getLast? ≠ some 34 then none else dec ((l.drop 1).dropLast)
theorem hd_ix {l : List Nat} (h : 2 ≤ l.length) : ∃ a, l[0]? = some a ∧ ∃ b, l.getLast? = some b := by
  cases l with
  | nil => simp at h
  | cons a r => exact ⟨a, rfl, (a :: r).getLast (by simp), List.getLast?_eq_some_getLast (by simp)⟩
theorem mem_ix {l : List Nat} {i a : Nat} (h : l[i]? = some a) : a ∈ l := List.mem_of_getElem? h
theorem as_one {l : List Nat} (h : As l) {a : Nat} (hm : a ∈ l) : As [a] := as1 a (h.2 a hm)
theorem dec_le : ∀ (l d : List Nat), dec l = some d → d.length ≤ l.length ∧ ∀ c ∈ d, c ∈ l
  | [], d, h => by simp [dec] at h; subst h; simp
  | [a], d, h => by
    simp only [dec] at h
    split at h
    · cases h
    · cases h; simp
  | a :: c :: r, d, h => by
    simp only [dec] at h
    split at h
    · cases h
    · split at h
      · split at h
        · cases q : dec r with
          | none => rw [q] at h; cases h
          | some e =>
            rw [q] at h
            cases h
            obtain ⟨h1, h2⟩ := dec_le r e q
            refine ⟨by simp; omega, fun x hx => ?_⟩
            rcases List.mem_cons.mp hx with rfl | hx
            · simp
            · have := h2 x hx; simp [this]
        · cases h
      · cases q : dec (c :: r) with
        | none => rw [q] at h; cases h
        | some e =>
          rw [q] at h
          cases h
          obtain ⟨h1, h2⟩ := dec_le (c :: r) e q
          refine ⟨by simp at h1 ⊢; omega, fun x hx => ?_⟩
          rcases List.mem_cons.mp hx with rfl | hx
          · simp
          · have := h2 x hx; simp at this ⊢; right; exact this
theorem unq_as {l d : List Nat} (h : As l) (q : unq l = some d) : As d := by
  unfold unq at q
  split at q
  · cases q
  · obtain ⟨h1, h2⟩ := dec_le _ _ q
    refine h.sub (by simp at h1; omega) fun c hc => ?_
    exact List.mem_of_mem_drop (List.dropLast_subset _ (h2 c hc))
theorem unquoted_eq {l : List Nat} (S : Sto) (h : As l) : F_unquoted [.str (mkS l)] S = .ok (match unq l with | some d => .str (mkS d) | none => .non) S := by
  have hl : l.length ≤ cap := Nat.le_trans h.1 (by decide)
  unfold unq
  by_cases h2 : l.length < 2
  · have lt : oLt (.int l.length) (.int 2) S = .ok (.bl true) S := by simp [oLt]; omega
    simp [F_unquoted, e_fnD, B_unquoted, len_s, hl, lt, h2]
  · have h2' : 2 ≤ l.length := by omega
    have lt : oLt (.int l.length) (.int 2) S = .ok (.bl false) S := by simp [oLt]; omega
    obtain ⟨a, ea, b, eb⟩ := hd_ix h2'
    have i0 := ix_s ea hl S
    have i0' : oIx (.str (mkS l)) (.int 0) S = .ok (.str (mkS [a])) S := by simpa using i0
    have i1 := ix_m1 eb hl S
    have n0 := ne_s (as_one h (mem_ix ea)) (as1 34 (by decide)) S
    have n1 := ne_s (as_one h (List.mem_of_getLast? eb)) (as1 34 (by decide)) S
    by_cases h3 : a = 34
    · subst h3
      by_cases h4 : b = 34
      · subst h4
        have s1 := sl_in l h2' hl S
        have hin : As ((l.drop 1).dropLast) := h.sub (by simp; omega) fun c hc => List.mem_of_mem_drop (List.dropLast_subset _ hc)
        have lp := u_loop (t := some (.str (mkS l))) S hin ((l.drop 1).dropLast) 20000 0 [] (by simp) (by have := h.1; simp; omega) (by simp) (Nat.zero_le _)
        rw [show ((0 : Nat) : Int) = 0 from rfl] at lp
        generalize hi : (l.drop 1).dropLast = inn at *
        have nz : ¬ (l.length < 2 ∨ l[0]? ≠ some 34 ∨ l.getLast? ≠ some 34) := by simp [ea, eb]; omega
        rw [if_neg nz]
        cases q : dec inn with
        | none =>
          rw [q] at lp
          simp [F_unquoted, e_fnD, B_unquoted, len_s, hl, lt, i0', i1, q34, n0, n1, s1, q0, lp]
        | some d =>
          rw [q] at lp
          simp [F_unquoted, e_fnD, B_unquoted, len_s, hl, lt, i0', i1, q34, n0, n1, s1, q0, lp]
      · have nz : (l.length < 2 ∨ l[0]? ≠ some 34 ∨ l.getLast? ≠ some 34) := .inr (.inr (by rw [eb]; simpa using h4))
        rw [if_pos nz]
        simp [F_unquoted, e_fnD, B_unquoted, len_s, hl, lt, i0', i1, q34, n0, n1, h4]
    · have nz : (l.length < 2 ∨ l[0]? ≠ some 34 ∨ l.getLast? ≠ some 34) := .inr (.inl (by rw [ea]; simpa using h3))
      rw [if_pos nz]
      simp [F_unquoted, e_fnD, B_unquoted, len_s, hl, lt, i0', q34, n0, h3]
/-! ### the law's reading of it -/
/-- a value as it is written -/
def dig (c : Nat) : Bool := decide (48 ≤ c) && decide (c ≤ 57)
theorem digs : (Str.ofString "0123456789").cps.toList = [48, 49, 50, 51, 52, 53, 54, 55, 56, 57] := by decide +kernel
theorem in_digs (c : Nat) : inS ⟨#[c]⟩ (Str.ofString "0123456789") = dig c := by
  unfold inS
  rw [if_pos (show (⟨#[c]⟩ : Str).cps.size = 1 from rfl), digs]
  show decide (c ∈ _) = dig c
  unfold dig
  rw [Bool.eq_iff_iff]
  simp
  omega
/-- the number that is written -/
def numO (l : List Nat) : Option Int := if l.length ≠ 0 ∧ l.length ≤ 16 ∧ l.all dig = true ∧ ¬ (l[0]? = some 48 ∧ l ≠ [48]) then some (NumText.digitsVal l) else none
def numD (l : List Nat) : D := match numO l with
  | some i => .int i
  | none => .non
theorem int_dig {l : List Nat} (h : l.all dig = true) (h0 : l.length ≠ 0) (h1 : l.length ≤ 16) (S : Sto) : oIntA [.str (mkS l)] S = .ok (.int (NumText.digitsVal l)) S := by
  have e : PySem.intText? (mkS l) = some ((NumText.digitsVal l : Nat) : Int) := by
    have := intText_digits (x := mkS l) (by
      rw [mkS_list]
      intro c hc
      have := List.all_eq_true.mp h c hc
      simpa [dig] using this) (by rw [mkS_list]; intro z; rw [z] at h0; exact h0 rfl) (by rw [mkS_len]; omega)
    rwa [mkS_list] at this
  have h2 : l.length ≤ 640 := by omega
  simp [oIntA, oIntS, e, h2]
theorem lc_digs {t : Option D} {l : List Nat} (S : Sto) : loopC [1] (gN 1) mYes (dBin oIn (dVar 1) (dC (D.str (Str.ofString "0123456789")))) [t, none] (dSigns (mkS l)) S = .ok (l.map fun c => D.bl (dig c)) S := by
  have := lc_signs (ρ := [t, none]) (S := S) (own := [1]) (g := gN 1) (t := mYes) (e := dBin oIn (dVar 1) (dC (D.str (Str.ofString "0123456789")))) (s := mkS l) (r := fun c => [t, some (.str ⟨#[c]⟩)]) (p := fun _ => true) (v := fun c => .bl (dig c)) fun c hc => ⟨by simp [wipeD], by simp, fun _ => by simp [oIn, inD, in_digs]⟩
  rw [this, filt_all, mkS_list]
theorem all_dig (l : List Nat) (S : Sto) : oAll [.lst (l.map fun c => D.bl (dig c))] S = .ok (.bl (l.all dig)) S := by
  simp only [oAll, blsOf_map]
  congr 2
  simp [List.all_map]
theorem number_in_eq {l : List Nat} (S : Sto) (h : As l) : F_number_in [.str (mkS l)] S = .ok (numD l) S := by
  have hl : l.length ≤ cap := Nat.le_trans h.1 (by decide)
  have lc := lc_digs (t := some (.str (mkS l))) (l := l) S
  have sl : (dSigns (mkS l)).length = l.length := by rw [dSigns_len, mkS_len]
  unfold numD numO
  by_cases h0 : l.length = 0
  · have e1 : ¬ (1 : Int) ≤ l.length := by omega
    simp [F_number_in, e_fnD, B_number_in, len_s, hl, oLe, e1, h0]
  · by_cases h16 : l.length ≤ 16
    · have e1 : (1 : Int) ≤ l.length := by omega
      have e2 : ¬ (16 : Int) < l.length := by omega
      obtain ⟨a, r, rfl⟩ : ∃ a r, l = a :: r := by
        cases l with
        | nil => exact absurd rfl h0
        | cons a r => exact ⟨a, r, rfl⟩
      have i0 : oIx (.str (mkS (a :: r))) (.int 0) S = .ok (.str (mkS [a])) S := by simpa using ix_s (l := a :: r) (i := 0) rfl hl S
      have eq := eq_s (as_one h List.mem_cons_self) (as1 48 (by decide)) S
      have ne := ne_s h (as1 48 (by decide)) S
      have hall := all_dig (a :: r) S
      have lcap : (dSigns (mkS (a :: r))).length ≤ cap := by rw [sl]; exact hl
      by_cases hd : (a :: r).all dig = true
      · have it := int_dig hd h0 h16 S
        rw [hd] at hall
        generalize hL : a :: r = L at *
        have hh : L[0]? = some a := by rw [← hL]; rfl
        by_cases hz : a = 48
        · subst hz
          by_cases hz2 : L = [48]
          · have pz : L.length ≠ 0 ∧ L.length ≤ 16 ∧ L.all dig = true ∧ ¬ (L[0]? = some 48 ∧ L ≠ [48]) := ⟨h0, h16, hd, fun z => z.2 hz2⟩
            have ne2 : oNe (.str (mkS L)) (.str (mkS [48])) S = .ok (.bl false) S := by rw [ne]; simp [hz2]
            rw [if_pos pz]
            simp [F_number_in, e_fnD, B_number_in, len_s, hl, oLe, e1, e2, itemsOf, lcap, lc, hall, i0, q48, eq, ne2, it]
          · have nz : ¬ (L.length ≠ 0 ∧ L.length ≤ 16 ∧ L.all dig = true ∧ ¬ (L[0]? = some 48 ∧ L ≠ [48])) := fun z => z.2.2.2 ⟨hh, hz2⟩
            have ne2 : oNe (.str (mkS L)) (.str (mkS [48])) S = .ok (.bl true) S := by rw [ne]; simp [hz2]
            rw [if_neg nz]
            simp [F_number_in, e_fnD, B_number_in, len_s, hl, oLe, e1, e2, itemsOf, lcap, lc, hall, i0, q48, eq, ne2]
        · have pz : L.length ≠ 0 ∧ L.length ≤ 16 ∧ L.all dig = true ∧ ¬ (L[0]? = some 48 ∧ L ≠ [48]) := ⟨h0, h16, hd, fun z => hz (by have := z.1; rw [hh] at this; exact Option.some.inj this)⟩
          rw [if_pos pz]
          simp [F_number_in, e_fnD, B_number_in, len_s, hl, oLe, e1, e2, itemsOf, lcap, lc, hall, i0, q48, eq, hz, it]
      · have nz : ¬ ((a :: r).length ≠ 0 ∧ (a :: r).length ≤ 16 ∧ (a :: r).all dig = true ∧ ¬ ((a :: r)[0]? = some 48 ∧ (a :: r) ≠ [48])) := fun z => hd z.2.2.1
        rw [if_neg nz]
        simp only [Bool.not_eq_true] at hd
        rw [hd] at hall
        generalize hL : a :: r = L at *
        simp [F_number_in, e_fnD, B_number_in, len_s, hl, oLe, e1, e2, itemsOf, lcap, lc, hall]
    · have e1 : (1 : Int) ≤ l.length := by omega
      have e2 : (16 : Int) < l.length := by omega
      simp [F_number_in, e_fnD, B_number_in, len_s, hl, oLe, e1, e2, h16]

theorem consH_mem {a : Nat} {ps : List (List Nat)} {p : List Nat} (h : p ∈ consH a ps) : ∀ c ∈ p, c = a ∨ ∃ q ∈ ps, c ∈ q := by
  cases ps with
  | nil =>
    simp only [consH, List.mem_singleton] at h
    subst h
    intro c hc; left; simpa using hc
  | cons x r =>
    simp only [consH, List.mem_cons] at h
    intro c hc
    rcases h with rfl | h
    · rcases List.mem_cons.mp hc with rfl | hc
      · left; rfl
      · right; exact ⟨x, List.mem_cons_self, hc⟩
    · right; exact ⟨p, List.mem_cons_of_mem _ h, hc⟩
theorem splitL_sub (k : Nat) : ∀ (l p : List Nat), p ∈ splitL k l → p.length ≤ l.length ∧ ∀ c ∈ p, c ∈ l
  | [], p, h => by simp [splitL] at h; subst h; simp
  | a :: l, p, h => by
    have ih := splitL_sub k l
    unfold splitL at h
    split at h
    · rcases List.mem_cons.mp h with rfl | h
      · simp
      · obtain ⟨h1, h2⟩ := ih p h
        exact ⟨by simp; omega, fun c hc => List.mem_cons_of_mem _ (h2 c hc)⟩
    · cases q : splitL k l with
      | nil => exact absurd q (splitL_ne _ _)
      | cons x r =>
        rw [q] at h ih
        simp only [consH, List.mem_cons] at h
        rcases h with rfl | h
        · obtain ⟨h1, h2⟩ := ih x List.mem_cons_self
          refine ⟨by simp; omega, fun c hc => ?_⟩
          rcases List.mem_cons.mp hc with rfl | hc
          · simp
          · exact List.mem_cons_of_mem _ (h2 c hc)
        · obtain ⟨h1, h2⟩ := ih p (List.mem_cons_of_mem _ h)
          exact ⟨by simp; omega, fun c hc => List.mem_cons_of_mem _ (h2 c hc)⟩
theorem As.piece {k : Nat} {l p : List Nat} (h : As l) (hp : p ∈ splitL k l) : As p := h.sub (splitL_sub k l p hp).1 (splitL_sub k l p hp).2
theorem joinL_len (k : Nat) : ∀ (p : List Nat) (ps : List (List Nat)), (joinL k (p :: ps)).length = p.length + (ps.map fun q => q.length + 1).sum
  | p, [] => by simp [joinL]
  | p, q :: r => by rw [joinL, List.length_append, List.length_cons, joinL_len k q r]; simp; omega
theorem joinL_mem (k : Nat) : ∀ (ps : List (List Nat)), ∀ c ∈ joinL k ps, c = k ∨ ∃ q ∈ ps, c ∈ q
  | [], c, h => by simp [joinL] at h
  | [p], c, h => .inr ⟨p, List.mem_cons_self, h⟩
  | p :: q :: r, c, h => by
    rw [joinL] at h
    rcases List.mem_append.mp h with h | h
    · exact .inr ⟨p, List.mem_cons_self, h⟩
    · rcases List.mem_cons.mp h with rfl | h
      · exact .inl rfl
      · rcases joinL_mem k (q :: r) c h with h | ⟨x, hx, hc⟩
        · exact .inl h
        · exact .inr ⟨x, List.mem_cons_of_mem _ hx, hc⟩
/-- what is left behind two pieces -/
theorem As.rest {k : Nat} (hk : k < 128) {l a b v : List Nat} {vs : List (List Nat)} (h : As l) (q : splitL k l = a :: b :: v :: vs) : As (joinL k (v :: vs)) := by
  have j := join_splitL k l
  rw [q] at j
  have e := congrArg List.length j
  rw [joinL_len] at e
  refine ⟨?_, fun c hc => ?_⟩
  · rw [joinL_len]
    have := h.1
    simp only [List.map_cons, List.sum_cons] at e
    omega
  · rcases joinL_mem k _ c hc with rfl | ⟨x, hx, hc⟩
    · exact hk
    · exact (h.piece (k := k) (p := x) (by rw [q]; exact List.mem_cons_of_mem _ (List.mem_cons_of_mem _ hx))).2 c hc
/-- what may be an entry -/
theorem split_s {l : List Nat} (h : As l) (k : Nat) (hk : k < 128) (S : Sto) : oSplit (mkS l) [.str (mkS [k])] S = .ok (.lst ((splitL k l).map fun p => .str (mkS p))) S := by
  have c : l.length + 2 ≤ cap := Nat.le_trans (Nat.add_le_add_right h.1 2) (by decide)
  have e := split_eq (mkS l) (c := k) (by omega)
  rw [mkS_list] at e
  have e' : Txt.split (mkS l) (mkS [k]) = (splitL k l).map mkS := e
  have z : (mkS [k]).length ≠ 0 := by simp
  simp only [oSplit]
  rw [if_pos ⟨z, by rw [mkS_len]; exact c⟩, e', List.map_map]
  rfl
theorem count_s (l : List Nat) (k : Nat) (S : Sto) : oCount (mkS l) [.str (mkS [k])] S = .ok (.int ((splitL k l).length - 1 : Nat)) S := by
  have e := count_eq (mkS l) k
  rw [mkS_list] at e
  have e' : Txt.count (mkS l) (mkS [k]) = (((splitL k l).length - 1 : Nat) : Int) := e
  simp only [oCount, e']
theorem ne_i (i j : Int) (S : Sto) : oNe (.int i) (.int j) S = .ok (.bl (!decide (i = j))) S := by
  have e : PyData.eqv (.int i) (.int j) = decide (i = j) := by
    by_cases h : i = j
    · subst h; simp [PyData.eqv]
    · simp [PyData.eqv, h]
  simp [oNe, eqD, toPy, SeqAt.shaped, PyData.canLay0, PyData.depth, e]
/-- an entry that is written -/
theorem ix_lst {ds : List D} {d : D} (i : Nat) (h : ds[i]? = some d) (S : Sto) : oIx (.lst ds) (.int i) S = .ok d S := by
  have hl : (i : Int) < ds.length := by have := (List.getElem?_eq_some_iff.mp h).1; omega
  simp [oIx, seqOf, atI, ixN, hl, h]
theorem strs_of : ∀ ps : List (List Nat), strsOf (ps.map fun p => D.str (mkS p)) = some (ps.map mkS)
  | [] => rfl
  | p :: r => by simp only [List.map_cons, strsOf, strs_of r]; rfl
/-- the number is a good one -/
theorem notin_digs (c : Nat) (S : Sto) : oNotIn (.str ⟨#[c]⟩) (.str (Str.ofString "0123456789")) S = .ok (.bl (!dig c)) S := by simp [oNotIn, inD, in_digs]
theorem gt_i (i j : Int) (S : Sto) : oGt (.int i) (.int j) S = .ok (.bl (decide (j < i))) S := rfl
theorem join_s (ps : List (List Nat)) (hl : (ps.map fun p => p.length).sum + ps.length ≤ cap) (S : Sto) : oJoin (mkS [32]) (.lst (ps.map fun p => .str (mkS p))) S = .ok (.str (mkS (joinL 32 ps))) S := by
  have e := strs_of ps
  have hs : ((ps.map mkS).map (·.length)).sum = (ps.map fun p => p.length).sum := by
    rw [List.map_map]
    exact congrArg List.sum (List.map_congr_left fun p _ => mkS_len p)
  have j : Txt.join (mkS [32]) (ps.map mkS) = mkS (joinL 32 ps) := join_eq 32 ps
  simp only [oJoin, seqOf, e]
  rw [hs, List.length_map]
  have : (mkS [32]).length = 1 := rfl
  rw [this, Nat.mul_one, if_pos hl, j]
theorem ne_nil (l : List Nat) (S : Sto) (h : ∀ c ∈ l, c < 128) : oNe (.lst (l.map fun c => D.str ⟨#[c]⟩)) (.lst []) S = .ok (.bl (!l.isEmpty)) S := by
  have e := eq_nil l S h
  simp only [oEq] at e
  cases q : eqD (.lst (l.map fun c => D.str ⟨#[c]⟩)) (.lst []) with
  | none => rw [q] at e; cases e
  | some b => rw [q] at e; cases e; simp only [oNe, q]
/-- what is printed of a text -/
def rp (l : List Nat) : Str := (PyData.str (mkS l)).shown
theorem As.asci {l : List Nat} (h : As l) : Asci (mkS l) := by unfold Asci; rw [mkS_list]; exact h.2
theorem As.pln {l : List Nat} (h : As l) : plnD (.str (mkS l)) = true := by
  simp only [plnD, List.all_eq_true, decide_eq_true_eq]
  exact h.asci
theorem rp_len {l : List Nat} (h : As l) : (rp l).length ≤ cap := by
  have := str_len h.asci
  rw [mkS_len] at this
  exact Nat.le_trans this (Nat.le_trans (Nat.add_le_add_right (Nat.mul_le_mul_left 10 h.1) 30) (by decide))
theorem rp_asci {l : List Nat} (h : As l) : Asci (rp l) := shown_asc _ h.pln
theorem repr_s {l : List Nat} (h : As l) (S : Sto) : oRepr [.str (mkS l)] S = .ok (.str (rp l)) S := repr_pln (p := .str (mkS l)) rfl h.pln (Nat.zero_le _) (rp_len h) S
def oddT (x : Str) : D := .lst [.str (Str.ofString "text"), .str x, .bl true]
theorem pln_odd {s x : Str} (hs : Asci s) (hx : Asci x) : plnD (.list [.str s, .str x, .bool true]) = true := by
  simp only [plnD, plnDs, Bool.and_true, Bool.and_eq_true, List.all_eq_true, decide_eq_true_eq]
  exact ⟨hs, hx⟩
theorem odd_py (s x : Str) : toPy (.lst [.str s, .str x, .bl true]) = some (.list [.str s, .str x, .bool true]) := by simp [toPy, toPys]
theorem odd_dep (s x : Str) : (PyData.list [.str s, .str x, .bool true]).depth ≤ 63 := by simp [PyData.depth, PyData.depthAll]
theorem oddT_ne {x : Str} (hx : Asci x) (S : Sto) : oNe (oddT x) (oddT x) S = .ok (.bl false) S := ne_self (odd_py _ _) (pln_odd (str_asc "text" (by decide +kernel)) hx) (odd_dep _ _) S
end G

set_option maxHeartbeats 4000000
namespace G
open PySem L2 DE
def cWr : List Nat := [119, 114, 105, 116, 101]
def cSe : List Nat := [115, 101, 110, 100]
def cTa : List Nat := [116, 97, 107, 101]
def cPa : List Nat := [112, 97, 115, 115]
theorem qWr : Str.ofString "write" = mkS cWr := by decide +kernel
theorem qSe : Str.ofString "send" = mkS cSe := by decide +kernel
theorem qTa : Str.ofString "take" = mkS cTa := by decide +kernel
theorem qPa : Str.ofString "pass" = mkS cPa := by decide +kernel
theorem q42 : Str.ofString "*" = mkS [42] := by decide +kernel
theorem aWr : As cWr := ⟨by decide, by decide⟩
theorem aSe : As cSe := ⟨by decide, by decide⟩
theorem aTa : As cTa := ⟨by decide, by decide⟩
theorem aPa : As cPa := ⟨by decide, by decide⟩
theorem p_s {a b : List Nat} (ha : As a) (hb : As b) : pStr (mkS a) (.str (mkS b)) = some (if b = a then some [] else none) := by
  rw [pStr_str ha.ok hb.ok]
  congr 1
  by_cases h : b = a
  · subst h; simp
  · have : mkS b ≠ mkS a := fun z => h (mkS_inj.mp z)
    simp [h, this]
@[simp] theorem e_pSeqL (n : Nat) (g : List D → Option (Option Bd)) (ds : List D) : pSeq n g (.lst ds) = if ds.length = n then g ds else some none := id rfl
@[simp] theorem e_pSeqSL (n : Nat) (g : List D → Option (Option Bd)) (ds : List D) : pSeqS n g (.lst ds) = if ds.length ≤ 16384 then (if ds.length + 1 < n then some none else g (ds.take (n - 1) ++ [.lst (ds.drop (n - 1))])) else none := id rfl
@[simp] theorem e_psStar (i : Nat) (d : D) : psStar i [d] = some (some [(i, d)]) := id rfl
@[simp] theorem bindB_nil (ρ : DE.Env) : bindB [] ρ = ρ := rfl
@[simp] theorem bindB_cons (i : Nat) (d : D) (r : Bd) (ρ : DE.Env) : bindB ((i, d) :: r) ρ = bindB r (ρ.set i (some d)) := rfl
theorem oTuple_l (ds : List D) (S : Sto) : oTuple [.lst ds] S = .ok (.tup ds) S := rfl
def unqD (l : List Nat) : D := match unq l with
  | some d => .str (mkS d)
  | none => .non
def tupS (ps : List (List Nat)) : D := .tup (ps.map fun p => .str (mkS p))
theorem c1 : (cWr = cSe) = False := eq_false (by decide)
theorem c2 : (cWr = cTa) = False := eq_false (by decide)
theorem c3 : (cWr = cPa) = False := eq_false (by decide)
theorem c4 : (cSe = cWr) = False := eq_false (by decide)
theorem c5 : (cSe = cTa) = False := eq_false (by decide)
theorem c6 : (cSe = cPa) = False := eq_false (by decide)
theorem c7 : (cTa = cWr) = False := eq_false (by decide)
theorem c8 : (cTa = cSe) = False := eq_false (by decide)
theorem c9 : (cTa = cPa) = False := eq_false (by decide)
theorem c10 : (cPa = cWr) = False := eq_false (by decide)
theorem c11 : (cPa = cSe) = False := eq_false (by decide)
theorem c12 : (cPa = cTa) = False := eq_false (by decide)
/-- what the parts of a text say -/
def evP : List (List Nat) → D
  | [a, b, c] => if a = cWr then .tup [.str (mkS cWr), .str (mkS b), .str (mkS c), unqD []] else if a = cSe then .non else if a = cPa then .tup [.str (mkS cPa), .str (mkS b), numD c] else tupS [a, b, c]
  | [a, b, c, d] => if a = cWr then .tup [.str (mkS cWr), .str (mkS b), .str (mkS c), unqD d]
    else if a = cSe then .tup [.str (mkS cSe), .str (mkS b), .str (mkS c), if d = [42] then .non else if d = [] then .tup [] else tupS [d]]
    else if a = cTa then .tup [.str (mkS cTa), .str (mkS b), .str (mkS c), numD d] else tupS [a, b, c, d]
  | a :: b :: c :: d :: e :: r => if a = cWr then .tup [.str (mkS cWr), .str (mkS b), .str (mkS c), unqD (joinL 32 (d :: e :: r))]
    else if a = cSe then .tup [.str (mkS cSe), .str (mkS b), .str (mkS c), tupS (d :: e :: r)] else tupS (a :: b :: c :: d :: e :: r)
  | ps => tupS ps
def evIn (l : List Nat) : D := evP (splitL 32 l)
theorem split_len (k : Nat) (l : List Nat) : (splitL k l).length ≤ l.length + 1 := by
  induction l with
  | nil => simp [splitL]
  | cons a l ih =>
    unfold splitL
    split
    · simp; omega
    · cases q : splitL k l with
      | nil => simp [consH]
      | cons x r => rw [q] at ih; simp [consH] at ih ⊢; omega
theorem join_as {l : List Nat} {ps qs : List (List Nat)} (h : As l) (q : splitL 32 l = ps ++ qs) : As (joinL 32 qs) ∧ ((qs.map fun p => p.length).sum + qs.length ≤ 9501) := by
  have e := congrArg List.length (join_splitL 32 l)
  have sm : ∀ ws : List (List Nat), ((ws.map fun p => p.length).sum + ws.length) = (ws.map fun p => p.length + 1).sum := fun ws => by
    induction ws with
    | nil => rfl
    | cons a r ih => simp at ih ⊢; omega
  have jl : ∀ ws : List (List Nat), (joinL 32 ws).length ≤ (ws.map fun p => p.length + 1).sum ∧ (ws.map fun p => p.length + 1).sum ≤ (joinL 32 ws).length + 1 := fun ws => by
    cases ws with
    | nil => simp [joinL]
    | cons a r => rw [joinL_len]; simp; omega
  have h1 := jl (ps ++ qs)
  rw [← q, e, q, List.map_append, List.sum_append] at h1
  have h2 := jl qs
  have := h.1
  refine ⟨⟨?_, fun c hc => ?_⟩, by rw [sm]; omega⟩
  · cases qs with
    | nil => simp [joinL]
    | cons a r =>
      cases ps with
      | nil => rw [List.nil_append] at q; rw [← q, e]; exact this
      | cons b s => simp only [List.map_cons, List.sum_cons] at h1 h2; omega
  · rcases joinL_mem 32 qs c hc with rfl | ⟨x, hx, hc⟩
    · decide
    · exact (h.piece (k := 32) (p := x) (by rw [q]; exact List.mem_append_right _ hx)).2 c hc
theorem event_in_eq {l : List Nat} (S : Sto) (h : As l) : F_event_in [.str (mkS l)] S = .ok (evIn l) S := by
  have sp := split_s h 32 (by decide) S
  have sl := split_len 32 l
  have pc : ∀ p ∈ splitL 32 l, As p := fun p hp => h.piece hp
  have jn : ∀ ps qs, splitL 32 l = ps ++ qs → As (joinL 32 qs) ∧ oJoin (mkS [32]) (.lst (qs.map fun p => .str (mkS p))) S = .ok (.str (mkS (joinL 32 qs))) S := fun ps qs e => by
    obtain ⟨x, y⟩ := join_as h e
    exact ⟨x, join_s qs (Nat.le_trans y (by decide)) S⟩
  have h16 : (splitL 32 l).length ≤ 16384 := by have := h.1; omega
  unfold evIn
  rcases q : splitL 32 l with _ | ⟨a, _ | ⟨b, _ | ⟨c, _ | ⟨d, _ | ⟨e, r⟩⟩⟩⟩⟩
  · exact absurd q (splitL_ne _ _)
  · rw [q] at sp pc
    simp [F_event_in, e_fnD, B_event_in, q32, sp, evP, tupS, oTuple_l]
  · rw [q] at sp pc
    simp [F_event_in, e_fnD, B_event_in, q32, sp, evP, tupS, oTuple_l]
  all_goals
    have ha := pc a (by rw [q]; simp)
    have hb := pc b (by rw [q]; simp)
    have hc := pc c (by rw [q]; simp)
    have w1 := p_s aWr ha
    have w2 := p_s aSe ha
    have w3 := p_s aTa ha
    have w4 := p_s aPa ha
    have k0 : 0 ≤ cap := Nat.zero_le _
    have k3 : 3 ≤ cap := by decide
    have k4 : 4 ≤ cap := by decide
  · obtain ⟨x1, x2⟩ := jn [a, b, c] [] (by rw [q]; rfl)
    have uq := unquoted_eq S x1
    have nu := number_in_eq S hc
    have nn : oNe (.lst []) (.lst []) S = .ok (.bl false) S := by simpa using ne_nil [] S (by simp)
    rw [q] at sp
    simp only [joinL, List.map_nil] at uq x2
    by_cases h1 : a = cWr
    · subst h1
      simp only [c1, c2, c3, c4, c5, c6, c7, c8, c9, c10, c11, c12, if_true, if_false] at w1 w2 w3 w4
      simp [F_event_in, e_fnD, B_event_in, q32, qWr, qSe, qTa, qPa, sp, evP, tupS, oTuple_l, w1, w2, w3, w4, c1, c2, c3, c4, c5, c6, c7, c8, c9, c10, c11, c12, k0, k3, k4, x2, uq, unqD]
      all_goals rfl
    · by_cases h2 : a = cSe
      · subst h2
        simp only [c1, c2, c3, c4, c5, c6, c7, c8, c9, c10, c11, c12, if_true, if_false] at w1 w2 w3 w4
        simp [F_event_in, e_fnD, B_event_in, q32, qWr, qSe, qTa, qPa, sp, evP, tupS, oTuple_l, w1, w2, w3, w4, c1, c2, c3, c4, c5, c6, c7, c8, c9, c10, c11, c12, k0, k3, k4, nn]
      · by_cases h3 : a = cPa
        · subst h3
          simp only [c1, c2, c3, c4, c5, c6, c7, c8, c9, c10, c11, c12, if_true, if_false] at w1 w2 w3 w4
          simp [F_event_in, e_fnD, B_event_in, q32, qWr, qSe, qTa, qPa, sp, evP, tupS, oTuple_l, w1, w2, w3, w4, c1, c2, c3, c4, c5, c6, c7, c8, c9, c10, c11, c12, k0, k3, k4, nu]
        · simp [F_event_in, e_fnD, B_event_in, q32, qWr, qSe, qTa, qPa, sp, evP, tupS, oTuple_l, w1, w2, w3, w4, c1, c2, c3, c4, c5, c6, c7, c8, c9, c10, c11, c12, k0, k3, k4, h1, h2, h3]
  · have hd := pc d (by rw [q]; simp)
    obtain ⟨x1, x2⟩ := jn [a, b, c] [d] (by rw [q]; rfl)
    have uq := unquoted_eq S x1
    have nu := number_in_eq S hd
    have z1 := p_s (as1 42 (by decide)) hd
    have z2 := p_s as0 hd
    have nn : oNe (.lst [.str (mkS d)]) (.lst []) S = .ok (.bl true) S := by
      have : eqD (.lst [.str (mkS d)]) (.lst []) = some false := by
        rw [eqD_pln (p := .list [.str (mkS d)]) (q := .list []) (by simp [toPy, toPys]) rfl (by simp only [plnD, plnDs, Bool.and_true]; exact hd.pln) rfl (by simp [PyData.depth, PyData.depthAll]) (by simp [PyData.depth, PyData.depthAll])]
        simp [PyData.eqv, PyData.eqvAll]
      simp only [oNe, this, Bool.not_false]
    rw [q] at sp
    simp only [joinL, List.map_cons, List.map_nil] at uq x2 sp
    by_cases h1 : a = cWr
    · subst h1
      simp only [c1, c2, c3, c4, c5, c6, c7, c8, c9, c10, c11, c12, if_true, if_false] at w1 w2 w3 w4
      simp [F_event_in, e_fnD, B_event_in, q32, qWr, qSe, qTa, qPa, sp, evP, tupS, oTuple_l, w1, w2, w3, w4, c1, c2, c3, c4, c5, c6, c7, c8, c9, c10, c11, c12, k0, k3, k4, x2, uq, unqD]
      all_goals rfl
    · by_cases h2 : a = cSe
      · subst h2
        simp only [c1, c2, c3, c4, c5, c6, c7, c8, c9, c10, c11, c12, if_true, if_false] at w1 w2 w3 w4
        by_cases h5 : d = [42]
        · subst h5
          simp [F_event_in, e_fnD, B_event_in, q32, qWr, qSe, qTa, qPa, sp, evP, tupS, oTuple_l, w1, w2, w3, w4, c1, c2, c3, c4, c5, c6, c7, c8, c9, c10, c11, c12, k0, k3, k4, q42, q0, z1, z2]
        · by_cases h6 : d = []
          · subst h6
            simp [F_event_in, e_fnD, B_event_in, q32, qWr, qSe, qTa, qPa, sp, evP, tupS, oTuple_l, w1, w2, w3, w4, c1, c2, c3, c4, c5, c6, c7, c8, c9, c10, c11, c12, k0, k3, k4, q42, q0, z1, z2]
          · simp [F_event_in, e_fnD, B_event_in, q32, qWr, qSe, qTa, qPa, sp, evP, tupS, oTuple_l, w1, w2, w3, w4, c1, c2, c3, c4, c5, c6, c7, c8, c9, c10, c11, c12, k0, k3, k4, q42, q0, z1, z2, h5, h6, nn]
      · by_cases h3 : a = cTa
        · subst h3
          simp only [c1, c2, c3, c4, c5, c6, c7, c8, c9, c10, c11, c12, if_true, if_false] at w1 w2 w3 w4
          simp [F_event_in, e_fnD, B_event_in, q32, qWr, qSe, qTa, qPa, sp, evP, tupS, oTuple_l, w1, w2, w3, w4, c1, c2, c3, c4, c5, c6, c7, c8, c9, c10, c11, c12, k0, k3, k4, nu]
        · by_cases h4 : a = cPa
          · subst h4
            simp only [c1, c2, c3, c4, c5, c6, c7, c8, c9, c10, c11, c12, if_true, if_false] at w1 w2 w3 w4
            simp [F_event_in, e_fnD, B_event_in, q32, qWr, qSe, qTa, qPa, sp, evP, tupS, oTuple_l, w1, w2, w3, w4, c1, c2, c3, c4, c5, c6, c7, c8, c9, c10, c11, c12, k0, k3, k4, h1, h2, h3]
          · simp [F_event_in, e_fnD, B_event_in, q32, qWr, qSe, qTa, qPa, sp, evP, tupS, oTuple_l, w1, w2, w3, w4, c1, c2, c3, c4, c5, c6, c7, c8, c9, c10, c11, c12, k0, k3, k4, h1, h2, h3, h4]
  · obtain ⟨x1, x2⟩ := jn [a, b, c] (d :: e :: r) (by rw [q]; rfl)
    have uq := unquoted_eq S x1
    have nn : oNe (.lst ((d :: e :: r).map fun p => .str (mkS p))) (.lst []) S = .ok (.bl true) S := by
      have pl : plnDs ((d :: e :: r).map fun p => PyData.str (mkS p)) = true := by
        rw [plnDs_mem]
        intro y hy
        obtain ⟨p, hp, rfl⟩ := List.mem_map.mp hy
        exact (pc p (by rw [q]; simp only [List.mem_cons] at hp ⊢; right; right; right; exact hp)).pln
      have tp : toPys ((d :: e :: r).map fun p => D.str (mkS p)) = some ((d :: e :: r).map fun p => PyData.str (mkS p)) := by
        have := toPys_strs ((d :: e :: r).map mkS)
        rw [List.map_map, List.map_map] at this
        exact this
      have dp : PyData.depthAll ((d :: e :: r).map fun p => PyData.str (mkS p)) = 0 := by
        generalize d :: e :: r = ws
        induction ws with
        | nil => rfl
        | cons a r ih => simp [PyData.depthAll, PyData.depth, ih]
      have : eqD (.lst ((d :: e :: r).map fun p => .str (mkS p))) (.lst []) = some false := by
        rw [eqD_pln (p := .list ((d :: e :: r).map fun p => PyData.str (mkS p))) (q := .list []) (by simp only [toPy, tp, Option.map_some]) rfl (by simp only [plnD]; exact pl) rfl (by simp only [PyData.depth, dp]; omega) (by simp [PyData.depth, PyData.depthAll])]
        simp [PyData.eqv, PyData.eqvAll]
      simp only [oNe, this, Bool.not_false]
    have len4 : ¬ ((r.length + 1 + 1 + 1 + 1 + 1) = 4) := by omega
    have len3 : ¬ (r.length + 1 + 1 + 1 + 1 + 1 + 1 < 4) := by omega
    rw [q] at h16
    simp only [List.length_cons] at h16
    have h16' : r.length + 1 + 1 + 1 + 1 + 1 ≤ 16384 := h16
    rw [q] at sp
    simp only [List.map_cons] at sp x2 nn
    generalize hR : (r.map fun p => D.str (mkS p)) = R at *
    have hRl : R.length = r.length := by rw [← hR, List.length_map]
    generalize hJ : joinL 32 (d :: e :: r) = J at *
    by_cases h1 : a = cWr
    · subst h1
      simp only [c1, c2, c3, c4, c5, c6, c7, c8, c9, c10, c11, c12, if_true, if_false] at w1 w2 w3 w4
      simp [F_event_in, e_fnD, B_event_in, q32, qWr, qSe, qTa, qPa, sp, evP, tupS, oTuple_l, w1, w2, w3, w4, c1, c2, c3, c4, c5, c6, c7, c8, c9, c10, c11, c12, k0, k3, k4, x2, uq, unqD, hR, hRl, h16', hJ, len3]
      first | done | rfl
    · by_cases h2 : a = cSe
      · subst h2
        simp only [c1, c2, c3, c4, c5, c6, c7, c8, c9, c10, c11, c12, if_true, if_false] at w1 w2 w3 w4
        simp [F_event_in, e_fnD, B_event_in, q32, qWr, qSe, qTa, qPa, sp, evP, tupS, oTuple_l, w1, w2, w3, w4, c1, c2, c3, c4, c5, c6, c7, c8, c9, c10, c11, c12, k0, k3, k4, nn, hR, hRl, h16']
        done
      · by_cases h3 : a = cTa
        · subst h3
          simp only [c1, c2, c3, c4, c5, c6, c7, c8, c9, c10, c11, c12, if_true, if_false] at w1 w2 w3 w4
          simp [F_event_in, e_fnD, B_event_in, q32, qWr, qSe, qTa, qPa, sp, evP, tupS, oTuple_l, w1, w2, w3, w4, c1, c2, c3, c4, c5, c6, c7, c8, c9, c10, c11, c12, k0, k3, k4, hR, hRl, h16']
          done
        · by_cases h4 : a = cPa
          · subst h4
            simp only [c1, c2, c3, c4, c5, c6, c7, c8, c9, c10, c11, c12, if_true, if_false] at w1 w2 w3 w4
            simp [F_event_in, e_fnD, B_event_in, q32, qWr, qSe, qTa, qPa, sp, evP, tupS, oTuple_l, w1, w2, w3, w4, c1, c2, c3, c4, c5, c6, c7, c8, c9, c10, c11, c12, k0, k3, k4, h1, h2, h3, hR, hRl, h16']
            done
          · simp [F_event_in, e_fnD, B_event_in, q32, qWr, qSe, qTa, qPa, sp, evP, tupS, oTuple_l, w1, w2, w3, w4, c1, c2, c3, c4, c5, c6, c7, c8, c9, c10, c11, c12, k0, k3, k4, h1, h2, h3, h4, hR, hRl, h16']
            done
end G

set_option maxHeartbeats 4000000
namespace G
open PySem L2 DE
open PySem.StrLaws (replL replL_nil replL_hit replL_miss replace_list)
/-! ### replace -/
theorem rep_one (c : Nat) (z : List Nat) : ∀ l : List Nat, replL [c] z l = l.flatMap fun x => if x = c then z else [x]
  | [] => replL_nil
  | a :: l => by
    have ih := rep_one c z l
    by_cases h : a = c
    · subst h
      rw [replL_hit (by simp) (by simp)]
      simp [ih]
    · rw [replL_miss (by simpa using h)]
      simp [ih, h]
def esc1 (c : Nat) : List Nat := if c = 92 ∨ c = 34 then [92, c] else [c]
def esc (l : List Nat) : List Nat := l.flatMap esc1
theorem quo_esc (l : List Nat) : replL [34] [92, 34] (replL [92] [92, 92] l) = esc l := by
  rw [rep_one, rep_one, List.flatMap_assoc]
  unfold esc
  congr 1
  funext x
  unfold esc1
  by_cases h : x = 92
  · subst h; simp
  · by_cases h2 : x = 34
    · subst h2; simp
    · simp [h, h2]
def t1 (c : Nat) : List Nat := if c = 92 then [10] else if c = 34 then [92, 34] else [c]
def t2 (c : Nat) : List Nat := if c = 92 then [10] else if c = 34 then [9] else [c]
theorem rep_a : ∀ d : List Nat, replL [92, 92] [10] (esc d) = d.flatMap t1
  | [] => replL_nil
  | a :: d => by
    have ih := rep_a d
    have e : esc (a :: d) = esc1 a ++ esc d := by simp [esc]
    rw [e, List.flatMap_cons]
    by_cases h : a = 92
    · subst h
      have : esc1 92 ++ esc d = 92 :: 92 :: esc d := by simp [esc1]
      rw [this, replL_hit (by simp) (by simp)]
      simp [ih, t1]
    · by_cases h2 : a = 34
      · subst h2
        have : esc1 34 ++ esc d = 92 :: 34 :: esc d := by simp [esc1]
        rw [this, replL_miss (by simp), replL_miss (by simp [List.take])]
        simp [ih, t1]
      · have : esc1 a ++ esc d = a :: esc d := by simp [esc1, h, h2]
        rw [this, replL_miss (by intro z; have := congrArg List.head? z; simp at this; exact h this)]
        simp [ih, t1, h, h2]
theorem rep_b : ∀ d : List Nat, replL [92, 34] [9] (d.flatMap t1) = d.flatMap t2
  | [] => replL_nil
  | a :: d => by
    have ih := rep_b d
    rw [List.flatMap_cons, List.flatMap_cons]
    by_cases h : a = 92
    · subst h
      have : t1 92 ++ d.flatMap t1 = 10 :: d.flatMap t1 := by simp [t1]
      rw [this, replL_miss (by intro z; have := congrArg List.head? z; simp at this)]
      simp [ih, t2]
    · by_cases h2 : a = 34
      · subst h2
        have : t1 34 ++ d.flatMap t1 = 92 :: 34 :: d.flatMap t1 := by simp [t1]
        rw [this, replL_hit (by simp) (by simp)]
        simp [ih, t2]
      · have : t1 a ++ d.flatMap t1 = a :: d.flatMap t1 := by simp [t1, h, h2]
        rw [this, replL_miss (by intro z; have := congrArg List.head? z; simp at this; exact h this)]
        simp [ih, t2, h, h2]
/-- what the law reads between quotation marks -/
def inn (j : List Nat) : List Nat := replL [9] [34] (replL [10] [92] (replL [92, 34] [9] (replL [92, 92] [10] ((j.drop 1).dropLast))))
theorem inn_esc {d : List Nat} (h : ∀ c ∈ d, 32 ≤ c) : inn (34 :: (esc d ++ [34])) = d := by
  unfold inn
  have e : ((34 :: (esc d ++ [34])).drop 1).dropLast = esc d := by simp
  rw [e, rep_a, rep_b, rep_one, rep_one, List.flatMap_assoc, List.flatMap_assoc]
  induction d with
  | nil => rfl
  | cons a d ih =>
    have ih := ih (fun c hc => h c (List.mem_cons_of_mem _ hc)) (by simp)
    have ha := h a List.mem_cons_self
    rw [List.flatMap_cons, ih]
    have n1 : a ≠ 10 := by omega
    have n2 : a ≠ 9 := by omega
    by_cases h1 : a = 92
    · subst h1; simp [t2]
    · by_cases h2 : a = 34
      · subst h2; simp [t2]
      · simp [t2, h1, h2, n1, n2]
theorem repl_mkS {y z : List Nat} (hy : y ≠ []) (l : List Nat) : Txt.replace (mkS l) (mkS y) (mkS z) = mkS (replL y z l) := by
  apply str_ext
  have h1 : 1 ≤ (mkS y).length := by
    rw [mkS_len]
    cases y with
    | nil => exact absurd rfl hy
    | cons a r => simp
  rw [replace_list h1, mkS_list, mkS_list, mkS_list, mkS_list]
theorem repl_len {y z l : List Nat} (hy : y ≠ []) : (replL y z l).length ≤ l.length + (l.length + 1) * z.length := by
  have := TK.replace_len (mkS l) (mkS y) (mkS z)
  rw [repl_mkS hy, mkS_len, mkS_len, mkS_len] at this
  exact this
@[simp] theorem e_dRep (y z : Str) (f : ME) (ρ : DE.Env) (S : Sto) : dRep y z f ρ S = (f ρ S).bind fun d S1 => (match d with
  | .str x => if x.length + (x.length + 1) * z.length ≤ cap then .ok (.str (Txt.replace x y z)) S1 else .bad
  | _ => .bad) := id rfl
theorem sl_in2 (l : List Nat) (hl : l.length ≤ cap) (S : Sto) : slD (.str (mkS l)) (some 1) (some (-1)) S = .ok (.str (mkS ((l.drop 1).dropLast))) S := by
  by_cases h2 : 2 ≤ l.length
  · exact sl_in l h2 hl S
  · rcases l with _ | ⟨a, _ | ⟨b, r⟩⟩
    · rfl
    · simp only [slD, mkS_len, if_pos hl]
      rfl
    · exact absurd (by simp) h2
/-! ### the law's number -/
def lnD (l : List Nat) : D := if l = [] ∨ 16 < l.length ∨ l.all dig = false then .non else .int (NumText.digitsVal l)
theorem lc_nd {a : Option D} {n : List Nat} (S : Sto) : loopC [1] (gN 1) (dTest (dBin oNotIn (dVar 1) (dC (D.str (Str.ofString "0123456789"))))) (dVar 1) [a, none] (dSigns (mkS n)) S = .ok ((n.filter fun x => !dig x).map fun x => D.str ⟨#[x]⟩) S := by
  have := lc_signs (ρ := [a, none]) (S := S) (own := [1]) (g := gN 1) (t := dTest (dBin oNotIn (dVar 1) (dC (D.str (Str.ofString "0123456789"))))) (e := dVar 1) (s := mkS n) (r := fun x => [a, some (.str ⟨#[x]⟩)]) (p := fun x => !dig x) (v := fun x => .str ⟨#[x]⟩) fun x hx => ⟨by simp [wipeD], by simp [notin_digs], fun _ => by simp⟩
  rw [this, mkS_list]
end G

set_option maxHeartbeats 4000000
namespace G
open PySem L2 DE
open PySem.StrLaws (replL)
def rdQ (ps : List (List Nat)) : D := match ps with
  | [] => tupS []
  | a :: r => if a = cPa ∨ a = cTa then .tup ((a :: r).dropLast.map (fun p => D.str (mkS p)) ++ [lnD ((a :: r).getLast (by simp))]) else tupS (a :: r)
def rdP : List (List Nat) → D
  | a :: b :: c :: d :: r => if a = cWr then .tup [.str (mkS cWr), .str (mkS b), .str (mkS c), .str (mkS (inn (joinL 32 (d :: r))))]
    else if a = cSe then .tup [.str (mkS cSe), .str (mkS b), .str (mkS c), if d :: r = [[42]] then .non else tupS ((d :: r).filter fun p => decide (p ≠ []))]
    else rdQ (a :: b :: c :: d :: r)
  | ps => rdQ ps
def rdIn (l : List Nat) : D := rdP (splitL 32 l)
theorem sl_to1 (ds : List D) (h : ds ≠ []) (S : Sto) : slD (.lst ds) none (some (-1)) S = .ok (.lst ds.dropLast) S := by
  have hp : 0 < ds.length := List.length_pos_iff.mpr h
  simp only [slD]
  congr 2
  unfold cutD
  have e1 : HT.sIx ds.length ds.length (some (-1)) = ds.length - 1 := by
    show (if (-1 : Int) < 0 then ((-1 : Int) + (ds.length : Int)).toNat else min (-1 : Int).toNat ds.length) = _
    rw [if_pos (by decide)]; omega
  rw [e1, HT.sIx_none, List.drop_zero, Nat.sub_zero, List.dropLast_eq_take]
theorem sl_fr (ds : List D) (n : Nat) (S : Sto) : slD (.lst ds) (some (n : Int)) none S = .ok (.lst (ds.drop n)) S := by
  simp only [slD]
  congr 2
  unfold cutD
  rw [HT.sIx_none, HT.sIx_nat]
  rcases Nat.le_total n ds.length with h | h
  · rw [Nat.min_eq_left h, List.take_of_length_le (by simp)]
  · rw [Nat.min_eq_right h, List.drop_eq_nil_of_le (Nat.le_refl _), List.drop_eq_nil_of_le h]
    simp
theorem ix_lm1 (ds : List D) (h : ds ≠ []) (S : Sto) : oIx (.lst ds) (.int (-1)) S = .ok (ds.getLast h) S := by
  have hp : 0 < ds.length := List.length_pos_iff.mpr h
  have h1 : ¬ (0 ≤ (-1 : Int)) := by decide
  have h3 : ((-1 : Int) + (ds.length : Int)).toNat = ds.length - 1 := by omega
  have h5 : -(ds.length : Int) ≤ -1 := by omega
  have e : atI ds (-1) = some (ds.getLast h) := by
    simp only [atI, ixN]
    rw [if_neg h1, if_pos h5, h3, List.getLast_eq_getElem]
    exact List.getElem?_eq_getElem (by omega)
  simp [oIx, seqOf, e]
theorem in_pt (a : List Nat) (S : Sto) : oIn (.str (mkS a)) (.lst [.str (mkS cPa), .str (mkS cTa)]) S = .ok (.bl (decide (a = cPa ∨ a = cTa))) S := by
  rw [in_l]
  congr 2
  by_cases h1 : a = cPa
  · subst h1; simp
  · by_cases h2 : a = cTa
    · subst h2; simp
    · simp [h1, h2, Ne.symm h1, Ne.symm h2]
theorem lst_eq1 {ps : List (List Nat)} (h : ∀ p ∈ ps, As p) (S : Sto) : oEq (.lst (ps.map fun p => .str (mkS p))) (.lst [.str (mkS [42])]) S = .ok (.bl (decide (ps = [[42]]))) S := by
  have tp : toPys (ps.map fun p => D.str (mkS p)) = some (ps.map fun p => PyData.str (mkS p)) := by
    have := toPys_strs (ps.map mkS)
    rw [List.map_map, List.map_map] at this
    exact this
  have pl : plnDs (ps.map fun p => PyData.str (mkS p)) = true := by
    rw [plnDs_mem]
    intro y hy
    obtain ⟨p, hp, rfl⟩ := List.mem_map.mp hy
    exact (h p hp).pln
  have dp : PyData.depthAll (ps.map fun p => PyData.str (mkS p)) = 0 := by
    clear tp pl h
    induction ps with
    | nil => rfl
    | cons a r ih => simp [PyData.depthAll, PyData.depth, ih]
  have e := eqD_pln (d := .lst (ps.map fun p => .str (mkS p))) (e := .lst [.str (mkS [42])]) (p := .list (ps.map fun p => PyData.str (mkS p))) (q := .list [.str (mkS [42])]) (by simp only [toPy, tp, Option.map_some]) (by simp [toPy, toPys]) (by simp only [plnD]; exact pl) (by decide +kernel) (by simp only [PyData.depth, dp]; omega) (by simp [PyData.depth, PyData.depthAll])
  simp only [oEq, e]
  congr 2
  have := eqvAll_strs (ps.map mkS) [mkS [42]]
  rw [List.map_map] at this
  have t : PyData.eqv (.list (ps.map fun p => PyData.str (mkS p))) (.list [.str (mkS [42])]) = PyData.eqvAll (ps.map fun p => PyData.str (mkS p)) [.str (mkS [42])] := by simp only [PyData.eqv]
  rw [t]
  have this : PyData.eqvAll (ps.map fun p => PyData.str (mkS p)) [.str (mkS [42])] = decide (ps.map mkS = [mkS [42]]) := this
  rw [this]
  congr 1
  rw [eq_iff_iff]
  constructor
  · intro z
    rcases ps with _ | ⟨a, _ | ⟨b, r⟩⟩
    · cases z
    · simp only [List.map_cons, List.map_nil, List.cons.injEq, and_true] at z
      rw [mkS_inj.mp z]
    · simp at z
  · intro z; rw [z]; rfl
theorem lc_ne {ρ0 : List (Option D)} (h3 : ρ0.length = 3) : ∀ (ps : List (List Nat)) (S : Sto), (∀ p ∈ ps, As p) → loopC [3] (gN 3) (dTest (dBin oNe (dVar 3) (dC (.str (mkS []))))) (dVar 3) (ρ0 ++ [none]) (ps.map fun p => .str (mkS p)) S = .ok ((ps.filter fun p => decide (p ≠ [])).map fun p => .str (mkS p)) S
  | [], S, _ => rfl
  | p :: ps, S, h => by
    have ih := lc_ne h3 ps S fun x hx => h x (List.mem_cons_of_mem _ hx)
    have n := ne_s (h p List.mem_cons_self) as0 S
    obtain ⟨a, b, c, rfl⟩ : ∃ a b c, ρ0 = [a, b, c] := by
      rcases ρ0 with _ | ⟨a, _ | ⟨b, _ | ⟨c, _ | ⟨d, r⟩⟩⟩⟩ <;> simp at h3
      exact ⟨a, b, c, rfl⟩
    simp only [List.map_cons, List.cons_append, List.nil_append] at ih ⊢
    unfold loopC
    by_cases hp : p = []
    · subst hp
      simp [wipeD, n]
      simpa using ih
    · simp [wipeD, n, hp]
      rw [ih]
      simp
theorem q9 : Str.ofString "\t" = mkS [9] := by decide +kernel
theorem q10 : Str.ofString "\n" = mkS [10] := by decide +kernel
theorem q9292 : Str.ofString "\\\\" = mkS [92, 92] := by decide +kernel
theorem q9234 : Str.ofString "\\" ++ Str.ofString "\"" = mkS [92, 34] := by decide +kernel
/-- four replaces in a row -/
theorem inn_ok {j : List Nat} (h : j.length ≤ 1010) : (let m := (j.drop 1).dropLast
    (m.length + (m.length + 1) * 1 ≤ cap) ∧ ((replL [92, 92] [10] m).length + ((replL [92, 92] [10] m).length + 1) * 1 ≤ cap) ∧ ((replL [92, 34] [9] (replL [92, 92] [10] m)).length + ((replL [92, 34] [9] (replL [92, 92] [10] m)).length + 1) * 1 ≤ cap) ∧ ((replL [10] [92] (replL [92, 34] [9] (replL [92, 92] [10] m))).length + ((replL [10] [92] (replL [92, 34] [9] (replL [92, 92] [10] m))).length + 1) * 1 ≤ cap)) := by
  intro m
  have hm : m.length ≤ 1010 := by show ((j.drop 1).dropLast).length ≤ _; simp; omega
  have r1 := repl_len (y := [92, 92]) (z := [10]) (l := m) (by simp)
  have r2 := repl_len (y := [92, 34]) (z := [9]) (l := replL [92, 92] [10] m) (by simp)
  have r3 := repl_len (y := [10]) (z := [92]) (l := replL [92, 34] [9] (replL [92, 92] [10] m)) (by simp)
  simp only [List.length_cons, List.length_nil, Nat.zero_add] at r1 r2 r3
  have hc : 50000 ≤ cap := by decide
  refine ⟨by omega, by omega, by omega, by omega⟩
theorem tup_app (xs ys : List D) (h : xs.length + ys.length ≤ cap) (S : Sto) : oAdd (.tup xs) (.tup ys) S = .ok (.tup (xs ++ ys)) S := by
  simp only [oAdd]
  first
    | rw [if_pos h]
    | simp [h]
end G

set_option maxHeartbeats 4000000
namespace G
open PySem L2 DE
open PySem.StrLaws (replL)
def okW (l : List Nat) : Prop := wS (mkS l) = true
theorem okW_iff {l : List Nat} (h : okW l) : 1 ≤ l.length ∧ l.length ≤ 8 ∧ ∀ c ∈ l, 97 ≤ c ∧ c ≤ 122 := by
  unfold okW wS at h
  rw [mkS_len, mkS_list] at h
  simp only [Bool.and_eq_true, decide_eq_true_eq, List.all_eq_true] at h
  refine ⟨h.1, h.2.1, fun c hc => ?_⟩
  have := h.2.2 c hc
  simpa [low] using this
theorem okW.as {l : List Nat} (h : okW l) : As l := ⟨Nat.le_trans (okW_iff h).2.1 (by decide), fun c hc => by have := (okW_iff h).2.2 c hc; omega⟩
theorem okW.free {l : List Nat} (h : okW l) : 32 ∉ l := fun z => by have := (okW_iff h).2.2 32 z; omega
theorem okW.ne {l : List Nat} (h : okW l) : l ≠ [] := fun z => by have := (okW_iff h).1; rw [z] at this; simp at this
theorem okW.star {l : List Nat} (h : okW l) : l ≠ [42] := fun z => by
  have := (okW_iff h).2.2 42 (by rw [z]; simp)
  omega
def okV (l : List Nat) : Prop := vS (mkS l) = true
theorem okV_iff {l : List Nat} (h : okV l) : l.length ≤ 40 ∧ ∀ c ∈ l, 32 ≤ c ∧ c ≤ 126 := by
  unfold okV vS at h
  rw [mkS_len, mkS_list] at h
  simp only [Bool.and_eq_true, decide_eq_true_eq, List.all_eq_true] at h
  refine ⟨h.1, fun c hc => ?_⟩
  have := h.2 c hc
  simpa [prn] using this
inductive Ev where
  | write (p k v : List Nat) | send0 (p q : List Nat) | send (p q : List Nat) (ks : List (List Nat)) | take (q p : List Nat) (n : Nat) | pass (p : List Nat) (n : Nat) | words (ws : List (List Nat))
def Ev.d : Ev → D
  | .write p k v => .tup [.str (mkS cWr), .str (mkS p), .str (mkS k), .str (mkS v)]
  | .send0 p q => .tup [.str (mkS cSe), .str (mkS p), .str (mkS q), .non]
  | .send p q ks => .tup [.str (mkS cSe), .str (mkS p), .str (mkS q), tupS ks]
  | .take q p n => .tup [.str (mkS cTa), .str (mkS q), .str (mkS p), .int n]
  | .pass p n => .tup [.str (mkS cPa), .str (mkS p), .int n]
  | .words ws => tupS ws
def Ev.parts : Ev → List (List Nat)
  | .write p k v => [cWr, p, k, 34 :: (esc v ++ [34])]
  | .send0 p q => [cSe, p, q, [42]]
  | .send p q ks => cSe :: p :: q :: (if ks = [] then [[]] else ks)
  | .take q p n => [cTa, q, p, TL.numL n]
  | .pass p n => [cPa, p, TL.numL n]
  | .words ws => ws
def Ev.txt (e : Ev) : List Nat := joinL 32 e.parts
def Ev.ok : Ev → Prop
  | .write p k v => okW p ∧ okW k ∧ okV v
  | .send0 p q => okW p ∧ okW q
  | .send p q ks => okW p ∧ okW q ∧ (∀ k ∈ ks, okW k) ∧ Asc (ks.map mkS) ∧ ks.length ≤ 1000
  | .take q p n => okW q ∧ okW p ∧ n ≤ 10 ^ 15
  | .pass p n => okW p ∧ 1 ≤ n ∧ n ≤ 10 ^ 15
  | .words ws => (∀ w ∈ ws, okW w) ∧ (∃ a b r, ws = a :: b :: r ∧ (a ≠ cWr ∧ a ≠ cSe ∧ a ≠ cTa ∧ a ≠ cPa) ∧ r.length ≤ 1) ∧ evB (tupS ws) = true
theorem all_str (ks : List (List Nat)) : ((ks.map fun k => D.str (mkS k)).all wD) = ks.all fun k => wS (mkS k) := by
  induction ks with
  | nil => rfl
  | cons a r ih => simp only [List.map_cons, List.all_cons, ih]; rfl
theorem eqWr : (mkS cWr == ("write" : Str)) = true := by decide +kernel
theorem Ev.evB : ∀ {e : Ev}, e.ok → G.evB e.d = true
  | .write p k v, ⟨h1, h2, h3⟩ => by
    have a : wS (mkS cWr) = true := by decide +kernel
    have b : (mkS cWr == ("write" : Str)) = true := by decide +kernel
    unfold okW at h1 h2
    unfold okV at h3
    simp [Ev.d, G.evB, restB, wD, vD, a, b, h1, h2, h3]
  | .send0 p q, ⟨h1, h2⟩ => by
    have a : wS (mkS cSe) = true := by decide +kernel
    have b : (mkS cSe == ("write" : Str)) = false := by decide +kernel
    have c : (mkS cSe == ("send" : Str)) = true := by decide +kernel
    unfold okW at h1 h2
    simp [Ev.d, G.evB, restB, wD, kD, a, b, c, h1, h2]
  | .send p q ks, ⟨h1, h2, h3, h4, h5⟩ => by
    have a : wS (mkS cSe) = true := by decide +kernel
    have b : (mkS cSe == ("write" : Str)) = false := by decide +kernel
    have c : (mkS cSe == ("send" : Str)) = true := by decide +kernel
    have d : (ks.all fun k => wS (mkS k)) = true := List.all_eq_true.mpr h3
    unfold okW at h1 h2
    have e := strs_of ks
    simp only [Ev.d, G.evB, restB, wD, kD, tupS, a, b, c, h1, h2, all_str, d, e, Bool.true_and, if_true, Bool.false_eq_true, if_false]
    exact decide_eq_true h4
  | .take q p n, ⟨h1, h2, h3⟩ => by
    have a : wS (mkS cTa) = true := by decide +kernel
    have b : (mkS cTa == ("write" : Str)) = false := by decide +kernel
    have c : (mkS cTa == ("send" : Str)) = false := by decide +kernel
    have d : (mkS cTa == ("take" : Str)) = true := by decide +kernel
    unfold okW at h1 h2
    simp [Ev.d, G.evB, restB, wD, pD, a, b, c, d, h1, h2]
    omega
  | .pass p n, ⟨h1, h2, h3⟩ => by
    have a : wS (mkS cPa) = true := by decide +kernel
    have d : (mkS cPa == ("pass" : Str)) = true := by decide +kernel
    unfold okW at h1
    simp [Ev.d, G.evB, restB, wD, nD, a, d, h1]
    omega
  | .words ws, ⟨_, _, h⟩ => h
theorem gd_str {l : List Nat} (h : okW l) : Gd 0 (.str (mkS l)) := .str _ ⟨by rw [mkS_len]; exact Nat.le_trans (okW_iff h).2.1 (by decide), by rw [mkS_list]; exact h.as.2⟩
theorem gd_const {l : List Nat} (h : l.length ≤ 1000 ∧ ∀ c ∈ l, c < 128) : Gd 0 (.str (mkS l)) := .str _ ⟨by rw [mkS_len]; exact h.1, by rw [mkS_list]; exact h.2⟩
theorem gd_tup {n : Nat} {ds : List D} (h : ∀ d ∈ ds, Gd n d) (hl : ds.length ≤ 1000) : Gd (n + 1) (.tup ds) := .tup ds h hl
theorem gd_tupS {ks : List (List Nat)} (h : ∀ k ∈ ks, okW k) (hl : ks.length ≤ 1000) : Gd 1 (tupS ks) := gd_tup (fun d hd => by
  obtain ⟨k, hk, rfl⟩ := List.mem_map.mp hd
  exact gd_str (h k hk)) (by simpa using hl)
theorem Ev.gd : ∀ {e : Ev}, e.ok → Gd 2 e.d
  | .write p k v, ⟨h1, h2, h3⟩ => gd_tup (fun d hd => by
    simp only [List.mem_cons, List.not_mem_nil, or_false] at hd
    rcases hd with rfl | rfl | rfl | rfl
    · exact (gd_const (by decide)).mono (Nat.zero_le _)
    · exact (gd_str h1).mono (Nat.zero_le _)
    · exact (gd_str h2).mono (Nat.zero_le _)
    · exact (gd_const ⟨Nat.le_trans (okV_iff h3).1 (by decide), fun c hc => by have := (okV_iff h3).2 c hc; omega⟩).mono (Nat.zero_le _)) (by simp)
  | .send0 p q, ⟨h1, h2⟩ => gd_tup (fun d hd => by
    simp only [List.mem_cons, List.not_mem_nil, or_false] at hd
    rcases hd with rfl | rfl | rfl | rfl
    · exact (gd_const (by decide)).mono (Nat.zero_le _)
    · exact (gd_str h1).mono (Nat.zero_le _)
    · exact (gd_str h2).mono (Nat.zero_le _)
    · exact .non) (by simp)
  | .send p q ks, ⟨h1, h2, h3, h4, h5⟩ => gd_tup (fun d hd => by
    simp only [List.mem_cons, List.not_mem_nil, or_false] at hd
    rcases hd with rfl | rfl | rfl | rfl
    · exact (gd_const (by decide)).mono (Nat.zero_le _)
    · exact (gd_str h1).mono (Nat.zero_le _)
    · exact (gd_str h2).mono (Nat.zero_le _)
    · exact gd_tupS h3 h5) (by simp)
  | .take q p n, ⟨h1, h2, h3⟩ => gd_tup (fun d hd => by
    simp only [List.mem_cons, List.not_mem_nil, or_false] at hd
    rcases hd with rfl | rfl | rfl | rfl
    · exact (gd_const (by decide)).mono (Nat.zero_le _)
    · exact (gd_str h1).mono (Nat.zero_le _)
    · exact (gd_str h2).mono (Nat.zero_le _)
    · exact .int _) (by simp)
  | .pass p n, ⟨h1, h2, h3⟩ => gd_tup (fun d hd => by
    simp only [List.mem_cons, List.not_mem_nil, or_false] at hd
    rcases hd with rfl | rfl | rfl
    · exact (gd_const (by decide)).mono (Nat.zero_le _)
    · exact (gd_str h1).mono (Nat.zero_le _)
    · exact .int _) (by simp)
  | .words ws, ⟨h1, ⟨a, b, r, e, _, hr⟩, _⟩ => (gd_tupS h1 (by rw [e]; simp; omega)).mono (by omega)
/-! ### what an event is -/
theorem str_ex (s : Str) : ∃ l, s = mkS l := ⟨s.cps.toList, (mkS_of s).symm⟩
theorem wD_ex {d : D} (h : wD d = true) : ∃ l, d = .str (mkS l) ∧ okW l := by
  obtain ⟨s, rfl⟩ := wD_str h
  obtain ⟨l, rfl⟩ := str_ex s
  exact ⟨l, rfl, h⟩
theorem vD_ex {d : D} (h : vD d = true) : ∃ l, d = .str (mkS l) ∧ okV l := by
  cases d <;> simp only [vD] at h <;> try cases h
  rename_i s
  obtain ⟨l, rfl⟩ := str_ex s
  exact ⟨l, rfl, h⟩
theorem words_ex : ∀ {ds : List D}, ds.all wD = true → ∃ ks : List (List Nat), ds = ks.map (fun k => .str (mkS k)) ∧ ∀ k ∈ ks, okW k
  | [], _ => ⟨[], rfl, by simp⟩
  | d :: ds, h => by
    simp only [List.all_cons, Bool.and_eq_true] at h
    obtain ⟨l, rfl, hl⟩ := wD_ex h.1
    obtain ⟨ks, rfl, hk⟩ := words_ex h.2
    exact ⟨l :: ks, rfl, fun k hk' => (List.mem_cons.mp hk').elim (fun e => e ▸ hl) (hk k)⟩
theorem beq_c {l c : List Nat} {x : Str} (e : x = mkS c) : (mkS l == x) = decide (l = c) := by
  subst e
  rw [Bool.eq_iff_iff, beq_iff_eq, decide_eq_true_eq]
  exact mkS_inj
theorem aln_no : ∀ c ∈ [cWr, cSe, cTa, cPa], inV (.str (mkS c)) ALN = false ∧ inV (.str (mkS c)) WWD = false := by decide +kernel
theorem evB_ev {n : Nat} {d : D} (g : Gd n d) (h : G.evB d = true) : ∃ e : Ev, e.ok ∧ e.d = d := by
  unfold G.evB at h
  split at h
  · rename_i s b r
    simp only [Bool.and_eq_true] at h
    obtain ⟨h1, h2, h3⟩ := h
    obtain ⟨a, rfl⟩ := str_ex s
    obtain ⟨b, rfl, hb⟩ := wD_ex h2
    have ha : okW a := h1
    have hev : G.evB (.tup (.str (mkS a) :: .str (mkS b) :: r)) = true := by
      simp only [G.evB, Bool.and_eq_true]
      exact ⟨h1, h2, h3⟩
    have nal : ∀ c, c ∈ [cWr, cSe, cTa, cPa] → inV (.str (mkS a)) ALN = true → a ≠ c := fun c hc z e => by
      subst e; rw [(aln_no a hc).1] at z; cases z
    have nww : ∀ c, c ∈ [cWr, cSe, cTa, cPa] → inV (.str (mkS a)) WWD = true → a ≠ c := fun c hc z e => by
      subst e; rw [(aln_no a hc).2] at z; cases z
    rcases r with _ | ⟨c, _ | ⟨d, _ | ⟨e, r⟩⟩⟩
    · have h3 : inV (.str (mkS a)) ALN = true := h3
      refine ⟨.words [a, b], ⟨?_, ⟨a, b, [], rfl, ⟨nal _ (by simp) h3, nal _ (by simp) h3, nal _ (by simp) h3, nal _ (by simp) h3⟩, by simp⟩, hev⟩, rfl⟩
      intro w hw
      simp only [List.mem_cons, List.not_mem_nil, or_false] at hw
      rcases hw with rfl | rfl <;> assumption
    · simp only [restB] at h3
      rw [beq_c qPa] at h3
      by_cases hp : a = cPa
      · subst hp
        simp only [decide_true, if_true] at h3
        cases c <;> simp only [nD] at h3 <;> try cases h3
        rename_i i
        simp only [Bool.and_eq_true, decide_eq_true_eq] at h3
        obtain ⟨k, rfl⟩ : ∃ k : Nat, i = k := ⟨i.toNat, by omega⟩
        exact ⟨.pass b k, ⟨hb, by omega, by omega⟩, rfl⟩
      · simp only [hp, decide_false, Bool.false_eq_true, if_false, Bool.and_eq_true] at h3
        obtain ⟨c, rfl, hc⟩ := wD_ex h3.2
        refine ⟨.words [a, b, c], ⟨?_, ⟨a, b, [c], rfl, ⟨nww _ (by simp) h3.1, nww _ (by simp) h3.1, nww _ (by simp) h3.1, hp⟩, by simp⟩, hev⟩, rfl⟩
        intro w hw
        simp only [List.mem_cons, List.not_mem_nil, or_false] at hw
        rcases hw with rfl | rfl | rfl <;> assumption
    · simp only [restB] at h3
      rw [beq_c qWr, beq_c qSe, beq_c qTa] at h3
      by_cases hw : a = cWr
      · subst hw
        simp only [decide_true, if_true, Bool.and_eq_true] at h3
        obtain ⟨c, rfl, hc⟩ := wD_ex h3.1
        obtain ⟨d, rfl, hd⟩ := vD_ex h3.2
        exact ⟨.write b c d, ⟨hb, hc, hd⟩, rfl⟩
      · by_cases hs : a = cSe
        · subst hs
          simp only [c4, decide_false, Bool.false_eq_true, if_false, decide_true, if_true, Bool.and_eq_true] at h3
          obtain ⟨c, rfl, hc⟩ := wD_ex h3.1
          have h4 := h3.2
          unfold kD at h4
          split at h4
          · exact ⟨.send0 b c, ⟨hb, hc⟩, rfl⟩
          · rename_i ds
            simp only [Bool.and_eq_true] at h4
            obtain ⟨ks, rfl, hk⟩ := words_ex h4.1
            have h5 := h4.2
            rw [strs_of] at h5
            have hlen : ks.length ≤ 1000 := by
              cases g with
              | tup _ g1 _ =>
                have := g1 (.tup (ks.map fun k => .str (mkS k))) (by simp)
                cases this with
                | tup _ _ g3 => simpa using g3
            exact ⟨.send b c ks, ⟨hb, hc, hk, of_decide_eq_true h5, hlen⟩, rfl⟩
          · cases h4
        · by_cases ht : a = cTa
          · subst ht
            simp only [c7, c8, decide_false, Bool.false_eq_true, if_false, decide_true, if_true, Bool.and_eq_true] at h3
            obtain ⟨c, rfl, hc⟩ := wD_ex h3.1
            have h4 := h3.2
            cases d <;> simp only [pD] at h4 <;> try cases h4
            rename_i i
            simp only [Bool.or_eq_true, Bool.and_eq_true, decide_eq_true_eq, beq_iff_eq] at h4
            obtain ⟨k, rfl⟩ : ∃ k : Nat, i = k := ⟨i.toNat, by omega⟩
            exact ⟨.take b c k, ⟨hb, hc, by omega⟩, rfl⟩
          · simp only [hw, hs, ht, decide_false, Bool.false_eq_true, if_false] at h3
    · simp only [restB] at h3
      cases h3
  · cases h
end G

set_option maxHeartbeats 4000000
namespace G
open PySem L2 DE
open PySem.StrLaws (replL)
theorem e_dFmt (f : ME) (ρ : DE.Env) (S : Sto) : dFmt f ρ S = (f ρ S).bind fun d S1 => (match d with
  | .str x => if x.length ≤ cap then .ok (.str x) S1 else .bad
  | .int i => if i.natAbs.log2 < 1920 then .ok (.str (Str.ofString (toString i))) S1 else .bad
  | _ => .bad) := id rfl
theorem e_dJs0 (acc : Str) (ρ : DE.Env) (S : Sto) : dJs [] acc ρ S = .ok (.str acc) S := id rfl
theorem e_dJs1 (f : ME) (fs : List ME) (acc : Str) (ρ : DE.Env) (S : Sto) : dJs (f :: fs) acc ρ S = (f ρ S).bind fun d S1 => (match d with
  | .str y => if (acc ++ y).length ≤ cap then dJs fs (acc ++ y) ρ S1 else .bad
  | _ => .bad) := id rfl
@[simp] theorem e_aStar (f : ME) (fa : MA) (ρ : DE.Env) (S : Sto) : aStar f fa ρ S = (f ρ S).bind fun d S1 => (match seqOf S1 d with
  | some ds => (fa ρ S1).bind fun es S2 => .ok (ds ++ es) S2
  | none => .bad) := id rfl
theorem num_txt (n : Nat) : Str.ofString (toString (n : Int)) = mkS (TL.numL n) := by
  apply str_ext
  rw [mkS_list]
  exact TL.tl_num n
theorem num_log {n : Nat} (h : n ≤ 10 ^ 15) : (n : Int).natAbs.log2 < 1920 := by
  rw [Int.natAbs_natCast]
  exact log2_lt (Nat.lt_of_le_of_lt h (by decide))
theorem quoted_eq {d : List Nat} (h : d.length ≤ 1000) (S : Sto) : F_quoted [.str (mkS d)] S = .ok (.str (mkS (34 :: (esc d ++ [34])))) S := by
  have hc : 50000 ≤ cap := by decide
  have q1 : Str.ofString "\\\\" = mkS [92, 92] := by decide +kernel
  have q2 : Str.ofString "\\\"" = mkS [92, 34] := by decide +kernel
  have r1 := repl_mkS (y := [92]) (z := [92, 92]) (by simp) d
  have r2 := repl_mkS (y := [34]) (z := [92, 34]) (by simp) (replL [92] [92, 92] d)
  have l1 := repl_len (y := [92]) (z := [92, 92]) (l := d) (by simp)
  have l2 := repl_len (y := [34]) (z := [92, 34]) (l := replL [92] [92, 92] d) (by simp)
  have qe := quo_esc d
  simp only [List.length_cons, List.length_nil, Nat.zero_add] at l1 l2
  have o1 : d.length + (d.length + 1) * 2 ≤ cap := by omega
  have o2 : (replL [92] [92, 92] d).length + ((replL [92] [92, 92] d).length + 1) * 2 ≤ cap := by omega
  rw [qe] at r2 l2
  generalize replL [92] [92, 92] d = E1 at *
  have a1 := add_s [34] (esc d) (by simp; omega) S
  have a2 := add_s ([34] ++ esc d) [34] (by simp; omega) S
  simp only [List.cons_append, List.nil_append] at a1 a2
  simp [F_quoted, e_fnD, B_quoted, q34, q92, q1, q2, r1, r2, o1, o2, a1, a2]
/-- a part of an event: a text or a number -/
abbrev Pt := List Nat ⊕ Nat
def ptD : Pt → D
  | .inl l => .str (mkS l)
  | .inr n => .int n
def ptL : Pt → List Nat
  | .inl l => l
  | .inr n => TL.numL n
def ptOk : Pt → Prop
  | .inl l => True
  | .inr n => n ≤ 10 ^ 15
theorem oStr_pt {p : Pt} (h : ptOk p) (S : Sto) : oStr [ptD p] S = .ok (.str (mkS (ptL p))) S := by
  cases p with
  | inl l => rfl
  | inr n =>
    have lg' : n.log2 < 1920 := by simpa using num_log h
    have nt' : Str.ofString ((n : Int).repr) = mkS (TL.numL n) := num_txt n
    simp [ptD, ptL, oStr, lg', nt']
theorem lc_f (a b c d e f : Option D) : ∀ (ps : List Pt) (S : Sto), (∀ p ∈ ps, ptOk p) → loopC [6] (gN 6) mYes (dBlt oStr (aCons (dVar 6) aNil)) [a, b, c, d, e, f, none] (ps.map ptD) S = .ok ((ps.map ptL).map fun l => .str (mkS l)) S
  | [], S, _ => rfl
  | p :: ps, S, h => by
    have ih := lc_f a b c d e f ps S fun x hx => h x (List.mem_cons_of_mem _ hx)
    have o := oStr_pt (h p List.mem_cons_self) S
    simp only [List.map_cons]
    unfold loopC
    simp [wipeD, o]
    simp at ih
    rw [ih]
    simp
theorem lc_w (a b c : Option D) : ∀ (ps : List Pt) (S : Sto), (∀ p ∈ ps, ptOk p) → loopC [3] (gN 3) mYes (dBlt oStr (aCons (dVar 3) aNil)) [a, b, c, none] (ps.map ptD) S = .ok ((ps.map ptL).map fun l => .str (mkS l)) S
  | [], S, _ => rfl
  | p :: ps, S, h => by
    have ih := lc_w a b c ps S fun x hx => h x (List.mem_cons_of_mem _ hx)
    have o := oStr_pt (h p List.mem_cons_self) S
    simp only [List.map_cons]
    unfold loopC
    simp [wipeD, o]
    simp at ih
    rw [ih]
    simp
def plain : Ev → Option (List Pt)
  | .take q p n => some [.inl cTa, .inl q, .inl p, .inr n]
  | .pass p n => some [.inl cPa, .inl p, .inr n]
  | .words ws => some (ws.map .inl)
  | _ => none
theorem plain_d : ∀ {e : Ev} {ps : List Pt}, plain e = some ps → e.d = .tup (ps.map ptD) ∧ e.parts = ps.map ptL
  | .take q p n, _, h => by cases h; exact ⟨rfl, rfl⟩
  | .pass p n, _, h => by cases h; exact ⟨rfl, rfl⟩
  | .words ws, _, h => by
    cases h
    refine ⟨?_, ?_⟩
    · simp only [Ev.d, tupS, List.map_map]; rfl
    · simp only [Ev.parts, List.map_map]
      exact (List.map_id _).symm
theorem plain_ok : ∀ {e : Ev} {ps : List Pt}, e.ok → plain e = some ps → (∀ p ∈ ps, ptOk p) ∧ (∃ a r, ps = .inl a :: r ∧ As a ∧ a ≠ cWr ∧ a ≠ cSe ∧ r.length ≤ 3) ∧ (ps.map fun p => (ptL p).length).sum ≤ 64
  | .take q p n, ps, ⟨h1, h2, h3⟩, h => by
    cases h
    have l1 := (okW_iff h1).2.1
    have l2 := (okW_iff h2).2.1
    have l3 : (TL.numL n).length ≤ 16 := TL.numL_len (by decide) (Nat.lt_of_le_of_lt h3 (by decide))
    refine ⟨fun p hp => ?_, ⟨_, _, rfl, aTa, by decide, by decide, by simp⟩, ?_⟩
    · simp only [List.mem_cons, List.not_mem_nil, or_false] at hp
      rcases hp with rfl | rfl | rfl | rfl <;> first | trivial | exact h3
    · have : cTa.length = 4 := rfl
      simp only [List.map_cons, List.map_nil, List.sum_cons, List.sum_nil, ptL]
      omega
  | .pass p n, ps, ⟨h1, h2, h3⟩, h => by
    cases h
    have l1 := (okW_iff h1).2.1
    have l3 : (TL.numL n).length ≤ 16 := TL.numL_len (by decide) (Nat.lt_of_le_of_lt h3 (by decide))
    refine ⟨fun p hp => ?_, ⟨_, _, rfl, aPa, by decide, by decide, by simp⟩, ?_⟩
    · simp only [List.mem_cons, List.not_mem_nil, or_false] at hp
      rcases hp with rfl | rfl | rfl <;> first | trivial | exact h3
    · have : cPa.length = 4 := rfl
      simp only [List.map_cons, List.map_nil, List.sum_cons, List.sum_nil, ptL]
      omega
  | .words ws, ps, ⟨h1, ⟨a, b, r, e, ⟨n1, n2, _, _⟩, hr⟩, h3⟩, h => by
    cases h
    subst e
    have l1 := (okW_iff (h1 a (by simp))).2.1
    have l2 := (okW_iff (h1 b (by simp))).2.1
    refine ⟨fun p hp => ?_, ⟨a, (b :: r).map .inl, rfl, (h1 a (by simp)).as, n1, n2, by simp; omega⟩, ?_⟩
    · obtain ⟨w, _, rfl⟩ := List.mem_map.mp hp
      trivial
    · rcases r with _ | ⟨c, _ | ⟨d, r⟩⟩
      · simp only [List.map_cons, List.map_nil, List.sum_cons, List.sum_nil, ptL]; omega
      · have l3 := (okW_iff (h1 c (by simp))).2.1
        simp only [List.map_cons, List.map_nil, List.sum_cons, List.sum_nil, ptL]; omega
      · simp at hr
theorem plain_none : ∀ {e : Ev}, plain e = none → (∃ p k v, e = .write p k v) ∨ (∃ p q, e = .send0 p q) ∨ ∃ p q ks, e = .send p q ks
  | .write p k v, _ => .inl ⟨p, k, v, rfl⟩
  | .send0 p q, _ => .inr (.inl ⟨p, q, rfl⟩)
  | .send p q ks, _ => .inr (.inr ⟨p, q, ks, rfl⟩)
  | .take q p n, h => by cases h
  | .pass p n, h => by cases h
  | .words ws, h => by cases h
theorem qWrs : Str.ofString "write " = mkS (cWr ++ [32]) := by decide +kernel
theorem qSes : Str.ofString "send " = mkS (cSe ++ [32]) := by decide +kernel
theorem q3242 : Str.ofString " *" = mkS [32, 42] := by decide +kernel
theorem q3234 : Str.ofString " \"" = mkS [32, 34] := by decide +kernel
theorem esc_len (d : List Nat) : (esc d).length ≤ 2 * d.length := by
  unfold esc
  induction d with
  | nil => simp
  | cons a d ih =>
    rw [List.flatMap_cons, List.length_append, List.length_cons]
    have : (esc1 a).length ≤ 2 := by unfold esc1; split <;> simp
    omega
theorem depth_strs (ks : List (List Nat)) : PyData.depthAll (ks.map fun p => PyData.str (mkS p)) = 0 := by
  induction ks with
  | nil => rfl
  | cons a r ih => simp [PyData.depthAll, PyData.depth, ih]
theorem sum_words {ks : List (List Nat)} (h3 : ∀ k ∈ ks, okW k) : (ks.map fun p => p.length).sum ≤ 8 * ks.length := by
  induction ks with
  | nil => simp
  | cons a r ih =>
    have h4 := ih fun k hk => h3 k (List.mem_cons_of_mem _ hk)
    have h5 := (okW_iff (h3 a List.mem_cons_self)).2.1
    simp only [List.map_cons, List.sum_cons, List.length_cons]
    omega
theorem Ev.format {e : Ev} (h : e.ok) (S : Sto) : F_format_event [e.d] S = .ok (.str (mkS e.txt)) S := by
  have ie := is_event_eq (Ev.gd h) S
  rw [Ev.evB h] at ie
  have hc : 50000 ≤ cap := by decide
  have k0 : ¬ cap = 0 := by decide
  have k2 : 2 ≤ cap := by decide
  have k3 : 3 ≤ cap := by decide
  have k4 : 4 ≤ cap := by decide
  cases pe : plain e with
  | some ps =>
    obtain ⟨e1, e2⟩ := plain_d pe
    obtain ⟨p1, ⟨a, r, rfl, aa, n1, n2, lr⟩, p3⟩ := plain_ok h pe
    have w1 := p_s aWr aa
    have w2 := p_s aSe aa
    rw [if_neg n1] at w1
    rw [if_neg n2] at w2
    have lc := lc_f (some e.d) none none none none none (.inl a :: r) S p1
    have jn := join_s ((Sum.inl a :: r).map ptL) (by
      have : (((Sum.inl a :: r).map ptL).map fun p => p.length).sum = ((Sum.inl a :: r).map fun p => (ptL p).length).sum := by rw [List.map_map]; rfl
      rw [this]
      simp only [List.length_map, List.length_cons]
      omega) S
    unfold Ev.txt
    rw [e2]
    rw [e1] at ie lc ⊢
    have lcap : ((Sum.inl a :: r).map ptD).length ≤ cap := by simp; omega
    have ih : (Sum.inl a :: r).map ptD = .str (mkS a) :: r.map ptD := rfl
    rw [ih] at ie lc lcap ⊢
    generalize ((Sum.inl a :: r).map ptL).map (fun l => D.str (mkS l)) = J at *
    have go : ∀ p : MP, ∀ x y : ME, True := fun _ _ _ => trivial
    rcases r with _ | ⟨b, _ | ⟨c, _ | ⟨d, _ | ⟨e', r⟩⟩⟩⟩
    · simp only [List.map_cons, List.map_nil] at ie lc lcap ⊢
      simp [F_format_event, e_fnD, B_format_event, ie, qWr, qSe, w1, w2, itemsOf, lcap, lc, jn, q32, k0, k2, k3, k4]
    · simp only [List.map_cons, List.map_nil] at ie lc lcap ⊢
      simp [F_format_event, e_fnD, B_format_event, ie, qWr, qSe, w1, w2, itemsOf, lcap, lc, jn, q32, k0, k2, k3, k4]
    · simp only [List.map_cons, List.map_nil] at ie lc lcap ⊢
      simp [F_format_event, e_fnD, B_format_event, ie, qWr, qSe, w1, w2, itemsOf, lcap, lc, jn, q32, k0, k2, k3, k4]
    · simp only [List.map_cons, List.map_nil] at ie lc lcap ⊢
      simp [F_format_event, e_fnD, B_format_event, ie, qWr, qSe, w1, w2, itemsOf, lcap, lc, jn, q32, k0, k2, k3, k4]
    · simp at lr
  | none =>
    have ss : pStr (mkS cSe) (.str (mkS cSe)) = some (some []) := by rw [p_s aSe aSe, if_pos rfl]
    have ww : pStr (mkS cWr) (.str (mkS cWr)) = some (some []) := by rw [p_s aWr aWr, if_pos rfl]
    have ws : pStr (mkS cWr) (.str (mkS cSe)) = some none := by rw [p_s aWr aSe, if_neg (by decide)]
    have lW : cWr.length = 5 := rfl
    have lS : cSe.length = 4 := rfl
    have em : Str.empty = mkS [] := rfl
    rcases plain_none pe with ⟨p, k, v, rfl⟩ | ⟨p, q, rfl⟩ | ⟨p, q, ks, rfl⟩
    · obtain ⟨h1, h2, h3⟩ := h
      have l1 := (okW_iff h1).2.1
      have l2 := (okW_iff h2).2.1
      have l3 := (okV_iff h3).1
      have l4 := esc_len v
      have qe := quoted_eq (d := v) (by omega) S
      unfold Ev.d at ie ⊢
      unfold Ev.txt Ev.parts
      have jj : joinL 32 [cWr, p, k, 34 :: (esc v ++ [34])] = cWr ++ [32] ++ p ++ [32] ++ k ++ [32] ++ (34 :: (esc v ++ [34])) := by simp [joinL]
      rw [jj]
      have lv : (34 :: (esc v ++ [34])).length ≤ 82 := by simp; omega
      generalize 34 :: (esc v ++ [34]) = W at *
      have m1 : p.length ≤ cap := by omega
      have m2 : k.length ≤ cap := by omega
      have m3 : W.length ≤ cap := by omega
      simp [F_format_event, e_fnD, B_format_event, ie, qWr, qSe, ss, ww, ws, e_dJs0, e_dJs1, e_dFmt, qWrs, q32, qe, m1, m2, m3, em]
      simp (disch := omega) only [if_pos]
    · obtain ⟨h1, h2⟩ := h
      have l1 := (okW_iff h1).2.1
      have l2 := (okW_iff h2).2.1
      unfold Ev.d at ie ⊢
      unfold Ev.txt Ev.parts
      have jj : joinL 32 [cSe, p, q, [42]] = cSe ++ [32] ++ p ++ [32] ++ q ++ [32, 42] := by simp [joinL]
      rw [jj]
      have m1 : p.length ≤ cap := by omega
      have m2 : q.length ≤ cap := by omega
      have pn : pNon D.non = some (some []) := rfl
      simp [F_format_event, e_fnD, B_format_event, ie, qWr, qSe, ss, ww, ws, e_dJs0, e_dJs1, e_dFmt, qSes, q32, q3242, m1, m2, em, pn]
      simp (disch := omega) only [if_pos]
    · obtain ⟨h1, h2, h3, h4, h5⟩ := h
      have l1 := (okW_iff h1).2.1
      have l2 := (okW_iff h2).2.1
      have ie : F_is_event [.tup [.str (mkS cSe), .str (mkS p), .str (mkS q), tupS ks]] S = .ok (.bl true) S := ie
      show F_format_event [.tup [.str (mkS cSe), .str (mkS p), .str (mkS q), tupS ks]] S = .ok (.str (mkS (joinL 32 (cSe :: p :: q :: (if ks = [] then [[]] else ks))))) S
      have m1 : p.length ≤ cap := by omega
      have m2 : q.length ≤ cap := by omega
      have pn : pNon (tupS ks) = some none := rfl
      by_cases hk : ks = []
      · subst hk
        have jj : joinL 32 (cSe :: p :: q :: (if ([] : List (List Nat)) = [] then [[]] else [])) = cSe ++ [32] ++ p ++ [32] ++ q ++ [32] := by simp [joinL]
        rw [jj]
        have nn : oNe (tupS []) (.tup []) S = .ok (.bl false) S := rfl
        simp [F_format_event, e_fnD, B_format_event, ie, qWr, qSe, ss, ww, ws, e_dJs0, e_dJs1, e_dFmt, qSes, q32, m1, m2, em, pn, nn, k0]
        simp (disch := omega) only [if_pos]
      · rw [if_neg hk]
        have nn : oNe (tupS ks) (.tup []) S = .ok (.bl true) S := by
          have pl : plnDs (ks.map fun p => PyData.str (mkS p)) = true := by
            rw [plnDs_mem]
            intro y hy
            obtain ⟨p, hp, rfl⟩ := List.mem_map.mp hy
            exact (h3 p hp).as.pln
          have tp : toPys (ks.map fun p => D.str (mkS p)) = some (ks.map fun p => PyData.str (mkS p)) := by
            have := toPys_strs (ks.map mkS)
            rw [List.map_map, List.map_map] at this
            exact this
          have dp := depth_strs ks
          have : eqD (tupS ks) (.tup []) = some false := by
            unfold tupS
            rw [eqD_pln (p := .tuple (ks.map fun p => PyData.str (mkS p))) (q := .tuple []) (by simp only [toPy, tp, Option.map_some]) rfl (by simp only [plnD]; exact pl) rfl (by simp only [PyData.depth, dp]; omega) (by simp [PyData.depth, PyData.depthAll])]
            cases ks with
            | nil => exact absurd rfl hk
            | cons a r => simp [PyData.eqv, PyData.eqvAll]
          simp only [oNe, this, Bool.not_false]
        have jl : ((cSe :: p :: q :: ks).map fun p => p.length).sum + (cSe :: p :: q :: ks).length ≤ cap := by
          have := sum_words h3
          simp only [List.map_cons, List.sum_cons, List.length_cons]
          omega
        have jn := join_s (cSe :: p :: q :: ks) jl S
        simp only [List.map_cons] at jn
        have lk : (ks.map fun k => D.str (mkS k)).length + 1 + 1 + 1 ≤ cap := by rw [List.length_map]; omega
        unfold tupS at ie pn nn ⊢
        generalize ks.map (fun k => D.str (mkS k)) = K at *
        generalize joinL 32 (cSe :: p :: q :: ks) = J at *
        simp [F_format_event, e_fnD, B_format_event, ie, qWr, qSe, ss, ww, ws, q32, pn, nn, k0, seqOf, jn, lk]
end G

set_option maxHeartbeats 4000000
namespace G
open PySem L2 DE PySem.Builtin PySem.Builtin.Str
open PySem.StrLaws (replL)
theorem foldl_cat : ∀ (ps : List (List Nat)) (acc : Array Nat), ((ps.map mkS).foldl (fun acc p => acc ++ (mkS []).cps ++ p.cps) acc).toList = acc.toList ++ ps.flatten
  | [], acc => by simp
  | p :: ps, acc => by
    rw [List.map_cons, List.foldl_cons, foldl_cat ps, List.flatten_cons]
    simp
theorem join_cat (ps : List (List Nat)) : Txt.join (mkS []) (ps.map mkS) = mkS ps.flatten := by
  unfold Txt.join glued
  apply str_ext
  rw [mkS_list]
  cases ps with
  | nil => simp [Str.empty]
  | cons p r =>
    rw [List.map_cons, List.drop_one, List.tail_cons, foldl_cat]
    simp
theorem join_s0 (ps : List (List Nat)) (hl : (ps.map fun p => p.length).sum ≤ cap) (S : Sto) : oJoin (mkS []) (.lst (ps.map fun p => .str (mkS p))) S = .ok (.str (mkS ps.flatten)) S := by
  have e := strs_of ps
  have hs : ((ps.map mkS).map (·.length)).sum = (ps.map fun p => p.length).sum := by
    rw [List.map_map]
    exact congrArg List.sum (List.map_congr_left fun p _ => mkS_len p)
  simp only [oJoin, seqOf, e]
  rw [hs, List.length_map]
  have : (mkS []).length = 0 := rfl
  rw [this, Nat.mul_zero, Nat.add_zero, if_pos hl, join_cat]
theorem eqc (a c : List Nat) (ha : As a) (hc : As c) (S : Sto) : oEq (.str (mkS a)) (.str (mkS c)) S = .ok (.bl (decide (a = c))) S := eq_s ha hc S
theorem in_93 (c : Nat) (S : Sto) : oIn (.str ⟨#[c]⟩) (.lst [.str (mkS [92]), .str (mkS [34])]) S = .ok (.bl (decide (c = 92 ∨ c = 34))) S := by
  have := in_l [c] [92] [34] S
  rw [in2] at this
  exact this
/-- the signs of a value, each as it is written -/
theorem lc_esc (a b c : Option D) (d : List Nat) (S : Sto) : loopC [2] (gN 2) mYes (dBin oAdd (dBin oIx (dLst (aCons (dC (.str (mkS []))) (aCons (dC (.str (mkS [92]))) aNil))) (dBlt oIntA (aCons (dBin oIn (dVar 2) (dLst (aCons (dC (.str (mkS [92]))) (aCons (dC (.str (mkS [34]))) aNil)))) aNil))) (dVar 2)) [a, b, none, c] (dSigns (mkS d)) S = .ok ((d.map esc1).map fun l => .str (mkS l)) S := by
  have := lc_signs (ρ := [a, b, none, c]) (S := S) (own := [2]) (g := gN 2) (t := mYes) (e := dBin oAdd (dBin oIx (dLst (aCons (dC (.str (mkS []))) (aCons (dC (.str (mkS [92]))) aNil))) (dBlt oIntA (aCons (dBin oIn (dVar 2) (dLst (aCons (dC (.str (mkS [92]))) (aCons (dC (.str (mkS [34]))) aNil)))) aNil))) (dVar 2)) (s := mkS d) (r := fun x => [a, b, some (.str ⟨#[x]⟩), c]) (p := fun _ => true) (v := fun x => .str (mkS (esc1 x))) fun x hx => ⟨by simp [wipeD], by simp, fun _ => by
    have c2 : 2 ≤ cap := by decide
    have i9 := in_93 x S
    have a1 : oAdd (.str (mkS [92])) (.str ⟨#[x]⟩) S = .ok (.str (mkS ([92] ++ [x]))) S := add_s [92] [x] (by show 2 ≤ cap; decide) S
    have a0 : oAdd (.str (mkS [])) (.str ⟨#[x]⟩) S = .ok (.str (mkS ([] ++ [x]))) S := add_s [] [x] (by show 1 ≤ cap; decide) S
    have j0 : oIx (.lst [.str (mkS []), .str (mkS [92])]) (.int 0) S = .ok (.str (mkS [])) S := rfl
    have j1 : oIx (.lst [.str (mkS []), .str (mkS [92])]) (.int 1) S = .ok (.str (mkS [92])) S := rfl
    unfold esc1
    by_cases h : x = 92 ∨ x = 34
    · simp only [h, decide_true] at i9
      simp [c2, i9, oIntA, j1, a1, h]
    · simp only [h, decide_false] at i9
      simp [c2, i9, oIntA, j0, a0, h]⟩
  rw [this, filt_all, mkS_list, List.map_map]
  rfl
theorem esc_flat (d : List Nat) : (d.map esc1).flatten = esc d := by simp [esc, List.flatMap_def]
theorem esc1_len (x : Nat) : (esc1 x).length ≤ 2 := by unfold esc1; split <;> simp
end G

set_option maxHeartbeats 4000000
namespace G
open PySem L2 DE
open PySem.StrLaws (replL replL_nil replL_hit replL_miss)
/-! ### both readers read every event -/
theorem dec_esc : ∀ d : List Nat, dec (esc d) = some d
  | [] => rfl
  | a :: d => by
    have ih := dec_esc d
    have e : esc (a :: d) = esc1 a ++ esc d := by simp [esc]
    rw [e]
    by_cases h : a = 92 ∨ a = 34
    · have : esc1 a ++ esc d = 92 :: a :: esc d := by simp [esc1, h]
      rw [this]
      simp only [dec, if_neg (show ¬ (92 : Nat) = 34 by decide), if_true, if_pos h, ih, Option.map_some]
    · have h1 : a ≠ 34 := fun z => h (.inr z)
      have h2 : a ≠ 92 := fun z => h (.inl z)
      have : esc1 a ++ esc d = a :: esc d := by simp [esc1, h]
      rw [this]
      cases q : esc d with
      | nil =>
        rw [q] at ih
        cases d with
        | nil => simp [dec]; exact ⟨h1, h2⟩
        | cons b r => exact absurd ih (by simp [dec])
      | cons c r =>
        rw [q] at ih
        simp only [dec, if_neg h1, if_neg h2]
        rw [ih]
        rfl
theorem unq_esc (d : List Nat) : unq (34 :: (esc d ++ [34])) = some d := by
  unfold unq
  have h : ¬ ((34 :: (esc d ++ [34])).length < 2 ∨ (34 :: (esc d ++ [34]))[0]? ≠ some 34 ∨ (34 :: (esc d ++ [34])).getLast? ≠ some 34) := by
    intro z
    rcases z with z | z | z
    · simp only [List.length_cons, List.length_append] at z; omega
    · exact z rfl
    · apply z
      rw [show (34 :: (esc d ++ [34])) = (34 :: esc d) ++ [34] from rfl, List.getLast?_append]
      rfl
  rw [if_neg h]
  have e : ((34 :: (esc d ++ [34])).drop 1).dropLast = esc d := by simp
  rw [e, dec_esc]
theorem numL_head : ∀ n : Nat, 1 ≤ n → (TL.numL n)[0]? ≠ some 48 := by
  intro n
  induction n using Nat.strongRecOn with
  | _ n ih =>
    intro h1
    by_cases h : n < 10
    · rw [TL.numL_lt h]
      simp
      omega
    · rw [TL.numL_step (by omega)]
      have := ih (n / 10) (by omega) (by omega)
      have ne := TL.numL_ne (n / 10)
      cases q : TL.numL (n / 10) with
      | nil => exact absurd q ne
      | cons a r => rw [q] at this; simpa using this
theorem numL_dig (n : Nat) : (TL.numL n).all dig = true := List.all_eq_true.mpr fun c hc => by
  have := TL.numL_digits n c hc
  simp [dig]
  omega
theorem numL_16 {n : Nat} (h : n ≤ 10 ^ 15) : (TL.numL n).length ≤ 16 := TL.numL_len (by decide) (Nat.lt_of_le_of_lt h (by decide))
theorem numD_numL {n : Nat} (h : n ≤ 10 ^ 15) : numD (TL.numL n) = .int n := by
  unfold numD numO
  have : (TL.numL n).length ≠ 0 ∧ (TL.numL n).length ≤ 16 ∧ (TL.numL n).all dig = true ∧ ¬ ((TL.numL n)[0]? = some 48 ∧ TL.numL n ≠ [48]) := by
    refine ⟨fun z => TL.numL_ne n (List.length_eq_zero_iff.mp z), numL_16 h, numL_dig n, fun z => ?_⟩
    by_cases h0 : n = 0
    · subst h0
      exact z.2 (TL.numL_lt (by decide))
    · exact numL_head n (by omega) z.1
  rw [if_pos this, TL.numL_val]
theorem lnD_numL {n : Nat} (h : n ≤ 10 ^ 15) : lnD (TL.numL n) = .int n := by
  unfold lnD
  have h16 := numL_16 h
  have : ¬ (TL.numL n = [] ∨ 16 < (TL.numL n).length ∨ (TL.numL n).all dig = false) := by
    rintro (z | z | z)
    · exact TL.numL_ne n z
    · omega
    · rw [numL_dig] at z; cases z
  rw [if_neg this, TL.numL_val]
theorem split_app (c : Nat) : ∀ (p l : List Nat), c ∉ p → splitL c (p ++ c :: l) = p :: splitL c l
  | [], l, _ => by simp [splitL]
  | a :: p, l, h => by
    have ha : a ≠ c := fun z => h (by simp [z])
    have ih := split_app c p l fun z => h (by simp [z])
    rw [List.cons_append, splitL, if_neg ha, ih]
    rfl
theorem cWr_free : 32 ∉ cWr := by decide
theorem cSe_free : 32 ∉ cSe := by decide
theorem cTa_free : 32 ∉ cTa := by decide
theorem cPa_free : 32 ∉ cPa := by decide
/-- the parts of an event's text -/
theorem parts_free : ∀ {e : Ev}, e.ok → (∀ p k v, e ≠ .write p k v) → ∀ p ∈ e.parts, 32 ∉ p
  | .write p k v, _, h => absurd rfl (h p k v)
  | .send0 p q, ⟨h1, h2⟩, _ => fun x hx => by
    simp only [Ev.parts, List.mem_cons, List.not_mem_nil, or_false] at hx
    rcases hx with rfl | rfl | rfl | rfl
    · exact cSe_free
    · exact h1.free
    · exact h2.free
    · decide
  | .send p q ks, ⟨h1, h2, h3, _⟩, _ => fun x hx => by
    simp only [Ev.parts, List.mem_cons] at hx
    rcases hx with rfl | rfl | rfl | hx
    · exact cSe_free
    · exact h1.free
    · exact h2.free
    · split at hx
      · rw [List.mem_singleton.mp hx]; simp
      · exact (h3 x hx).free
  | .take q p n, ⟨h1, h2, _⟩, _ => fun x hx => by
    simp only [Ev.parts, List.mem_cons, List.not_mem_nil, or_false] at hx
    rcases hx with rfl | rfl | rfl | rfl
    · exact cTa_free
    · exact h1.free
    · exact h2.free
    · exact TL.numL_free (by decide)
  | .pass p n, ⟨h1, _⟩, _ => fun x hx => by
    simp only [Ev.parts, List.mem_cons, List.not_mem_nil, or_false] at hx
    rcases hx with rfl | rfl | rfl
    · exact cPa_free
    · exact h1.free
    · exact TL.numL_free (by decide)
  | .words ws, ⟨h1, _⟩, _ => fun x hx => (h1 x hx).free
theorem split_txt {e : Ev} (h : e.ok) (n : ∀ p k v, e ≠ .write p k v) : splitL 32 e.txt = e.parts := by
  refine split_joinL 32 _ ?_ (parts_free h n)
  cases e <;> simp only [Ev.parts] <;> try simp
  obtain ⟨_, ⟨a, b, r, e, _⟩, _⟩ := h
  rw [e]; simp
theorem split_write {p k v : List Nat} (h : (Ev.write p k v).ok) : splitL 32 (Ev.write p k v).txt = cWr :: p :: k :: splitL 32 (34 :: (esc v ++ [34])) := by
  obtain ⟨h1, h2, h3⟩ := h
  have : (Ev.write p k v).txt = cWr ++ 32 :: (p ++ 32 :: (k ++ 32 :: (34 :: (esc v ++ [34])))) := by simp [Ev.txt, Ev.parts, joinL]
  rw [this, split_app 32 _ _ cWr_free, split_app 32 _ _ h1.free, split_app 32 _ _ h2.free]
theorem evP_write (p k : List Nat) : ∀ X : List (List Nat), X ≠ [] → evP (cWr :: p :: k :: X) = .tup [.str (mkS cWr), .str (mkS p), .str (mkS k), unqD (joinL 32 X)]
  | [], h => absurd rfl h
  | [d], _ => by simp [evP, joinL]
  | d :: e :: r, _ => by simp [evP]
theorem rdP_write (p k : List Nat) : ∀ X : List (List Nat), X ≠ [] → rdP (cWr :: p :: k :: X) = .tup [.str (mkS cWr), .str (mkS p), .str (mkS k), .str (mkS (inn (joinL 32 X)))]
  | [], h => absurd rfl h
  | d :: r, _ => by simp [rdP]
theorem Ev.evIn : ∀ {e : Ev}, e.ok → G.evIn e.txt = e.d
  | .write p k v, h => by
    unfold G.evIn
    rw [split_write h, evP_write _ _ _ (splitL_ne _ _), join_splitL]
    unfold unqD
    rw [unq_esc]
    rfl
  | .send0 p q, h => by
    unfold G.evIn
    rw [split_txt h (fun _ _ _ => nofun)]
    simp [Ev.parts, evP, Ev.d, c4]
  | .send p q ks, h => by
    unfold G.evIn
    rw [split_txt h (fun _ _ _ => nofun)]
    obtain ⟨h1, h2, h3, _⟩ := h
    rcases ks with _ | ⟨a, _ | ⟨b, r⟩⟩
    · simp [Ev.parts, evP, Ev.d, c4, tupS]
    · have n1 := (h3 a (by simp)).ne
      have n2 := (h3 a (by simp)).star
      simp [Ev.parts, evP, Ev.d, c4, tupS, n1, n2]
    · simp [Ev.parts, evP, Ev.d, c4, tupS]
  | .take q p n, h => by
    unfold G.evIn
    rw [split_txt h (fun _ _ _ => nofun)]
    simp [Ev.parts, evP, Ev.d, c7, c8, numD_numL h.2.2]
  | .pass p n, h => by
    unfold G.evIn
    rw [split_txt h (fun _ _ _ => nofun)]
    simp [Ev.parts, evP, Ev.d, c10, c11, numD_numL h.2.2]
  | .words ws, h => by
    unfold G.evIn
    rw [split_txt h (fun _ _ _ => nofun)]
    obtain ⟨h1, ⟨a, b, r, rfl, ⟨n1, n2, n3, n4⟩, hr⟩, _⟩ := h
    rcases r with _ | ⟨c, _ | ⟨d, r⟩⟩
    · simp [Ev.parts, evP, Ev.d]
    · simp [Ev.parts, evP, Ev.d, n1, n2, n4]
    · simp at hr
theorem Ev.rdIn : ∀ {e : Ev}, e.ok → G.rdIn e.txt = e.d
  | .write p k v, h => by
    unfold G.rdIn
    rw [split_write h, rdP_write _ _ _ (splitL_ne _ _), join_splitL, inn_esc fun c hc => ((okV_iff h.2.2).2 c hc).1]
    rfl
  | .send0 p q, h => by
    unfold G.rdIn
    rw [split_txt h (fun _ _ _ => nofun)]
    simp [Ev.parts, rdP, Ev.d, c4]
  | .send p q ks, h => by
    unfold G.rdIn
    rw [split_txt h (fun _ _ _ => nofun)]
    obtain ⟨h1, h2, h3, _⟩ := h
    rcases ks with _ | ⟨a, r⟩
    · simp [Ev.parts, rdP, Ev.d, c4, tupS]
    · have n2 := (h3 a (by simp)).star
      have hf : (a :: r).filter (fun p => decide (p ≠ [])) = a :: r := List.filter_eq_self.mpr fun x hx => by simpa using (h3 x hx).ne
      simp only [Ev.parts, if_neg (show ¬ (a :: r) = [] by simp), rdP, c4, if_false, if_true, Ev.d, hf]
      rw [if_neg (fun z => n2 (by simp at z; exact z.1))]
  | .take q p n, h => by
    unfold G.rdIn
    rw [split_txt h (fun _ _ _ => nofun)]
    simp [Ev.parts, rdP, rdQ, Ev.d, c7, c8, lnD_numL h.2.2]
  | .pass p n, h => by
    unfold G.rdIn
    rw [split_txt h (fun _ _ _ => nofun)]
    simp [Ev.parts, rdP, rdQ, Ev.d, c10, c11, lnD_numL h.2.2]
  | .words ws, h => by
    unfold G.rdIn
    rw [split_txt h (fun _ _ _ => nofun)]
    obtain ⟨h1, ⟨a, b, r, rfl, ⟨n1, n2, n3, n4⟩, hr⟩, _⟩ := h
    rcases r with _ | ⟨c, _ | ⟨d, r⟩⟩
    · simp [Ev.parts, rdP, rdQ, Ev.d, n3, n4]
    · simp [Ev.parts, rdP, rdQ, Ev.d, n3, n4]
    · simp at hr
end G

set_option maxHeartbeats 4000000
namespace G
open PySem L2 DE
open PySem.StrLaws (replL replL_nil replL_hit replL_miss)
/-! ### what a text of an event looks like -/
theorem joinL_le (ps : List (List Nat)) : (joinL 32 ps).length ≤ (ps.map fun p => p.length).sum + ps.length := by
  cases ps with
  | nil => simp [joinL]
  | cons a r =>
    rw [joinL_len]
    have : (r.map fun q => q.length + 1).sum = (r.map fun q => q.length).sum + r.length := by
      induction r with
      | nil => rfl
      | cons b r ih => simp at ih ⊢; omega
    simp only [List.map_cons, List.sum_cons, List.length_cons]
    omega
theorem okW.prn {l : List Nat} (h : okW l) : ∀ c ∈ l, 32 ≤ c ∧ c ≤ 126 := fun c hc => by have := (okW_iff h).2.2 c hc; omega
theorem const_prn : ∀ l ∈ [cWr, cSe, cTa, cPa, [42], []], ∀ c ∈ l, 32 ≤ c ∧ c ≤ 126 := by decide
theorem num_prn (n : Nat) : ∀ c ∈ TL.numL n, 32 ≤ c ∧ c ≤ 126 := fun c hc => by have := TL.numL_digits n c hc; omega
theorem esc_prn {v : List Nat} (h : ∀ c ∈ v, 32 ≤ c ∧ c ≤ 126) : ∀ c ∈ 34 :: (esc v ++ [34]), 32 ≤ c ∧ c ≤ 126 := by
  intro c hc
  simp only [List.mem_cons, List.mem_append, List.not_mem_nil, or_false] at hc
  rcases hc with rfl | hc | rfl
  · decide
  · unfold esc at hc
    obtain ⟨x, hx, hc⟩ := List.mem_flatMap.mp hc
    unfold esc1 at hc
    split at hc
    · simp only [List.mem_cons, List.not_mem_nil, or_false] at hc
      rcases hc with rfl | rfl
      · decide
      · exact h c hx
    · rw [List.mem_singleton.mp hc]; exact h x hx
  · decide
theorem parts_prn : ∀ {e : Ev}, e.ok → ∀ p ∈ e.parts, ∀ c ∈ p, 32 ≤ c ∧ c ≤ 126
  | .write p k v, ⟨h1, h2, h3⟩ => fun x hx => by
    simp only [Ev.parts, List.mem_cons, List.not_mem_nil, or_false] at hx
    rcases hx with rfl | rfl | rfl | rfl
    · exact const_prn _ (by simp)
    · exact h1.prn
    · exact h2.prn
    · exact esc_prn (okV_iff h3).2
  | .send0 p q, ⟨h1, h2⟩ => fun x hx => by
    simp only [Ev.parts, List.mem_cons, List.not_mem_nil, or_false] at hx
    rcases hx with rfl | rfl | rfl | rfl
    · exact const_prn _ (by simp)
    · exact h1.prn
    · exact h2.prn
    · exact const_prn _ (by simp)
  | .send p q ks, ⟨h1, h2, h3, _⟩ => fun x hx => by
    simp only [Ev.parts, List.mem_cons] at hx
    rcases hx with rfl | rfl | rfl | hx
    · exact const_prn _ (by simp)
    · exact h1.prn
    · exact h2.prn
    · split at hx
      · rw [List.mem_singleton.mp hx]; simp
      · exact (h3 x hx).prn
  | .take q p n, ⟨h1, h2, _⟩ => fun x hx => by
    simp only [Ev.parts, List.mem_cons, List.not_mem_nil, or_false] at hx
    rcases hx with rfl | rfl | rfl | rfl
    · exact const_prn _ (by simp)
    · exact h1.prn
    · exact h2.prn
    · exact num_prn n
  | .pass p n, ⟨h1, _⟩ => fun x hx => by
    simp only [Ev.parts, List.mem_cons, List.not_mem_nil, or_false] at hx
    rcases hx with rfl | rfl | rfl
    · exact const_prn _ (by simp)
    · exact h1.prn
    · exact num_prn n
  | .words ws, ⟨h1, _⟩ => fun x hx => (h1 x hx).prn
theorem txt_prn {e : Ev} (h : e.ok) : ∀ c ∈ e.txt, 32 ≤ c ∧ c ≤ 126 := fun c hc => by
  rcases joinL_mem 32 e.parts c hc with rfl | ⟨p, hp, hc⟩
  · decide
  · exact parts_prn h p hp c hc
theorem txt_len : ∀ {e : Ev}, e.ok → e.txt.length ≤ 9100 ∧ ((∃ p k v, e = .write p k v) → e.txt.length ≤ 150)
  | .write p k v, ⟨h1, h2, h3⟩ => by
    have l1 := (okW_iff h1).2.1
    have l2 := (okW_iff h2).2.1
    have l3 := (okV_iff h3).1
    have l4 := esc_len v
    have l5 : cWr.length = 5 := rfl
    have := joinL_le [cWr, p, k, 34 :: (esc v ++ [34])]
    simp only [List.map_cons, List.map_nil, List.sum_cons, List.sum_nil, List.length_cons, List.length_append, List.length_nil] at this
    have : (Ev.write p k v).txt.length ≤ 150 := by
      show (joinL 32 [cWr, p, k, 34 :: (esc v ++ [34])]).length ≤ 150
      omega
    exact ⟨by omega, fun _ => this⟩
  | .send0 p q, ⟨h1, h2⟩ => by
    have l1 := (okW_iff h1).2.1
    have l2 := (okW_iff h2).2.1
    have l5 : cSe.length = 4 := rfl
    have := joinL_le [cSe, p, q, [42]]
    simp only [List.map_cons, List.map_nil, List.sum_cons, List.sum_nil, List.length_cons, List.length_append, List.length_nil] at this
    refine ⟨?_, fun ⟨_, _, _, z⟩ => by cases z⟩
    show (joinL 32 [cSe, p, q, [42]]).length ≤ 9100
    omega
  | .send p q ks, ⟨h1, h2, h3, h4, h5⟩ => by
    have l1 := (okW_iff h1).2.1
    have l2 := (okW_iff h2).2.1
    have l5 : cSe.length = 4 := rfl
    have sw := sum_words h3
    refine ⟨?_, fun ⟨_, _, _, z⟩ => by cases z⟩
    show (joinL 32 (cSe :: p :: q :: (if ks = [] then [[]] else ks))).length ≤ 9100
    have := joinL_le (cSe :: p :: q :: (if ks = [] then [[]] else ks))
    split
    · rename_i hk
      rw [if_pos hk] at this
      simp only [List.map_cons, List.map_nil, List.sum_cons, List.sum_nil, List.length_cons, List.length_append, List.length_nil] at this
      omega
    · rename_i hk
      rw [if_neg hk] at this
      simp only [List.map_cons, List.sum_cons, List.length_cons] at this
      omega
  | .take q p n, h => by
    obtain ⟨h1, h2, h3⟩ := h
    have l1 := (okW_iff h1).2.1
    have l2 := (okW_iff h2).2.1
    have l3 := numL_16 h3
    have l5 : cTa.length = 4 := rfl
    have := joinL_le [cTa, q, p, TL.numL n]
    simp only [List.map_cons, List.map_nil, List.sum_cons, List.sum_nil, List.length_cons, List.length_append, List.length_nil] at this
    refine ⟨?_, fun ⟨_, _, _, z⟩ => by cases z⟩
    show (joinL 32 [cTa, q, p, TL.numL n]).length ≤ 9100
    omega
  | .pass p n, h => by
    obtain ⟨h1, h2, h3⟩ := h
    have l1 := (okW_iff h1).2.1
    have l3 := numL_16 h3
    have l5 : cPa.length = 4 := rfl
    have := joinL_le [cPa, p, TL.numL n]
    simp only [List.map_cons, List.map_nil, List.sum_cons, List.sum_nil, List.length_cons, List.length_append, List.length_nil] at this
    refine ⟨?_, fun ⟨_, _, _, z⟩ => by cases z⟩
    show (joinL 32 [cPa, p, TL.numL n]).length ≤ 9100
    omega
  | .words ws, ⟨h1, ⟨a, b, r, e, _, hr⟩, _⟩ => by
    have sw := sum_words h1
    have hl : ws.length ≤ 3 := by rw [e]; simp; omega
    refine ⟨?_, fun ⟨_, _, _, z⟩ => by cases z⟩
    show (joinL 32 ws).length ≤ 9100
    have := joinL_le ws
    omega
theorem Ev.as {e : Ev} (h : e.ok) : As e.txt := ⟨Nat.le_trans (txt_len h).1 (by decide), fun c hc => by have := txt_prn h c hc; omega⟩
theorem Ev.hs {e : Ev} (h : e.ok) : e.txt.length ≤ 1000 ∨ (splitL 32 e.txt).head? ≠ some cWr := by
  by_cases w : ∃ p k v, e = .write p k v
  · exact .inl (Nat.le_trans ((txt_len h).2 w) (by decide))
  · refine .inr ?_
    rw [split_txt h fun p k v z => w ⟨p, k, v, z⟩]
    cases e with
    | write p k v => exact absurd ⟨p, k, v, rfl⟩ w
    | send0 p q => simp [Ev.parts, c4]
    | send p q ks => simp [Ev.parts, c4]
    | take q p n => simp [Ev.parts, c7]
    | pass p n => simp [Ev.parts, c10]
    | words ws =>
      obtain ⟨h1, ⟨a, b, r, rfl, ⟨n1, _⟩, hr⟩, _⟩ := h
      simpa [Ev.parts] using n1
/-! ### the two readings -/
def IsEv (l : List Nat) : Prop := ∃ e : Ev, e.ok ∧ e.txt = l
theorem evB_non {d : D} (h : evB d = true) : DE.isNon d = false := by
  cases d <;> first | rfl | (simp [evB] at h)
theorem parse_yes {e : Ev} (h : e.ok) (S : Sto) : F_parse_event [.str (mkS e.txt)] S = .ok e.d S := by
  have ei := event_in_eq S (Ev.as h)
  rw [Ev.evIn h] at ei
  have ie := is_event_eq (Ev.gd h) S
  rw [Ev.evB h] at ie
  have fo := Ev.format h S
  have ne := ne_s (Ev.as h) (Ev.as h) S
  have nn := evB_non (Ev.evB h)
  simp only [decide_true, Bool.not_true] at ne
  simp [F_parse_event, e_fnD, B_parse_event, oIsi, tyName, tyList, subT, ei, oIs, nn, ie, fo, ne]
theorem parse_no {l : List Nat} {n : Nat} (h : As l) (g : Gd n (evIn l)) (no : ¬ IsEv l) (S : Sto) : F_parse_event [.str (mkS l)] S = .exc ⟨"BadText", [("value", .str (mkS l))]⟩ S := by
  have ei := event_in_eq S h
  have ie := is_event_eq g S
  cases b : evB (evIn l) with
  | false =>
    rw [b] at ie
    by_cases nn : DE.isNon (evIn l) = true
    · simp [F_parse_event, e_fnD, B_parse_event, oIsi, tyName, tyList, subT, ei, oIs, nn, sRaise]
    · simp only [Bool.not_eq_true] at nn
      simp [F_parse_event, e_fnD, B_parse_event, oIsi, tyName, tyList, subT, ei, oIs, nn, ie, sRaise]
  | true =>
    rw [b] at ie
    obtain ⟨e, ok, ed⟩ := evB_ev g b
    have fo := Ev.format ok S
    rw [ed] at fo
    have ne := ne_s (Ev.as ok) h S
    have nt : e.txt ≠ l := fun z => no ⟨e, ok, z⟩
    simp only [nt, decide_false, Bool.not_false] at ne
    have nn := evB_non b
    simp [F_parse_event, e_fnD, B_parse_event, oIsi, tyName, tyList, subT, ei, oIs, nn, ie, fo, ne, sRaise]
theorem parse_oth {d : D} {n : Nat} (g : Gd n d) (hs : ∀ s, d ≠ .str s) (S : Sto) : F_parse_event [d] S = .exc ⟨"BadText", [("value", d)]⟩ S := by
  cases g with
  | str s _ => exact absurd rfl (hs s)
  | _ => simp [F_parse_event, e_fnD, B_parse_event, oIsi, tyName, tyList, subT, oIs, DE.isNon, sRaise]
theorem in_one (c : Nat) (l : List Nat) (S : Sto) : oIn (.str (mkS [c])) (.str (mkS l)) S = .ok (.bl (decide (c ∈ l))) S := by
  have : inS (mkS [c]) (mkS l) = decide (c ∈ l) := by
    unfold inS
    rw [if_pos (show (mkS [c]).cps.size = 1 from rfl), mkS_list]
    rfl
  simp [oIn, inD, this]
theorem oddT_eq {x : Str} (hx : Asci x) (S : Sto) : oEq (oddT x) (oddT x) S = .ok (.bl true) S := eq_self (odd_py _ _) (pln_odd (str_asc "text" (by decide +kernel)) hx) (odd_dep _ _) S
theorem tup_pln {ks : List (List Nat)} (h : ∀ k ∈ ks, As k) : ∃ p, toPy (tupS ks) = some p ∧ plnD p = true ∧ p.depth ≤ 1 := by
  have pl : plnDs (ks.map fun p => PyData.str (mkS p)) = true := by
    rw [plnDs_mem]
    intro y hy
    obtain ⟨p, hp, rfl⟩ := List.mem_map.mp hy
    exact (h p hp).pln
  have tp : toPys (ks.map fun p => D.str (mkS p)) = some (ks.map fun p => PyData.str (mkS p)) := by
    have := toPys_strs (ks.map mkS)
    rw [List.map_map, List.map_map] at this
    exact this
  exact ⟨.tuple (ks.map fun p => PyData.str (mkS p)), by simp only [tupS, toPy, tp, Option.map_some], by simp only [plnD]; exact pl, by simp only [PyData.depth, depth_strs]; omega⟩
theorem okV.as {v : List Nat} (h : okV v) : As v := ⟨Nat.le_trans (okV_iff h).1 (by decide), fun c hc => by have := (okV_iff h).2 c hc; omega⟩
theorem num30 {n : Nat} (h : n ≤ 10 ^ 15) : decide ((n : Int).natAbs < 10 ^ 30) = true := decide_eq_true (by rw [Int.natAbs_natCast]; omega)
theorem Ev.pln : ∀ {e : Ev}, e.ok → ∃ p, toPy e.d = some p ∧ plnD p = true ∧ p.depth ≤ 63
  | .write p k v, ⟨h1, h2, h3⟩ => ⟨.tuple [.str (mkS cWr), .str (mkS p), .str (mkS k), .str (mkS v)], by simp [Ev.d, toPy, toPys], by simp only [plnD, plnDs, Bool.and_true, Bool.and_eq_true]; exact ⟨aWr.pln, h1.as.pln, h2.as.pln, (okV.as h3).pln⟩, by simp [PyData.depth, PyData.depthAll]⟩
  | .send0 p q, ⟨h1, h2⟩ => ⟨.tuple [.str (mkS cSe), .str (mkS p), .str (mkS q), .none], by simp [Ev.d, toPy, toPys], by simp only [plnD, plnDs, Bool.and_true, Bool.and_eq_true]; exact ⟨aSe.pln, h1.as.pln, h2.as.pln⟩, by simp [PyData.depth, PyData.depthAll]⟩
  | .send p q ks, ⟨h1, h2, h3, _⟩ => by
    obtain ⟨r, e1, e2, e3⟩ := tup_pln fun k hk => (h3 k hk).as
    refine ⟨.tuple [.str (mkS cSe), .str (mkS p), .str (mkS q), r], by simp [Ev.d, toPy, toPys, e1], by simp only [plnD, plnDs, Bool.and_true, Bool.and_eq_true, e2]; exact ⟨aSe.pln, h1.as.pln, h2.as.pln⟩, by simp [PyData.depth, PyData.depthAll]; omega⟩
  | .take q p n, ⟨h1, h2, h3⟩ => ⟨.tuple [.str (mkS cTa), .str (mkS q), .str (mkS p), .int n], by simp [Ev.d, toPy, toPys], by simp only [plnD, plnDs, Bool.and_true, Bool.and_eq_true]; exact ⟨aTa.pln, h1.as.pln, h2.as.pln, num30 h3⟩, by simp [PyData.depth, PyData.depthAll]⟩
  | .pass p n, ⟨h1, h2, h3⟩ => ⟨.tuple [.str (mkS cPa), .str (mkS p), .int n], by simp [Ev.d, toPy, toPys], by simp only [plnD, plnDs, Bool.and_true, Bool.and_eq_true]; exact ⟨aPa.pln, h1.as.pln, num30 h3⟩, by simp [PyData.depth, PyData.depthAll]⟩
  | .words ws, ⟨h1, _⟩ => by
    obtain ⟨r, e1, e2, e3⟩ := tup_pln fun k hk => (h1 k hk).as
    exact ⟨r, e1, e2, by omega⟩
end G

set_option maxHeartbeats 4000000
namespace G
open PySem L2 DE
open PySem.StrLaws (replL replL_nil replL_hit replL_miss)
/-! ### the data that is read stays small -/
theorem repl_le {y z : List Nat} (hy : y ≠ []) (hz : z.length ≤ y.length) : ∀ (n : Nat) (l : List Nat), l.length ≤ n → (replL y z l).length ≤ l.length ∧ ∀ c ∈ replL y z l, c ∈ l ∨ c ∈ z
  | _, [], _ => by rw [replL_nil]; simp
  | 0, c :: r, h => by simp at h
  | n + 1, c :: r, h => by
    by_cases hit : (c :: r).take y.length = y
    · rw [replL_hit hy hit]
      have hl := congrArg List.length hit
      rw [List.length_take] at hl
      have hp : 0 < y.length := List.length_pos_iff.mpr hy
      obtain ⟨a, b⟩ := repl_le hy hz n ((c :: r).drop y.length) (by rw [List.length_drop]; omega)
      rw [List.length_drop] at a
      refine ⟨by rw [List.length_append]; omega, fun x hx => ?_⟩
      rcases List.mem_append.mp hx with hx | hx
      · exact .inr hx
      · rcases b x hx with hx | hx
        · exact .inl (List.mem_of_mem_drop hx)
        · exact .inr hx
    · rw [replL_miss hit]
      obtain ⟨a, b⟩ := repl_le hy hz n r (by simp at h; omega)
      refine ⟨by simp only [List.length_cons]; omega, fun x hx => ?_⟩
      rcases List.mem_cons.mp hx with rfl | hx
      · exact .inl List.mem_cons_self
      · rcases b x hx with hx | hx
        · exact .inl (List.mem_cons_of_mem _ hx)
        · exact .inr hx
def Sm (l : List Nat) : Prop := l.length ≤ 1000 ∧ ∀ c ∈ l, c < 128
theorem Sm.gd {l : List Nat} (h : Sm l) (n : Nat) : Gd n (.str (mkS l)) := (gd_const h).mono (Nat.zero_le _)
theorem Sm.sub {l m : List Nat} (h : Sm l) (hl : m.length ≤ l.length) (hm : ∀ c ∈ m, c ∈ l) : Sm m := ⟨Nat.le_trans hl h.1, fun c hc => h.2 c (hm c hc)⟩
theorem Sm.repl {y z l : List Nat} (h : Sm l) (hy : y ≠ []) (hz : z.length ≤ y.length) (hc : ∀ c ∈ z, c < 128) : Sm (replL y z l) := by
  obtain ⟨a, b⟩ := repl_le (z := z) hy hz l.length l (Nat.le_refl _)
  exact ⟨Nat.le_trans a h.1, fun c hx => (b c hx).elim (h.2 c) (hc c)⟩
theorem Sm.inn {l : List Nat} (h : Sm l) : Sm (inn l) := by
  unfold G.inn
  have h0 : Sm ((l.drop 1).dropLast) := h.sub (by simp; omega) fun c hc => List.mem_of_mem_drop (List.dropLast_subset _ hc)
  exact (((h0.repl (by simp) (by simp) (by decide)).repl (by simp) (by simp) (by decide)).repl (by simp) (by simp) (by decide)).repl (by simp) (by simp) (by decide)
theorem gd_unq {l : List Nat} (h : Sm l) (n : Nat) : Gd n (unqD l) := by
  unfold unqD
  cases q : unq l with
  | none => exact .non
  | some d =>
    unfold unq at q
    split at q
    · cases q
    · obtain ⟨h1, h2⟩ := dec_le _ _ q
      exact (h.sub (by simp at h1; omega) fun c hc => List.mem_of_mem_drop (List.dropLast_subset _ (h2 c hc))).gd n
theorem gd_num (l : List Nat) (n : Nat) : Gd n (numD l) := by
  unfold numD
  split
  · exact .int _
  · exact .non
theorem gd_ln (l : List Nat) (n : Nat) : Gd n (lnD l) := by
  unfold lnD
  split
  · exact .non
  · exact .int _
theorem gd_tS {ps : List (List Nat)} (h : ∀ p ∈ ps, Sm p) (hl : ps.length ≤ 1000) (n : Nat) : Gd (n + 1) (tupS ps) := gd_tup (fun d hd => by
  obtain ⟨p, hp, rfl⟩ := List.mem_map.mp hd
  exact (h p hp).gd n) (by simpa using hl)
section
variable {l : List Nat}
theorem small_parts (h : As l) (hl : l.length ≤ 900) : (∀ p ∈ splitL 32 l, Sm p) ∧ (splitL 32 l).length ≤ 901 := by
  refine ⟨fun p hp => ?_, Nat.le_trans (split_len 32 l) (by omega)⟩
  obtain ⟨a, b⟩ := splitL_sub 32 l p hp
  exact ⟨by omega, fun c hc => h.2 c (b c hc)⟩
theorem small_join (h : As l) (hl : l.length ≤ 900) {ps qs : List (List Nat)} (q : splitL 32 l = ps ++ qs) : Sm (joinL 32 qs) := by
  obtain ⟨a, _⟩ := join_as h q
  refine ⟨?_, a.2⟩
  have e := congrArg List.length (join_splitL 32 l)
  have j := joinL_le qs
  cases qs with
  | nil => simp [joinL]
  | cons x r =>
    rw [joinL_len] at j ⊢
    rw [q] at e
    cases ps with
    | nil => rw [List.nil_append, joinL_len] at e; omega
    | cons y s =>
      rw [List.cons_append, joinL_len, List.map_append, List.sum_append] at e
      simp only [List.map_cons, List.sum_cons] at e
      omega
theorem gd_evIn (h : As l) (hl : l.length ≤ 900) : Gd 2 (evIn l) := by
  obtain ⟨sp, sl⟩ := small_parts h hl
  have sj := fun ps qs => small_join h hl (ps := ps) (qs := qs)
  have cW : Sm cWr := ⟨by decide, by decide⟩
  have cS : Sm cSe := ⟨by decide, by decide⟩
  have cT : Sm cTa := ⟨by decide, by decide⟩
  have cP : Sm cPa := ⟨by decide, by decide⟩
  unfold evIn
  rcases q : splitL 32 l with _ | ⟨a, _ | ⟨b, _ | ⟨c, _ | ⟨d, _ | ⟨e, r⟩⟩⟩⟩⟩
  · exact absurd q (splitL_ne _ _)
  · rw [q] at sp sl
    exact gd_tS sp (by omega) 1
  · rw [q] at sp sl
    exact gd_tS sp (by omega) 1
  · rw [q] at sp sl
    have sb := sp b (by simp)
    have sc := sp c (by simp)
    simp only [evP]
    split
    · exact gd_tup (fun x hx => by
        simp only [List.mem_cons, List.not_mem_nil, or_false] at hx
        rcases hx with rfl | rfl | rfl | rfl
        · exact cW.gd 1
        · exact sb.gd 1
        · exact sc.gd 1
        · exact gd_unq ⟨by simp, by simp⟩ 1) (by simp)
    · split
      · exact .non
      · split
        · exact gd_tup (fun x hx => by
            simp only [List.mem_cons, List.not_mem_nil, or_false] at hx
            rcases hx with rfl | rfl | rfl
            · exact cP.gd 1
            · exact sb.gd 1
            · exact gd_num _ 1) (by simp)
        · exact gd_tS sp (by omega) 1
  · rw [q] at sp sl
    have sb := sp b (by simp)
    have sc := sp c (by simp)
    have sd := sp d (by simp)
    simp only [evP]
    split
    · exact gd_tup (fun x hx => by
        simp only [List.mem_cons, List.not_mem_nil, or_false] at hx
        rcases hx with rfl | rfl | rfl | rfl
        · exact cW.gd 1
        · exact sb.gd 1
        · exact sc.gd 1
        · exact gd_unq sd 1) (by simp)
    · split
      · exact gd_tup (fun x hx => by
          simp only [List.mem_cons, List.not_mem_nil, or_false] at hx
          rcases hx with rfl | rfl | rfl | rfl
          · exact cS.gd 1
          · exact sb.gd 1
          · exact sc.gd 1
          · split
            · exact .non
            · split
              · exact gd_tup (fun _ h => by cases h) (by simp)
              · exact gd_tS (fun p hp => by rw [List.mem_singleton.mp hp]; exact sd) (by simp) 0) (by simp)
      · split
        · exact gd_tup (fun x hx => by
            simp only [List.mem_cons, List.not_mem_nil, or_false] at hx
            rcases hx with rfl | rfl | rfl | rfl
            · exact cT.gd 1
            · exact sb.gd 1
            · exact sc.gd 1
            · exact gd_num _ 1) (by simp)
        · exact gd_tS sp (by omega) 1
  · have sj := sj [a, b, c] (d :: e :: r) q
    rw [q] at sp sl
    have sb := sp b (by simp)
    have sc := sp c (by simp)
    simp only [evP]
    split
    · exact gd_tup (fun x hx => by
        simp only [List.mem_cons, List.not_mem_nil, or_false] at hx
        rcases hx with rfl | rfl | rfl | rfl
        · exact cW.gd 1
        · exact sb.gd 1
        · exact sc.gd 1
        · exact gd_unq sj 1) (by simp)
    · split
      · exact gd_tup (fun x hx => by
          simp only [List.mem_cons, List.not_mem_nil, or_false] at hx
          rcases hx with rfl | rfl | rfl | rfl
          · exact cS.gd 1
          · exact sb.gd 1
          · exact sc.gd 1
          · exact gd_tS (fun p hp => sp p (by simp only [List.mem_cons] at hp ⊢; right; right; right; exact hp)) (by simp at sl ⊢; omega) 0) (by simp)
      · exact gd_tS sp (by omega) 1
theorem gd_rdQ {ps : List (List Nat)} (sp : ∀ p ∈ ps, Sm p) (sl : ps.length ≤ 901) : Gd 2 (rdQ ps) := by
  unfold rdQ
  split
  · exact gd_tS (fun _ h => by cases h) (by simp) 1
  · rename_i a r
    split
    · refine gd_tup (fun x hx => ?_) ?_
      · rcases List.mem_append.mp hx with hx | hx
        · obtain ⟨p, hp, rfl⟩ := List.mem_map.mp hx
          exact (sp p (List.dropLast_subset _ hp)).gd 1
        · rw [List.mem_singleton.mp hx]; exact gd_ln _ 1
      · rw [List.length_append, List.length_map, List.length_dropLast]
        simp only [List.length_cons, List.length_nil] at sl ⊢
        omega
    · exact gd_tS sp (by omega) 1
theorem gd_rdIn (h : As l) (hl : l.length ≤ 900) : Gd 2 (rdIn l) := by
  obtain ⟨sp, sl⟩ := small_parts h hl
  have sj := fun ps qs => small_join h hl (ps := ps) (qs := qs)
  have cW : Sm cWr := ⟨by decide, by decide⟩
  have cS : Sm cSe := ⟨by decide, by decide⟩
  unfold rdIn
  rcases q : splitL 32 l with _ | ⟨a, _ | ⟨b, _ | ⟨c, _ | ⟨d, r⟩⟩⟩⟩
  · exact absurd q (splitL_ne _ _)
  · rw [q] at sp sl; exact gd_rdQ sp sl
  · rw [q] at sp sl; exact gd_rdQ sp sl
  · rw [q] at sp sl; exact gd_rdQ sp sl
  · have sj := sj [a, b, c] (d :: r) q
    rw [q] at sp sl
    have sb := sp b (by simp)
    have sc := sp c (by simp)
    simp only [rdP]
    split
    · exact gd_tup (fun x hx => by
        simp only [List.mem_cons, List.not_mem_nil, or_false] at hx
        rcases hx with rfl | rfl | rfl | rfl
        · exact cW.gd 1
        · exact sb.gd 1
        · exact sc.gd 1
        · exact sj.inn.gd 1) (by simp)
    · split
      · exact gd_tup (fun x hx => by
          simp only [List.mem_cons, List.not_mem_nil, or_false] at hx
          rcases hx with rfl | rfl | rfl | rfl
          · exact cS.gd 1
          · exact sb.gd 1
          · exact sc.gd 1
          · split
            · exact .non
            · exact gd_tS (fun p hp => sp p (by
                have := (List.mem_filter.mp hp).1
                simp only [List.mem_cons] at this ⊢
                right; right; right; exact this)) (by
                have := List.length_filter_le (fun p => decide (p ≠ [])) (d :: r)
                simp only [List.length_cons] at this sl
                omega) 0) (by simp)
      · exact gd_rdQ sp sl
end
end G

set_option maxHeartbeats 4000000
namespace G
open PySem L2 DE
/-! ### plans as trees -/
inductive Tr where
  | ev (e : Ev) | rep (n : Nat) (p : List Tr) | try_ (p : List Tr) | each (w : List Nat) (p : List Tr) | if_ (a b : List Nat) (p q : List Tr)
def cDo : List Nat := [100, 111]
def cRe : List Nat := [114, 101, 112, 101, 97, 116]
def cTr : List Nat := [116, 114, 121]
def cEa : List Nat := [101, 97, 99, 104]
def cIf : List Nat := [105, 102]
def cEl : List Nat := [101, 108, 115, 101]
theorem qDo : Str.ofString "do" = mkS cDo := by decide +kernel
theorem qRe : Str.ofString "repeat" = mkS cRe := by decide +kernel
theorem qTr : Str.ofString "try" = mkS cTr := by decide +kernel
theorem qEa : Str.ofString "each" = mkS cEa := by decide +kernel
theorem qIf : Str.ofString "if" = mkS cIf := by decide +kernel
theorem qEl : Str.ofString "else" = mkS cEl := by decide +kernel
mutual
def Tr.d : Tr → D
  | .ev e => .tup [.str (mkS cDo), e.d]
  | .rep n p => .tup [.str (mkS cRe), .int n, .tup (trsD p)]
  | .try_ p => .tup [.str (mkS cTr), .tup (trsD p)]
  | .each w p => .tup [.str (mkS cEa), .str (mkS w), .tup (trsD p)]
  | .if_ a b p q => .tup [.str (mkS cIf), .str (mkS a), .str (mkS b), .tup (trsD p), .tup (trsD q)]
def trsD : List Tr → List D
  | [] => []
  | t :: r => t.d :: trsD r
end
/-- the first line of a step -/
def Tr.head : Tr → List Nat
  | .ev e => e.txt
  | .rep n _ => cRe ++ 32 :: TL.numL n
  | .try_ _ => cTr
  | .each w _ => cEa ++ 32 :: w
  | .if_ a b _ _ => cIf ++ 32 :: (a ++ 32 :: b)
def ind (k : Nat) : List Nat := List.replicate (2 * k) 32
mutual
def Tr.lines (k : Nat) : Tr → List (List Nat)
  | .ev e => [ind k ++ e.txt]
  | .rep n p => (ind k ++ (cRe ++ 32 :: TL.numL n)) :: trsL (k + 1) p
  | .try_ p => (ind k ++ cTr) :: trsL (k + 1) p
  | .each w p => (ind k ++ (cEa ++ 32 :: w)) :: trsL (k + 1) p
  | .if_ a b p q => (ind k ++ (cIf ++ 32 :: (a ++ 32 :: b))) :: (trsL (k + 1) p ++ (match q with
    | [] => []
    | t :: r => (ind k ++ cEl) :: (t.lines (k + 1) ++ trsL (k + 1) r)))
def trsL (k : Nat) : List Tr → List (List Nat)
  | [] => []
  | t :: r => t.lines k ++ trsL k r
end
mutual
def Tr.many : Tr → Nat
  | .ev _ => 1
  | .rep _ p => 1 + trsN p
  | .try_ p => 1 + trsN p
  | .each _ p => 1 + trsN p
  | .if_ _ _ p q => 1 + trsN p + trsN q
def trsN : List Tr → Nat
  | [] => 0
  | t :: r => t.many + trsN r
end
mutual
/-- a step that may stand in a plan, no more than k deep within -/
def Tr.ok (k : Nat) : Tr → Prop
  | .ev e => e.ok ∧ e.txt.length ≤ 900
  | .rep n p => (1 ≤ n ∧ n ≤ 20) ∧ p ≠ [] ∧ trsOk k p
  | .try_ p => p ≠ [] ∧ trsOk k p
  | .each w p => okW w ∧ p ≠ [] ∧ trsOk k p
  | .if_ a b p q => (okW a ∧ okW b) ∧ p ≠ [] ∧ trsOk k p ∧ trsOk k q
/-- a plan of no more than k levels -/
def trsOk : Nat → List Tr → Prop
  | _, [] => True
  | 0, _ :: _ => False
  | k + 1, t :: r => t.ok k ∧ trsOk (k + 1) r
end
end G

set_option maxHeartbeats 4000000
namespace G
open PySem L2 DE
def HDS : List (List Nat) := [cDo, cRe, cTr, cEa, cIf]
theorem hds_as : ∀ a ∈ HDS, As a := fun a ha => ⟨(show ∀ a ∈ HDS, a.length ≤ 9500 by decide) a ha, (show ∀ a ∈ HDS, ∀ c ∈ a, c < 128 by decide) a ha⟩
theorem p_hd {a b : List Nat} (ha : a ∈ HDS) (hb : b ∈ HDS) : pStr (mkS a) (.str (mkS b)) = some (if b = a then some [] else none) := p_s (hds_as a ha) (hds_as b hb)
theorem p_yes {a : List Nat} (ha : a ∈ HDS := by decide) : pStr (mkS a) (.str (mkS a)) = some (some []) := by rw [p_hd ha ha, if_pos rfl]
theorem p_no {a b : List Nat} (ha : a ∈ HDS := by decide) (hb : b ∈ HDS := by decide) (n : b ≠ a := by decide) : pStr (mkS a) (.str (mkS b)) = some none := by rw [p_hd ha hb, if_neg n]
theorem is_count_eq (n : Nat) (h : 1 ≤ n ∧ n ≤ 20) (S : Sto) : F_is_count [.int n] S = .ok (.bl true) S := by
  have e1 : ¬ ((n : Int) < 1) := by omega
  have e2 : ¬ ((20 : Int) < n) := by omega
  have e3 : (1 : Int) ≤ n := by omega
  have e4 : (n : Int) ≤ 20 := by omega
  simp [F_is_count, e_fnD, B_is_count, oIsi, tyName, tyList, subT, oLe, e1, e2, e3, e4]
/-- the plans within a step -/
def Tr.inner : Tr → List (List Tr)
  | .ev _ => []
  | .rep _ p => [p]
  | .try_ p => [p]
  | .each _ p => [p]
  | .if_ _ _ p q => [p, q]
theorem isW {w : List Nat} (h : okW w) (S : Sto) : F_is_word [.str (mkS w)] S = .ok (.bl true) S := by
  have := is_word_str (mkS w) S (by rw [mkS_len]; exact Nat.le_trans (okW_iff h).2.1 (by decide))
  rw [show wS (mkS w) = true from h] at this
  exact this
theorem inner_eq {t : Tr} {k : Nat} (h : t.ok k) (S : Sto) : F_inner_plans [t.d] S = .ok (.lst (t.inner.map fun p => .tup (trsD p))) S := by
  have k0 : 0 ≤ cap := Nat.zero_le _
  have k1 : 1 ≤ cap := by decide
  have k2 : 2 ≤ cap := by decide
  cases t with
  | ev e =>
    have ie := is_event_eq (Ev.gd (show e.ok from by simp only [Tr.ok] at h; exact h.1)) S
    rw [Ev.evB (show e.ok from by simp only [Tr.ok] at h; exact h.1)] at ie
    have i0 : oIx (.tup [.str (mkS cDo), e.d]) (.int 0) S = .ok (.str (mkS cDo)) S := rfl
    simp [Tr.d, Tr.inner, F_inner_plans, e_fnD, B_inner_plans, oIsi, tyName, tyList, subT, oLen, seqOf, i0, qDo, qRe, qTr, qEa, qIf, p_yes (a := cDo), ie, k0]
  | rep n p =>
    simp only [Tr.ok] at h
    have ic := is_count_eq n h.1 S
    have i0 : oIx (.tup [.str (mkS cRe), .int n, .tup (trsD p)]) (.int 0) S = .ok (.str (mkS cRe)) S := rfl
    simp [Tr.d, Tr.inner, F_inner_plans, e_fnD, B_inner_plans, oIsi, tyName, tyList, subT, oLen, seqOf, i0, qDo, qRe, qTr, qEa, qIf, p_yes (a := cRe), ic, k0, k1]
  | try_ p =>
    have i0 : oIx (.tup [.str (mkS cTr), .tup (trsD p)]) (.int 0) S = .ok (.str (mkS cTr)) S := rfl
    simp [Tr.d, Tr.inner, F_inner_plans, e_fnD, B_inner_plans, oIsi, tyName, tyList, subT, oLen, seqOf, i0, qDo, qRe, qTr, qEa, qIf, p_yes (a := cTr), p_no (a := cDo) (b := cTr), k0, k1]
  | each w p =>
    simp only [Tr.ok] at h
    have iw := isW h.1 S
    have i0 : oIx (.tup [.str (mkS cEa), .str (mkS w), .tup (trsD p)]) (.int 0) S = .ok (.str (mkS cEa)) S := rfl
    simp [Tr.d, Tr.inner, F_inner_plans, e_fnD, B_inner_plans, oIsi, tyName, tyList, subT, oLen, seqOf, i0, qDo, qRe, qTr, qEa, qIf, p_yes (a := cEa), p_no (a := cRe) (b := cEa), iw, k0, k1]
  | if_ a b p q =>
    simp only [Tr.ok] at h
    have i1 := isW h.1.1 S
    have i2 := isW h.1.2 S
    have i0 : oIx (.tup [.str (mkS cIf), .str (mkS a), .str (mkS b), .tup (trsD p), .tup (trsD q)]) (.int 0) S = .ok (.str (mkS cIf)) S := rfl
    simp [Tr.d, Tr.inner, F_inner_plans, e_fnD, B_inner_plans, oIsi, tyName, tyList, subT, oLen, seqOf, i0, qDo, qRe, qTr, qEa, qIf, p_yes (a := cIf), i1, i2, k0, k2]
end G

set_option maxHeartbeats 4000000
namespace G
open PySem L2 DE
theorem qRes : Str.ofString "repeat " = mkS (cRe ++ [32]) := by decide +kernel
theorem qEas : Str.ofString "each " = mkS (cEa ++ [32]) := by decide +kernel
theorem qIfs : Str.ofString "if " = mkS (cIf ++ [32]) := by decide +kernel
end G

set_option maxHeartbeats 4000000
namespace G
open PySem L2 DE
theorem eq_yes {a : List Nat} (ha : a ∈ HDS := by decide) (S : Sto) : oEq (.str (mkS a)) (.str (mkS a)) S = .ok (.bl true) S := by rw [eq_s (hds_as a ha) (hds_as a ha)]; simp
theorem eq_no {a b : List Nat} (ha : a ∈ HDS := by decide) (hb : b ∈ HDS := by decide) (n : a ≠ b := by decide) (S : Sto) : oEq (.str (mkS a)) (.str (mkS b)) S = .ok (.bl false) S := by rw [eq_s (hds_as a ha) (hds_as b hb)]; simp [n]
theorem law_head_eq {t : Tr} {k : Nat} (h : t.ok k) (S : Sto) : F_law_head [t.d] S = .ok (.str (mkS t.head)) S := by
  have hc : 50000 ≤ cap := by decide
  have l1 : cRe.length = 6 := rfl
  have l2 : cEa.length = 4 := rfl
  have l3 : cIf.length = 2 := rfl
  cases t with
  | ev e =>
    simp only [Tr.ok] at h
    have fo := Ev.format h.1 S
    have i0 : oIx (.tup [.str (mkS cDo), e.d]) (.int 0) S = .ok (.str (mkS cDo)) S := rfl
    have i1 : oIx (.tup [.str (mkS cDo), e.d]) (.int 1) S = .ok e.d S := rfl
    simp [Tr.d, Tr.head, F_law_head, e_fnD, B_law_head, qDo, i0, i1, eq_yes (a := cDo), fo]
  | rep n p =>
    simp only [Tr.ok] at h
    have hn : n ≤ 10 ^ 15 := Nat.le_trans h.1.2 (by decide)
    have lg' : n.log2 < 1920 := by simpa using num_log hn
    have nt' : Str.ofString ((n : Int).repr) = mkS (TL.numL n) := num_txt n
    have l4 : (TL.numL n).length ≤ 16 := TL.numL_len (by decide) (Nat.lt_of_le_of_lt hn (by decide))
    have st : oStr [.int n] S = .ok (.str (mkS (TL.numL n))) S := by simp [oStr, lg', nt']
    have ad := add_s (cRe ++ [32]) (TL.numL n) (by simp; omega) S
    have i0 : oIx (.tup [.str (mkS cRe), .int n, .tup (trsD p)]) (.int 0) S = .ok (.str (mkS cRe)) S := rfl
    have i1 : oIx (.tup [.str (mkS cRe), .int n, .tup (trsD p)]) (.int 1) S = .ok (.int n) S := rfl
    simp at ad
    simp [Tr.d, Tr.head, F_law_head, e_fnD, B_law_head, qDo, qRe, i0, i1, eq_no (a := cRe) (b := cDo), eq_yes (a := cRe), qRes, st, ad]
  | try_ p =>
    have i0 : oIx (.tup [.str (mkS cTr), .tup (trsD p)]) (.int 0) S = .ok (.str (mkS cTr)) S := rfl
    simp [Tr.d, Tr.head, F_law_head, e_fnD, B_law_head, qDo, qRe, qEa, qTr, i0, eq_no (a := cTr) (b := cDo), eq_no (a := cTr) (b := cRe), eq_no (a := cTr) (b := cEa), eq_yes (a := cTr)]
  | each w p =>
    simp only [Tr.ok] at h
    have lw := (okW_iff h.1).2.1
    have ad := add_s (cEa ++ [32]) w (by simp; omega) S
    have i0 : oIx (.tup [.str (mkS cEa), .str (mkS w), .tup (trsD p)]) (.int 0) S = .ok (.str (mkS cEa)) S := rfl
    have i1 : oIx (.tup [.str (mkS cEa), .str (mkS w), .tup (trsD p)]) (.int 1) S = .ok (.str (mkS w)) S := rfl
    simp at ad
    simp [Tr.d, Tr.head, F_law_head, e_fnD, B_law_head, qDo, qRe, qEa, i0, i1, eq_no (a := cEa) (b := cDo), eq_no (a := cEa) (b := cRe), eq_yes (a := cEa), qEas, ad]
  | if_ a b p q =>
    simp only [Tr.ok] at h
    have la := (okW_iff h.1.1).2.1
    have lb := (okW_iff h.1.2).2.1
    have a1 := add_s (cIf ++ [32]) a (by simp; omega) S
    have a2 := add_s (cIf ++ [32] ++ a) [32] (by simp; omega) S
    have a3 := add_s (cIf ++ [32] ++ a ++ [32]) b (by simp; omega) S
    have i0 : oIx (.tup [.str (mkS cIf), .str (mkS a), .str (mkS b), .tup (trsD p), .tup (trsD q)]) (.int 0) S = .ok (.str (mkS cIf)) S := rfl
    have i1 : oIx (.tup [.str (mkS cIf), .str (mkS a), .str (mkS b), .tup (trsD p), .tup (trsD q)]) (.int 1) S = .ok (.str (mkS a)) S := rfl
    have i2 : oIx (.tup [.str (mkS cIf), .str (mkS a), .str (mkS b), .tup (trsD p), .tup (trsD q)]) (.int 2) S = .ok (.str (mkS b)) S := rfl
    simp at a1 a2 a3
    simp [Tr.d, Tr.head, F_law_head, e_fnD, B_law_head, qDo, qRe, qEa, qTr, i0, i1, i2, eq_no (a := cIf) (b := cDo), eq_no (a := cIf) (b := cRe), eq_no (a := cIf) (b := cEa), eq_no (a := cIf) (b := cTr), qIfs, q32, a1, a2, a3]
end G

set_option maxHeartbeats 4000000
namespace G
open PySem L2 DE
theorem trs_len : ∀ p : List Tr, (trsD p).length = p.length
  | [] => rfl
  | t :: r => by simp [trsD, trs_len r]
theorem trsD_nil (p : List Tr) : trsD p = [] ↔ p = [] := by cases p <;> simp [trsD]
theorem many_pos (t : Tr) : 1 ≤ t.many := by cases t <;> simp [Tr.many] <;> omega
theorem len_many : ∀ p : List Tr, p.length ≤ trsN p
  | [] => by simp
  | t :: r => by have := len_many r; have := many_pos t; simp only [List.length_cons, trsN]; omega
/-- a count as the program tells it -/
def Cnt (m n : Nat) : Prop := if n ≤ 200 then m = n else 200 < m
/-- a count that goes on from a: its end -/
theorem cnt_add {a m n : Nat} (h : Cnt m n) : Cnt (a + m) (a + n) ∨ (200 < a + m ∧ 200 < a + n) := by
  unfold Cnt at h ⊢
  split at h
  · subst h
    left
    split
    · rfl
    · omega
  · right; omega
/-- the plans within a step, counted one by one -/
theorem inner_loop {φ : FD} {d : Nat} {a0 a3 a4 : Option D} (S : Sto) : ∀ (ps : List (List Tr)) (acc : Nat) (o5 : Option D), (∀ p ∈ ps, ∃ m : Nat, φ [.tup (trsD p), .int ((d : Int) + 1)] S = .ok (.int m) S ∧ Cnt m (trsN p)) →
    ∃ (m : Nat) (o5' : Option D), loopS (gN 5) (L_steps_in_1 φ) (ps.map fun p => .tup (trsD p)) [a0, some (.int d), some (.int acc), a3, a4, o5] S = .nx [a0, some (.int d), some (.int m), a3, a4, o5'] S ∧ ((acc + (ps.map trsN).sum ≤ 200 → m = acc + (ps.map trsN).sum) ∧ (200 < acc + (ps.map trsN).sum → 200 < m))
  | [], acc, o5, _ => ⟨acc, o5, rfl, by simp, by simp⟩
  | p :: ps, acc, o5, h => by
    obtain ⟨m, e, c⟩ := h p List.mem_cons_self
    obtain ⟨m2, o5', e2, c2, c3⟩ := inner_loop (φ := φ) (d := d) (a0 := a0) (a3 := a3) (a4 := a4) S ps (acc + m) (some (.tup (trsD p))) fun x hx => h x (List.mem_cons_of_mem _ hx)
    refine ⟨m2, o5', ?_, ?_⟩
    · have ad : oAdd (.int d) (.int 1) S = .ok (.int ((d : Int) + 1)) S := rfl
      have b : ∀ ρ S, L_steps_in_1 φ ρ S = sAugA 2 (dCall 2 φ [] (aCons (dVar 5) (aCons (dBin oAdd (dVar 1) (dC (.int 1))) aNil))) ρ S := fun _ _ => rfl
      simp only [List.map_cons, loopS, gN]
      simp [b, ad, e]
      simpa using e2
    · unfold Cnt at c
      simp only [List.map_cons, List.sum_cons]
      split at c
      · subst c
        exact ⟨fun z => by rw [c2 (by omega)]; omega, fun z => c3 (by omega)⟩
      · exact ⟨fun z => by omega, fun z => c3 (by omega)⟩
end G

set_option maxHeartbeats 4000000
namespace G
open PySem L2 DE
theorem Ev.dep : ∀ {e : Ev}, e.ok → ∃ p, toPy e.d = some p ∧ plnD p = true ∧ p.depth ≤ 2
  | .write p k v, h => by
    obtain ⟨q, a, b, _⟩ := Ev.pln h
    refine ⟨q, a, b, ?_⟩
    have : q = .tuple [.str (mkS cWr), .str (mkS p), .str (mkS k), .str (mkS v)] := by simpa [Ev.d, toPy, toPys] using a.symm
    subst this; simp [PyData.depth, PyData.depthAll]
  | .send0 p q, h => by
    obtain ⟨r, a, b, _⟩ := Ev.pln h
    refine ⟨r, a, b, ?_⟩
    have : r = .tuple [.str (mkS cSe), .str (mkS p), .str (mkS q), .none] := by simpa [Ev.d, toPy, toPys] using a.symm
    subst this; simp [PyData.depth, PyData.depthAll]
  | .send p q ks, h => by
    obtain ⟨r, a, b, _⟩ := Ev.pln h
    obtain ⟨y, e1, e2, e3⟩ := tup_pln fun k hk => (h.2.2.1 k hk).as
    refine ⟨r, a, b, ?_⟩
    have : r = .tuple [.str (mkS cSe), .str (mkS p), .str (mkS q), y] := by simpa [Ev.d, toPy, toPys, e1] using a.symm
    subst this; simp [PyData.depth, PyData.depthAll]; omega
  | .take q p n, h => by
    obtain ⟨r, a, b, _⟩ := Ev.pln h
    refine ⟨r, a, b, ?_⟩
    have : r = .tuple [.str (mkS cTa), .str (mkS q), .str (mkS p), .int n] := by simpa [Ev.d, toPy, toPys] using a.symm
    subst this; simp [PyData.depth, PyData.depthAll]
  | .pass p n, h => by
    obtain ⟨r, a, b, _⟩ := Ev.pln h
    refine ⟨r, a, b, ?_⟩
    have : r = .tuple [.str (mkS cPa), .str (mkS p), .int n] := by simpa [Ev.d, toPy, toPys] using a.symm
    subst this; simp [PyData.depth, PyData.depthAll]
  | .words ws, h => by
    obtain ⟨y, e1, e2, e3⟩ := tup_pln fun k hk => (h.1 k hk).as
    exact ⟨y, e1, e2, by omega⟩
theorem str_pln (l : List Nat) (h : ∀ c ∈ l, c < 128) : plnD (.str (mkS l)) = true := by
  simp only [plnD, List.all_eq_true, decide_eq_true_eq, mkS_list]
  exact h
theorem int_pln (n : Nat) (h : n ≤ 10 ^ 15) : plnD (.int n) = true := num30 h
mutual
theorem Tr.pln : ∀ (t : Tr) (k : Nat), t.ok k → ∃ p, toPy t.d = some p ∧ plnD p = true ∧ p.depth ≤ 2 * k + 3
  | .ev e, k, h => by
    simp only [Tr.ok] at h
    obtain ⟨p, a, b, c⟩ := Ev.dep h.1
    refine ⟨.tuple [.str (mkS cDo), p], by simp [Tr.d, toPy, toPys, a], ?_, by simp [PyData.depth, PyData.depthAll]; omega⟩
    simp only [plnD.eq_6, plnDs, Bool.and_true, Bool.and_eq_true]
    exact ⟨str_pln _ (by decide), b⟩
  | .rep n p, k, h => by
    simp only [Tr.ok] at h
    obtain ⟨ps, a, b, c⟩ := trs_pln p k h.2.2
    refine ⟨.tuple [.str (mkS cRe), .int n, .tuple ps], by simp [Tr.d, toPy, toPys, a], ?_, by simp [PyData.depth, PyData.depthAll]; omega⟩
    simp only [plnD.eq_6, plnDs, Bool.and_true, Bool.and_eq_true]
    exact ⟨str_pln _ (by decide), int_pln n (Nat.le_trans h.1.2 (by decide)), b⟩
  | .try_ p, k, h => by
    simp only [Tr.ok] at h
    obtain ⟨ps, a, b, c⟩ := trs_pln p k h.2
    refine ⟨.tuple [.str (mkS cTr), .tuple ps], by simp [Tr.d, toPy, toPys, a], ?_, by simp [PyData.depth, PyData.depthAll]; omega⟩
    simp only [plnD.eq_6, plnDs, Bool.and_true, Bool.and_eq_true]
    exact ⟨str_pln _ (by decide), b⟩
  | .each w p, k, h => by
    simp only [Tr.ok] at h
    obtain ⟨ps, a, b, c⟩ := trs_pln p k h.2.2
    refine ⟨.tuple [.str (mkS cEa), .str (mkS w), .tuple ps], by simp [Tr.d, toPy, toPys, a], ?_, by simp [PyData.depth, PyData.depthAll]; omega⟩
    simp only [plnD.eq_6, plnDs, Bool.and_true, Bool.and_eq_true]
    exact ⟨str_pln _ (by decide), h.1.as.pln, b⟩
  | .if_ x y p q, k, h => by
    simp only [Tr.ok] at h
    obtain ⟨ps, a, b, c⟩ := trs_pln p k h.2.2.1
    obtain ⟨qs, a2, b2, c2⟩ := trs_pln q k h.2.2.2
    refine ⟨.tuple [.str (mkS cIf), .str (mkS x), .str (mkS y), .tuple ps, .tuple qs], by simp [Tr.d, toPy, toPys, a, a2], ?_, by simp [PyData.depth, PyData.depthAll]; omega⟩
    simp only [plnD.eq_6, plnDs, Bool.and_true, Bool.and_eq_true]
    exact ⟨str_pln _ (by decide), h.1.1.as.pln, h.1.2.as.pln, b, b2⟩
theorem trs_pln : ∀ (l : List Tr) (k : Nat), trsOk k l → ∃ ps, toPys (trsD l) = some ps ∧ plnDs ps = true ∧ PyData.depthAll ps ≤ 2 * k + 1
  | [], k, h => ⟨[], rfl, rfl, by simp [PyData.depthAll]⟩
  | t :: r, 0, h => by simp [trsOk] at h
  | t :: r, k + 1, h => by
    simp only [trsOk] at h
    obtain ⟨p, a, b, c⟩ := Tr.pln t k h.1
    obtain ⟨ps, a2, b2, c2⟩ := trs_pln r (k + 1) h.2
    exact ⟨p :: ps, by simp [trsD, toPys, a, a2], by simp [plnDs, b, b2], by simp only [PyData.depthAll]; omega⟩
end
end G

set_option maxHeartbeats 4000000
namespace G
open PySem L2 DE
theorem tup_nil {p : List Tr} {k : Nat} (h : trsOk k p) (hk : k ≤ 25) (S : Sto) : oEq (.tup (trsD p)) (.tup []) S = .ok (.bl p.isEmpty) S ∧ oNe (.tup (trsD p)) (.tup []) S = .ok (.bl (!p.isEmpty)) S := by
  obtain ⟨ps, a, b, c⟩ := trs_pln p k h
  have e : eqD (.tup (trsD p)) (.tup []) = some p.isEmpty := by
    rw [eqD_pln (p := .tuple ps) (q := .tuple []) (by simp [toPy, a]) rfl (by simpa [plnD] using b) rfl (by simp only [PyData.depth]; omega) (by simp [PyData.depth, PyData.depthAll])]
    cases p with
    | nil => simp [trsD, toPys] at a; subst a; simp [PyData.eqv, PyData.eqvAll]
    | cons t r =>
      have l := toPys_len a
      cases ps with
      | nil => simp [trsD] at l
      | cons y ys => simp [PyData.eqv, PyData.eqvAll]
  exact ⟨by simp only [oEq, e], by simp only [oNe, e]⟩
theorem lst_nil {qs : List (List Tr)} {k : Nat} (h : ∀ p ∈ qs, trsOk k p) (hk : k ≤ 25) (S : Sto) : oNe (.lst (qs.map fun p => .tup (trsD p))) (.lst []) S = .ok (.bl (!qs.isEmpty)) S := by
  have e : eqD (.lst (qs.map fun p => .tup (trsD p))) (.lst []) = some qs.isEmpty := by
    have py : ∀ qs : List (List Tr), (∀ p ∈ qs, trsOk k p) → ∃ ps, toPys (qs.map fun p => D.tup (trsD p)) = some ps ∧ plnDs ps = true ∧ PyData.depthAll ps ≤ 2 * k + 2 ∧ ps.length = qs.length := by
      intro qs
      induction qs with
      | nil => exact fun _ => ⟨[], rfl, rfl, by simp [PyData.depthAll], rfl⟩
      | cons q r ih =>
        intro h
        obtain ⟨ps, a, b, c, d⟩ := ih fun p hp => h p (List.mem_cons_of_mem _ hp)
        obtain ⟨xs, a2, b2, c2⟩ := trs_pln q k (h q List.mem_cons_self)
        exact ⟨.tuple xs :: ps, by simp [toPys, toPy, a, a2], by simp only [plnDs, plnD, b, b2, Bool.and_self], by simp only [PyData.depthAll, PyData.depth]; omega, by simp [d]⟩
    obtain ⟨ps, a, b, c, d⟩ := py qs h
    rw [eqD_pln (p := .list ps) (q := .list []) (by simp [toPy, a]) rfl (by simpa [plnD] using b) rfl (by simp only [PyData.depth]; omega) (by simp [PyData.depth, PyData.depthAll])]
    cases qs with
    | nil => cases ps <;> simp at d; simp [PyData.eqv, PyData.eqvAll]
    | cons t r => cases ps <;> simp at d; simp [PyData.eqv, PyData.eqvAll]
  simp only [oNe, e]
end G

set_option maxHeartbeats 4000000
namespace G
open PySem L2 DE
theorem many_inner (t : Tr) : t.many = 1 + (t.inner.map trsN).sum := by cases t <;> simp [Tr.many, Tr.inner] <;> omega
theorem inner_ok {t : Tr} {k : Nat} (h : t.ok k) : (∀ p ∈ t.inner, trsOk k p) ∧ ∀ p ps, t.inner = p :: ps → p ≠ [] := by
  cases t <;> simp only [Tr.ok] at h <;> simp [Tr.inner]
  · exact ⟨h.2.2, h.2.1⟩
  · exact ⟨h.2, h.1⟩
  · exact ⟨h.2.2, h.2.1⟩
  · exact ⟨⟨h.2.2.1, h.2.2.2⟩, h.2.1⟩
theorem step_turn {φ : FD} {d k : Nat} {a0 o4 o5 : Option D} {t : Tr} {acc : Nat} (S : Sto) (hk : k ≤ 20) (h : t.ok k) (hφ : ∀ p ∈ t.inner, ∃ m : Nat, φ [.tup (trsD p), .int ((d : Int) + 1)] S = .ok (.int m) S ∧ Cnt m (trsN p)) :
    (acc + t.many ≤ 200 → ∃ u4 u5, L_steps_in_2 φ [a0, some (.int d), some (.int acc), some t.d, o4, o5] S = .nx [a0, some (.int d), some (.int (acc + t.many : Nat)), some t.d, u4, u5] S) ∧ (200 < acc + t.many → ∃ m : Nat, 200 < m ∧ L_steps_in_2 φ [a0, some (.int d), some (.int acc), some t.d, o4, o5] S = .rt (.int m) S) := by
  have ie := inner_eq h S
  obtain ⟨i1, i2⟩ := inner_ok h
  have ln := lst_nil i1 (by omega) S
  obtain ⟨m, o5', e, c1, c2⟩ := inner_loop (φ := φ) (d := d) (a0 := a0) (a3 := some t.d) (a4 := some (.lst (t.inner.map fun p => .tup (trsD p)))) S t.inner (acc + 1) o5 hφ
  have hm := many_inner t
  have hl : (t.inner.map fun p => D.tup (trsD p)).length ≤ cap := by
    cases t <;> simp [Tr.inner] <;> decide
  have first : ∀ ρ : DE.Env, ρ[4]? = some (some (.lst (t.inner.map fun p => .tup (trsD p)))) → (dAndT (dTest (dBin oNe (dVar 4) (dLst aNil))) (dTest (dBin oEq (dBin oIx (dVar 4) (dC (.int 0))) (dTup aNil)))) ρ S = .ok false S := by
    intro ρ hρ
    have k0 : 0 ≤ cap := Nat.zero_le _
    cases q : t.inner with
    | nil =>
      rw [q] at ln hρ
      simp at ln hρ
      simp [hρ, ln, k0]
    | cons p ps =>
      rw [q] at ln hρ
      have hp := i2 p ps q
      have tn := (tup_nil (i1 p (by rw [q]; simp)) (by omega) S).1
      have pe : p.isEmpty = false := by cases p <;> simp at hp ⊢
      rw [pe] at tn
      have i0 : oIx (.lst ((p :: ps).map fun p => .tup (trsD p))) (.int 0) S = .ok (.tup (trsD p)) S := ix_lst 0 rfl S
      simp only [List.isEmpty_cons, Bool.not_false] at ln
      generalize (p :: ps).map (fun p => D.tup (trsD p)) = R at *
      simp [hρ, ln, i0, tn, k0]
  have b : ∀ ρ S, L_steps_in_2 φ ρ S = (sSeq (sAsg (dCall 1 F_inner_plans [] (aCons (dVar 3) aNil)) (gN 4))
    (sSeq (sIf (dOrT (dTest (dBin oIs (dVar 4) (dC .non))) (dAndT (dTest (dBin oNe (dVar 4) (dLst aNil))) (dTest (dBin oEq (dBin oIx (dVar 4) (dC (.int 0))) (dTup aNil)))))
    (sRet (dBin oAdd (dC (.int 200)) (dC (.int 1))))
    sNil)
    (sSeq (sAugA 2 (dC (.int 1)))
    (sSeq (sFor (iOf (dVar 4)) (gN 5) (L_steps_in_1 φ))
    (sIf (dTest (dBin oGt (dVar 2) (dC (.int 200))))
    (sRet (dVar 2))
    sNil))))) ρ S := fun _ _ => rfl
  have f4 := first [a0, some (.int d), some (.int acc), some t.d, some (.lst (t.inner.map fun p => .tup (trsD p))), o5] rfl
  generalize dAndT (dTest (dBin oNe (dVar 4) (dLst aNil))) (dTest (dBin oEq (dBin oIx (dVar 4) (dC (.int 0))) (dTup aNil))) = TT1 at *
  have ac : ((acc + 1 : Nat) : Int) = (acc : Int) + 1 := by omega
  rw [ac] at e
  have gt := gt_i (m : Int) 200 S
  refine ⟨fun z => ?_, fun z => ?_⟩
  · have e1 : m = acc + t.many := by rw [c1 (by omega)]; omega
    have g : ¬ ((200 : Int) < m) := by omega
    rw [decide_eq_false g] at gt
    refine ⟨some (.lst (t.inner.map fun p => .tup (trsD p))), o5', ?_⟩
    rw [b]
    rw [← e1]
    simp [ie, f4, oIs, DE.isNon, itemsOf, hl, e, g]
    try omega
  · have e1 : 200 < m := c2 (by omega)
    have g : (200 : Int) < m := by omega
    refine ⟨m, e1, ?_⟩
    rw [b]
    simp [ie, f4, oIs, DE.isNon, itemsOf, hl, e, g]
end G

set_option maxHeartbeats 4000000
namespace G
open PySem L2 DE
theorem steps_loop {φ : FD} {d k : Nat} {a0 : Option D} (S : Sto) (hk : k ≤ 20) : ∀ (r : List Tr) (acc : Nat) (o3 o4 o5 : Option D), (∀ t ∈ r, t.ok k ∧ ∀ p ∈ t.inner, ∃ m : Nat, φ [.tup (trsD p), .int ((d : Int) + 1)] S = .ok (.int m) S ∧ Cnt m (trsN p)) →
    (acc + trsN r ≤ 200 → ∃ u3 u4 u5, loopS (gN 3) (L_steps_in_2 φ) (trsD r) [a0, some (.int d), some (.int acc), o3, o4, o5] S = .nx [a0, some (.int d), some (.int (acc + trsN r : Nat)), u3, u4, u5] S) ∧ (acc ≤ 200 → 200 < acc + trsN r → ∃ m : Nat, 200 < m ∧ loopS (gN 3) (L_steps_in_2 φ) (trsD r) [a0, some (.int d), some (.int acc), o3, o4, o5] S = .rt (.int m) S)
  | [], acc, o3, o4, o5, _ => ⟨fun _ => ⟨o3, o4, o5, by simp [trsD, trsN, loopS]⟩, fun h1 h2 => by simp [trsN] at h2; omega⟩
  | t :: r, acc, o3, o4, o5, h => by
    obtain ⟨ok, hφ⟩ := h t List.mem_cons_self
    obtain ⟨s1, s2⟩ := step_turn (a0 := a0) (o4 := o4) (o5 := o5) (acc := acc) S hk ok hφ
    have hr : ∀ x ∈ r, x.ok k ∧ ∀ p ∈ x.inner, ∃ m : Nat, φ [.tup (trsD p), .int ((d : Int) + 1)] S = .ok (.int m) S ∧ Cnt m (trsN p) := fun x hx => h x (List.mem_cons_of_mem _ hx)
    refine ⟨fun z => ?_, fun z1 z2 => ?_⟩
    · simp only [trsN] at z
      obtain ⟨u4, u5, e⟩ := s1 (by omega)
      obtain ⟨v3, v4, v5, e2⟩ := (steps_loop (φ := φ) (d := d) (a0 := a0) S hk r (acc + t.many) (some t.d) u4 u5 hr).1 (by omega)
      refine ⟨v3, v4, v5, ?_⟩
      simp only [trsD, loopS, gN, trsN, ← Nat.add_assoc]
      simp [e]
      simpa using e2
    · simp only [trsN] at z2
      by_cases y : acc + t.many ≤ 200
      · obtain ⟨u4, u5, e⟩ := s1 y
        obtain ⟨m, hm, e2⟩ := (steps_loop (φ := φ) (d := d) (a0 := a0) S hk r (acc + t.many) (some t.d) u4 u5 hr).2 y (by omega)
        refine ⟨m, hm, ?_⟩
        simp only [trsD, loopS, gN]
        simp [e]
        simpa using e2
      · obtain ⟨m, hm, e⟩ := s2 (by omega)
        refine ⟨m, hm, ?_⟩
        simp only [trsD, loopS, gN]
        simp [e]
end G

set_option maxHeartbeats 4000000
namespace G
open PySem L2 DE
theorem trsOk_all : ∀ {p : List Tr} {k : Nat}, trsOk (k + 1) p → ∀ t ∈ p, t.ok k
  | [], _, _, t, ht => by cases ht
  | a :: r, k, h, t, ht => by
    simp only [trsOk] at h
    rcases List.mem_cons.mp ht with rfl | ht
    · exact h.1
    · exact trsOk_all h.2 t ht
theorem steps_eq (S : Sto) : ∀ (n k d : Nat) (p : List Tr), trsOk k p → k + 1 ≤ n → d + k ≤ 7 → ∃ m : Nat, F_steps_in n [.tup (trsD p), .int (d : Int)] S = .ok (.int m) S ∧ Cnt m (trsN p)
  | 0, k, d, p, _, h, _ => by omega
  | n + 1, k, d, p, ok, h, hd => by
    have tn := (tup_nil ok (by omega) S).2
    have k0 : 0 ≤ cap := Nat.zero_le _
    have gate : (dAndT (dTest (dBin oGt (dVar 1) (dC (.int 6)))) (dTest (dBin oNe (dVar 0) (dTup aNil)))) [some (.tup (trsD p)), some (.int (d : Int)), none, none, none, none] S = .ok false S := by
      cases p with
      | nil =>
        have t1 : oNe (.tup (trsD [])) (.tup []) S = .ok (.bl false) S := tn
        by_cases g : (6 : Int) < d <;> simp [g, t1, k0]
      | cons t r =>
        cases k with
        | zero => simp [trsOk] at ok
        | succ k =>
          have g : ¬ (6 : Int) < d := by omega
          simp [g]
    have b : ∀ ρ S, B_steps_in (F_steps_in n) ρ S = (sSeq (sIf (dOrT (dNotT (dTest (dBlt oIsi (aCons (dVar 0) (aCons (dC (.ty "tuple")) aNil))))) (dAndT (dTest (dBin oGt (dVar 1) (dC (.int 6)))) (dTest (dBin oNe (dVar 0) (dTup aNil)))))
        (sRet (dBin oAdd (dC (.int 200)) (dC (.int 1))))
        sNil)
        (sSeq (sAsg (dC (.int 0)) (gN 2))
        (sSeq (sFor (iOf (dVar 0)) (gN 3) (L_steps_in_2 (F_steps_in n)))
        (sRet (dVar 2))))) ρ S := fun _ _ => rfl
    generalize dAndT (dTest (dBin oGt (dVar 1) (dC (.int 6)))) (dTest (dBin oNe (dVar 0) (dTup aNil))) = GT at *
    have hr : ∀ t ∈ p, t.ok (k - 1) ∧ ∀ p' ∈ t.inner, ∃ m : Nat, F_steps_in n [.tup (trsD p'), .int ((d : Int) + 1)] S = .ok (.int m) S ∧ Cnt m (trsN p') := fun t ht => by
      cases k with
      | zero => cases p with
        | nil => cases ht
        | cons t r => simp [trsOk] at ok
      | succ k =>
        have o := trsOk_all ok t ht
        refine ⟨o, fun p' hp' => ?_⟩
        exact steps_eq S n k (d + 1) p' ((inner_ok o).1 p' hp') (by omega) (by omega)
    obtain ⟨l1, l2⟩ := steps_loop (φ := F_steps_in n) (d := d) (k := k - 1) (a0 := some (.tup (trsD p))) S (by omega) p 0 none none none hr
    by_cases z : trsN p ≤ 200
    · obtain ⟨u3, u4, u5, e⟩ := l1 (by omega)
      refine ⟨trsN p, ?_, by unfold Cnt; rw [if_pos z]⟩
      show fnD 6 (B_steps_in (F_steps_in n)) _ S = _
      rw [e_fnD]
      simp only [Nat.zero_add] at e
      have e : loopS (gN 3) (L_steps_in_2 (F_steps_in n)) (trsD p) [some (.tup (trsD p)), some (.int d), some (.int 0), none, none, none] S = _ := e
      simp [b, oIsi, tyName, tyList, subT, gate, itemsOf, e]
    · obtain ⟨m, hm, e⟩ := l2 (by omega) (by omega)
      refine ⟨m, ?_, by unfold Cnt; rw [if_neg z]; exact hm⟩
      show fnD 6 (B_steps_in (F_steps_in n)) _ S = _
      rw [e_fnD]
      have e : loopS (gN 3) (L_steps_in_2 (F_steps_in n)) (trsD p) [some (.tup (trsD p)), some (.int d), some (.int 0), none, none, none] S = _ := e
      simp [b, oIsi, tyName, tyList, subT, gate, itemsOf, e]
/-- is_plan of a plan -/
theorem is_plan_eq {k : Nat} {p : List Tr} (h : trsOk k p) (hk : k ≤ 6) (S : Sto) : F_is_plan [.tup (trsD p)] S = .ok (.bl (decide (trsN p ≤ 200))) S := by
  obtain ⟨m, e, c⟩ := steps_eq S 8 k 1 p h (by omega) (by omega)
  have e : F_steps_in 8 [.tup (trsD p), .int 1] S = .ok (.int m) S := e
  unfold Cnt at c
  split at c
  · rename_i z
    have g : (m : Int) ≤ 200 := by omega
    simp [F_is_plan, e_fnD, B_is_plan, e, g, z]
  · rename_i z
    have g : ¬ (m : Int) ≤ 200 := by omega
    simp [F_is_plan, e_fnD, B_is_plan, e, g, z]
end G

set_option maxHeartbeats 4000000
namespace G
open PySem L2 DE
/-! ### a list that is owned since S0 -/
structure Hv (S0 : Sto) (k : Nat) (ds : List D) (S : Sto) : Prop where
  le : S0.length ≤ k
  at_ : S[k]? = some (.lst ds)
  pre : ∃ R, S = S0 ++ R
theorem Hv.lt {S0 : Sto} {k : Nat} {ds : List D} {S : Sto} (h : Hv S0 k ds S) : k < S.length := (List.getElem?_eq_some_iff.mp h.at_).1
theorem Hv.set {S0 : Sto} {k : Nat} {ds : List D} {S : Sto} (h : Hv S0 k ds S) (es : List D) : Hv S0 k es (S.set k (.lst es)) := by
  obtain ⟨R, rfl⟩ := h.pre
  exact ⟨h.le, List.getElem?_set_self h.lt, ⟨R.set (k - S0.length) (.lst es), by rw [List.set_append_right _ _ h.le]⟩⟩
theorem Hv.ext {S0 : Sto} {k : Nat} {ds : List D} {S S' : Sto} (h : Hv S0 k ds S) (e : ∃ R, S' = S ++ R) : Hv S0 k ds S' := by
  obtain ⟨R, rfl⟩ := e
  obtain ⟨R0, rfl⟩ := h.pre
  exact ⟨h.le, by rw [List.getElem?_append_left h.lt]; exact h.at_, ⟨R0 ++ R, by simp⟩⟩
theorem Hv.new {S0 : Sto} {S : Sto} (h : ∃ R, S = S0 ++ R) (es : List D) : Hv S0 S.length es (S ++ [.lst es]) := by
  obtain ⟨R, rfl⟩ := h
  exact ⟨by simp, by simp, ⟨R ++ [.lst es], by simp⟩⟩
def Lm (ls : List (List Nat)) : List D := ls.map fun l => .str (mkS l)
theorem Lm_app (a b : List (List Nat)) : Lm (a ++ b) = Lm a ++ Lm b := List.map_append
theorem Lm_len (a : List (List Nat)) : (Lm a).length = a.length := List.length_map _
theorem app_eq {f : ME} {ρ : DE.Env} {S S1 : Sto} {k : Nat} {ds ds1 : List D} {e : D} (hv : ρ[2]? = some (some (.own k))) (hk : S[k]? = some (.lst ds)) (hf : f ρ S = .ok e S1) (hk1 : S1[k]? = some (.lst ds1)) (hl : ds1.length < cap) :
    dApp (dVar 2) (aCons f aNil) ρ S = .ok .non (S1.set k (.lst (ds1 ++ [e]))) := by simp [dApp, hv, hk, hf, hk1, hl]
theorem ext_eq {f : ME} {ρ : DE.Env} {S S1 : Sto} {k j : Nat} {ds ds1 zs : List D} (hv : ρ[2]? = some (some (.own k))) (hk : S[k]? = some (.lst ds)) (hf : f ρ S = .ok (.own j) S1) (hk1 : S1[k]? = some (.lst ds1)) (hj : S1[j]? = some (.lst zs)) (hl : ds1.length + zs.length ≤ cap) :
    dExt (dVar 2) (aCons f aNil) ρ S = .ok .non (S1.set k (.lst (ds1 ++ zs))) := by simp [dExt, hv, hk, hf, hk1, hj, hl]
/-! ### the lines of a step -/
theorem lines_inner (t : Tr) (d : Nat) : t.lines d = (ind d ++ t.head) :: (match t.inner with
    | [] => []
    | [p] => trsL (d + 1) p
    | p :: q :: _ => trsL (d + 1) p ++ (if q = [] then [] else (ind d ++ cEl) :: trsL (d + 1) q)) := by
  cases t with
  | if_ a b p q => cases q <;> simp [Tr.lines, Tr.inner, Tr.head, trsL]
  | _ => simp [Tr.lines, Tr.inner, Tr.head]
mutual
theorem Tr.lines_len : ∀ (t : Tr) (d : Nat), (t.lines d).length ≤ 2 * t.many
  | .ev _, d => by simp [Tr.lines, Tr.many]
  | .rep _ p, d => by have := trsL_len p (d + 1); simp only [Tr.lines, Tr.many, List.length_cons]; omega
  | .try_ p, d => by have := trsL_len p (d + 1); simp only [Tr.lines, Tr.many, List.length_cons]; omega
  | .each _ p, d => by have := trsL_len p (d + 1); simp only [Tr.lines, Tr.many, List.length_cons]; omega
  | .if_ _ _ p [], d => by have := trsL_len p (d + 1); simp only [Tr.lines, Tr.many, List.length_cons, List.append_nil, trsN]; omega
  | .if_ _ _ p (t :: r), d => by
    have := trsL_len p (d + 1)
    have h1 := Tr.lines_len t (d + 1)
    have h2 := trsL_len r (d + 1)
    simp only [Tr.lines, Tr.many, List.length_cons, List.length_append, trsN]; omega
theorem trsL_len : ∀ (p : List Tr) (d : Nat), (trsL d p).length ≤ 2 * trsN p
  | [], d => by simp [trsL]
  | t :: r, d => by
    have h1 := Tr.lines_len t d
    have h2 := trsL_len r d
    simp only [trsL, trsN, List.length_append]; omega
end
theorem ind_mul : ∀ d < 9, mulS (Str.ofString "  ") (d : Nat) = mkS (ind d) := by decide +kernel
theorem mul_ind {d : Nat} (h : d < 9) (S : Sto) : oMul (.str (Str.ofString "  ")) (.int d) S = .ok (.str (mkS (ind d))) S := by
  have l2 : (Str.ofString "  ").length = 2 := by decide +kernel
  simp only [oMul, l2]
  rw [if_pos (by omega), ind_mul d h]
theorem ind_len (d : Nat) : (ind d).length = 2 * d := by simp [ind]
theorem head_len {t : Tr} {k : Nat} (h : t.ok k) : t.head.length ≤ 900 := by
  cases t with
  | ev e => simp only [Tr.ok] at h; exact h.2
  | rep n p =>
    simp only [Tr.ok] at h
    have := numL_16 (n := n) (Nat.le_trans h.1.2 (by decide))
    have l1 : cRe.length = 6 := rfl
    simp only [Tr.head, List.length_append, List.length_cons]; omega
  | try_ p => simp [Tr.head]; decide
  | each w p =>
    simp only [Tr.ok] at h
    have := (okW_iff h.1).2.1
    have l1 : cEa.length = 4 := rfl
    simp only [Tr.head, List.length_append, List.length_cons]; omega
  | if_ a b p q =>
    simp only [Tr.ok] at h
    have := (okW_iff h.1.1).2.1
    have := (okW_iff h.1.2).2.1
    have l1 : cIf.length = 2 := rfl
    simp only [Tr.head, List.length_append, List.length_cons]; omega
/-- what a def that tells lines owes -/
def LOk (φ : FD) (d : Nat) (p : List Tr) : Prop := ∀ S : Sto, ∃ j S', φ [.tup (trsD p), .int ((d : Int) + 1)] S = .ok (.own j) S' ∧ Hv S j (Lm (trsL (d + 1) p)) S'
theorem big_cap : 50000 ≤ cap := by decide
end G

set_option maxHeartbeats 4000000
namespace G
open PySem L2 DE
/-- a step whose plans are not read yet -/
def Tr.shell : Tr → D
  | .ev e => .tup [.str (mkS cDo), e.d]
  | .rep n _ => .tup [.str (mkS cRe), .int n, .tup []]
  | .try_ _ => .tup [.str (mkS cTr), .tup []]
  | .each w _ => .tup [.str (mkS cEa), .str (mkS w), .tup []]
  | .if_ a b _ _ => .tup [.str (mkS cIf), .str (mkS a), .str (mkS b), .tup [], .tup []]
theorem hd_no : ∀ c ∈ HDS, inV (.str (mkS c)) ALN = false ∧ inV (.str (mkS c)) WWD = false ∧ c ≠ cPa ∧ c ≠ cWr ∧ c ≠ cSe ∧ c ≠ cTa := by decide +kernel
theorem ev_parts {e : Ev} (h : e.ok) : ∃ a b r, splitL 32 e.txt = a :: b :: r ∧ a ∉ HDS ∧ As a := by
  have wr : ∀ p k v, e = .write p k v → ∃ a b r, splitL 32 e.txt = a :: b :: r ∧ a ∉ HDS ∧ As a := fun p k v z => by
    subst z
    exact ⟨_, _, _, split_write h, by decide, aWr⟩
  by_cases z : ∃ p k v, e = .write p k v
  · obtain ⟨p, k, v, z⟩ := z
    exact wr p k v z
  · have st := split_txt h fun p k v y => z ⟨p, k, v, y⟩
    rw [st]
    cases e with
    | write p k v => exact absurd ⟨p, k, v, rfl⟩ z
    | send0 p q => exact ⟨_, _, _, rfl, by decide, aSe⟩
    | send p q ks => exact ⟨_, _, _, rfl, by decide, aSe⟩
    | take q p n => exact ⟨_, _, _, rfl, by decide, aTa⟩
    | pass p n => exact ⟨_, _, _, rfl, by decide, aPa⟩
    | words ws =>
      obtain ⟨h1, ⟨a, b, r, rfl, ⟨n1, n2, n3, n4⟩, hr⟩, hev⟩ := h
      refine ⟨a, b, r, rfl, fun hin => ?_, (h1 a (by simp)).as⟩
      obtain ⟨x1, x2, x3, _⟩ := hd_no a hin
      rcases r with _ | ⟨c, _ | ⟨d, r⟩⟩
      · simp [tupS, G.evB, restB, x1] at hev
      · have pp : (mkS a == ("pass" : Str)) = false := by rw [beq_c qPa]; exact decide_eq_false x3
        simp [tupS, G.evB, restB, x2, pp] at hev
      · simp at hr
theorem event_step_yes {e : Ev} (h : e.ok) (S : Sto) : F_event_step [.str (mkS e.txt)] S = .ok (.tup [.str (mkS cDo), e.d]) S := by
  have k2 : 2 ≤ cap := by decide
  have py := parse_yes h S
  simp [F_event_step, e_fnD, B_event_step, sTryN, py, k2, qDo]
theorem step_ev {l : List Nat} {a b : List Nat} {r : List (List Nat)} (h : As l) (sp : splitL 32 l = a :: b :: r) (ha : a ∉ HDS) (hA : As a) (S : Sto) : F_step_in [.str (mkS l)] S = (F_event_step [.str (mkS l)] S) := by
  have s := split_s h 32 (by decide) S
  rw [sp] at s
  have w1 := p_s (hds_as cRe (by decide)) hA
  have w3 := p_s (hds_as cEa (by decide)) hA
  have w4 := p_s (hds_as cIf (by decide)) hA
  rw [if_neg (fun z => ha (by rw [z]; decide))] at w1 w3 w4
  have w2 := p_s (hds_as cTr (by decide)) hA
  rw [if_neg (fun z => ha (by rw [z]; decide))] at w2
  have fin : ∀ (ρ : DE.Env), ρ[0]? = some (some (.str (mkS l))) → (RS.fin (((F_event_step [.str (mkS l)] S)).stm ρ fun d S1 => .rt d S1)) = F_event_step [.str (mkS l)] S := fun ρ hρ => by
    cases F_event_step [.str (mkS l)] S <;> rfl
  rcases r with _ | ⟨c, r⟩
  · simp [F_step_in, e_fnD, B_step_in, q32, s, qRe, qTr, qEa, qIf, w1, w2, w3, w4, fin]
  · simp only [List.map_cons] at s
    rcases r with _ | ⟨d, r⟩
    · simp [F_step_in, e_fnD, B_step_in, q32, s, qRe, qTr, qEa, qIf, w1, w2, w3, w4, fin]
    · simp [F_step_in, e_fnD, B_step_in, q32, s, qRe, qTr, qEa, qIf, w1, w2, w3, w4, fin]
theorem step_in_eq {t : Tr} {k : Nat} (h : t.ok k) (S : Sto) : F_step_in [.str (mkS t.head)] S = .ok t.shell S := by
  have k0 : 0 ≤ cap := Nat.zero_le _
  have k2 : 2 ≤ cap := by decide
  have k3 : 3 ≤ cap := by decide
  have k5 : 5 ≤ cap := by decide
  have fr : ∀ c ∈ HDS, 32 ∉ c := by decide
  cases t with
  | ev e =>
    simp only [Tr.ok] at h
    obtain ⟨a, b, r, sp, ha, hA⟩ := ev_parts h.1
    rw [show (Tr.ev e).head = e.txt from rfl, step_ev (Ev.as h.1) sp ha hA, event_step_yes h.1]
    rfl
  | rep n p =>
    simp only [Tr.ok] at h
    have hn : n ≤ 10 ^ 15 := Nat.le_trans h.1.2 (by decide)
    have nf : 32 ∉ TL.numL n := fun z => by have := TL.numL_digits n 32 z; omega
    have na : As (TL.numL n) := ⟨Nat.le_trans (numL_16 hn) (by decide), fun c hc => by have := num_prn n c hc; omega⟩
    have sp : splitL 32 (Tr.rep n p).head = [cRe, TL.numL n] := by
      show splitL 32 (joinL 32 [cRe, TL.numL n]) = _
      exact split_joinL 32 _ (by simp) (by
        intro x hx
        simp only [List.mem_cons, List.not_mem_nil, or_false] at hx
        rcases hx with rfl | rfl
        · exact fr _ (by decide)
        · exact nf)
    have hA : As (Tr.rep n p).head := ⟨Nat.le_trans (head_len (k := k) (t := .rep n p) (by simp only [Tr.ok]; exact h)) (by decide), fun c hc => by
      simp only [Tr.head, List.mem_append, List.mem_cons] at hc
      rcases hc with hc | rfl | hc
      · exact (hds_as cRe (by decide)).2 c hc
      · decide
      · exact na.2 c hc⟩
    have s := split_s hA 32 (by decide) S
    rw [sp] at s
    have ni := number_in_eq S na
    rw [numD_numL hn] at ni
    have ic := is_count_eq n h.1 S
    simp [F_step_in, e_fnD, B_step_in, q32, s, qRe, p_yes (a := cRe), ni, ic, k0, k3, Tr.shell]
  | try_ p =>
    have s := split_s (hds_as cTr (by decide)) 32 (by decide) S
    rw [show splitL 32 cTr = [cTr] by decide] at s
    show F_step_in [.str (mkS cTr)] S = _
    simp [F_step_in, e_fnD, B_step_in, q32, s, qRe, qTr, p_yes (a := cTr), k0, k2, Tr.shell]
  | each w p =>
    simp only [Tr.ok] at h
    have sp : splitL 32 (Tr.each w p).head = [cEa, w] := by
      show splitL 32 (joinL 32 [cEa, w]) = _
      exact split_joinL 32 _ (by simp) (by
        intro x hx
        simp only [List.mem_cons, List.not_mem_nil, or_false] at hx
        rcases hx with rfl | rfl
        · exact fr _ (by decide)
        · exact h.1.free)
    have hA : As (Tr.each w p).head := ⟨Nat.le_trans (head_len (k := k) (t := .each w p) (by simp only [Tr.ok]; exact h)) (by decide), fun c hc => by
      simp only [Tr.head, List.mem_append, List.mem_cons] at hc
      rcases hc with hc | rfl | hc
      · exact (hds_as cEa (by decide)).2 c hc
      · decide
      · exact h.1.as.2 c hc⟩
    have s := split_s hA 32 (by decide) S
    rw [sp] at s
    have iw := isW h.1 S
    simp [F_step_in, e_fnD, B_step_in, q32, s, qRe, qTr, qEa, p_yes (a := cEa), p_no (a := cRe) (b := cEa), iw, k0, k3, Tr.shell]
  | if_ a b p q =>
    simp only [Tr.ok] at h
    have sp : splitL 32 (Tr.if_ a b p q).head = [cIf, a, b] := by
      show splitL 32 (joinL 32 [cIf, a, b]) = _
      exact split_joinL 32 _ (by simp) (by
        intro x hx
        simp only [List.mem_cons, List.not_mem_nil, or_false] at hx
        rcases hx with rfl | rfl | rfl
        · exact fr _ (by decide)
        · exact h.1.1.free
        · exact h.1.2.free)
    have hA : As (Tr.if_ a b p q).head := ⟨Nat.le_trans (head_len (k := k) (t := .if_ a b p q) (by simp only [Tr.ok]; exact h)) (by decide), fun c hc => by
      simp only [Tr.head, List.mem_append, List.mem_cons] at hc
      rcases hc with hc | rfl | hc | rfl | hc
      · exact (hds_as cIf (by decide)).2 c hc
      · decide
      · exact h.1.1.as.2 c hc
      · decide
      · exact h.1.2.as.2 c hc⟩
    have s := split_s hA 32 (by decide) S
    rw [sp] at s
    have i1 := isW h.1.1 S
    have i2 := isW h.1.2 S
    simp [F_step_in, e_fnD, B_step_in, q32, s, qRe, qTr, qEa, qIf, p_yes (a := cIf), i1, i2, k0, k5, Tr.shell]
end G

set_option maxHeartbeats 4000000
namespace G
open PySem L2 DE
/-! ### the law's own lines -/
def Tr.hd : Tr → List Nat
  | .ev _ => cDo
  | .rep _ _ => cRe
  | .try_ _ => cTr
  | .each _ _ => cEa
  | .if_ _ _ _ _ => cIf
theorem hd0 (t : Tr) (S : Sto) : oIx t.d (.int 0) S = .ok (.str (mkS t.hd)) S := by cases t <;> rfl
theorem hd_in (t : Tr) : t.hd ∈ HDS := by cases t <;> simp [Tr.hd, HDS]
theorem addO_eq {S : Sto} {n j : Nat} {xs ys : List D} (h1 : S[n]? = some (.lst xs)) (h2 : S[j]? = some (.lst ys)) (hl : xs.length + ys.length ≤ cap) : oAddO (.own n) (.own j) S = .ok (.own S.length) (S ++ [.lst (xs ++ ys)]) := by
  simp [oAddO, lstAt, h1, h2, hl]
theorem addO_eq2 {S : Sto} {j : Nat} {xs ys : List D} (h2 : S[j]? = some (.lst ys)) (hl : xs.length + ys.length ≤ cap) : oAddO (.lst xs) (.own j) S = .ok (.own S.length) (S ++ [.lst (xs ++ ys)]) := by
  simp [oAddO, lstAt, h2, hl]
theorem addL_eq {S : Sto} {n : Nat} {xs ys : List D} (h1 : S[n]? = some (.lst xs)) (hl : xs.length + ys.length ≤ cap) : oAddL (.own n) (.lst ys) S = .ok (.lst (xs ++ ys)) S := by
  simp [oAddL, lstAt, h1, hl]
/-- the piece of a turn that adds an inner plan's lines -/
def llAdd (φ : FD) (i : Int) : MS := sAsg (dBin oAddO (dVar 2) (dCall 2 φ [] (aCons (dBin oIx (dVar 3) (dC (.int i))) (aCons (dBin oAdd (dVar 1) (dC (.int 1))) aNil)))) (gN 2)
theorem ll_add {φ : FD} {d n : Nat} {a0 : Option D} {td : D} {i : Int} {p : List Tr} {acc : List (List Nat)} {S0 S : Sto} (hS : Hv S0 n (Lm acc) S) (hi : ∀ S, oIx td (.int i) S = .ok (.tup (trsD p)) S) (hφ : LOk φ d p) (hm : acc.length + 2 * trsN p ≤ 50000) :
    ∃ n' S', llAdd φ i [a0, some (.int d), some (.own n), some td] S = .nx [a0, some (.int d), some (.own n'), some td] S' ∧ Hv S0 n' (Lm (acc ++ trsL (d + 1) p)) S' := by
  have bc := big_cap
  obtain ⟨j, S1, e, h⟩ := hφ S
  have tl := trsL_len p (d + 1)
  have h1 := hS.ext h.pre
  have ad := addO_eq h1.at_ h.at_ (by rw [Lm_len, Lm_len]; omega)
  refine ⟨S1.length, S1 ++ [.lst (Lm acc ++ Lm (trsL (d + 1) p))], ?_, ?_⟩
  · simp [llAdd, hi, e, ad]
  · rw [Lm_app]
    exact Hv.new h1.pre _
def llElse (φ : FD) : MS := sAsg (dBin oAddO (dBin oAddL (dVar 2) (dLst (aCons (dBin oAdd (dBin oMul (dC (.str "  ")) (dVar 1)) (dC (.str "else"))) aNil))) (dCall 2 φ [] (aCons (dBin oIx (dVar 3) (dC (.int 4))) (aCons (dBin oAdd (dVar 1) (dC (.int 1))) aNil)))) (gN 2)
theorem ll_else {φ : FD} {d n : Nat} {a0 : Option D} {td : D} {p : List Tr} {acc : List (List Nat)} {S0 S : Sto} (hd : d < 9) (hS : Hv S0 n (Lm acc) S) (hi : ∀ S, oIx td (.int 4) S = .ok (.tup (trsD p)) S) (hφ : LOk φ d p) (hm : acc.length + 2 * trsN p + 1 ≤ 50000) :
    ∃ n' S', llElse φ [a0, some (.int d), some (.own n), some td] S = .nx [a0, some (.int d), some (.own n'), some td] S' ∧ Hv S0 n' (Lm (acc ++ (ind d ++ cEl) :: trsL (d + 1) p)) S' := by
  have bc := big_cap
  have k1 : 1 ≤ cap := by decide
  have l2 : cEl.length = 4 := rfl
  have il := ind_len d
  obtain ⟨j, S1, e, h⟩ := hφ S
  have tl := trsL_len p (d + 1)
  have h1 := hS.ext h.pre
  have ad0 := add_s (ind d) cEl (by omega) S
  have mi := mul_ind hd S
  have ad1 := addL_eq (ys := [.str (mkS (ind d ++ cEl))]) hS.at_ (by rw [Lm_len]; simp only [List.length_cons, List.length_nil]; omega)
  have ad := addO_eq2 (xs := Lm acc ++ [.str (mkS (ind d ++ cEl))]) h.at_ (by simp only [List.length_append, Lm_len, List.length_cons, List.length_nil]; omega)
  refine ⟨S1.length, S1 ++ [.lst (Lm acc ++ [.str (mkS (ind d ++ cEl))] ++ Lm (trsL (d + 1) p))], ?_, ?_⟩
  · generalize Lm acc ++ [.str (mkS (ind d ++ cEl))] = Z at *
    simp [llElse, hi, e, mi, qEl, ad0, k1, ad1, ad]
  · have : Lm (acc ++ (ind d ++ cEl) :: trsL (d + 1) p) = Lm acc ++ [.str (mkS (ind d ++ cEl))] ++ Lm (trsL (d + 1) p) := by simp [Lm]
    rw [this]
    have := Hv.new h1.pre (Lm acc ++ [.str (mkS (ind d ++ cEl))] ++ Lm (trsL (d + 1) p))
    simpa using this
theorem ll_turn {φ : FD} {d k n : Nat} {a0 : Option D} {t : Tr} {acc : List (List Nat)} {S0 S : Sto} (hd : d < 9) (hk : k ≤ 20) (h : t.ok k) (hm : acc.length + 2 * t.many ≤ 50000) (hS : Hv S0 n (Lm acc) S) (hφ : ∀ p ∈ t.inner, LOk φ d p) :
    ∃ n' S', L_law_lines_1 φ [a0, some (.int d), some (.own n), some t.d] S = .nx [a0, some (.int d), some (.own n'), some t.d] S' ∧ Hv S0 n' (Lm (acc ++ t.lines d)) S' := by
  have bc := big_cap
  have hl := head_len h
  have il := ind_len d
  have mi := many_inner t
  have k2 : 2 ≤ cap := by decide
  have k0 : 0 ≤ cap := Nat.zero_le _
  have lt : acc.length < cap := by omega
  have b : ∀ ρ S, L_law_lines_1 φ ρ S = (sSeq (sExpr (dApp (dVar 2) (aCons (dBin oAdd (dBin oMul (dC (.str "  ")) (dVar 1)) (dCall 1 F_law_head [] (aCons (dVar 3) aNil))) aNil)))
    (sSeq (sIf (dTest (dBin oIn (dBin oIx (dVar 3) (dC (.int 0))) (dLst (aCons (dC (.str "repeat")) (aCons (dC (.str "each")) aNil)))))
    (llAdd φ 2)
    sNil)
    (sSeq (sIf (dTest (dBin oEq (dBin oIx (dVar 3) (dC (.int 0))) (dC (.str "try"))))
    (llAdd φ 1)
    sNil)
    (sIf (dTest (dBin oEq (dBin oIx (dVar 3) (dC (.int 0))) (dC (.str "if"))))
    (sSeq (llAdd φ 3)
    (sIf (dTest (dBin oNe (dBin oIx (dVar 3) (dC (.int 4))) (dTup aNil)))
    (llElse φ)
    sNil))
    sNil)))) ρ S := fun _ _ => rfl
  have mu := mul_ind hd S
  have ad := add_s (ind d) t.head (by omega) S
  have f1 := app_eq (f := dBin oAdd (dBin oMul (dC (.str "  ")) (dVar 1)) (dCall 1 F_law_head [] (aCons (dVar 3) aNil))) (ρ := [a0, some (.int d), some (.own n), some t.d]) (S := S) (S1 := S) (k := n) (e := .str (mkS (ind d ++ t.head))) rfl hS.at_ (by simp [law_head_eq h, ad, mu]) hS.at_ (by rw [Lm_len]; exact lt)
  have S1h := hS.set (Lm acc ++ [.str (mkS (ind d ++ t.head))])
  have e1 : Lm acc ++ [.str (mkS (ind d ++ t.head))] = Lm (acc ++ [ind d ++ t.head]) := by rw [Lm_app]; rfl
  rw [e1] at f1 S1h
  generalize S.set n (.lst (Lm (acc ++ [ind d ++ t.head]))) = S1 at f1 S1h
  have i0 := hd0 t
  have ll : (acc ++ [ind d ++ t.head]).length = acc.length + 1 := by simp
  cases t with
  | ev e =>
    have n1 : ∀ S, oIn (.str (mkS cDo)) (.lst [.str (mkS cRe), .str (mkS cEa)]) S = .ok (.bl false) S := fun S => by rw [in_l]; rfl
    refine ⟨n, S1, ?_, S1h⟩
    rw [b]
    simp [f1, i0, Tr.hd, qRe, qEa, qTr, qIf, k2, n1, eq_no (a := cDo) (b := cTr), eq_no (a := cDo) (b := cIf)]
  | rep c p =>
    have n1 : ∀ S, oIn (.str (mkS cRe)) (.lst [.str (mkS cRe), .str (mkS cEa)]) S = .ok (.bl true) S := fun S => by rw [in_l]; rfl
    simp only [Tr.many] at hm
    obtain ⟨n', S', e, hv⟩ := ll_add (φ := φ) (d := d) (a0 := a0) (td := (Tr.rep c p).d) (i := 2) (p := p) S1h (fun _ => rfl) (hφ p (by simp [Tr.inner])) (by omega)
    refine ⟨n', S', ?_, by simpa [Tr.lines, Tr.head] using hv⟩
    rw [b]
    generalize llAdd φ 2 = X at e ⊢
    simp [f1, i0, Tr.hd, qRe, qEa, qTr, qIf, k2, n1, e, eq_no (a := cRe) (b := cTr), eq_no (a := cRe) (b := cIf)]
  | try_ p =>
    have n1 : ∀ S, oIn (.str (mkS cTr)) (.lst [.str (mkS cRe), .str (mkS cEa)]) S = .ok (.bl false) S := fun S => by rw [in_l]; rfl
    simp only [Tr.many] at hm
    obtain ⟨n', S', e, hv⟩ := ll_add (φ := φ) (d := d) (a0 := a0) (td := (Tr.try_ p).d) (i := 1) (p := p) S1h (fun _ => rfl) (hφ p (by simp [Tr.inner])) (by omega)
    refine ⟨n', S', ?_, by simpa [Tr.lines, Tr.head] using hv⟩
    rw [b]
    generalize llAdd φ 1 = X at e ⊢
    simp [f1, i0, Tr.hd, qRe, qEa, qTr, qIf, k2, n1, e, eq_yes (a := cTr), eq_no (a := cTr) (b := cIf)]
  | each w p =>
    have n1 : ∀ S, oIn (.str (mkS cEa)) (.lst [.str (mkS cRe), .str (mkS cEa)]) S = .ok (.bl true) S := fun S => by rw [in_l]; rfl
    simp only [Tr.many] at hm
    obtain ⟨n', S', e, hv⟩ := ll_add (φ := φ) (d := d) (a0 := a0) (td := (Tr.each w p).d) (i := 2) (p := p) S1h (fun _ => rfl) (hφ p (by simp [Tr.inner])) (by omega)
    refine ⟨n', S', ?_, by simpa [Tr.lines, Tr.head] using hv⟩
    rw [b]
    generalize llAdd φ 2 = X at e ⊢
    simp [f1, i0, Tr.hd, qRe, qEa, qTr, qIf, k2, n1, e, eq_no (a := cEa) (b := cTr), eq_no (a := cEa) (b := cIf)]
  | if_ x y p q =>
    have n1 : ∀ S, oIn (.str (mkS cIf)) (.lst [.str (mkS cRe), .str (mkS cEa)]) S = .ok (.bl false) S := fun S => by rw [in_l]; rfl
    simp only [Tr.many] at hm
    obtain ⟨n', S', e, hv⟩ := ll_add (φ := φ) (d := d) (a0 := a0) (td := (Tr.if_ x y p q).d) (i := 3) (p := p) S1h (fun _ => rfl) (hφ p (by simp [Tr.inner])) (by omega)
    have okq : trsOk k q := (inner_ok h).1 q (by simp [Tr.inner])
    have i4 : ∀ S, oIx (Tr.if_ x y p q).d (.int 4) S = .ok (.tup (trsD q)) S := fun _ => rfl
    have tn := (tup_nil okq (by omega) S').2
    have li := lines_inner (.if_ x y p q) d
    simp only [Tr.inner] at li
    by_cases z : q = []
    · subst z
      simp only [List.isEmpty_nil, Bool.not_true] at tn
      refine ⟨n', S', ?_, by rw [li]; simpa using hv⟩
      rw [b]
      generalize llAdd φ 3 = X at e ⊢
      simp [f1, i0, Tr.hd, qRe, qEa, qTr, qIf, k2, n1, e, eq_no (a := cIf) (b := cTr), eq_yes (a := cIf), i4, k0, tn]
    · have ze : q.isEmpty = false := by cases q <;> simp at z ⊢
      rw [ze] at tn
      simp only [Bool.not_false] at tn
      rw [if_neg z] at li
      have tl := trsL_len p (d + 1)
      obtain ⟨n2, S2, e2, hv2⟩ := ll_else (φ := φ) (d := d) (a0 := a0) (td := (Tr.if_ x y p q).d) (p := q) hd hv i4 (hφ q (by simp [Tr.inner])) (by simp only [List.length_append]; simp only [List.length_append] at ll; omega)
      refine ⟨n2, S2, ?_, by rw [li]; simpa using hv2⟩
      rw [b]
      generalize llAdd φ 3 = X at e ⊢
      generalize llElse φ = Y at e2 ⊢
      simp [f1, i0, Tr.hd, qRe, qEa, qTr, qIf, k2, n1, e, eq_no (a := cIf) (b := cTr), eq_yes (a := cIf), i4, k0, tn, e2]
theorem ll_loop {φ : FD} {d k : Nat} {a0 : Option D} {S0 : Sto} (hd : d < 9) (hk : k ≤ 20) : ∀ (r : List Tr) (acc : List (List Nat)) (n : Nat) (o3 : Option D) (S : Sto), Hv S0 n (Lm acc) S → acc.length + 2 * trsN r ≤ 50000 → (∀ t ∈ r, t.ok k ∧ ∀ p ∈ t.inner, LOk φ d p) →
    ∃ n' u3 S', loopS (gN 3) (L_law_lines_1 φ) (trsD r) [a0, some (.int d), some (.own n), o3] S = .nx [a0, some (.int d), some (.own n'), u3] S' ∧ Hv S0 n' (Lm (acc ++ trsL d r)) S'
  | [], acc, n, o3, S, h, _, _ => ⟨n, o3, S, rfl, by simpa [trsL] using h⟩
  | t :: r, acc, n, o3, S, h, hm, ht => by
    simp only [trsN] at hm
    obtain ⟨ok, hφ⟩ := ht t List.mem_cons_self
    obtain ⟨n1, S1, e1, h1⟩ := ll_turn (φ := φ) (a0 := a0) hd hk ok (by omega) h hφ
    have tl := Tr.lines_len t d
    obtain ⟨n2, v3, S2, e2, h2⟩ := ll_loop (φ := φ) (a0 := a0) hd hk r (acc ++ t.lines d) n1 (some t.d) S1 h1 (by simp only [List.length_append]; omega) fun x hx => ht x (List.mem_cons_of_mem _ hx)
    refine ⟨n2, v3, S2, ?_, by simpa [trsL] using h2⟩
    simp only [trsD, loopS, gN]
    simp [e1]
    simpa using e2
theorem law_lines_eq : ∀ (n k d : Nat) (p : List Tr), trsOk k p → k + 1 ≤ n → d + k ≤ 8 → trsN p ≤ 25000 → ∀ S : Sto, ∃ j S', F_law_lines n [.tup (trsD p), .int (d : Int)] S = .ok (.own j) S' ∧ Hv S j (Lm (trsL d p)) S'
  | 0, k, d, p, _, h, _, _, _ => by omega
  | n + 1, k, d, p, ok, h, hd, hm, S => by
    have k0 : 0 ≤ cap := Nat.zero_le _
    have hr : ∀ t ∈ p, t.ok (k - 1) ∧ ∀ p' ∈ t.inner, LOk (F_law_lines n) d p' := fun t ht => by
      cases k with
      | zero => cases p with
        | nil => cases ht
        | cons t r => simp [trsOk] at ok
      | succ k =>
        have o := trsOk_all ok t ht
        refine ⟨o, fun p' hp' S => ?_⟩
        have le : trsN p' ≤ t.many := by
          rw [many_inner]
          have : ∀ (ps : List (List Tr)), p' ∈ ps → trsN p' ≤ (ps.map trsN).sum := fun ps hps => by
            induction ps with
            | nil => cases hps
            | cons a r ih =>
              simp only [List.map_cons, List.sum_cons]
              rcases List.mem_cons.mp hps with rfl | z
              · omega
              · have := ih z; omega
          have := this _ hp'; omega
        have le2 : t.many ≤ trsN p := by
          clear hm ok le o hp' p'
          induction p with
          | nil => cases ht
          | cons a r ih =>
            simp only [trsN]
            rcases List.mem_cons.mp ht with rfl | z
            · omega
            · have := ih z; omega
        exact law_lines_eq n k (d + 1) p' ((inner_ok o).1 p' hp') (by omega) (by omega) (by omega) S
    obtain ⟨n', u3, S', e, hv⟩ := ll_loop (φ := F_law_lines n) (d := d) (k := k - 1) (S0 := S) (a0 := some (.tup (trsD p))) (by omega) (by omega) p [] S.length none (S ++ [.lst (Lm [])]) (Hv.new ⟨[], by simp⟩ _) (by simp; omega) hr
    refine ⟨n', S', ?_, by simpa using hv⟩
    show fnD 4 (B_law_lines (F_law_lines n)) _ S = _
    rw [e_fnD]
    have e : loopS (gN 3) (L_law_lines_1 (F_law_lines n)) (trsD p) [some (.tup (trsD p)), some (.int d), some (.own S.length), none] (S ++ [.lst []]) = _ := e
    simp [B_law_lines, k0, itemsOf, e]
end G

set_option maxHeartbeats 4000000
namespace G
open PySem L2 DE
open PySem.Builtin.Str (subAt)
open PySem.StrLaws (subAt_eq)
theorem starts_eq (l p : List Nat) : Txt.startswith (mkS l) (mkS p) = decide (l.take p.length = p) := by
  unfold Txt.startswith
  rw [subAt_eq, mkS_list, mkS_list, mkS_len, mkS_len, List.drop_zero]
  by_cases h : l.take p.length = p
  · have : p.length ≤ l.length := by have := congrArg List.length h; rw [List.length_take] at this; omega
    simp [h, this]
  · simp [h]
/-- what a reader sees at a depth -/
def textAt (ls : List (List Nat)) (i d : Nat) : Option (List Nat) := match ls[i]? with
  | none => none
  | some l => if l.take (2 * d) = ind d then some (l.drop (2 * d)) else none
def txD : Option (List Nat) → D
  | none => .non
  | some x => .str (mkS x)
def rdF (ls : List (List Nat)) (i m : Nat) : List (Str × D) := [(("lines" : Str), .lst (Lm ls)), (("at" : Str), .int i), (("many" : Str), .int m)]
def rdO (ls : List (List Nat)) (i m : Nat) : D := .obj ("Reader" : Str) (rdF ls i m)
theorem sA : (("at" : Str) == ("lines" : Str)) = false := by decide +kernel
theorem sB : (("many" : Str) == ("lines" : Str)) = false := by decide +kernel
theorem sC : (("many" : Str) == ("at" : Str)) = false := by decide +kernel
theorem sD : ¬ (("lines" : Str) = ("at" : Str)) := by decide +kernel
theorem sE : ¬ (("lines" : Str) = ("many" : Str)) := by decide +kernel
theorem sF : ¬ (("at" : Str) = ("many" : Str)) := by decide +kernel
theorem rd_lines (ls : List (List Nat)) (i m : Nat) : (rdF ls i m).lookup ("lines" : Str) = some (.lst (Lm ls)) := by simp [rdF, List.lookup]
theorem rd_at (ls : List (List Nat)) (i m : Nat) : (rdF ls i m).lookup ("at" : Str) = some (.int i) := by simp [rdF, List.lookup, sA]
theorem rd_many (ls : List (List Nat)) (i m : Nat) : (rdF ls i m).lookup ("many" : Str) = some (.int m) := by simp [rdF, List.lookup, sB, sC]
theorem rd_pat (ls : List (List Nat)) (i m j : Nat) : putD ("at" : Str) (.int j) (rdF ls i m) = rdF ls j m := by simp [rdF, putD, sD]
theorem rd_pmany (ls : List (List Nat)) (i m j : Nat) : putD ("many" : Str) (.int j) (rdF ls i m) = rdF ls i j := by simp [rdF, putD, sE, sF]
theorem no_meth (ls : List (List Nat)) (i m : Nat) : ∀ x ∈ [("text_at" : Str), "plan", "body", "filled"], (rdF ls i m).lookup x = none := by
  intro x hx
  have e : ∀ x ∈ [("text_at" : Str), "plan", "body", "filled"], (x == ("lines" : Str)) = false ∧ (x == ("at" : Str)) = false ∧ (x == ("many" : Str)) = false := by decide +kernel
  obtain ⟨a, b, c⟩ := e x hx
  simp [rdF, List.lookup, a, b, c]
theorem objAt_rd {S : Sto} {r : Nat} {ls : List (List Nat)} {i m : Nat} (h : S[r]? = some (rdO ls i m)) : objAt S (.own r) = some (("Reader" : Str), rdF ls i m) := by simp [objAt, h, rdO]
theorem fld_eq {f : Str} {S : Sto} {r : Nat} {ls : List (List Nat)} {i m : Nat} {v : D} {ρ : DE.Env} (hv : ρ[0]? = some (some (.own r))) (h : S[r]? = some (rdO ls i m)) (hf : (rdF ls i m).lookup f = some v) :
    dFld f ["Reader"] (dVar 0) ρ S = .ok v S := by simp [dFld, hv, objAt_rd h, hf]
theorem fld_at {S : Sto} {r : Nat} {ls : List (List Nat)} {i m : Nat} {ρ : DE.Env} (hv : ρ[0]? = some (some (.own r))) (h : S[r]? = some (rdO ls i m)) : dFld "at" ["Reader"] (dVar 0) ρ S = .ok (.int i) S := fld_eq hv h (rd_at ls i m)
theorem fld_many {S : Sto} {r : Nat} {ls : List (List Nat)} {i m : Nat} {ρ : DE.Env} (hv : ρ[0]? = some (some (.own r))) (h : S[r]? = some (rdO ls i m)) : dFld "many" ["Reader"] (dVar 0) ρ S = .ok (.int m) S := fld_eq hv h (rd_many ls i m)
theorem fld_lines {S : Sto} {r : Nat} {ls : List (List Nat)} {i m : Nat} {ρ : DE.Env} (hv : ρ[0]? = some (some (.own r))) (h : S[r]? = some (rdO ls i m)) : dFld "lines" ["Reader"] (dVar 0) ρ S = .ok (.lst (Lm ls)) S := fld_eq hv h (rd_lines ls i m)
/-- o.m(..) on the reader -/
theorem meth_eq {m : Str} {n : Nat} {F : FD} {fa : MA} {ρ : DE.Env} {S S2 : Sto} {r : Nat} {ls : List (List Nat)} {i k : Nat} {ds : List D} (hm : m ∈ [("text_at" : Str), "plan", "body", "filled"]) (hv : ρ[0]? = some (some (.own r))) (h : S[r]? = some (rdO ls i k)) (ha : fa ρ S = .ok ds S2) (hl : ds.length + 1 = n) :
    dMeth m n [("Reader", F)] (dVar 0) fa ρ S = F (.own r :: ds) S2 := by
  have nm := no_meth ls i k m hm
  simp [dMeth, hv, objAt_rd h, nm, ha, hl]
theorem mul_two (d : Nat) (S : Sto) : oMul (.int 2) (.int d) S = .ok (.int (2 * d : Nat)) S := by
  have := oMul_int (i := 2) (j := d) (S := S) (.inl (by decide))
  simpa using this
theorem ix_lm {ls : List (List Nat)} {i : Nat} {l : List Nat} (h : ls[i]? = some l) (S : Sto) : oIx (.lst (Lm ls)) (.int i) S = .ok (.str (mkS l)) S := ix_lst i (by simp [Lm, h]) S
theorem text_at_eq {S : Sto} {r d : Nat} {ls : List (List Nat)} {i m : Nat} (h : S[r]? = some (rdO ls i m)) (hi : i ≤ ls.length) (hd : d < 9) (g : ∀ l ∈ ls, As l) :
    F_Reader_text_at [.own r, .int d] S = .ok (txD (textAt ls i d)) S := by
  have f1 := fun o => fld_at (ρ := [some (.own r), some (.int d), o]) rfl h
  have f2 := fun o => fld_lines (ρ := [some (.own r), some (.int d), o]) rfl h
  have ll := Lm_len ls
  have e : F_Reader_text_at [.own r, .int d] S = (B_Reader_text_at [some (.own r), some (.int d), none] S).fin := rfl
  rw [e]
  unfold textAt
  cases q : ls[i]? with
  | none =>
    have : i = ls.length := by have := List.getElem?_eq_none_iff.mp q; omega
    simp [B_Reader_text_at, f1, f2, oLen, seqOf, ll, this, txD]
  | some l =>
    have lt : i < ls.length := (List.getElem?_eq_some_iff.mp q).1
    have ne : ¬ ((i : Int) = ls.length) := by omega
    have al := g l (List.mem_of_getElem? q)
    have ix := ix_lm q S
    have mu := mul_ind hd S
    have m2 := mul_two d S
    have sf := sl_from l (2 * d) (by have := al.1; exact Nat.le_trans this (by decide)) S
    have st : oStarts (mkS l) [.str (mkS (ind d))] S = .ok (.bl (decide (l.take (2 * d) = ind d))) S := by
      simp only [oStarts, starts_eq, ind_len]
    by_cases z : l.take (2 * d) = ind d
    · rw [decide_eq_true z] at st
      simp at m2 sf
      simp [B_Reader_text_at, f1, f2, oLen, seqOf, ll, ne, ix, mu, st, m2, sf, z, txD, dTM]
    · rw [decide_eq_false z] at st
      simp [B_Reader_text_at, f1, f2, oLen, seqOf, ll, ne, ix, mu, st, z, txD, dTM]
/-! ### what stays -/
structure Kp (r : Nat) (S S' : Sto) : Prop where
  le : S.length ≤ S'.length
  kp : ∀ j, j < S.length → j ≠ r → S'[j]? = S[j]?
theorem Kp.refl {r : Nat} {S : Sto} : Kp r S S := ⟨Nat.le_refl _, fun _ _ _ => rfl⟩
theorem Kp.trans {r : Nat} {A B C : Sto} (h : Kp r A B) (k : Kp r B C) : Kp r A C := ⟨Nat.le_trans h.le k.le, fun j hj hr => by rw [k.kp j (Nat.lt_of_lt_of_le hj h.le) hr, h.kp j hj hr]⟩
theorem Kp.set {r : Nat} {S : Sto} (d : D) : Kp r S (S.set r d) := ⟨by simp, fun j _ hr => List.getElem?_set_ne (Ne.symm hr)⟩
/-! ### heads -/
theorem split_sp (l : List Nat) : ∀ a r, splitL 32 (32 :: l) = a :: r → a = [] := fun a r h => by
  simp [splitL] at h
  first | exact h.1 | exact h.1.symm
theorem ev_ne {e : Ev} (h : e.ok) : ∃ c r, e.txt = c :: r ∧ c ≠ 32 := by
  have hd : ∃ a r, e.parts = a :: r ∧ a ≠ [] ∧ 32 ∉ a := by
    cases e with
    | write p k v => exact ⟨_, _, rfl, by decide, by decide⟩
    | send0 p q => exact ⟨_, _, rfl, by decide, by decide⟩
    | send p q ks => exact ⟨_, _, rfl, by decide, by decide⟩
    | take q p n => exact ⟨_, _, rfl, by decide, by decide⟩
    | pass p n => exact ⟨_, _, rfl, by decide, by decide⟩
    | words ws =>
      obtain ⟨h1, ⟨a, b, r, rfl, _⟩, _⟩ := h
      exact ⟨a, _, rfl, (h1 a (by simp)).ne, (h1 a (by simp)).free⟩
  obtain ⟨a, r, e1, ne, fr⟩ := hd
  cases a with
  | nil => exact absurd rfl ne
  | cons c a =>
    refine ⟨c, _, by unfold Ev.txt; rw [e1, joinL_flat]; rfl, fun z => fr (by rw [z]; simp)⟩
theorem head_ne {t : Tr} {k : Nat} (h : t.ok k) : t.head.head? ≠ some 32 ∧ t.head ≠ cEl := by
  cases t with
  | ev e =>
    simp only [Tr.ok] at h
    obtain ⟨c, r, e1, ne⟩ := ev_ne h.1
    obtain ⟨a, b, r2, sp, _, _⟩ := ev_parts h.1
    refine ⟨by simp only [Tr.head]; rw [e1]; simpa using ne, fun z => ?_⟩
    have z : e.txt = cEl := z
    rw [z] at sp
    have : splitL 32 cEl = [cEl] := by decide
    rw [this] at sp
    simp at sp
  | rep n p => exact ⟨by simp [Tr.head, cRe], by simp [Tr.head, cRe, cEl]⟩
  | try_ p => exact ⟨by simp [Tr.head, cTr], by simp [Tr.head, cTr, cEl]⟩
  | each w p => exact ⟨by simp [Tr.head, cEa], by simp [Tr.head, cEa, cEl]⟩
  | if_ a b p q => exact ⟨by simp [Tr.head, cIf], by simp [Tr.head, cIf, cEl]⟩
/-- what may stand behind a plan at depth d -/
def Stop (d : Nat) : List (List Nat) → Prop
  | [] => True
  | l :: _ => ∃ d' x, l = ind d' ++ x ∧ x.head? ≠ some 32 ∧ d' < d
/-- what may stand behind a step at depth d -/
def Aft (d : Nat) : List (List Nat) → Prop
  | [] => True
  | l :: _ => ∃ d' x, l = ind d' ++ x ∧ x.head? ≠ some 32 ∧ (d' < d ∨ (d' = d ∧ x ≠ cEl))
theorem Stop.aft {d : Nat} {R : List (List Nat)} (h : Stop d R) : Aft d R := by
  cases R with
  | nil => trivial
  | cons l r => obtain ⟨d', x, a, b, c⟩ := h; exact ⟨d', x, a, b, .inl c⟩
theorem Aft.stop {d : Nat} {R : List (List Nat)} (h : Aft d R) : Stop (d + 1) R := by
  cases R with
  | nil => trivial
  | cons l r => obtain ⟨d', x, a, b, c⟩ := h; exact ⟨d', x, a, b, by rcases c with c | c <;> omega⟩
theorem drop_nil {ls : List (List Nat)} {i : Nat} (h : ls.drop i = []) : ls[i]? = none := by
  rw [List.getElem?_eq_none_iff]; exact List.drop_eq_nil_iff.mp h
theorem drop_cons {ls : List (List Nat)} {i : Nat} {l : List Nat} {R : List (List Nat)} (h : ls.drop i = l :: R) : ls[i]? = some l ∧ ls.drop (i + 1) = R ∧ i < ls.length := by
  have e : ls[i]? = some l := by have := congrArg (fun z => z[0]?) h; simpa using this
  refine ⟨e, ?_, (List.getElem?_eq_some_iff.mp e).1⟩
  have := congrArg (List.drop 1) h
  simpa using this
theorem ind_pre (d : Nat) (x : List Nat) : (ind d ++ x).take (2 * d) = ind d ∧ (ind d ++ x).drop (2 * d) = x := by
  have := ind_len d
  constructor
  · rw [← this, List.take_left]
  · rw [← this, List.drop_left]
theorem ind_no {d d' : Nat} {x : List Nat} (hx : x.head? ≠ some 32) (h : d' < d) : ¬ (ind d' ++ x).take (2 * d) = ind d := by
  intro z
  have e := congrArg (fun l => l[2 * d']?) z
  have l1 := ind_len d'
  have r1 : (ind d)[2 * d']? = some 32 := by
    unfold ind
    rw [List.getElem?_replicate, if_pos (by omega)]
  simp only [r1] at e
  rw [List.getElem?_take, if_pos (by omega), List.getElem?_append_right (by omega), l1, Nat.sub_self, ← List.head?_eq_getElem?] at e
  exact hx e
theorem text_of {ls : List (List Nat)} {i d : Nat} {x : List Nat} {R : List (List Nat)} (h : ls.drop i = (ind d ++ x) :: R) : textAt ls i d = some x := by
  obtain ⟨e, _, _⟩ := drop_cons h
  obtain ⟨a, b⟩ := ind_pre d x
  unfold textAt
  rw [e]
  simp only [a, b, if_true]
theorem text_stop {ls : List (List Nat)} {i d : Nat} {R : List (List Nat)} (h : ls.drop i = R) (s : Stop d R) : textAt ls i d = none := by
  unfold textAt
  cases R with
  | nil => rw [drop_nil h]
  | cons l r =>
    obtain ⟨e, _, _⟩ := drop_cons h
    obtain ⟨d', x, rfl, hx, hd⟩ := s
    rw [e]
    simp only [ind_no hx hd, if_false]
theorem text_aft {ls : List (List Nat)} {i d : Nat} {R : List (List Nat)} (h : ls.drop i = R) (s : Aft d R) : textAt ls i d ≠ some cEl := by
  cases R with
  | nil => rw [text_stop h (d := d) trivial]; simp
  | cons l r =>
    obtain ⟨d', x, rfl, hx, hd⟩ := s
    rcases hd with hd | ⟨rfl, hd⟩
    · rw [text_stop h ⟨d', x, rfl, hx, hd⟩]; simp
    · rw [text_of h]; simpa using hd
theorem aug_at {ρ : DE.Env} {S : Sto} {r : Nat} {ls : List (List Nat)} {i m : Nat} (hv : ρ[0]? = some (some (.own r))) (h : S[r]? = some (rdO ls i m)) :
    DE.sFldAug "at" ["Reader"] (dVar 0) (dC (.int 1)) ρ S = .nx ρ (S.set r (rdO ls (i + 1) m)) := by
  have la := rd_at ls i m
  have pa := rd_pat ls i m (i + 1)
  have h' : S[r]? = some (.obj ("Reader" : Str) (rdF ls i m)) := h
  have l3 : (rdF ls i m).length < 1000 := by simp [rdF]
  have pa : putD ("at" : Str) (.int ((i : Int) + 1)) (rdF ls i m) = rdF ls (i + 1) m := by simpa using pa
  simp [DE.sFldAug, hv, h', la, l3, rdO, pa]
theorem aug_many {ρ : DE.Env} {S : Sto} {r : Nat} {ls : List (List Nat)} {i m : Nat} (hv : ρ[0]? = some (some (.own r))) (h : S[r]? = some (rdO ls i m)) :
    DE.sFldAug "many" ["Reader"] (dVar 0) (dC (.int 1)) ρ S = .nx ρ (S.set r (rdO ls i (m + 1))) := by
  have la := rd_many ls i m
  have pa := rd_pmany ls i m (m + 1)
  have h' : S[r]? = some (.obj ("Reader" : Str) (rdF ls i m)) := h
  have l3 : (rdF ls i m).length < 1000 := by simp [rdF]
  have pa : putD ("many" : Str) (.int ((m : Int) + 1)) (rdF ls i m) = rdF ls i (m + 1) := by simpa using pa
  simp [DE.sFldAug, hv, h', la, l3, rdO, pa]
end G

set_option maxHeartbeats 4000000
namespace G
open PySem L2 DE
/-- a def that reads a plan at a depth -/
def PlanOk (φ : FD) (d : Nat) (p : List Tr) : Prop := ∀ (r : Nat) (S : Sto) (ls : List (List Nat)) (i m : Nat) (R : List (List Nat)), S[r]? = some (rdO ls i m) → (∀ l ∈ ls, As l) → i ≤ ls.length → ls.drop i = trsL d p ++ R → Stop d R → m + trsN p ≤ 200 →
  ∃ S', φ [.own r, .int d] S = .ok (.tup (trsD p)) S' ∧ S'[r]? = some (rdO ls (i + (trsL d p).length) (m + trsN p)) ∧ Kp r S S'
/-- a def that fills a step whose line is read -/
def FillOk (φ : FD) (d : Nat) (t : Tr) : Prop := ∀ (r : Nat) (S : Sto) (ls : List (List Nat)) (i m : Nat) (R : List (List Nat)), S[r]? = some (rdO ls i m) → (∀ l ∈ ls, As l) → i ≤ ls.length → ls.drop i = (t.lines d).tail ++ R → Aft d R → m + t.many ≤ 201 →
  ∃ S', φ [.own r, t.shell, .int d] S = .ok t.d S' ∧ S'[r]? = some (rdO ls (i + (t.lines d).tail.length) (m + t.many - 1)) ∧ Kp r S S'
theorem body_ok {φp φb φf : FD} {d k : Nat} {p : List Tr} (hp : trsOk k p) (hk : k ≤ 20) (ne : p ≠ []) (h : PlanOk φp d p) : PlanOk (fnD 3 (B_Reader_body φp φb φf)) d p := by
  intro r S ls i m R hr hg hi hd hs hm
  obtain ⟨S', e, hr', kp⟩ := h r S ls i m R hr hg hi hd hs hm
  refine ⟨S', ?_, hr', kp⟩
  have me := meth_eq (m := "plan") (n := 2) (F := φp) (fa := aCons (dVar 1) aNil) (ρ := [some (.own r), some (.int d), none]) (S := S) (S2 := S) (ds := [.int d]) (by simp) rfl hr (by simp) rfl
  rw [e] at me
  have tn := (tup_nil hp (by omega) S').1
  have pe : p.isEmpty = false := by cases p <;> simp at ne ⊢
  rw [pe] at tn
  have k0 : 0 ≤ cap := Nat.zero_le _
  rw [e_fnD]
  simp [B_Reader_body, me, tn, k0]
theorem tup_add (xs ys : List D) (h : xs.length + ys.length ≤ 100) (S : Sto) : oAdd (.tup xs) (.tup ys) S = .ok (.tup (xs ++ ys)) S := tup_app xs ys (Nat.le_trans h (by decide)) S
theorem sh0 (t : Tr) (S : Sto) : oIx t.shell (.int 0) S = .ok (.str (mkS t.hd)) S := by cases t <;> rfl
theorem lines_tail (t : Tr) (d : Nat) : (t.lines d).tail = (match t.inner with
    | [] => []
    | [p] => trsL (d + 1) p
    | p :: q :: _ => trsL (d + 1) p ++ (if q = [] then [] else (ind d ++ cEl) :: trsL (d + 1) q)) := by rw [lines_inner]; rfl
theorem ne_txt {o : Option (List Nat)} (h : ∀ x, o = some x → As x) (no : o ≠ some cEl) (S : Sto) : oNe (txD o) (.str (mkS cEl)) S = .ok (.bl true) S := by
  cases o with
  | none =>
    have : eqD .non (.str (mkS cEl)) = some false := by decide +kernel
    simp only [txD, oNe, this, Bool.not_false]
  | some x =>
    have ae : As cEl := ⟨by decide, by decide⟩
    have := ne_s (h x rfl) ae S
    have ne : x ≠ cEl := fun z => no (by rw [z])
    simpa [txD, ne] using this
theorem text_as {ls : List (List Nat)} {i d : Nat} (hg : ∀ l ∈ ls, As l) : ∀ x, textAt ls i d = some x → As x := fun x h => by
  unfold textAt at h
  cases q : ls[i]? with
  | none => rw [q] at h; cases h
  | some l =>
    rw [q] at h
    simp only at h
    split at h
    · cases h
      exact (hg l (List.mem_of_getElem? q)).sub (by simp) fun c hc => List.mem_of_mem_drop hc
    · cases h
theorem fill_ok {φp φb φf : FD} {d k : Nat} {t : Tr} (ht : t.ok k) (hk : k ≤ 20) (hd : d < 8) (nev : ∀ e, t ≠ .ev e) (hb : ∀ p ∈ t.inner, p ≠ [] → PlanOk φb (d + 1) p) : FillOk (fnD 4 (B_Reader_filled φp φb φf)) d t := by
  intro r S ls i m R hr hg hi hdr ha hm
  have ioK := inner_ok ht
  have mi := many_inner t
  rw [lines_tail] at hdr ⊢
  have d1 : ((d + 1 : Nat) : Int) = (d : Int) + 1 := by omega
  have k1 : 1 ≤ cap := by decide
  have k2 : 2 ≤ cap := by decide
  have k0 : 0 ≤ cap := Nat.zero_le _
  cases qi : t.inner with
  | nil => cases t <;> simp [Tr.inner] at qi; exact absurd rfl (nev _)
  | cons p ps =>
    have hp : p ≠ [] := ioK.2 p ps qi
    have okp : trsOk k p := ioK.1 p (by rw [qi]; simp)
    have bp := hb p (by rw [qi]; simp) hp
    rw [qi] at hdr mi
    have mp : trsN p + 1 ≤ t.many := by rw [mi]; simp only [List.map_cons, List.sum_cons]; omega
    cases ps with
    | nil =>
      simp only [List.map_cons, List.map_nil, List.sum_cons, List.sum_nil] at mi
      simp only at hdr ⊢
      obtain ⟨S', e, hr', kp⟩ := bp r S ls i m R hr hg hi hdr ha.stop (by omega)
      refine ⟨S', ?_, by rw [hr']; congr 2; omega, kp⟩
      rw [e_fnD]
      have me := meth_eq (m := "body") (n := 2) (F := φb) (fa := aCons (dBin oAdd (dVar 2) (dC (.int 1))) aNil) (ρ := [some (.own r), some t.shell, some (.int d), none]) (S := S) (S2 := S) (ds := [.int ((d : Int) + 1)]) (by simp) rfl hr (by simp) rfl
      rw [d1] at e
      rw [e] at me
      have s0 := sh0 t S'
      have fin : ∀ xs : List D, slD t.shell none (some (-1)) S' = .ok (.tup xs) S' → oAdd (.tup xs) (.tup [.tup (trsD p)]) S' = .ok t.d S' → t.hd ≠ cIf →
          (B_Reader_filled φp φb φf [some (.own r), some t.shell, some (.int d), none] S).fin = .ok t.d S' := fun xs h1 h2 h3 => by
        have n1 := eq_no (a := t.hd) (b := cIf) (hd_in t) (by decide) h3
        have n2 : oNe (.str (mkS t.hd)) (.str (mkS cIf)) S' = .ok (.bl true) S' := by rw [ne_s (hds_as _ (hd_in t)) (hds_as cIf (by decide))]; simp [h3]
        simp [B_Reader_filled, me, s0, qIf, n2, h1, h2, k1]
      cases t with
      | ev e => exact absurd rfl (nev e)
      | rep c p' =>
        simp only [Tr.inner, List.cons.injEq, and_true] at qi
        subst qi
        exact fin [.str (mkS cRe), .int c] rfl (by simp only [tup_add [_, _] [_] (by simp)]; rfl) (by simp [Tr.hd, cRe, cIf])
      | try_ p' =>
        simp only [Tr.inner, List.cons.injEq, and_true] at qi
        subst qi
        exact fin [.str (mkS cTr)] rfl (by simp only [tup_add [_] [_] (by simp)]; rfl) (by simp [Tr.hd, cTr, cIf])
      | each w p' =>
        simp only [Tr.inner, List.cons.injEq, and_true] at qi
        subst qi
        exact fin [.str (mkS cEa), .str (mkS w)] rfl (by simp only [tup_add [_, _] [_] (by simp)]; rfl) (by simp [Tr.hd, cEa, cIf])
      | if_ a b p' q' => simp [Tr.inner] at qi
    | cons q ps2 =>
      cases t with
      | ev e => exact absurd rfl (nev e)
      | rep c p' => simp [Tr.inner] at qi
      | try_ p' => simp [Tr.inner] at qi
      | each w p' => simp [Tr.inner] at qi
      | if_ x y p' q' =>
        simp only [Tr.inner, List.cons.injEq] at qi
        obtain ⟨rfl, rfl, rfl⟩ := qi
        simp only [List.map_cons, List.map_nil, List.sum_cons, List.sum_nil] at mi
        simp only at hdr ⊢
        have shd : (Tr.if_ x y p' q').shell = .tup [.str (mkS cIf), .str (mkS x), .str (mkS y), .tup [], .tup []] := rfl
        have sl3 : ∀ S, slD (.tup [.str (mkS cIf), .str (mkS x), .str (mkS y), .tup [], .tup []]) none (some 3) S = .ok (.tup [.str (mkS cIf), .str (mkS x), .str (mkS y)]) S := fun _ => rfl
        have i0 : ∀ S, oIx (.tup [.str (mkS cIf), .str (mkS x), .str (mkS y), .tup [], .tup []]) (.int 0) S = .ok (.str (mkS cIf)) S := fun _ => rfl
        have n2 : ∀ S, oNe (.str (mkS cIf)) (.str (mkS cIf)) S = .ok (.bl false) S := fun S => by rw [ne_s (hds_as _ (by decide)) (hds_as cIf (by decide))]; simp
        rw [shd]
        by_cases zq : q' = []
        · subst zq
          simp only [if_true, List.append_nil] at hdr ⊢
          obtain ⟨S1, e, hr1, kp⟩ := bp r S ls i m R hr hg hi hdr ha.stop (by omega)
          have me := meth_eq (m := "body") (n := 2) (F := φb) (fa := aCons (dBin oAdd (dVar 2) (dC (.int 1))) aNil) (ρ := [some (.own r), some (.tup [.str (mkS cIf), .str (mkS x), .str (mkS y), .tup [], .tup []]), some (.int d), none]) (S := S) (S2 := S) (ds := [.int ((d : Int) + 1)]) (by simp) rfl hr (by simp) rfl
          rw [d1] at e
          rw [e] at me
          have hdr1 : ls.drop (i + (trsL (d + 1) p').length) = R := by rw [← List.drop_drop, hdr, List.drop_left]
          have hi1 : i + (trsL (d + 1) p').length ≤ ls.length := by
            have := congrArg List.length hdr
            rw [List.length_drop, List.length_append] at this
            omega
          have ta := text_at_eq (d := d) hr1 hi1 (by omega) hg
          have mt := meth_eq (m := "text_at") (n := 2) (F := F_Reader_text_at) (fa := aCons (dVar 2) aNil) (ρ := [some (.own r), some (.tup [.str (mkS cIf), .str (mkS x), .str (mkS y), .tup [], .tup []]), some (.int d), some (.tup (trsD p'))]) (S := S1) (S2 := S1) (ds := [.int d]) (by simp) rfl hr1 (by simp) rfl
          rw [ta] at mt
          have nt := ne_txt (text_as hg) (text_aft hdr1 ha) S1
          have ad := tup_add [.str (mkS cIf), .str (mkS x), .str (mkS y)] [.tup (trsD p'), .tup []] (by simp) S1
          have nn0 : trsN ([] : List Tr) = 0 := rfl
          refine ⟨S1, ?_, by rw [hr1]; congr 2; omega, kp⟩
          rw [e_fnD]
          simp [B_Reader_filled, me, i0, qIf, n2, qEl, mt, nt, sl3, ad, k0, k2, Tr.d, trsD]
        · simp only [if_neg zq] at hdr ⊢
          have hdr0 : ls.drop i = trsL (d + 1) p' ++ (((ind d ++ cEl) :: trsL (d + 1) q') ++ R) := by rw [hdr]; simp
          have st0 : Stop (d + 1) (((ind d ++ cEl) :: trsL (d + 1) q') ++ R) := ⟨d, cEl, rfl, by decide, by omega⟩
          obtain ⟨S1, e, hr1, kp⟩ := bp r S ls i m _ hr hg hi hdr0 st0 (by omega)
          have me := meth_eq (m := "body") (n := 2) (F := φb) (fa := aCons (dBin oAdd (dVar 2) (dC (.int 1))) aNil) (ρ := [some (.own r), some (.tup [.str (mkS cIf), .str (mkS x), .str (mkS y), .tup [], .tup []]), some (.int d), none]) (S := S) (S2 := S) (ds := [.int ((d : Int) + 1)]) (by simp) rfl hr (by simp) rfl
          rw [d1] at e
          rw [e] at me
          have hdr1 : ls.drop (i + (trsL (d + 1) p').length) = ((ind d ++ cEl) :: trsL (d + 1) q') ++ R := by rw [← List.drop_drop, hdr0, List.drop_left]
          obtain ⟨_, hdr2, hi2⟩ := drop_cons hdr1
          have ta := text_at_eq (d := d) hr1 (Nat.le_of_lt hi2) (by omega) hg
          rw [text_of hdr1] at ta
          have mt := meth_eq (m := "text_at") (n := 2) (F := F_Reader_text_at) (fa := aCons (dVar 2) aNil) (ρ := [some (.own r), some (.tup [.str (mkS cIf), .str (mkS x), .str (mkS y), .tup [], .tup []]), some (.int d), some (.tup (trsD p'))]) (S := S1) (S2 := S1) (ds := [.int d]) (by simp) rfl hr1 (by simp) rfl
          rw [ta] at mt
          have ae : As cEl := ⟨by decide, by decide⟩
          have nt : oNe (txD (some cEl)) (.str (mkS cEl)) S1 = .ok (.bl false) S1 := by simpa [txD] using ne_s ae ae S1
          have rlt : r < S1.length := (List.getElem?_eq_some_iff.mp hr1).1
          -- at += 1
          have fa1 := aug_at (ρ := [some (.own r), some (.tup [.str (mkS cIf), .str (mkS x), .str (mkS y), .tup [], .tup []]), some (.int d), some (.tup (trsD p'))]) rfl hr1
          have hr2 : (S1.set r (rdO ls (i + (trsL (d + 1) p').length + 1) (m + trsN p')))[r]? = some (rdO ls (i + (trsL (d + 1) p').length + 1) (m + trsN p')) := List.getElem?_set_self rlt
          have k2' := Kp.set (r := r) (S := S1) (rdO ls (i + (trsL (d + 1) p').length + 1) (m + trsN p'))
          generalize S1.set r (rdO ls (i + (trsL (d + 1) p').length + 1) (m + trsN p')) = S2 at fa1 hr2 k2'
          have bq := hb q' (by simp [Tr.inner]) zq
          obtain ⟨S3, e3, hr3, kp3⟩ := bq r S2 ls _ _ R hr2 hg (by omega) hdr2 ha.stop (by omega)
          have mq := meth_eq (m := "body") (n := 2) (F := φb) (fa := aCons (dBin oAdd (dVar 2) (dC (.int 1))) aNil) (ρ := [some (.own r), some (.tup [.str (mkS cIf), .str (mkS x), .str (mkS y), .tup [], .tup []]), some (.int d), some (.tup (trsD p'))]) (S := S2) (S2 := S2) (ds := [.int ((d : Int) + 1)]) (by simp) rfl hr2 (by simp) rfl
          rw [d1] at e3
          rw [e3] at mq
          have ad := tup_add [.str (mkS cIf), .str (mkS x), .str (mkS y)] [.tup (trsD p'), .tup (trsD q')] (by simp) S3
          refine ⟨S3, ?_, ?_, (kp.trans k2').trans kp3⟩
          · rw [e_fnD]
            simp [B_Reader_filled, me, i0, qIf, n2, qEl, mt, nt, fa1, mq, sl3, ad, k0, k2, Tr.d]
          · rw [hr3]
            congr 2
            · simp only [List.length_append, List.length_cons]; omega
            · omega
end G

set_option maxHeartbeats 4000000
namespace G
open PySem L2 DE
theorem aEl : As cEl := ⟨by decide, by decide⟩
section
variable {φp φb φf : FD} {d k r f : Nat} {ls : List (List Nat)} {o3 o4 : Option D} {S : Sto} {i m : Nat}
theorem test_yes {x : List Nat} (h : S[r]? = some (rdO ls i m)) (hi : i ≤ ls.length) (hd : d < 9) (hg : ∀ l ∈ ls, As l) (hx : textAt ls i d = some x) (ne : x ≠ cEl) :
    L_Reader_plan_1_t φp φb φf [some (.own r), some (.int d), some (.own f), o3, o4] S = .nx [some (.own r), some (.int d), some (.own f), some (.str (mkS x)), o4] S := by
  have ta := text_at_eq (d := d) h hi hd hg
  have mt := meth_eq (m := "text_at") (n := 2) (F := F_Reader_text_at) (fa := aCons (dVar 1) aNil) (ρ := [some (.own r), some (.int d), some (.own f), o3, o4]) (S := S) (S2 := S) (ds := [.int d]) (by simp) rfl h (by simp) rfl
  rw [ta, hx] at mt
  have nt := ne_s (text_as hg x hx) aEl S
  simp only [ne, decide_false, Bool.not_false] at nt
  simp [L_Reader_plan_1_t, mAndW, mWal, mt, txD, DE.isNon, qEl, nt]
theorem test_no (h : S[r]? = some (rdO ls i m)) (hi : i ≤ ls.length) (hd : d < 9) (hg : ∀ l ∈ ls, As l) (hx : textAt ls i d = none) :
    L_Reader_plan_1_t φp φb φf [some (.own r), some (.int d), some (.own f), o3, o4] S = .bk [some (.own r), some (.int d), some (.own f), some .non, o4] S := by
  have ta := text_at_eq (d := d) h hi hd hg
  have mt := meth_eq (m := "text_at") (n := 2) (F := F_Reader_text_at) (fa := aCons (dVar 1) aNil) (ρ := [some (.own r), some (.int d), some (.own f), o3, o4]) (S := S) (S2 := S) (ds := [.int d]) (by simp) rfl h (by simp) rfl
  rw [ta, hx] at mt
  simp [L_Reader_plan_1_t, mAndW, mWal, mt, txD, DE.isNon]
end
theorem sh_non (t : Tr) : DE.isNon t.shell = false := by cases t <;> rfl
/-- one turn of the reader's loop -/
theorem pl_turn {φp φb φf : FD} {d k r f : Nat} {ls : List (List Nat)} {o4 : Option D} {S : Sto} {i m : Nat} {t : Tr} {acc : List D} {R : List (List Nat)} (ht : t.ok k) (hd : d < 6) (h : S[r]? = some (rdO ls i m)) (hf : S[f]? = some (.lst acc)) (fr : f ≠ r) (hg : ∀ l ∈ ls, As l)
    (hdr : ls.drop i = t.lines d ++ R) (ha : Aft d R) (hm : m + t.many ≤ 200) (hacc : acc.length < 1000) (hF : (∀ e, t ≠ .ev e) → FillOk φf d t) :
    ∃ u4 S', L_Reader_plan_1 φp φb φf [some (.own r), some (.int d), some (.own f), some (.str (mkS t.head)), o4] S = .nx [some (.own r), some (.int d), some (.own f), some (.str (mkS t.head)), u4] S' ∧
      S'[r]? = some (rdO ls (i + (t.lines d).length) (m + t.many)) ∧ S'[f]? = some (.lst (acc ++ [t.d])) ∧ S.length ≤ S'.length ∧ ∀ j, j < S.length → j ≠ r → j ≠ f → S'[j]? = S[j]? := by
  have rlt : r < S.length := (List.getElem?_eq_some_iff.mp h).1
  have flt : f < S.length := (List.getElem?_eq_some_iff.mp hf).1
  have si := step_in_eq ht S
  have sn := sh_non t
  have mp := many_pos t
  have c1 : ((d : Int) == 6) = false := by simp; omega
  have c2 : ((m : Int) == 200) = false := by simp; omega
  have fm := fld_many (ρ := [some (.own r), some (.int d), some (.own f), some (.str (mkS t.head)), some t.shell]) rfl h
  have f1 := aug_at (ρ := [some (.own r), some (.int d), some (.own f), some (.str (mkS t.head)), some t.shell]) rfl h
  have h1 : (S.set r (rdO ls (i + 1) m))[r]? = some (rdO ls (i + 1) m) := List.getElem?_set_self rlt
  have k1 := Kp.set (r := r) (S := S) (rdO ls (i + 1) m)
  generalize S.set r (rdO ls (i + 1) m) = S1 at f1 h1 k1
  have rlt1 : r < S1.length := (List.getElem?_eq_some_iff.mp h1).1
  have f2 := aug_many (ρ := [some (.own r), some (.int d), some (.own f), some (.str (mkS t.head)), some t.shell]) rfl h1
  have h2 : (S1.set r (rdO ls (i + 1) (m + 1)))[r]? = some (rdO ls (i + 1) (m + 1)) := List.getElem?_set_self rlt1
  have k2 := k1.trans (Kp.set (r := r) (S := S1) (rdO ls (i + 1) (m + 1)))
  generalize S1.set r (rdO ls (i + 1) (m + 1)) = S2 at f2 h2 k2
  have hf2 : S2[f]? = some (.lst acc) := by rw [k2.kp f flt fr]; exact hf
  -- the step, filled
  have lc : acc.length < cap := Nat.lt_of_lt_of_le hacc (by decide)
  have lin : t.lines d = (ind d ++ t.head) :: (t.lines d).tail := by rw [lines_inner]; rfl
  have hdr' : ls.drop i = (ind d ++ t.head) :: ((t.lines d).tail ++ R) := by rw [hdr, lin]; rfl
  obtain ⟨_, hdr2, hi2⟩ := drop_cons hdr'
  have llen : (t.lines d).length = 1 + (t.lines d).tail.length := by rw [lin]; simp; omega
  have s0 := sh0 t S2
  have ex : ∃ S3, (dIfE (dTest (dBin oEq (dBin oIx (dVar 4) (dC (.int 0))) (dC (.str (Str.ofString "do"))))) (dVar 4) (dMeth "filled" 3 [("Reader", φf)] (dVar 0) (aCons (dVar 4) (aCons (dVar 1) aNil)))) [some (.own r), some (.int d), some (.own f), some (.str (mkS t.head)), some t.shell] S2 = .ok t.d S3 ∧
      S3[r]? = some (rdO ls (i + (t.lines d).length) (m + t.many)) ∧ Kp r S2 S3 := by
    by_cases ev : ∃ e, t = .ev e
    · obtain ⟨e, rfl⟩ := ev
      refine ⟨S2, ?_, ?_, Kp.refl⟩
      · have i0 : oIx (Tr.ev e).shell (.int 0) S2 = .ok (.str (mkS cDo)) S2 := s0
        simp [i0, qDo, eq_yes (a := cDo)]
        rfl
      · have l1 : ((Tr.ev e).lines d).length = 1 := rfl
        rw [h2, l1]
        rfl
    · have nev : ∀ e, t ≠ .ev e := fun e z => ev ⟨e, z⟩
      obtain ⟨S3, e3, h3, k3⟩ := hF nev r S2 ls (i + 1) (m + 1) R h2 hg (by omega) hdr2 ha (by omega)
      have nd : t.hd ≠ cDo := by cases t <;> first | exact absurd rfl (nev _) | simp [Tr.hd, cRe, cTr, cEa, cIf, cDo]
      have q := eq_no (a := t.hd) (b := cDo) (hd_in t) (by decide) nd
      have me := meth_eq (m := "filled") (n := 3) (F := φf) (fa := aCons (dVar 4) (aCons (dVar 1) aNil)) (ρ := [some (.own r), some (.int d), some (.own f), some (.str (mkS t.head)), some t.shell]) (S := S2) (S2 := S2) (ds := [t.shell, .int d]) (by simp) rfl h2 (by simp) rfl
      rw [e3] at me
      refine ⟨S3, ?_, ?_, k3⟩
      · simp [s0, qDo, q, me]
      · rw [h3, llen]
        congr 2
        · omega
        · omega
  obtain ⟨S3, e3, h3, k3⟩ := ex
  have k13 := k2.trans k3
  have hf3 : S3[f]? = some (.lst acc) := by rw [k13.kp f flt fr]; exact hf
  have flt3 : f < S3.length := (List.getElem?_eq_some_iff.mp hf3).1
  have ap := app_eq (ρ := [some (.own r), some (.int d), some (.own f), some (.str (mkS t.head)), some t.shell]) rfl hf2 e3 hf3 lc
  refine ⟨some t.shell, S3.set f (.lst (acc ++ [t.d])), ?_, ?_, List.getElem?_set_self flt3, by rw [List.length_set]; exact k13.le, fun j hj jr jf => by rw [List.getElem?_set_ne (Ne.symm jf)]; exact k13.kp j hj jr⟩
  · have b : ∀ ρ S, L_Reader_plan_1 φp φb φf ρ S = (sSeq (sAsg (dCall 1 F_step_in [] (aCons (dVar 3) aNil)) (gN 4))
      (sSeq (sIf (dOrT (dTest (dBin oIs (dVar 4) (dC .non))) (dOrT (dTest (dBin oEq (dVar 1) (dC (.int 6)))) (dTest (dBin oEq (dFld "many" ["Reader"] (dVar 0)) (dC (.int 200))))))
      (sRaise "BadLine" "value" (dFld "at" ["Reader"] (dVar 0)))
      sNil)
      (sSeq (DE.sFldAug "at" ["Reader"] (dVar 0) (dC (.int 1)))
      (sSeq (DE.sFldAug "many" ["Reader"] (dVar 0) (dC (.int 1)))
      (sExpr (dApp (dVar 2) (aCons (dIfE (dTest (dBin oEq (dBin oIx (dVar 4) (dC (.int 0))) (dC (.str (Str.ofString "do"))))) (dVar 4) (dMeth "filled" 3 [("Reader", φf)] (dVar 0) (aCons (dVar 4) (aCons (dVar 1) aNil)))) aNil))))))) ρ S := fun _ _ => rfl
    rw [b]
    generalize dApp (dVar 2) (aCons (dIfE (dTest (dBin oEq (dBin oIx (dVar 4) (dC (.int 0))) (dC (.str (Str.ofString "do"))))) (dVar 4) (dMeth "filled" 3 [("Reader", φf)] (dVar 0) (aCons (dVar 4) (aCons (dVar 1) aNil)))) aNil) = zP1 at ap ⊢
    simp [si, sn, c1, fm, c2, f1, f2, ap]
  · rw [List.getElem?_set_ne fr]; exact h3
theorem aft_trs {d k : Nat} {p : List Tr} {R : List (List Nat)} (h : ∀ t ∈ p, t.ok k) (s : Stop d R) : Aft d (trsL d p ++ R) := by
  cases p with
  | nil => exact s.aft
  | cons t r =>
    have := head_ne (h t List.mem_cons_self)
    show Aft d ((t.lines d ++ trsL d r) ++ R)
    rw [lines_inner]
    exact ⟨d, t.head, rfl, this.1, .inr ⟨rfl, this.2⟩⟩
theorem pl_loop {φp φb φf : FD} {d k r f : Nat} {ls : List (List Nat)} {R : List (List Nat)} (hd6 : d < 9) (fr : f ≠ r) (hg : ∀ l ∈ ls, As l) (hs : Stop d R) : ∀ (p : List Tr) (acc : List D) (i m : Nat) (o3 o4 : Option D) (S : Sto) (N : Nat), p.length + 1 ≤ N → S[r]? = some (rdO ls i m) → S[f]? = some (.lst acc) → ls.drop i = trsL d p ++ R → i ≤ ls.length → m + trsN p ≤ 200 → acc.length + p.length ≤ 1000 → (p ≠ [] → d < 6) → (∀ t ∈ p, t.ok k) → (∀ t ∈ p, (∀ e, t ≠ .ev e) → FillOk φf d t) →
    ∃ u3 u4 S', whileW (L_Reader_plan_1_t φp φb φf) (L_Reader_plan_1 φp φb φf) N [some (.own r), some (.int d), some (.own f), o3, o4] S = .nx [some (.own r), some (.int d), some (.own f), u3, u4] S' ∧ S'[r]? = some (rdO ls (i + (trsL d p).length) (m + trsN p)) ∧ S'[f]? = some (.lst (acc ++ trsD p)) ∧ S.length ≤ S'.length ∧ ∀ j, j < S.length → j ≠ r → j ≠ f → S'[j]? = S[j]?
  | p, acc, i, m, o3, o4, S, 0, hN, _, _, _, _, _, _, _, _, _ => by omega
  | [], acc, i, m, o3, o4, S, N + 1, hN, h, hf, hdr, hi, hm, ha, hd, ht, hF => by
    have te := test_no (φp := φp) (φb := φb) (φf := φf) (f := f) (o3 := o3) (o4 := o4) h hi hd6 hg (text_stop (R := R) (by simpa [trsL] using hdr) hs)
    refine ⟨some .non, o4, S, ?_, by simpa [trsL, trsN] using h, by simpa [trsD] using hf, Nat.le_refl _, fun _ _ _ _ => rfl⟩
    simp only [whileW, te]
  | t :: p, acc, i, m, o3, o4, S, N + 1, hN, h, hf, hdr, hi, hm, ha, hd, ht, hF => by
    simp only [trsN] at hm
    simp only [List.length_cons] at hN ha
    have hd := hd (by simp)
    have okt := ht t List.mem_cons_self
    have htr : ∀ x ∈ p, x.ok k := fun x hx => ht x (List.mem_cons_of_mem _ hx)
    have hdr1 : ls.drop i = t.lines d ++ (trsL d p ++ R) := by rw [hdr]; simp [trsL]
    have hdr2 : ls.drop i = (ind d ++ t.head) :: ((t.lines d).tail ++ (trsL d p ++ R)) := by rw [hdr1]; rw [lines_inner]; rfl
    have te := test_yes (φp := φp) (φb := φb) (φf := φf) (f := f) (o3 := o3) (o4 := o4) h hi hd6 hg (text_of hdr2) (head_ne okt).2
    obtain ⟨u4, S1, e1, h1, hf1, l1, k1⟩ := pl_turn (φp := φp) (φb := φb) (φf := φf) (o4 := o4) okt hd h hf fr hg hdr1 (aft_trs htr hs) (by omega) (by omega) (hF t List.mem_cons_self)
    have hdr3 : ls.drop (i + (t.lines d).length) = trsL d p ++ R := by rw [← List.drop_drop, hdr1, List.drop_left]
    have hi1 : i + (t.lines d).length ≤ ls.length := by
      have := congrArg List.length hdr1
      rw [List.length_drop, List.length_append] at this
      have : 1 ≤ (t.lines d).length := by rw [lines_inner]; simp
      omega
    obtain ⟨v3, v4, S2, e2, h2, hf2, l2, k2⟩ := pl_loop (φp := φp) (φb := φb) (φf := φf) (k := k) hd6 fr hg hs p (acc ++ [t.d]) (i + (t.lines d).length) (m + t.many) (some (.str (mkS t.head))) u4 S1 N (by omega) h1 hf1 hdr3 hi1 (by omega) (by simp only [List.length_append, List.length_cons, List.length_nil]; omega) (fun _ => hd) htr fun x hx => hF x (List.mem_cons_of_mem _ hx)
    refine ⟨v3, v4, S2, ?_, ?_, by simpa [trsD] using hf2, Nat.le_trans l1 l2, fun j hj jr jf => by rw [k2 j (Nat.lt_of_lt_of_le hj l1) jr jf, k1 j hj jr jf]⟩
    · simp only [whileW, te, e1]
      exact e2
    · rw [h2]
      simp only [trsL, trsN, List.length_append]
      congr 2 <;> omega
theorem plan_ok : ∀ (n k d : Nat) (p : List Tr), trsOk k p → 3 * k + 1 ≤ n → d + k ≤ 6 → PlanOk (F_Reader_plan n) d p
  | 0, k, d, p, _, h, _ => by omega
  | n + 1, k, d, p, ok, hn, hd => by
    intro r S ls i m R hr hg hi hdr hs hm
    have k0 : 0 ≤ cap := Nat.zero_le _
    have rlt : r < S.length := (List.getElem?_eq_some_iff.mp hr).1
    have hok : ∀ t ∈ p, t.ok (k - 1) := fun t ht => by
      cases k with
      | zero => cases p with
        | nil => cases ht
        | cons t r => simp [trsOk] at ok
      | succ k => exact trsOk_all ok t ht
    have hd' : p ≠ [] → d < 6 := fun ne => by
      cases k with
      | zero => cases p with
        | nil => exact absurd rfl ne
        | cons t r => simp [trsOk] at ok
      | succ k => omega
    have hF : ∀ t ∈ p, (∀ e, t ≠ .ev e) → FillOk (F_Reader_filled n) d t := fun t ht nev => by
      cases k with
      | zero => cases p with
        | nil => cases ht
        | cons t r => simp [trsOk] at ok
      | succ k =>
        cases n with
        | zero => omega
        | succ n =>
          have o := trsOk_all ok t ht
          refine fill_ok (k := k) o (by omega) (by omega) nev fun p' hp' ne => ?_
          cases n with
          | zero => omega
          | succ n => exact body_ok (k := k) ((inner_ok o).1 p' hp') (by omega) ne (plan_ok n k (d + 1) p' ((inner_ok o).1 p' hp') (by omega) (by omega))
    have lp := len_many p
    obtain ⟨u3, u4, S', e, h1, h2, l, kp⟩ := pl_loop (φp := F_Reader_plan n) (φb := F_Reader_body n) (φf := F_Reader_filled n) (k := k - 1) (d := d) (r := r) (f := S.length) (by omega) (by omega) hg hs p [] i m none none (S ++ [.lst []]) 300 (by omega) (by rw [List.getElem?_append_left rlt]; exact hr) (by simp) hdr hi hm (by simp; omega) hd' hok hF
    refine ⟨S', ?_, h1, ?_⟩
    · show fnD 5 (B_Reader_plan (F_Reader_plan n) (F_Reader_body n) (F_Reader_filled n)) _ S = _
      rw [e_fnD]
      simp at h2
      have la : listAt S' (.own S.length) = some (trsD p) := by simp [listAt, h2]
      simp [B_Reader_plan, k0, e, oTuple, la]
    · exact ⟨by simp at l; omega, fun j hj jr => by rw [kp j (by simp; omega) jr (by omega)]; exact List.getElem?_append_left hj⟩
end G

set_option maxHeartbeats 4000000
namespace G
open PySem L2 DE
/-! ### what a line is, by the law -/
theorem toVs_lm : ∀ ls : List (List Nat), toVs (Lm ls) = some (ls.map fun l => V.str (mkS l))
  | [] => rfl
  | l :: r => by
    have := toVs_lm r
    simp only [Lm, List.map_cons] at this ⊢
    simp only [toVs, toV, this]
theorem inV_lm (a : List Nat) (ls : List (List Nat)) : inV (.str (mkS a)) (ls.map fun l => V.str (mkS l)) = decide (a ∈ ls) := by
  unfold inV
  rw [List.any_map, Bool.eq_iff_iff, List.any_eq_true, decide_eq_true_eq]
  constructor
  · rintro ⟨x, hx, e⟩
    simp only [Function.comp, eqV_s, decide_eq_true_eq] at e
    rw [← e]; exact hx
  · intro h
    exact ⟨a, h, by simp only [Function.comp, eqV_s, decide_true]⟩
theorem in_lm (a : List Nat) (ls : List (List Nat)) (S : Sto) : oIn (.str (mkS a)) (.lst (Lm ls)) S = .ok (.bl (decide (a ∈ ls))) S := by
  simp only [oIn, inD, toV, toVs_lm, inV_lm]
def NUMS : List (List Nat) := (List.range 20).map fun i => TL.numL (1 + i)
theorem law_number (c : List Nat) (S : Sto) : F_law_is_number [.str (mkS c)] S = .ok (.bl (decide (c ∈ NUMS))) S := by
  have lc : loopC [1] (gN 1) mYes (dBlt oStr (aCons (dVar 1) aNil)) [some (.str (mkS c)), none] (rangeD 1 20) S = .ok (Lm NUMS) S := by
    have e : Lm NUMS = (rangeD 1 20).map fun d => match d with | .int i => .str (mkS (TL.numL i.toNat)) | _ => .non := by
      unfold Lm NUMS rangeD
      rw [List.map_map, List.map_map]
      refine List.map_congr_left fun i _ => ?_
      show D.str (mkS (TL.numL (1 + i))) = D.str (mkS (TL.numL ((1 + (i : Int)).toNat)))
      have : (1 + (i : Int)).toNat = 1 + i := by omega
      rw [this]
    rw [e]
    refine loopC_map (r := fun d => [some (.str (mkS c)), some d]) fun d hd => ⟨by simp [wipeD], by simp, ?_⟩
    obtain ⟨i, hi, rfl⟩ := mem_rangeD hd
    have hn : 1 + i ≤ 10 ^ 15 := by omega
    have o := oStr_pt (p := .inr (1 + i)) hn S
    have o : oStr [.int ((1 + i : Nat) : Int)] S = .ok (.str (mkS (TL.numL (1 + i)))) S := o
    have e2 : (1 + (i : Int)) = ((1 + i : Nat) : Int) := by omega
    have : ((1 + i : Nat) : Int).toNat = 1 + i := by omega
    simp only [e2, this]
    simp
    simpa using o
  have rl : (rangeD 1 20).length = 20 := by simp [rangeD]
  have k20 : 20 ≤ cap := by decide
  have im := in_lm c NUMS S
  generalize Lm NUMS = Z at lc im
  simp [F_law_is_number, e_fnD, B_law_is_number, iR2, rl, k20, lc, im]
theorem law_word {w : List Nat} (h : As w) (S : Sto) : F_law_is_word [.str (mkS w)] S = .ok (.bl (wS (mkS w))) S := by
  have hc : w.length ≤ cap := Nat.le_trans h.1 (by decide)
  have hl : loopC [1] (gN 1) (dTest (dBin oNotIn (dVar 1) (dC (D.str (Str.ofString "abcdefghijklmnopqrstuvwxyz"))))) (dVar 1) [some (D.str (mkS w)), none] (dSigns (mkS w)) S = .ok ((w.filter fun c => !low c).map fun c => D.str ⟨#[c]⟩) S := by
    have := lc_signs (ρ := [some (D.str (mkS w)), none]) (S := S) (own := [1]) (g := gN 1) (t := dTest (dBin oNotIn (dVar 1) (dC (D.str (Str.ofString "abcdefghijklmnopqrstuvwxyz"))))) (e := dVar 1) (s := mkS w) (r := fun c => [some (D.str (mkS w)), some (.str ⟨#[c]⟩)]) (p := fun c => !low c) (v := fun c => .str ⟨#[c]⟩) fun c hc => ⟨by simp [wipeD], by simp [oNotIn, inD, in_letters], fun _ => by simp⟩
    rw [this, mkS_list]
  have hf := eq_nil (w.filter fun c => !low c) S fun c hc => h.2 c (List.mem_filter.mp hc).1
  have ml : (mkS w).length = w.length := mkS_len w
  have dl : (dSigns (mkS w)).length = w.length := by rw [dSigns_len, mkS_len]
  have k0 : 0 ≤ cap := Nat.zero_le _
  simp [F_law_is_word, e_fnD, B_law_is_word, oLen, ml, hc, oLe, itemsOf, dl, hl, hf, k0]
  have ia := isEmpty_filt low w
  by_cases h1 : 1 ≤ w.length
  · have e1 : (1 : Int) ≤ w.length := by omega
    by_cases h8 : w.length ≤ 8
    · have e2 : ¬ (8 : Int) < w.length := by omega
      have e2' : (w.length : Int) ≤ 8 := by omega
      simp [e1, e2, e2', wS, h1, h8, ia]
    · have e2 : (8 : Int) < w.length := by omega
      have e2' : ¬ (w.length : Int) ≤ 8 := by omega
      simp [e1, e2, e2', wS, h8]
  · have e1 : ¬ (1 : Int) ≤ w.length := by omega
    simp [e1, wS, h1]
theorem numL_of {l : List Nat} {i : Int} (h : numO l = some i) : i = (NumText.digitsVal l : Nat) ∧ l = TL.numL (NumText.digitsVal l) := by
  unfold numO at h
  split at h
  · rename_i hc
    obtain ⟨c1, c2, c3, c4⟩ := hc
    refine ⟨by injection h with h; exact h.symm, ?_⟩
    have ad : NumText.AllDigits l := fun c hc => by
      have := List.all_eq_true.mp c3 c hc
      simpa [dig] using this
    have td := NumText.toDigits_digitsVal (l.length - 1) l (by omega) ad (by
      cases l with
      | nil => exact absurd rfl c1
      | cons a r =>
        cases r with
        | nil => left; rfl
        | cons b r =>
          right
          have := ad a (by simp)
          refine ⟨a, b :: r, rfl, ?_⟩
          have : a ≠ 48 := fun z => c4 ⟨by simp [z], by simp⟩
          have := (ad a (by simp)).1
          omega)
    unfold TL.numL
    rw [td, List.map_map]
    have : l.map (Char.toNat ∘ Char.ofNat) = l.map id := List.map_congr_left fun c hc => by
      have := ad c hc
      have hd : ∀ c < 58, (Char.ofNat c).toNat = c := by decide
      exact hd c (by omega)
    rw [this, List.map_id]
  · cases h
theorem count_no {c : List Nat} (h : c ∉ NUMS) (S : Sto) : F_is_count [numD c] S = .ok (.bl false) S := by
  unfold numD
  cases q : numO c with
  | none => simp [F_is_count, e_fnD, B_is_count, oIsi, tyName, tyList, subT]
  | some i =>
    obtain ⟨e1, e2⟩ := numL_of q
    have : ¬ (1 ≤ NumText.digitsVal c ∧ NumText.digitsVal c ≤ 20) := fun ⟨z1, z2⟩ => h (by
      rw [e2]
      exact List.mem_map.mpr ⟨NumText.digitsVal c - 1, List.mem_range.mpr (by omega), by congr 1; omega⟩)
    subst e1
    generalize NumText.digitsVal c = v at this
    by_cases z : 1 ≤ v
    · have a1 : ¬ ((v : Int) < 1) := by omega
      have a2 : ¬ ((v : Int) ≤ 20) := by omega
      have a3 : (20 : Int) < v := by omega
      have a4 : (1 : Int) ≤ v := by omega
      simp [F_is_count, e_fnD, B_is_count, oIsi, tyName, tyList, subT, oLe, a1, a2, a3, a4]
    · have a1 : ((v : Int) < 1) := by omega
      have a4 : ¬ (1 : Int) ≤ v := by omega
      simp [F_is_count, e_fnD, B_is_count, oIsi, tyName, tyList, subT, oLe, a1, a4]
theorem nums_ex {c : List Nat} (h : c ∈ NUMS) : ∃ n, (1 ≤ n ∧ n ≤ 20) ∧ c = TL.numL n := by
  obtain ⟨i, hi, rfl⟩ := List.mem_map.mp h
  have := List.mem_range.mp hi
  exact ⟨1 + i, by omega, rfl⟩
theorem nums_in {n : Nat} (h : 1 ≤ n ∧ n ≤ 20) : TL.numL n ∈ NUMS := List.mem_map.mpr ⟨n - 1, List.mem_range.mpr (by omega), by congr 1; omega⟩
theorem is_event_yes {l : List Nat} (h : IsEv l) (S : Sto) : F_law_is_event [.str (mkS l)] S = .ok (.bl true) S := by
  obtain ⟨e, ok, rfl⟩ := h
  have := parse_yes ok S
  simp [F_law_is_event, e_fnD, B_law_is_event, sTryN, this]
theorem is_event_no {l : List Nat} (h : As l) (hl : l.length ≤ 900) (no : ¬ IsEv l) (S : Sto) : F_law_is_event [.str (mkS l)] S = .ok (.bl false) S := by
  have := parse_no h (gd_evIn h hl) no S
  simp [F_law_is_event, e_fnD, B_law_is_event, sTryN, this, cl1, noexc]
theorem event_step_no {l : List Nat} (h : As l) (hl : l.length ≤ 900) (no : ¬ IsEv l) (S : Sto) : F_event_step [.str (mkS l)] S = .ok .non S := by
  have := parse_no h (gd_evIn h hl) no S
  simp [F_event_step, e_fnD, B_event_step, sTryN, this, cl1, noexc]
/-- a step whose plans are empty -/
def Tr.sok : Tr → Prop
  | .ev e => e.ok ∧ e.txt.length ≤ 900
  | .rep n p => (1 ≤ n ∧ n ≤ 20) ∧ p = []
  | .try_ p => p = []
  | .each w p => okW w ∧ p = []
  | .if_ a b p q => (okW a ∧ okW b) ∧ p = [] ∧ q = []
def cOdd : List Nat := [111, 100, 100]
theorem qOdd : Str.ofString "odd" = mkS cOdd := by decide +kernel
inductive Kind (x : List Nat) : Prop where
  | els (h : x = cEl) (k : ∀ S, F_law_kind [.str (mkS x)] S = .ok (.str (mkS cEl)) S)
  | step (t : Tr) (ok : t.sok) (hd : t.head = x) (s : ∀ S, F_step_in [.str (mkS x)] S = .ok t.shell S) (k : ∀ S, F_law_kind [.str (mkS x)] S = .ok (.str (mkS t.hd)) S)
  | odd (h : x ≠ cEl) (s : ∀ S, F_step_in [.str (mkS x)] S = .ok .non S) (k : ∀ S, F_law_kind [.str (mkS x)] S = .ok (.str (mkS cOdd)) S)
end G

set_option maxHeartbeats 4000000
namespace G
open PySem L2 DE
theorem ix_l0 (a : D) (r : List D) (S : Sto) : oIx (.lst (a :: r)) (.int 0) S = .ok a S := ix_lst 0 rfl S
theorem ix_l1 (a b : D) (r : List D) (S : Sto) : oIx (.lst (a :: b :: r)) (.int 1) S = .ok b S := ix_lst 1 rfl S
theorem ix_l2 (a b c : D) (r : List D) (S : Sto) : oIx (.lst (a :: b :: c :: r)) (.int 2) S = .ok c S := ix_lst 2 rfl S
theorem kind_fall {x a : List Nat} {r : List (List Nat)} {S : Sto} (h : As x) (sp : splitL 32 x = a :: r) (n1 : ∀ b, r = [b] → (a = cRe → b ∉ NUMS) ∧ (a = cEa → wS (mkS b) = false)) (n2 : x ≠ cTr ∧ x ≠ cEl) (n3 : ∀ b c, r = [b, c] → a = cIf → wS (mkS b) = true → wS (mkS c) = false)
    {v : Bool} (ie : F_law_is_event [.str (mkS x)] S = .ok (.bl v) S) : F_law_kind [.str (mkS x)] S = .ok (.str (mkS (if v = true then cDo else cOdd))) S := by
  have s := split_s h 32 (by decide) S
  have pc : ∀ p ∈ splitL 32 x, As p := fun p hp => h.piece hp
  rw [sp] at s pc
  have ha := pc a (by simp)
  have ae : As cEl := ⟨by decide, by decide⟩
  have t1 := eq_s h (hds_as cTr (by decide)) S
  have t2 := eq_s h ae S
  simp only [n2.1, n2.2, decide_false] at t1 t2
  have a1 := eq_s ha (hds_as cRe (by decide)) S
  have a2 := eq_s ha (hds_as cEa (by decide)) S
  have a3 := eq_s ha (hds_as cIf (by decide)) S
  rcases r with _ | ⟨b, _ | ⟨c, _ | ⟨d, r⟩⟩⟩
  · simp only [List.map_cons, List.map_nil] at s
    cases v <;> simp [F_law_kind, e_fnD, B_law_kind, q32, s, oLen, seqOf, qTr, qEl, t1, t2, ie, qDo, qOdd]
  · simp only [List.map_cons, List.map_nil] at s
    obtain ⟨m1, m2⟩ := n1 b rfl
    have ln := law_number b S
    have lw := law_word (pc b (by simp)) S
    by_cases z1 : a = cRe
    · simp only [m1 z1, decide_false] at ln
      simp only [z1, decide_true] at a1
      have z2 : ¬ (a = cEa) := by rw [z1]; decide
      simp only [z2, decide_false] at a2
      subst z1
      cases v <;> simp [F_law_kind, e_fnD, B_law_kind, q32, s, oLen, seqOf, ix_l0, ix_l1, qRe, qEa, qTr, qEl, a1, a2, ln, t1, t2, ie, qDo, qOdd]
    · simp only [z1, decide_false] at a1
      by_cases z2 : a = cEa
      · have lwf := m2 z2
        rw [lwf] at lw
        simp only [z2, decide_true] at a2
        subst z2
        cases v <;> simp [F_law_kind, e_fnD, B_law_kind, q32, s, oLen, seqOf, ix_l0, ix_l1, qRe, qEa, qTr, qEl, a1, a2, lw, t1, t2, ie, qDo, qOdd]
      · simp only [z2, decide_false] at a2
        cases v <;> simp [F_law_kind, e_fnD, B_law_kind, q32, s, oLen, seqOf, ix_l0, ix_l1, qRe, qEa, qTr, qEl, a1, a2, t1, t2, ie, qDo, qOdd]
  · simp only [List.map_cons, List.map_nil] at s
    have l1 := law_word (pc b (by simp)) S
    have l2 := law_word (pc c (by simp)) S
    by_cases z3 : a = cIf
    · have m3 := n3 b c rfl z3
      simp only [z3, decide_true] at a3
      subst z3
      cases w : wS (mkS b) with
      | false =>
        rw [w] at l1
        cases v <;> simp [F_law_kind, e_fnD, B_law_kind, q32, s, oLen, seqOf, ix_l0, ix_l1, ix_l2, qRe, qEa, qIf, qTr, qEl, a3, l1, t1, t2, ie, qDo, qOdd]
      | true =>
        rw [w] at l1
        rw [m3 w] at l2
        cases v <;> simp [F_law_kind, e_fnD, B_law_kind, q32, s, oLen, seqOf, ix_l0, ix_l1, ix_l2, qRe, qEa, qIf, qTr, qEl, a3, l1, l2, t1, t2, ie, qDo, qOdd]
    · simp only [z3, decide_false] at a3
      cases v <;> simp [F_law_kind, e_fnD, B_law_kind, q32, s, oLen, seqOf, ix_l0, ix_l1, ix_l2, qRe, qEa, qIf, qTr, qEl, a3, t1, t2, ie, qDo, qOdd]
  · simp only [List.map_cons] at s
    have y1 : ¬ ((r.length : Int) + 1 + 1 + 1 + 1 = 2) := by omega
    have y2 : ¬ ((r.length : Int) + 1 + 1 + 1 + 1 = 3) := by omega
    cases v <;> simp [F_law_kind, e_fnD, B_law_kind, q32, s, oLen, seqOf, qTr, qEl, t1, t2, ie, qDo, qOdd, y1, y2]
/-- a step's text that the program's match leaves to the events -/
theorem step_fall {x a : List Nat} {r : List (List Nat)} {S : Sto} (h : As x) (sp : splitL 32 x = a :: r) (n1 : ∀ b, r = [b] → a ≠ cRe ∧ a ≠ cEa) (n2 : r = [] → a ≠ cTr) (n3 : ∀ b c, r = [b, c] → a ≠ cIf) : F_step_in [.str (mkS x)] S = F_event_step [.str (mkS x)] S := by
  have s := split_s h 32 (by decide) S
  have pc : ∀ p ∈ splitL 32 x, As p := fun p hp => h.piece hp
  rw [sp] at s pc
  have hA := pc a (by simp)
  have fin : (RS.fin (((F_event_step [.str (mkS x)] S)).stm [] fun d S1 => .rt d S1)) = F_event_step [.str (mkS x)] S := by
    cases F_event_step [.str (mkS x)] S <;> rfl
  have fin : ∀ (ρ : DE.Env), (RS.fin (((F_event_step [.str (mkS x)] S)).stm ρ fun d S1 => .rt d S1)) = F_event_step [.str (mkS x)] S := fun ρ => by
    cases F_event_step [.str (mkS x)] S <;> rfl
  rcases r with _ | ⟨b, _ | ⟨c, r⟩⟩
  · have w2 := p_s (hds_as cTr (by decide)) hA
    rw [if_neg (n2 rfl)] at w2
    simp only [List.map_cons, List.map_nil] at s
    simp [F_step_in, e_fnD, B_step_in, q32, s, qTr, w2, fin]
  · obtain ⟨m1, m2⟩ := n1 b rfl
    have w1 := p_s (hds_as cRe (by decide)) hA
    have w3 := p_s (hds_as cEa (by decide)) hA
    rw [if_neg m1] at w1
    rw [if_neg m2] at w3
    simp only [List.map_cons, List.map_nil] at s
    simp [F_step_in, e_fnD, B_step_in, q32, s, qRe, qTr, qEa, w1, w3, fin]
  · simp only [List.map_cons] at s
    rcases r with _ | ⟨d, r⟩
    · have w4 := p_s (hds_as cIf (by decide)) hA
      rw [if_neg (n3 b c rfl)] at w4
      simp [F_step_in, e_fnD, B_step_in, q32, s, qRe, qTr, qEa, qIf, w4, fin]
    · simp [F_step_in, e_fnD, B_step_in, q32, s, qRe, qTr, qEa, qIf, fin]
theorem is_word_no {w : List Nat} (h : As w) (hw : wS (mkS w) = false) (S : Sto) : F_is_word [.str (mkS w)] S = .ok (.bl false) S := by
  have := is_word_str (mkS w) S (by rw [mkS_len]; exact Nat.le_trans h.1 (by decide))
  rwa [hw] at this
theorem single_join {x a : List Nat} (sp : splitL 32 x = [a]) : x = a := by
  have := join_splitL 32 x
  rw [sp] at this
  exact this.symm
theorem hd_no_ev {x a : List Nat} {r : List (List Nat)} (sp : splitL 32 x = a :: r) (ha : a ∈ HDS) : ¬ IsEv x := fun ⟨e, ok, ex⟩ => by
  obtain ⟨a', b, r', sp', hn, _⟩ := ev_parts ok
  rw [ex, sp] at sp'
  injection sp' with e1
  exact hn (e1 ▸ ha)
theorem two_ne {x a b : List Nat} {r : List (List Nat)} (sp : splitL 32 x = a :: b :: r) : x ≠ cTr ∧ x ≠ cEl := by
  constructor
  · intro z
    rw [z] at sp
    have : splitL 32 cTr = [cTr] := by decide
    rw [this] at sp; simp at sp
  · intro z
    rw [z] at sp
    have : splitL 32 cEl = [cEl] := by decide
    rw [this] at sp; simp at sp
theorem kind_cases {x : List Nat} (h : As x) (hl : x.length ≤ 900) : Kind x := by
  have k0 : 0 ≤ cap := Nat.zero_le _
  have k2 : 2 ≤ cap := by decide
  have k3 : 3 ≤ cap := by decide
  have k5 : 5 ≤ cap := by decide
  by_cases iv : IsEv x
  · have iy := fun S => is_event_yes iv S
    obtain ⟨e, ok, rfl⟩ := iv
    obtain ⟨a, b, r, sp, hn, _⟩ := ev_parts ok
    have tw := two_ne sp
    refine .step (.ev e) ⟨ok, hl⟩ rfl (fun S => step_in_eq (t := .ev e) (k := 0) (by simp only [Tr.ok]; exact ⟨ok, hl⟩) S) fun S => ?_
    have := kind_fall h sp (fun b' _ => ⟨fun z => absurd (by rw [z]; decide) hn, fun z => absurd (by rw [z]; decide) hn⟩) tw (fun b' c' _ z => absurd (by rw [z]; decide) hn) (iy S)
    simpa [Tr.hd] using this
  · have io := fun S => is_event_no h hl iv S
    have eo := fun S => event_step_no h hl iv S
    cases sp : splitL 32 x with
    | nil => exact absurd sp (splitL_ne _ _)
    | cons a r =>
      have pc : ∀ p ∈ splitL 32 x, As p := fun p hp => h.piece hp
      rw [sp] at pc
      have s := fun S => split_s h 32 (by decide) S
      rw [sp] at s
      cases r with
      | nil =>
        have xa := single_join sp
        by_cases z1 : x = cEl
        · refine .els z1 fun S => ?_
          have ae : As cEl := ⟨by decide, by decide⟩
          have t1 := eq_s h (hds_as cTr (by decide)) S
          have t2 := eq_s h ae S
          have nt : ¬ (x = cTr) := by rw [z1]; decide
          simp only [nt, decide_false] at t1
          simp only [z1, decide_true] at t2
          rw [z1] at t1
          have s' := s S
          rw [z1] at s' ⊢
          simp only [List.map_cons, List.map_nil] at s'
          simp [F_law_kind, e_fnD, B_law_kind, q32, s', oLen, seqOf, qTr, qEl, t1, t2]
        · by_cases z2 : x = cTr
          · refine .step (.try_ []) rfl z2.symm (fun S => ?_) fun S => ?_
            · rw [z2]
              have s' := s S
              rw [z2] at s'
              have e1 : a = cTr := by rw [← xa, z2]
              rw [e1] at s'
              simp only [List.map_cons, List.map_nil] at s'
              simp [F_step_in, e_fnD, B_step_in, q32, s', qRe, qTr, p_yes (a := cTr), k0, k2, Tr.shell]
            · have t1 := eq_s h (hds_as cTr (by decide)) S
              simp only [z2, decide_true] at t1
              have s' := s S
              rw [z2] at s' ⊢
              simp only [List.map_cons, List.map_nil] at s'
              simp [F_law_kind, e_fnD, B_law_kind, q32, s', oLen, seqOf, qTr, qEl, t1, Tr.hd]
          · refine .odd z1 (fun S => ?_) fun S => ?_
            · rw [step_fall h sp (fun b z => by cases z) (fun _ z => z2 (by rw [xa, z])) (fun b c z => by cases z)]; exact eo S
            · have := kind_fall h sp (fun b z => by cases z) ⟨z2, z1⟩ (fun b c z => by cases z) (io S)
              simpa using this
      | cons b r =>
        have tw := two_ne sp
        have hb := pc b (by simp)
        cases r with
        | nil =>
          have xj : joinL 32 [a, b] = x := by rw [← sp]; exact join_splitL 32 x
          by_cases z1 : a = cRe
          · by_cases z2 : b ∈ NUMS
            · obtain ⟨n, hn, rfl⟩ := nums_ex z2
              subst z1
              have xe : x = (Tr.rep n []).head := by rw [← xj]; rfl
              refine .step (.rep n []) ⟨hn, rfl⟩ xe.symm (fun S => ?_) fun S => ?_
              · have hn15 : n ≤ 10 ^ 15 := by omega
                have ni := number_in_eq S hb
                rw [numD_numL hn15] at ni
                have ic := is_count_eq n hn S
                have s' := s S
                simp only [List.map_cons, List.map_nil] at s'
                simp [F_step_in, e_fnD, B_step_in, q32, s', qRe, p_yes (a := cRe), ni, ic, k0, k3, Tr.shell]
              · have ln := law_number (TL.numL n) S
                simp only [z2, decide_true] at ln
                have a1 := eq_yes (a := cRe) (by decide) S
                have s' := s S
                simp only [List.map_cons, List.map_nil] at s'
                simp [F_law_kind, e_fnD, B_law_kind, q32, s', oLen, seqOf, ix_l0, ix_l1, qRe, a1, ln, Tr.hd]
            · have hx : a ∈ HDS := by rw [z1]; decide
              refine .odd tw.2 (fun S => ?_) fun S => ?_
              · have ni := number_in_eq S hb
                have ic := count_no z2 S
                have s' := s S
                subst z1
                simp only [List.map_cons, List.map_nil] at s'
                simp [F_step_in, e_fnD, B_step_in, q32, s', qRe, p_yes (a := cRe), ni, ic]
              · have := kind_fall h sp (fun b' e => by
                  simp only [List.cons.injEq, and_true] at e
                  subst e
                  exact ⟨fun _ => z2, fun z => absurd (z1.symm.trans z) (by decide)⟩) tw (fun b c z => by simp at z) (io S)
                simpa using this
          · by_cases z3 : a = cEa
            · cases w : wS (mkS b) with
              | true =>
                have ob : okW b := w
                subst z3
                have xe : x = (Tr.each b []).head := by rw [← xj]; rfl
                refine .step (.each b []) ⟨ob, rfl⟩ xe.symm (fun S => ?_) fun S => ?_
                · have iw := isW ob S
                  have s' := s S
                  simp only [List.map_cons, List.map_nil] at s'
                  simp [F_step_in, e_fnD, B_step_in, q32, s', qRe, qTr, qEa, p_yes (a := cEa), p_no (a := cRe) (b := cEa), iw, k0, k3, Tr.shell]
                · have lw := law_word hb S
                  rw [w] at lw
                  have a1 := eq_no (a := cEa) (b := cRe) (by decide) (by decide) (by decide) S
                  have a2 := eq_yes (a := cEa) (by decide) S
                  have ae : As cEl := ⟨by decide, by decide⟩
                  have t1 := eq_s h (hds_as cTr (by decide)) S
                  have t2 := eq_s h ae S
                  simp only [tw.1, tw.2, decide_false] at t1 t2
                  have s' := s S
                  simp only [List.map_cons, List.map_nil] at s'
                  simp [F_law_kind, e_fnD, B_law_kind, q32, s', oLen, seqOf, ix_l0, ix_l1, qRe, qEa, qTr, qEl, a1, a2, t1, t2, lw, Tr.hd]
              | false =>
                refine .odd tw.2 (fun S => ?_) fun S => ?_
                · have iw := is_word_no hb w S
                  have s' := s S
                  subst z3
                  simp only [List.map_cons, List.map_nil] at s'
                  simp [F_step_in, e_fnD, B_step_in, q32, s', qRe, qTr, qEa, p_yes (a := cEa), p_no (a := cRe) (b := cEa), iw]
                · have := kind_fall h sp (fun b' e => by
                    simp only [List.cons.injEq, and_true] at e
                    subst e
                    exact ⟨fun z => absurd z z1, fun _ => w⟩) tw (fun b c z => by simp at z) (io S)
                  simpa using this
            · refine .odd tw.2 (fun S => ?_) fun S => ?_
              · rw [step_fall h sp (fun b z => ⟨z1, z3⟩) (fun z => by cases z) (fun b c z => by simp at z)]; exact eo S
              · have := kind_fall h sp (fun b' e => ⟨fun z => absurd z z1, fun z => absurd z z3⟩) tw (fun b c z => by simp at z) (io S)
                simpa using this
        | cons c r =>
          have hc := pc c (by simp)
          cases r with
          | nil =>
            have xj : joinL 32 [a, b, c] = x := by rw [← sp]; exact join_splitL 32 x
            by_cases z1 : a = cIf
            · cases w1 : wS (mkS b) with
              | true =>
                cases w2 : wS (mkS c) with
                | true =>
                  have ob : okW b := w1
                  have oc : okW c := w2
                  subst z1
                  have xe : x = (Tr.if_ b c [] []).head := by rw [← xj]; rfl
                  refine .step (.if_ b c [] []) ⟨⟨ob, oc⟩, rfl, rfl⟩ xe.symm (fun S => ?_) fun S => ?_
                  · have i1 := isW ob S
                    have i2 := isW oc S
                    have s' := s S
                    simp only [List.map_cons, List.map_nil] at s'
                    simp [F_step_in, e_fnD, B_step_in, q32, s', qRe, qTr, qEa, qIf, p_yes (a := cIf), i1, i2, k0, k5, Tr.shell]
                  · have l1 := law_word hb S
                    have l2 := law_word hc S
                    rw [w1] at l1
                    rw [w2] at l2
                    have a2 := eq_yes (a := cIf) (by decide) S
                    have ae : As cEl := ⟨by decide, by decide⟩
                    have t1 := eq_s h (hds_as cTr (by decide)) S
                    have t2 := eq_s h ae S
                    simp only [tw.1, tw.2, decide_false] at t1 t2
                    have s' := s S
                    simp only [List.map_cons, List.map_nil] at s'
                    simp [F_law_kind, e_fnD, B_law_kind, q32, s', oLen, seqOf, ix_l0, ix_l1, ix_l2, qRe, qEa, qTr, qEl, qIf, a2, t1, t2, l1, l2, Tr.hd]
                | false =>
                  refine .odd tw.2 (fun S => ?_) fun S => ?_
                  · have i1 := isW (show okW b from w1) S
                    have i2 := is_word_no hc w2 S
                    have s' := s S
                    subst z1
                    simp only [List.map_cons, List.map_nil] at s'
                    simp [F_step_in, e_fnD, B_step_in, q32, s', qRe, qTr, qEa, qIf, p_yes (a := cIf), i1, i2]
                  · have := kind_fall h sp (fun b' e => by simp at e) tw (fun b' c' e _ _ => by
                      simp only [List.cons.injEq, and_true] at e
                      rw [← e.2]; exact w2) (io S)
                    simpa using this
              | false =>
                refine .odd tw.2 (fun S => ?_) fun S => ?_
                · have i1 := is_word_no hb w1 S
                  have s' := s S
                  subst z1
                  simp only [List.map_cons, List.map_nil] at s'
                  simp [F_step_in, e_fnD, B_step_in, q32, s', qRe, qTr, qEa, qIf, p_yes (a := cIf), i1]
                · have := kind_fall h sp (fun b' e => by simp at e) tw (fun b' c' e _ wt => by
                    simp only [List.cons.injEq, and_true] at e
                    rw [← e.1, w1] at wt; cases wt) (io S)
                  simpa using this
            · refine .odd tw.2 (fun S => ?_) fun S => ?_
              · rw [step_fall h sp (fun b z => by simp at z) (fun z => by cases z) (fun b c z => z1)]; exact eo S
              · have := kind_fall h sp (fun b' e => by simp at e) tw (fun b' c' _ z => absurd z z1) (io S)
                simpa using this
          | cons d r =>
            refine .odd tw.2 (fun S => ?_) fun S => ?_
            · rw [step_fall h sp (fun b z => by simp at z) (fun z => by cases z) (fun b c z => by simp at z)]; exact eo S
            · have := kind_fall h sp (fun b' e => by simp at e) tw (fun b' c' e => by simp at e) (io S)
              simpa using this
end G

set_option maxHeartbeats 4000000
namespace G
open PySem L2 DE
/-! ### the law's walk over the lines -/
theorem test_d {l : List Nat} {L k : Nat} (hL : L ≤ 8) (S : Sto) : L_law_depth_1_t [some (.str (mkS l)), some (.int L), some (.int k)] S = .ok (decide (k < L ∧ l.take (2 * (k + 1)) = ind (k + 1))) S := by
  by_cases h : k < L
  · have e1 : (k : Int) < L := by omega
    have mi := mul_ind (d := k + 1) (by omega) S
    have mi : oMul (.str (Str.ofString "  ")) (.int ((k : Int) + 1)) S = .ok (.str (mkS (ind (k + 1)))) S := by simpa using mi
    have st : oStarts (mkS l) [.str (mkS (ind (k + 1)))] S = .ok (.bl (decide (l.take (2 * (k + 1)) = ind (k + 1)))) S := by
      simp only [oStarts, starts_eq, ind_len]
    simp [L_law_depth_1_t, e1, mi, dTM, st, h]
  · have e1 : ¬ (k : Int) < L := by omega
    simp [L_law_depth_1_t, e1, h]
theorem pre_mono {l : List Nat} {d e : Nat} (h : l.take (2 * d) = ind d) (le : e ≤ d) : l.take (2 * e) = ind e := by
  have := congrArg (List.take (2 * e)) h
  rw [List.take_take, Nat.min_eq_left (by omega)] at this
  rw [this]
  unfold ind
  rw [List.take_replicate, Nat.min_eq_left (by omega)]
theorem depth_loop {l : List Nat} {L d : Nat} (hL : L ≤ 8) (S : Sto) (h1 : l.take (2 * d) = ind d) (h2 : d ≤ L) (h3 : d = L ∨ l.take (2 * (d + 1)) ≠ ind (d + 1)) : ∀ (j k n : Nat), k + j = d → j < n → whileN L_law_depth_1_t L_law_depth_1 n [some (.str (mkS l)), some (.int L), some (.int k)] S = .nx [some (.str (mkS l)), some (.int L), some (.int d)] S
  | _, _, 0, _, hn => by omega
  | 0, k, n + 1, hk, _ => by
    have hk : k = d := by omega
    subst hk
    have t := test_d (l := l) (L := L) (k := k) hL S
    have no : ¬ (k < L ∧ l.take (2 * (k + 1)) = ind (k + 1)) := fun ⟨a, b⟩ => by
      rcases h3 with h3 | h3
      · omega
      · exact h3 b
    rw [decide_eq_false no] at t
    rw [e_whileN, t]
    simp
  | j + 1, k, n + 1, hk, hn => by
    have t := test_d (l := l) (L := L) (k := k) hL S
    have yes : k < L ∧ l.take (2 * (k + 1)) = ind (k + 1) := ⟨by omega, pre_mono h1 (by omega)⟩
    rw [decide_eq_true yes] at t
    have b : L_law_depth_1 [some (.str (mkS l)), some (.int L), some (.int k)] S = .nx [some (.str (mkS l)), some (.int L), some (.int (k + 1 : Nat))] S := by simp [L_law_depth_1]
    rw [e_whileN, t]
    simp only [RE.stm, b, if_true]
    exact depth_loop hL S h1 h2 h3 j (k + 1) n (by omega) (by omega)
/-- the law's depth of a line below L open blocks -/
def Dp (l : List Nat) (L d : Nat) : Prop := l.take (2 * d) = ind d ∧ d ≤ L ∧ (d = L ∨ l.take (2 * (d + 1)) ≠ ind (d + 1))
theorem depth_eq {l : List Nat} {L d : Nat} (hL : L ≤ 8) (h : Dp l L d) (S : Sto) : F_law_depth [.str (mkS l), .int L] S = .ok (.int d) S := by
  have lp := depth_loop hL S h.1 h.2.1 h.2.2 d 0 20000 (by omega) (by have := h.2.1; omega)
  have lp : whileN L_law_depth_1_t L_law_depth_1 20000 [some (.str (mkS l)), some (.int L), some (.int 0)] S = _ := lp
  simp [F_law_depth, e_fnD, B_law_depth, lp]
theorem dp_ex (l : List Nat) : ∀ L, ∃ d, Dp l L d
  | 0 => ⟨0, by simp [ind], Nat.le_refl _, .inl rfl⟩
  | L + 1 => by
    by_cases h : l.take (2 * (L + 1)) = ind (L + 1)
    · exact ⟨L + 1, h, Nat.le_refl _, .inl rfl⟩
    · obtain ⟨d, a, b, c⟩ := dp_ex l L
      refine ⟨d, a, by omega, .inr ?_⟩
      rcases c with rfl | c
      · exact h
      · exact c
theorem dp_lt {l : List Nat} {L d e : Nat} (h : Dp l L d) (he : l.take (2 * e) ≠ ind e) : d < e := by
  by_cases z : e ≤ d
  · exact absurd (pre_mono h.1 z) he
  · omega
structure Sta where
  bl : List (List Nat)
  em : Bool
  mn : Nat
def cNo : List Nat := [110, 111, 110, 101]
theorem qNone : Str.ofString "none" = mkS cNo := by decide +kernel
theorem sl_lm (bs : List (List Nat)) (n : Nat) (h : n ≤ bs.length) (S : Sto) : slD (.lst (Lm bs)) none (some (n : Int)) S = .ok (.lst (Lm (bs.take n))) S := by
  have e : cutD (Lm bs) none (some (n : Int)) = Lm (bs.take n) := by
    unfold cutD
    have s1 : HT.sIx (Lm bs).length 0 none = 0 := rfl
    have s2 : HT.sIx (Lm bs).length (Lm bs).length (some (n : Int)) = n := by
      simp only [HT.sIx, Lm_len]
      have : ¬ ((n : Int) < 0) := by omega
      simp [this]
      omega
    rw [s1, s2]
    simp [Lm, List.map_take]
  simp only [slD, e]
theorem ix_lm' {ls : List (List Nat)} {i : Nat} {l : List Nat} (h : ls[i]? = some l) (S : Sto) : oIx (.lst (Lm ls)) (.int i) S = .ok (.str (mkS l)) S := ix_lm h S
def aIf : As cIf := hds_as cIf (by decide)
def lstK (s : Sta) (d : Nat) : List Nat := (s.bl[d]?).getD cNo
/-- kinds that may stand in blocks, or be told -/
def KDS : List (List Nat) := [cDo, cRe, cTr, cEa, cIf, cEl, cOdd, cNo]
theorem kds_as : ∀ a ∈ KDS, As a := fun a ha => ⟨(show ∀ a ∈ KDS, a.length ≤ 9500 by decide) a ha, (show ∀ a ∈ KDS, ∀ c ∈ a, c < 128 by decide) a ha⟩
section
variable {ls : List (List Nat)} {s : Sta} {i d : Nat} {l k : List Nat} {o5 o6 o7 : Option D} {S : Sto}
/-- a line that goes back while a block is empty -/
theorem bad_pop (hl : ls[i]? = some l) (hL : s.bl.length ≤ 8) (h : Dp l s.bl.length d) (lt : d < s.bl.length) (em : s.em = true) :
    L_law_bad_1 [some (.lst (Lm ls)), some (.lst (Lm s.bl)), some (.bl s.em), some (.int s.mn), some (.int i), o5, o6, o7] S = .rt (.lst [.int i]) S := by
  have ix := ix_lm hl S
  have de := depth_eq hL h S
  have bl := Lm_len s.bl
  have k1 : 1 ≤ cap := by decide
  have e1 : (d : Int) < s.bl.length := by omega
  simp [L_law_bad_1, ix, oLen, seqOf, bl, de, e1, em, k1]
end
def zPar : MS := (sPar 5 6 (aCons (dCall 2 F_law_depth [] (aCons (dBin oIx (dVar 0) (dVar 4)) (aCons (dBlt oLen (aCons (dVar 1) aNil)) aNil))) (aCons (dC (.str "none")) aNil)))
def zPop : MS := (sIf (dTest (dBin oLt (dVar 5) (dBlt oLen (aCons (dVar 1) aNil))))
    (sSeq (sIf (dTest (dVar 2))
    (sRet (dLst (aCons (dVar 4) aNil)))
    sNil)
    (sSeq (sAsg (dBin oIx (dVar 1) (dVar 5)) (gN 6))
    (sAsg (dSl (dVar 1) oNoPart (oPart (dVar 5))) (gN 1))))
    sNil)
def zKnd : MS := (sSeq (sAsg (dCall 1 F_law_kind [] (aCons (dSl (dBin oIx (dVar 0) (dVar 4)) (oPart (dBin oMul (dC (.int 2)) (dVar 5))) oNoPart) aNil)) (gN 7))
    (sSeq (sIf (dOrT (dTest (dBin oEq (dVar 7) (dC (.str "odd")))) (dAndT (dTest (dBin oEq (dVar 7) (dC (.str "else")))) (dTest (dBin oNe (dVar 6) (dC (.str "if"))))))
    (sRet (dLst (aCons (dVar 4) aNil)))
    sNil)
    (sSeq (sIf (dTest (dBin oNe (dVar 7) (dC (.str "else"))))
    (sSeq (sIf (dOrT (dTest (dBin oEq (dVar 5) (dC (.int 6)))) (dTest (dBin oEq (dVar 3) (dC (.int 200)))))
    (sRet (dLst (aCons (dVar 4) aNil)))
    sNil)
    (sAsg (dBin oAdd (dVar 3) (dC (.int 1))) (gN 3)))
    sNil)
    (sSeq (sAsg (dBin oNe (dVar 7) (dC (.str "do"))) (gN 2))
    (sIf (dTest (dVar 2))
    (sAsg (dBin oAdd (dVar 1) (dLst (aCons (dVar 7) aNil))) (gN 1))
    sNil)))))
theorem bad_split : L_law_bad_1 = sSeq zPar (sSeq zPop zKnd) := rfl
section
variable {ls : List (List Nat)} {s : Sta} {i d : Nat} {l k b : List Nat} {o5 o6 o7 : Option D} {S : Sto}
theorem bad_first (hl : ls[i]? = some l) (hL : s.bl.length ≤ 8) (h : Dp l s.bl.length d) (em : d < s.bl.length → s.em = false) :
    L_law_bad_1 [some (.lst (Lm ls)), some (.lst (Lm s.bl)), some (.bl s.em), some (.int s.mn), some (.int i), o5, o6, o7] S = zKnd [some (.lst (Lm ls)), some (.lst (Lm (s.bl.take d))), some (.bl s.em), some (.int s.mn), some (.int i), some (.int d), some (.str (mkS (lstK s d))), o7] S := by
  have ix := ix_lm hl S
  have de := depth_eq hL h S
  have bl := Lm_len s.bl
  rw [bad_split]
  by_cases lt : d < s.bl.length
  · have e1 : (d : Int) < s.bl.length := by omega
    have ee := em lt
    have ib : oIx (.lst (Lm s.bl)) (.int d) S = .ok (.str (mkS (lstK s d))) S := ix_lm (by unfold lstK; rw [List.getElem?_eq_getElem lt]; rfl) S
    have sl := sl_lm s.bl d (by omega) S
    simp [zPar, zPop, ix, oLen, seqOf, bl, de, e1, ee, ib, sl, qNone]
  · have e1 : ¬ (d : Int) < s.bl.length := by omega
    have e2 : d = s.bl.length := by have := h.2.1; omega
    have e3 : lstK s d = cNo := by unfold lstK; rw [List.getElem?_eq_none (by omega)]; rfl
    have e4 : s.bl.take d = s.bl := by rw [e2]; exact List.take_length
    rw [e3, e4]
    simp [zPar, zPop, ix, oLen, seqOf, bl, de, e1, qNone]
theorem kd_eq {a c : List Nat} (ha : a ∈ KDS) (hc : c ∈ KDS) (S : Sto) : oEq (.str (mkS a)) (.str (mkS c)) S = .ok (.bl (decide (a = c))) S := eq_s (kds_as a ha) (kds_as c hc) S
theorem kd_ne {a c : List Nat} (ha : a ∈ KDS) (hc : c ∈ KDS) (S : Sto) : oNe (.str (mkS a)) (.str (mkS c)) S = .ok (.bl (!decide (a = c))) S := ne_s (kds_as a ha) (kds_as c hc) S
theorem line_in (hl : ls[i]? = some l) (al : l.length ≤ 9000) (hk : ∀ S, F_law_kind [.str (mkS (l.drop (2 * d)))] S = .ok (.str (mkS k)) S) (ρ : DE.Env) (h0 : ρ[0]? = some (some (.lst (Lm ls)))) (h4 : ρ[4]? = some (some (.int i))) (h5 : ρ[5]? = some (some (.int d))) :
    (dCall 1 F_law_kind [] (aCons (dSl (dBin oIx (dVar 0) (dVar 4)) (oPart (dBin oMul (dC (.int 2)) (dVar 5))) oNoPart) aNil)) ρ S = .ok (.str (mkS k)) S := by
  have ix := ix_lm hl S
  have m2 := mul_two d S
  have sf := sl_from l (2 * d) (Nat.le_trans al (by decide)) S
  simp at m2 sf
  simp [h0, h4, h5, ix, m2, sf, hk]
/-- what is no step where it stands -/
theorem knd_bad (hl : ls[i]? = some l) (al : l.length ≤ 9000) (hk : ∀ S, F_law_kind [.str (mkS (l.drop (2 * d)))] S = .ok (.str (mkS k)) S) (kk : k ∈ KDS) (kb : b ∈ KDS) {bs : List (List Nat)} {em : Bool} {mn : Nat} (hb : k = cOdd ∨ (k = cEl ∧ b ≠ cIf)) :
    zKnd [some (.lst (Lm ls)), some (.lst (Lm bs)), some (.bl em), some (.int mn), some (.int i), some (.int d), some (.str (mkS b)), o7] S = .rt (.lst [.int i]) S := by
  have k1 : 1 ≤ cap := by decide
  have li := line_in (S := S) hl al hk [some (.lst (Lm ls)), some (.lst (Lm bs)), some (.bl em), some (.int mn), some (.int i), some (.int d), some (.str (mkS b)), o7] rfl rfl rfl
  have q1 := kd_eq kk (show cOdd ∈ KDS by decide) S
  have q2 := kd_eq kk (show cEl ∈ KDS by decide) S
  have q3 := kd_ne kb (show cIf ∈ KDS by decide) S
  unfold zKnd
  generalize (dCall 1 F_law_kind [] (aCons (dSl (dBin oIx (dVar 0) (dVar 4)) (oPart (dBin oMul (dC (.int 2)) (dVar 5))) oNoPart) aNil)) = KK at li
  rcases hb with rfl | ⟨rfl, hb⟩
  · simp only [decide_true] at q1
    simp [li, qOdd, q1, k1]
  · have no : ¬ (cEl = cOdd) := by decide
    simp only [no, decide_false] at q1
    simp only [decide_true] at q2
    simp only [hb, decide_false, Bool.not_false] at q3
    simp [li, qOdd, q1, qEl, q2, qIf, q3, k1]
theorem app_lm (bs : List (List Nat)) (k : List Nat) (h : bs.length ≤ 100) (S : Sto) : oAdd (.lst (Lm bs)) (.lst [.str (mkS k)]) S = .ok (.lst (Lm (bs ++ [k]))) S := by
  rw [Lm_app]
  have h' : (Lm bs).length + ([D.str (mkS k)] : List D).length ≤ cap := by rw [Lm_len]; exact Nat.le_trans (show bs.length + 1 ≤ 101 by omega) (by decide)
  simp only [oAdd]
  rw [if_pos h']
  rfl
theorem knd_else (hl : ls[i]? = some l) (al : l.length ≤ 9000) (hk : ∀ S, F_law_kind [.str (mkS (l.drop (2 * d)))] S = .ok (.str (mkS cEl)) S) {bs : List (List Nat)} (hb : bs.length ≤ 100) {em : Bool} {mn : Nat} :
    zKnd [some (.lst (Lm ls)), some (.lst (Lm bs)), some (.bl em), some (.int mn), some (.int i), some (.int d), some (.str (mkS cIf)), o7] S = .nx [some (.lst (Lm ls)), some (.lst (Lm (bs ++ [cEl]))), some (.bl true), some (.int mn), some (.int i), some (.int d), some (.str (mkS cIf)), some (.str (mkS cEl))] S := by
  have k1 : 1 ≤ cap := by decide
  have li := line_in (S := S) hl al hk [some (.lst (Lm ls)), some (.lst (Lm bs)), some (.bl em), some (.int mn), some (.int i), some (.int d), some (.str (mkS cIf)), o7] rfl rfl rfl
  have q1 := kd_eq (show cEl ∈ KDS by decide) (show cOdd ∈ KDS by decide) S
  have q2 := kd_eq (show cEl ∈ KDS by decide) (show cEl ∈ KDS by decide) S
  have q3 := kd_ne (show cIf ∈ KDS by decide) (show cIf ∈ KDS by decide) S
  have q4 := kd_ne (show cEl ∈ KDS by decide) (show cEl ∈ KDS by decide) S
  have q5 := kd_ne (show cEl ∈ KDS by decide) (show cDo ∈ KDS by decide) S
  have n1 : ¬ (cEl = cOdd) := by decide
  have n2 : ¬ (cEl = cDo) := by decide
  simp only [n1, n2, decide_false, decide_true, Bool.not_true, Bool.not_false] at q1 q2 q3 q4 q5
  have ap := app_lm bs cEl hb S
  unfold zKnd
  generalize (dCall 1 F_law_kind [] (aCons (dSl (dBin oIx (dVar 0) (dVar 4)) (oPart (dBin oMul (dC (.int 2)) (dVar 5))) oNoPart) aNil)) = KK at li
  simp [li, qOdd, q1, qEl, q2, qIf, q3, q4, qDo, q5, k1, ap]
theorem knd_most (hl : ls[i]? = some l) (al : l.length ≤ 9000) (hk : ∀ S, F_law_kind [.str (mkS (l.drop (2 * d)))] S = .ok (.str (mkS k)) S) (kk : k ∈ HDS) {bs : List (List Nat)} {em : Bool} {mn : Nat} (hm : d = 6 ∨ mn = 200) :
    zKnd [some (.lst (Lm ls)), some (.lst (Lm bs)), some (.bl em), some (.int mn), some (.int i), some (.int d), some (.str (mkS b)), o7] S = .rt (.lst [.int i]) S := by
  have k1 : 1 ≤ cap := by decide
  have hkd : ∀ a ∈ HDS, a ∈ KDS ∧ a ≠ cOdd ∧ a ≠ cEl := by decide
  obtain ⟨kk', no, ne⟩ := hkd k kk
  have li := line_in (S := S) hl al hk [some (.lst (Lm ls)), some (.lst (Lm bs)), some (.bl em), some (.int mn), some (.int i), some (.int d), some (.str (mkS b)), o7] rfl rfl rfl
  have q1 := kd_eq kk' (show cOdd ∈ KDS by decide) S
  have q2 := kd_eq kk' (show cEl ∈ KDS by decide) S
  have q4 := kd_ne kk' (show cEl ∈ KDS by decide) S
  simp only [no, ne, decide_false, Bool.not_false] at q1 q2 q4
  unfold zKnd
  generalize (dCall 1 F_law_kind [] (aCons (dSl (dBin oIx (dVar 0) (dVar 4)) (oPart (dBin oMul (dC (.int 2)) (dVar 5))) oNoPart) aNil)) = KK at li
  by_cases z : (d : Int) = 6
  · have z := eq_true z
    simp [li, qOdd, q1, qEl, q2, q4, k1, z]
  · have z2 : ((mn : Int) = 200) = True := eq_true (by omega)
    simp [li, qOdd, q1, qEl, q2, q4, k1, z, z2]
theorem knd_step (hl : ls[i]? = some l) (al : l.length ≤ 9000) (hk : ∀ S, F_law_kind [.str (mkS (l.drop (2 * d)))] S = .ok (.str (mkS k)) S) (kk : k ∈ HDS) {bs : List (List Nat)} (hb : bs.length ≤ 100) {em : Bool} {mn : Nat} (hd : d ≠ 6) (hm : mn ≠ 200) :
    zKnd [some (.lst (Lm ls)), some (.lst (Lm bs)), some (.bl em), some (.int mn), some (.int i), some (.int d), some (.str (mkS b)), o7] S = .nx [some (.lst (Lm ls)), some (.lst (Lm (bs ++ (if k = cDo then [] else [k])))), some (.bl (!decide (k = cDo))), some (.int (mn + 1 : Nat)), some (.int i), some (.int d), some (.str (mkS b)), some (.str (mkS k))] S := by
  have k1 : 1 ≤ cap := by decide
  have hkd : ∀ a ∈ HDS, a ∈ KDS ∧ a ≠ cOdd ∧ a ≠ cEl := by decide
  obtain ⟨kk', no, ne⟩ := hkd k kk
  have li := line_in (S := S) hl al hk [some (.lst (Lm ls)), some (.lst (Lm bs)), some (.bl em), some (.int mn), some (.int i), some (.int d), some (.str (mkS b)), o7] rfl rfl rfl
  have q1 := kd_eq kk' (show cOdd ∈ KDS by decide) S
  have q2 := kd_eq kk' (show cEl ∈ KDS by decide) S
  have q4 := kd_ne kk' (show cEl ∈ KDS by decide) S
  have q5 := kd_ne kk' (show cDo ∈ KDS by decide) S
  simp only [no, ne, decide_false, Bool.not_false] at q1 q2 q4
  have z1 : ¬ ((d : Int) = 6) := by omega
  have z2 : ¬ ((mn : Int) = 200) := by omega
  have ap := app_lm bs k hb S
  unfold zKnd
  generalize (dCall 1 F_law_kind [] (aCons (dSl (dBin oIx (dVar 0) (dVar 4)) (oPart (dBin oMul (dC (.int 2)) (dVar 5))) oNoPart) aNil)) = KK at li
  by_cases z : k = cDo
  · subst z
    simp only [decide_true, Bool.not_true] at q5
    simp [li, qOdd, q1, qEl, q2, q4, k1, z1, z2, qDo, q5]
  · simp only [z, decide_false, Bool.not_false] at q5
    simp [li, qOdd, q1, qEl, q2, q4, k1, z1, z2, qDo, q5, ap, z]
end
end G

set_option maxHeartbeats 4000000
namespace G
open PySem L2 DE
def envS (ls : List (List Nat)) (s : Sta) (o4 o5 o6 o7 : Option D) : DE.Env := [some (.lst (Lm ls)), some (.lst (Lm s.bl)), some (.bl s.em), some (.int s.mn), o4, o5, o6, o7]
def zTail : MS := sRet (dIfE (dTest (dVar 2)) (dLst (aCons (dBlt oLen (aCons (dVar 0) aNil)) aNil)) (dLst aNil))
def idx (i n : Nat) : List D := (List.range' i (n - i)).map fun k => .int (k : Nat)
theorem idx_cons {i n : Nat} (h : i < n) : idx i n = .int i :: idx (i + 1) n := by
  unfold idx
  rw [show n - i = (n - (i + 1)) + 1 by omega, List.range'_succ]
  rfl
theorem idx_end (n : Nat) : idx n n = [] := by simp [idx]
theorem idx_range (n : Nat) : rangeD 0 n = idx 0 n := by
  unfold idx rangeD
  rw [List.range_eq_range', Nat.sub_zero]
  exact List.map_congr_left fun i _ => by simp
/-- from line i on, in state s, the law says r -/
def BadIs (ls : List (List Nat)) (i : Nat) (s : Sta) (r : D) : Prop := ∀ o4 o5 o6 o7 S, RS.fin (RS.seq (loopS (gN 4) L_law_bad_1 (idx i ls.length) (envS ls s o4 o5 o6 o7) S) zTail) = .ok r S
section
variable {ls : List (List Nat)} {i : Nat} {s s' : Sta} {r : D}
theorem bad_end_t (h : s.em = true) : BadIs ls ls.length s (.lst [.int ls.length]) := fun o4 o5 o6 o7 S => by
  have k1 : 1 ≤ cap := by decide
  have ll := Lm_len ls
  rw [idx_end]
  simp [loopS, zTail, envS, h, oLen, seqOf, ll, k1]
theorem bad_end_f (h : s.em = false) : BadIs ls ls.length s (.lst []) := fun o4 o5 o6 o7 S => by
  have k0 : 0 ≤ cap := Nat.zero_le _
  rw [idx_end]
  simp [loopS, zTail, envS, h, k0]
theorem bad_rt (hi : i < ls.length) (h : ∀ o5 o6 o7 S, L_law_bad_1 (envS ls s (some (.int i)) o5 o6 o7) S = .rt r S) : BadIs ls i s r := fun o4 o5 o6 o7 S => by
  rw [idx_cons hi]
  have e : (envS ls s o4 o5 o6 o7).set 4 (some (.int (i : Nat))) = envS ls s (some (.int i)) o5 o6 o7 := rfl
  simp only [loopS, gN, e, h]
  rfl
theorem bad_nx (hi : i < ls.length) (h : ∀ o5 o6 o7 S, ∃ p5 p6 p7, L_law_bad_1 (envS ls s (some (.int i)) o5 o6 o7) S = .nx (envS ls s' (some (.int i)) p5 p6 p7) S) (k : BadIs ls (i + 1) s' r) : BadIs ls i s r := fun o4 o5 o6 o7 S => by
  rw [idx_cons hi]
  obtain ⟨p5, p6, p7, e1⟩ := h o5 o6 o7 S
  have e : (envS ls s o4 o5 o6 o7).set 4 (some (.int (i : Nat))) = envS ls s (some (.int i)) o5 o6 o7 := rfl
  simp only [loopS, gN, e, e1]
  exact k _ _ _ _ S
end
def Gl (ls : List (List Nat)) : Prop := ∀ l ∈ ls, As l ∧ l.length ≤ 900
theorem Gl.as {ls : List (List Nat)} (h : Gl ls) : ∀ l ∈ ls, As l := fun l hl => (h l hl).1
section
variable {ls : List (List Nat)} {i d : Nat} {s : Sta} {r : D} {l k : List Nat}
theorem lt_of_get (hl : ls[i]? = some l) : i < ls.length := (List.getElem?_eq_some_iff.mp hl).1
theorem lst_kd (lk : ∀ x ∈ s.bl, x ∈ KDS) : lstK s d ∈ KDS := by
  unfold lstK
  cases q : s.bl[d]? with
  | none => show cNo ∈ KDS; decide
  | some x => exact lk x (List.mem_of_getElem? q)
theorem A_pop (hl : ls[i]? = some l) (hL : s.bl.length ≤ 8) (h : Dp l s.bl.length d) (lt : d < s.bl.length) (em : s.em = true) : BadIs ls i s (.lst [.int i]) :=
  bad_rt (lt_of_get hl) fun o5 o6 o7 S => bad_pop hl hL h lt em
theorem A_bad (hl : ls[i]? = some l) (al : l.length ≤ 900) (hL : s.bl.length ≤ 8) (lk : ∀ x ∈ s.bl, x ∈ KDS) (h : Dp l s.bl.length d) (em : d < s.bl.length → s.em = false) (hk : ∀ S, F_law_kind [.str (mkS (l.drop (2 * d)))] S = .ok (.str (mkS k)) S) (kk : k ∈ KDS) (hb : k = cOdd ∨ (k = cEl ∧ lstK s d ≠ cIf)) : BadIs ls i s (.lst [.int i]) :=
  bad_rt (lt_of_get hl) fun o5 o6 o7 S => by
    unfold envS
    rw [bad_first hl hL h em]
    exact knd_bad hl (by omega) hk kk (lst_kd lk) hb
theorem A_else (hl : ls[i]? = some l) (al : l.length ≤ 900) (hL : s.bl.length ≤ 8) (h : Dp l s.bl.length d) (em : d < s.bl.length → s.em = false) (hk : ∀ S, F_law_kind [.str (mkS (l.drop (2 * d)))] S = .ok (.str (mkS cEl)) S) (hb : lstK s d = cIf) (q : BadIs ls (i + 1) ⟨s.bl.take d ++ [cEl], true, s.mn⟩ r) : BadIs ls i s r :=
  bad_nx (lt_of_get hl) (fun o5 o6 o7 S => ⟨_, _, _, by
    unfold envS
    rw [bad_first hl hL h em, hb]
    exact knd_else hl (by omega) hk (by rw [List.length_take]; omega)⟩) q
theorem A_most (hl : ls[i]? = some l) (al : l.length ≤ 900) (hL : s.bl.length ≤ 8) (h : Dp l s.bl.length d) (em : d < s.bl.length → s.em = false) (lk : ∀ x ∈ s.bl, x ∈ KDS) (hk : ∀ S, F_law_kind [.str (mkS (l.drop (2 * d)))] S = .ok (.str (mkS k)) S) (kk : k ∈ HDS) (hm : d = 6 ∨ s.mn = 200) : BadIs ls i s (.lst [.int i]) :=
  bad_rt (lt_of_get hl) fun o5 o6 o7 S => by
    unfold envS
    rw [bad_first hl hL h em]
    exact knd_most hl (by omega) hk kk hm
theorem A_step (hl : ls[i]? = some l) (al : l.length ≤ 900) (hL : s.bl.length ≤ 8) (h : Dp l s.bl.length d) (em : d < s.bl.length → s.em = false) (hk : ∀ S, F_law_kind [.str (mkS (l.drop (2 * d)))] S = .ok (.str (mkS k)) S) (kk : k ∈ HDS) (h6 : d ≠ 6) (hm : s.mn ≠ 200) (q : BadIs ls (i + 1) ⟨s.bl.take d ++ (if k = cDo then [] else [k]), !decide (k = cDo), s.mn + 1⟩ r) : BadIs ls i s r :=
  bad_nx (lt_of_get hl) (fun o5 o6 o7 S => ⟨_, _, _, by
    unfold envS
    rw [bad_first hl hL h em]
    exact knd_step hl (by omega) hk kk (by rw [List.length_take]; omega) h6 hm⟩) q
end
/-! ### what the reader sees, and the law's depth -/
theorem textAt_some {ls : List (List Nat)} {i d : Nat} {t : List Nat} (h : textAt ls i d = some t) : ls[i]? = some (ind d ++ t) := by
  unfold textAt at h
  cases q : ls[i]? with
  | none => rw [q] at h; cases h
  | some l =>
    rw [q] at h
    simp only at h
    split at h
    · rename_i z
      injection h with h
      rw [← h]
      have := List.take_append_drop (2 * d) l
      rw [z] at this
      rw [this]
    · cases h
theorem textAt_pre {ls : List (List Nat)} {i d : Nat} {l : List Nat} (hl : ls[i]? = some l) : (textAt ls i d = none ↔ l.take (2 * d) ≠ ind d) := by
  unfold textAt
  rw [hl]
  by_cases z : l.take (2 * d) = ind d <;> simp [z]
theorem els_kind : ∀ S, F_law_kind [.str (mkS cEl)] S = .ok (.str (mkS cEl)) S := by
  cases kind_cases (x := cEl) ⟨by decide, by decide⟩ (by decide) with
  | els _ k => exact k
  | step t ok hd s k =>
    exfalso
    cases t with
    | ev e =>
      obtain ⟨a, b, r2, sp, _, _⟩ := ev_parts ok.1
      have z : e.txt = cEl := hd
      rw [z] at sp
      have : splitL 32 cEl = [cEl] := by decide
      rw [this] at sp
      simp at sp
    | rep n p => simp [Tr.head, cRe, cEl] at hd
    | try_ p => simp [Tr.head, cTr, cEl] at hd
    | each w p => simp [Tr.head, cEa, cEl] at hd
    | if_ a b p q => simp [Tr.head, cIf, cEl] at hd
  | odd h _ _ => exact absurd rfl h
theorem sok_sp {t : Tr} (h : t.sok) : t.head.head? ≠ some 32 := by
  cases t with
  | ev e =>
    obtain ⟨c, r, e1, ne⟩ := ev_ne h.1
    simp only [Tr.head]; rw [e1]; simpa using ne
  | rep n p => simp [Tr.head, cRe]
  | try_ p => simp [Tr.head, cTr]
  | each w p => simp [Tr.head, cEa]
  | if_ a b p q => simp [Tr.head, cIf]
/-- what the law's blocks tell of the line at i, above depth d -/
def Tl (ls : List (List Nat)) (d i : Nat) : List (List Nat) → Prop
  | [] => True
  | k :: y => (textAt ls i d = some cEl → k ≠ cIf) ∧ (textAt ls i (d + 1) = none ∨ (textAt ls i (d + 1) = some cEl ∧ y.head? ≠ some cIf))
theorem dp_of {ls : List (List Nat)} {d i : Nat} {t : List Nat} {bs x : List (List Nat)} (h : textAt ls i d = some t) (hb : bs.length = d) (tl : Tl ls d i x) : (Dp (ind d ++ t) (bs ++ x).length d) ∨ (∃ k y, x = k :: y ∧ t = 32 :: 32 :: cEl ∧ y.head? ≠ some cIf ∧ Dp (ind d ++ t) (bs ++ x).length (d + 1) ∧ (ind d ++ t).drop (2 * (d + 1)) = cEl) := by
  have hl := textAt_some h
  have tk := (ind_pre d t).1
  cases x with
  | nil => exact .inl ⟨tk, by simp [hb], .inl (by simp [hb])⟩
  | cons k y =>
    obtain ⟨_, t2⟩ := tl
    rcases t2 with t2 | ⟨t2, hy⟩
    · exact .inl ⟨tk, by simp [hb], .inr ((textAt_pre hl).mp t2)⟩
    · have h2 := textAt_some t2
      rw [hl] at h2
      injection h2 with h2
      have e : ind (d + 1) = ind d ++ [32, 32] := by
        show List.replicate (2 * (d + 1)) 32 = List.replicate (2 * d) 32 ++ List.replicate 2 32
        rw [List.replicate_append_replicate, show 2 * (d + 1) = 2 * d + 2 by omega]
      have te : t = 32 :: 32 :: cEl := by
        rw [e, List.append_assoc] at h2
        exact List.append_cancel_left h2
      refine .inr ⟨k, y, rfl, te, hy, ⟨?_, by simp only [List.length_append, List.length_cons]; omega, .inr ?_⟩, ?_⟩
      · rw [h2]; exact (ind_pre (d + 1) cEl).1
      · rw [h2]; exact ind_no (by decide) (by omega)
      · rw [h2]; exact (ind_pre (d + 1) cEl).2
theorem lst_at {bs : List (List Nat)} {d : Nat} {k : List Nat} {y : List (List Nat)} {em : Bool} {m : Nat} (hb : bs.length = d) : lstK ⟨bs ++ k :: y, em, m⟩ d = k ∧ lstK ⟨bs ++ k :: y, em, m⟩ (d + 1) = (y.head?).getD cNo := by
  subst hb
  constructor
  · simp [lstK]
  · unfold lstK
    simp only
    rw [List.getElem?_append_right (by omega), show bs.length + 1 - bs.length = 1 by omega, List.head?_eq_getElem?]
    rfl
end G

set_option maxHeartbeats 4000000
namespace G
open PySem L2 DE
def BL (e : Nat) : Exc := ⟨"BadLine", [("value", .int e)]⟩
/-- the def fails, and so does the law -/
def FailsG (R : RE D) (r : Nat) (S : Sto) (ls : List (List Nat)) (i : Nat) (s : Sta) : Prop := ∃ e S', R = .exc (BL e) S' ∧ Kp r S S' ∧ BadIs ls i s (.lst [.int e])
structure PlanR (R : RE D) (r : Nat) (S : Sto) (ls : List (List Nat)) (d i m : Nat) (bs : List (List Nat)) (p : List Tr) (i' : Nat) (x : List (List Nat)) (S' : Sto) : Prop where
  eq : R = .ok (.tup (trsD p)) S'
  kp : Kp r S S'
  rd : S'[r]? = some (rdO ls i' (m + trsN p))
  le : m + trsN p ≤ 200
  ok : trsOk (6 - d) p
  txt : ls.drop i = trsL d p ++ ls.drop i'
  hi : i' ≤ ls.length
  dec : textAt ls i' d = none ∨ textAt ls i' d = some cEl
  x0 : p = [] → x = []
  tl : Tl ls d i' x
  xl : x.length ≤ 6 - d
  xk : ∀ k ∈ x, k ∈ KDS
  go : ∀ r, BadIs ls i' ⟨bs ++ x, p.isEmpty && decide (0 < d), m + trsN p⟩ r → BadIs ls i ⟨bs, decide (0 < d), m⟩ r
def PlanG (φ : FD) (d : Nat) : Prop := ∀ (r : Nat) (S : Sto) (ls : List (List Nat)) (i m : Nat) (bs : List (List Nat)), S[r]? = some (rdO ls i m) → Gl ls → i ≤ ls.length → m ≤ 200 → bs.length = d → (∀ k ∈ bs, k ∈ KDS) →
  FailsG (φ [.own r, .int d] S) r S ls i ⟨bs, decide (0 < d), m⟩ ∨ ∃ p i' x S', PlanR (φ [.own r, .int d] S) r S ls d i m bs p i' x S'
def BodyG (φ : FD) (d : Nat) : Prop := ∀ (r : Nat) (S : Sto) (ls : List (List Nat)) (i m : Nat) (bs : List (List Nat)), S[r]? = some (rdO ls i m) → Gl ls → i ≤ ls.length → m ≤ 200 → bs.length = d → (∀ k ∈ bs, k ∈ KDS) →
  FailsG (φ [.own r, .int d] S) r S ls i ⟨bs, true, m⟩ ∨ ∃ p i' x S', p ≠ [] ∧ PlanR (φ [.own r, .int d] S) r S ls d i m bs p i' x S'
theorem body_g {φp φb φf : FD} {d : Nat} (hd : d ≤ 6) (h0 : 0 < d) (h : PlanG φp d) : BodyG (fnD 3 (B_Reader_body φp φb φf)) d := by
  intro r S ls i m bs hr hg hi hm hb hk
  have dt : decide (0 < d) = true := decide_eq_true h0
  have me := meth_eq (m := "plan") (n := 2) (F := φp) (fa := aCons (dVar 1) aNil) (ρ := [some (.own r), some (.int d), none]) (S := S) (S2 := S) (ds := [.int d]) (by simp) rfl hr (by simp) rfl
  have k0 : 0 ≤ cap := Nat.zero_le _
  rcases h r S ls i m bs hr hg hi hm hb hk with ⟨e, S', e1, kp, bi⟩ | ⟨p, i', x, S', R⟩
  · left
    refine ⟨e, S', ?_, kp, by rw [dt] at bi; exact bi⟩
    rw [e1] at me
    rw [e_fnD]
    simp [B_Reader_body, me]
  · rw [R.eq] at me
    have tn := (tup_nil R.ok (by omega) S').1
    cases p with
    | nil =>
      left
      have fa := fld_at (ρ := [some (.own r), some (.int d), some (.tup (trsD []))]) rfl R.rd
      have x0 := R.x0 rfl
      have go := R.go
      rw [x0] at go
      simp only [List.append_nil, List.isEmpty_nil, Bool.true_and, trsN, Nat.add_zero, dt] at go
      refine ⟨i', S', ?_, R.kp, go _ ?_⟩
      · simp only [List.isEmpty_nil] at tn
        rw [e_fnD]
        simp [B_Reader_body, me, tn, k0, sRaise, fa, BL]
      · by_cases z : i' = ls.length
        · rw [z]; exact bad_end_t rfl
        · have lt : i' < ls.length := by have := R.hi; omega
          have hl : ls[i']? = some ls[i'] := List.getElem?_eq_getElem lt
          have gl := hg _ (List.mem_of_getElem? hl)
          rcases R.dec with dn | de
          · obtain ⟨δ, hδ⟩ := dp_ex ls[i'] bs.length
            have := dp_lt hδ ((textAt_pre hl).mp dn)
            exact A_pop (s := ⟨bs, true, m⟩) hl (by simp only; omega) hδ (by simp only; omega) rfl
          · have h2 := textAt_some de
            have le := hg _ (List.mem_of_getElem? h2)
            refine A_bad (s := ⟨bs, true, m⟩) (d := d) (k := cEl) h2 le.2 (by simp only; omega) hk ⟨(ind_pre d cEl).1, by simp only; omega, .inl hb.symm⟩ (fun z => by simp only at z; omega) (by rw [(ind_pre d cEl).2]; exact els_kind) (by decide) (.inr ⟨rfl, ?_⟩)
            unfold lstK
            simp only
            rw [List.getElem?_eq_none (by omega)]
            decide
    | cons t q =>
      right
      refine ⟨t :: q, i', x, S', by simp, { R with eq := ?_ }⟩
      simp only [List.isEmpty_cons] at tn
      rw [e_fnD]
      simp [B_Reader_body, me, tn, k0]
/-! ### filled -/
structure FillR (R : RE D) (r : Nat) (S : Sto) (ls : List (List Nat)) (d i m : Nat) (bs : List (List Nat)) (t0 t : Tr) (i' : Nat) (y : List (List Nat)) (S' : Sto) : Prop where
  eq : R = .ok t.d S'
  kp : Kp r S S'
  hd : t.head = t0.head
  rd : S'[r]? = some (rdO ls i' (m + t.many - 1))
  le : m + t.many ≤ 201
  ok : t.ok (5 - d)
  txt : ls.drop i = (t.lines d).tail ++ ls.drop i'
  hi : i' ≤ ls.length
  yn : y ≠ []
  tl : Tl ls d i' y
  yl : y.length ≤ 6 - d
  yk : ∀ k ∈ y, k ∈ KDS
  go : ∀ r, BadIs ls i' ⟨bs ++ y, false, m + t.many - 1⟩ r → BadIs ls i ⟨bs ++ [t0.hd], true, m⟩ r
def FillG (φ : FD) (d : Nat) (t0 : Tr) : Prop := ∀ (r : Nat) (S : Sto) (ls : List (List Nat)) (i m : Nat) (bs : List (List Nat)), S[r]? = some (rdO ls i m) → Gl ls → i ≤ ls.length → m ≤ 200 → bs.length = d → (∀ k ∈ bs, k ∈ KDS) →
  FailsG (φ [.own r, t0.shell, .int d] S) r S ls i ⟨bs ++ [t0.hd], true, m⟩ ∨ ∃ t i' y S', FillR (φ [.own r, t0.shell, .int d] S) r S ls d i m bs t0 t i' y S'
theorem tl_of {ls : List (List Nat)} {d i : Nat} {x : List (List Nat)} {k : List Nat} (hd : textAt ls i (d + 1) = none ∨ textAt ls i (d + 1) = some cEl) (tl : Tl ls (d + 1) i x) (hk : textAt ls i d = some cEl → k ≠ cIf) : Tl ls d i (k :: x) := by
  refine ⟨hk, ?_⟩
  rcases hd with hd | hd
  · exact .inl hd
  · refine .inr ⟨hd, ?_⟩
    cases x with
    | nil => simp
    | cons a b =>
      have := tl.1 hd
      simpa using this
/-- the step with one plan -/
def Tr.fill1 : Tr → List Tr → Tr
  | .rep n _, p => .rep n p
  | .try_ _, p => .try_ p
  | .each w _, p => .each w p
  | t, _ => t
theorem fill_g {φp φb φf : FD} {d : Nat} {t0 : Tr} (hs : t0.sok) (hd : d ≤ 5) (nev : ∀ e, t0 ≠ .ev e) (h : BodyG φb (d + 1)) : FillG (fnD 4 (B_Reader_filled φp φb φf)) d t0 := by
  intro r S ls i m bs hr hg hi hm hb hk
  have k0 : 0 ≤ cap := Nat.zero_le _
  have k1 : 1 ≤ cap := by decide
  have k2 : 2 ≤ cap := by decide
  have d1 : ((d + 1 : Nat) : Int) = (d : Int) + 1 := by omega
  have hkd : t0.hd ∈ KDS := (show ∀ a ∈ HDS, a ∈ KDS by decide) _ (hd_in t0)
  have dt : decide (0 < d + 1) = true := decide_eq_true (by omega)
  have five : 6 - (d + 1) = 5 - d := by omega
  have bsl : (bs ++ [t0.hd]).length = d + 1 := by simp [hb]
  have bsk : ∀ k ∈ bs ++ [t0.hd], k ∈ KDS := fun k hk' => by
    rcases List.mem_append.mp hk' with z | z
    · exact hk k z
    · simp at z; rw [z]; exact hkd
  have me := meth_eq (m := "body") (n := 2) (F := φb) (fa := aCons (dBin oAdd (dVar 2) (dC (.int 1))) aNil) (ρ := [some (.own r), some t0.shell, some (.int d), none]) (S := S) (S2 := S) (ds := [.int ((d : Int) + 1)]) (by simp) rfl hr (by simp) rfl
  rcases h r S ls i m (bs ++ [t0.hd]) hr hg hi hm bsl bsk with ⟨e, S', e1, kp, bi⟩ | ⟨p, i', x, S1, ne, R⟩
  · left
    refine ⟨e, S', ?_, kp, bi⟩
    rw [d1] at e1
    rw [e1] at me
    rw [e_fnD]
    simp [B_Reader_filled, me]
  · have Req := R.eq
    rw [d1] at Req
    rw [Req] at me
    have pe : p.isEmpty = false := by cases p <;> simp at ne ⊢
    have go := R.go
    rw [pe, dt] at go
    simp only [Bool.false_and] at go
    have s0 := sh0 t0 S1
    have ok1 := R.ok
    rw [five] at ok1
    have mle := R.le
    -- one plan
    have one : ∀ (xs : List D), t0.inner = [[]] → slD t0.shell none (some (-1)) S1 = .ok (.tup xs) S1 → oAdd (.tup xs) (.tup [.tup (trsD p)]) S1 = .ok (t0.fill1 p).d S1 → t0.hd ≠ cIf → (t0.fill1 p).inner = [p] → (t0.fill1 p).ok (5 - d) → (t0.fill1 p).head = t0.head →
        ∃ t i' y S', FillR (fnD 4 (B_Reader_filled φp φb φf) [.own r, t0.shell, .int d] S) r S ls d i m bs t0 t i' y S' := fun xs hin h1 h2 h3 h4 h5 h6 => by
      have n2 : oNe (.str (mkS t0.hd)) (.str (mkS cIf)) S1 = .ok (.bl true) S1 := by rw [ne_s (hds_as _ (hd_in t0)) (hds_as cIf (by decide))]; simp [h3]
      have mm : (t0.fill1 p).many = 1 + trsN p := by rw [many_inner, h4]; simp
      have lt := lines_tail (t0.fill1 p) d
      rw [h4] at lt
      refine ⟨t0.fill1 p, i', t0.hd :: x, S1, { eq := ?_, kp := R.kp, hd := h6, rd := ?_, le := by omega, ok := h5, txt := by rw [lt]; exact R.txt, hi := R.hi, yn := by simp, tl := tl_of R.dec R.tl fun _ => h3, yl := ?_, yk := ?_, go := fun r q => go r ?_ }⟩
      · rw [e_fnD]
        simp [B_Reader_filled, me, s0, qIf, n2, h1, h2, k1]
      · rw [R.rd]; congr 2; omega
      · have := R.xl; simp only [List.length_cons]; omega
      · intro k hk'
        rcases List.mem_cons.mp hk' with z | z
        · rw [z]; exact hkd
        · exact R.xk k z
      · have e1 : bs ++ [t0.hd] ++ x = bs ++ t0.hd :: x := by simp
        have e2 : m + (t0.fill1 p).many - 1 = m + trsN p := by omega
        rw [e2] at q
        rw [e1]; exact q
    cases t0 with
    | ev e => exact absurd rfl (nev e)
    | rep c q =>
      right
      obtain ⟨hc, rfl⟩ := hs
      exact one [.str (mkS cRe), .int c] rfl rfl (by simp only [tup_add [_, _] [_] (by simp)]; rfl) (by simp [Tr.hd, cRe, cIf]) rfl (by simp only [Tr.fill1, Tr.ok]; exact ⟨hc, ne, ok1⟩) rfl
    | try_ q =>
      right
      cases hs
      exact one [.str (mkS cTr)] rfl rfl (by simp only [tup_add [_] [_] (by simp)]; rfl) (by simp [Tr.hd, cTr, cIf]) rfl (by simp only [Tr.fill1, Tr.ok]; exact ⟨ne, ok1⟩) rfl
    | each w q =>
      right
      obtain ⟨hw, rfl⟩ := hs
      exact one [.str (mkS cEa), .str (mkS w)] rfl rfl (by simp only [tup_add [_, _] [_] (by simp)]; rfl) (by simp [Tr.hd, cEa, cIf]) rfl (by simp only [Tr.fill1, Tr.ok]; exact ⟨hw, ne, ok1⟩) rfl
    | if_ a b q1 q2 =>
      obtain ⟨hab, rfl, rfl⟩ := hs
      have shd : (Tr.if_ a b [] []).shell = .tup [.str (mkS cIf), .str (mkS a), .str (mkS b), .tup [], .tup []] := rfl
      have hdI : (Tr.if_ a b [] []).hd = cIf := rfl
      rw [shd] at me ⊢
      rw [hdI] at go R ⊢
      have sl3 : ∀ S, slD (.tup [.str (mkS cIf), .str (mkS a), .str (mkS b), .tup [], .tup []]) none (some 3) S = .ok (.tup [.str (mkS cIf), .str (mkS a), .str (mkS b)]) S := fun _ => rfl
      have i0 : ∀ S, oIx (.tup [.str (mkS cIf), .str (mkS a), .str (mkS b), .tup [], .tup []]) (.int 0) S = .ok (.str (mkS cIf)) S := fun _ => rfl
      have n2 : ∀ S, oNe (.str (mkS cIf)) (.str (mkS cIf)) S = .ok (.bl false) S := fun S => by rw [ne_s (hds_as _ (by decide)) (hds_as cIf (by decide))]; simp
      have ta := text_at_eq (d := d) R.rd R.hi (by omega) hg.as
      have mt := meth_eq (m := "text_at") (n := 2) (F := F_Reader_text_at) (fa := aCons (dVar 2) aNil) (ρ := [some (.own r), some (.tup [.str (mkS cIf), .str (mkS a), .str (mkS b), .tup [], .tup []]), some (.int d), some (.tup (trsD p))]) (S := S1) (S2 := S1) (ds := [.int d]) (by simp) rfl R.rd (by simp) rfl
      rw [ta] at mt
      have mmp : (Tr.if_ a b p []).many = 1 + trsN p := by simp [Tr.many, trsN]
      by_cases te : textAt ls i' d = some cEl
      · -- else
        have hl := textAt_some te
        have gl := hg _ (List.mem_of_getElem? hl)
        have ilt := lt_of_get hl
        rw [te] at mt
        have nt : oNe (txD (some cEl)) (.str (mkS cEl)) S1 = .ok (.bl false) S1 := by simpa [txD] using ne_s aEl aEl S1
        have rlt : r < S1.length := (List.getElem?_eq_some_iff.mp R.rd).1
        have fa1 := aug_at (ρ := [some (.own r), some (.tup [.str (mkS cIf), .str (mkS a), .str (mkS b), .tup [], .tup []]), some (.int d), some (.tup (trsD p))]) rfl R.rd
        have hr2 : (S1.set r (rdO ls (i' + 1) (m + trsN p)))[r]? = some (rdO ls (i' + 1) (m + trsN p)) := List.getElem?_set_self rlt
        have k2' := Kp.set (r := r) (S := S1) (rdO ls (i' + 1) (m + trsN p))
        generalize S1.set r (rdO ls (i' + 1) (m + trsN p)) = S2 at fa1 hr2 k2'
        -- the law at else
        have st : ∀ q, BadIs ls (i' + 1) ⟨bs ++ [cEl], true, m + trsN p⟩ q → BadIs ls i ⟨bs ++ [cIf], true, m⟩ q := fun q hq => go q <| by
          have e1 : bs ++ [cIf] ++ x = bs ++ cIf :: x := by simp
          rw [e1]
          have xl := R.xl
          refine A_else (d := d) hl gl.2 (by simp only [List.length_append, List.length_cons]; omega) ⟨(ind_pre d cEl).1, by simp only [List.length_append, List.length_cons]; omega, .inr (ind_no (by decide) (by omega))⟩ (fun _ => rfl) (by rw [(ind_pre d cEl).2]; exact els_kind) (lst_at hb).1 ?_
          have tk : (bs ++ cIf :: x).take d = bs := by rw [← hb]; exact List.take_left
          simp only [tk]
          exact hq
        have bsl2 : (bs ++ [cEl]).length = d + 1 := by simp [hb]
        have bsk2 : ∀ k ∈ bs ++ [cEl], k ∈ KDS := fun k hk' => by
          rcases List.mem_append.mp hk' with z | z
          · exact hk k z
          · simp at z; rw [z]; decide
        have mq := meth_eq (m := "body") (n := 2) (F := φb) (fa := aCons (dBin oAdd (dVar 2) (dC (.int 1))) aNil) (ρ := [some (.own r), some (.tup [.str (mkS cIf), .str (mkS a), .str (mkS b), .tup [], .tup []]), some (.int d), some (.tup (trsD p))]) (S := S2) (S2 := S2) (ds := [.int ((d : Int) + 1)]) (by simp) rfl hr2 (by simp) rfl
        rcases h r S2 ls (i' + 1) (m + trsN p) (bs ++ [cEl]) hr2 hg (by omega) mle bsl2 bsk2 with ⟨e, S', e1, kp, bi⟩ | ⟨p2, i2, x2, S3, ne2, R2⟩
        · left
          refine ⟨e, S', ?_, (R.kp.trans k2').trans kp, st _ bi⟩
          rw [d1] at e1
          rw [e1] at mq
          rw [e_fnD]
          simp [B_Reader_filled, me, i0, qIf, n2, qEl, mt, nt, fa1, mq, sl3]
        · right
          have Req2 := R2.eq
          rw [d1] at Req2
          rw [Req2] at mq
          have pe2 : p2.isEmpty = false := by cases p2 <;> simp at ne2 ⊢
          have go2 := R2.go
          rw [pe2, dt] at go2
          simp only [Bool.false_and] at go2
          have ok2 := R2.ok
          rw [five] at ok2
          have le2 := R2.le
          have ad := tup_add [.str (mkS cIf), .str (mkS a), .str (mkS b)] [.tup (trsD p), .tup (trsD p2)] (by simp) S3
          have mm : (Tr.if_ a b p p2).many = 1 + trsN p + trsN p2 := rfl
          have ltl := lines_tail (.if_ a b p p2) d
          simp only [Tr.inner, if_neg ne2] at ltl
          have xl2 := R2.xl
          refine ⟨.if_ a b p p2, i2, cEl :: x2, S3, { eq := ?_, kp := (R.kp.trans k2').trans R2.kp, hd := rfl, rd := ?_, le := by omega, ok := by simp only [Tr.ok]; exact ⟨hab, ne, ok1, ok2⟩, txt := ?_, hi := R2.hi, yn := by simp, tl := tl_of R2.dec R2.tl fun _ => by decide, yl := by simp only [List.length_cons]; omega, yk := ?_, go := fun q hq => st q (go2 q ?_) }⟩
          · rw [e_fnD]
            simp [B_Reader_filled, me, i0, qIf, n2, qEl, mt, nt, fa1, mq, sl3, ad, k0, k2, Tr.d]
          · rw [R2.rd]; congr 2; omega
          · rw [ltl, R.txt]
            have : ls.drop i' = (ind d ++ cEl) :: ls.drop (i' + 1) := by
              rw [List.drop_eq_getElem_cons ilt]
              rw [List.getElem?_eq_getElem ilt] at hl
              injection hl with hl
              rw [hl]
            rw [this, R2.txt]
            simp
          · intro k hk'
            rcases List.mem_cons.mp hk' with z | z
            · rw [z]; decide
            · exact R2.xk k z
          · have e1 : bs ++ [cEl] ++ x2 = bs ++ cEl :: x2 := by simp
            have e2 : m + (Tr.if_ a b p p2).many - 1 = m + trsN p + trsN p2 := by omega
            rw [e2] at hq
            rw [e1]; exact hq
      · right
        have nt := ne_txt (text_as hg.as) te S1
        have ad := tup_add [.str (mkS cIf), .str (mkS a), .str (mkS b)] [.tup (trsD p), .tup []] (by simp) S1
        have ltl := lines_tail (.if_ a b p []) d
        simp only [Tr.inner, if_true, List.append_nil] at ltl
        have xl := R.xl
        refine ⟨.if_ a b p [], i', cIf :: x, S1, { eq := ?_, kp := R.kp, hd := rfl, rd := ?_, le := by omega, ok := by simp only [Tr.ok]; exact ⟨hab, ne, ok1, by cases (5 - d) <;> trivial⟩, txt := by rw [ltl]; exact R.txt, hi := R.hi, yn := by simp, tl := tl_of R.dec R.tl fun z => absurd z te, yl := by simp only [List.length_cons]; omega, yk := ?_, go := fun q hq => go q ?_ }⟩
        · rw [e_fnD]
          simp [B_Reader_filled, me, i0, qIf, n2, qEl, mt, nt, sl3, ad, k0, k2, Tr.d, trsD]
        · rw [R.rd]; congr 2; omega
        · intro k hk'
          rcases List.mem_cons.mp hk' with z | z
          · rw [z]; decide
          · exact R.xk k z
        · have e1 : bs ++ [cIf] ++ x = bs ++ cIf :: x := by simp
          have e2 : m + (Tr.if_ a b p []).many - 1 = m + trsN p := by omega
          rw [e2] at hq
          rw [e1]; exact hq
end G

set_option maxHeartbeats 4000000
namespace G
open PySem L2 DE
section
variable {φp φb φf : FD} {d k r f : Nat} {ls : List (List Nat)} {o3 o4 : Option D} {S : Sto} {i m : Nat}
theorem test_els (h : S[r]? = some (rdO ls i m)) (hi : i ≤ ls.length) (hd : d < 9) (hg : ∀ l ∈ ls, As l) (hx : textAt ls i d = some cEl) :
    L_Reader_plan_1_t φp φb φf [some (.own r), some (.int d), some (.own f), o3, o4] S = .bk [some (.own r), some (.int d), some (.own f), some (.str (mkS cEl)), o4] S := by
  have ta := text_at_eq (d := d) h hi hd hg
  have mt := meth_eq (m := "text_at") (n := 2) (F := F_Reader_text_at) (fa := aCons (dVar 1) aNil) (ρ := [some (.own r), some (.int d), some (.own f), o3, o4]) (S := S) (S2 := S) (ds := [.int d]) (by simp) rfl h (by simp) rfl
  rw [ta, hx] at mt
  have nt := ne_s aEl aEl S
  simp only [decide_true, Bool.not_true] at nt
  simp [L_Reader_plan_1_t, mAndW, mWal, mt, txD, DE.isNon, qEl, nt]
end
theorem turn_split (φp φb φf : FD) : L_Reader_plan_1 φp φb φf = (sSeq (sAsg (dCall 1 F_step_in [] (aCons (dVar 3) aNil)) (gN 4))
      (sSeq (sIf (dOrT (dTest (dBin oIs (dVar 4) (dC .non))) (dOrT (dTest (dBin oEq (dVar 1) (dC (.int 6)))) (dTest (dBin oEq (dFld "many" ["Reader"] (dVar 0)) (dC (.int 200))))))
      (sRaise "BadLine" "value" (dFld "at" ["Reader"] (dVar 0)))
      sNil)
      (sSeq (DE.sFldAug "at" ["Reader"] (dVar 0) (dC (.int 1)))
      (sSeq (DE.sFldAug "many" ["Reader"] (dVar 0) (dC (.int 1)))
      (sExpr (dApp (dVar 2) (aCons (dIfE (dTest (dBin oEq (dBin oIx (dVar 4) (dC (.int 0))) (dC (.str (Str.ofString "do"))))) (dVar 4) (dMeth "filled" 3 [("Reader", φf)] (dVar 0) (aCons (dVar 4) (aCons (dVar 1) aNil)))) aNil))))))) := rfl
/-- two stores, but for the reader and one list -/
structure Kq (r f : Nat) (S S' : Sto) : Prop where
  le : S.length ≤ S'.length
  kp : ∀ j, j < S.length → j ≠ r → j ≠ f → S'[j]? = S[j]?
theorem Kq.refl {r f : Nat} {S : Sto} : Kq r f S S := ⟨Nat.le_refl _, fun _ _ _ _ => rfl⟩
theorem Kq.trans {r f : Nat} {A B C : Sto} (h : Kq r f A B) (k : Kq r f B C) : Kq r f A C := ⟨Nat.le_trans h.le k.le, fun j hj hr hf => by rw [k.kp j (Nat.lt_of_lt_of_le hj h.le) hr hf, h.kp j hj hr hf]⟩
theorem Kp.q {r f : Nat} {S S' : Sto} (h : Kp r S S') : Kq r f S S' := ⟨h.le, fun j hj hr _ => h.kp j hj hr⟩
theorem Kq.set {r f : Nat} {S : Sto} (d : D) : Kq r f S (S.set f d) := ⟨by simp, fun j _ _ hf => List.getElem?_set_ne (Ne.symm hf)⟩
def Sbl (bs x : List (List Nat)) (e : Bool) (m : Nat) : Sta := ⟨bs ++ x, e, m⟩
/-- one turn: it fails as the law does, or goes on with one step more -/
theorem turn_g {φp φb φf : FD} {d r f : Nat} {ls : List (List Nat)} {o4 : Option D} {S : Sto} {i m : Nat} {t : List Nat} {acc : List D} {bs x : List (List Nat)} {e0 : Bool} (hd : d ≤ 6) (h : S[r]? = some (rdO ls i m)) (hf : S[f]? = some (.lst acc)) (fr : f ≠ r) (hg : Gl ls)
    (ht : textAt ls i d = some t) (ne : t ≠ cEl) (hb : bs.length = d) (bk : ∀ k ∈ bs, k ∈ KDS) (tl : Tl ls d i x) (xl : x.length ≤ 6 - d) (xk : ∀ k ∈ x, k ∈ KDS) (he : x ≠ [] → e0 = false) (hm : m ≤ 200) (hacc : acc.length < 1000) (hF : d ≤ 5 → ∀ t0 : Tr, t0.sok → (∀ e, t0 ≠ .ev e) → FillG φf d t0) :
    (∃ e ρ' S', L_Reader_plan_1 φp φb φf [some (.own r), some (.int d), some (.own f), some (.str (mkS t)), o4] S = .exc (BL e) ρ' S' ∧ Kq r f S S' ∧ BadIs ls i ⟨bs ++ x, e0, m⟩ (.lst [.int e])) ∨
    (m < 200 ∧ d < 6 ∧ ∃ (tt : Tr) (i' : Nat) (y : List (List Nat)) (u4 : Option D) (S' : Sto), L_Reader_plan_1 φp φb φf [some (.own r), some (.int d), some (.own f), some (.str (mkS t)), o4] S = .nx [some (.own r), some (.int d), some (.own f), some (.str (mkS t)), u4] S' ∧ Kq r f S S' ∧
      S'[r]? = some (rdO ls i' (m + tt.many)) ∧ S'[f]? = some (.lst (acc ++ [tt.d])) ∧ m + tt.many ≤ 200 ∧ tt.ok (5 - d) ∧ ls.drop i = tt.lines d ++ ls.drop i' ∧ i' ≤ ls.length ∧ Tl ls d i' y ∧ y.length ≤ 6 - d ∧ (∀ k ∈ y, k ∈ KDS) ∧ ∀ q, BadIs ls i' ⟨bs ++ y, false, m + tt.many⟩ q → BadIs ls i ⟨bs ++ x, e0, m⟩ q) := by
  have hl := textAt_some ht
  have gl := hg _ (List.mem_of_getElem? hl)
  have ilt := lt_of_get hl
  have at_ : As t := text_as hg.as t ht
  have tlen : t.length ≤ 900 := by have := gl.2; rw [List.length_append] at this; omega
  have L8 : (bs ++ x).length ≤ 8 := by rw [List.length_append]; omega
  have lk : ∀ z ∈ bs ++ x, z ∈ KDS := fun z hz => by
    rcases List.mem_append.mp hz with z1 | z1
    · exact bk z z1
    · exact xk z z1
  have dr := (ind_pre d t).2
  have em : ∀ δ, bs.length ≤ δ → δ < (bs ++ x).length → e0 = false := fun δ h1 h2 => he fun w => by rw [w] at h2; simp at h2; omega
  have fa := fun o => fld_at (ρ := [some (.own r), some (.int d), some (.own f), some (.str (mkS t)), o]) rfl h
  have fm := fun o => fld_many (ρ := [some (.own r), some (.int d), some (.own f), some (.str (mkS t)), o]) rfl h
  cases kind_cases at_ tlen with
  | els h' _ => exact absurd h' ne
  | odd _ sn kn =>
    left
    refine ⟨i, [some (.own r), some (.int d), some (.own f), some (.str (mkS t)), some .non], S, ?_, .refl, ?_⟩
    · rw [turn_split]
      simp [sn, DE.isNon, sRaise, fa, BL]
    · rcases dp_of ht hb tl with dp | ⟨k, y, rfl, te, hy, dp, dr2⟩
      · exact A_bad (s := ⟨bs ++ x, e0, m⟩) (d := d) (k := cOdd) hl gl.2 L8 lk dp (fun z => em d (by omega) z) (by rw [dr]; exact kn) (by decide) (.inl rfl)
      · refine A_bad (s := ⟨bs ++ k :: y, e0, m⟩) (d := d + 1) (k := cEl) hl gl.2 L8 lk dp (fun z => em (d + 1) (by omega) z) (by rw [dr2]; exact els_kind) (by decide) (.inr ⟨rfl, ?_⟩)
        rw [(lst_at hb).2]
        intro w
        apply hy
        cases q : y.head? with
        | none => rw [q] at w; exact absurd w (by decide)
        | some v => rw [q] at w; simp at w; rw [w]
  | step t0 sok hh ss ks =>
    have dp : Dp (ind d ++ t) (bs ++ x).length d := by
      rcases dp_of ht hb tl with dp | ⟨k, y, rfl, te, hy, dp, dr2⟩
      · exact dp
      · exfalso
        have := sok_sp sok
        rw [hh, te] at this
        simp at this
    have sn := sh_non t0
    by_cases lim : d = 6 ∨ m = 200
    · left
      refine ⟨i, [some (.own r), some (.int d), some (.own f), some (.str (mkS t)), some t0.shell], S, ?_, .refl, A_most (s := ⟨bs ++ x, e0, m⟩) (d := d) (k := t0.hd) hl gl.2 L8 dp (fun z => em d (by omega) z) lk (by rw [dr]; exact ks) (hd_in t0) lim⟩
      rw [turn_split]
      by_cases z : (d : Int) = 6
      · have z := eq_true z
        simp [ss, sn, z, sRaise, fa, BL]
      · have z2 : ((m : Int) = 200) = True := eq_true (by omega)
        simp [ss, sn, z, fm, z2, sRaise, fa, BL]
    · have d6 : d ≠ 6 := fun z => lim (.inl z)
      have m200 : m ≠ 200 := fun z => lim (.inr z)
      have c1 : ((d : Int) == 6) = false := by simp; omega
      have c2 : ((m : Int) == 200) = false := by simp; omega
      have rlt : r < S.length := (List.getElem?_eq_some_iff.mp h).1
      have flt : f < S.length := (List.getElem?_eq_some_iff.mp hf).1
      have f1 := aug_at (ρ := [some (.own r), some (.int d), some (.own f), some (.str (mkS t)), some t0.shell]) rfl h
      have h1 : (S.set r (rdO ls (i + 1) m))[r]? = some (rdO ls (i + 1) m) := List.getElem?_set_self rlt
      have k1 := Kp.set (r := r) (S := S) (rdO ls (i + 1) m)
      generalize S.set r (rdO ls (i + 1) m) = S1 at f1 h1 k1
      have rlt1 : r < S1.length := (List.getElem?_eq_some_iff.mp h1).1
      have f2 := aug_many (ρ := [some (.own r), some (.int d), some (.own f), some (.str (mkS t)), some t0.shell]) rfl h1
      have h2 : (S1.set r (rdO ls (i + 1) (m + 1)))[r]? = some (rdO ls (i + 1) (m + 1)) := List.getElem?_set_self rlt1
      have k2 := k1.trans (Kp.set (r := r) (S := S1) (rdO ls (i + 1) (m + 1)))
      generalize S1.set r (rdO ls (i + 1) (m + 1)) = S2 at f2 h2 k2
      have hf2 : S2[f]? = some (.lst acc) := by rw [k2.kp f flt fr]; exact hf
      have lc : acc.length < cap := Nat.lt_of_lt_of_le hacc (by decide)
      have s0 := sh0 t0 S2
      have tk : (bs ++ x).take d = bs := by rw [← hb]; exact List.take_left
      have ldr : ls.drop i = (ind d ++ t) :: ls.drop (i + 1) := by
        rw [List.drop_eq_getElem_cons ilt]
        have hl' := hl
        rw [List.getElem?_eq_getElem ilt] at hl'
        injection hl' with hl'
        rw [hl']
      by_cases ev : ∃ e, t0 = .ev e
      · obtain ⟨e, rfl⟩ := ev
        right
        have i0 : oIx (Tr.ev e).shell (.int 0) S2 = .ok (.str (mkS cDo)) S2 := s0
        have e3 : (dIfE (dTest (dBin oEq (dBin oIx (dVar 4) (dC (.int 0))) (dC (.str (Str.ofString "do"))))) (dVar 4) (dMeth "filled" 3 [("Reader", φf)] (dVar 0) (aCons (dVar 4) (aCons (dVar 1) aNil)))) [some (.own r), some (.int d), some (.own f), some (.str (mkS t)), some (Tr.ev e).shell] S2 = .ok (Tr.ev e).d S2 := by
          simp [i0, qDo, eq_yes (a := cDo)]
          rfl
        have ap := app_eq (ρ := [some (.own r), some (.int d), some (.own f), some (.str (mkS t)), some (Tr.ev e).shell]) rfl hf2 e3 hf2 lc
        have flt2 : f < S2.length := (List.getElem?_eq_some_iff.mp hf2).1
        refine ⟨by omega, by omega, .ev e, i + 1, [], some (Tr.ev e).shell, S2.set f (.lst (acc ++ [(Tr.ev e).d])), ?_, (Kp.q k2).trans (Kq.set _), ?_, List.getElem?_set_self flt2, by simp only [Tr.many]; omega, by simp only [Tr.ok]; exact sok, ?_, by omega, trivial, by simp, by simp, fun q hq => ?_⟩
        · rw [turn_split]
          generalize dApp (dVar 2) (aCons (dIfE (dTest (dBin oEq (dBin oIx (dVar 4) (dC (.int 0))) (dC (.str (Str.ofString "do"))))) (dVar 4) (dMeth "filled" 3 [("Reader", φf)] (dVar 0) (aCons (dVar 4) (aCons (dVar 1) aNil)))) aNil) = zP1 at ap ⊢
          simp [ss, sn, c1, fm, c2, f1, f2, ap]
        · rw [List.getElem?_set_ne fr, h2]; rfl
        · rw [ldr, ← hh]; rfl
        · refine A_step (s := ⟨bs ++ x, e0, m⟩) (d := d) (k := cDo) hl gl.2 L8 dp (fun z => em d (by omega) z) (by rw [dr]; exact ks) (by decide) d6 m200 ?_
          simp only [tk, if_true, decide_true, Bool.not_true]
          exact hq
      · have nev : ∀ e, t0 ≠ .ev e := fun e z => ev ⟨e, z⟩
        have nd : t0.hd ≠ cDo := by cases t0 <;> first | exact absurd rfl (nev _) | simp [Tr.hd, cRe, cTr, cEa, cIf, cDo]
        have st : ∀ q, BadIs ls (i + 1) ⟨bs ++ [t0.hd], true, m + 1⟩ q → BadIs ls i ⟨bs ++ x, e0, m⟩ q := fun q hq => by
          refine A_step (s := ⟨bs ++ x, e0, m⟩) (d := d) (k := t0.hd) hl gl.2 L8 dp (fun z => em d (by omega) z) (by rw [dr]; exact ks) (hd_in t0) d6 m200 ?_
          simp only [tk, if_neg nd, decide_eq_false nd, Bool.not_false]
          exact hq
        have q := eq_no (a := t0.hd) (b := cDo) (hd_in t0) (by decide) nd
        have me := meth_eq (m := "filled") (n := 3) (F := φf) (fa := aCons (dVar 4) (aCons (dVar 1) aNil)) (ρ := [some (.own r), some (.int d), some (.own f), some (.str (mkS t)), some t0.shell]) (S := S2) (S2 := S2) (ds := [t0.shell, .int d]) (by simp) rfl h2 (by simp) rfl
        rcases hF (by omega) t0 sok nev r S2 ls (i + 1) (m + 1) bs h2 hg (by omega) (by omega) hb bk with ⟨e, S', e1, kp, bi⟩ | ⟨tt, i', y, S3, R⟩
        · left
          rw [e1] at me
          refine ⟨e, [some (.own r), some (.int d), some (.own f), some (.str (mkS t)), some t0.shell], S', ?_, (Kp.q (k2.trans kp)), st _ bi⟩
          · rw [turn_split]
            have ex : dApp (dVar 2) (aCons (dIfE (dTest (dBin oEq (dBin oIx (dVar 4) (dC (.int 0))) (dC (.str (Str.ofString "do"))))) (dVar 4) (dMeth "filled" 3 [("Reader", φf)] (dVar 0) (aCons (dVar 4) (aCons (dVar 1) aNil)))) aNil) [some (.own r), some (.int d), some (.own f), some (.str (mkS t)), some t0.shell] S2 = .exc (BL e) S' := by
              simp [dApp, hf2, s0, qDo, q, me]
            generalize dApp (dVar 2) (aCons (dIfE (dTest (dBin oEq (dBin oIx (dVar 4) (dC (.int 0))) (dC (.str (Str.ofString "do"))))) (dVar 4) (dMeth "filled" 3 [("Reader", φf)] (dVar 0) (aCons (dVar 4) (aCons (dVar 1) aNil)))) aNil) = zP1 at ex ⊢
            simp [ss, sn, c1, fm, c2, f1, f2, ex]
        · right
          rw [R.eq] at me
          have mp := many_pos tt
          have hf3 : S3[f]? = some (.lst acc) := by rw [(k2.trans R.kp).kp f flt fr]; exact hf
          have flt3 : f < S3.length := (List.getElem?_eq_some_iff.mp hf3).1
          have e3 : (dIfE (dTest (dBin oEq (dBin oIx (dVar 4) (dC (.int 0))) (dC (.str (Str.ofString "do"))))) (dVar 4) (dMeth "filled" 3 [("Reader", φf)] (dVar 0) (aCons (dVar 4) (aCons (dVar 1) aNil)))) [some (.own r), some (.int d), some (.own f), some (.str (mkS t)), some t0.shell] S2 = .ok tt.d S3 := by
            simp [s0, qDo, q, me]
          have ap := app_eq (ρ := [some (.own r), some (.int d), some (.own f), some (.str (mkS t)), some t0.shell]) rfl hf2 e3 hf3 lc
          have e2 : m + 1 + tt.many - 1 = m + tt.many := by omega
          have le := R.le
          refine ⟨by omega, by omega, tt, i', y, some t0.shell, S3.set f (.lst (acc ++ [tt.d])), ?_, (Kp.q (k2.trans R.kp)).trans (Kq.set _), ?_, List.getElem?_set_self flt3, by omega, R.ok, ?_, R.hi, R.tl, R.yl, R.yk, fun q hq => st q (R.go q ?_)⟩
          · rw [turn_split]
            generalize dApp (dVar 2) (aCons (dIfE (dTest (dBin oEq (dBin oIx (dVar 4) (dC (.int 0))) (dC (.str (Str.ofString "do"))))) (dVar 4) (dMeth "filled" 3 [("Reader", φf)] (dVar 0) (aCons (dVar 4) (aCons (dVar 1) aNil)))) aNil) = zP1 at ap ⊢
            simp [ss, sn, c1, fm, c2, f1, f2, ap]
          · rw [List.getElem?_set_ne fr, R.rd, e2]
          · rw [ldr, R.txt, lines_inner tt d, R.hd, hh]
            simp only [List.tail_cons, List.cons_append]
          · rw [e2]; exact hq
end G

set_option maxHeartbeats 4000000
namespace G
open PySem L2 DE
theorem big2 : 98000 ≤ cap := by decide
def Pl (l : List Nat) : Prop := (1 ≤ l.length ∧ l.length ≤ 220) ∧ ∀ c ∈ l, 32 ≤ c ∧ c ≤ 126
theorem joinL_c {c : Nat} (ps : List (List Nat)) : (joinL c ps).length ≤ (ps.map fun p => p.length).sum + ps.length := by
  cases ps with
  | nil => simp [joinL]
  | cons a r =>
    rw [joinL_flat]
    have : (r.flatMap fun p => c :: p).length = (r.map fun p => p.length).sum + r.length := by
      induction r with
      | nil => rfl
      | cons b r ih => simp only [List.flatMap_cons, List.length_append, List.length_cons, List.map_cons, List.sum_cons, ih]; omega
    simp only [List.length_append, List.map_cons, List.sum_cons, List.length_cons, this]
    omega
theorem join_10 {S : Sto} {j : Nat} (ps : List (List Nat)) (hS : S[j]? = some (.lst (Lm ps))) (hl : (ps.map fun p => p.length).sum + ps.length ≤ 90000) : oJoin (mkS [10]) (.own j) S = .ok (.str (mkS (joinL 10 ps))) S := by
  have e := strs_of ps
  have hs : ((ps.map mkS).map (·.length)).sum = (ps.map fun p => p.length).sum := by
    rw [List.map_map]
    exact congrArg List.sum (List.map_congr_left fun p _ => mkS_len p)
  have jn : Txt.join (mkS [10]) (ps.map mkS) = mkS (joinL 10 ps) := join_eq 10 ps
  have sq : seqOf S (.own j) = some (Lm ps) := by simp [seqOf, hS]
  have e : strsOf (Lm ps) = some (ps.map mkS) := e
  simp only [oJoin, sq, e]
  rw [hs, List.length_map]
  have : (mkS [10]).length = 1 := rfl
  rw [this, Nat.mul_one, if_pos (Nat.le_trans hl (Nat.le_trans (by decide) big2)), jn]
theorem ne_s2 {a b : List Nat} (ha : ∀ c ∈ a, c < 128) (hb : ∀ c ∈ b, c < 128) (S : Sto) : oNe (.str (mkS a)) (.str (mkS b)) S = .ok (.bl (!decide (a = b))) S := by
  have k : ∀ l : List Nat, (∀ c ∈ l, c < 128) → PyData.strOk (mkS l) = true := fun l h => Asci.strOk (x := mkS l) (by unfold Asci; rw [mkS_list]; exact h)
  rw [oNe_str (k a ha) (k b hb)]
  congr 3
  rw [Bool.eq_iff_iff, beq_iff_eq, decide_eq_true_eq, mkS_inj]
theorem split_10 {l : List Nat} (h : l.length + 2 ≤ cap) (S : Sto) : oSplit (mkS l) [.str (mkS [10])] S = .ok (.lst (Lm (splitL 10 l))) S := by
  have e := split_eq (mkS l) (c := 10) (by decide)
  rw [mkS_list] at e
  have c1 : (mkS [10]).length ≠ 0 := by decide
  have c2 : (mkS l).length + 2 ≤ cap := by rw [mkS_len]; exact h
  simp only [oSplit, if_pos (And.intro c1 c2)]
  rw [e, List.map_map]
  rfl
theorem fld_g {f : Str} {S : Sto} {r : Nat} {ls : List (List Nat)} {i m : Nat} {v : D} {ρ : DE.Env} {n : Nat} (hv : ρ[n]? = some (some (.own r))) (h : S[r]? = some (rdO ls i m)) (hf : (rdF ls i m).lookup f = some v) :
    dFld f ["Reader"] (dVar n) ρ S = .ok v S := by simp [dFld, hv, objAt_rd h, hf]
theorem meth_g {m : Str} {n : Nat} {F : FD} {fa : MA} {ρ : DE.Env} {S S2 : Sto} {r : Nat} {ls : List (List Nat)} {i k : Nat} {ds : List D} {v : Nat} (hm : m ∈ [("text_at" : Str), "plan", "body", "filled"]) (hv : ρ[v]? = some (some (.own r))) (h : S[r]? = some (rdO ls i k)) (ha : fa ρ S = .ok ds S2) (hl : ds.length + 1 = n) :
    dMeth m n [("Reader", F)] (dVar v) fa ρ S = F (.own r :: ds) S2 := by
  have nm := no_meth ls i k m hm
  simp [dMeth, hv, objAt_rd h, nm, ha, hl]
theorem init_eq (ls : List (List Nat)) (S : Sto) : makeF "Reader" (bindF 2 2 (fun ds es => ds ++ es) F_Reader___init__) [.lst (Lm ls)] S = .ok (.own S.length) (S ++ [rdO ls 0 0]) := by
  have p1 : putD ("lines" : Str) (.lst (Lm ls)) [] = [(("lines" : Str), .lst (Lm ls))] := rfl
  have p2 : putD ("at" : Str) (.int 0) [(("lines" : Str), .lst (Lm ls))] = [(("lines" : Str), .lst (Lm ls)), (("at" : Str), .int 0)] := by simp [putD, sD]
  have p3 : putD ("many" : Str) (.int 0) [(("lines" : Str), .lst (Lm ls)), (("at" : Str), .int 0)] = rdF ls 0 0 := by simp [rdF, putD, sE, sF]
  simp [makeF, bindF, F_Reader___init__, e_fnD, B_Reader___init__, sFldO, p1, p2, p3, rdO]
theorem loop_g {φp φb φf : FD} {d r f : Nat} {ls : List (List Nat)} {bs : List (List Nat)} (hd : d ≤ 6) (fr : f ≠ r) (hg : Gl ls) (hb : bs.length = d) (bk : ∀ k ∈ bs, k ∈ KDS) (hF : d ≤ 5 → ∀ t0 : Tr, t0.sok → (∀ e, t0 ≠ .ev e) → FillG φf d t0) :
    ∀ (N : Nat) (p0 : List Tr) (i m : Nat) (x : List (List Nat)) (o3 o4 : Option D) (S : Sto), 202 ≤ N + m → S[r]? = some (rdO ls i m) → S[f]? = some (.lst (trsD p0)) → i ≤ ls.length → m ≤ 200 → p0.length ≤ m → (p0 = [] → x = []) → Tl ls d i x → x.length ≤ 6 - d → (∀ k ∈ x, k ∈ KDS) →
    (∃ e ρ' S', whileW (L_Reader_plan_1_t φp φb φf) (L_Reader_plan_1 φp φb φf) N [some (.own r), some (.int d), some (.own f), o3, o4] S = .exc (BL e) ρ' S' ∧ Kq r f S S' ∧ BadIs ls i ⟨bs ++ x, p0.isEmpty && decide (0 < d), m⟩ (.lst [.int e])) ∨
    (∃ (p : List Tr) (i' : Nat) (x' : List (List Nat)) (u3 u4 : Option D) (S' : Sto), whileW (L_Reader_plan_1_t φp φb φf) (L_Reader_plan_1 φp φb φf) N [some (.own r), some (.int d), some (.own f), o3, o4] S = .nx [some (.own r), some (.int d), some (.own f), u3, u4] S' ∧ Kq r f S S' ∧ S'[r]? = some (rdO ls i' (m + trsN p)) ∧ S'[f]? = some (.lst (trsD (p0 ++ p))) ∧ m + trsN p ≤ 200 ∧ trsOk (6 - d) p ∧ ls.drop i = trsL d p ++ ls.drop i' ∧ i' ≤ ls.length ∧
      (textAt ls i' d = none ∨ textAt ls i' d = some cEl) ∧ (p0 ++ p = [] → x' = []) ∧ Tl ls d i' x' ∧ x'.length ≤ 6 - d ∧ (∀ k ∈ x', k ∈ KDS) ∧ ∀ q, BadIs ls i' ⟨bs ++ x', (p0 ++ p).isEmpty && decide (0 < d), m + trsN p⟩ q → BadIs ls i ⟨bs ++ x, p0.isEmpty && decide (0 < d), m⟩ q)
  | 0, p0, i, m, x, o3, o4, S, hN, _, _, _, hm, _, _, _, _, _ => by omega
  | N + 1, p0, i, m, x, o3, o4, S, hN, h, hf, hi, hm, hl, x0, tl, xl, xk => by
    have ok0 : trsOk (6 - d) [] := by cases (6 - d) <;> trivial
    cases q : textAt ls i d with
    | none =>
      right
      have te := test_no (φp := φp) (φb := φb) (φf := φf) (f := f) (o3 := o3) (o4 := o4) h hi (by omega) hg.as q
      refine ⟨[], i, x, some .non, o4, S, by simp only [whileW, te], .refl, by simpa [trsN] using h, by simpa using hf, by simpa [trsN] using hm, ok0, by simp [trsL], hi, .inl q, by simpa using x0, tl, xl, xk, fun r hr => by simpa [trsN] using hr⟩
    | some t =>
      by_cases ne : t = cEl
      · right
        rw [ne] at q
        have te := test_els (φp := φp) (φb := φb) (φf := φf) (f := f) (o3 := o3) (o4 := o4) h hi (by omega) hg.as q
        refine ⟨[], i, x, some (.str (mkS cEl)), o4, S, by simp only [whileW, te], .refl, by simpa [trsN] using h, by simpa using hf, by simpa [trsN] using hm, ok0, by simp [trsL], hi, .inr q, by simpa using x0, tl, xl, xk, fun r hr => by simpa [trsN] using hr⟩
      · have te := test_yes (φp := φp) (φb := φb) (φf := φf) (f := f) (o3 := o3) (o4 := o4) h hi (by omega) hg.as q ne
        have tl0 := trs_len p0
        rcases turn_g (φp := φp) (φb := φb) (φf := φf) (o4 := o4) (e0 := p0.isEmpty && decide (0 < d)) hd h hf fr hg q ne hb bk tl xl xk (fun z => by
          cases p0 with
          | nil => exact absurd (x0 rfl) z
          | cons a b => rfl) hm (by omega) hF with ⟨e, ρ', S', e1, kq, bi⟩ | ⟨m2, d6, tt, i', y, u4, S1, e1, kq, h1, hf1, mt, okt, tx, hi1, tl1, yl1, yk1, go1⟩
        · left
          exact ⟨e, ρ', S', by simp only [whileW, te, e1], kq, bi⟩
        · have mp := many_pos tt
          have f2 : S1[f]? = some (.lst (trsD (p0 ++ [tt]))) := by
            rw [hf1]
            have : ∀ a b : List Tr, trsD (a ++ b) = trsD a ++ trsD b := fun a b => by
              induction a with
              | nil => rfl
              | cons c a ih => simp [trsD, ih]
            rw [this]; rfl
          have e6 : 6 - d = (5 - d) + 1 := by omega
          have em : (p0 ++ [tt]).isEmpty = false := by cases p0 <;> rfl
          rcases loop_g hd fr hg hb bk hF N (p0 ++ [tt]) i' (m + tt.many) y (some (.str (mkS t))) u4 S1 (by omega) h1 f2 hi1 mt (by simp only [List.length_append, List.length_cons, List.length_nil]; omega) (fun z => by simp at z) tl1 yl1 yk1 with ⟨e, ρ', S', e2, kq2, bi⟩ | ⟨p, i2, x2, u3, u5, S2, e2, kq2, h2, hf2, mt2, ok2, tx2, hi2, dc, x02, tl2, xl2, xk2, go2⟩
          · left
            refine ⟨e, ρ', S', by simp only [whileW, te, e1]; exact e2, kq.trans kq2, go1 _ ?_⟩
            rw [em] at bi
            exact bi
          · right
            have app : p0 ++ [tt] ++ p = p0 ++ tt :: p := by simp
            have em2 : (p0 ++ tt :: p).isEmpty = false := by cases p0 <;> rfl
            have mm : m + tt.many + trsN p = m + trsN (tt :: p) := by simp only [trsN]; omega
            rw [app] at hf2 go2
            rw [mm] at h2 mt2 go2
            rw [em] at go2
            refine ⟨tt :: p, i2, x2, u3, u5, S2, by simp only [whileW, te, e1]; exact e2, kq.trans kq2, h2, hf2, mt2, by rw [e6] at ok2 ⊢; simp only [trsOk]; exact ⟨okt, ok2⟩, by rw [tx, tx2]; simp [trsL], hi2, dc, (fun z => by simp at z), tl2, xl2, xk2, fun q hq => go1 q ?_⟩
            have := go2 q hq
            exact this
theorem plan_g : ∀ (n d : Nat), 3 * (6 - d) + 1 ≤ n → d ≤ 6 → PlanG (F_Reader_plan n) d
  | 0, d, h, _ => by omega
  | n + 1, d, hn, hd => by
    intro r S ls i m bs hr hg hi hm hb bk
    have k0 : 0 ≤ cap := Nat.zero_le _
    have rlt : r < S.length := (List.getElem?_eq_some_iff.mp hr).1
    have hF : d ≤ 5 → ∀ t0 : Tr, t0.sok → (∀ e, t0 ≠ .ev e) → FillG (F_Reader_filled n) d t0 := fun h5 t0 hs nev => by
      cases n with
      | zero => omega
      | succ n =>
        refine fill_g hs h5 nev ?_
        cases n with
        | zero => omega
        | succ n => exact body_g (by omega) (by omega) (plan_g n (d + 1) (by omega) (by omega))
    have kk : ∀ S' : Sto, Kq r S.length (S ++ [.lst []]) S' → Kp r S S' := fun S' kq => ⟨by have := kq.le; simp at this; omega, fun j hj jr => by rw [kq.kp j (by simp; omega) jr (by omega)]; exact List.getElem?_append_left hj⟩
    have st : ∀ ρ, F_Reader_plan (n + 1) [.own r, .int d] S = ρ → ρ = (RS.seq (whileW (L_Reader_plan_1_t (F_Reader_plan n) (F_Reader_body n) (F_Reader_filled n)) (L_Reader_plan_1 (F_Reader_plan n) (F_Reader_body n) (F_Reader_filled n)) 300 [some (.own r), some (.int d), some (.own S.length), none, none] (S ++ [.lst []])) (sRet (dBlt oTuple (aCons (dVar 2) aNil)))).fin := fun ρ hρ => by
      rw [← hρ]
      show fnD 5 (B_Reader_plan (F_Reader_plan n) (F_Reader_body n) (F_Reader_filled n)) _ S = _
      rw [e_fnD]
      simp [B_Reader_plan, k0]
    have st := st _ rfl
    rcases loop_g (φp := F_Reader_plan n) (φb := F_Reader_body n) (φf := F_Reader_filled n) (d := d) (r := r) (f := S.length) (bs := bs) hd (by omega) hg hb bk hF 300 [] i m [] none none (S ++ [.lst []]) (by omega) (by rw [List.getElem?_append_left rlt]; exact hr) (by simp [trsD]) hi hm (by simp) (fun _ => rfl) trivial (by simp) (by simp) with ⟨e, ρ', S', e1, kq, bi⟩ | ⟨p, i', x', u3, u4, S', e1, kq, h1, hf1, mt, ok, tx, hi1, dc, x0, tl, xl, xk, go⟩
    · left
      refine ⟨e, S', ?_, kk S' kq, by simpa using bi⟩
      rw [st, e1]
      rfl
    · right
      have hf1 : S'[S.length]? = some (.lst (trsD p)) := by simpa using hf1
      have la : listAt S' (.own S.length) = some (trsD p) := by simp [listAt, hf1]
      refine ⟨p, i', x', S', { eq := ?_, kp := kk S' kq, rd := h1, le := mt, ok := ok, txt := tx, hi := hi1, dec := dc, x0 := by simpa using x0, tl := tl, xl := xl, xk := xk, go := fun q hq => by simpa using go q (by simpa using hq) }⟩
      rw [st, e1]
      simp [oTuple, la]
end G

set_option maxHeartbeats 4000000
namespace G
open PySem L2 DE
/-- the lines of a text -/
def lns (t : List Nat) : List (List Nat) := if t = [] then [] else splitL 10 t
theorem lns_join (t : List Nat) : joinL 10 (lns t) = t := by
  unfold lns
  split
  · rename_i h; rw [h]; rfl
  · exact join_splitL 10 t
/-- a text that the law hands in -/
structure Tx (t : List Nat) : Prop where
  len : t.length ≤ 80000
  asc : ∀ c ∈ t, c < 128
  gl : Gl (lns t)
def S00 : Sta := ⟨[], false, 0⟩
structure Keep (S S' : Sto) : Prop where
  le : S.length ≤ S'.length
  kp : ∀ j, j < S.length → S'[j]? = S[j]?
theorem Keep.refl {S : Sto} : Keep S S := ⟨Nat.le_refl _, fun _ _ => rfl⟩
theorem Keep.trans {A B C : Sto} (h : Keep A B) (k : Keep B C) : Keep A C := ⟨Nat.le_trans h.le k.le, fun j hj => by rw [k.kp j (Nat.lt_of_lt_of_le hj h.le), h.kp j hj]⟩
theorem Keep.app {S R : Sto} : Keep S (S ++ R) := ⟨by simp, fun j hj => List.getElem?_append_left hj⟩
theorem parse_g {t : List Nat} (h : Tx t) (S : Sto) :
    (∃ e S', F_parse_plan [.str (mkS t)] S = .exc (BL e) S' ∧ Keep S S' ∧ BadIs (lns t) 0 S00 (.lst [.int e])) ∨
    (∃ p S', F_parse_plan [.str (mkS t)] S = .ok (.tup (trsD p)) S' ∧ Keep S S' ∧ trsOk 6 p ∧ trsN p ≤ 200 ∧ trsL 0 p = lns t ∧ BadIs (lns t) 0 S00 (.lst [])) := by
  have k0 : 0 ≤ cap := Nat.zero_le _
  have bc := big2
  have nt := ne_s2 h.asc (b := []) (fun _ hc => by cases hc) S
  have sp := split_10 (l := t) (by have := h.len; omega) S
  have arg : (dIfE (dTest (dBin oNe (dVar 0) (dC (.str (Str.ofString ""))))) (dTM oSplit (dVar 0) (aCons (dC (.str (Str.ofString "\n"))) aNil)) (dLst aNil)) [some (.str (mkS t)), none, none] S = .ok (.lst (Lm (lns t))) S := by
    unfold lns
    by_cases z : t = []
    · subst z
      simp only [decide_true, Bool.not_true] at nt
      simp [q0, nt, k0]
      rfl
    · simp only [z, decide_false, Bool.not_false] at nt
      simp [q0, nt, q10, sp, dTM, z]
  have ie := init_eq (lns t) S
  have hr : (S ++ [rdO (lns t) 0 0])[S.length]? = some (rdO (lns t) 0 0) := by simp
  have me := meth_g (m := "plan") (n := 2) (F := F_Reader_plan 24) (fa := aCons (dC (.int 0)) aNil) (ρ := [some (.str (mkS t)), some (.own S.length), none]) (S := S ++ [rdO (lns t) 0 0]) (S2 := S ++ [rdO (lns t) 0 0]) (ds := [.int 0]) (v := 1) (by simp) rfl hr (by simp) rfl
  have kk : ∀ S' : Sto, Kp S.length (S ++ [rdO (lns t) 0 0]) S' → Keep S S' := fun S' kq => ⟨by have := kq.le; simp at this; omega, fun j hj => by rw [kq.kp j (by simp; omega) (by omega)]; exact List.getElem?_append_left hj⟩
  generalize hA : (dIfE (dTest (dBin oNe (dVar 0) (dC (.str (Str.ofString ""))))) (dTM oSplit (dVar 0) (aCons (dC (.str (Str.ofString "\n"))) aNil)) (dLst aNil)) = zA at arg
  have b : ∀ ρ S, B_parse_plan ρ S = (sSeq (sIf (dNotT (dTest (dBlt oIsi (aCons (dVar 0) (aCons (dC (.ty "str")) aNil)))))
    (sRaise "BadLine" "value" (dC (.int 0)))
    sNil)
    (sSeq (sAsg (dCC 1 (makeF "Reader" (bindF 2 2 (fun ds es => ds ++ es) F_Reader___init__)) (aCons zA aNil)) (gN 1))
    (sSeq (sAsg (dMeth "plan" 2 [("Reader", (F_Reader_plan 24))] (dVar 1) (aCons (dC (.int 0)) aNil)) (gN 2))
    (sSeq (sIf (dTest (dBin oLt (dFld "at" ["Reader"] (dVar 1)) (dBlt oLen (aCons (dFld "lines" ["Reader"] (dVar 1)) aNil))))
    (sRaise "BadLine" "value" (dFld "at" ["Reader"] (dVar 1)))
    sNil)
    (sRet (dVar 2)))))) ρ S := by rw [← hA]; exact fun _ _ => rfl
  rcases plan_g 24 0 (by omega) (by omega) S.length (S ++ [rdO (lns t) 0 0]) (lns t) 0 0 [] hr h.gl (Nat.zero_le _) (by omega) rfl (fun _ hk => by cases hk) with ⟨e, S', e1, kp, bi⟩ | ⟨p, i', x, S', R⟩
  · left
    have e1 : F_Reader_plan 24 [.own S.length, .int 0] (S ++ [rdO (lns t) 0 0]) = .exc (BL e) S' := e1
    rw [e1] at me
    refine ⟨e, S', ?_, kk S' kp, bi⟩
    show fnD 3 B_parse_plan _ S = _
    rw [e_fnD, b]
    simp [oIsi, tyName, tyList, subT, dCC, arg, ie, me]
  · have e1 : F_Reader_plan 24 [.own S.length, .int 0] (S ++ [rdO (lns t) 0 0]) = .ok (.tup (trsD p)) S' := R.eq
    rw [e1] at me
    have f1 := fld_g (ρ := [some (.str (mkS t)), some (.own S.length), some (.tup (trsD p))]) (n := 1) rfl R.rd (rd_at _ _ _)
    have f2 := fld_g (ρ := [some (.str (mkS t)), some (.own S.length), some (.tup (trsD p))]) (n := 1) rfl R.rd (rd_lines _ _ _)
    have ll := Lm_len (lns t)
    have go := R.go
    have ef : (p.isEmpty && decide (0 < 0)) = false := by simp
    rw [ef] at go
    have go : ∀ q, BadIs (lns t) i' ⟨x, false, 0 + trsN p⟩ q → BadIs (lns t) 0 S00 q := go
    by_cases lt : i' < (lns t).length
    · left
      have e2 : (i' : Int) < (lns t).length := by omega
      refine ⟨i', S', ?_, kk S' R.kp, go _ ?_⟩
      · show fnD 3 B_parse_plan _ S = _
        rw [e_fnD, b]
        simp [oIsi, tyName, tyList, subT, dCC, arg, ie, me, f1, f2, oLen, seqOf, ll, e2, sRaise, BL]
      · have xl := R.xl
        have hl : (lns t)[i']? = some (lns t)[i'] := List.getElem?_eq_getElem lt
        rcases R.dec with dn | de
        · exact absurd (by simp [ind]) ((textAt_pre hl).mp dn)
        · have h2 := textAt_some de
          have le := h.gl _ (List.mem_of_getElem? h2)
          have dr := (ind_pre 0 cEl).2
          have tl := R.tl
          refine A_bad (s := ⟨x, false, 0 + trsN p⟩) (d := 0) (k := cEl) h2 le.2 (by simp only; omega) R.xk ⟨(ind_pre 0 cEl).1, Nat.zero_le _, .inr (ind_no (by decide) (by omega))⟩ (fun _ => rfl) (by rw [dr]; exact els_kind) (by decide) (.inr ⟨rfl, ?_⟩)
          cases x with
          | nil => simp [lstK, cNo, cIf]
          | cons k y =>
            have := tl.1 de
            simpa [lstK] using this
    · right
      have ei : i' = (lns t).length := by have := R.hi; omega
      have e2 : ¬ (i' : Int) < (lns t).length := by omega
      refine ⟨p, S', ?_, kk S' R.kp, R.ok, by have := R.le; omega, ?_, go _ ?_⟩
      · show fnD 3 B_parse_plan _ S = _
        rw [e_fnD, b]
        simp [oIsi, tyName, tyList, subT, dCC, arg, ie, me, f1, f2, oLen, seqOf, ll, e2]
      · have := R.txt
        rw [ei] at this
        simpa using this.symm
      · rw [ei]; exact bad_end_f rfl
theorem ir_len {ρ : DE.Env} {ds : List D} (h0 : ρ[0]? = some (some (.lst ds))) (hl : ds.length ≤ 100000) (S : Sto) : iR1 (aCons (dBlt oLen (aCons (dVar 0) aNil)) aNil) ρ S = .ok (rangeD 0 ds.length) S := by
  have c1 : -(2 ^ 62) ≤ (ds.length : Int) ∧ (ds.length : Int) < 2 ^ 62 := by omega
  rw [e_iR1]
  simp only [e_aCons, e_dBlt, e_dVar, h0, e_aNil, RE.bind_ok, oLen, seqOf]
  rw [if_pos c1]
  rfl
theorem law_bad_eq {ls : List (List Nat)} {r : D} (h : BadIs ls 0 S00 r) (hl : ls.length ≤ 100000) (S : Sto) : F_law_bad [.lst (Lm ls)] S = .ok r S := by
  have k0 : 0 ≤ cap := Nat.zero_le _
  have ll := Lm_len ls
  have e := h none none none none S
  rw [← idx_range] at e
  have ir := ir_len (ρ := [some (.lst (Lm ls)), some (.lst []), some (.bl false), some (.int 0), none, none, none, none]) rfl (Nat.le_trans (Nat.le_of_eq ll) hl) S
  rw [ll] at ir
  have p3 : sPar3 1 2 3 (aCons (dLst aNil) (aCons (dC (.bl false)) (aCons (dC (.int 0)) aNil))) [some (.lst (Lm ls)), none, none, none, none, none, none, none] S = .nx [some (.lst (Lm ls)), some (.lst []), some (.bl false), some (.int 0), none, none, none, none] S := by
    simp [sPar3, k0]
  have b : F_law_bad [.lst (Lm ls)] S = (B_law_bad [some (.lst (Lm ls)), none, none, none, none, none, none, none] S).fin := by
    rw [show F_law_bad = fnD 8 B_law_bad from rfl, e_fnD]
    simp only [List.map_cons, List.map_nil, List.length_cons, List.length_nil]
    rfl
  rw [b, ← e]
  unfold B_law_bad
  rw [e_sSeq, p3, seq_nx, e_sSeq, e_sFor, ir]
  rfl
theorem due_eq {t : List Nat} {r : D} (h : Tx t) (hb : BadIs (lns t) 0 S00 r) (S : Sto) : F_law_due [.str (mkS t)] S = .ok r S := by
  have k0 : 0 ≤ cap := Nat.zero_le _
  have bc := big2
  have hl : (lns t).length ≤ 100000 := by
    unfold lns
    split
    · simp
    · have := split_len 10 t; have := h.len; omega
  have lb := law_bad_eq hb hl S
  have sp := split_10 (l := t) (by have := h.len; omega) S
  have eqt : oEq (.str (mkS t)) (.str (mkS [])) S = .ok (.bl (decide (t = []))) S := by
    have k : ∀ l : List Nat, (∀ c ∈ l, c < 128) → PyData.strOk (mkS l) = true := fun l h => Asci.strOk (x := mkS l) (by unfold Asci; rw [mkS_list]; exact h)
    have tw : (mkS t == mkS []) = decide (t = []) := by rw [Bool.eq_iff_iff, beq_iff_eq, decide_eq_true_eq, mkS_inj]
    rw [oEq_str (k t h.asc) (k [] (by simp)), tw]
  by_cases z : t = []
  · subst z
    simp only [decide_true] at eqt
    have lb : F_law_bad [.lst []] S = .ok r S := lb
    simp [F_law_due, e_fnD, B_law_due, q0, eqt, k0, lb]
  · have le : lns t = splitL 10 t := if_neg z
    rw [le] at lb
    simp only [z, decide_false] at eqt
    simp [F_law_due, e_fnD, B_law_due, q0, eqt, q10, sp, dTM, lb]
theorem eq_one (e : Nat) (S : Sto) : oEq (.lst [.int e]) (.lst [.int e]) S = .ok (.bl true) S := by
  simp [oEq, eqD, toPy, toPys, SeqAt.shaped, PyData.canLay0, PyData.canLayAll0, PyData.depth, PyData.depthAll, PyData.eqv, PyData.eqvAll]
theorem ne_one (e : Nat) (S : Sto) : oNe (.lst [.int e]) (.lst []) S = .ok (.bl true) S := by
  simp [oNe, eqD, toPy, toPys, SeqAt.shaped, PyData.canLay0, PyData.canLayAll0, PyData.depth, PyData.depthAll, PyData.eqv, PyData.eqvAll]
theorem right_g {t : List Nat} (h : Tx t) (S : Sto) : ∃ S', F_law_right [.str (mkS t)] S = .ok (.bl true) S' ∧ Keep S S' := by
  have k0 : 0 ≤ cap := Nat.zero_le _
  have k1 : 1 ≤ cap := by decide
  have k2 : 2 ≤ cap := by decide
  rcases parse_g h S with ⟨e, S', e1, kp, bi⟩ | ⟨p, S', e1, kp, ok, hm, tx, bi⟩
  · refine ⟨S', ?_, kp⟩
    have du := due_eq h bi S'
    have hl : List.lookup (Str.ofString "value") [(Str.ofString "value", D.int (e : Nat))] = some (.int e) := by simp [List.lookup]
    simp [F_law_right, e_fnD, B_law_right, k2, gTL, gsCons, gsNil, sTry, e1, BL, cl1, H_law_right_1, dXf, hl, k1, du, k0, ne_one, eq_one]
  · have du := due_eq h bi S'
    have ip := is_plan_eq ok (by decide) S'
    rw [decide_eq_true hm] at ip
    obtain ⟨j, S2, e2, hv⟩ := law_lines_eq 8 6 0 p ok (by omega) (by omega) (by omega) S'
    obtain ⟨R2, rfl⟩ := hv.pre
    have e2 : F_law_lines 8 [.tup (trsD p), .int 0] S' = .ok (.own j) (S' ++ R2) := e2
    have sum : ((trsL 0 p).map fun p => p.length).sum + (trsL 0 p).length ≤ 90000 := by
      have hj := lns_join t
      rw [← tx] at hj
      have hl := h.len
      rw [← hj] at hl
      have sm : ∀ ws : List (List Nat), ((ws.map fun p => p.length).sum + ws.length) = (ws.map fun p => p.length + 1).sum := fun ws => by
        induction ws with
        | nil => rfl
        | cons a r ih => simp at ih ⊢; omega
      rw [sm]
      cases q : trsL 0 p with
      | nil => simp
      | cons a r =>
        rw [q, joinL_len] at hl
        simp only [List.map_cons, List.sum_cons]
        omega
    have jn := join_10 (trsL 0 p) hv.at_ sum
    rw [tx, lns_join] at jn
    have eqt : oEq (.str (mkS t)) (.str (mkS t)) (S' ++ R2) = .ok (.bl true) (S' ++ R2) := by
      have k : PyData.strOk (mkS t) = true := Asci.strOk (x := mkS t) (by unfold Asci; rw [mkS_list]; exact h.asc)
      rw [oEq_str k k]
      simp
    have n0 : oNe (.lst []) (.lst []) S' = .ok (.bl false) S' := rfl
    refine ⟨S' ++ R2, ?_, kp.trans .app⟩
    simp [F_law_right, e_fnD, B_law_right, k2, gTL, gsCons, gsNil, sTry, e1, du, k0, n0, DE.isNon, ip, e2, q10, jn, eqt]
end G

set_option maxHeartbeats 4000000
namespace G
open PySem L2 DE
def evS (e : Ev) : Prop := ∃ q, toPy e.d = some q ∧ q.shown.length ≤ 250
def evK (e : Ev) : Bool := match toPy e.d with
  | some q => decide (q.shown.length ≤ 250)
  | none => false
theorem evS_of {e : Ev} (h : evK e = true) : evS e := by
  unfold evK at h
  cases q : toPy e.d with
  | none => rw [q] at h; cases h
  | some p => rw [q] at h; exact ⟨p, q, of_decide_eq_true h⟩
mutual
def Tr.sm : Tr → Prop
  | .ev e => evS e ∧ e.txt.length ≤ 200
  | .rep _ p => trsSm p
  | .try_ p => trsSm p
  | .each _ p => trsSm p
  | .if_ _ _ p q => trsSm p ∧ trsSm q
def trsSm : List Tr → Prop
  | [] => True
  | t :: r => t.sm ∧ trsSm r
end
end G

set_option maxHeartbeats 4000000
namespace G
open PySem L2 DE
theorem ia_int (x : Int) (S : Sto) : oIntA [.int x] S = .ok (.int x) S := rfl
/-! ### draws -/
def Upd (k : Nat) (S S' : Sto) : Prop := S'.length = S.length ∧ ∀ j, j ≠ k → S'[j]? = S[j]?
theorem Upd.refl {k : Nat} {S : Sto} : Upd k S S := ⟨rfl, fun _ _ => rfl⟩
theorem Upd.trans {k : Nat} {S S1 S2 : Sto} (a : Upd k S S1) (b : Upd k S1 S2) : Upd k S S2 := ⟨b.1.trans a.1, fun j h => (b.2 j h).trans (a.2 j h)⟩
theorem Upd.set {k : Nat} {S : Sto} {d : D} : Upd k S (S.set k d) := ⟨by simp, fun j h => by rw [List.getElem?_set_ne (Ne.symm h)]⟩
theorem take_ok {k : Nat} {S : Sto} {m : Int} (h : PoolAt k S) (h0 : 0 < m) (h1 : m < 1073741824) : ∃ r x y, F_law_take [.own k, .int m] S = .ok (.int r) (S.set k (.lst [.int x, .int y])) ∧ 0 ≤ r ∧ r < m := by
  obtain ⟨x, y, hk⟩ := h
  have hl : k < S.length := (List.getElem?_eq_some_iff.mp hk).1
  have i0 : oIx (.own k) (.int 0) S = .ok (.int x) S := by simp [oIx, seqOf, hk, atI, ixN]
  have i1 : oIx (.own k) (.int 1) S = .ok (.int y) S := by simp [oIx, seqOf, hk, atI, ixN]
  by_cases hx : 0 < x
  · refine ⟨x % m, x / m, y, ?_, Int.emod_nonneg _ (by omega), Int.emod_lt_of_pos _ h0⟩
    simp [ia_int, F_law_take, e_fnD, B_law_take, i0, hx, oMod_int h0, oFDiv_int h0 h1, sSetIx, hk, ixN]
  · have hz1 := Int.emod_nonneg (y * 48271 + 11) (show (2147483647 : Int) ≠ 0 by decide)
    have hz2 := Int.emod_lt_of_pos (y * 48271 + 11) (show (0 : Int) < 2147483647 by decide)
    generalize hz : (y * 48271 + 11) % 2147483647 = z at hz1 hz2
    refine ⟨z * z % 2147483629 / 64 % m, x, z, ?_, Int.emod_nonneg _ (by omega), Int.emod_lt_of_pos _ h0⟩
    have hk2 : (S.set k (.lst [.int x, .int z]))[k]? = some (.lst [.int x, .int z]) := by simp [hl]
    have i2 : oIx (.own k) (.int 1) (S.set k (.lst [.int x, .int z])) = .ok (.int z) (S.set k (.lst [.int x, .int z])) := by simp [oIx, seqOf, hl, atI, ixN]
    have m1 : oMul (.int y) (.int 48271) S = .ok (.int (y * 48271)) S := oMul_int (.inr (by decide))
    have m2 : oMul (.int z) (.int z) (S.set k (.lst [.int x, .int z])) = .ok (.int (z * z)) (S.set k (.lst [.int x, .int z])) := oMul_int (.inr ⟨by unfold lim64; omega, by unfold lim64; omega⟩)
    simp [ia_int, F_law_take, e_fnD, B_law_take, i0, hx, oMod_int h0, sSetIx, hk, ixN, i1, m1, oMod_int (show (0 : Int) < 2147483647 by decide), hz, i2, m2, oMod_int (show (0 : Int) < 2147483629 by decide), oFDiv_int (show (0 : Int) < 64 by decide) (by decide)]
theorem tk {k : Nat} {S : Sto} (m : Int) (h : PoolAt k S) (h0 : 0 < m) (h1 : m < 1073741824) : ∃ r S', F_law_take [.own k, .int m] S = .ok (.int r) S' ∧ 0 ≤ r ∧ r < m ∧ PoolAt k S' ∧ Upd k S S' := by
  obtain ⟨r, x, y, e, a, b⟩ := take_ok h h0 h1
  obtain ⟨_, _, hk⟩ := h
  exact ⟨r, _, e, a, b, ⟨x, y, by simp [(List.getElem?_eq_some_iff.mp hk).1]⟩, .set⟩
/-- an item of a list at a place that is in it -/
theorem ixl (ds : List D) (r : Int) (S : Sto) (h0 : 0 ≤ r) (h1 : r < ds.length) : ∃ v, v ∈ ds ∧ oIx (.lst ds) (.int r) S = .ok v S := by
  have hl : r.toNat < ds.length := by omega
  refine ⟨ds[r.toNat], List.getElem_mem hl, ?_⟩
  simp [oIx, seqOf, atI, ixN, h0, h1, hl]
theorem pool_ok {ns : List Int} {k : Nat} (S : Sto) (hk : k < 64) : ∃ x y, F_law_pool [.scr (ns.map .int), .int k] S = .ok (.own S.length) (S ++ [.lst [.int x, .int y]]) := by
  have hln : oLen [.scr (ns.map D.int)] S = .ok (.int ns.length) S := by simp [oLen, seqOf]
  have a1 : oMul (.int 7919) (.int k) S = .ok (.int (7919 * k)) S := oMul_int (.inl (by decide))
  have a2 : oMul (.int (7919 * k)) (.int k) S = .ok (.int (7919 * k * k)) S := oMul_int (.inr ⟨by unfold lim64; omega, by unfold lim64; omega⟩)
  have a3 : ∀ i : Int, oMul (.int i) (.int 48271) S = .ok (.int (i * 48271)) S := fun i => oMul_int (.inr (by decide))
  have b1 : ∀ i : Int, oMod (.int i) (.int 2147483629) S = .ok (.int (i % 2147483629)) S := fun i => oMod_int (by decide)
  have b2 : ∀ i : Int, oMod (.int i) (.int 2147483647) S = .ok (.int (i % 2147483647)) S := fun i => oMod_int (by decide)
  have a4 : ∀ i : Int, oMul (.int (i % 2147483647)) (.int (i % 2147483647)) S = .ok (.int (i % 2147483647 * (i % 2147483647))) S := fun i => oMul_int (.inr ⟨by have := Int.emod_nonneg i (show (2147483647 : Int) ≠ 0 by decide); unfold lim64; omega, by have := Int.emod_lt_of_pos i (show (0 : Int) < 2147483647 by decide); unfold lim64; omega⟩)
  have b3 : ∀ i : Int, oMod (.int i) (.int 2147483587) S = .ok (.int (i % 2147483587)) S := fun i => oMod_int (by decide)
  have pw : oPow (.int 10) (.int 18) S = .ok (.int 1000000000000000000) S := rfl
  have hc2 : 2 ≤ cap := by decide
  by_cases h : k < ns.length
  · have h' : (k : Int) < ns.length := by omega
    have hi : oIx (.scr (ns.map D.int)) (.int k) S = .ok (.int ns[k]) S := by simp [oIx, seqOf, atI, ixN, h]
    by_cases z : 1000000000000000000 ≤ ns[k]
    · have z1 : (ns[k] < 1000000000000000000) = False := eq_false (by omega)
      exact ⟨_, _, by simp [ia_int, F_law_pool, e_fnD, B_law_pool, hln, h, hi, a1, a2, a3, a4, b1, b2, b3, z, hc2]; exact ⟨rfl, rfl⟩⟩
    · have z1 : (ns[k] < 1000000000000000000) = True := eq_true (by omega)
      exact ⟨_, _, by simp [ia_int, F_law_pool, e_fnD, B_law_pool, hln, h, hi, a1, a2, a3, a4, b1, b2, b3, z, hc2]; exact ⟨rfl, rfl⟩⟩
  · have h' : ¬ (k : Int) < ns.length := by omega
    exact ⟨_, _, by simp [ia_int, F_law_pool, e_fnD, B_law_pool, hln, h, a1, a2, a3, a4, b1, b2, b3, hc2]; exact ⟨rfl, rfl⟩⟩
def zSp : MS := (sPar 2 3 (aCons (dBin oIx (dLst (aCons (dC (.str "ann")) (aCons (dC (.str "bob")) (aCons (dC (.str "h")) (aCons (dC (.str "zed")) aNil))))) (dCall 2 F_law_take [] (aCons (dVar 0) (aCons (dC (.int 4)) aNil)))) (aCons (dBin oIx (dLst (aCons (dC (.str "k")) (aCons (dC (.str "l")) aNil))) (dCall 2 F_law_take [] (aCons (dVar 0) (aCons (dC (.int 2)) aNil)))) aNil)))
def zEv : MS :=     (sSeq (sAsg (dLst (aCons (dTup (aCons (dC (.str "write")) (aCons (dVar 2) (aCons (dVar 3) (aCons (dBin oIx (dLst (aCons (dC (.str "x")) (aCons (dC (.str "a b")) (aCons (dC (.str "")) (aCons (dC (.str " \"\\ ")) aNil))))) (dCall 2 F_law_take [] (aCons (dVar 0) (aCons (dC (.int 4)) aNil)))) aNil))))) (aCons (dTup (aCons (dC (.str "delete")) (aCons (dVar 2) (aCons (dVar 3) aNil)))) aNil))) (gN 5))
    (sSeq (sAsg (dBin oAdd (dVar 5) (dLst (aCons (dTup (aCons (dC (.str "save")) (aCons (dVar 2) aNil))) (aCons (dTup (aCons (dC (.str "drop")) (aCons (dVar 2) (aCons (dVar 3) aNil)))) (aCons (dTup (aCons (dC (.str "pass")) (aCons (dVar 2) (aCons (dBin oAdd (dC (.int 1)) (dCall 2 F_law_take [] (aCons (dVar 0) (aCons (dC (.int 9)) aNil)))) aNil)))) aNil))))) (gN 5))
    (sSeq (sAsg (dBin oAdd (dVar 5) (dLst (aCons (dTup (aCons (dC (.str "send")) (aCons (dVar 2) (aCons (dC (.str "bob")) (aCons (dBin oIx (dLst (aCons (dC .non) (aCons (dTup aNil) (aCons (dTup (aCons (dC (.str "k")) (aCons (dC (.str "l")) aNil))) (aCons (dTup (aCons (dC (.str "k")) aNil)) aNil))))) (dCall 2 F_law_take [] (aCons (dVar 0) (aCons (dC (.int 4)) aNil)))) aNil))))) aNil))) (gN 5))
    (sRet (dTup (aCons (dC (.str "do")) (aCons (dBin oIx (dBin oAdd (dVar 5) (dLst (aCons (dTup (aCons (dC (.str "take")) (aCons (dC (.str "bob")) (aCons (dVar 2) (aCons (dCall 2 F_law_take [] (aCons (dVar 0) (aCons (dC (.int 3)) aNil))) aNil))))) (aCons (dTup (aCons (dC (.str "open")) (aCons (dC (.str "h")) (aCons (dC (.str "bob")) aNil)))) aNil)))) (dCall 2 F_law_take [] (aCons (dVar 0) (aCons (dC (.int 8)) aNil)))) aNil)))))))
def zRest (φ_law_step φ_law_plan : FD) : MS :=     (sSeq (sAsg (dCall 3 φ_law_plan [] (aCons (dVar 0) (aCons (dBin oSub (dVar 1) (dC (.int 1))) (aCons (dC (.int 1)) aNil)))) (gN 6))
    (sSeq (sIf (dTest (dBin oLt (dVar 4) (dC (.int 8))))
    (sRet (dBin oIx (dLst (aCons (dTup (aCons (dC (.str "repeat")) (aCons (dBin oAdd (dC (.int 1)) (dCall 2 F_law_take [] (aCons (dVar 0) (aCons (dC (.int 3)) aNil)))) (aCons (dVar 6) aNil)))) (aCons (dTup (aCons (dC (.str "try")) (aCons (dVar 6) aNil))) aNil))) (dBin oSub (dVar 4) (dC (.int 6)))))
    sNil)
    (sSeq (sIf (dTest (dBin oEq (dVar 4) (dC (.int 8))))
    (sRet (dTup (aCons (dC (.str "try")) (aCons (dVar 6) aNil))))
    sNil)
    (sSeq (sIf (dTest (dBin oEq (dVar 4) (dC (.int 9))))
    (sRet (dTup (aCons (dC (.str "each")) (aCons (dBin oIx (dLst (aCons (dC (.str "h")) (aCons (dC (.str "ann")) (aCons (dC (.str "g")) aNil)))) (dCall 2 F_law_take [] (aCons (dVar 0) (aCons (dC (.int 3)) aNil)))) (aCons (dVar 6) aNil)))))
    sNil)
    (sRet (dTup (aCons (dC (.str "if")) (aCons (dVar 2) (aCons (dVar 3) (aCons (dVar 6) (aCons (dCall 3 φ_law_plan [] (aCons (dVar 0) (aCons (dBin oSub (dVar 1) (dC (.int 1))) (aCons (dC (.int 0)) aNil)))) aNil)))))))))))
theorem law_step_split (φ_law_step φ_law_plan : FD) : B_law_step φ_law_step φ_law_plan = sSeq zSp (sSeq (sAsg (dCall 2 F_law_take [] (aCons (dVar 0) (aCons (dC (.int 11)) aNil))) (gN 4)) (sSeq (sIf (dOrT (dTest (dBin oLt (dVar 4) (dC (.int 6)))) (dTest (dBin oEq (dVar 1) (dC (.int 0))))) zEv sNil) (zRest φ_law_step φ_law_plan))) := rfl
end G

set_option maxHeartbeats 4000000
namespace G
open PySem L2 DE
def PLS : List (List Nat) := [[97, 110, 110], [98, 111, 98], [104], [122, 101, 100]]
def KLS : List (List Nat) := [[107], [108]]
def VLS : List (List Nat) := [[120], [97, 32, 98], [], [32, 34, 92, 32]]
def GLS : List (List Nat) := [[104], [97, 110, 110], [103]]
def cDel : List Nat := [100, 101, 108, 101, 116, 101]
def cSav : List Nat := [115, 97, 118, 101]
def cDrp : List Nat := [100, 114, 111, 112]
def cOpn : List Nat := [111, 112, 101, 110]
def cBob : List Nat := [98, 111, 98]
theorem qDel : Str.ofString "delete" = mkS cDel := by decide +kernel
theorem qSav : Str.ofString "save" = mkS cSav := by decide +kernel
theorem qDrp : Str.ofString "drop" = mkS cDrp := by decide +kernel
theorem qOpn : Str.ofString "open" = mkS cOpn := by decide +kernel
theorem qAnn : Str.ofString "ann" = mkS [97, 110, 110] := by decide +kernel
theorem qBob : Str.ofString "bob" = mkS cBob := by decide +kernel
theorem qHh : Str.ofString "h" = mkS [104] := by decide +kernel
theorem qZed : Str.ofString "zed" = mkS [122, 101, 100] := by decide +kernel
theorem qKk : Str.ofString "k" = mkS [107] := by decide +kernel
theorem qLl : Str.ofString "l" = mkS [108] := by decide +kernel
theorem qXx : Str.ofString "x" = mkS [120] := by decide +kernel
theorem qAB : Str.ofString "a b" = mkS [97, 32, 98] := by decide +kernel
theorem qVq : Str.ofString " \"\\ " = mkS [32, 34, 92, 32] := by decide +kernel
theorem qGg : Str.ofString "g" = mkS [103] := by decide +kernel
theorem pls_ok : ∀ p ∈ PLS, okW p := show ∀ p ∈ PLS, wS (mkS p) = true by decide +kernel
theorem kls_ok : ∀ p ∈ KLS, okW p := show ∀ p ∈ KLS, wS (mkS p) = true by decide +kernel
theorem gls_ok : ∀ p ∈ GLS, okW p := show ∀ p ∈ GLS, wS (mkS p) = true by decide +kernel
theorem vls_ok : ∀ p ∈ VLS, okV p := show ∀ p ∈ VLS, vS (mkS p) = true by decide +kernel
theorem bob_ok : okW cBob := show wS (mkS cBob) = true by decide +kernel
/-- an event that the law draws -/
def EvD (d : D) : Prop := ∃ e : Ev, e.d = d ∧ (e.ok ∧ e.txt.length ≤ 200) ∧ evS e
theorem ev_write {p q v : List Nat} (hp : p ∈ PLS) (hq : q ∈ KLS) (hv : v ∈ VLS) : EvD (.tup [.str (mkS cWr), .str (mkS p), .str (mkS q), .str (mkS v)]) := by
  have ok : (Ev.write p q v).ok := ⟨pls_ok p hp, kls_ok q hq, vls_ok v hv⟩
  refine ⟨.write p q v, rfl, ⟨ok, Nat.le_trans ((txt_len ok).2 ⟨p, q, v, rfl⟩) (by decide)⟩, evS_of ?_⟩
  have : ∀ p ∈ PLS, ∀ q ∈ KLS, ∀ v ∈ VLS, evK (.write p q v) = true := by decide +kernel
  exact this p hp q hq v hv
theorem ev_3 (a : List Nat) (ha : a ∈ [cDel, cDrp]) {p q : List Nat} (hp : p ∈ PLS) (hq : q ∈ KLS) : EvD (.tup [.str (mkS a), .str (mkS p), .str (mkS q)]) := by
  have h1 : ∀ a ∈ [cDel, cDrp], ∀ p ∈ PLS, ∀ q ∈ KLS, evB (tupS [a, p, q]) = true ∧ evK (.words [a, p, q]) = true ∧ (Ev.words [a, p, q]).txt.length ≤ 200 ∧ wS (mkS a) = true ∧ (a ≠ cWr ∧ a ≠ cSe ∧ a ≠ cTa ∧ a ≠ cPa) := by decide +kernel
  obtain ⟨e1, e2, e3, e4, e5⟩ := h1 a ha p hp q hq
  refine ⟨.words [a, p, q], rfl, ⟨⟨fun w hw => ?_, ⟨a, p, [q], rfl, e5, by simp⟩, e1⟩, e3⟩, evS_of e2⟩
  simp only [List.mem_cons, List.not_mem_nil, or_false] at hw
  rcases hw with rfl | rfl | rfl
  · exact e4
  · exact pls_ok _ hp
  · exact kls_ok _ hq
theorem ev_save {p : List Nat} (hp : p ∈ PLS) : EvD (.tup [.str (mkS cSav), .str (mkS p)]) := by
  have h1 : ∀ p ∈ PLS, evB (tupS [cSav, p]) = true ∧ evK (.words [cSav, p]) = true ∧ (Ev.words [cSav, p]).txt.length ≤ 200 ∧ wS (mkS cSav) = true ∧ (cSav ≠ cWr ∧ cSav ≠ cSe ∧ cSav ≠ cTa ∧ cSav ≠ cPa) := by decide +kernel
  obtain ⟨e1, e2, e3, e4, e5⟩ := h1 p hp
  refine ⟨.words [cSav, p], rfl, ⟨⟨fun w hw => ?_, ⟨cSav, p, [], rfl, e5, by simp⟩, e1⟩, e3⟩, evS_of e2⟩
  simp only [List.mem_cons, List.not_mem_nil, or_false] at hw
  rcases hw with rfl | rfl
  · exact e4
  · exact pls_ok _ hp
theorem ev_open : EvD (.tup [.str (mkS cOpn), .str (mkS [104]), .str (mkS cBob)]) := by
  have h1 : evB (tupS [cOpn, [104], cBob]) = true ∧ evK (.words [cOpn, [104], cBob]) = true ∧ (Ev.words [cOpn, [104], cBob]).txt.length ≤ 200 ∧ wS (mkS cOpn) = true ∧ wS (mkS [104]) = true ∧ (cOpn ≠ cWr ∧ cOpn ≠ cSe ∧ cOpn ≠ cTa ∧ cOpn ≠ cPa) := by decide +kernel
  obtain ⟨e1, e2, e3, e4, e6, e5⟩ := h1
  refine ⟨.words [cOpn, [104], cBob], rfl, ⟨⟨fun w hw => ?_, ⟨cOpn, [104], [cBob], rfl, e5, by simp⟩, e1⟩, e3⟩, evS_of e2⟩
  simp only [List.mem_cons, List.not_mem_nil, or_false] at hw
  rcases hw with rfl | rfl | rfl
  · exact e4
  · exact e6
  · exact bob_ok
theorem parts_len {ps : List (List Nat)} (h : ∀ p ∈ ps, p.length ≤ 16) (hl : ps.length ≤ 6) : (joinL 32 ps).length ≤ 200 := by
  have := joinL_le ps
  have : ∀ qs : List (List Nat), (∀ p ∈ qs, p.length ≤ 16) → (qs.map fun p => p.length).sum ≤ 16 * qs.length := fun qs h => by
    induction qs with
    | nil => simp
    | cons a r ih =>
      have := ih fun x hx => h x (List.mem_cons_of_mem _ hx)
      have := h a List.mem_cons_self
      simp only [List.map_cons, List.sum_cons, List.length_cons]; omega
  have := this ps h
  omega
theorem pls_len : ∀ p ∈ PLS, p.length ≤ 16 := by decide
theorem ev_pass {p : List Nat} {n : Nat} (hp : p ∈ PLS) (hn : n < 9) : EvD (.tup [.str (mkS cPa), .str (mkS p), .int (1 + (n : Int))]) := by
  have h1 : ∀ p ∈ PLS, ∀ n < 9, evK (.pass p (1 + n)) = true := by decide +kernel
  have lp := pls_len p hp
  have ln := numL_16 (n := 1 + n) (by omega)
  refine ⟨.pass p (1 + n), by simp [Ev.d], ⟨⟨pls_ok p hp, by omega, by omega⟩, parts_len (ps := [cPa, p, TL.numL (1 + n)]) (fun x hx => ?_) (by simp)⟩, evS_of (h1 p hp n hn)⟩
  simp only [List.mem_cons, List.not_mem_nil, or_false] at hx
  rcases hx with rfl | rfl | rfl
  · decide
  · exact lp
  · exact ln
theorem ev_take {p : List Nat} {n : Nat} (hp : p ∈ PLS) (hn : n < 3) : EvD (.tup [.str (mkS cTa), .str (mkS cBob), .str (mkS p), .int n]) := by
  have h1 : ∀ p ∈ PLS, ∀ n < 3, evK (.take cBob p n) = true := by decide +kernel
  have lp := pls_len p hp
  have ln := numL_16 (n := n) (by omega)
  refine ⟨.take cBob p n, rfl, ⟨⟨bob_ok, pls_ok p hp, by omega⟩, parts_len (ps := [cTa, cBob, p, TL.numL n]) (fun x hx => ?_) (by simp)⟩, evS_of (h1 p hp n hn)⟩
  simp only [List.mem_cons, List.not_mem_nil, or_false] at hx
  rcases hx with rfl | rfl | rfl | rfl
  · decide
  · decide
  · exact lp
  · exact ln
def SKS : List D := [.non, .tup [], .tup [.str (mkS [107]), .str (mkS [108])], .tup [.str (mkS [107])]]
theorem ev_send {p : List Nat} {d : D} (hp : p ∈ PLS) (hd : d ∈ SKS) : EvD (.tup [.str (mkS cSe), .str (mkS p), .str (mkS cBob), d]) := by
  have lp := pls_len p hp
  have gen : ∀ ks : List (List Nat), (∀ k ∈ ks, okW k) → Asc (ks.map mkS) → ks.length ≤ 2 → (∀ p ∈ PLS, evK (.send p cBob ks) = true) → EvD (.tup [.str (mkS cSe), .str (mkS p), .str (mkS cBob), tupS ks]) := fun ks h1 h2 h3 h4 => by
    refine ⟨.send p cBob ks, rfl, ⟨⟨pls_ok p hp, bob_ok, h1, h2, by omega⟩, parts_len (ps := cSe :: p :: cBob :: (if ks = [] then [[]] else ks)) (fun x hx => ?_) ?_⟩, evS_of (h4 p hp)⟩
    · simp only [List.mem_cons] at hx
      rcases hx with rfl | rfl | rfl | hx
      · decide
      · exact lp
      · decide
      · split at hx
        · simp only [List.mem_cons, List.not_mem_nil, or_false] at hx
          subst hx; decide
        · exact Nat.le_trans (okW_iff (h1 x hx)).2.1 (by decide)
    · split <;> simp <;> omega
  simp only [SKS, List.mem_cons, List.not_mem_nil, or_false] at hd
  rcases hd with rfl | rfl | rfl | rfl
  · have h1 : ∀ p ∈ PLS, evK (.send0 p cBob) = true := by decide +kernel
    refine ⟨.send0 p cBob, rfl, ⟨⟨pls_ok p hp, bob_ok⟩, parts_len (ps := [cSe, p, cBob, [42]]) (fun x hx => ?_) (by simp)⟩, evS_of (h1 p hp)⟩
    simp only [List.mem_cons, List.not_mem_nil, or_false] at hx
    rcases hx with rfl | rfl | rfl | rfl
    · decide
    · exact lp
    · decide
    · decide
  · exact gen [] (by simp) (by decide +kernel) (by simp) (by decide +kernel)
  · exact gen [[107], [108]] (fun k hk => kls_ok k (by simpa [KLS] using hk)) (by decide +kernel) (by simp) (by decide +kernel)
  · exact gen [[107]] (fun k hk => kls_ok k (by simp at hk; subst hk; decide)) (by decide +kernel) (by simp) (by decide +kernel)
theorem ixm (ls : List (List Nat)) (r : Int) (S : Sto) (h0 : 0 ≤ r) (h1 : r < ls.length) : ∃ l, l ∈ ls ∧ oIx (.lst (Lm ls)) (.int r) S = .ok (.str (mkS l)) S := by
  obtain ⟨v, hv, e⟩ := ixl (Lm ls) r S h0 (by rw [Lm_len]; exact h1)
  obtain ⟨l, hl, rfl⟩ := List.mem_map.mp hv
  exact ⟨l, hl, e⟩
theorem add_ll (xs ys : List D) (S : Sto) (h : xs.length + ys.length ≤ cap) : oAdd (.lst xs) (.lst ys) S = .ok (.lst (xs ++ ys)) S := by simp [oAdd, h]
/-- an event is drawn -/
theorem ev_draw {k : Nat} {S : Sto} {a1 a4 : Option D} {p q : List Nat} (h : PoolAt k S) (hp : p ∈ PLS) (hq : q ∈ KLS) :
    ∃ e S', zEv [some (.own k), a1, some (.str (mkS p)), some (.str (mkS q)), a4, none, none] S = .rt (Tr.ev e).d S' ∧ (e.ok ∧ e.txt.length ≤ 200) ∧ evS e ∧ PoolAt k S' ∧ Upd k S S' := by
  have k0 : 0 ≤ cap := Nat.zero_le _
  have k1 : 1 ≤ cap := by decide
  have k2 : 2 ≤ cap := by decide
  have k3 : 3 ≤ cap := by decide
  have k4 : 4 ≤ cap := by decide
  have k5 : 5 ≤ cap := by decide
  have k6 : 6 ≤ cap := by decide
  have k8 : 8 ≤ cap := by decide
  obtain ⟨r1, S1, e1, l1, u1, h1, w1⟩ := tk 4 h (by decide) (by decide)
  obtain ⟨v, hv, x1⟩ := ixm VLS r1 S1 l1 u1
  obtain ⟨r2, S2, e2, l2, u2, h2, w2⟩ := tk 9 h1 (by decide) (by decide)
  obtain ⟨r3, S3, e3, l3, u3, h3, w3⟩ := tk 4 h2 (by decide) (by decide)
  obtain ⟨ks, hks, x3⟩ := ixl SKS r3 S3 l3 u3
  obtain ⟨r4, S4, e4, l4, u4, h4, w4⟩ := tk 3 h3 (by decide) (by decide)
  obtain ⟨r5, S5, e5, l5, u5, h5, w5⟩ := tk 8 h4 (by decide) (by decide)
  obtain ⟨n2, rfl⟩ := Int.eq_ofNat_of_zero_le l2
  obtain ⟨n4, rfl⟩ := Int.eq_ofNat_of_zero_le l4
  obtain ⟨d, hd, x5⟩ := ixl [.tup [.str (mkS cWr), .str (mkS p), .str (mkS q), .str (mkS v)], .tup [.str (mkS cDel), .str (mkS p), .str (mkS q)], .tup [.str (mkS cSav), .str (mkS p)], .tup [.str (mkS cDrp), .str (mkS p), .str (mkS q)], .tup [.str (mkS cPa), .str (mkS p), .int (1 + (n2 : Int))], .tup [.str (mkS cSe), .str (mkS p), .str (mkS cBob), ks], .tup [.str (mkS cTa), .str (mkS cBob), .str (mkS p), .int n4], .tup [.str (mkS cOpn), .str (mkS [104]), .str (mkS cBob)]] r5 S5 l5 u5
  have ed : EvD d := by
    simp only [List.mem_cons, List.not_mem_nil, or_false] at hd
    rcases hd with rfl | rfl | rfl | rfl | rfl | rfl | rfl | rfl
    · exact ev_write hp hq hv
    · exact ev_3 cDel (by simp) hp hq
    · exact ev_save hp
    · exact ev_3 cDrp (by simp) hp hq
    · exact ev_pass hp (by omega)
    · exact ev_send hp hks
    · exact ev_take hp (by omega)
    · exact ev_open
  obtain ⟨e, rfl, ok, sm⟩ := ed
  simp only [Lm, VLS, List.map_cons, List.map_nil] at x1
  simp only [SKS] at x3
  refine ⟨e, S5, ?_, ok, sm, h5, (((w1.trans w2).trans w3).trans w4).trans w5⟩
  generalize hE : e.d = E at x5 ⊢
  have hT : (Tr.ev e).d = .tup [.str (mkS cDo), E] := by rw [← hE]; rfl
  rw [hT]
  simp [zEv, e1, qWr, qXx, qAB, q0, qVq, x1, qDel, k2, k3, k4, qSav, qDrp, qPa, e2, add_ll, k5, qSe, qBob, k0, k1, qKk, qLl, e3, x3, k6, qTa, e4, qOpn, qHh, k8, e5, x5, qDo]
end G

set_option maxHeartbeats 4000000
namespace G
open PySem L2 DE
/-- how many steps may be drawn -/
def mB : Nat → Nat
  | 0 => 1
  | d + 1 => 1 + 5 * mB d
def Drn (d : Nat) (t : Tr) : Prop := t.ok d ∧ t.sm ∧ t.many ≤ mB d
def StepP (φ : FD) (d : Nat) : Prop := ∀ k S, PoolAt k S → ∃ t S', φ [.own k, .int (d : Nat)] S = .ok t.d S' ∧ Drn d t ∧ PoolAt k S' ∧ Upd k S S'
def PlanP (φ : FD) (d : Nat) : Prop := ∀ k S (l : Nat), l ≤ 1 → PoolAt k S → ∃ p S', φ [.own k, .int (d : Nat), .int (l : Nat)] S = .ok (.tup (trsD p)) S' ∧ trsOk (d + 1) p ∧ trsSm p ∧ trsN p ≤ (l + 2) * mB d ∧ l ≤ p.length ∧ PoolAt k S' ∧ Upd k S S'
theorem trees_of {d : Nat} : ∀ vs : List D, (∀ v ∈ vs, ∃ t, v = t.d ∧ Drn d t) → ∃ p, vs = trsD p ∧ trsOk (d + 1) p ∧ trsSm p ∧ trsN p ≤ vs.length * mB d ∧ p.length = vs.length
  | [], _ => ⟨[], rfl, trivial, trivial, by simp [trsN], rfl⟩
  | v :: vs, h => by
    obtain ⟨t, rfl, ok, sm, mm⟩ := h v List.mem_cons_self
    obtain ⟨p, rfl, ok2, sm2, m2, l2⟩ := trees_of vs fun x hx => h x (List.mem_cons_of_mem _ hx)
    refine ⟨t :: p, rfl, by simp only [trsOk]; exact ⟨ok, ok2⟩, by simp only [trsSm]; exact ⟨sm, sm2⟩, ?_, by simp [l2]⟩
    simp only [trsN, List.length_cons, Nat.succ_mul]
    omega
theorem plan_of_step {φs φp : FD} {d : Nat} (h : StepP φs d) : PlanP (fnD 4 (B_law_plan φs φp)) d := by
  intro k S l hl hP
  obtain ⟨r, S1, e1, l1, u1, h1, w1⟩ := tk 3 hP (by decide) (by decide)
  obtain ⟨n, rfl⟩ := Int.eq_ofNat_of_zero_le l1
  have ln : ((l : Int) + (n : Int)).toNat = l + n := by omega
  have rl : (rangeD 0 (l + n)).length = l + n := by simp [rangeD]
  have rc : (rangeD 0 (l + n)).length ≤ cap := by rw [rl]; exact Nat.le_trans (show l + n ≤ 10 by omega) (by decide)
  obtain ⟨vs, S2, e2, hv, hlen, h2, w2⟩ := loopC_inv (own := [3]) (g := gN 3) (t := mYes) (e := dCall 2 φs [] (aCons (dVar 0) (aCons (dVar 1) aNil))) (ρ := [some (.own k), some (.int (d : Nat)), some (.int (l : Nat)), none]) (fun S => PoolAt k S ∧ Upd k S1 S) (fun v => ∃ t, v = t.d ∧ Drn d t) (ds := rangeD 0 (l + n)) (S := S1)
    (fun x hx S ⟨hp, hu⟩ => by
      obtain ⟨t, S', e, dr, hp', hu'⟩ := h k S hp
      exact ⟨_, rfl, rfl, t.d, S', by simp [wipeD, e], ⟨t, rfl, dr⟩, hp', hu.trans hu'⟩) ⟨h1, .refl⟩
  obtain ⟨p, rfl, ok, sm, mm, pl⟩ := trees_of vs hv
  have nl : (trsD p).length ≤ l + 2 := by rw [hlen, rl]; omega
  refine ⟨p, S2, ?_, ok, sm, Nat.le_trans mm (Nat.mul_le_mul_right _ nl), by rw [pl, hlen, rl]; omega, h2, w1.trans w2⟩
  have c1 : -(2 ^ 62 : Int) ≤ (l : Int) + n ∧ (l : Int) + n < 2 ^ 62 := by omega
  have c2 : -4611686018427387904 ≤ (l : Int) + n ∧ (l : Int) + n < 4611686018427387904 := by omega
  have lo : ∀ z, oTuple [.lst z] S2 = .ok (.tup z) S2 := fun z => rfl
  rw [e_fnD]
  simp [B_law_plan, e1, c2, ln, rc, e2, lo]
theorem ixd (ds : List D) (n : Nat) (v : D) (h : ds[n]? = some v) (S : Sto) : oIx (.lst ds) (.int n) S = .ok v S := ix_lst n h S
theorem step_of_plan {φs φp : FD} {d : Nat} (h : ∀ e, d = e + 1 → PlanP φp e) : StepP (fnD 7 (B_law_step φs φp)) d := by
  intro k S hP
  have k2 : 2 ≤ cap := by decide
  have k3 : 3 ≤ cap := by decide
  have k4 : 4 ≤ cap := by decide
  have k5 : 5 ≤ cap := by decide
  obtain ⟨r1, S1, e1, l1, u1, h1, w1⟩ := tk 4 hP (by decide) (by decide)
  obtain ⟨p, hp, x1⟩ := ixm PLS r1 S1 l1 u1
  obtain ⟨r2, S2, e2, l2, u2, h2, w2⟩ := tk 2 h1 (by decide) (by decide)
  obtain ⟨q, hq, x2⟩ := ixm KLS r2 S2 l2 u2
  obtain ⟨r3, S3, e3, l3, u3, h3, w3⟩ := tk 11 h2 (by decide) (by decide)
  obtain ⟨c, rfl⟩ := Int.eq_ofNat_of_zero_le l3
  simp only [Lm, PLS, KLS, List.map_cons, List.map_nil] at x1 x2
  have sp : zSp [some (.own k), some (.int (d : Nat)), none, none, none, none, none] S = .nx [some (.own k), some (.int (d : Nat)), some (.str (mkS p)), some (.str (mkS q)), none, none, none] S2 := by
    have qb : Str.ofString "bob" = mkS [98, 111, 98] := qBob
    simp [zSp, qAnn, qb, qHh, qZed, k4, e1, x1, qKk, qLl, k2, e2, x2]
  have run : ∀ r, (sSeq (sIf (dOrT (dTest (dBin oLt (dVar 4) (dC (.int 6)))) (dTest (dBin oEq (dVar 1) (dC (.int 0))))) zEv sNil) (zRest φs φp)) [some (.own k), some (.int (d : Nat)), some (.str (mkS p)), some (.str (mkS q)), some (.int (c : Nat)), none, none] S3 = r →
      fnD 7 (B_law_step φs φp) [.own k, .int (d : Nat)] S = r.fin := fun r hr => by
    rw [e_fnD, law_step_split]
    show (sSeq zSp _ [some (.own k), some (.int (d : Nat)), none, none, none, none, none] S).fin = _
    rw [e_sSeq, sp, seq_nx, ← hr, e_sSeq, e_sAsg]
    simp only [e_dCall, e_aCons, e_dVar, e_dC, e_aNil, List.getElem?_cons_zero, RE.bind_ok, List.append_nil, List.length_cons, List.length_nil, e3]
    simp [RE.stm, e3]
  have w := (w1.trans w2).trans w3
  by_cases z : c < 6 ∨ d = 0
  · obtain ⟨e, S4, ee, ok, sm, h4, w4⟩ := ev_draw (a1 := some (.int (d : Nat))) (a4 := some (.int (c : Nat))) h3 hp hq
    refine ⟨.ev e, S4, ?_, ⟨by simp only [Tr.ok]; exact ⟨ok.1, by omega⟩, by simp only [Tr.sm]; exact ⟨sm, ok.2⟩, ?_⟩, h4, w.trans w4⟩
    · rw [run (.rt (Tr.ev e).d S4) ?_]
      · rfl
      · rcases z with z | z
        · have z' : (c : Int) < 6 := by omega
          simp [z', ee]
        · subst z
          have ee : zEv [some (.own k), some (.int 0), some (.str (mkS p)), some (.str (mkS q)), some (.int (c : Nat)), none, none] S3 = .rt (Tr.ev e).d S4 := ee
          by_cases z2 : (c : Int) < 6 <;> simp [z2, ee]
    · simp only [Tr.many]
      cases d <;> simp [mB]
  · have z1 : ¬ (c : Int) < 6 := by omega
    cases d with
    | zero => omega
    | succ e =>
      have hh := h e rfl
      have z2 : ¬ ((e : Int) + 1 = 0) := by omega
      have s1 : ((e : Int) + 1 - 1) = e := by omega
      obtain ⟨p1, S4, e4, ok1, sm1, m1, ln1, h4, w4⟩ := hh k S3 1 (by omega) h3
      have ne1 : p1 ≠ [] := fun w => by rw [w] at ln1; simp at ln1
      have e4 : φp [.own k, .int (e : Nat), .int 1] S3 = .ok (.tup (trsD p1)) S4 := e4
      have pk := pls_ok p hp
      have qk := kls_ok q hq
      have five : c = 6 ∨ c = 7 ∨ c = 8 ∨ c = 9 ∨ c = 10 := by omega
      have mm : mB (e + 1) = 1 + 5 * mB e := rfl
      rcases five with rfl | rfl | rfl | rfl | rfl
      · obtain ⟨r5, S5, e5, l5, u5, h5, w5⟩ := tk 3 h4 (by decide) (by decide)
        obtain ⟨n5, rfl⟩ := Int.eq_ofNat_of_zero_le l5
        refine ⟨.rep (1 + n5) p1, S5, ?_, ⟨by simp only [Tr.ok]; exact ⟨by omega, ne1, ok1⟩, by simp only [Tr.sm]; exact sm1, by simp only [Tr.many]; omega⟩, h5, (w.trans w4).trans w5⟩
        rw [run (.rt (Tr.rep (1 + n5) p1).d S5) ?_]
        · rfl
        · have i0 : ∀ a b, oIx (.lst [a, b]) (.int 0) S5 = .ok a S5 := fun _ _ => rfl
          simp [zRest, s1, e4, qRe, k3, e5, qTr, k2, i0, Tr.d, z2]
      · obtain ⟨r5, S5, e5, l5, u5, h5, w5⟩ := tk 3 h4 (by decide) (by decide)
        refine ⟨.try_ p1, S5, ?_, ⟨by simp only [Tr.ok]; exact ⟨ne1, ok1⟩, by simp only [Tr.sm]; exact sm1, by simp only [Tr.many]; omega⟩, h5, (w.trans w4).trans w5⟩
        rw [run (.rt (Tr.try_ p1).d S5) ?_]
        · rfl
        · have i0 : ∀ a b, oIx (.lst [a, b]) (.int 1) S5 = .ok b S5 := fun _ _ => rfl
          simp [zRest, s1, e4, qRe, k3, e5, qTr, k2, i0, Tr.d, z2]
      · refine ⟨.try_ p1, S4, ?_, ⟨by simp only [Tr.ok]; exact ⟨ne1, ok1⟩, by simp only [Tr.sm]; exact sm1, by simp only [Tr.many]; omega⟩, h4, w.trans w4⟩
        rw [run (.rt (Tr.try_ p1).d S4) ?_]
        · rfl
        · simp [zRest, s1, e4, qTr, k2, Tr.d, z2]
      · obtain ⟨r5, S5, e5, l5, u5, h5, w5⟩ := tk 3 h4 (by decide) (by decide)
        obtain ⟨g, hg, x5⟩ := ixm GLS r5 S5 l5 u5
        simp only [Lm, GLS, List.map_cons, List.map_nil] at x5
        refine ⟨.each g p1, S5, ?_, ⟨by simp only [Tr.ok]; exact ⟨gls_ok g hg, ne1, ok1⟩, by simp only [Tr.sm]; exact sm1, by simp only [Tr.many]; omega⟩, h5, (w.trans w4).trans w5⟩
        rw [run (.rt (Tr.each g p1).d S5) ?_]
        · rfl
        · simp [zRest, s1, e4, qEa, qHh, qAnn, qGg, k3, e5, x5, Tr.d, z2]
      · obtain ⟨p2, S5, e5, ok2, sm2, m2, ln2, h5, w5⟩ := hh k S4 0 (by omega) h4
        have e5 : φp [.own k, .int (e : Nat), .int 0] S4 = .ok (.tup (trsD p2)) S5 := e5
        refine ⟨.if_ p q p1 p2, S5, ?_, ⟨by simp only [Tr.ok]; exact ⟨⟨pk, qk⟩, ne1, ok1, ok2⟩, by simp only [Tr.sm]; exact ⟨sm1, sm2⟩, by simp only [Tr.many]; omega⟩, h5, (w.trans w4).trans w5⟩
        rw [run (.rt (Tr.if_ p q p1 p2).d S5) ?_]
        · rfl
        · simp [zRest, s1, e4, qIf, k5, e5, Tr.d, z2]
theorem draws : ∀ n : Nat, (∀ d, 2 * d + 1 ≤ n → StepP (F_law_step n) d) ∧ (∀ d, 2 * d + 2 ≤ n → PlanP (F_law_plan n) d)
  | 0 => ⟨fun d h => by omega, fun d h => by omega⟩
  | n + 1 => ⟨fun d h => step_of_plan fun e he => (draws n).2 e (by omega), fun d h => plan_of_step ((draws n).1 d (by omega))⟩
end G

set_option maxHeartbeats 4000000
namespace G
open PySem L2 DE
/-! ### lines and texts that the law makes -/
def Lc (n : Nat) (l : List Nat) : Prop := l.length ≤ n ∧ ∀ c ∈ l, 32 ≤ c ∧ c ≤ 126
theorem Lc.mono {n m : Nat} {l : List Nat} (h : Lc n l) (k : n ≤ m) : Lc m l := ⟨Nat.le_trans h.1 k, h.2⟩
theorem Lc.free {n : Nat} {l : List Nat} (h : Lc n l) : 10 ∉ l := fun z => by have := h.2 10 z; omega
theorem Lc.gl {n : Nat} {l : List Nat} (h : Lc n l) (hn : n ≤ 900) : As l ∧ l.length ≤ 900 := ⟨⟨Nat.le_trans h.1 (by omega), fun c hc => by have := h.2 c hc; omega⟩, Nat.le_trans h.1 hn⟩
theorem Lc.app {n m : Nat} {a b : List Nat} (h : Lc n a) (k : Lc m b) : Lc (n + m) (a ++ b) := ⟨by rw [List.length_append]; have := h.1; have := k.1; omega, fun c hc => by
  rcases List.mem_append.mp hc with z | z
  · exact h.2 c z
  · exact k.2 c z⟩
theorem Lc.drop {n : Nat} {a : List Nat} (h : Lc n a) (k : Nat) : Lc n (a.drop k) := ⟨by rw [List.length_drop]; have := h.1; omega, fun c hc => h.2 c (List.mem_of_mem_drop hc)⟩
theorem lns_lines {ls : List (List Nat)} (h : ∀ l ∈ ls, 10 ∉ l) : ∀ l ∈ lns (joinL 10 ls), l ∈ ls := by
  intro l hl
  unfold lns at hl
  split at hl
  · cases hl
  · cases ls with
    | nil => rename_i z; exact absurd rfl z
    | cons a r => rw [split_joinL 10 _ (by simp) h] at hl; exact hl
theorem tx_join {ls : List (List Nat)} (h : ∀ l ∈ ls, Lc 300 l) (hl : ls.length ≤ 250) : Tx (joinL 10 ls) := by
  have j := joinL_c (c := 10) ls
  have s : (ls.map fun p => p.length).sum ≤ 300 * ls.length := by
    clear hl j
    induction ls with
    | nil => simp
    | cons a r ih =>
      have := ih fun x hx => h x (List.mem_cons_of_mem _ hx)
      have := (h a List.mem_cons_self).1
      simp only [List.map_cons, List.sum_cons, List.length_cons]
      omega
  refine ⟨by omega, fun c hc => ?_, fun l hl' => (h l (lns_lines (fun x hx => (h x hx).free) l hl')).gl (by decide)⟩
  rcases joinL_mem 10 ls c hc with rfl | ⟨x, hx, hc⟩
  · decide
  · have := (h x hx).2 c hc; omega
theorem lc_nil (n : Nat) : Lc n [] := ⟨by simp, fun _ h => by cases h⟩
theorem joinL_snoc (c : Nat) (ls : List (List Nat)) (h : ls ≠ []) : joinL c (ls ++ [[]]) = joinL c ls ++ [c] := by
  cases ls with
  | nil => exact absurd rfl h
  | cons a r => rw [List.cons_append, joinL_flat, joinL_flat]; simp
theorem joinL_ncons (c : Nat) (ls : List (List Nat)) (h : ls ≠ []) : joinL c ([] :: ls) = c :: joinL c ls := joinL_nil c h
theorem head_prn {t : Tr} {k : Nat} (h : t.ok k) : ∀ c ∈ t.head, 32 ≤ c ∧ c ≤ 126 := by
  have q : ∀ a ∈ HDS, ∀ c ∈ a, 32 ≤ c ∧ c ≤ 126 := by decide
  intro c hc
  cases t with
  | ev e => simp only [Tr.ok] at h; exact txt_prn h.1 c hc
  | rep n p =>
    simp only [Tr.head, List.mem_append, List.mem_cons] at hc
    rcases hc with hc | rfl | hc
    · exact q cRe (by decide) c hc
    · decide
    · exact num_prn n c hc
  | try_ p => exact q cTr (by decide) c hc
  | each w p =>
    simp only [Tr.ok] at h
    simp only [Tr.head, List.mem_append, List.mem_cons] at hc
    rcases hc with hc | rfl | hc
    · exact q cEa (by decide) c hc
    · decide
    · exact h.1.prn c hc
  | if_ a b p r =>
    simp only [Tr.ok] at h
    simp only [Tr.head, List.mem_append, List.mem_cons] at hc
    rcases hc with hc | rfl | hc | rfl | hc
    · exact q cIf (by decide) c hc
    · decide
    · exact h.1.1.prn c hc
    · decide
    · exact h.1.2.prn c hc
theorem ind_prn {d : Nat} : ∀ c ∈ ind d, 32 ≤ c ∧ c ≤ 126 := fun c hc => by
  unfold ind at hc
  rw [List.mem_replicate] at hc
  omega
theorem head200 {t : Tr} {k : Nat} (h : t.ok k) (s : t.sm) : t.head.length ≤ 200 := by
  cases t with
  | ev e => simp only [Tr.sm] at s; exact s.2
  | rep n p =>
    simp only [Tr.ok] at h
    have := numL_16 (n := n) (Nat.le_trans h.1.2 (by decide))
    have l1 : cRe.length = 6 := rfl
    simp only [Tr.head, List.length_append, List.length_cons]; omega
  | try_ p => simp [Tr.head]; decide
  | each w p =>
    simp only [Tr.ok] at h
    have := (okW_iff h.1).2.1
    have l1 : cEa.length = 4 := rfl
    simp only [Tr.head, List.length_append, List.length_cons]; omega
  | if_ a b p q =>
    simp only [Tr.ok] at h
    have := (okW_iff h.1.1).2.1
    have := (okW_iff h.1.2).2.1
    have l1 : cIf.length = 2 := rfl
    simp only [Tr.head, List.length_append, List.length_cons]; omega
theorem lc_head {t : Tr} {k d : Nat} (h : t.ok k) (s : t.sm) (hd : d ≤ 8) : Lc 220 (ind d ++ t.head) := by
  have := ind_len d
  have := head200 h s
  refine ⟨by rw [List.length_append]; omega, fun c hc => ?_⟩
  rcases List.mem_append.mp hc with hc | hc
  · exact ind_prn c hc
  · exact head_prn h c hc
theorem lc_else {d : Nat} (hd : d ≤ 8) : Lc 220 (ind d ++ cEl) := by
  have := ind_len d
  have l2 : cEl.length = 4 := rfl
  refine ⟨by rw [List.length_append]; omega, fun c hc => ?_⟩
  rcases List.mem_append.mp hc with hc | hc
  · exact ind_prn c hc
  · exact (show ∀ c ∈ cEl, 32 ≤ c ∧ c ≤ 126 by decide) c hc
mutual
theorem Tr.lprn : ∀ (t : Tr) (k d : Nat), t.ok k → t.sm → d + k ≤ 7 → ∀ l ∈ t.lines d, Lc 220 l
  | .ev e, k, d, h, sm, hd, l, hl => by
    simp only [Tr.lines, List.mem_cons, List.not_mem_nil, or_false] at hl
    subst hl
    exact lc_head (t := .ev e) h sm (by omega)
  | .rep n p, k, d, h, sm, hd, l, hl => by
    have ho := h
    simp only [Tr.ok] at h
    simp only [Tr.lines, List.mem_cons] at hl
    rcases hl with rfl | hl
    · exact lc_head (t := .rep n p) ho sm (by omega)
    · exact trs_lprn p k (d + 1) h.2.2 (by simpa only [Tr.sm] using sm) (by omega) l hl
  | .try_ p, k, d, h, sm, hd, l, hl => by
    have ho := h
    simp only [Tr.ok] at h
    simp only [Tr.lines, List.mem_cons] at hl
    rcases hl with rfl | hl
    · exact lc_head (t := .try_ p) ho sm (by omega)
    · exact trs_lprn p k (d + 1) h.2 (by simpa only [Tr.sm] using sm) (by omega) l hl
  | .each w p, k, d, h, sm, hd, l, hl => by
    have ho := h
    simp only [Tr.ok] at h
    simp only [Tr.lines, List.mem_cons] at hl
    rcases hl with rfl | hl
    · exact lc_head (t := .each w p) ho sm (by omega)
    · exact trs_lprn p k (d + 1) h.2.2 (by simpa only [Tr.sm] using sm) (by omega) l hl
  | .if_ a b p [], k, d, h, sm, hd, l, hl => by
    have ho := h
    simp only [Tr.ok] at h
    simp only [Tr.lines, List.mem_cons, List.append_nil] at hl
    rcases hl with rfl | hl
    · exact lc_head (t := .if_ a b p []) ho sm (by omega)
    · exact trs_lprn p k (d + 1) h.2.2.1 (by simp only [Tr.sm] at sm; exact sm.1) (by omega) l hl
  | .if_ a b p (t :: r), k, d, h, sm, hd, l, hl => by
    have ho := h
    simp only [Tr.ok] at h
    simp only [Tr.lines, List.mem_cons, List.mem_append] at hl
    rcases hl with rfl | hl | rfl | hl
    · exact lc_head (t := .if_ a b p (t :: r)) ho sm (by omega)
    · exact trs_lprn p k (d + 1) h.2.2.1 (by simp only [Tr.sm] at sm; exact sm.1) (by omega) l hl
    · exact lc_else (by omega)
    · cases k with
      | zero => simp [trsOk] at h
      | succ k =>
        have h4 := h.2.2.2
        simp only [trsOk] at h4
        rcases hl with hl | hl
        · exact Tr.lprn t k (d + 1) h4.1 (by simp only [Tr.sm, trsSm] at sm; exact sm.2.1) (by omega) l hl
        · exact trs_lprn r (k + 1) (d + 1) h4.2 (by simp only [Tr.sm, trsSm] at sm; exact sm.2.2) (by omega) l hl
theorem trs_lprn : ∀ (p : List Tr) (k d : Nat), trsOk k p → trsSm p → d + k ≤ 8 → ∀ l ∈ trsL d p, Lc 220 l
  | [], k, d, h, sm, hd, l, hl => by simp [trsL] at hl
  | t :: r, 0, d, h, sm, hd, l, hl => by simp [trsOk] at h
  | t :: r, k + 1, d, h, sm, hd, l, hl => by
    simp only [trsOk] at h
    simp only [trsL, List.mem_append] at hl
    rcases hl with hl | hl
    · exact Tr.lprn t k d h.1 (by simp only [trsSm] at sm; exact sm.1) (by omega) l hl
    · exact trs_lprn r (k + 1) d h.2 (by simp only [trsSm] at sm; exact sm.2) hd l hl
end
end G

set_option maxHeartbeats 4000000
namespace G
open PySem L2 DE
def O1 : List Str := ["", " ", "else", "try ", "try", " try", "repeat", "repeat 0", "repeat 21", "repeat 20", "repeat 03", "repeat 1 "]
def O2 : List Str := ["each", "each H", "each h ", "each abcdefghi", "each abcdefgh", "if ann", "if ann k ", "if ann k", "if  k"]
def O3 : List Str := ["save", "save ann", "save ann ", "send ann bob ", "send ann bob", "end", "repeat -1", "each  h", "Try"]
def O4 : List Str := ["write ann k \"x", "write ann k \"x\"", "drop ann k"]
theorem odds_lc : ∀ x ∈ O1 ++ O2 ++ O3 ++ O4, (decide (x.cps.toList.length ≤ 20) && x.cps.toList.all fun c => decide (32 ≤ c ∧ c ≤ 126)) = true := by decide +kernel
theorem odd_line {k : Nat} {S : Sto} (h : PoolAt k S) : ∃ l S', F_law_odd_line [.own k] S = .ok (.str (mkS l)) S' ∧ Lc 20 l ∧ PoolAt k S' ∧ Upd k S S' := by
  obtain ⟨r, S1, e1, l1, u1, h1, w1⟩ := tk 33 h (by decide) (by decide)
  obtain ⟨v, hv, x1⟩ := ixl ((O1 ++ O2 ++ O3 ++ O4).map D.str) r S1 l1 (by have : ((O1 ++ O2 ++ O3 ++ O4).map D.str).length = 33 := rfl; rw [this]; exact u1)
  obtain ⟨x, hx, rfl⟩ := List.mem_map.mp hv
  have lc := odds_lc x hx
  simp only [Bool.and_eq_true, decide_eq_true_eq, List.all_eq_true] at lc
  refine ⟨x.cps.toList, S1, ?_, lc, h1, w1⟩
  rw [mkS_of]
  have k12 : 12 ≤ cap := by decide
  have k9 : 9 ≤ cap := by decide
  have k3 : 3 ≤ cap := by decide
  have a1 := add_ll (O1.map D.str) (O2.map D.str) S (by show 21 ≤ cap; decide)
  have a2 := add_ll (O1.map D.str ++ O2.map D.str) (O3.map D.str) S (by show 30 ≤ cap; decide)
  have a3 := add_ll (O1.map D.str ++ O2.map D.str ++ O3.map D.str) (O4.map D.str) S (by show 33 ≤ cap; decide)
  have d1 : ∀ ρ, dLst (aCons (dC (.str "")) (aCons (dC (.str " ")) (aCons (dC (.str "else")) (aCons (dC (.str "try ")) (aCons (dC (.str "try")) (aCons (dC (.str " try")) (aCons (dC (.str "repeat")) (aCons (dC (.str "repeat 0")) (aCons (dC (.str "repeat 21")) (aCons (dC (.str "repeat 20")) (aCons (dC (.str "repeat 03")) (aCons (dC (.str "repeat 1 ")) aNil)))))))))))) ρ S = .ok (.lst (O1.map D.str)) S := fun ρ => by simp [k12, O1]
  have d2 : ∀ ρ, dLst (aCons (dC (.str "each")) (aCons (dC (.str "each H")) (aCons (dC (.str "each h ")) (aCons (dC (.str "each abcdefghi")) (aCons (dC (.str "each abcdefgh")) (aCons (dC (.str "if ann")) (aCons (dC (.str "if ann k ")) (aCons (dC (.str "if ann k")) (aCons (dC (.str "if  k")) aNil))))))))) ρ S = .ok (.lst (O2.map D.str)) S := fun ρ => by simp [k9, O2]
  have d3 : ∀ ρ, dLst (aCons (dC (.str "save")) (aCons (dC (.str "save ann")) (aCons (dC (.str "save ann ")) (aCons (dC (.str "send ann bob ")) (aCons (dC (.str "send ann bob")) (aCons (dC (.str "end")) (aCons (dC (.str "repeat -1")) (aCons (dC (.str "each  h")) (aCons (dC (.str "Try")) aNil))))))))) ρ S = .ok (.lst (O3.map D.str)) S := fun ρ => by simp [k9, O3]
  have d4 : ∀ ρ, dLst (aCons (dC (.str "write ann k \"x")) (aCons (dC (.str "write ann k \"x\"")) (aCons (dC (.str "drop ann k")) aNil))) ρ S = .ok (.lst (O4.map D.str)) S := fun ρ => by simp [k3, O4]
  have xm : (O1 ++ O2 ++ O3 ++ O4).map D.str = O1.map D.str ++ O2.map D.str ++ O3.map D.str ++ O4.map D.str := by simp only [List.map_append]
  rw [xm] at x1
  unfold F_law_odd_line B_law_odd_line
  rw [e_fnD]
  generalize dLst (aCons (dC (.str "")) (aCons (dC (.str " ")) (aCons (dC (.str "else")) (aCons (dC (.str "try ")) (aCons (dC (.str "try")) (aCons (dC (.str " try")) (aCons (dC (.str "repeat")) (aCons (dC (.str "repeat 0")) (aCons (dC (.str "repeat 21")) (aCons (dC (.str "repeat 20")) (aCons (dC (.str "repeat 03")) (aCons (dC (.str "repeat 1 ")) aNil)))))))))))) = z1 at d1 ⊢
  generalize dLst (aCons (dC (.str "each")) (aCons (dC (.str "each H")) (aCons (dC (.str "each h ")) (aCons (dC (.str "each abcdefghi")) (aCons (dC (.str "each abcdefgh")) (aCons (dC (.str "if ann")) (aCons (dC (.str "if ann k ")) (aCons (dC (.str "if ann k")) (aCons (dC (.str "if  k")) aNil))))))))) = z2 at d2 ⊢
  generalize dLst (aCons (dC (.str "save")) (aCons (dC (.str "save ann")) (aCons (dC (.str "save ann ")) (aCons (dC (.str "send ann bob ")) (aCons (dC (.str "send ann bob")) (aCons (dC (.str "end")) (aCons (dC (.str "repeat -1")) (aCons (dC (.str "each  h")) (aCons (dC (.str "Try")) aNil))))))))) = z3 at d3 ⊢
  generalize dLst (aCons (dC (.str "write ann k \"x")) (aCons (dC (.str "write ann k \"x\"")) (aCons (dC (.str "drop ann k")) aNil))) = z4 at d4 ⊢
  generalize O1.map D.str = m1 at *
  generalize O2.map D.str = m2 at *
  generalize O3.map D.str = m3 at *
  generalize O4.map D.str = m4 at *
  generalize m1 ++ m2 = n1 at *
  generalize n1 ++ m3 = n2 at *
  generalize n2 ++ m4 = n3 at *
  simp [d1, d2, d3, d4, a1, a2, a3, e1, x1]
/-! ### lists of lines, bent -/
theorem add_lm (a b : List (List Nat)) (h : a.length + b.length ≤ 1000) (S : Sto) : oAdd (.lst (Lm a)) (.lst (Lm b)) S = .ok (.lst (Lm (a ++ b))) S := by
  rw [Lm_app]
  exact add_ll _ _ S (by rw [Lm_len, Lm_len]; exact Nat.le_trans h (by decide))
theorem sl_fr' (ls : List (List Nat)) (n : Nat) (S : Sto) : slD (.lst (Lm ls)) (some (n : Int)) none S = .ok (.lst (Lm (ls.drop n))) S := by
  rw [sl_fr]; simp [Lm]
theorem qSa : Str.ofString "save ann" = mkS [115, 97, 118, 101, 32, 97, 110, 110] := by decide +kernel
theorem q2sp : Str.ofString "  " = mkS (ind 1) := by decide +kernel
theorem lc_sa : Lc 20 [115, 97, 118, 101, 32, 97, 110, 110] := ⟨by decide, by decide⟩
theorem mem_cut {ls : List (List Nat)} {n : Nat} {l : List Nat} (h : l ∈ ls.take n ∨ l ∈ ls.drop n) : l ∈ ls := by
  rcases h with h | h
  · exact List.mem_of_mem_take h
  · exact List.mem_of_mem_drop h
theorem bent_ok {k n : Nat} {ls : List (List Nat)} {S : Sto} (h : PoolAt k S) (hl : ls.length ≤ 100) (hn : 30 ≤ n) (hn2 : n ≤ 300) (hc : ∀ l ∈ ls, Lc n l) :
    ∃ ls' S', F_law_bent [.own k, .lst (Lm ls)] S = .ok (.lst (Lm ls')) S' ∧ ls'.length ≤ ls.length + 1 ∧ (∀ l ∈ ls', Lc (n + 2) l) ∧ PoolAt k S' ∧ Upd k S S' := by
  have k1 : 1 ≤ cap := by decide
  have k3 : 3 ≤ cap := by decide
  have k2 : 2 ≤ cap := by decide
  have bc := big_cap
  have ll := Lm_len ls
  obtain ⟨r1, S1, e1, l1, u1, h1, w1⟩ := tk ((ls.length : Int) + 1) h (by omega) (by omega)
  obtain ⟨r2, S2, e2, l2, u2, h2, w2⟩ := tk ((ls.length : Int) + 1) h1 (by omega) (by omega)
  obtain ⟨r3, S3, e3, l3, u3, h3, w3⟩ := tk 7 h2 (by decide) (by decide)
  obtain ⟨r4, S4, e4, l4, u4, h4, w4⟩ := tk 4 h3 (by decide) (by decide)
  obtain ⟨odd, S5, e5, lo, h5, w5⟩ := odd_line h4
  obtain ⟨n1, rfl⟩ := Int.eq_ofNat_of_zero_le l1
  obtain ⟨n2, rfl⟩ := Int.eq_ofNat_of_zero_le l2
  obtain ⟨n4, rfl⟩ := Int.eq_ofNat_of_zero_le l4
  obtain ⟨one, ho, x1⟩ := ixm (ls ++ [[115, 97, 118, 101, 32, 97, 110, 110]]) n1 S2 (by omega) (by simp; omega)
  have oc : Lc n one := by
    rcases List.mem_append.mp ho with z | z
    · exact hc one z
    · simp at z; rw [z]; exact lc_sa.mono (by omega)
  have ol := oc.1
  have lo1 := lo.1
  have il := ind_len n4
  -- the lists
  let A := ls.take n1
  let B := ls.drop (n1 + 1)
  let B0 := ls.drop n1
  let C := ls.take n2
  let E := ls.drop n2
  let two := ind 1 ++ one
  let cut := one.drop 2
  let oth := ind n4 ++ odd
  have lA : A.length ≤ n1 := by show (ls.take n1).length ≤ n1; rw [List.length_take]; omega
  have lAB : A.length + B.length ≤ ls.length := by show (ls.take n1).length + (ls.drop (n1 + 1)).length ≤ _; rw [List.length_take, List.length_drop]; omega
  have lAB0 : A.length + B0.length ≤ ls.length := by show (ls.take n1).length + (ls.drop n1).length ≤ _; rw [List.length_take, List.length_drop]; omega
  have lCE : C.length + E.length ≤ ls.length := by show (ls.take n2).length + (ls.drop n2).length ≤ _; rw [List.length_take, List.length_drop]; omega
  have mA : ∀ l ∈ A, Lc n l := fun l h => hc l (List.mem_of_mem_take h)
  have mB : ∀ l ∈ B, Lc n l := fun l h => hc l (List.mem_of_mem_drop h)
  have mB0 : ∀ l ∈ B0, Lc n l := fun l h => hc l (List.mem_of_mem_drop h)
  have mC : ∀ l ∈ C, Lc n l := fun l h => hc l (List.mem_of_mem_take h)
  have mE : ∀ l ∈ E, Lc n l := fun l h => hc l (List.mem_of_mem_drop h)
  have c2 : Lc 2 (ind 1) := ⟨by decide, by decide⟩
  have mt : Lc (n + 2) two := (c2.app oc).mono (by omega)
  have mc : Lc n cut := oc.drop 2
  have mo : Lc (n + 2) oth := by
    have c4 : Lc 8 (ind n4) := ⟨by omega, ind_prn⟩
    exact (c4.app lo).mono (by omega)
  have sA : ∀ S, slD (.lst (Lm ls)) none (some (n1 : Int)) S = .ok (.lst (Lm A)) S := fun S => sl_lm ls n1 (by omega) S
  have sB0 : ∀ S, slD (.lst (Lm ls)) (some (n1 : Int)) none S = .ok (.lst (Lm B0)) S := fun S => sl_fr' ls n1 S
  have sB : ∀ S, slD (.lst (Lm ls)) (some ((n1 : Int) + 1)) none S = .ok (.lst (Lm B)) S := fun S => by have := sl_fr' ls (n1 + 1) S; simpa using this
  have sC : ∀ S, slD (.lst (Lm ls)) none (some (n2 : Int)) S = .ok (.lst (Lm C)) S := fun S => sl_lm ls n2 (by omega) S
  have sE : ∀ S, slD (.lst (Lm ls)) (some (n2 : Int)) none S = .ok (.lst (Lm E)) S := fun S => sl_fr' ls n2 S
  have lm1 : ∀ x, ([D.str (mkS x)] : List D) = Lm [x] := fun _ => rfl
  have s0 : ∀ S, oAdd (.lst (Lm ls)) (.lst (Lm [[115, 97, 118, 101, 32, 97, 110, 110]])) S = .ok (.lst (Lm (ls ++ [[115, 97, 118, 101, 32, 97, 110, 110]]))) S := fun S => add_lm _ _ (by simp; omega) S
  have pAB := fun S => add_lm A B (by omega) S
  have pA1 := fun S => add_lm A [one] (by simp; omega) S
  have pA1B := fun S => add_lm (A ++ [one]) B0 (by simp; omega) S
  have pC1 := fun S => add_lm C [one] (by simp; omega) S
  have pC1E := fun S => add_lm (C ++ [one]) E (by simp; omega) S
  have pAt := fun S => add_lm A [two] (by simp; omega) S
  have pAtB := fun S => add_lm (A ++ [two]) B (by simp; omega) S
  have pAc := fun S => add_lm A [cut] (by simp; omega) S
  have pAcB := fun S => add_lm (A ++ [cut]) B (by simp; omega) S
  have pAo := fun S => add_lm A [oth] (by simp; omega) S
  have pAoB0 := fun S => add_lm (A ++ [oth]) B0 (by simp; omega) S
  have pAoB := fun S => add_lm (A ++ [oth]) B (by simp; omega) S
  have a2 : ∀ S, oAdd (.str (mkS (ind 1))) (.str (mkS one)) S = .ok (.str (mkS two)) S := fun S => add_s (ind 1) one (by have : (ind 1).length = 2 := rfl; omega) S
  have sc : ∀ S, slD (.str (mkS one)) (some 2) none S = .ok (.str (mkS cut)) S := fun S => sl_from one 2 (by omega) S
  have mu : ∀ S, oMul (.str (mkS (ind 1))) (.int n4) S = .ok (.str (mkS (ind n4))) S := fun S => by rw [← q2sp]; exact mul_ind (d := n4) (by omega) S
  have ao : ∀ S, oAdd (.str (mkS (ind n4))) (.str (mkS odd)) S = .ok (.str (mkS oth)) S := fun S => add_s (ind n4) odd (by omega) S
  obtain ⟨v, hv, x5⟩ := ixl [.lst (Lm (A ++ B)), .lst (Lm (A ++ [one] ++ B0)), .lst (Lm (C ++ [one] ++ E)), .lst (Lm (A ++ [two] ++ B)), .lst (Lm (A ++ [cut] ++ B)), .lst (Lm (A ++ [oth] ++ B0)), .lst (Lm (A ++ [oth] ++ B))] r3 S5 l3 u3
  have fin : ∃ ls', v = .lst (Lm ls') ∧ ls'.length ≤ ls.length + 1 ∧ ∀ l ∈ ls', Lc (n + 2) l := by
    have three : ∀ (a b : List (List Nat)) (x : List Nat), (∀ l ∈ a, Lc n l) → (∀ l ∈ b, Lc n l) → Lc (n + 2) x → a.length + b.length ≤ ls.length → (a ++ [x] ++ b).length ≤ ls.length + 1 ∧ ∀ l ∈ a ++ [x] ++ b, Lc (n + 2) l := fun a b x ha hb hx hl => by
      refine ⟨by simp; omega, fun l hl => ?_⟩
      simp only [List.mem_append, List.mem_cons, List.not_mem_nil, or_false] at hl
      rcases hl with (z | z) | z
      · exact (ha l z).mono (by omega)
      · rw [z]; exact hx
      · exact (hb l z).mono (by omega)
    simp only [List.mem_cons, List.not_mem_nil, or_false] at hv
    rcases hv with rfl | rfl | rfl | rfl | rfl | rfl | rfl
    · refine ⟨_, rfl, by simp; omega, fun l hl => ?_⟩
      rcases List.mem_append.mp hl with z | z
      · exact (mA l z).mono (by omega)
      · exact (mB l z).mono (by omega)
    · exact ⟨_, rfl, three A B0 one mA mB0 (oc.mono (by omega)) lAB0⟩
    · exact ⟨_, rfl, three C E one mC mE (oc.mono (by omega)) lCE⟩
    · exact ⟨_, rfl, three A B two mA mB mt lAB⟩
    · exact ⟨_, rfl, three A B cut mA mB (mc.mono (by omega)) lAB⟩
    · exact ⟨_, rfl, three A B0 oth mA mB0 mo lAB0⟩
    · exact ⟨_, rfl, three A B oth mA mB mo lAB⟩
  obtain ⟨ls', rfl, f1, f2⟩ := fin
  refine ⟨ls', S5, ?_, f1, f2, h5, (((w1.trans w2).trans w3).trans w4).trans w5⟩
  clear_value A B B0 C E two cut oth
  have lone : ∀ x, (Lm [x]).length = 1 := fun _ => rfl
  clear hv ho
  generalize A ++ B = L0 at *
  generalize A ++ [one] = M1 at *
  generalize M1 ++ B0 = L1 at *
  generalize C ++ [one] = M2 at *
  generalize M2 ++ E = L2 at *
  generalize A ++ [two] = M3 at *
  generalize M3 ++ B = L3 at *
  generalize A ++ [cut] = M4 at *
  generalize M4 ++ B = L4 at *
  generalize A ++ [oth] = M5 at *
  generalize M5 ++ B0 = L5 at *
  generalize M5 ++ B = L6 at *
  have j5 : ∀ (a b c : D) (x y : D) (S : Sto), oAdd (.lst [a, b, c]) (.lst [x, y]) S = .ok (.lst [a, b, c, x, y]) S := fun a b c x y S => add_ll [a, b, c] [x, y] S (by show 5 ≤ cap; decide)
  have j7 : ∀ (a b c d e : D) (x y : D) (S : Sto), oAdd (.lst [a, b, c, d, e]) (.lst [x, y]) S = .ok (.lst [a, b, c, d, e, x, y]) S := fun a b c d e x y S => add_ll [a, b, c, d, e] [x, y] S (by show 7 ≤ cap; decide)
  simp [F_law_bent, e_fnD, B_law_bent, oLen, seqOf, ll, lone, e1, e2, k1, lm1, qSa, s0, x1, e3, sA, sB, sB0, sC, sE, pAB, pA1, pA1B, pC1, pC1E, k3, q2sp, a2, pAt, pAtB, sc, pAc, pAcB, k2, j5, mu, e4, e5, ao, pAo, pAoB0, pAoB, j7, x5]
end G

set_option maxHeartbeats 4000000
namespace G
open PySem L2 DE
def zA0 : MS := (sAsg (dCall 2 F_law_pool [] (aCons (dVar 0) (aCons (dVar 1) aNil))) (gN 2))
def zA1 : MS := (sAsg (dSlO (dCall 2 (F_law_lines 8) [] (aCons (dCall 3 (F_law_plan 8) [] (aCons (dVar 2) (aCons (dC (.int 3)) (aCons (dC (.int 1)) aNil)))) (aCons (dC (.int 0)) aNil))) oNoPart (oPart (dC (.int 60)))) (gN 3))
def zA2 : MS := (sAsg (dLstO (aCons (dM1 oJoin (dC (.str "\n")) (dVar 3)) (aCons (dBin oAdd (dM1 oJoin (dC (.str "\n")) (dVar 3)) (dC (.str "\n"))) (aCons (dBin oAdd (dC (.str "\n")) (dM1 oJoin (dC (.str "\n")) (dVar 3))) (aCons (dM1 oJoin (dC (.str "\n")) (dSl (dVar 3) oNoPart (oPart (dNeg (dC (.int 1)))))) aNil))))) (gN 4))
def zA3 : MS := (sFor (iR1 (aCons (dC (.int 8)) aNil)) (gN 5) L_law_4)
def zA4 : MS := (sAsg (dLC [8] (iR1 (aCons (dC (.int 6)) aNil)) (gN 8) mYes (dBin oAdd (dBin oMul (dC (.str "  ")) (dVar 8)) (dC (.str "try")))) (gN 7))
def zA5 : MS := (sAsg (dBin oAddL (dVar 4) (dLst (aCons (dM1 oJoin (dC (.str "\n")) (dVar 7)) (aCons (dM1 oJoin (dC (.str "\n")) (dBin oAdd (dVar 7) (dLst (aCons (dBin oAdd (dBin oMul (dC (.str "  ")) (dC (.int 6))) (dC (.str "save a"))) aNil)))) (aCons (dM1 oJoin (dC (.str "\n")) (dBin oAdd (dSl (dVar 7) oNoPart (oPart (dC (.int 5)))) (dLst (aCons (dBin oAdd (dBin oMul (dC (.str "  ")) (dC (.int 5))) (dC (.str "save a"))) aNil)))) aNil))))) (gN 4))
def zA6 : MS := (sAsg (dBin oAddL (dVar 4) (dLst (aCons (dM1 oJoin (dC (.str "\n")) (dBin oMul (dLst (aCons (dC (.str "save a")) aNil)) (dC (.int 200)))) (aCons (dM1 oJoin (dC (.str "\n")) (dBin oMul (dLst (aCons (dC (.str "save a")) aNil)) (dC (.int 201)))) (aCons (dM1 oJoin (dC (.str "\n")) (dBin oAdd (dLst (aCons (dC (.str "try")) aNil)) (dBin oMul (dLst (aCons (dC (.str "  save a")) aNil)) (dC (.int 200))))) aNil))))) (gN 4))
def zA7 : MS := (sFor (iOf (dVar 4)) (gN 9) L_law_3)
def zA8 : MS := (sFor (iOf (dLst (aCons (dC .non) (aCons (dC (.int 5)) (aCons (dLst aNil) (aCons (dVar 3) aNil)))))) (gN 10) L_law_2)
theorem L5_eq : L_law_5 = sSeq zA0 (sSeq zA1 (sSeq zA2 (sSeq zA3 (sSeq zA4 (sSeq zA5 (sSeq zA6 (sSeq zA7 zA8))))))) := rfl
theorem join_l (ps : List (List Nat)) (hl : (ps.map fun p => p.length).sum + ps.length ≤ 90000) (S : Sto) : oJoin (mkS [10]) (.lst (Lm ps)) S = .ok (.str (mkS (joinL 10 ps))) S := by
  have e := strs_of ps
  have hs : ((ps.map mkS).map (·.length)).sum = (ps.map fun p => p.length).sum := by
    rw [List.map_map]
    exact congrArg List.sum (List.map_congr_left fun p _ => mkS_len p)
  have jn : Txt.join (mkS [10]) (ps.map mkS) = mkS (joinL 10 ps) := join_eq 10 ps
  have e : strsOf (Lm ps) = some (ps.map mkS) := e
  simp only [oJoin, seqOf, e]
  rw [hs, List.length_map]
  have : (mkS [10]).length = 1 := rfl
  rw [this, Nat.mul_one, if_pos (Nat.le_trans hl (Nat.le_trans (by decide) big2)), jn]
theorem lc_sum {ls : List (List Nat)} (h : ∀ l ∈ ls, Lc 300 l) : (ls.map fun p => p.length).sum + ls.length ≤ 301 * ls.length := by
  induction ls with
  | nil => simp
  | cons a r ih =>
    have := ih fun x hx => h x (List.mem_cons_of_mem _ hx)
    have := (h a List.mem_cons_self).1
    simp only [List.map_cons, List.sum_cons, List.length_cons]
    omega
theorem join_lc {ls : List (List Nat)} (h : ∀ l ∈ ls, Lc 300 l) (hl : ls.length ≤ 250) (S : Sto) : oJoin (mkS [10]) (.lst (Lm ls)) S = .ok (.str (mkS (joinL 10 ls))) S :=
  join_l ls (by have := lc_sum h; omega) S
theorem cut_take (ls : List (List Nat)) (n : Nat) : cutD (Lm ls) none (some (n : Int)) = Lm (ls.take n) := by
  unfold cutD
  have s1 : HT.sIx (Lm ls).length 0 none = 0 := rfl
  have s2 : HT.sIx (Lm ls).length (Lm ls).length (some (n : Int)) = min n ls.length := by
    simp only [HT.sIx, Lm_len]
    have : ¬ ((n : Int) < 0) := by omega
    simp [this]
  rw [s1, s2]
  simp only [List.drop_zero, Nat.sub_zero, Lm]
  rw [List.map_take]
  rw [← List.length_map (fun l => D.str (mkS l)) (as := ls)]
  rw [Nat.min_comm, ← List.take_take]
  exact List.take_of_length_le (by rw [List.length_take]; omega)
/-! ### the first lines, the first texts -/
theorem a1_ok {p : Nat} {S : Sto} (h : PoolAt p S) (a0 a1 o3 o4 o5 o6 o7 o8 o9 o10 o11 o12 : Option D) : ∃ L0 S', zA1 [a0, a1, some (.own p), o3, o4, o5, o6, o7, o8, o9, o10, o11, o12] S = .nx [a0, a1, some (.own p), some (.lst (Lm L0)), o4, o5, o6, o7, o8, o9, o10, o11, o12] S' ∧ L0 ≠ [] ∧ L0.length ≤ 60 ∧ (∀ l ∈ L0, Lc 220 l) ∧ PoolAt p S' := by
  obtain ⟨t, S1, e1, ok, sm, mm, ln, h1, _⟩ := (draws 8).2 3 (by decide) p S 1 (by decide) h
  have e1 : F_law_plan 8 [.own p, .int 3, .int 1] S = .ok (.tup (trsD t)) S1 := e1
  have mx : trsN t ≤ 468 := Nat.le_trans mm (by decide)
  obtain ⟨j, S2, e2, hv⟩ := law_lines_eq 8 4 0 t ok (by decide) (by decide) (by omega) S1
  have e2 : F_law_lines 8 [.tup (trsD t), .int 0] S1 = .ok (.own j) S2 := e2
  obtain ⟨R2, r2⟩ := hv.pre
  have h2 : PoolAt p S2 := by
    rw [r2]
    obtain ⟨x, y, e⟩ := h1
    exact ⟨x, y, by rw [List.getElem?_append_left (List.getElem?_eq_some_iff.mp e).1]; exact e⟩
  have la : lstAt S2 (.own j) = some (Lm (trsL 0 t)) := by simp [lstAt, hv.at_]
  have ct := cut_take (trsL 0 t) 60
  refine ⟨(trsL 0 t).take 60, S2, ?_, ?_, by rw [List.length_take]; omega, fun l hl => trs_lprn t 4 0 ok sm (by decide) l (List.mem_of_mem_take hl), h2⟩
  · have sl : slDO (.own j) none (some 60) S2 = .ok (.lst (Lm ((trsL 0 t).take 60))) S2 := by
      simp only [slDO, la]
      have ct : cutD (Lm (trsL 0 t)) none (some 60) = Lm ((trsL 0 t).take 60) := ct
      rw [ct]
    simp [zA1, dSlO, e1, e2, sl]
  · cases t with
    | nil => simp at ln
    | cons a r =>
      simp only [trsL]
      rw [lines_inner]
      simp
theorem q10' : Str.ofString "\n" = mkS [10] := q10
theorem tx_more {L0 : List (List Nat)} (hc : ∀ l ∈ L0, Lc 220 l) (hl : L0.length ≤ 60) (ne : L0 ≠ []) : Tx (joinL 10 L0) ∧ Tx (joinL 10 L0 ++ [10]) ∧ Tx (10 :: joinL 10 L0) ∧ Tx (joinL 10 L0.dropLast) := by
  have h3 : ∀ l ∈ L0, Lc 300 l := fun l h => (hc l h).mono (by decide)
  refine ⟨tx_join h3 (by omega), ?_, ?_, tx_join (fun l h => h3 l (List.dropLast_subset L0 h)) (by rw [List.length_dropLast]; omega)⟩
  · rw [← joinL_snoc 10 L0 ne]
    refine tx_join (fun l h => ?_) (by simp; omega)
    rcases List.mem_append.mp h with z | z
    · exact h3 l z
    · simp at z; rw [z]; exact lc_nil _
  · rw [← joinL_ncons 10 L0 ne]
    refine tx_join (fun l h => ?_) (by simp; omega)
    rcases List.mem_cons.mp h with z | z
    · rw [z]; exact lc_nil _
    · exact h3 l z
theorem a2_ok {L0 : List (List Nat)} (hc : ∀ l ∈ L0, Lc 220 l) (hl : L0.length ≤ 60) (ne : L0 ≠ []) (S : Sto) (a0 a1 a2 o4 o5 o6 o7 o8 o9 o10 o11 o12 : Option D) : ∃ ts, zA2 [a0, a1, a2, some (.lst (Lm L0)), o4, o5, o6, o7, o8, o9, o10, o11, o12] S = .nx [a0, a1, a2, some (.lst (Lm L0)), some (.own S.length), o5, o6, o7, o8, o9, o10, o11, o12] (S ++ [.lst (Lm ts)]) ∧ (∀ t ∈ ts, Tx t) ∧ ts.length = 4 := by
  have h3 : ∀ l ∈ L0, Lc 300 l := fun l h => (hc l h).mono (by decide)
  have k4 : 4 ≤ cap := by decide
  have bc := big2
  obtain ⟨t1, t2, t3, t4⟩ := tx_more hc hl ne
  have j := join_lc h3 (by omega) S
  have jd := join_lc (ls := L0.dropLast) (fun l h => h3 l (List.dropLast_subset L0 h)) (by rw [List.length_dropLast]; omega) S
  have sd : slD (.lst (Lm L0)) none (some (-1)) S = .ok (.lst (Lm L0.dropLast)) S := by
    have := sl_to1 (Lm L0) (by intro z; apply ne; cases L0 <;> simp [Lm] at z ⊢) S
    rw [this]
    simp [Lm]
  have x1 := add_s (joinL 10 L0) [10] (by have := t1.len; simp; omega) S
  have x2 := add_s [10] (joinL 10 L0) (by have := t1.len; simp; omega) S
  simp only [List.cons_append, List.nil_append] at x2
  refine ⟨[joinL 10 L0, joinL 10 L0 ++ [10], 10 :: joinL 10 L0, joinL 10 L0.dropLast], ?_, fun t ht => ?_, rfl⟩
  · generalize joinL 10 L0 = J at *
    generalize joinL 10 L0.dropLast = JD at *
    have lm4 : ∀ a b c d, ([D.str (mkS a), D.str (mkS b), D.str (mkS c), D.str (mkS d)] : List D) = Lm [a, b, c, d] := fun _ _ _ _ => rfl
    have l4 : ∀ a b c d, (Lm [a, b, c, d]).length = 4 := fun _ _ _ _ => rfl
    simp [zA2, q10', j, x1, x2, sd, jd, k4, lm4, l4]
  · simp only [List.mem_cons, List.not_mem_nil, or_false] at ht
    rcases ht with rfl | rfl | rfl | rfl
    · exact t1
    · exact t2
    · exact t3
    · exact t4
theorem app_v {f : ME} {ρ : DE.Env} {S S1 : Sto} {v k : Nat} {ds ds1 : List D} {e : D} (hv : ρ[v]? = some (some (.own k))) (hk : S[k]? = some (.lst ds)) (hf : f ρ S = .ok e S1) (hk1 : S1[k]? = some (.lst ds1)) (hl : ds1.length < cap) :
    dApp (dVar v) (aCons f aNil) ρ S = .ok .non (S1.set k (.lst (ds1 ++ [e]))) := by simp [dApp, hv, hk, hf, hk1, hl]
/-- one turn: two bent ones -/
theorem bend_turn {p a : Nat} {S : Sto} {L0 ts : List (List Nat)} (h : PoolAt p S) (ha : S[a]? = some (.lst (Lm ts))) (ne : a ≠ p) (hc : ∀ l ∈ L0, Lc 220 l) (hl : L0.length ≤ 60) (ht : ∀ t ∈ ts, Tx t) (hn : ts.length ≤ 100) (a0 a1 o5 o6 o7 o8 o9 o10 o11 o12 : Option D) :
    ∃ u6 ts' S', L_law_4 [a0, a1, some (.own p), some (.lst (Lm L0)), some (.own a), o5, o6, o7, o8, o9, o10, o11, o12] S = .nx [a0, a1, some (.own p), some (.lst (Lm L0)), some (.own a), o5, u6, o7, o8, o9, o10, o11, o12] S' ∧ PoolAt p S' ∧ S'[a]? = some (.lst (Lm ts')) ∧ (∀ t ∈ ts', Tx t) ∧ ts'.length = ts.length + 2 := by
  have bc := big_cap
  obtain ⟨b1, S1, e1, n1, c1, h1, w1⟩ := bent_ok h (by omega) (show 30 ≤ 220 by decide) (by decide) hc
  have ha1 : S1[a]? = some (.lst (Lm ts)) := by rw [w1.2 a ne]; exact ha
  have j1 := join_lc (ls := b1) (fun l h => (c1 l h).mono (by decide)) (by omega) S1
  have tx1 : Tx (joinL 10 b1) := tx_join (fun l h => (c1 l h).mono (by decide)) (by omega)
  have f1 := app_v (v := 4) (f := dM1 oJoin (dC (.str (mkS [10]))) (dVar 6)) (ρ := [a0, a1, some (.own p), some (.lst (Lm L0)), some (.own a), o5, some (.lst (Lm b1)), o7, o8, o9, o10, o11, o12]) (S := S1) (S1 := S1) (k := a) (e := .str (mkS (joinL 10 b1))) rfl ha1 (by simp [j1]) ha1 (by rw [Lm_len]; omega)
  have e2 : Lm ts ++ [.str (mkS (joinL 10 b1))] = Lm (ts ++ [joinL 10 b1]) := by rw [Lm_app]; rfl
  rw [e2] at f1
  have alt : a < S1.length := (List.getElem?_eq_some_iff.mp ha1).1
  have ha2 : (S1.set a (.lst (Lm (ts ++ [joinL 10 b1]))))[a]? = some (.lst (Lm (ts ++ [joinL 10 b1]))) := List.getElem?_set_self alt
  have h2 : PoolAt p (S1.set a (.lst (Lm (ts ++ [joinL 10 b1])))) := by
    obtain ⟨x, y, e⟩ := h1
    exact ⟨x, y, by rw [List.getElem?_set_ne ne]; exact e⟩
  generalize S1.set a (.lst (Lm (ts ++ [joinL 10 b1]))) = S2 at f1 ha2 h2
  obtain ⟨b2, S3, e3, n3, c3, h3, w3⟩ := bent_ok h2 (show b1.length ≤ 100 by omega) (show 30 ≤ 222 by decide) (by decide) c1
  have ha3 : S3[a]? = some (.lst (Lm (ts ++ [joinL 10 b1]))) := by rw [w3.2 a ne]; exact ha2
  have j3 := join_lc (ls := b2) (fun l h => (c3 l h).mono (by decide)) (by omega) S3
  have tx3 : Tx (joinL 10 b2) := tx_join (fun l h => (c3 l h).mono (by decide)) (by omega)
  have f3 := app_v (v := 4) (f := dM1 oJoin (dC (.str (mkS [10]))) (dCall 2 F_law_bent [] (aCons (dVar 2) (aCons (dVar 6) aNil)))) (ρ := [a0, a1, some (.own p), some (.lst (Lm L0)), some (.own a), o5, some (.lst (Lm b1)), o7, o8, o9, o10, o11, o12]) (S := S2) (S1 := S3) (k := a) (e := .str (mkS (joinL 10 b2))) rfl ha2 (by simp [e3, j3]) ha3 (by rw [Lm_len]; simp; omega)
  have e4 : Lm (ts ++ [joinL 10 b1]) ++ [.str (mkS (joinL 10 b2))] = Lm (ts ++ [joinL 10 b1] ++ [joinL 10 b2]) := by rw [Lm_app _ [joinL 10 b2]]; rfl
  rw [e4] at f3
  have alt3 : a < S3.length := (List.getElem?_eq_some_iff.mp ha3).1
  refine ⟨some (.lst (Lm b1)), ts ++ [joinL 10 b1] ++ [joinL 10 b2], S3.set a (.lst (Lm (ts ++ [joinL 10 b1] ++ [joinL 10 b2]))), ?_, ?_, List.getElem?_set_self alt3, fun t h => ?_, by simp⟩
  · have b : ∀ ρ S, L_law_4 ρ S = (sSeq (sAsg (dCall 2 F_law_bent [] (aCons (dVar 2) (aCons (dVar 3) aNil))) (gN 6))
      (sSeq (sExpr (dApp (dVar 4) (aCons (dM1 oJoin (dC (.str (mkS [10]))) (dVar 6)) aNil)))
      (sExpr (dApp (dVar 4) (aCons (dM1 oJoin (dC (.str (mkS [10]))) (dCall 2 F_law_bent [] (aCons (dVar 2) (aCons (dVar 6) aNil)))) aNil))))) ρ S := by rw [← q10']; exact fun _ _ => rfl
    rw [b]
    generalize dApp (dVar 4) (aCons (dM1 oJoin (dC (.str (mkS [10]))) (dVar 6)) aNil) = z1 at f1
    generalize dApp (dVar 4) (aCons (dM1 oJoin (dC (.str (mkS [10]))) (dCall 2 F_law_bent [] (aCons (dVar 2) (aCons (dVar 6) aNil)))) aNil) = z2 at f3
    simp [e1, f1, f3]
  · obtain ⟨x, y, e⟩ := h3
    exact ⟨x, y, by rw [List.getElem?_set_ne ne]; exact e⟩
  · simp only [List.mem_append, List.mem_cons, List.not_mem_nil, or_false] at h
    rcases h with (z | z) | z
    · exact ht t z
    · rw [z]; exact tx1
    · rw [z]; exact tx3
theorem bend_loop {p a : Nat} {L0 : List (List Nat)} (ne : a ≠ p) (hc : ∀ l ∈ L0, Lc 220 l) (hl : L0.length ≤ 60) (a0 a1 o7 o8 o9 o10 o11 o12 : Option D) : ∀ (ds : List D) (ts : List (List Nat)) (S : Sto) (o5 o6 : Option D), PoolAt p S → S[a]? = some (.lst (Lm ts)) → (∀ t ∈ ts, Tx t) → ts.length + 2 * ds.length ≤ 100 →
    ∃ u5 u6 ts' S', loopS (gN 5) L_law_4 ds [a0, a1, some (.own p), some (.lst (Lm L0)), some (.own a), o5, o6, o7, o8, o9, o10, o11, o12] S = .nx [a0, a1, some (.own p), some (.lst (Lm L0)), some (.own a), u5, u6, o7, o8, o9, o10, o11, o12] S' ∧ S'[a]? = some (.lst (Lm ts')) ∧ (∀ t ∈ ts', Tx t) ∧ ts'.length ≤ 100
  | [], ts, S, o5, o6, _, ha, ht, hn => ⟨o5, o6, ts, S, rfl, ha, ht, by simpa using hn⟩
  | d :: ds, ts, S, o5, o6, h, ha, ht, hn => by
    simp only [List.length_cons] at hn
    obtain ⟨u6, ts1, S1, e1, h1, ha1, ht1, hn1⟩ := bend_turn h ha ne hc hl ht (by omega) a0 a1 (some d) o6 o7 o8 o9 o10 o11 o12
    obtain ⟨v5, v6, ts2, S2, e2, r⟩ := bend_loop ne hc hl a0 a1 o7 o8 o9 o10 o11 o12 ds ts1 S1 (some d) u6 h1 ha1 ht1 (by omega)
    refine ⟨v5, v6, ts2, S2, ?_, r⟩
    simp only [loopS, gN]
    simp [e1]
    exact e2
end G

set_option maxHeartbeats 4000000
namespace G
open PySem L2 DE
/-! ### the fixed texts -/
def cSa : List Nat := [115, 97, 118, 101, 32, 97]
theorem qSaa : Str.ofString "save a" = mkS cSa := by decide +kernel
theorem qSaa2 : Str.ofString "  save a" = mkS (ind 1 ++ cSa) := by decide +kernel
def DP : List (List Nat) := (List.range 6).map fun i => ind i ++ cTr
theorem a4_ok (S : Sto) (a0 a1 a2 a3 a4 a5 a6 o7 a9 a10 a11 a12 : Option D) : zA4 [a0, a1, a2, a3, a4, a5, a6, o7, none, a9, a10, a11, a12] S = .nx [a0, a1, a2, a3, a4, a5, a6, some (.lst (Lm DP)), none, a9, a10, a11, a12] S := by
  have lc : loopC [8] (gN 8) mYes (dBin oAdd (dBin oMul (dC (.str (Str.ofString "  "))) (dVar 8)) (dC (.str (mkS cTr)))) [a0, a1, a2, a3, a4, a5, a6, o7, none, a9, a10, a11, a12] (rangeD 0 6) S = .ok (Lm DP) S := by
    have e : Lm DP = (rangeD 0 6).map fun d => match d with | .int i => .str (mkS (ind i.toNat ++ cTr)) | _ => .non := by
      unfold Lm DP rangeD
      rw [List.map_map, List.map_map]
      refine List.map_congr_left fun i _ => ?_
      show D.str (mkS (ind i ++ cTr)) = D.str (mkS (ind ((0 + (i : Int)).toNat) ++ cTr))
      have : (0 + (i : Int)).toNat = i := by omega
      rw [this]
    rw [e]
    refine loopC_map (r := fun d => [a0, a1, a2, a3, a4, a5, a6, o7, some d, a9, a10, a11, a12]) fun d hd => ⟨by simp [wipeD], by simp, ?_⟩
    obtain ⟨i, hi, rfl⟩ := mem_rangeD hd
    have mi := mul_ind (d := i) (by omega) S
    have ad := add_s (ind i) cTr (by have := ind_len i; have : cTr.length = 3 := rfl; exact Nat.le_trans (show (ind i).length + cTr.length ≤ 50 by omega) (by decide)) S
    have e2 : (0 + (i : Int)) = (i : Int) := by omega
    rw [e2]
    have : ((i : Nat) : Int).toNat = i := by omega
    simp [mi, ad]
  have rl : (rangeD 0 6).length = 6 := by simp [rangeD]
  have k6 : 6 ≤ cap := by decide
  generalize Lm DP = Z at lc ⊢
  simp [zA4, qTr, rl, k6, lc]
theorem dp_lc : ∀ l ∈ DP, Lc 20 l := fun l hl => by
  obtain ⟨i, hi, rfl⟩ := List.mem_map.mp hl
  have := List.mem_range.mp hi
  have il := ind_len i
  refine ⟨by have : cTr.length = 3 := rfl; rw [List.length_append]; omega, fun c hc => ?_⟩
  rcases List.mem_append.mp hc with z | z
  · exact ind_prn c z
  · exact (show ∀ c ∈ cTr, 32 ≤ c ∧ c ≤ 126 by decide) c z
theorem sa_lc : Lc 10 cSa := ⟨by decide, by decide⟩
theorem ind_lc (d : Nat) : Lc (2 * d) (ind d) := ⟨Nat.le_of_eq (ind_len d), ind_prn⟩
theorem rep_lm (l : List Nat) : ∀ n : Nat, (List.replicate n [D.str (mkS l)]).flatten = Lm (List.replicate n l)
  | 0 => rfl
  | n + 1 => by rw [List.replicate_succ, List.flatten_cons, rep_lm l n, List.replicate_succ]; rfl
theorem mul_rep (l : List Nat) (n : Nat) (h : n ≤ 1000) (S : Sto) : oMul (.lst (Lm [l])) (.int n) S = .ok (.lst (Lm (List.replicate n l))) S := by
  have c : -100000 ≤ (n : Int) ∧ (n : Int) ≤ 100000 ∧ (Lm [l]).length * (n : Int).toNat ≤ cap := ⟨by omega, by omega, by
    have : (Lm [l]).length = 1 := rfl
    rw [this, Int.toNat_natCast]
    exact Nat.le_trans (show 1 * n ≤ 1000 by omega) (by decide)⟩
  simp only [oMul]
  rw [if_pos c, Int.toNat_natCast]
  have : Lm [l] = [D.str (mkS l)] := rfl
  rw [this, rep_lm]
theorem addL_own {S : Sto} {n : Nat} {xs ys : List (List Nat)} (h1 : S[n]? = some (.lst (Lm xs))) (hl : xs.length + ys.length ≤ 1000) : oAddL (.own n) (.lst (Lm ys)) S = .ok (.lst (Lm (xs ++ ys))) S := by
  rw [Lm_app]
  exact addL_eq h1 (by rw [Lm_len, Lm_len]; exact Nat.le_trans hl (by decide))
theorem addL_lst {S : Sto} {xs ys : List (List Nat)} (hl : xs.length + ys.length ≤ 1000) : oAddL (.lst (Lm xs)) (.lst (Lm ys)) S = .ok (.lst (Lm (xs ++ ys))) S := by
  have h : (Lm xs).length + (Lm ys).length ≤ cap := by rw [Lm_len, Lm_len]; exact Nat.le_trans hl (by decide)
  simp only [oAddL, lstAt, if_pos h]
  rw [Lm_app]
theorem a5_ok {a : Nat} {S : Sto} {ts : List (List Nat)} (ha : S[a]? = some (.lst (Lm ts))) (ht : ∀ t ∈ ts, Tx t) (hn : ts.length ≤ 100) (a0 a1 a2 a3 a5 a6 a8 a9 a10 a11 a12 : Option D) : ∃ ts', zA5 [a0, a1, a2, a3, some (.own a), a5, a6, some (.lst (Lm DP)), a8, a9, a10, a11, a12] S = .nx [a0, a1, a2, a3, some (.lst (Lm ts')), a5, a6, some (.lst (Lm DP)), a8, a9, a10, a11, a12] S ∧ (∀ t ∈ ts', Tx t) ∧ ts'.length ≤ 110 := by
  have k1 : 1 ≤ cap := by decide
  have k3 : 3 ≤ cap := by decide
  have bc := big_cap
  have d300 : ∀ l ∈ DP, Lc 300 l := fun l h => (dp_lc l h).mono (by decide)
  have dl : DP.length = 6 := rfl
  have L6 : Lc 300 (ind 6 ++ cSa) := ((ind_lc 6).app sa_lc).mono (by decide)
  have L5 : Lc 300 (ind 5 ++ cSa) := ((ind_lc 5).app sa_lc).mono (by decide)
  have m2 : ∀ l ∈ DP ++ [ind 6 ++ cSa], Lc 300 l := fun l h => by
    rcases List.mem_append.mp h with z | z
    · exact d300 l z
    · simp at z; rw [z]; exact L6
  have m3 : ∀ l ∈ DP.take 5 ++ [ind 5 ++ cSa], Lc 300 l := fun l h => by
    rcases List.mem_append.mp h with z | z
    · exact d300 l (List.mem_of_mem_take z)
    · simp at z; rw [z]; exact L5
  have j1 := join_lc d300 (by omega) S
  have j2 := join_lc m2 (by simp; omega) S
  have j3 := join_lc m3 (by simp; omega) S
  have mu6 : oMul (.str (Str.ofString "  ")) (.int 6) S = .ok (.str (mkS (ind 6))) S := mul_ind (d := 6) (by decide) S
  have mu5 : oMul (.str (Str.ofString "  ")) (.int 5) S = .ok (.str (mkS (ind 5))) S := mul_ind (d := 5) (by decide) S
  have ad6 := add_s (ind 6) cSa (by have : (ind 6).length = 12 := rfl; have : cSa.length = 6 := rfl; omega) S
  have ad5 := add_s (ind 5) cSa (by have : (ind 5).length = 10 := rfl; have : cSa.length = 6 := rfl; omega) S
  have lm1 : ∀ x, ([D.str (mkS x)] : List D) = Lm [x] := fun _ => rfl
  have lone : ∀ x, (Lm [x]).length = 1 := fun _ => rfl
  have lm3 : ∀ a b c, D.str (mkS a) :: D.str (mkS b) :: Lm [c] = Lm [a, b, c] := fun _ _ _ => rfl
  have l3 : ∀ a b c, (Lm [a, b, c]).length = 3 := fun _ _ _ => rfl
  have p2 := add_lm DP [ind 6 ++ cSa] (by simp; omega) S
  have p3 := add_lm (DP.take 5) [ind 5 ++ cSa] (by simp; omega) S
  have s5 : slD (.lst (Lm DP)) none (some 5) S = .ok (.lst (Lm (DP.take 5))) S := sl_lm DP 5 (by decide) S
  have al := addL_own (ys := [joinL 10 DP, joinL 10 (DP ++ [ind 6 ++ cSa]), joinL 10 (DP.take 5 ++ [ind 5 ++ cSa])]) ha (by simp; omega)
  have T1 := tx_join d300 (by omega)
  have T2 := tx_join m2 (by simp; omega)
  have T3 := tx_join m3 (by simp; omega)
  refine ⟨ts ++ [joinL 10 DP, joinL 10 (DP ++ [ind 6 ++ cSa]), joinL 10 (DP.take 5 ++ [ind 5 ++ cSa])], ?_, fun t h => ?_, by simp; omega⟩
  · clear T1 T2 T3 m2 m3 L6 L5 ht d300
    generalize ind 6 ++ cSa = W6 at *
    generalize ind 5 ++ cSa = W5 at *
    generalize DP.take 5 ++ [W5] = M3 at *
    generalize DP ++ [W6] = M2 at *
    generalize DP.take 5 = M1 at *
    generalize joinL 10 DP = J1 at *
    generalize joinL 10 M2 = J2 at *
    generalize joinL 10 M3 = J3 at *
    generalize hts : ts ++ [J1, J2, J3] = TS at *
    clear dl
    generalize DP = D0 at *
    simp [zA5, q10', j1, mu6, mu5, qSaa, ad6, ad5, lm1, lone, k1, p2, j2, s5, p3, j3, lm3, l3, k3, al]
  · rcases List.mem_append.mp h with z | z
    · exact ht t z
    · simp only [List.mem_cons, List.not_mem_nil, or_false] at z
      rcases z with rfl | rfl | rfl
      · exact T1
      · exact T2
      · exact T3
theorem a6_ok {S : Sto} {ts : List (List Nat)} (ht : ∀ t ∈ ts, Tx t) (hn : ts.length ≤ 110) (a0 a1 a2 a3 a5 a6 a7 a8 a9 a10 a11 a12 : Option D) : ∃ ts', zA6 [a0, a1, a2, a3, some (.lst (Lm ts)), a5, a6, a7, a8, a9, a10, a11, a12] S = .nx [a0, a1, a2, a3, some (.lst (Lm ts')), a5, a6, a7, a8, a9, a10, a11, a12] S ∧ (∀ t ∈ ts', Tx t) ∧ ts'.length ≤ 120 := by
  have k1 : 1 ≤ cap := by decide
  have k3 : 3 ≤ cap := by decide
  have rl : ∀ (l : List Nat) (n m : Nat), Lc m l → m ≤ 300 → ∀ x ∈ List.replicate n l, Lc 300 x := fun l n m h hm x hx => by rw [List.eq_of_mem_replicate hx]; exact h.mono hm
  have m1 := rl cSa 200 10 sa_lc (by decide)
  have m2 := rl cSa 201 10 sa_lc (by decide)
  have m4 := rl (ind 1 ++ cSa) 200 _ ((ind_lc 1).app sa_lc) (by decide)
  have m3 : ∀ l ∈ [cTr] ++ List.replicate 200 (ind 1 ++ cSa), Lc 300 l := fun l h => by
    rcases List.mem_append.mp h with z | z
    · simp at z; rw [z]; exact ⟨by decide, by decide⟩
    · exact m4 l z
  have n1 : (List.replicate 200 cSa).length ≤ 250 := by rw [List.length_replicate]; omega
  have n2 : (List.replicate 201 cSa).length ≤ 250 := by rw [List.length_replicate]; omega
  have n3 : ([cTr] ++ List.replicate 200 (ind 1 ++ cSa)).length ≤ 250 := by rw [List.length_append, List.length_replicate]; simp
  have n4 : [cTr].length + (List.replicate 200 (ind 1 ++ cSa)).length ≤ 1000 := by rw [List.length_replicate]; simp
  have j1 := join_lc m1 n1 S
  have j2 := join_lc m2 n2 S
  have j3 := join_lc m3 n3 S
  have T1 := tx_join m1 n1
  have T2 := tx_join m2 n2
  have T3 := tx_join m3 n3
  have r1 : oMul (.lst (Lm [cSa])) (.int 200) S = .ok (.lst (Lm (List.replicate 200 cSa))) S := mul_rep cSa 200 (by decide) S
  have r2 : oMul (.lst (Lm [cSa])) (.int 201) S = .ok (.lst (Lm (List.replicate 201 cSa))) S := mul_rep cSa 201 (by decide) S
  have r3 : oMul (.lst (Lm [ind 1 ++ cSa])) (.int 200) S = .ok (.lst (Lm (List.replicate 200 (ind 1 ++ cSa)))) S := mul_rep (ind 1 ++ cSa) 200 (by decide) S
  have p3 := add_lm [cTr] (List.replicate 200 (ind 1 ++ cSa)) n4 S
  have lm1 : ∀ x, ([D.str (mkS x)] : List D) = Lm [x] := fun _ => rfl
  have lone : ∀ x, (Lm [x]).length = 1 := fun _ => rfl
  have lm3 : ∀ a b c, D.str (mkS a) :: D.str (mkS b) :: Lm [c] = Lm [a, b, c] := fun _ _ _ => rfl
  have l3 : ∀ a b c, (Lm [a, b, c]).length = 3 := fun _ _ _ => rfl
  generalize hW : ind 1 ++ cSa = W1 at *
  generalize hM3 : [cTr] ++ List.replicate 200 W1 = M3 at *
  generalize List.replicate 200 cSa = M1 at *
  generalize List.replicate 201 cSa = M2 at *
  generalize List.replicate 200 W1 = M4 at *
  have al := addL_lst (S := S) (xs := ts) (ys := [joinL 10 M1, joinL 10 M2, joinL 10 M3]) (by simp; omega)
  refine ⟨ts ++ [joinL 10 M1, joinL 10 M2, joinL 10 M3], ?_, fun t h => ?_, by simp; omega⟩
  · generalize joinL 10 M1 = J1 at *
    generalize joinL 10 M2 = J2 at *
    generalize joinL 10 M3 = J3 at *
    generalize hts : ts ++ [J1, J2, J3] = TS at *
    simp [zA6, q10', qSaa, qSaa2, hW, qTr, lm1, lone, k1, r1, r2, r3, j1, j2, p3, j3, lm3, l3, k3, al]
  · rcases List.mem_append.mp h with z | z
    · exact ht t z
    · simp only [List.mem_cons, List.not_mem_nil, or_false] at z
      rcases z with rfl | rfl | rfl
      · exact T1
      · exact T2
      · exact T3
theorem a7_ok (a0 a1 a2 a3 a4 a5 a6 a7 a8 a10 a11 a12 : Option D) : ∀ (ts : List (List Nat)) (o9 : Option D) (S : Sto), (∀ t ∈ ts, Tx t) → ∃ u9 S', loopS (gN 9) L_law_3 (Lm ts) [a0, a1, a2, a3, a4, a5, a6, a7, a8, o9, a10, a11, a12] S = .nx [a0, a1, a2, a3, a4, a5, a6, a7, a8, u9, a10, a11, a12] S'
  | [], o9, S, _ => ⟨o9, S, rfl⟩
  | t :: ts, o9, S, h => by
    obtain ⟨S1, e1, _⟩ := right_g (h t List.mem_cons_self) S
    obtain ⟨u9, S2, e2⟩ := a7_ok a0 a1 a2 a3 a4 a5 a6 a7 a8 a10 a11 a12 ts (some (.str (mkS t))) S1 fun x hx => h x (List.mem_cons_of_mem _ hx)
    have b : L_law_3 [a0, a1, a2, a3, a4, a5, a6, a7, a8, some (.str (mkS t)), a10, a11, a12] S = .nx [a0, a1, a2, a3, a4, a5, a6, a7, a8, some (.str (mkS t)), a10, a11, a12] S1 := by simp [L_law_3, e1]
    refine ⟨u9, S2, ?_⟩
    simp only [Lm, List.map_cons, loopS, gN]
    simp [b]
    exact e2
theorem odd_turn {d : D} (h : ∀ S, oIsi [d, .ty "str"] S = .ok (.bl false) S) (S : Sto) (a0 a1 a2 a3 a4 a5 a6 a7 a8 a9 o11 : Option D) : ∃ u11, L_law_2 [a0, a1, a2, a3, a4, a5, a6, a7, a8, a9, some d, o11, none] S = .nx [a0, a1, a2, a3, a4, a5, a6, a7, a8, a9, some d, u11, none] S := by
  have pe : F_parse_plan [d] S = .exc (BL 0) S := by simp [F_parse_plan, e_fnD, B_parse_plan, h, sRaise, BL]
  have hl : List.lookup (Str.ofString "value") [(Str.ofString "value", D.int 0)] = some (.int 0) := by simp [List.lookup]
  exact ⟨some (.int 0), by simp [L_law_2, sTry, pe, BL, cl1, H_law_1, dXf, hl]⟩
theorem odd_turns (a0 a1 a2 a3 a4 a5 a6 a7 a8 a9 : Option D) (S : Sto) : ∀ (ds : List D) (o10 o11 : Option D), (∀ d ∈ ds, ∀ S, oIsi [d, .ty "str"] S = .ok (.bl false) S) → ∃ u10 u11, loopS (gN 10) L_law_2 ds [a0, a1, a2, a3, a4, a5, a6, a7, a8, a9, o10, o11, none] S = .nx [a0, a1, a2, a3, a4, a5, a6, a7, a8, a9, u10, u11, none] S
  | [], o10, o11, _ => ⟨o10, o11, rfl⟩
  | d :: ds, o10, o11, h => by
    obtain ⟨u, e1⟩ := odd_turn (h d List.mem_cons_self) S a0 a1 a2 a3 a4 a5 a6 a7 a8 a9 o11
    obtain ⟨v10, v11, e2⟩ := odd_turns a0 a1 a2 a3 a4 a5 a6 a7 a8 a9 S ds (some d) u fun x hx => h x (List.mem_cons_of_mem _ hx)
    refine ⟨v10, v11, ?_⟩
    simp only [loopS, gN]
    simp [e1]
    exact e2
theorem cell_ok {ns : List Int} {k : Nat} (hk : k < 64) (o2 o3 o4 o5 o6 o7 o9 o10 o11 : Option D) (S : Sto) : ∃ u2 u3 u4 u5 u6 u7 u9 u10 u11 S', L_law_5 [some (.scr (ns.map .int)), some (.int k), o2, o3, o4, o5, o6, o7, none, o9, o10, o11, none] S = .nx [some (.scr (ns.map .int)), some (.int k), u2, u3, u4, u5, u6, u7, none, u9, u10, u11, none] S' := by
  obtain ⟨x, y, e⟩ := pool_ok (ns := ns) S hk
  have p : PoolAt S.length (S ++ [.lst [.int x, .int y]]) := ⟨x, y, getElem?_snoc _ _⟩
  have s0 : zA0 [some (.scr (ns.map .int)), some (.int k), o2, o3, o4, o5, o6, o7, none, o9, o10, o11, none] S = .nx [some (.scr (ns.map .int)), some (.int k), some (.own S.length), o3, o4, o5, o6, o7, none, o9, o10, o11, none] (S ++ [.lst [.int x, .int y]]) := by simp [zA0, e]
  obtain ⟨L0, S1, s1, ne, ll, lc, p1⟩ := a1_ok p (some (.scr (ns.map .int))) (some (.int k)) o3 o4 o5 o6 o7 none o9 o10 o11 none
  obtain ⟨ts, s2, t2, n2⟩ := a2_ok lc ll ne S1 (some (.scr (ns.map .int))) (some (.int k)) (some (.own S.length)) o4 o5 o6 o7 none o9 o10 o11 none
  have plt : S.length < S1.length := by obtain ⟨_, _, e⟩ := p1; exact (List.getElem?_eq_some_iff.mp e).1
  have p2 : PoolAt S.length (S1 ++ [.lst (Lm ts)]) := by
    obtain ⟨x, y, e⟩ := p1
    exact ⟨x, y, by rw [List.getElem?_append_left plt]; exact e⟩
  have r8 : (rangeD 0 8).length = 8 := by simp [rangeD]
  obtain ⟨u5, u6, ts3, S3, s3, a3, t3, n3⟩ := bend_loop (p := S.length) (a := S1.length) (by omega) lc ll (some (.scr (ns.map .int))) (some (.int k)) o7 none o9 o10 o11 none (rangeD 0 8) ts (S1 ++ [.lst (Lm ts)]) o5 o6 p2 (getElem?_snoc _ _) t2 (by rw [r8]; omega)
  have s3' : zA3 [some (.scr (ns.map .int)), some (.int k), some (.own S.length), some (.lst (Lm L0)), some (.own S1.length), o5, o6, o7, none, o9, o10, o11, none] (S1 ++ [.lst (Lm ts)]) = .nx [some (.scr (ns.map .int)), some (.int k), some (.own S.length), some (.lst (Lm L0)), some (.own S1.length), u5, u6, o7, none, o9, o10, o11, none] S3 := by
    simp [zA3]
    exact s3
  have s4 := a4_ok S3 (some (.scr (ns.map .int))) (some (.int k)) (some (.own S.length)) (some (.lst (Lm L0))) (some (.own S1.length)) u5 u6 o7 o9 o10 o11 none
  obtain ⟨ts5, s5, t5, n5⟩ := a5_ok a3 t3 n3 (some (.scr (ns.map .int))) (some (.int k)) (some (.own S.length)) (some (.lst (Lm L0))) u5 u6 none o9 o10 o11 none
  obtain ⟨ts6, s6, t6, n6⟩ := a6_ok (S := S3) t5 n5 (some (.scr (ns.map .int))) (some (.int k)) (some (.own S.length)) (some (.lst (Lm L0))) u5 u6 (some (.lst (Lm DP))) none o9 o10 o11 none
  obtain ⟨u9, S7, s7⟩ := a7_ok (some (.scr (ns.map .int))) (some (.int k)) (some (.own S.length)) (some (.lst (Lm L0))) (some (.lst (Lm ts6))) u5 u6 (some (.lst (Lm DP))) none o10 o11 none ts6 o9 S3 t6
  have s7' : zA7 [some (.scr (ns.map .int)), some (.int k), some (.own S.length), some (.lst (Lm L0)), some (.lst (Lm ts6)), u5, u6, some (.lst (Lm DP)), none, o9, o10, o11, none] S3 = .nx [some (.scr (ns.map .int)), some (.int k), some (.own S.length), some (.lst (Lm L0)), some (.lst (Lm ts6)), u5, u6, some (.lst (Lm DP)), none, u9, o10, o11, none] S7 := by
    simp [zA7, itemsOf]
    exact s7
  obtain ⟨u10, u11, s8⟩ := odd_turns (some (.scr (ns.map .int))) (some (.int k)) (some (.own S.length)) (some (.lst (Lm L0))) (some (.lst (Lm ts6))) u5 u6 (some (.lst (Lm DP))) none u9 S7 [.non, .int 5, .lst [], .lst (Lm L0)] o10 o11 (fun d hd S => by
    simp only [List.mem_cons, List.not_mem_nil, or_false] at hd
    rcases hd with rfl | rfl | rfl | rfl <;> simp [oIsi, tyName, tyList, subT])
  have k0 : 0 ≤ cap := Nat.zero_le _
  have k4 : 4 ≤ cap := by decide
  have s8' : zA8 [some (.scr (ns.map .int)), some (.int k), some (.own S.length), some (.lst (Lm L0)), some (.lst (Lm ts6)), u5, u6, some (.lst (Lm DP)), none, u9, o10, o11, none] S7 = .nx [some (.scr (ns.map .int)), some (.int k), some (.own S.length), some (.lst (Lm L0)), some (.lst (Lm ts6)), u5, u6, some (.lst (Lm DP)), none, u9, u10, u11, none] S7 := by
    simp [zA8, k0, k4, itemsOf]
    exact s8
  refine ⟨some (.own S.length), some (.lst (Lm L0)), some (.lst (Lm ts6)), u5, u6, some (.lst (Lm DP)), u9, u10, u11, S7, ?_⟩
  rw [L5_eq]
  simp only [e_sSeq, s0, seq_nx, s1, s2, s3', s4, s5, s6, s7', s8']
theorem cells_ok {ns : List Int} (n : Nat) (hn : n ≤ 64) (S : Sto) : ∃ ρ S', loopS (gN 1) L_law_5 (rangeD 0 n) [some (.scr (ns.map .int)), none, none, none, none, none, none, none, none, none, none, none, none] S = .nx ρ S' := by
  obtain ⟨ρ', S', e, _⟩ := loopS_inv (g := gN 1) (body := L_law_5) (fun ρ S => (∃ o1 o2 o3 o4 o5 o6 o7 o9 o10 o11, ρ = [some (.scr (ns.map .int)), o1, o2, o3, o4, o5, o6, o7, none, o9, o10, o11, none])) (ds := rangeD 0 n) (ρ := [some (.scr (ns.map .int)), none, none, none, none, none, none, none, none, none, none, none, none]) (S := S)
    (fun d hd ρ S ⟨o1, o2, o3, o4, o5, o6, o7, o9, o10, o11, e⟩ => by
      subst e
      obtain ⟨i, hi, rfl⟩ := mem_rangeD hd
      rw [Int.zero_add]
      obtain ⟨o2', o3', o4', o5', o6', o7', o9', o10', o11', S', e⟩ := cell_ok (ns := ns) (k := i) (by omega) o2 o3 o4 o5 o6 o7 o9 o10 o11 S
      exact ⟨_, rfl, _, S', e, ⟨_, _, _, _, _, _, _, _, _, _, rfl⟩⟩) ⟨_, _, _, _, _, _, _, _, _, _, rfl⟩
  exact ⟨ρ', S', e⟩
theorem law_ok (ns : List Int) (hn : ns.length ≤ 63) : ∃ S', F_law [.scr (ns.map .int)] [] = .ok (.bl true) S' := by
  have hln : oLen [.scr (ns.map D.int)] [] = .ok (.int ns.length) [] := by simp [oLen, seqOf]
  obtain ⟨m, hm, hm8⟩ : ∃ m : Nat, (if (if (2 : Int) < ns.length then (2 : Int) else ns.length) > 1 then (if (2 : Int) < ns.length then (2 : Int) else ns.length) else 1) = (m : Int) ∧ m ≤ 2 := by
    by_cases h8 : (2 : Int) < ns.length
    · exact ⟨2, by simp [h8], by omega⟩
    · by_cases h1 : (ns.length : Int) > 1
      · exact ⟨ns.length, by simp [h8, h1], by omega⟩
      · exact ⟨1, by simp [h8, h1], by omega⟩
  obtain ⟨ρ, S1, e1⟩ := cells_ok (ns := ns) m (by omega) []
  have c1 : (-4611686018427387904 : Int) ≤ m ∧ (m : Int) < 4611686018427387904 := by omega
  refine ⟨S1, ?_⟩
  simp [F_law, e_fnD, B_law, hln, oMin, oMax, hm, c1, e1]
end G

theorem PySem.Challenge.cw_tombkeeper_k77_whole_plan_lines_judged_holds : PySem.Challenge.rw_tombkeeper_k77_whole_plan_lines_judged.Holds := by
  exact G.cw G.law_ok
