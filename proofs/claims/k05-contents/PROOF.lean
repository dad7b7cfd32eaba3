import PyProof.Rows.All
import Wide.All
import OpenK.AllK
import Wide.FinOn
import KE.KStateDown
import HandS.Base
import HandS.Call
import HandS.List
import HandS.Comp
import HandS.Exc
import HandS.Dict
import HandS.HeadHook1
import HandS.HeadHook2
import HandS.Head0
import HandS.Head1
import HandS.Head2
import HandS.HeadEnd
import HandS.Words
import HandS.WordsList
import HandS.WordsDict
import HandS.WordsExc
import HandS.Ends
import HandS.Iter
import HandS.Text
import HandS.CallSlots
import HandS.ExcOwn
import HandS.Defaults
import HandS.ExcInit
import HandS.Lambda
import HandS.HeadHook4
import HandS.IsInst
import HandS.TupAny
import HandS.TupMul
import HandS.Style
import HandS.RaiseMore
import KE.KUnpackStar
import HandS.ExcField
import HandS.ExcIs
import KE.KExcIs
import HandS.SetTxt0
import HandS.SetFor
import HandS.Set
import PyProof.Rows.SortShellAny
import HandS.NoneIn
import HandS.Deep
import KE.KRevSl
import HandS.StrSplit
import HandS.FStr
import HandS.ReplaceLit
import HandS.Steps
import HandS.Star
import HandS.Property
import HandS.MakeKw
import KE.KIsAll
import OpenK.KOps
import HandS.Flow
import HandS.TryOnly
import KE.KExcInit
import KE.SortKeyHeap
import KE.SortData
import KE.KLam
import KE.DataCmp
import HandS.DictComp
import HandS.SetBool
import HandS.SetKeys
import HandS.Small
import PyProof.InstNe
import HandS.TryMany
import HandS.More
import KE.KEqDict
import PyProof.NeKinds
import HandS.Wide
import PyProof.ReprLen
import PyProof.StrLawsRepr
import PySem.Challenge.RW_tombkeeper_k05_contents_told
set_option Elab.async false
set_option linter.all false
set_option maxRecDepth 100000
set_option maxHeartbeats 4000000
namespace DE
open PySem L2

inductive D where
  | non | bl (b : Bool) | int (i : Int) | str (s : Str) | ty (n : String) | glo (x : Str)
  | tup (xs : List D) | lst (xs : List D) | scr (xs : List D)
  | dK (kvs : List (Key × D)) | dT (kvs : List (List Key × D))
  | obj (c : Str) (fs : List (Str × D))
  | own (k : Nat)
  /-- the exception that a suite holds: where it, its dict stand; its fields -/
  | xcp (a dd : Nat) (fs : List (Str × D))
  /-- an exception of the program's own, as a value -/
  | exo (c : Str) (fs : List (Str × D))
  /-- (in the store alone) the table of the code objects that the method m of c has made: each bears the name q -/
  | tab (c : Str) (m : Option Str) (q : Str)

/-- what is owned (by its number), what is hidden -/
structure Ow where
  l : List Addr
  u : List Addr
def Ow.no (O : Ow) (a : Addr) : Prop := a ∉ O.l ∧ a ∉ O.u
def Ow.add (O : Ow) (p : Addr) : Ow := ⟨O.l ++ [p], O.u⟩
/-- a list written by the top -/
def WrL (K : PySem.W.Frag) (a : Addr) (xs : List V) : Prop := SqL K (fun _ => none) a xs
def WrT (K : PySem.W.Frag) (a : Addr) (xs : List V) : Prop := SqT K (fun _ => none) a xs
theorem sqT_of {K : PySem.W.Frag} {H : Hp} {a : Addr} {xs : List V} (h : H a = some (.tup xs) ∨ WrT K a xs) : SqT K H a xs := by
  rcases h with h | (h | ⟨_, h⟩) | h
  · exact .inl (.inl h)
  · cases h
  · cases h
  · exact .inr h
theorem sqL_of {K : PySem.W.Frag} {H : Hp} {a : Addr} {xs : List V} (h : Rd H a (.lst xs) ∨ WrL K a xs) : SqL K H a xs := by
  rcases h with h | (h | ⟨_, h⟩) | h
  · exact .inl h
  · cases h
  · cases h
  · exact .inr h

mutual
def Rep (K : PySem.W.Frag) (O : Ow) (H : Hp) : D → V → Prop
  | .non, v => v = .non
  | .bl b, v => v = .bl b
  | .int i, v => v = .int i
  | .str s, v => v = .str s
  | .ty n, v => v = .ty n
  | .glo x, v => v = .ref (He.ga K x)
  | .tup ds, v => ∃ a xs, v = .ref a ∧ (H a = some (.tup xs) ∨ WrT K a xs) ∧ Reps K O H ds xs
  | .lst ds, v => ∃ a xs, v = .ref a ∧ O.no a ∧ H a = some (.lst xs) ∧ Reps K O H ds xs
  | .scr ds, v => ∃ a xs, v = .ref a ∧ ((O.no a ∧ Rd H a (.lst xs)) ∨ WrL K a xs) ∧ Reps K O H ds xs
  | .dK kvs, v => ∃ a vs, v = .ref a ∧ O.no a ∧ Rd H a (.dK vs) ∧ RepK K O H kvs vs
  | .dT kvs, v => ∃ a vs, v = .ref a ∧ O.no a ∧ Rd H a (.dT vs) ∧ RepT K O H kvs vs
  | .obj c fs, v => ∃ a dx vs, v = .ref a ∧ O.no a ∧ H a = some (.ins (He.ga K c) dx vs) ∧ RepF K O H fs vs
  | .own k, v => ∃ a, O.l[k]? = some a ∧ v = .ref a
  | .xcp a dd fs, v => v = .ref a ∧ ∃ vs, O.no dd ∧ H dd = some (.xd vs) ∧ RepF K O H fs vs
  | .exo c fs, v => ∃ a dd vs, v = .ref a ∧ O.no a ∧ H a = some (L2.exo a (He.ga K c) dd) ∧ (∀ y, dd = some y → O.no y ∧ H y = some (.xd vs)) ∧ (dd = none → vs = []) ∧ RepF K O H fs vs
  | .tab _ _ _, _ => False
def Reps (K : PySem.W.Frag) (O : Ow) (H : Hp) : List D → List V → Prop
  | [], vs => vs = []
  | d :: ds, vs => ∃ v r, vs = v :: r ∧ Rep K O H d v ∧ Reps K O H ds r
def RepK (K : PySem.W.Frag) (O : Ow) (H : Hp) : List (Key × D) → List (Key × V) → Prop
  | [], vs => vs = []
  | (k, d) :: ds, vs => ∃ v r, vs = (k, v) :: r ∧ Rep K O H d v ∧ RepK K O H ds r
def RepT (K : PySem.W.Frag) (O : Ow) (H : Hp) : List (List Key × D) → List (List Key × V) → Prop
  | [], vs => vs = []
  | (k, d) :: ds, vs => ∃ v r, vs = (k, v) :: r ∧ Rep K O H d v ∧ RepT K O H ds r
def RepF (K : PySem.W.Frag) (O : Ow) (H : Hp) : List (Str × D) → List (Str × V) → Prop
  | [], vs => vs = []
  | (k, d) :: ds, vs => ∃ v r, vs = (k, v) :: r ∧ Rep K O H d v ∧ RepF K O H ds r
end

/-- what stands in the store: the object at a is d's top -/
def Cell (K : PySem.W.Frag) (O : Ow) (H : Hp) (a : Addr) : D → Prop
  | .lst ds => ∃ xs, H a = some (.lst xs) ∧ Reps K O H ds xs
  | .dK kvs => ∃ vs, H a = some (.dK vs) ∧ RepK K O H kvs vs
  | .dT kvs => ∃ vs, H a = some (.dT vs) ∧ RepT K O H kvs vs
  | .obj c fs => ∃ dx vs, H a = some (.ins (He.ga K c) dx vs) ∧ RepF K O H fs vs
  | .tab c m q => ∃ ps : Array Value, H a = some (.tbl ps) ∧ a = (He.cT K (c, m)).2 ∧ PySem.TriplesOk ps.toList ∧ ∀ (pos : Pos) (cv : Value), codeAmong pos ps.toList = some cv → ∃ c, cv = .ref c ∧ O.no c ∧ H c = some (LamX.CodeO c q)
  | _ => False
abbrev Sto := List D
/-- what may be hidden: no tuple, nothing locked, no error's dict -/
def Solid (o : HO) : Prop := (∀ xs, o ≠ .tup xs) ∧ (∀ ob u, o ≠ .frz ob u) ∧ ∀ vs, o ≠ .xd vs
structure WF (K : PySem.W.Frag) (O : Ow) (H : Hp) (S : Sto) : Prop where
  nd : O.l.Nodup
  len : S.length = O.l.length
  cell : ∀ (k : Nat) a d, O.l[k]? = some a → S[k]? = some d → Cell K O H a d
  hid : ∀ a ∈ O.u, a ∉ O.l ∧ ∃ o, H a = some o ∧ Solid o
/-- H' goes on from H: all but what is owned stands; what is newly owned or hidden was not there -/
structure Ext (O : Ow) (H : Hp) (O' : Ow) (H' : Hp) : Prop where
  pre : ∃ m, O'.l = O.l ++ m ∧ ∀ a ∈ m, H a = none
  preu : ∃ m, O'.u = m ++ O.u ∧ ∀ a ∈ m, H a = none
  keep : ∀ a o, a ∉ O.l → H a = some o → H' a = some o
  tups : ∀ a xs, H a = some (.tup xs) → H' a = some (.tup xs)
  there : ∀ a, H a ≠ none → H' a ≠ none
/-- .. what is hidden may have changed, too -/
structure ExtW (O : Ow) (H : Hp) (O' : Ow) (H' : Hp) : Prop where
  at_ : ∀ (k : Nat) a, O.l[k]? = some a → O'.l[k]? = some a
  notin : ∀ a o, O.no a → H a = some o → O'.no a
  keep : ∀ a o, O.no a → H a = some o → H' a = some o
  tups : ∀ a xs, H a = some (.tup xs) → H' a = some (.tup xs)
  frzs : ∀ a o u, H a = some (.frz o u) → H' a = some (.frz o u)
theorem Ext.refl {O H} : Ext O H O H := ⟨⟨[], by simp, fun _ h => by cases h⟩, ⟨[], by simp, fun _ h => by cases h⟩, fun _ _ _ h => h, fun _ _ h => h, fun _ h => h⟩
theorem Ext.trans {O H O1 H1 O2 H2} (e : Ext O H O1 H1) (f : Ext O1 H1 O2 H2) : Ext O H O2 H2 := by
  obtain ⟨m, q1, hm⟩ := e.pre
  obtain ⟨m2, q2, hm2⟩ := f.pre
  obtain ⟨n, p1, hn⟩ := e.preu
  obtain ⟨n2, p2, hn2⟩ := f.preu
  have back : ∀ a, H1 a = none → H a = none := fun a h => by
    cases q : H a with
    | none => rfl
    | some o => exact absurd h (e.there a (by rw [q]; exact fun z => nomatch z))
  refine ⟨⟨m ++ m2, by rw [q2, q1]; simp, fun a ha => ?_⟩, ⟨n2 ++ n, by rw [p2, p1]; simp, fun a ha => ?_⟩, fun a o na h => ?_, fun a xs h => f.tups a xs (e.tups a xs h), fun a h => f.there a (e.there a h)⟩
  · rcases List.mem_append.mp ha with h | h
    · exact hm a h
    · exact back a (hm2 a h)
  · rcases List.mem_append.mp ha with h | h
    · exact back a (hn2 a h)
    · exact hn a h
  · refine f.keep a o (fun z => ?_) (e.keep a o na h)
    rw [q1] at z
    rcases List.mem_append.mp z with z | z
    · exact na z
    · rw [hm a z] at h; cases h
theorem Ext.at {O H O' H'} (e : Ext O H O' H') {k : Nat} {a} (h : O.l[k]? = some a) : O'.l[k]? = some a := by
  obtain ⟨m, q, hm⟩ := e.pre
  rw [q, List.getElem?_append_left (List.getElem?_eq_some_iff.mp h).1]; exact h
theorem Ext.notin {O H O' H' a o} (e : Ext O H O' H') (na : O.no a) (h : H a = some o) : O'.no a := by
  obtain ⟨m, q, hm⟩ := e.pre
  obtain ⟨n, p, hn⟩ := e.preu
  refine ⟨fun z => ?_, fun z => ?_⟩
  · rw [q] at z
    rcases List.mem_append.mp z with z | z
    · exact na.1 z
    · rw [hm a z] at h; cases h
  · rw [p] at z
    rcases List.mem_append.mp z with z | z
    · rw [hn a z] at h; cases h
    · exact na.2 z
theorem WF.cases {K O H S} (w : WF K O H S) {a : Addr} (ha : a ∈ O.l ∨ a ∈ O.u) : ∃ o, H a = some o ∧ (∀ xs, o ≠ .tup xs) ∧ ∀ ob u, o ≠ .frz ob u := by
  rcases ha with ha | ha
  · obtain ⟨k, hk⟩ := List.mem_iff_getElem?.mp ha
    have hl : k < S.length := by rw [w.len]; exact (List.getElem?_eq_some_iff.mp hk).1
    have c := w.cell k a S[k] hk (by simp [hl])
    cases q : S[k] <;> rw [q] at c <;> simp only [Cell] at c
    all_goals first
      | exact c.elim
      | (obtain ⟨xs, c, _⟩ := c; exact ⟨_, c, (fun _ z => by cases z), (fun _ _ z => by cases z)⟩)
      | (obtain ⟨dx, xs, c, _⟩ := c; exact ⟨_, c, (fun _ z => by cases z), (fun _ _ z => by cases z)⟩)
  · obtain ⟨_, o, c, h1, h2, _⟩ := w.hid a ha
    exact ⟨_, c, h1, h2⟩
theorem WF.nofrz {K O H S} (w : WF K O H S) : ∀ a, a ∈ O.l ∨ a ∈ O.u → ∀ o u, H a ≠ some (.frz o u) := fun a ha o u h => by
  obtain ⟨o', h', _, n⟩ := w.cases ha
  rw [h] at h'; exact n o u (Option.some.inj h').symm
theorem WF.there {K O H S} (w : WF K O H S) : ∀ a, a ∈ O.l ∨ a ∈ O.u → H a ≠ none := fun a ha h => by
  obtain ⟨o', h', _, n⟩ := w.cases ha
  rw [h] at h'; cases h'
theorem WF.notup {K O H S} (w : WF K O H S) : ∀ a, a ∈ O.l ∨ a ∈ O.u → ∀ xs, H a ≠ some (.tup xs) := fun a ha u h => by
  obtain ⟨o', h', n, _⟩ := w.cases ha
  rw [h] at h'; exact n u (Option.some.inj h').symm
theorem Ext.w {K O H O' H' S} (e : Ext O H O' H') (w : WF K O H S) : ExtW O H O' H' :=
  ⟨fun _ _ h => e.at h, fun _ _ n h => e.notin n h, fun a o n h => e.keep a o n.1 h, e.tups, fun a o u h => e.keep a _ (fun z => w.nofrz a (.inl z) o u h) h⟩
theorem ExtW.rd {O H O' H' a u} (e : ExtW O H O' H') (na : O.no a) (h : Rd H a u) : O'.no a ∧ Rd H' a u := by
  rcases h with h | ⟨o, h⟩
  · exact ⟨e.notin _ _ na h, .inl (e.keep _ _ na h)⟩
  · exact ⟨e.notin _ _ na h, .inr ⟨o, e.keep _ _ na h⟩⟩
theorem ExtW.sqT {K O H O' H' a xs} (e : ExtW O H O' H') (h : SqT K H a xs) : SqT K H' a xs := by
  rcases h with (h | ⟨o, h⟩) | h
  · exact .inl (.inl (e.tups _ _ h))
  · exact .inl (.inr ⟨o, e.frzs _ _ _ h⟩)
  · exact .inr h
section
variable {K : PySem.W.Frag} {O O' : Ow} {H H' : Hp}
mutual
theorem Rep.mono (e : ExtW O H O' H') : ∀ {d : D} {v : V}, Rep K O H d v → Rep K O' H' d v
  | .non, _, h => h
  | .bl _, _, h => h
  | .int _, _, h => h
  | .str _, _, h => h
  | .ty _, _, h => h
  | .glo _, _, h => h
  | .tup _, _, h => by
    obtain ⟨a, xs, rfl, h1, h2⟩ := h
    exact ⟨a, xs, rfl, h1.imp (e.tups _ _) id, Reps.mono e h2⟩
  | .lst _, _, h => by
    obtain ⟨a, xs, rfl, n, h1, h2⟩ := h
    exact ⟨a, xs, rfl, e.notin _ _ n h1, e.keep _ _ n h1, Reps.mono e h2⟩
  | .scr _, _, h => by
    obtain ⟨a, xs, rfl, h1, h2⟩ := h
    refine ⟨a, xs, rfl, ?_, Reps.mono e h2⟩
    rcases h1 with ⟨n, h1⟩ | h1
    · exact .inl (e.rd n h1)
    · exact .inr h1
  | .dK _, _, h => by
    obtain ⟨a, xs, rfl, n, h1, h2⟩ := h
    exact ⟨a, xs, rfl, (e.rd n h1).1, (e.rd n h1).2, RepK.mono e h2⟩
  | .dT _, _, h => by
    obtain ⟨a, xs, rfl, n, h1, h2⟩ := h
    exact ⟨a, xs, rfl, (e.rd n h1).1, (e.rd n h1).2, RepT.mono e h2⟩
  | .obj _ _, _, h => by
    obtain ⟨a, dx, xs, rfl, n, h1, h2⟩ := h
    exact ⟨a, dx, xs, rfl, e.notin _ _ n h1, e.keep _ _ n h1, RepF.mono e h2⟩
  | .own _, _, h => by
    obtain ⟨a, h1, rfl⟩ := h
    exact ⟨a, e.at_ _ _ h1, rfl⟩
  | .xcp _ _ _, _, h => by
    obtain ⟨rfl, vs, n, h1, h2⟩ := h
    exact ⟨rfl, vs, e.notin _ _ n h1, e.keep _ _ n h1, RepF.mono e h2⟩
  | .exo _ _, _, h => by
    obtain ⟨a, dd, vs, rfl, n, h1, m, z, h3⟩ := h
    exact ⟨a, dd, vs, rfl, e.notin _ _ n h1, e.keep _ _ n h1, fun y q => ⟨e.notin _ _ (m y q).1 (m y q).2, e.keep _ _ (m y q).1 (m y q).2⟩, z, RepF.mono e h3⟩
  | .tab _ _ _, _, h => h.elim
theorem Reps.mono (e : ExtW O H O' H') : ∀ {d : List D} {v : List V}, Reps K O H d v → Reps K O' H' d v
  | [], _, h => h
  | _ :: _, _, h => by
    obtain ⟨v, r, rfl, h1, h2⟩ := h
    exact ⟨v, r, rfl, Rep.mono e h1, Reps.mono e h2⟩
theorem RepK.mono (e : ExtW O H O' H') : ∀ {d : List (Key × D)} {v : List (Key × V)}, RepK K O H d v → RepK K O' H' d v
  | [], _, h => h
  | (_, _) :: _, _, h => by
    obtain ⟨v, r, rfl, h1, h2⟩ := h
    exact ⟨v, r, rfl, Rep.mono e h1, RepK.mono e h2⟩
theorem RepT.mono (e : ExtW O H O' H') : ∀ {d : List (List Key × D)} {v : List (List Key × V)}, RepT K O H d v → RepT K O' H' d v
  | [], _, h => h
  | (_, _) :: _, _, h => by
    obtain ⟨v, r, rfl, h1, h2⟩ := h
    exact ⟨v, r, rfl, Rep.mono e h1, RepT.mono e h2⟩
theorem RepF.mono (e : ExtW O H O' H') : ∀ {d : List (Str × D)} {v : List (Str × V)}, RepF K O H d v → RepF K O' H' d v
  | [], _, h => h
  | (_, _) :: _, _, h => by
    obtain ⟨v, r, rfl, h1, h2⟩ := h
    exact ⟨v, r, rfl, Rep.mono e h1, RepF.mono e h2⟩
end
theorem Cell.mono {a : Addr} {d : D} (e : ExtW O H O' H') (h : Cell K O H a d) (k : H' a = H a) : Cell K O' H' a d := by
  cases d <;> simp only [Cell] at h ⊢
  case lst => obtain ⟨xs, h1, h2⟩ := h; exact ⟨xs, k.trans h1, h2.mono e⟩
  case dK => obtain ⟨xs, h1, h2⟩ := h; exact ⟨xs, k.trans h1, h2.mono e⟩
  case dT => obtain ⟨xs, h1, h2⟩ := h; exact ⟨xs, k.trans h1, h2.mono e⟩
  case obj => obtain ⟨dx, xs, h1, h2⟩ := h; exact ⟨dx, xs, k.trans h1, h2.mono e⟩
  case tab =>
    obtain ⟨ps, h1, h2, h3, h4⟩ := h
    refine ⟨ps, k.trans h1, h2, h3, fun pos cv z => ?_⟩
    obtain ⟨c, e1, e2, e3⟩ := h4 pos cv z
    exact ⟨c, e1, e.notin _ _ e2 e3, e.keep _ _ e2 e3⟩
theorem Reps.length : ∀ {ds : List D} {vs : List V}, Reps K O H ds vs → ds.length = vs.length
  | [], _, h => by cases h; rfl
  | _ :: _, _, h => by
    obtain ⟨v, r, rfl, _, h2⟩ := h
    simp [Reps.length h2]
theorem Reps.append : ∀ {ds es : List D} {vs us : List V}, Reps K O H ds vs → Reps K O H es us → Reps K O H (ds ++ es) (vs ++ us)
  | [], _, _, _, h, h' => by cases h; exact h'
  | _ :: _, _, _, _, h, h' => by
    obtain ⟨v, r, rfl, h1, h2⟩ := h
    exact ⟨v, r ++ _, rfl, h1, Reps.append h2 h'⟩
theorem Reps.get : ∀ {ds : List D} {vs : List V} {i : Nat} {d : D}, Reps K O H ds vs → ds[i]? = some d → ∃ v, vs[i]? = some v ∧ Rep K O H d v
  | [], _, _, _, _, e => by simp at e
  | _ :: _, _, 0, _, h, e => by
    obtain ⟨v, r, rfl, h1, h2⟩ := h
    simp at e; subst e; exact ⟨v, rfl, h1⟩
  | _ :: _, _, i + 1, _, h, e => by
    obtain ⟨v, r, rfl, h1, h2⟩ := h
    exact Reps.get (i := i) h2 (by simpa using e)
theorem Reps.get' : ∀ {ds : List D} {vs : List V} {i : Nat} {v : V}, Reps K O H ds vs → vs[i]? = some v → ∃ d, ds[i]? = some d ∧ Rep K O H d v
  | [], _, _, _, h, e => by cases h; simp at e
  | _ :: _, _, 0, _, h, e => by
    obtain ⟨v, r, rfl, h1, h2⟩ := h
    simp at e; subst e; exact ⟨_, rfl, h1⟩
  | _ :: _, _, i + 1, _, h, e => by
    obtain ⟨v, r, rfl, h1, h2⟩ := h
    exact Reps.get' (i := i) h2 (by simpa using e)
theorem Reps.set {d : D} {v : V} (hr : Rep K O H d v) : ∀ {ds : List D} {vs : List V} (i : Nat), Reps K O H ds vs → Reps K O H (ds.set i d) (vs.set i v)
  | [], _, _, h => by cases h; exact rfl
  | _ :: _, _, 0, h => by
    obtain ⟨u, r, rfl, h1, h2⟩ := h
    exact ⟨v, r, rfl, hr, h2⟩
  | _ :: _, _, i + 1, h => by
    obtain ⟨u, r, rfl, h1, h2⟩ := h
    exact ⟨u, _, rfl, h1, Reps.set hr i h2⟩
theorem Reps.take : ∀ {ds : List D} {vs : List V} (n : Nat), Reps K O H ds vs → Reps K O H (ds.take n) (vs.take n)
  | _, _, 0, _ => by simp [Reps]
  | [], _, _ + 1, h => by cases h; exact rfl
  | _ :: _, _, n + 1, h => by
    obtain ⟨u, r, rfl, h1, h2⟩ := h
    exact ⟨u, _, rfl, h1, Reps.take n h2⟩
theorem Reps.drop : ∀ {ds : List D} {vs : List V} (n : Nat), Reps K O H ds vs → Reps K O H (ds.drop n) (vs.drop n)
  | _, _, 0, h => by simpa using h
  | [], _, _ + 1, h => by cases h; exact rfl
  | _ :: _, _, n + 1, h => by
    obtain ⟨u, r, rfl, h1, h2⟩ := h
    exact Reps.drop n h2
end

/-! ### environments -/
abbrev Env := List (Option D)
def RepO (K : PySem.W.Frag) (O : Ow) (H : Hp) : Option D → Option V → Prop
  | none, _ => True
  | some d, u => ∃ v, u = some v ∧ Rep K O H d v
inductive REnv (K : PySem.W.Frag) (O : Ow) (H : Hp) : Env → St → Prop where
  | nil : REnv K O H [] []
  | cons {d v ρ σ} : RepO K O H d v → REnv K O H ρ σ → REnv K O H (d :: ρ) (v :: σ)
section
variable {K : PySem.W.Frag} {O O' : Ow} {H H' : Hp}
theorem REnv.mono (e : ExtW O H O' H') : ∀ {ρ : Env} {σ : St}, REnv K O H ρ σ → REnv K O' H' ρ σ
  | _, _, .nil => .nil
  | _, _, .cons (d := none) h t => .cons trivial (t.mono e)
  | _, _, .cons (d := some _) ⟨v, e1, h⟩ t => .cons ⟨v, e1, h.mono e⟩ (t.mono e)
theorem REnv.get : ∀ {ρ : Env} {σ : St} {i : Nat} {d : D}, REnv K O H ρ σ → ρ[i]? = some (some d) → ∃ v, σ[i]? = some (some v) ∧ Rep K O H d v
  | _, _, _, _, .nil, e => by simp at e
  | _, _, 0, _, .cons h t, e => by
    simp at e; subst e
    obtain ⟨v, rfl, h⟩ := h
    exact ⟨v, rfl, h⟩
  | _, _, i + 1, _, .cons h t, e => by
    simpa using REnv.get (i := i) t (by simpa using e)
theorem REnv.set {d : D} {v : V} (hr : Rep K O H d v) : ∀ {ρ : Env} {σ : St} (i : Nat), REnv K O H ρ σ → REnv K O H (ρ.set i (some d)) (σ.set i (some v))
  | _, _, _, .nil => .nil
  | _, _, 0, .cons h t => .cons ⟨v, rfl, hr⟩ t
  | _, _, i + 1, .cons h t => .cons h (REnv.set hr i t)
theorem REnv.unset {u : Option V} : ∀ {ρ : Env} {σ : St} (i : Nat), REnv K O H ρ σ → REnv K O H (ρ.set i none) (σ.set i u)
  | _, _, _, .nil => .nil
  | _, _, 0, .cons h t => .cons trivial t
  | _, _, i + 1, .cons h t => .cons h (REnv.unset i t)
theorem REnv.app : ∀ {ρ : Env} {σ : St}, REnv K O H ρ σ → ∀ n, REnv K O H (ρ ++ List.replicate n none) (σ ++ List.replicate n none)
  | _, _, .nil, 0 => .nil
  | _, _, .nil, n + 1 => .cons trivial (REnv.app .nil n)
  | _, _, .cons h t, n => .cons h (t.app n)
theorem REnv.of : ∀ {ds : List D} {vs : List V}, Reps K O H ds vs → REnv K O H (ds.map some) (vs.map some)
  | [], _, h => by cases h; exact .nil
  | _ :: _, _, h => by
    obtain ⟨u, r, rfl, h1, h2⟩ := h
    exact .cons ⟨u, rfl, h1⟩ (REnv.of h2)
end
structure Stt (K : PySem.W.Frag) (O : Ow) (H : Hp) (ρ : Env) (σ : St) (S : Sto) : Prop where
  wf : WF K O H S
  env : REnv K O H ρ σ

/-! ### results -/
/-- an exception of the program's own: its class, its fields -/
structure Exc where
  c : Str
  fs : List (Str × D)
inductive RE (α : Type) where
  | ok (a : α) (S : Sto) | exc (x : Exc) (S : Sto) | bad
def RE.bind {α β : Type} (r : RE α) (f : α → Sto → RE β) : RE β := match r with
  | .ok a S => f a S
  | .exc x S => .exc x S
  | .bad => .bad
@[simp] theorem RE.bind_ok {α β : Type} (a : α) (S : Sto) (f : α → Sto → RE β) : (RE.ok a S).bind f = f a S := id rfl
@[simp] theorem RE.bind_exc {α β : Type} (x : Exc) (S : Sto) (f : α → Sto → RE β) : (RE.exc x S).bind f = .exc x S := id rfl
@[simp] theorem RE.bind_bad {α β : Type} (f : α → Sto → RE β) : (RE.bad : RE α).bind f = .bad := id rfl
abbrev ME := Env → Sto → RE D
abbrev MT := Env → Sto → RE Bool
abbrev MA := Env → Sto → RE (List D)
inductive RS where
  | nx (ρ : Env) (S : Sto) | rt (d : D) (S : Sto) | bk (ρ : Env) (S : Sto) | ct (ρ : Env) (S : Sto) | exc (x : Exc) (ρ : Env) (S : Sto) | bad
abbrev MS := Env → Sto → RS
def RepX (K : PySem.W.Frag) (O : Ow) (H : Hp) (x : Exc) (cls : Value) (dx : Option Addr) : Prop :=
  cls = .ref (He.ga K x.c) ∧ ∃ a vs, dx = some a ∧ H a = some (.xd vs) ∧ RepF K O H x.fs vs

/-- what is wanted behind an expression: Rl says how the datum shows -/
def After {α β : Type} (K : PySem.W.Frag) (W : WX) (Rl : Ow → Hp → α → β → Prop) (ρ : Env) (σ : St) (O : Ow) (H : Hp) (Q : β → Hp → Prop) : RE α → Prop
  | .ok d S' => ∀ O' H' v, Ext O H O' H' → Stt K O' H' ρ σ S' → Rl O' H' d v → Q v H'
  | .exc x S' => ∀ O' H' cls dx, Ext O H O' H' → Stt K O' H' ρ σ S' → RepX K O' H' x cls dx → W cls dx σ H'
  | .bad => False
section
variable {K : PySem.W.Frag} {W : WX} {ρ : Env} {σ : St} {O O' : Ow} {H H' : Hp} {S : Sto} {α β γ δ : Type}
theorem After.mono {Rl : Ow → Hp → α → β → Prop} {Q : β → Hp → Prop} {r : RE α} (h : After K W Rl ρ σ O H Q r) (e : Ext O H O' H') : After K W Rl ρ σ O' H' Q r := by
  cases r with
  | ok d S' => exact fun O2 H2 v e2 st rl => h O2 H2 v (e.trans e2) st rl
  | exc x S' => exact fun O2 H2 cls dx e2 st rl => h O2 H2 cls dx (e.trans e2) st rl
  | bad => exact h
theorem After.seq {Rl : Ow → Hp → α → β → Prop} {Rm : Ow → Hp → γ → δ → Prop} {Q : δ → Hp → Prop} {Q1 : β → Hp → Prop} {r : RE α} {g : α → Sto → RE γ} (h : After K W Rm ρ σ O H Q (r.bind g))
    (k : ∀ d S1 O1 H1 v, Ext O H O1 H1 → Stt K O1 H1 ρ σ S1 → Rl O1 H1 d v → After K W Rm ρ σ O1 H1 Q (g d S1) → Q1 v H1) : After K W Rl ρ σ O H Q1 r := by
  cases r with
  | ok d S' => exact fun O1 H1 v e st rl => k d S' O1 H1 v e st rl (After.mono h e)
  | exc x S' => exact fun O2 H2 cls dx e2 st rl => h O2 H2 cls dx e2 st rl
  | bad => exact h.elim
theorem After.ok {Rl : Ow → Hp → α → β → Prop} {Q : β → Hp → Prop} {d : α} {v : β} (h : After K W Rl ρ σ O H Q (.ok d S)) (st : Stt K O H ρ σ S) (r : Rl O H d v) : Q v H := h O H v .refl st r
end
/-- readings of data -/
def tE (K : PySem.W.Frag) (W : WX) (f : ME) : TE := fun σ H Q => ∃ O ρ S, Stt K O H ρ σ S ∧ After K W (Rep K) ρ σ O H Q (f ρ S)
def tT (K : PySem.W.Frag) (W : WX) (f : MT) : TT := fun σ H Q => ∃ O ρ S, Stt K O H ρ σ S ∧ After K W (fun _ _ a b => a = b) ρ σ O H Q (f ρ S)
def tA (K : PySem.W.Frag) (W : WX) (f : MA) : TA := fun σ H Q => ∃ O ρ S, Stt K O H ρ σ S ∧ After K W (Reps K) ρ σ O H Q (f ρ S)
structure DE (X : Cx) (W : WX) (e : Expr) (f : ME) : Prop where
  pe : PE X e (tE X.K W f)
structure DT (X : Cx) (W : WX) (e : Expr) (f : MT) : Prop where
  pt : PT X e (tT X.K W f)
structure DW (X : Cx) (W : WX) (e : Expr) (f : MT) : Prop where
  pw : PW X e (tT X.K W f)
structure DA (X : Cx) (W : WX) (es : List Expr) (f : MA) : Prop where
  pa : PA X es (tA X.K W f)
theorem PE.imp {X : Cx} {e : Expr} {t t' : TE} (h : PE X e t) (k : ∀ σ H Q, t' σ H Q → t σ H Q) : PE X e t' := ⟨fun pins s σ H Q I q => h.run pins s σ H Q I (k σ H Q q)⟩
theorem PT.imp {X : Cx} {e : Expr} {t t' : TT} (h : PT X e t) (k : ∀ σ H Q, t' σ H Q → t σ H Q) : PT X e t' := ⟨fun pins s σ H Q I q => h.run pins s σ H Q I (k σ H Q q)⟩
theorem PW.imp {X : Cx} {e : Expr} {t t' : TT} (h : PW X e t) (k : ∀ σ H Q, t' σ H Q → t σ H Q) : PW X e t' := ⟨fun wh pins s σ H Q I q => h.run wh pins s σ H Q I (k σ H Q q)⟩
theorem PA.imp {X : Cx} {e : List Expr} {t t' : TA} (h : PA X e t) (k : ∀ σ H Q, t' σ H Q → t σ H Q) : PA X e t' := ⟨fun p pins s σ H Q I q => h.run p pins s σ H Q I (k σ H Q q)⟩
theorem PS.imp {X : Cx} {e : Stmt} {t t' : TS} (h : PS X e t) (k : ∀ D σ H, t' D σ H → t D σ H) : PS X e t' := ⟨fun pins s σ H D I q => h.run pins s σ H D I (k D σ H q)⟩
theorem PSs.imp {X : Cx} {e : List Stmt} {t t' : TS} (h : PSs X e t) (k : ∀ D σ H, t' D σ H → t D σ H) : PSs X e t' := ⟨fun pins s σ H D I q => h.run pins s σ H D I (k D σ H q)⟩

section
variable {X : Cx} {W : WX} {a b c : Expr} {f g h : ME} {pos : Pos}
/-! ### names, constants -/
def dVar (i : Nat) : ME := fun ρ S => match ρ[i]? with
  | some (some d) => .ok d S
  | _ => .bad
def dC (d : D) : ME := fun _ S => .ok d S
theorem de_var (i : Nat) {x : Str} (hN : X.N[i]? = some x) (hv : Vis X.env.scope x) (hd : (x == ("__debug__" : Str)) = false := by decide) (hcd : (x == ("__classdict__" : Str)) = false := by decide) : DE X W (.Name x pos) (dVar i) := ⟨PE.imp (pe_var hN hv hd hcd) fun σ H Q ⟨O, ρ, S, st, h⟩ => by
  unfold dVar at h
  split at h
  · rename_i d q
    obtain ⟨v, e, r⟩ := st.env.get q
    exact ⟨v, e, h.ok st r⟩
  · exact h.elim⟩
theorem de_const {d : D} {v : V} (hp : PE X a (tC v)) (r : ∀ O H, Rep X.K O H d v) : DE X W a (dC d) := ⟨PE.imp hp fun σ H Q ⟨O, ρ, S, st, h⟩ => After.ok h st (r O H)⟩
theorem de_int {i j} : DE X W (.Constant (.int i) j pos) (dC (.int i)) := de_const pe_int fun _ _ => rfl
theorem de_bl {i j} : DE X W (.Constant (.bool i) j pos) (dC (.bl i)) := de_const pe_bl fun _ _ => rfl
theorem de_non {j} : DE X W (.Constant .none j pos) (dC .non) := de_const pe_non fun _ _ => rfl
theorem de_str {i j} : DE X W (.Constant (.str i) j pos) (dC (.str i)) := de_const pe_str fun _ _ => rfl
/-! ### operators -/
/-- a rule of the layer for values, seen by data -/
def OpD (X : Cx) (r : R2) (op : D → D → Sto → RE D) : Prop :=
  ∀ (W : WX) (ρ : Env) (σ : St) (O : Ow) (H : Hp) (S : Sto) (x y : V) (d e : D) (Q : VK), Stt X.K O H ρ σ S → Rep X.K O H d x → Rep X.K O H e y → After X.K W (Rep X.K) ρ σ O H Q (op d e S) → r x y H Q
def dBin (op : D → D → Sto → RE D) (f g : ME) : ME := fun ρ S => (f ρ S).bind fun d S1 => (g ρ S1).bind fun e S2 => op d e S2
theorem bin_imp {r : R2} {op : D → D → Sto → RE D} (ho : OpD X r op) {σ : St} {H : Hp} {Q : VK} (h : tE X.K W (dBin op f g) σ H Q) : tOp r (tE X.K W f) (tE X.K W g) σ H Q := by
  obtain ⟨O, ρ, S, st, h⟩ := h
  refine ⟨O, ρ, S, st, After.seq h fun d S1 O1 H1 v e1 st1 r1 h1 => ⟨O1, ρ, S1, st1, After.seq h1 fun d2 S2 O2 H2 u e2 st2 r2 h2 => ?_⟩⟩
  exact ho W ρ σ O2 H2 S2 v u d d2 Q st2 (r1.mono (e2.w st1.wf)) r2 h2
theorem de_op {op : Operator} {r : R2} {o : D → D → Sto → RE D} (hr : OpR X (binaryOp op) r) (ho : OpD X r o) (ha : DE X W a f) (hb : DE X W b g) : DE X W (.BinOp a op b pos) (dBin o f g) :=
  ⟨PE.imp (pe_op hr ha.pe hb.pe) fun _ _ _ h => bin_imp ho h⟩
theorem de_cmp {op : CmpOp} {r : R2} {o : D → D → Sto → RE D} (hr : OpR X (compareOp op) r) (ho : OpD X r o) (ha : DE X W a f) (hb : DE X W b g) (hm : behindInMarks op b = false) : DE X W (.Compare a [op] [b] pos) (dBin o f g) :=
  ⟨PE.imp (pe_cmpR hr ha.pe hb.pe hm) fun _ _ _ h => bin_imp ho h⟩
/-- a value that is a bool, as a test -/
def dTest (f : ME) : MT := fun ρ S => (f ρ S).bind fun d S1 => match d with
  | .bl b => .ok b S1
  | _ => .bad
theorem test_imp {t : TE} {σ : St} {H : Hp} {Q : Bool → Hp → Prop} (ht : ∀ σ H Q, tE X.K W f σ H Q → t σ H Q) (h : tT X.K W (dTest f) σ H Q) : tTest t σ H Q := by
  obtain ⟨O, ρ, S, st, h⟩ := h
  refine ht σ H _ ⟨O, ρ, S, st, After.seq h fun d S1 O1 H1 v e1 st1 r1 h1 => ?_⟩
  cases d with
  | bl b => exact ⟨b, r1, After.ok h1 st1 rfl⟩
  | _ => exact h1.elim
theorem dt_cmp {op : CmpOp} {r : R2} {o : D → D → Sto → RE D} (hr : OpR X (compareOp op) r) (ho : OpD X r o) (ha : DE X W a f) (hb : DE X W b g) (hm : behindInMarks op b = false) : DT X W (.Compare a [op] [b] pos) (dTest (dBin o f g)) :=
  ⟨PT.imp (pt_cmpR hr ha.pe hb.pe hm) fun _ _ _ h => test_imp (fun _ _ _ q => bin_imp ho q) h⟩
theorem dt_val (ha : DE X W a f) (he : ∀ whole, isTrue a X.env whole = (do let v ← whole; standAt a.pos; holding [v] (truthy v)) := by intro _; rfl) : DT X W a (dTest f) :=
  ⟨PT.imp (pt_val ha.pe he) fun _ _ _ h => test_imp (fun _ _ _ q => q) h⟩
/-! ### and, or, not -/
variable {tf tg : MT} {rest : List Expr}
def dAndT (f g : MT) : MT := fun ρ S => (f ρ S).bind fun d S1 => if d = true then g ρ S1 else .ok false S1
def dOrT (f g : MT) : MT := fun ρ S => (f ρ S).bind fun d S1 => if d = true then .ok true S1 else g ρ S1
def dNotT (f : MT) : MT := fun ρ S => (f ρ S).bind fun d S1 => .ok (!d) S1
theorem dw_and1 (ha : DT X W a tf) : DW X W (.BoolOp .And [a] pos) tf := ⟨pw_and1 ha.pt⟩
theorem dw_or1 (ha : DT X W a tf) : DW X W (.BoolOp .Or [a] pos) tf := ⟨pw_or1 ha.pt⟩
theorem dw_and (ha : DT X W a tf) (hb : DW X W (.BoolOp .And (b :: rest) pos) tg) : DW X W (.BoolOp .And (a :: b :: rest) pos) (dAndT tf tg) :=
  ⟨PW.imp (pw_and ha.pt hb.pw) fun σ H Q ⟨O, ρ, S, st, h⟩ => ⟨O, ρ, S, st, After.seq h fun d S1 O1 H1 v e1 st1 r1 h1 => by
    subst r1
    cases d with
    | true => exact iteT ⟨O1, ρ, S1, st1, h1⟩
    | false => exact iteF (After.ok h1 st1 rfl)⟩⟩
theorem dw_or (ha : DT X W a tf) (hb : DW X W (.BoolOp .Or (b :: rest) pos) tg) : DW X W (.BoolOp .Or (a :: b :: rest) pos) (dOrT tf tg) :=
  ⟨PW.imp (pw_or ha.pt hb.pw) fun σ H Q ⟨O, ρ, S, st, h⟩ => ⟨O, ρ, S, st, After.seq h fun d S1 O1 H1 v e1 st1 r1 h1 => by
    subst r1
    cases d with
    | true => exact iteT (After.ok h1 st1 rfl)
    | false => exact iteF ⟨O1, ρ, S1, st1, h1⟩⟩⟩
theorem DW.dt (h : DW X W a tf) : DT X W a tf := ⟨PW.pt h.pw⟩
theorem dt_not (ha : DT X W a tf) : DT X W (.UnaryOp .Not a pos) (dNotT tf) :=
  ⟨PT.imp (pt_not ha.pt) fun σ H Q ⟨O, ρ, S, st, h⟩ => ⟨O, ρ, S, st, After.seq h fun d S1 O1 H1 v e1 st1 r1 h1 => by
    subst r1
    exact After.ok h1 st1 rfl⟩⟩
def dAnd (f g : ME) : ME := fun ρ S => (f ρ S).bind fun d S1 => match d with
  | .bl true => g ρ S1
  | .bl false => .ok (.bl false) S1
  | _ => .bad
def dOr (f g : ME) : ME := fun ρ S => (f ρ S).bind fun d S1 => match d with
  | .bl false => g ρ S1
  | .bl true => .ok (.bl true) S1
  | _ => .bad
def dNot (f : ME) : ME := fun ρ S => (f ρ S).bind fun d S1 => match d with
  | .bl b => .ok (.bl (!b)) S1
  | _ => .bad
theorem de_one {op} (h : DE X W a f) : DE X W (.BoolOp op [a] pos) f := ⟨pe_one h.pe⟩
theorem de_and (ha : DE X W a f) (hb : DE X W (.BoolOp .And (b :: rest) pos) g) : DE X W (.BoolOp .And (a :: b :: rest) pos) (dAnd f g) :=
  ⟨PE.imp (pe_and ha.pe hb.pe) fun σ H Q ⟨O, ρ, S, st, h⟩ => ⟨O, ρ, S, st, After.seq h fun d S1 O1 H1 v e1 st1 r1 h1 => by
    cases d with
    | bl k =>
      cases k with
      | true => exact ⟨true, r1, iteT ⟨O1, ρ, S1, st1, h1⟩⟩
      | false => exact ⟨false, r1, iteF (After.ok h1 st1 rfl)⟩
    | _ => exact h1.elim⟩⟩
theorem de_or (ha : DE X W a f) (hb : DE X W (.BoolOp .Or (b :: rest) pos) g) : DE X W (.BoolOp .Or (a :: b :: rest) pos) (dOr f g) :=
  ⟨PE.imp (pe_or ha.pe hb.pe) fun σ H Q ⟨O, ρ, S, st, h⟩ => ⟨O, ρ, S, st, After.seq h fun d S1 O1 H1 v e1 st1 r1 h1 => by
    cases d with
    | bl k =>
      cases k with
      | true => exact ⟨true, r1, iteT (After.ok h1 st1 rfl)⟩
      | false => exact ⟨false, r1, iteF ⟨O1, ρ, S1, st1, h1⟩⟩
    | _ => exact h1.elim⟩⟩
theorem de_not (ha : DE X W a f) : DE X W (.UnaryOp .Not a pos) (dNot f) :=
  ⟨PE.imp (pe_not ha.pe) fun σ H Q ⟨O, ρ, S, st, h⟩ => ⟨O, ρ, S, st, After.seq h fun d S1 O1 H1 v e1 st1 r1 h1 => by
    cases d with
    | bl k => exact ⟨k, r1, After.ok h1 st1 rfl⟩
    | _ => exact h1.elim⟩⟩
def dIfE (t : MT) (f g : ME) : ME := fun ρ S => (t ρ S).bind fun d S1 => if d = true then f ρ S1 else g ρ S1
theorem de_if (hc : DT X W c tf) (ha : DE X W a f) (hb : DE X W b g) : DE X W (.IfExp c a b pos) (dIfE tf f g) :=
  ⟨PE.imp (pe_ifExp hc.pt ha.pe hb.pe) fun σ H Q ⟨O, ρ, S, st, h⟩ => ⟨O, ρ, S, st, After.seq h fun d S1 O1 H1 v e1 st1 r1 h1 => by
    subst r1
    cases d with
    | true => exact iteT ⟨O1, ρ, S1, st1, h1⟩
    | false => exact iteF ⟨O1, ρ, S1, st1, h1⟩⟩⟩
/-- a < b < c -/
def dChain (o p : D → D → Sto → RE D) (f g h : ME) : ME := fun ρ S => (f ρ S).bind fun x S1 => (g ρ S1).bind fun y S2 => (o x y S2).bind fun d S3 => match d with
  | .bl true => (h ρ S3).bind fun z S4 => p y z S4
  | .bl false => .ok (.bl false) S3
  | _ => .bad
/-! ### arguments -/
variable {es : List Expr} {ta : MA}
def aNil : MA := fun _ S => .ok [] S
def aCons (f : ME) (g : MA) : MA := fun ρ S => (f ρ S).bind fun d S1 => (g ρ S1).bind fun ds S2 => .ok (d :: ds) S2
theorem da_nil : DA X W [] aNil := ⟨PA.imp pa_nil fun σ H Q ⟨O, ρ, S, st, h⟩ => After.ok h st rfl⟩
theorem da_cons (ha : DE X W a f) (hr : DA X W es ta) (hs : starEach (a :: es) X.env = (false, eval a X.env) :: starEach es X.env := by rfl) : DA X W (a :: es) (aCons f ta) :=
  ⟨PA.imp (pa_cons ha.pe hr.pa hs) fun σ H Q ⟨O, ρ, S, st, h⟩ => ⟨O, ρ, S, st, After.seq h fun d S1 O1 H1 v e1 st1 r1 h1 => ⟨O1, ρ, S1, st1, After.seq h1 fun d2 S2 O2 H2 u e2 st2 r2 h2 =>
    After.ok h2 st2 ⟨v, u, rfl, r1.mono (e2.w st1.wf), r2⟩⟩⟩⟩
end
end DE

namespace DE
open PySem L2

/-! ### new objects, objects changed -/
section
variable {K : PySem.W.Frag} {O : Ow} {H : Hp} {ρ : DE.Env} {σ : St} {S : Sto}
theorem upd_there {H : Hp} {p : Addr} {o : HO} (a : Addr) (h : H a ≠ none) : upd H p o a ≠ none := by
  by_cases z : a = p
  · subst z; rw [upd_same]; exact fun z => nomatch z
  · rw [upd_ne z]; exact h
theorem ext_new {p : Addr} {o : HO} (hp : H p = none) : Ext O H O (upd H p o) :=
  ⟨⟨[], by simp, fun _ h => by cases h⟩, ⟨[], by simp, fun _ h => by cases h⟩, fun a u _ h => by rw [upd_ne (ne_of_none h hp)]; exact h, fun a u h => by rw [upd_ne (ne_of_none h hp)]; exact h, upd_there⟩
theorem Stt.no (st : Stt K O H ρ σ S) {p : Addr} (hp : H p = none) : O.no p := ⟨fun z => st.wf.there p (.inl z) hp, fun z => st.wf.there p (.inr z) hp⟩
theorem Stt.new (st : Stt K O H ρ σ S) {p : Addr} {o : HO} (hp : H p = none) : Ext O H O (upd H p o) ∧ Stt K O (upd H p o) ρ σ S := by
  have e : Ext O H O (upd H p o) := ext_new hp
  have nw : ∀ a, a ∈ O.l ∨ a ∈ O.u → a ≠ p := fun a ha z => st.wf.there a ha (z ▸ hp)
  refine ⟨e, ⟨st.wf.nd, st.wf.len, fun k a d h1 h2 => (st.wf.cell k a d h1 h2).mono (e.w st.wf) (upd_ne (nw a (.inl (List.mem_of_getElem? h1)))), fun a ha => ?_⟩, st.env.mono (e.w st.wf)⟩
  rw [upd_ne (nw a (.inr ha))]
  exact st.wf.hid a ha
theorem Stt.newO (st : Stt K O H ρ σ S) {p : Addr} {o : HO} {d : D} (hp : H p = none) (c : Ext O H (O.add p) (upd H p o) → Cell K (O.add p) (upd H p o) p d) : Ext O H (O.add p) (upd H p o) ∧ Stt K (O.add p) (upd H p o) ρ σ (S ++ [d]) := by
  have e0 : Ext O H O (upd H p o) := ext_new hp
  have nw : ∀ a, a ∈ O.l ∨ a ∈ O.u → a ≠ p := fun a ha z => st.wf.there a ha (z ▸ hp)
  have e : Ext O H (O.add p) (upd H p o) := ⟨⟨[p], rfl, fun a h => by rw [List.mem_singleton.mp h]; exact hp⟩, ⟨[], by simp [Ow.add], fun _ h => by cases h⟩, e0.keep, e0.tups, e0.there⟩
  refine ⟨e, ⟨?_, by simp [Ow.add, st.wf.len], fun k a d' h1 h2 => ?_, fun a ha => ?_⟩, st.env.mono (e.w st.wf)⟩
  · show (O.l ++ [p]).Nodup
    rw [List.nodup_append]
    exact ⟨st.wf.nd, by simp, fun a ha b hb => by rw [List.mem_singleton.mp hb]; exact nw a (.inl ha)⟩
  · have h1 : (O.l ++ [p])[k]? = some a := h1
    by_cases hk : k < O.l.length
    · rw [List.getElem?_append_left hk] at h1
      rw [List.getElem?_append_left (by rw [st.wf.len]; exact hk)] at h2
      exact (st.wf.cell k a d' h1 h2).mono (e.w st.wf) (upd_ne (nw a (.inl (List.mem_of_getElem? h1))))
    · have hk' : k = O.l.length := by
        have := (List.getElem?_eq_some_iff.mp h1).1
        simp at this; omega
      subst hk'
      rw [List.getElem?_append_right (Nat.le_refl _)] at h1
      rw [List.getElem?_append_right (Nat.le_of_eq st.wf.len), st.wf.len] at h2
      simp at h1 h2
      subst h1 h2
      exact c e
  · have ha : a ∈ O.u := ha
    rw [upd_ne (nw a (.inr ha))]
    refine ⟨fun z => ?_, (st.wf.hid a ha).2⟩
    rcases List.mem_append.mp (show a ∈ O.l ++ [p] from z) with z | z
    · exact (st.wf.hid a ha).1 z
    · exact nw a (.inr ha) (List.mem_singleton.mp z)
theorem Stt.mut (st : Stt K O H ρ σ S) {k : Nat} {a : Addr} {o : HO} {d : D} (hk : O.l[k]? = some a) (c : Ext O H O (upd H a o) → Cell K O (upd H a o) a d) : Ext O H O (upd H a o) ∧ Stt K O (upd H a o) ρ σ (S.set k d) := by
  have ha := List.mem_of_getElem? hk
  have e : Ext O H O (upd H a o) := ⟨⟨[], by simp, fun _ h => by cases h⟩, ⟨[], by simp, fun _ h => by cases h⟩, fun b u nb h => by rw [upd_ne (show b ≠ a from fun z => nb (z ▸ ha))]; exact h, fun b u h => by rw [upd_ne (show b ≠ a from fun z => st.wf.notup a (.inl ha) u (z ▸ h))]; exact h, upd_there⟩
  refine ⟨e, ⟨st.wf.nd, by simp [st.wf.len], fun j b d' h1 h2 => ?_, fun b hb => ?_⟩, st.env.mono (e.w st.wf)⟩
  · by_cases hj : k = j
    · subst hj
      rw [h1] at hk; cases hk
      rw [List.getElem?_set_self (by rw [st.wf.len]; exact (List.getElem?_eq_some_iff.mp h1).1)] at h2
      cases h2
      exact c e
    · rw [List.getElem?_set_ne hj] at h2
      refine (st.wf.cell j b d' h1 h2).mono (e.w st.wf) (upd_ne fun z => hj ?_)
      subst z
      exact ((List.getElem_inj st.wf.nd).mp ((List.getElem?_eq_some_iff.mp hk).2.trans (List.getElem?_eq_some_iff.mp h1).2.symm))
  · rw [upd_ne (show b ≠ a from fun z => (st.wf.hid b hb).1 (z ▸ ha))]
    exact st.wf.hid b hb
theorem Stt.own (st : Stt K O H ρ σ S) {k : Nat} {d : D} (hs : S[k]? = some d) : ∃ a, O.l[k]? = some a ∧ Cell K O H a d := by
  have hl : k < O.l.length := by rw [← st.wf.len]; exact (List.getElem?_eq_some_iff.mp hs).1
  exact ⟨O.l[k], by simp [hl], st.wf.cell k _ d (by simp [hl]) hs⟩
/-! ### hidden lists -/
theorem solid_lst {xs : List V} : Solid (.lst xs) := ⟨(fun _ z => by cases z), (fun _ _ z => by cases z), (fun _ z => by cases z)⟩
def Ow.hide (O : Ow) (p : Addr) : Ow := ⟨O.l, p :: O.u⟩
/-- a new hidden list -/
theorem Stt.hide (st : Stt K O H ρ σ S) {p : Addr} {xs : List V} (hp : H p = none) : Ext O H (O.hide p) (upd H p (.lst xs)) ∧ Stt K (O.hide p) (upd H p (.lst xs)) ρ σ S := by
  have e0 : Ext O H O (upd H p (.lst xs)) := ext_new hp
  have nw : ∀ a, a ∈ O.l ∨ a ∈ O.u → a ≠ p := fun a ha z => st.wf.there a ha (z ▸ hp)
  have e : Ext O H (O.hide p) (upd H p (.lst xs)) := ⟨⟨[], by simp [Ow.hide], fun _ h => by cases h⟩, ⟨[p], rfl, fun a h => by rw [List.mem_singleton.mp h]; exact hp⟩, e0.keep, e0.tups, e0.there⟩
  refine ⟨e, ⟨st.wf.nd, st.wf.len, fun k a d h1 h2 => (st.wf.cell k a d h1 h2).mono (e.w st.wf) (upd_ne (nw a (.inl (List.mem_of_getElem? h1)))), fun a ha => ?_⟩, st.env.mono (e.w st.wf)⟩
  rcases List.mem_cons.mp (show a ∈ p :: O.u from ha) with z | z
  · subst z
    exact ⟨fun z => nw a (.inl z) rfl, _, upd_same, solid_lst⟩
  · rw [upd_ne (nw a (.inr z))]; exact st.wf.hid a z
/-- a hidden list changes -/
theorem extW_hid (w : WF K O H S) {p : Addr} {xs : List V} (hp : p ∈ O.u) : ExtW O H O (upd H p (.lst xs)) :=
  ⟨fun _ _ h => h, fun _ _ n _ => n, fun a o n h => by rw [upd_ne (show a ≠ p from fun z => n.2 (z ▸ hp))]; exact h, fun a u h => by rw [upd_ne (show a ≠ p from fun z => w.notup p (.inr hp) u (z ▸ h))]; exact h, fun a o u h => by rw [upd_ne (show a ≠ p from fun z => w.nofrz p (.inr hp) o u (z ▸ h))]; exact h⟩
theorem Stt.hid (st : Stt K O H ρ σ S) {p : Addr} {xs : List V} (hp : p ∈ O.u) : Stt K O (upd H p (.lst xs)) ρ σ S := by
  have e := extW_hid (xs := xs) st.wf hp
  refine ⟨⟨st.wf.nd, st.wf.len, fun k a d h1 h2 => (st.wf.cell k a d h1 h2).mono e (upd_ne fun z => (st.wf.hid p hp).1 (z ▸ List.mem_of_getElem? h1)), fun a ha => ?_⟩, st.env.mono e⟩
  by_cases z : a = p
  · subst z; exact ⟨(st.wf.hid a ha).1, _, upd_same, solid_lst⟩
  · rw [upd_ne z]; exact st.wf.hid a ha
/-- nothing is hidden any more -/
theorem extW_bare {u : List Addr} (hu : ∀ a ∈ u, a ∈ O.u) : ExtW O H ⟨O.l, u⟩ H := ⟨fun _ _ h => h, fun _ _ n _ => ⟨n.1, fun z => n.2 (hu _ z)⟩, fun _ _ _ h => h, fun _ _ h => h, fun _ _ _ h => h⟩
theorem Stt.bare (st : Stt K O H ρ σ S) {u : List Addr} (hu : ∀ a ∈ u, a ∈ O.u) : Stt K ⟨O.l, u⟩ H ρ σ S :=
  ⟨⟨st.wf.nd, st.wf.len, fun k a d h1 h2 => (st.wf.cell k a d h1 h2).mono (extW_bare hu) rfl, fun a ha => st.wf.hid a (hu a ha)⟩, st.env.mono (extW_bare hu)⟩
end

def cap : Nat := 100000
theorem cap_line {n : Nat} (h : n ≤ cap) : n ≤ sizeLine := Nat.le_trans h (by decide)
theorem cap_lt {n : Nat} (h : n < cap) : n < sizeLine := Nat.lt_of_lt_of_le h (by decide)

section
variable {X : Cx} {W : WX} {a b c : Expr} {f g h : ME} {pos : Pos} {es : List Expr} {fa : MA}
/-! ### displays -/
def dTup (f : MA) : ME := fun ρ S => (f ρ S).bind fun ds S1 => if ds.length ≤ cap then .ok (.tup ds) S1 else .bad
def dLst (f : MA) : ME := fun ρ S => (f ρ S).bind fun ds S1 => if ds.length ≤ cap then .ok (.lst ds) S1 else .bad
/-- a new list that will change -/
def dLstO (f : MA) : ME := fun ρ S => (f ρ S).bind fun ds S1 => if ds.length ≤ cap then .ok (.own S1.length) (S1 ++ [.lst ds]) else .bad
theorem de_tup {x1} (h : DA X W es fa) : DE X W (.Tuple es x1 pos) (dTup fa) := ⟨PE.imp (pe_tup h.pa) fun σ H Q ⟨O, ρ, S, st, h⟩ => ⟨O, ρ, S, st, After.seq h fun ds S1 O1 H1 vs e1 st1 r1 h1 => by
  by_cases hl : ds.length ≤ cap
  · simp only [hl, if_true] at h1
    refine ⟨by rw [← r1.length]; exact cap_line hl, fun p hp => ?_⟩
    obtain ⟨e2, st2⟩ := st1.new (o := .tup vs) hp
    exact h1 O1 _ _ e2 st2 ⟨p, vs, rfl, .inl upd_same, r1.mono (e2.w st1.wf)⟩
  · simp only [hl, if_false] at h1; exact h1.elim⟩⟩
theorem de_lst (h : DA X W es fa) : DE X W (.List es pos) (dLst fa) := ⟨PE.imp (pe_lst h.pa) fun σ H Q ⟨O, ρ, S, st, h⟩ => ⟨O, ρ, S, st, After.seq h fun ds S1 O1 H1 vs e1 st1 r1 h1 => by
  by_cases hl : ds.length ≤ cap
  · simp only [hl, if_true] at h1
    refine ⟨by rw [← r1.length]; exact cap_line hl, fun p hp => ?_⟩
    obtain ⟨e2, st2⟩ := st1.new (o := .lst vs) hp
    exact h1 O1 _ _ e2 st2 ⟨p, vs, rfl, st1.no hp, upd_same, r1.mono (e2.w st1.wf)⟩
  · simp only [hl, if_false] at h1; exact h1.elim⟩⟩
theorem getElem?_snoc {α : Type} (l : List α) (x : α) : (l ++ [x])[l.length]? = some x := by simp
theorem de_lstO (h : DA X W es fa) : DE X W (.List es pos) (dLstO fa) := ⟨PE.imp (pe_lst h.pa) fun σ H Q ⟨O, ρ, S, st, h⟩ => ⟨O, ρ, S, st, After.seq h fun ds S1 O1 H1 vs e1 st1 r1 h1 => by
  by_cases hl : ds.length ≤ cap
  · simp only [hl, if_true] at h1
    refine ⟨by rw [← r1.length]; exact cap_line hl, fun p hp => ?_⟩
    obtain ⟨e2, st2⟩ := st1.newO (o := .lst vs) (d := .lst ds) hp fun e => ⟨vs, upd_same, r1.mono (e.w st1.wf)⟩
    exact h1 _ _ _ e2 st2 ⟨p, by rw [st1.wf.len]; exact getElem?_snoc _ _, rfl⟩
  · simp only [hl, if_false] at h1; exact h1.elim⟩⟩
end

/-! ### statements -/
def AfterS (K : PySem.W.Frag) (W : WX) (D' : Ends) (O : Ow) (H : Hp) : RS → Prop
  | .nx ρ' S' => ∀ O' H' σ', Ext O H O' H' → Stt K O' H' ρ' σ' S' → D'.nx σ' H'
  | .bk ρ' S' => ∀ O' H' σ', Ext O H O' H' → Stt K O' H' ρ' σ' S' → D'.bk σ' H'
  | .ct ρ' S' => ∀ O' H' σ', Ext O H O' H' → Stt K O' H' ρ' σ' S' → D'.ct σ' H'
  | .rt d S' => ∀ O' H' v, Ext O H O' H' → WF K O' H' S' → Rep K O' H' d v → D'.rt v H'
  | .exc x ρ' S' => ∀ O' H' σ' cls dx, Ext O H O' H' → Stt K O' H' ρ' σ' S' → RepX K O' H' x cls dx → W cls dx σ' H'
  | .bad => False
def RE.stm {α : Type} (r : RE α) (ρ : DE.Env) (k : α → Sto → RS) : RS := match r with
  | .ok a S => k a S
  | .exc x S => .exc x ρ S
  | .bad => .bad
@[simp] theorem RE.stm_ok {α : Type} (a : α) (S : Sto) (ρ : DE.Env) (k : α → Sto → RS) : (RE.ok a S).stm ρ k = k a S := id rfl
@[simp] theorem RE.stm_exc {α : Type} (x : Exc) (S : Sto) (ρ : DE.Env) (k : α → Sto → RS) : (RE.exc x S).stm ρ k = .exc x ρ S := id rfl
@[simp] theorem RE.stm_bad {α : Type} (ρ : DE.Env) (k : α → Sto → RS) : (RE.bad : RE α).stm ρ k = .bad := id rfl
section
variable {K : PySem.W.Frag} {W : WX} {D' : Ends} {ρ : DE.Env} {σ : St} {O O' : Ow} {H H' : Hp} {S : Sto} {α β : Type}
theorem AfterS.mono {r : RS} (h : AfterS K W D' O H r) (e : Ext O H O' H') : AfterS K W D' O' H' r := by
  cases r with
  | nx ρ' S' => exact fun O2 H2 σ' e2 st => h O2 H2 σ' (e.trans e2) st
  | bk ρ' S' => exact fun O2 H2 σ' e2 st => h O2 H2 σ' (e.trans e2) st
  | ct ρ' S' => exact fun O2 H2 σ' e2 st => h O2 H2 σ' (e.trans e2) st
  | rt d S' => exact fun O2 H2 v e2 w r => h O2 H2 v (e.trans e2) w r
  | exc x ρ' S' => exact fun O2 H2 σ' cls dx e2 st rl => h O2 H2 σ' cls dx (e.trans e2) st rl
  | bad => exact h
theorem AfterS.seqE {Rl : Ow → Hp → α → β → Prop} {Q1 : β → Hp → Prop} {r : RE α} {k : α → Sto → RS} (h : AfterS K W D' O H (r.stm ρ k))
    (kk : ∀ d S1 O1 H1 v, Ext O H O1 H1 → Stt K O1 H1 ρ σ S1 → Rl O1 H1 d v → AfterS K W D' O1 H1 (k d S1) → Q1 v H1) : After K W Rl ρ σ O H Q1 r := by
  cases r with
  | ok d S' => exact fun O1 H1 v e st rl => kk d S' O1 H1 v e st rl (AfterS.mono h e)
  | exc x S' => exact fun O2 H2 cls dx e2 st rl => h O2 H2 σ cls dx e2 st rl
  | bad => exact h.elim
end
def tS (K : PySem.W.Frag) (W : WX) (f : MS) : TS := fun D' σ H => ∃ O ρ S, Stt K O H ρ σ S ∧ AfterS K W D' O H (f ρ S)
structure DS (X : Cx) (W : WX) (s : Stmt) (f : MS) : Prop where
  ps : PS X s (tS X.K W f)
structure DSs (X : Cx) (W : WX) (s : List Stmt) (f : MS) : Prop where
  pss : PSs X s (tS X.K W f)
section
variable {X : Cx} {W : WX} {a b c : Expr} {f g h : ME} {pos : Pos} {s : Stmt} {ss : List Stmt} {F G : MS} {tf : MT}
def sNil : MS := fun ρ S => .nx ρ S
def sSeq (f g : MS) : MS := fun ρ S => match f ρ S with
  | .nx ρ1 S1 => g ρ1 S1
  | r => r
theorem AfterS.of_seq {K : PySem.W.Frag} {D' : Ends} {O : Ow} {H : Hp} {r : RS} {g : MS} (h : AfterS K W D' O H (match r with | .nx ρ1 S1 => g ρ1 S1 | r => r)) : AfterS K W { D' with nx := tS K W g D' } O H r := by
  cases r with
  | nx ρ1 S1 => exact fun O' H' σ' e st => ⟨O', ρ1, S1, st, AfterS.mono h e⟩
  | bk ρ1 S1 => exact h
  | ct ρ1 S1 => exact h
  | rt d S1 => exact h
  | exc x ρ1 S1 => exact h
  | bad => exact h
theorem dss_nil : DSs X W [] sNil := ⟨PSs.imp pss_nil fun D' σ H ⟨O, ρ, S, st, h⟩ => h O H σ .refl st⟩
theorem dss_one (h : DS X W s F) : DSs X W [s] F := ⟨pss_one h.ps⟩
theorem dss_cons (h1 : DS X W s F) (h2 : DSs X W ss G) : DSs X W (s :: ss) (sSeq F G) := ⟨PSs.imp (pss_cons h1.ps h2.pss) fun D' σ H ⟨O, ρ, S, st, h⟩ => ⟨O, ρ, S, st, AfterS.of_seq h⟩⟩
theorem ds_pass : DS X W (.Pass pos) sNil := ⟨PS.imp ps_pass fun D' σ H ⟨O, ρ, S, st, h⟩ => h O H σ .refl st⟩
def sBreak : MS := fun ρ S => .bk ρ S
def sCont : MS := fun ρ S => .ct ρ S
theorem ds_break : DS X W (.Break pos) sBreak := ⟨PS.imp ps_break fun D' σ H ⟨O, ρ, S, st, h⟩ => h O H σ .refl st⟩
theorem ds_continue : DS X W (.Continue pos) sCont := ⟨PS.imp ps_continue fun D' σ H ⟨O, ρ, S, st, h⟩ => h O H σ .refl st⟩
theorem ds_doc {x j pos'} : DS X W (.Expr (.Constant (.str x) j pos) pos') sNil := ⟨PS.imp ps_doc fun D' σ H ⟨O, ρ, S, st, h⟩ => h O H σ .refl st⟩
def sExpr (f : ME) : MS := fun ρ S => (f ρ S).stm ρ fun _ S1 => .nx ρ S1
theorem ds_expr (h : DE X W a f) (hs : swapsWith a none pos.line X.env = pure false := by rfl) : DS X W (.Expr a pos) (sExpr f) :=
  ⟨PS.imp (ps_expr h.pe hs) fun D' σ H ⟨O, ρ, S, st, h⟩ => ⟨O, ρ, S, st, AfterS.seqE h fun d S1 O1 H1 v e1 st1 r1 h1 => h1 O1 H1 σ .refl st1⟩⟩
def sRet (f : ME) : MS := fun ρ S => (f ρ S).stm ρ fun d S1 => .rt d S1
theorem ds_ret (h : DE X W a f) : DS X W (.Return (some a) pos) (sRet f) :=
  ⟨PS.imp (ps_ret h.pe) fun D' σ H ⟨O, ρ, S, st, h⟩ => ⟨O, ρ, S, st, AfterS.seqE h fun d S1 O1 H1 v e1 st1 r1 h1 => h1 O1 H1 v .refl st1.wf r1⟩⟩
def sRetN : MS := fun _ S => .rt .non S
theorem ds_retN : DS X W (.Return none pos) sRetN := ⟨PS.imp ps_retN fun D' σ H ⟨O, ρ, S, st, h⟩ => h O H .non .refl st.wf rfl⟩
def sIf (t : MT) (f g : MS) : MS := fun ρ S => (t ρ S).stm ρ fun b S1 => if b = true then f ρ S1 else g ρ S1
theorem ds_if {xs ys : List Stmt} (hc : DT X W c tf) (ha : DSs X W xs F) (hb : DSs X W ys G) : DS X W (.If c xs ys pos) (sIf tf F G) :=
  ⟨PS.imp (ps_if hc.pt ha.pss hb.pss) fun D' σ H ⟨O, ρ, S, st, h⟩ => ⟨O, ρ, S, st, AfterS.seqE h fun d S1 O1 H1 v e1 st1 r1 h1 => by
    subst r1
    cases d with
    | true => exact iteT ⟨O1, ρ, S1, st1, h1⟩
    | false => exact iteF ⟨O1, ρ, S1, st1, h1⟩⟩⟩
/-! ### targets -/
abbrev MG := D → DE.Env → Option DE.Env
abbrev MGs := List D → DE.Env → Option DE.Env
theorem wipe_set {σ : St} {i : Nat} {x : Option V} : ∀ {vs : List Nat}, i ∈ vs → wipe (σ.set i x) vs = wipe σ vs
  | v :: vs, h => by
    unfold wipe
    by_cases e : i = v
    · subst e
      by_cases hi : i ∈ vs
      · rw [wipe_set hi]
      · have : ∀ vs : List Nat, wipe (σ.set i x) vs = (wipe σ vs).set i (if i ∈ vs then none else x) ∨ wipe (σ.set i x) vs = wipe σ vs := by
          intro vs
          induction vs with
          | nil => left; simp [wipe]
          | cons u us ih =>
            unfold wipe
            rcases ih with ih | ih
            · rw [ih]
              by_cases e : i = u
              · subst e; right; rw [List.set_set]
              · left
                rw [List.set_comm _ _ e]
                congr 1
                simp [e]
            · right; rw [ih]
        rcases this vs with q | q
        · rw [q, List.set_set]
        · rw [q]
    · have hi : i ∈ vs := by
        rcases List.mem_cons.mp h with z | z
        · exact absurd z e
        · exact z
      rw [wipe_set hi]
/-- is: the slots that the target stores -/
def Only1 (is : List Nat) (σ σ' : St) : Prop := ∀ vs : List Nat, (∀ i ∈ is, i ∈ vs) → wipe σ' vs = wipe σ vs
def tG (K : PySem.W.Frag) (is : List Nat) (g : MG) : TG := fun v σ H Q => ∃ O ρ S d ρ', Stt K O H ρ σ S ∧ Rep K O H d v ∧ g d ρ = some ρ' ∧ ∀ σ', Stt K O H ρ' σ' S → Only1 is σ σ' → Q σ' H
def tGs (K : PySem.W.Frag) (is : List Nat) (g : MGs) : TGs := fun v σ H Q => ∃ O ρ S d ρ', Stt K O H ρ σ S ∧ Reps K O H d v ∧ g d ρ = some ρ' ∧ ∀ σ', Stt K O H ρ' σ' S → Only1 is σ σ' → Q σ' H
structure DG (X : Cx) (t : Expr) (is : List Nat) (g : MG) : Prop where
  pg : PG X t (tG X.K is g)
structure DGs (X : Cx) (t : List Expr) (is : List Nat) (g : MGs) : Prop where
  pgs : PGs X t (tGs X.K is g)
theorem PG.imp {X : Cx} {e : Expr} {t t' : TG} (h : PG X e t) (k : ∀ v σ H Q, t' v σ H Q → t v σ H Q) : PG X e t' := ⟨fun pins s σ H v u Q I r q => h.run pins s σ H v u Q I r (k _ _ _ _ q)⟩
theorem PGs.imp {X : Cx} {e : List Expr} {t t' : TGs} (h : PGs X e t) (k : ∀ v σ H Q, t' v σ H Q → t v σ H Q) : PGs X e t' := ⟨fun pins s σ H v u Q I r q => h.run pins s σ H v u Q I r (k _ _ _ _ q)⟩
def gN (i : Nat) : MG := fun d ρ => some (ρ.set i (some d))
theorem dg_name (i : Nat) {x : Str} (hN : X.N.Nodup) (hi : X.N[i]? = some x) (hx : Loc X.env.scope x) (hf : X.fn x = true ∨ X.env.scope.names.lookup x = some .local := by first | exact .inl rfl | exact .inr rfl | assumption) : DG X (.Name x pos) [i] (gN i) :=
  ⟨PG.imp (pg_name hN hi hx hf) fun v σ H Q ⟨O, ρ, S, d, ρ', st, r, e, k⟩ => by
    cases e
    exact k _ ⟨st.wf, st.env.set r i⟩ fun vs hv => wipe_set (hv i (by simp))⟩
def gsNil : MGs := fun ds ρ => match ds with
  | [] => some ρ
  | _ => none
def gsCons (g : MG) (h : MGs) : MGs := fun ds ρ => match ds with
  | d :: r => (g d ρ).bind (h r)
  | _ => none
end
end DE

namespace DE
open PySem PySem.Spec PyProof.Rows L2
section
variable {X : Cx} {W : WX} {a b c : Expr} {f g h : ME} {pos : Pos} {s : Stmt} {ss : List Stmt} {F G : MS} {tf : MT}
theorem dgs_nil : DGs X [] [] gsNil := ⟨PGs.imp pgs_nil fun v σ H Q ⟨O, ρ, S, d, ρ', st, r, e, k⟩ => by
  cases d with
  | nil =>
    cases r
    cases e
    exact ⟨rfl, k _ st fun _ _ => rfl⟩
  | cons _ _ => cases e⟩
theorem dgs_cons {e : Expr} {es : List Expr} {is js : List Nat} {g1 : MG} {g2 : MGs} (h1 : DG X e is g1) (h2 : DGs X es js g2)
    (hs : (assignEach (e :: es) X.env).map (·.2) = assign e X.env :: (assignEach es X.env).map (·.2) := by rfl) : DGs X (e :: es) (is ++ js) (gsCons g1 g2) :=
  ⟨PGs.imp (pgs_cons h1.pg h2.pgs hs) fun v σ H Q ⟨O, ρ, S, d, ρ', st, r, e, k⟩ => by
    cases d with
    | nil => cases e
    | cons d ds =>
      obtain ⟨v, vr, rfl, r1, r2⟩ := r
      have e' : (g1 d ρ).bind (g2 ds) = some ρ' := e
      cases q : g1 d ρ with
      | none => rw [q] at e'; cases e'
      | some ρ1 =>
        rw [q] at e'
        exact ⟨v, vr, rfl, O, ρ, S, d, ρ1, st, r1, q, fun σ1 st1 w1 => ⟨O, ρ1, S, ds, ρ', st1, r2, e', fun σ2 st2 w2 => k σ2 st2 fun vs hv => (w2 vs fun i hi => hv i (List.mem_append_right _ hi)).trans (w1 vs fun i hi => hv i (List.mem_append_left _ hi))⟩⟩⟩
def gT (n : Nat) (g : MGs) : MG := fun d ρ => match d with
  | .tup ds => if ds.length = n then g ds ρ else none
  | _ => none
theorem dg_tup {es : List Expr} {k : Nat} {is : List Nat} {g1 : MGs} {n : Nat} (hc : X.calm = true) (h : DGs X es is g1)
    (hn : (assignEach es X.env).length = n := by rfl) (hst : (assignEach es X.env).findIdx? (·.1) = none := by rfl) : DG X (.Tuple es k pos) is (gT n g1) :=
  ⟨PG.imp (pg_tup hc h.pgs hn hst) fun v σ H Q ⟨O, ρ, S, d, ρ', st, r, e, k⟩ => by
    cases d with
    | tup ds =>
      obtain ⟨a, xs, rfl, h1, h2⟩ := r
      by_cases hl : ds.length = n
      · have e' : (if ds.length = n then g1 ds ρ else none) = some ρ' := e
        rw [if_pos hl] at e'
        exact ⟨a, xs, rfl, sqT_of h1, h2.length ▸ hl, O, ρ, S, ds, ρ', st, h2, e', k⟩
      · have e' : (if ds.length = n then g1 ds ρ else none) = some ρ' := e
        rw [if_neg hl] at e'; cases e'
    | _ => cases e⟩
def sAsg (f : ME) (g : MG) : MS := fun ρ S => (f ρ S).stm ρ fun d S1 => match g d ρ with
  | some ρ1 => .nx ρ1 S1
  | none => .bad
theorem asg_imp {is : List Nat} {g1 : MG} {D' : Ends} {σ : L2.St} {H : Hp} (h : tS X.K W (sAsg f g1) D' σ H) : tAsg (tE X.K W f) (tG X.K is g1) D' σ H := by
  obtain ⟨O, ρ, S, st, h⟩ := h
  refine ⟨O, ρ, S, st, AfterS.seqE h fun d S1 O1 H1 v e1 st1 r1 h1 => ?_⟩
  cases q : g1 d ρ with
  | none => rw [q] at h1; exact h1.elim
  | some ρ1 =>
    rw [q] at h1
    exact ⟨O1, ρ, S1, d, ρ1, st1, r1, q, fun σ' st' _ => h1 O1 H1 σ' .refl st'⟩
theorem ds_asg {tg : Expr} {is : List Nat} {g1 : MG} (he : DE X W a f) (hg : DG X tg is g1) (hs : swapsWithSole [tg] a pos.line X.env = pure false := by rfl) (hw : swappedStores [tg] a X.env = pure none := by rfl) (h1 : (assignEach [tg] X.env).map (·.2) = [assign tg X.env] := by rfl) : DS X W (.Assign [tg] a pos) (sAsg f g1) :=
  ⟨PS.imp (ps_asg he.pe hg.pg hs hw h1) fun _ _ _ h => asg_imp h⟩
theorem ds_set (i : Nat) {x : Str} {pos' : Pos} (hN : X.N.Nodup) (hi : X.N[i]? = some x) (hx : Loc X.env.scope x) (he : DE X W a f) (hs : swapsWith a (some (.Name x pos')) pos.line X.env = pure false := by rfl) (hf : X.fn x = true ∨ X.env.scope.names.lookup x = some .local := by first | exact .inl rfl | exact .inr rfl | assumption) :
    DS X W (.Assign [.Name x pos'] a pos) (sAsg f (gN i)) :=
  ⟨PS.imp (ps_set hN hi hx he.pe hs hf) fun D' σ H ⟨O, ρ, S, st, h⟩ => ⟨O, ρ, S, st, AfterS.seqE h fun d S1 O1 H1 v e1 st1 r1 h1 => h1 O1 H1 _ .refl ⟨st1.wf, st1.env.set r1 i⟩⟩⟩
/-! ### what is walked -/
def Walks (K : PySem.W.Frag) (O : Ow) (H : Hp) (ds : List D) (J : It) : Prop :=
  ∀ O' H' S ρ σ, Ext O H O' H' → Stt K O' H' ρ σ S → ∀ i, (∀ d, ds[i]? = some d → J.go i H' ∧ ∀ x H'', J.yld i H' x H'' → Ext O' H' O' H'' ∧ (∀ ρ' σ' S', Stt K O' H' ρ' σ' S' → Stt K O' H'' ρ' σ' S') ∧ Rep K O' H'' d x) ∧ (i = ds.length → J.stop i H')
def tI (K : PySem.W.Frag) (W : WX) (f : MA) : TI := fun σ H R => ∃ O ρ S, Stt K O H ρ σ S ∧ After K W (Walks K) ρ σ O H R (f ρ S)
structure DI (X : Cx) (W : WX) (tg e : Expr) (f : MA) : Prop where
  pi : PI X tg e (tI X.K W f)
theorem PI.imp {X : Cx} {tg e : Expr} {t t' : TI} (h : PI X tg e t) (k : ∀ σ H Q, t' σ H Q → t σ H Q) : PI X tg e t' := ⟨fun pins s σ H Q I q => h.run pins s σ H Q I (k σ H Q q)⟩
theorem Walks.same {K : PySem.W.Frag} {O : Ow} {H H' : Hp} (e : H' = H) : Ext O H O H' ∧ (∀ ρ' σ' S', Stt K O H ρ' σ' S' → Stt K O H' ρ' σ' S') := by
  subst e; exact ⟨.refl, fun _ _ _ h => h⟩
theorem walks_list {K : PySem.W.Frag} {O : Ow} {H : Hp} {ds : List D} {xs : List V} {a : Addr} (h1 : (O.no a ∧ Rd H a (.lst xs)) ∨ WrL K a xs) (h2 : Reps K O H ds xs) {S0 : Sto} (w0 : WF K O H S0)
    : Walks K O H ds (Itl K a) := by
  intro O' H' S ρ σ e st i
  have hs : SqL K H' a xs := by
    rcases h1 with ⟨n, h1⟩ | h1
    · exact .inl ((e.w w0).rd n h1).2
    · rcases h1 with h1 | h1
      · rcases h1 with h1 | ⟨_, h1⟩ <;> cases h1
      · exact .inr h1
  have r := h2.mono (e.w w0)
  refine ⟨fun d hd => ?_, fun hi => ?_⟩
  · obtain ⟨v, hv, rv⟩ := r.get hd
    refine ⟨⟨xs, v, hs, hv⟩, fun x H'' y => ?_⟩
    obtain ⟨eH, y⟩ := y
    obtain ⟨e1, e2⟩ := Walks.same (K := K) (O := O') eH
    subst eH
    have := y xs hs
    rw [hv] at this
    cases this
    exact ⟨e1, e2, rv⟩
  · exact ⟨xs, hs, by rw [hi, r.length]; exact Nat.le_refl _⟩

theorem walks_tup {K : PySem.W.Frag} {O : Ow} {H : Hp} {ds : List D} {xs : List V} {a : Addr} (h1 : SqT K H a xs) (h2 : Reps K O H ds xs) {S0 : Sto} (w0 : WF K O H S0) : Walks K O H ds (Itt K a) := by
  intro O' H' S ρ σ e st i
  have hs : SqT K H' a xs := (e.w w0).sqT h1
  have r := h2.mono (e.w w0)
  refine ⟨fun d hd => ?_, fun hi => ?_⟩
  · obtain ⟨v, hv, rv⟩ := r.get hd
    refine ⟨⟨xs, v, hs, hv⟩, fun x H'' y => ?_⟩
    obtain ⟨eH, y⟩ := y
    obtain ⟨e1, e2⟩ := Walks.same (K := K) (O := O') eH
    subst eH
    have := y xs hs
    rw [hv] at this
    cases this
    exact ⟨e1, e2, rv⟩
  · exact ⟨xs, hs, by rw [hi, r.length]; exact Nat.le_refl _⟩
def dSigns (s : Str) : List D := s.cps.toList.map fun c => .str ⟨#[c]⟩
theorem walks_str {K : PySem.W.Frag} {O : Ow} {H : Hp} {s : Str} : Walks K O H (dSigns s) (Its s) := by
  intro O' H' S ρ σ e st i
  refine ⟨fun d hd => ?_, fun hi => ?_⟩
  · have hl : i < s.cps.size := by
      have := (List.getElem?_eq_some_iff.mp hd).1
      simpa [dSigns] using this
    refine ⟨hl, fun x H'' y => ?_⟩
    obtain ⟨eH, c, hc, rfl⟩ := y
    obtain ⟨e1, e2⟩ := Walks.same (K := K) (O := O') eH
    refine ⟨e1, e2, ?_⟩
    unfold dSigns at hd
    rw [List.getElem?_map, Array.getElem?_toList, hc] at hd
    cases hd
    rfl
  · show s.cps.size ≤ i
    rw [hi]; simp [dSigns]
def rangeD (lo : Int) (n : Nat) : List D := (List.range n).map fun (i : Nat) => .int (lo + (i : Int))
theorem walks_range {K : PySem.W.Frag} {O : Ow} {H : Hp} {lo : Int} {n : Nat} : Walks K O H (rangeD lo n) (Itr lo n) := by
  intro O' H' S ρ σ e st i
  refine ⟨fun d hd => ?_, fun hi => ?_⟩
  · have hl : i < n := by
      have := (List.getElem?_eq_some_iff.mp hd).1
      simpa [rangeD] using this
    refine ⟨hl, fun x H'' y => ?_⟩
    obtain ⟨eH, rfl⟩ := y
    obtain ⟨e1, e2⟩ := Walks.same (K := K) (O := O') eH
    refine ⟨e1, e2, ?_⟩
    unfold rangeD at hd
    rw [List.getElem?_map, List.getElem?_range hl] at hd
    cases hd
    rfl
  · show n ≤ i
    rw [hi]; simp [rangeD]
/-- a list, a tuple, a text: by what the value turns out to be -/
def iAny (K : PySem.W.Frag) (te : TE) : TI := fun σ H R => te σ H fun v H1 => (∃ a, v = .ref a ∧ (∃ xs, SqL K H1 a xs) ∧ R (Itl K a) H1) ∨ (∃ a, v = .ref a ∧ (∃ xs, SqT K H1 a xs) ∧ R (Itt K a) H1) ∨ ∃ x, v = .str x ∧ R (Its x) H1
theorem pi_any {tg e : Expr} {te : TE} (he : PE X e te) : PI X tg e (iAny X.K te) := by
  refine ⟨fun pins s σ H R I h => ?_⟩
  refine thn (he.run pins s σ H _ I h) fun v s1 ⟨x, H1, I1, r1, q1⟩ => ?_
  rcases q1 with q1 | q1 | q1
  · obtain ⟨a, e, ⟨xs, hq⟩, q⟩ := q1
    subst e
    cases r1
    obtain ⟨its, rv, p, hz⟩ := I1.list hq
    refine wpAny_pyIter_list p.isList ?_
    refine ⟨s1.heap.objs.size, [s1.heap.objs.size], _, _, H1, rfl, I1.kept (t' := s1.toks) fun b o e => Heap.get?_push_of_some _ e, turn_list a _, ⟨_, Heap.get?_push_size _ rfl, rfl, rfl⟩, fun b hb => ?_, q⟩
    have e : b = s1.heap.objs.size := by simpa using hb
    subst e
    exact I1.fpOk (Nat.le_refl _) (I1.hok.fresh (Nat.le_refl _))
  · obtain ⟨a, e, ⟨xs, hq⟩, q⟩ := q1
    subst e
    cases r1
    obtain ⟨its, rv, p, hz⟩ := I1.tuple hq
    refine wpAny_pyIter_tuple (show s1.heap.IsTuple a its.toArray from p) ?_
    refine ⟨s1.heap.objs.size, [s1.heap.objs.size], _, _, H1, rfl, I1.kept (t' := s1.toks) fun b o e => Heap.get?_push_of_some _ e, turn_tuple a _, ⟨_, Heap.get?_push_size _ rfl, rfl, rfl⟩, fun b hb => ?_, q⟩
    have e : b = s1.heap.objs.size := by simpa using hb
    subst e
    exact I1.fpOk (Nat.le_refl _) (I1.hok.fresh (Nat.le_refl _))
  · obtain ⟨y, ex, q⟩ := q1
    subst ex
    obtain ⟨t, rfl⟩ := r1
    cases ha : y.cps.all (· < 128)
    · exact wpAny_pyIter_wide ha (pi_one (tk := s1.toks) I1 _ (turn_str _ y t "str_iterator" (.inr rfl)) ⟨_, Heap.get?_push_size _ rfl, rfl, rfl⟩ q)
    · exact wpAny_pyIter_ascii ha (pi_one (tk := s1.toks) I1 _ (turn_str _ y t "str_ascii_iterator" (.inl rfl)) ⟨_, Heap.get?_push_size _ rfl, rfl, rfl⟩ q)
def itemsOf : D → Option (List D)
  | .lst ds => some ds
  | .scr ds => some ds
  | .tup ds => some ds
  | .str s => some (dSigns s)
  | _ => none
def iOf (f : ME) : MA := fun ρ S => (f ρ S).bind fun d S1 => match itemsOf d with
  | some ds => .ok ds S1
  | none => .bad
theorem di_any {tg : Expr} (ha : DE X W a f) : DI X W tg a (iOf f) := ⟨PI.imp (pi_any ha.pe) fun σ H R ⟨O, ρ, S, st, h⟩ => ⟨O, ρ, S, st, After.seq h fun d S1 O1 H1 v e1 st1 r1 h1 => by
  cases d with
  | lst ds =>
    obtain ⟨p, xs, rfl, h1', h2, h3⟩ := r1
    exact .inl ⟨p, rfl, ⟨xs, .inl (.inl h2)⟩, After.ok h1 st1 (walks_list (.inl ⟨h1', .inl h2⟩) h3 st1.wf)⟩
  | scr ds =>
    obtain ⟨p, xs, rfl, h2, h3⟩ := r1
    refine .inl ⟨p, rfl, ⟨xs, ?_⟩, After.ok h1 st1 (walks_list h2 h3 st1.wf)⟩
    rcases h2 with ⟨_, h2⟩ | h2
    · exact .inl h2
    · rcases h2 with h2 | h2
      · rcases h2 with h2 | ⟨_, h2⟩ <;> cases h2
      · exact .inr h2
  | tup ds =>
    obtain ⟨p, xs, rfl, h2, h3⟩ := r1
    exact .inr (.inl ⟨p, rfl, ⟨xs, sqT_of h2⟩, After.ok h1 st1 (walks_tup (sqT_of h2) h3 st1.wf)⟩)
  | str s => exact .inr (.inr ⟨s, r1, After.ok h1 st1 walks_str⟩)
  | _ => exact h1.elim⟩⟩
def iR1 (f : MA) : MA := fun ρ S => (f ρ S).bind fun ds S1 => match ds with
  | [.int n] => if -(2 ^ 62) ≤ n ∧ n < 2 ^ 62 then .ok (rangeD 0 n.toNat) S1 else .bad
  | _ => .bad
def iR2 (f : MA) : MA := fun ρ S => (f ρ S).bind fun ds S1 => match ds with
  | [.int m, .int n] => if -(2 ^ 62) ≤ m ∧ m < 2 ^ 62 ∧ -(2 ^ 62) ≤ n ∧ n < 2 ^ 62 then .ok (rangeD m (n - m).toNat) S1 else .bad
  | _ => .bad
theorem Reps.one {K : PySem.W.Frag} {O H} {d : D} {vs : List V} (h : Reps K O H [d] vs) : ∃ v, vs = [v] ∧ Rep K O H d v := by
  obtain ⟨v, r, rfl, h1, h2⟩ := h
  cases h2
  exact ⟨v, rfl, h1⟩
theorem Reps.two {K : PySem.W.Frag} {O H} {d e : D} {vs : List V} (h : Reps K O H [d, e] vs) : ∃ v u, vs = [v, u] ∧ Rep K O H d v ∧ Rep K O H e u := by
  obtain ⟨v, r, rfl, h1, h2⟩ := h
  obtain ⟨u, rfl, h3⟩ := h2.one
  exact ⟨v, u, rfl, h1, h3⟩
theorem di_range1 {tg : Expr} {p : Pos} {fa : MA} (hg : Gl X "range") (hm : X.mg "range" = none) (ha : DA X W [a] fa) (hs : starEach [a] X.env = [(false, eval a X.env)] := by rfl) : DI X W tg (.Call (.Name "range" p) [a] [] pos) (iR1 fa) :=
  ⟨PI.imp (pi_range1 hg hm ha.pa hs) fun σ H R ⟨O, ρ, S, st, h⟩ => ⟨O, ρ, S, st, After.seq h fun d S1 O1 H1 v e1 st1 r1 h1 => by
    rcases d with _ | ⟨d, _ | ⟨d2, ds⟩⟩
    · exact h1.elim
    · cases d with
      | int n =>
        obtain ⟨u, rfl, r⟩ := r1.one
        have h1' : After X.K W (Walks X.K) ρ σ O1 H1 R (if -(2 ^ 62) ≤ n ∧ n < 2 ^ 62 then RE.ok (rangeD 0 n.toNat) S1 else .bad) := h1
        split at h1'
        · rename_i hn
          exact ⟨n, by rw [show u = V.int n from r], hn.1, hn.2, After.ok h1' st1 walks_range⟩
        · exact h1'.elim
      | _ => exact h1.elim
    · cases d <;> exact h1.elim⟩⟩
theorem di_range2 {tg : Expr} {p : Pos} {fa : MA} (hg : Gl X "range") (hm : X.mg "range" = none) (ha : DA X W [a, b] fa) (hs : starEach [a, b] X.env = [(false, eval a X.env), (false, eval b X.env)] := by rfl) (hs2 : starEach [b] X.env = [(false, eval b X.env)] := by rfl) : DI X W tg (.Call (.Name "range" p) [a, b] [] pos) (iR2 fa) :=
  ⟨PI.imp (pi_range2 hg hm ha.pa hs hs2) fun σ H R ⟨O, ρ, S, st, h⟩ => ⟨O, ρ, S, st, After.seq h fun d S1 O1 H1 v e1 st1 r1 h1 => by
    rcases d with _ | ⟨d, _ | ⟨d2, _ | ⟨d3, ds⟩⟩⟩
    · exact h1.elim
    · cases d <;> exact h1.elim
    · cases d with
      | int m => cases d2 with
        | int n =>
          obtain ⟨u, w, rfl, r, r'⟩ := r1.two
          have h1' : After X.K W (Walks X.K) ρ σ O1 H1 R (if -(2 ^ 62) ≤ m ∧ m < 2 ^ 62 ∧ -(2 ^ 62) ≤ n ∧ n < 2 ^ 62 then RE.ok (rangeD m (n - m).toNat) S1 else .bad) := h1
          split at h1'
          · rename_i hn
            exact ⟨m, n, by rw [show u = V.int m from r, show w = V.int n from r'], hn, After.ok h1' st1 walks_range⟩
          · exact h1'.elim
        | _ => exact h1.elim
      | _ => exact h1.elim
    · cases d <;> first | exact h1.elim | (cases d2 <;> exact h1.elim)⟩⟩
/-! ### for -/
def loopS (g : MG) (body : MS) : List D → MS
  | [], ρ, S => .nx ρ S
  | d :: ds, ρ, S => match g d ρ with
    | none => .bad
    | some ρ1 => match body ρ1 S with
      | .nx ρ2 S2 => loopS g body ds ρ2 S2
      | .ct ρ2 S2 => loopS g body ds ρ2 S2
      | .bk ρ2 S2 => .nx ρ2 S2
      | r => r
def sFor (i : MA) (g : MG) (body : MS) : MS := fun ρ S => (i ρ S).stm ρ fun ds S1 => loopS g body ds ρ S1
theorem drop_of {α : Type} {l : List α} {i : Nat} {d : α} (h : l[i]? = some d) : l.drop i = d :: l.drop (i + 1) := by
  obtain ⟨hl, e⟩ := List.getElem?_eq_some_iff.mp h
  rw [← e]; exact List.drop_eq_getElem_cons hl
theorem ds_for {tg iter : Expr} {body : List Stmt} {fi : MA} {is : List Nat} {g1 : MG} (hp : PassesOwn (model X.prog X.w) X.A X.env X.xe) (hc : X.calm = true) (hi : DI X W tg iter fi) (hg : DG X tg is g1) (hb : DSs X W body F) (hs : ∀ x, foldedSetIterable iter X.env x = pure x := by intro _; rfl) : DS X W (.For tg iter body [] pos) (sFor fi g1 F) :=
  ⟨PS.imp (ps_for hp hc hi.pi hg.pg hb.pss hs) fun D' σ H ⟨O, ρ, S, st, h⟩ => ⟨O, ρ, S, st, AfterS.seqE h fun ds S1 O1 H1 J e1 st1 w1 h1 => by
    refine ⟨fun i m σ2 H2 => m = ds.length - i ∧ i ≤ ds.length ∧ ∃ O2 ρ2 S2, Ext O1 H1 O2 H2 ∧ Stt X.K O2 H2 ρ2 σ2 S2 ∧ AfterS X.K W D' O2 H2 (loopS g1 F (ds.drop i) ρ2 S2), ⟨_, rfl, Nat.zero_le _, O1, ρ, S1, .refl, st1, h1⟩, ?_⟩
    rintro i m σ2 H2 ⟨rfl, hi, O2, ρ2, S2, e2, st2, h2⟩
    have ww := w1 O2 H2 S2 ρ2 σ2 e2 st2 i
    by_cases hlt : i < ds.length
    · have hd : ds[i]? = some ds[i] := by simp [hlt]
      obtain ⟨go, yl⟩ := ww.1 _ hd
      rw [drop_of hd] at h2
      refine .inr ⟨go, fun σ' H' => ∃ O3 ρ3 S3, Ext O1 H1 O3 H' ∧ Stt X.K O3 H' ρ3 σ' S3 ∧ AfterS X.K W D' O3 H' (loopS g1 F (ds.drop (i + 1)) ρ3 S3), fun σ' H' hn => ⟨_, by omega, rfl, hlt, hn⟩, fun x H' y => ?_⟩
      obtain ⟨e3, st3, r3⟩ := yl x H' y
      have h3 : AfterS X.K W D' O2 H2 (match g1 ds[i] ρ2 with | none => .bad | some ρ1 => match F ρ1 S2 with | .nx ρ2 S2 => loopS g1 F (ds.drop (i + 1)) ρ2 S2 | .ct ρ2 S2 => loopS g1 F (ds.drop (i + 1)) ρ2 S2 | .bk ρ2 S2 => .nx ρ2 S2 | r => r) := h2
      cases q : g1 ds[i] ρ2 with
      | none => rw [q] at h3; exact h3.elim
      | some ρ4 =>
        rw [q] at h3
        refine ⟨O2, ρ2, S2, _, ρ4, st3 _ _ _ st2, r3, q, fun σ4 st4 _ => ⟨O2, ρ4, S2, st4, ?_⟩⟩
        have h4 : AfterS X.K W D' O2 H' (match F ρ4 S2 with | .nx ρ2 S2 => loopS g1 F (ds.drop (i + 1)) ρ2 S2 | .ct ρ2 S2 => loopS g1 F (ds.drop (i + 1)) ρ2 S2 | .bk ρ2 S2 => .nx ρ2 S2 | r => r) := AfterS.mono h3 e3
        cases qf : F ρ4 S2 with
        | nx ρ5 S5 => rw [qf] at h4; exact fun O' H5 σ5 e5 st5 => ⟨O', ρ5, S5, (e2.trans e3).trans e5, st5, AfterS.mono h4 e5⟩
        | ct ρ5 S5 => rw [qf] at h4; exact fun O' H5 σ5 e5 st5 => ⟨O', ρ5, S5, (e2.trans e3).trans e5, st5, AfterS.mono h4 e5⟩
        | bk ρ5 S5 => rw [qf] at h4; exact fun O' H5 σ5 e5 st5 => h4 O' H5 σ5 e5 st5
        | rt d5 S5 => rw [qf] at h4; exact h4
        | exc x5 ρ5 S5 => rw [qf] at h4; exact h4
        | bad => rw [qf] at h4; exact h4
    · have e : i = ds.length := by omega
      have h3 : AfterS X.K W D' O2 H2 (.nx ρ2 S2) := by
        have : ds.drop i = [] := by rw [e]; simp
        rw [this] at h2; exact h2
      exact .inl ⟨ww.2 e, h3 O2 H2 σ2 .refl st2⟩⟩⟩
end
end DE

namespace DE
open PySem PySem.Spec PyProof.Rows L2
section
variable {X : Cx} {W : WX} {a b c : Expr} {f g h : ME} {pos : Pos} {s : Stmt} {ss : List Stmt} {F G : MS} {tf : MT}
/-! ### list comprehensions -/
def wipeD (ρ : DE.Env) : List Nat → DE.Env
  | [] => ρ
  | v :: vs => (wipeD ρ vs).set v none
theorem wipe_env {K : PySem.W.Frag} {O : Ow} {H : Hp} {ρ : DE.Env} {σ : L2.St} (r : REnv K O H ρ σ) : ∀ vs, REnv K O H (wipeD ρ vs) (wipe σ vs)
  | [] => r
  | v :: vs => (wipe_env r vs).unset v
def loopC (own : List Nat) (g : MG) (t : MT) (e : ME) (ρ : DE.Env) : List D → Sto → RE (List D)
  | [], S => .ok [] S
  | d :: ds, S => match g d (wipeD ρ own) with
    | none => .bad
    | some ρ1 => match t ρ1 S with
      | .ok true S1 => (match e ρ1 S1 with
        | .ok v S2 => (loopC own g t e ρ ds S2).bind fun vs S3 => .ok (v :: vs) S3
        | _ => .bad)
      | .ok false S1 => loopC own g t e ρ ds S1
      | _ => .bad
def dLC (own : List Nat) (i : MA) (g : MG) (t : MT) (e : ME) : ME := fun ρ S => (i ρ S).bind fun ds S1 => if ds.length ≤ cap then (loopC own g t e ρ ds S1).bind fun vs S2 => .ok (.lst vs) S2 else .bad
abbrev W0 : WX := fun _ _ _ _ => False
structure DTs (X : Cx) (W : WX) (es : List Expr) (f : MT) : Prop where
  pts : PTs X es (tT X.K W f)
def mYes : MT := fun _ S => .ok true S
theorem dts_nil : DTs X W [] mYes := ⟨⟨fun pins s σ H Q I ⟨O, ρ, S, st, h⟩ => pts_nil.run pins s σ H Q I (After.ok h st rfl)⟩⟩
theorem dts_one (h : DT X W c tf) : DTs X W [c] tf := ⟨pts_one h.pt⟩

theorem wipe_wipe (σ : L2.St) : ∀ vs : List Nat, wipe (wipe σ vs) vs = wipe σ vs := fun vs => by
  apply List.ext_getElem?
  intro i
  by_cases hi : i ∈ vs
  · have : ∀ (τ : L2.St) , (wipe τ vs)[i]? = if i < τ.length then some none else none := fun τ => by
      split
      · rename_i hl
        cases q : (wipe τ vs)[i]? with
        | none => rw [List.getElem?_eq_none_iff, wipe_length] at q; omega
        | some o =>
          cases o with
          | none => rfl
          | some v => exact absurd hi (wipe_some q).2
      · rename_i hl
        rw [List.getElem?_eq_none_iff, wipe_length]; omega
    rw [this, this, wipe_length]
  · rw [wipe_out hi]
theorem lc_imp {own : List (Str × Nat)} {fi : MA} {is : List Nat} {g1 : MG} {ft : MT} (hv : ∀ i ∈ is, i ∈ own.map (·.2)) : ∀ σ H Q, tE X.K W (dLC (own.map (·.2)) fi g1 ft f) σ H Q → tLc (tI X.K W fi) (tG X.K is g1) (tT X.K W0 ft) (tE X.K W0 f) (own.map (·.2)) σ H Q :=
  fun σ H Q ⟨O, ρ, S, st, h⟩ => ⟨O, ρ, S, st, After.seq h fun ds S1 O1 H1 J e1 st1 w1 h1 => by
    intro p hp
    have hl : ds.length ≤ cap := by
      by_cases hl : ds.length ≤ cap
      · exact hl
      · simp only [hl, if_false] at h1; exact h1.elim
    simp only [hl, if_true] at h1
    obtain ⟨eh, sth⟩ := st1.hide (xs := []) hp
    refine ⟨fun i m H2 => m = ds.length - i ∧ i ≤ ds.length ∧ ∃ O2 S2 acc accV, p ∈ O2.u ∧ Ext O1 H1 O2 H2 ∧ Stt X.K O2 H2 ρ σ S2 ∧ H2 p = some (.lst accV) ∧ acc.length ≤ i ∧ Reps X.K O2 H2 acc accV ∧
        After X.K W (Rep X.K) ρ σ O1 H1 Q ((loopC (own.map (·.2)) g1 ft f ρ (ds.drop i) S2).bind fun vs S3 => .ok (.lst (acc ++ vs)) S3), ⟨_, rfl, Nat.zero_le _, _, S1, [], [], List.mem_cons_self, eh, sth, upd_same, Nat.le_refl _, rfl, h1⟩, ?_⟩
    rintro i m H2 ⟨rfl, hi, O2, S2, acc, accV, hu, e2, st2, hp2, ha, r2, h2⟩
    have ww := w1 O2 H2 S2 ρ σ e2 st2 i
    by_cases hlt : i < ds.length
    · have hd : ds[i]? = some ds[i] := by simp [hlt]
      obtain ⟨go, yl⟩ := ww.1 _ hd
      rw [drop_of hd] at h2
      refine .inr ⟨go, fun H' => ∃ O3 S3 acc3 accV3, p ∈ O3.u ∧ Ext O1 H1 O3 H' ∧ Stt X.K O3 H' ρ σ S3 ∧ H' p = some (.lst accV3) ∧ acc3.length ≤ i + 1 ∧ Reps X.K O3 H' acc3 accV3 ∧
        After X.K W (Rep X.K) ρ σ O1 H1 Q ((loopC (own.map (·.2)) g1 ft f ρ (ds.drop (i + 1)) S3).bind fun vs S3 => .ok (.lst (acc3 ++ vs)) S3), fun H' hn => ⟨_, by omega, rfl, hlt, hn⟩, fun x H' y => ?_⟩
      obtain ⟨e3, st3, r3⟩ := yl x H' y
      have st2' := st3 _ _ _ st2
      have hp' : ∀ {O4 H4}, Ext O2 H' O4 H4 → H4 p = some (.lst accV) := fun e4 => (e3.trans e4).keep p _ (st2.wf.hid p hu).1 hp2
      have hu' : ∀ {O4 H4}, Ext O2 H' O4 H4 → p ∈ O4.u := fun e4 => by
        obtain ⟨m, q, _⟩ := e4.preu
        rw [q]; exact List.mem_append_right _ hu
      cases q : g1 ds[i] (wipeD ρ (own.map (·.2))) with
      | none => simp only [loopC, q] at h2; exact h2.elim
      | some ρ1 =>
        refine ⟨O2, wipeD ρ (own.map (·.2)), S2, _, ρ1, ⟨st2'.wf, wipe_env st2'.env _⟩, r3, q, fun σ4 st4 only => ⟨(only _ hv).trans (wipe_wipe _ _), O2, ρ1, S2, st4, ?_⟩⟩
        cases qt : ft ρ1 S2 with
        | bad => simp only [loopC, q, qt] at h2; exact h2.elim
        | exc _ _ => simp only [loopC, q, qt] at h2; exact h2.elim
        | ok bt S5 =>
          intro O5 H5 bb e5 st5 rb
          subst rb
          cases bt with
          | false =>
            refine iteF ⟨O5, S5, acc, accV, hu' e5, e2.trans (e3.trans e5), ⟨st5.wf, st2'.env.mono (e5.w st2'.wf)⟩, hp' e5, by omega, r2.mono ((e3.trans e5).w st2.wf), ?_⟩
            simp only [loopC, q, qt] at h2
            exact h2
          | true =>
            refine iteT ⟨O5, ρ1, S5, st5, ?_⟩
            cases qf : f ρ1 S5 with
            | bad => simp only [loopC, q, qt, qf] at h2; exact h2.elim
            | exc _ _ => simp only [loopC, q, qt, qf] at h2; exact h2.elim
            | ok v6 S6 =>
              intro O6 H6 y6 e6 st6 r6
              have e56 := e5.trans e6
              have st6' : Stt X.K O6 H6 ρ σ S6 := ⟨st6.wf, st2'.env.mono (e56.w st2'.wf)⟩
              have ra : Reps X.K O6 H6 acc accV := r2.mono ((e3.trans e56).w st2.wf)
              have ew := extW_hid (xs := accV ++ [y6]) st6.wf (hu' e56)
              refine ⟨accV, hp' e56, ?_, O6, S6, acc ++ [v6], accV ++ [y6], hu' e56, ?_, st6'.hid (hu' e56), upd_same, by simp; omega, Reps.append (ra.mono ew) ⟨y6, [], rfl, r6.mono ew, rfl⟩, ?_⟩
              · rw [← ra.length]
                exact cap_lt (by omega)
              · have e7 := e2.trans (e3.trans e56)
                refine ⟨e7.pre, e7.preu, fun a o na ho => ?_, fun a u ho => ?_, fun a ho => upd_there a (e7.there a ho)⟩
                · rw [upd_ne (ne_of_none ho hp)]; exact e7.keep a o na ho
                · rw [upd_ne (ne_of_none ho hp)]; exact e7.tups a u ho
              · simp only [loopC, q, qt, qf] at h2
                have e8 : ∀ vs : List D, acc ++ [v6] ++ vs = acc ++ v6 :: vs := fun vs => by simp
                simp only [e8]
                cases ql : loopC (own.map (·.2)) g1 ft f ρ (ds.drop (i + 1)) S6 with
                | ok vs S7 => rw [ql] at h2; exact h2
                | exc _ _ => rw [ql] at h2; exact h2
                | bad => rw [ql] at h2; exact h2
    · have e : i = ds.length := by omega
      refine .inl ⟨ww.2 e, ?_⟩
      have hd : ds.drop i = [] := by rw [e]; simp
      rw [hd] at h2
      have h3 : After X.K W (Rep X.K) ρ σ O1 H1 Q (.ok (.lst (acc ++ [])) S2) := h2
      rw [List.append_nil] at h3
      have hsub : ∀ a ∈ O1.u, a ∈ O2.u := fun a ha => by
        obtain ⟨m, q, _⟩ := e2.preu
        rw [q]; exact List.mem_append_right _ ha
      refine h3 ⟨O2.l, O1.u⟩ H2 _ ⟨e2.pre, ⟨[], rfl, fun _ h => by cases h⟩, e2.keep, e2.tups, e2.there⟩ (st2.bare hsub) ⟨p, accV, rfl, ⟨(st2.wf.hid p hu).1, fun z => st1.wf.there p (.inr z) hp⟩, hp2, r2.mono (extW_bare hsub)⟩⟩
theorem de_lc {elt tg iter : Expr} {ifs : List Expr} {scope : Scope} {own : List (Str × Nat)} {vs : List Nat} {fi : MA} {is : List Nat} {g1 : MG} {ft : MT} (hc : X.calm = true) (hN : X.N.Nodup) (hi : DI X W tg iter fi) (ok : BlkOk X.N X.env.scope scope own)
    (hg : ∀ (s : Shared) (H : Hp) (C : Addr) (cl : List (Str × Addr)) (fp : List Addr), DG (X.blk s H scope (compEnvC scope cl C X.env) fp) tg is g1) (ht : ∀ (s : Shared) (H : Hp) (C : Addr) (cl : List (Str × Addr)) (fp : List Addr), DTs (X.blk s H scope (compEnvC scope cl C X.env) fp) W0 ifs ft)
    (he : ∀ (s : Shared) (H : Hp) (C : Addr) (cl : List (Str × Addr)) (fp : List Addr), DE (X.blk s H scope (compEnvC scope cl C X.env) fp) W0 elt f) (hv : ∀ i ∈ is, i ∈ vs) (hvs : vs = own.map (·.2) := by rfl) (hs : ∀ x, foldedSetIterable iter X.env x = pure x := by intro _; rfl) :
    DE X W (.ListComp elt [⟨tg, iter, ifs, 0⟩] scope pos) (dLC vs fi g1 ft f) := by
  subst hvs
  exact ⟨PE.imp (pe_lc (g := tG X.K is g1) (tt := tT X.K W0 ft) (te := tE X.K W0 f) hc hN hi.pi ok (fun s H C cl fp => (hg s H C cl fp).pg) (fun s H C cl fp => (ht s H C cl fp).pts) (fun s H C cl fp => (he s H C cl fp).pe) hs) fun σ H Q h => lc_imp hv σ H Q h⟩
theorem ds_setLc (i : Nat) {y : Str} {py spos : Pos} {elt tg iter : Expr} {ifs : List Expr} {scope : Scope} {own : List (Str × Nat)} {vs : List Nat} {fi : MA} {is : List Nat} {g1 : MG} {ft : MT} (hc : X.calm = true) (hN : X.N.Nodup) (hy : X.N[i]? = some y) (hyl : X.env.scope.names.lookup y = some .local)
    (hsw : swapsWith (.ListComp elt [⟨tg, iter, ifs, 0⟩] scope pos) (some (.Name y py)) spos.line X.env = pure true) (hi : DI X W tg iter fi) (ok : BlkOk X.N X.env.scope scope own)
    (hg : ∀ (s : Shared) (H : Hp) (C : Addr) (cl : List (Str × Addr)) (fp : List Addr), DG (X.blk s H scope (compEnvC scope cl C X.env) fp) tg is g1) (ht : ∀ (s : Shared) (H : Hp) (C : Addr) (cl : List (Str × Addr)) (fp : List Addr), DTs (X.blk s H scope (compEnvC scope cl C X.env) fp) W0 ifs ft)
    (he : ∀ (s : Shared) (H : Hp) (C : Addr) (cl : List (Str × Addr)) (fp : List Addr), DE (X.blk s H scope (compEnvC scope cl C X.env) fp) W0 elt f) (hv : ∀ i ∈ is, i ∈ vs) (hvs : vs = own.map (·.2) := by rfl) (hs : ∀ x, foldedSetIterable iter X.env x = pure x := by intro _; rfl) :
    DS X W (.Assign [.Name y py] (.ListComp elt [⟨tg, iter, ifs, 0⟩] scope pos) spos) (sAsg (dLC vs fi g1 ft f) (gN i)) := by
  subst hvs
  exact ⟨PS.imp (ps_setLc (g := tG X.K is g1) (tt := tT X.K W0 ft) (te := tE X.K W0 f) hc hN hy hyl hsw hi.pi ok (fun s H C cl fp => (hg s H C cl fp).pg) (fun s H C cl fp => (ht s H C cl fp).pts) (fun s H C cl fp => (he s H C cl fp).pe) hs) fun D' σ H ⟨O, ρ, S, st, h⟩ =>
    lc_imp hv σ H _ ⟨O, ρ, S, st, AfterS.seqE h fun d S1 O1 H1 v e1 st1 r1 h1 => h1 O1 H1 _ .refl ⟨st1.wf, st1.env.set r1 i⟩⟩⟩
end
/-! ### defs and their calls -/
def AfterF (K : PySem.W.Frag) (O : Ow) (H : Hp) (Q : VK) (E : XK) : RE D → Prop
  | .ok d S' => ∀ O' H' v, Ext O H O' H' → WF K O' H' S' → Rep K O' H' d v → Q v H'
  | .exc x S' => ∀ O' H' cls dx, Ext O H O' H' → WF K O' H' S' → RepX K O' H' x cls dx → E cls dx H'
  | .bad => False
abbrev FD := List D → Sto → RE D
def spD (K : PySem.W.Frag) (n : Nat) (F : FD) : Sp := fun vs H Q E => ∃ O S ds, WF K O H S ∧ Reps K O H ds vs ∧ ds.length = n ∧ AfterF K O H Q E (F ds S)
def fnD (n : Nat) (B : MS) : FD := fun ds S => match B (ds.map some ++ List.replicate (n - ds.length) none) S with
  | .nx _ S' => .ok .non S'
  | .rt d S' => .ok d S'
  | .exc x _ S' => .exc x S'
  | _ => .bad
abbrev WD (E : XK) : WX := fun cls d _ H => E cls d H
section
variable {P : Program} {w : World} {K : PySem.W.Frag} {mg : Str → Option Value} {base : Heap} {x qual : Str} {params : Arguments} {body : List Stmt} {scope : Scope} {dvs : List V} {kws : List (Str × V)} {f : Addr} {fd : FuncData} {N ps : List Str} {k : Nat} {B : MS}
/-- a def's context -/
abbrev XOf (P : Program) (w : World) (K : PySem.W.Frag) (mg : Str → Option Value) (base : Heap) (N : List Str) (qual : Str) (scope : Scope) (f : Addr) (cdv : Value) (A : Around) (outer : List PySem.Env) (s : Shared) (H : Hp) (E : XK) : Cx :=
  cxOf (L2.CX P w) P w K mg base N qual scope f cdv A outer s H E
theorem fn_data (F : FunD K x qual params body scope dvs kws f fd) (S : FnScope N ps scope)
    (hbody : ∀ (cdv : Value) (A : Around) (outer : List PySem.Env) (s : Shared) (H : Hp) (E : XK), Room k (A.deeper (envOfC qual scope s.heap.objs.size f cdv)) → DSs (XOf P w K mg base N qual scope f cdv A outer s H E) (WD E) body B) :
    FnOk P w K mg base (L2.CX P w) (k + 1) f fd ps (spD K ps.length (fnD N.length B)) := by
  refine F.ok S (fun vs H Q E h => ?_) (fun cdv A outer s H vs Q E hr h => ?_)
  · obtain ⟨O, S', ds, _, r, hl, _⟩ := h
    rw [← r.length]; exact hl
  · obtain ⟨O, S', ds, wf, r, hl, h⟩ := h
    refine ⟨_, (hbody cdv A outer s H E hr).pss, O, _, S', ⟨wf, by rw [L2.start, ← r.length]; exact (REnv.of r).app (N.length - ds.length)⟩, ?_⟩
    · unfold fnD at h
      cases q : B (ds.map some ++ List.replicate (N.length - ds.length) none) S' with
      | nx ρ1 S1 => rw [q] at h; exact fun O' H' σ' e st => h O' H' .non e st.wf rfl
      | rt d S1 => rw [q] at h; exact fun O' H' v e st rd => h O' H' v e st rd
      | exc x ρ1 S1 => rw [q] at h; exact fun O' H' σ' cls dx e st rx => h O' H' cls dx e st.wf rx
      | bk _ _ => rw [q] at h; exact h.elim
      | ct _ _ => rw [q] at h; exact h.elim
      | bad => rw [q] at h; exact h.elim
end
section
variable {X : Cx} {W : WX} {x : Str} {p pos : Pos} {e : Expr} {es : List Expr} {k n : Nat} {f : Addr} {fd : FuncData} {ps : List Str} {dvs : List V} {dsv : List Value} {F : FD} {fa : MA}
/-- a call; dd: what the defaults are -/
def dCall (n : Nat) (F : FD) (dd : List D) (fa : MA) : ME := fun ρ S => (fa ρ S).bind fun ds S1 => if (ds ++ dd).length = n then F (ds ++ dd) S1 else .bad
theorem call_imp {E : L2.St → XK} {dd : List D} (hE : ∀ σ cls dx H, W cls dx σ H → E σ cls dx H) (hdd : ∀ O H, Reps X.K O H dd dvs) {σ : L2.St} {H : Hp} {Q : VK} (h : tE X.K W (dCall n F dd fa) σ H Q) : tCallSD (spD X.K n F) dvs E (tA X.K W fa) σ H Q := by
  obtain ⟨O, ρ, S, st, h⟩ := h
  refine ⟨O, ρ, S, st, After.seq h fun ds S1 O1 H1 vs e1 st1 r1 h1 => ?_⟩
  by_cases hl : (ds ++ dd).length = n
  · simp only [hl, if_true] at h1
    refine ⟨O1, S1, ds ++ dd, st1.wf, r1.append (hdd O1 H1), hl, ?_⟩
    cases q : F (ds ++ dd) S1 with
    | ok d S' => rw [q] at h1; exact fun O' H' v e wf r => h1 O' H' v e ⟨wf, st1.env.mono (e.w st1.wf)⟩ r
    | exc y S' => rw [q] at h1; exact fun O' H' cls dx e wf r => hE _ _ _ _ (h1 O' H' cls dx e ⟨wf, st1.env.mono (e.w st1.wf)⟩ r)
    | bad => rw [q] at h1; exact h1
  · simp only [hl, if_false] at h1; exact h1.elim
theorem de_call {dd : List D} (G : FnOk X.prog X.w X.K X.mg X.base (L2.CX X.prog X.w) k f fd ps (spD X.K n F)) (hr : Room k X.A) (hg : Gl X x) (hm : X.mg x = some (.ref f)) (hk : PySem.W.keepIn X.K (.ref f) = true) (hb : Binds X.K fd ps dsv) (hd : Vals dvs dsv)
    (hdd : ∀ O H, Reps X.K O H dd dvs) (tk : Takes X W) (ha : DA X W (e :: es) fa) (hdb : (x == ("__debug__" : Str)) = false := by decide) (he : starEach (e :: es) X.env = (false, eval e X.env) :: starEach es X.env := by rfl) (hpl : (backTo pos (starEach es X.env)).any (·.1) = false := by rfl) :
    DE X W (.Call (.Name x p) (e :: es) [] pos) (dCall n F dd fa) :=
  ⟨PE.imp (pe_callSD G hr hg hm hk hb hd (fun σ => passAt tk σ) ha.pa hdb he hpl) fun _ _ _ h => call_imp (fun _ _ _ _ q => q) hdd h⟩
/-- built-ins -/
def CaD (X : Cx) (r : List V → Hp → VK → Prop) (op : FD) : Prop :=
  ∀ (W : WX) (ρ : DE.Env) (σ : L2.St) (O : Ow) (H : Hp) (S : Sto) (vs : List V) (ds : List D) (Q : VK), Stt X.K O H ρ σ S → Reps X.K O H ds vs → After X.K W (Rep X.K) ρ σ O H Q (op ds S) → r vs H Q
def dBlt (op : FD) (fa : MA) : ME := fun ρ S => (fa ρ S).bind fun ds S1 => op ds S1
theorem blt_imp {r : List V → Hp → VK → Prop} {op : FD} (ho : CaD X r op) {σ : L2.St} {H : Hp} {Q : VK} (h : tE X.K W (dBlt op fa) σ H Q) : tCB r (tA X.K W fa) σ H Q := by
  obtain ⟨O, ρ, S, st, h⟩ := h
  exact ⟨O, ρ, S, st, After.seq h fun ds S1 O1 H1 vs e1 st1 r1 h1 => ho W ρ σ O1 H1 S1 vs ds Q st1 r1 h1⟩
theorem de_blt {id : String} {r : List V → Hp → VK → Prop} {op : FD} (hc : CallR X (.builtin id) r) (ho : CaD X r op) (hg : Gl X x) (hm : X.mg x = none) (hv : bootBuiltins x = some (.builtin id)) (ha : DA X W (e :: es) fa) (hn : x ≠ "__name__" := by decide) (hdb : (x == ("__debug__" : Str)) = false := by decide)
    (he : starEach (e :: es) X.env = (false, eval e X.env) :: starEach es X.env := by rfl) (hpl : (backTo pos (starEach es X.env)).any (·.1) = false := by rfl) : DE X W (.Call (.Name x p) (e :: es) [] pos) (dBlt op fa) :=
  ⟨PE.imp (pe_callB hc hg hm hv ha.pa hn hdb he hpl) fun _ _ _ h => blt_imp ho h⟩
theorem de_bty {T : String} {r : List V → Hp → VK → Prop} {op : FD} (hc : CallR X (.type T) r) (ho : CaD X r op) (hg : Gl X x) (hm : X.mg x = none) (hv : bootBuiltins x = some (.type T)) (ha : DA X W (e :: es) fa) (hn : x ≠ "__name__" := by decide) (hdb : (x == ("__debug__" : Str)) = false := by decide)
    (he : starEach (e :: es) X.env = (false, eval e X.env) :: starEach es X.env := by rfl) (hpl : (backTo pos (starEach es X.env)).any (·.1) = false := by rfl) : DE X W (.Call (.Name x p) (e :: es) [] pos) (dBlt op fa) :=
  ⟨PE.imp (pe_callTy hc hg hm hv ha.pa hn hdb he hpl) fun _ _ _ h => blt_imp ho h⟩
end
end DE

set_option maxHeartbeats 4000000
namespace DE
open PySem PySem.Spec PyProof.Rows L2
def RD (K : PySem.W.Frag) (op : D → D → Sto → RE D) : R2 := fun x y H Q => ∃ W ρ σ O S d e, Stt K O H ρ σ S ∧ Rep K O H d x ∧ Rep K O H e y ∧ After K W (Rep K) ρ σ O H Q (op d e S)
theorem opD_RD {X : Cx} {op : D → D → Sto → RE D} : OpD X (RD X.K op) op := fun W ρ σ O H S x y d e Q st r1 r2 h => ⟨W, ρ, σ, O, S, d, e, st, r1, r2, h⟩
section
variable {X : Cx} {W : WX} {a b c : Expr} {f g h : ME} {pos : Pos}
theorem de_bin {op : Operator} {o : D → D → Sto → RE D} (hr : OpR X (binaryOp op) (RD X.K o)) (ha : DE X W a f) (hb : DE X W b g) : DE X W (.BinOp a op b pos) (dBin o f g) := de_op hr opD_RD ha hb
theorem de_rel {op : CmpOp} {o : D → D → Sto → RE D} (hr : OpR X (compareOp op) (RD X.K o)) (ha : DE X W a f) (hb : DE X W b g) (hm : behindInMarks op b = false := by first | exact nomark _ | rfl) : DE X W (.Compare a [op] [b] pos) (dBin o f g) := de_cmp hr opD_RD ha hb hm
theorem dt_rel {op : CmpOp} {o : D → D → Sto → RE D} (hr : OpR X (compareOp op) (RD X.K o)) (ha : DE X W a f) (hb : DE X W b g) (hm : behindInMarks op b = false := by first | exact nomark _ | rfl) : DT X W (.Compare a [op] [b] pos) (dTest (dBin o f g)) := dt_cmp hr opD_RD ha hb hm
/-! ### arithmetic -/
def oAdd : D → D → Sto → RE D
  | .int i, .int j, S => .ok (.int (i + j)) S
  | .str x, .str y, S => if x.length + y.length ≤ cap then .ok (.str (x ++ y)) S else .bad
  | .lst xs, .lst ys, S => if xs.length + ys.length ≤ cap then .ok (.lst (xs ++ ys)) S else .bad
  | .tup xs, .tup ys, S => if xs.length + ys.length ≤ cap then .ok (.tup (xs ++ ys)) S else .bad
  | _, _, _ => .bad
theorem ite_ok {α : Type} {c : Prop} [Decidable c] {r : RE α} {P : RE α → Prop} (h : P (if c then r else .bad)) (nb : ¬ P .bad) : c ∧ P r := by
  by_cases hc : c
  · rw [if_pos hc] at h; exact ⟨hc, h⟩
  · rw [if_neg hc] at h; exact absurd h nb
theorem After.ite {α β : Type} {K : PySem.W.Frag} {W : WX} {ρ : DE.Env} {σ : L2.St} {O : Ow} {H : Hp} {Rl : Ow → Hp → α → β → Prop} {Q : β → Hp → Prop} {c : Prop} [Decidable c] {r : RE α} (h : After K W Rl ρ σ O H Q (if c then r else .bad)) : c ∧ After K W Rl ρ σ O H Q r :=
  ite_ok (P := fun r => After K W Rl ρ σ O H Q r) h fun z => z
theorem op_oAdd : OpR X (binaryOp .Add) (RD X.K oAdd) := by
  intro pins s σ H x y v u Q I rx ry ⟨W, ρ, σ', O, S, d, e, st, r1, r2, h⟩
  cases d <;> cases e <;> try exact h.elim
  · rename_i i j
    exact op_add pins s σ H x y v u Q I rx ry ⟨i, j, r1, r2, After.ok h st rfl⟩
  · rename_i i j
    obtain ⟨hc, h⟩ := After.ite h
    exact op_add_str pins s σ H x y v u Q I rx ry ⟨i, j, r1, r2, cap_line hc, After.ok h st rfl⟩
  · rename_i ds es
    obtain ⟨hc, h⟩ := After.ite h
    obtain ⟨p, xs, rfl, h1, q1⟩ := r1
    obtain ⟨q, ys, rfl, h2, q2⟩ := r2
    refine op_catA pins s σ H _ _ v u Q I rx ry ⟨p, q, xs, ys, rfl, rfl, sqT_of h1, sqT_of h2, by rw [← q1.length, ← q2.length]; exact cap_line hc, fun e => ?_, fun _ e => ?_, fun _ _ t ht => ?_⟩
    · subst e
      cases ds with
      | nil => exact After.ok h st ⟨q, ys, rfl, h2, q2⟩
      | cons _ _ => obtain ⟨_, _, e, _⟩ := q1; cases e
    · subst e
      cases es with
      | nil => exact After.ok h st ⟨p, xs, rfl, h1, by rw [List.append_nil]; exact q1⟩
      | cons _ _ => obtain ⟨_, _, e, _⟩ := q2; cases e
    · obtain ⟨e2, st2⟩ := st.new (o := .tup (xs ++ ys)) ht
      exact h O _ _ e2 st2 ⟨t, _, rfl, .inl upd_same, (q1.mono (e2.w st.wf)).append (q2.mono (e2.w st.wf))⟩
  · rename_i ds es
    obtain ⟨hc, h⟩ := After.ite h
    obtain ⟨p, xs, rfl, n1, h1, q1⟩ := r1
    obtain ⟨q, ys, rfl, n2, h2, q2⟩ := r2
    refine op_cat pins s σ H _ _ v u Q I rx ry ⟨p, q, xs, ys, rfl, rfl, h1, h2, by rw [← q1.length, ← q2.length]; exact cap_line hc, fun t ht => ?_⟩
    obtain ⟨e2, st2⟩ := st.new (o := .lst (xs ++ ys)) ht
    exact h O _ _ e2 st2 ⟨t, _, rfl, st.no ht, upd_same, (q1.mono (e2.w st.wf)).append (q2.mono (e2.w st.wf))⟩
/-- ints -/
def oI (C : Int → Int → Bool) (g : Int → Int → D) : D → D → Sto → RE D
  | .int i, .int j, S => if C i j = true then .ok (g i j) S else .bad
  | _, _, _ => .bad
theorem op_I {f : Value → Value → Sem Value} {P : Int → Int → Prop} {gv : Int → Int → V} {C : Int → Int → Bool} {gd : Int → Int → D} (hr : OpR X f (rI P gv)) (hC : ∀ i j, C i j = true → P i j) (hg : ∀ O H i j, Rep X.K O H (gd i j) (gv i j)) : OpR X f (RD X.K (oI C gd)) := by
  intro pins s σ H x y v u Q I rx ry ⟨W, ρ, σ', O, S, d, e, st, r1, r2, h⟩
  cases d <;> cases e <;> try exact h.elim
  rename_i i j
  obtain ⟨hc, h⟩ := After.ite h
  exact hr pins s σ H x y v u Q I rx ry ⟨i, j, r1, r2, hC i j hc, After.ok h st (hg _ _ _ _)⟩
theorem op_I0 {f : Value → Value → Sem Value} {gv : Int → Int → V} {gd : Int → Int → D} (hr : OpR X f (rI0 gv)) (hg : ∀ O H i j, Rep X.K O H (gd i j) (gv i j)) : OpR X f (RD X.K (oI (fun _ _ => true) gd)) := by
  intro pins s σ H x y v u Q I rx ry ⟨W, ρ, σ', O, S, d, e, st, r1, r2, h⟩
  cases d <;> cases e <;> try exact h.elim
  rename_i i j
  have h' : After X.K W (Rep X.K) ρ σ' O H Q (.ok (gd i j) S) := h
  exact hr pins s σ H x y v u Q I rx ry ⟨i, j, r1, r2, After.ok h' st (hg _ _ _ _)⟩
def oSub := oI (fun _ _ => true) fun i j => .int (i - j)
theorem op_oSub : OpR X (binaryOp .Sub) (RD X.K oSub) := op_I0 op_sub fun _ _ _ _ => rfl
def lim64 : Int := 18446744073709551616
def oFDiv := oI (fun i j => decide (0 < j ∧ j < 1073741824)) fun i j => .int (i / j)
theorem op_oFDiv : OpR X (binaryOp .FloorDiv) (RD X.K oFDiv) := op_I op_fdiv (fun i j h => by unfold CDiv; simpa using h) fun _ _ _ _ => rfl
def oMod := oI (fun i j => decide (0 < j)) fun i j => .int (i % j)
theorem op_oMod : OpR X (binaryOp .Mod) (RD X.K oMod) := op_I op_mod (fun i j h => of_decide_eq_true h) fun _ _ _ _ => rfl
def oPow := oI (fun i j => decide (0 ≤ j ∧ j ≤ 1000000 ∧ i.natAbs < lim64.toNat)) fun i j => .int (i ^ j.toNat)
theorem op_oPow : OpR X (binaryOp .Pow) (RD X.K oPow) := op_I op_pow (fun i j h => by have := of_decide_eq_true h; refine ⟨this.1, this.2.1, ?_⟩; simpa [lim64] using this.2.2) fun _ _ _ _ => rfl
/-- a text so many times -/
def mulS (x : Str) (n : Int) : Str := ⟨(List.replicate n.toNat x.cps.toList).flatten.toArray⟩
theorem fold_app (x : Array Nat) : ∀ (n : Nat) (acc : Array Nat), (List.replicate n x).foldl (· ++ ·) acc = acc ++ (List.replicate n x.toList).flatten.toArray
  | 0, acc => by simp
  | n + 1, acc => by
    rw [List.replicate_succ, List.foldl_cons, fold_app x n, List.replicate_succ, List.flatten_cons, Array.append_assoc]
    congr 1
    apply Array.ext'
    simp
theorem mulS_eq (x : Str) (n : Int) : (⟨(List.replicate n.toNat x.cps).foldl (· ++ ·) #[]⟩ : Str) = mulS x n := by
  unfold mulS
  rw [fold_app]
  simp
theorem mulS_len (x : Str) (n : Int) : (mulS x n).length = n.toNat * x.length := by
  show (((List.replicate n.toNat x.cps.toList).flatten.toArray)).size = n.toNat * x.cps.size
  rw [List.size_toArray]
  generalize n.toNat = m
  induction m with
  | zero => simp
  | succ m ih => rw [List.replicate_succ, List.flatten_cons, List.length_append, ih, Array.length_toList]; rw [Nat.succ_mul]; omega
theorem str_ext {x y : Str} (h : x.cps.toList = y.cps.toList) : x = y := by
  obtain ⟨a⟩ := x
  obtain ⟨b⟩ := y
  have : a = b := Array.ext' h
  rw [this]
theorem mul_text {prog : Program} {w : World} {A : Around} {E : Value → Shared → Prop} {s : Shared} {x : Str} {n : Int} {t u : Tok} {Q : Value → Shared → Prop} (h2 : n ≤ 100000) (h0 : -100000 ≤ n) (h3 : n.toNat * x.length ≤ 100000) (h4 : x.length ≤ 100000)
    (h : ∀ tk tk', Q (.str (mulS x n) tk) { s with toks := tk' }) : wpAny (model prog w) A (binaryOp .Mult (.str x t) (.int n u)) Q E s := by
  refine PySem.P.mul_str (by
      have a : ¬ n < -(2 ^ 63 : Int) := by omega
      have b : ¬ n ≥ 2 ^ 63 := by omega
      rw [decide_eq_false a, decide_eq_false b]; rfl) (fun h1 _ => ?_) (fun _ _ => ?_) ?_
  · have h5 : (x.length : Int) * n ≤ 100000 := by
      have : ((n.toNat * x.length : Nat) : Int) ≤ 100000 := by omega
      rw [Int.natCast_mul, Int.toNat_of_nonneg (by omega)] at this
      rw [Int.mul_comm]; exact this
    intro hgt
    have : (x.length : Int) ≤ (2 ^ 63 - 1) / n := by
      rw [Int.le_ediv_iff_mul_le (by omega)]
      omega
    omega
  · show decide (x.length * n.toNat > sizeLine) = false
    rw [Nat.mul_comm]
    exact decide_eq_false (Nat.not_lt.mpr (Nat.le_trans h3 (by decide)))
  · by_cases hn : n < 1
    · rw [if_pos hn]
      have e : mulS x n = Str.empty := by
        have : n.toNat = 0 := by omega
        unfold mulS; rw [this]; rfl
      have := h s.toks (s.toks + 1)
      rw [e] at this
      exact ⟨by decide, this⟩
    · rw [if_neg hn]
      by_cases hq : (n == 1 || x.length == 0) = true
      · rw [if_pos hq]
        have e : mulS x n = x := by
          rcases Bool.or_eq_true _ _ ▸ hq with z | z
          · have : n = 1 := by simpa using z
            subst this
            apply str_ext
            simp [mulS]
          · have z : x.cps.size = 0 := (show x.length = 0 by simpa using z)
            have z' : x.cps = #[] := by simpa using z
            apply str_ext
            unfold mulS
            rw [z']
            simp
        have := h t s.toks
        rw [e] at this
        exact this
      · rw [if_neg hq, mulS_eq]
        exact ⟨by rw [mulS_len]; exact Nat.le_trans h3 (by decide), h _ _⟩
def oMul : D → D → Sto → RE D
  | .int i, .int j, S => if (-lim64 < i ∧ i < lim64) ∨ (-lim64 < j ∧ j < lim64) then .ok (.int (i * j)) S else .bad
  | .str x, .int n, S => if n ≤ 100000 ∧ -100000 ≤ n ∧ n.toNat * x.length ≤ 100000 ∧ x.length ≤ 100000 then .ok (.str (mulS x n)) S else .bad
  | .lst xs, .int n, S => if -100000 ≤ n ∧ n ≤ 100000 ∧ xs.length * n.toNat ≤ cap then .ok (.lst (List.replicate n.toNat xs).flatten) S else .bad
  | _, _, _ => .bad
theorem Reps.rep {K : PySem.W.Frag} {O : Ow} {H : Hp} {ds : List D} {vs : List V} (r : Reps K O H ds vs) : ∀ n, Reps K O H (List.replicate n ds).flatten (List.replicate n vs).flatten
  | 0 => rfl
  | n + 1 => by
    rw [List.replicate_succ, List.flatten_cons, List.replicate_succ, List.flatten_cons]
    exact r.append (Reps.rep r n)
theorem op_oMul : OpR X (binaryOp .Mult) (RD X.K oMul) := by
  intro pins s σ H x y v u Q I rx ry ⟨W, ρ, σ', O, S, d, e, st, r1, r2, h⟩
  cases d <;> cases e <;> try exact h.elim
  · rename_i i j
    obtain ⟨hc, h⟩ := After.ite h
    exact op_mul pins s σ H x y v u Q I rx ry ⟨i, j, r1, r2, hc, After.ok h st rfl⟩
  · rename_i z n
    obtain ⟨hc, h⟩ := After.ite h
    cases (show x = V.str z from r1)
    cases (show y = V.int n from r2)
    obtain ⟨t, rfl⟩ := rx
    obtain ⟨t', rfl⟩ := ry
    exact mul_text hc.1 hc.2.1 hc.2.2.1 hc.2.2.2 fun tk tk' => ⟨.str _, H, I.tok tk', ⟨_, rfl⟩, After.ok h st rfl⟩
  · rename_i ds n
    obtain ⟨hc, h⟩ := After.ite h
    obtain ⟨p, xs, rfl, n1, h1, q1⟩ := r1
    refine op_rep pins s σ H _ _ v u Q I rx ry ⟨p, n, xs, rfl, r2, h1, by omega, by omega, by rw [← q1.length]; exact cap_line hc.2.2, fun t ht => ?_⟩
    obtain ⟨e2, st2⟩ := st.new (o := .lst (List.replicate n.toNat xs).flatten) ht
    exact h O _ _ e2 st2 ⟨t, _, rfl, st.no ht, upd_same, (q1.mono (e2.w st.wf)).rep _⟩
/-! ### comparisons -/
def strLt (x y : Str) : Bool := decide (x.cps.toList < y.cps.toList)
def oLt : D → D → Sto → RE D
  | .int i, .int j, S => .ok (.bl (decide (i < j))) S
  | .str x, .str y, S => .ok (.bl (strLt x y)) S
  | _, _, _ => .bad
theorem op_oLt : OpR X (compareOp .Lt) (RD X.K oLt) := by
  intro pins s σ H x y v u Q I rx ry ⟨W, ρ, σ', O, S, d, e, st, r1, r2, h⟩
  cases d <;> cases e <;> try exact h.elim
  · rename_i i j
    exact op_lt pins s σ H x y v u Q I rx ry ⟨i, j, r1, r2, After.ok h st rfl⟩
  · rename_i i j
    exact op_lt_str pins s σ H x y v u Q I rx ry ⟨i, j, r1, r2, After.ok h st rfl⟩
def oGt : D → D → Sto → RE D
  | .int i, .int j, S => .ok (.bl (decide (j < i))) S
  | .str x, .str y, S => .ok (.bl (strLt y x)) S
  | _, _, _ => .bad
def oLe : D → D → Sto → RE D
  | .int i, .int j, S => .ok (.bl (decide (i ≤ j))) S
  | .str x, .str y, S => .ok (.bl (!strLt y x)) S
  | _, _, _ => .bad
def oGe : D → D → Sto → RE D
  | .int i, .int j, S => .ok (.bl (decide (j ≤ i))) S
  | .str x, .str y, S => .ok (.bl (!strLt x y)) S
  | _, _, _ => .bad
theorem op_oGt : OpR X (compareOp .Gt) (RD X.K oGt) := by
  intro pins s σ H x y v u Q I rx ry ⟨W, ρ, σ', O, S, d, e, st, r1, r2, h⟩
  cases d <;> cases e <;> try exact h.elim
  · rename_i i j
    exact op_gt pins s σ H x y v u Q I rx ry ⟨i, j, r1, r2, After.ok h st rfl⟩
  · rename_i i j
    exact op_gt_str pins s σ H x y v u Q I rx ry ⟨i, j, r1, r2, After.ok h st rfl⟩
theorem dec_not {a b : List Nat} : decide (a ≤ b) = !decide (b < a) := by
  by_cases h : b < a
  · rw [decide_eq_true h, decide_eq_false (fun z => z h)]; rfl
  · rw [decide_eq_false h, decide_eq_true (show a ≤ b from h)]; rfl
theorem op_oLe : OpR X (compareOp .LtE) (RD X.K oLe) := by
  intro pins s σ H x y v u Q I rx ry ⟨W, ρ, σ', O, S, d, e, st, r1, r2, h⟩
  cases d <;> cases e <;> try exact h.elim
  · rename_i i j
    exact op_le pins s σ H x y v u Q I rx ry ⟨i, j, r1, r2, After.ok h st rfl⟩
  · rename_i i j
    exact op_le_str pins s σ H x y v u Q I rx ry ⟨i, j, r1, r2, by first | exact After.ok h st rfl | (have := After.ok h st (v := .bl _) rfl; simpa [strLt, dec_not] using this)⟩
theorem op_oGe : OpR X (compareOp .GtE) (RD X.K oGe) := by
  intro pins s σ H x y v u Q I rx ry ⟨W, ρ, σ', O, S, d, e, st, r1, r2, h⟩
  cases d <;> cases e <;> try exact h.elim
  · rename_i i j
    exact op_ge pins s σ H x y v u Q I rx ry ⟨i, j, r1, r2, After.ok h st rfl⟩
  · rename_i i j
    exact op_ge_str pins s σ H x y v u Q I rx ry ⟨i, j, r1, r2, by first | exact After.ok h st rfl | (have := After.ok h st (v := .bl _) rfl; simpa [strLt, dec_not] using this)⟩
/-! equality of data -/
mutual
def toPy : D → Option PyData
  | .non => some .none
  | .bl b => some (.bool b)
  | .int i => some (.int i)
  | .str x => some (.str x)
  | .tup ds => (toPys ds).map .tuple
  | .lst ds => (toPys ds).map .list
  | _ => none
def toPys : List D → Option (List PyData)
  | [] => some []
  | d :: ds => match toPy d, toPys ds with
    | some p, some ps => some (p :: ps)
    | _, _ => none
end
mutual
theorem dp_of {K : PySem.W.Frag} {O : Ow} {H : Hp} : ∀ {d : D} {p : PyData} {v : V}, toPy d = some p → Rep K O H d v → Dp K H v p
  | .non, _, _, e, r => by cases e; cases r; exact .non
  | .bl _, _, _, e, r => by cases e; cases r; exact .bl _
  | .int _, _, _, e, r => by cases e; cases r; exact .int _
  | .str _, _, _, e, r => by cases e; cases r; exact .str _
  | .tup ds, _, _, e, r => by
    obtain ⟨a, xs, rfl, h1, h2⟩ := r
    simp only [toPy] at e
    cases q : toPys ds with
    | none => rw [q] at e; cases e
    | some ps => rw [q] at e; cases e; exact .tup (sqT_of h1) (dps_of q h2)
  | .lst ds, _, _, e, r => by
    obtain ⟨a, xs, rfl, n, h1, h2⟩ := r
    simp only [toPy] at e
    cases q : toPys ds with
    | none => rw [q] at e; cases e
    | some ps => rw [q] at e; cases e; exact .lst (SqL.of h1) (dps_of q h2)
  | .ty _, _, _, e, _ => by cases e
  | .glo _, _, _, e, _ => by cases e
  | .scr _, _, _, e, _ => by cases e
  | .dK _, _, _, e, _ => by cases e
  | .dT _, _, _, e, _ => by cases e
  | .obj _ _, _, _, e, _ => by cases e
  | .own _, _, _, e, _ => by cases e
  | .xcp _ _ _, _, _, e, _ => by cases e
  | .exo _ _, _, _, e, _ => by cases e
theorem dps_of {K : PySem.W.Frag} {O : Ow} {H : Hp} : ∀ {ds : List D} {ps : List PyData} {vs : List V}, toPys ds = some ps → Reps K O H ds vs → DpAll K H vs ps
  | [], _, _, e, r => by cases e; cases r; exact .nil
  | d :: ds, _, _, e, r => by
    obtain ⟨v, vr, rfl, r1, r2⟩ := r
    simp only [toPys] at e
    cases q : toPy d with
    | none => rw [q] at e; cases e
    | some p =>
      cases q2 : toPys ds with
      | none => rw [q, q2] at e; cases e
      | some ps => rw [q, q2] at e; cases e; exact .cons (dp_of q r1) (dps_of q2 r2)
end
def eqD (d e : D) : Option Bool := match toPy d, toPy e with
  | some p, some q => if SeqAt.shaped p = true ∧ SeqAt.shaped q = true then some (PyData.eqv p q) else none
  | _, _ => none
def oEq (d e : D) (S : Sto) : RE D := match eqD d e with
  | some b => .ok (.bl b) S
  | none => .bad
def oNe (d e : D) (S : Sto) : RE D := match eqD d e with
  | some b => .ok (.bl (!b)) S
  | none => .bad
theorem eqD_some {d e : D} {b : Bool} (h : eqD d e = some b) : ∃ p q, toPy d = some p ∧ toPy e = some q ∧ SeqAt.shaped p = true ∧ SeqAt.shaped q = true ∧ b = PyData.eqv p q := by
  unfold eqD at h
  split at h
  · rename_i p q h1 h2
    split at h
    · rename_i hs
      cases h
      exact ⟨p, q, h1, h2, hs.1, hs.2, rfl⟩
    · cases h
  · cases h
theorem op_oEq (hu : X.A.units + 64 < cLine) : OpR X (compareOp .Eq) (RD X.K oEq) := by
  intro pins s σ H x y v u Q I rx ry ⟨W, ρ, σ', O, S, d, e, st, r1, r2, h⟩
  unfold oEq at h
  split at h
  · rename_i b hb
    obtain ⟨p, q, e1, e2, s1, s2, rfl⟩ := eqD_some hb
    exact op_eqD hu pins s σ H x y v u Q I rx ry ⟨p, q, dp_of e1 r1, dp_of e2 r2, s1, s2, After.ok h st rfl⟩
  · exact h.elim
theorem op_oNe (hu : X.A.units + 64 < cLine) : OpR X (compareOp .NotEq) (RD X.K oNe) := by
  intro pins s σ H x y v u Q I rx ry ⟨W, ρ, σ', O, S, d, e, st, r1, r2, h⟩
  unfold oNe at h
  split at h
  · rename_i b hb
    obtain ⟨p, q, e1, e2, s1, s2, rfl⟩ := eqD_some hb
    exact op_neD hu pins s σ H x y v u Q I rx ry ⟨p, q, dp_of e1 r1, dp_of e2 r2, s1, s2, After.ok h st rfl⟩
  · exact h.elim
/-! is -/
def isNon : D → Bool
  | .non => true
  | _ => false
def oIs : D → D → Sto → RE D
  | d, .non, S => .ok (.bl (isNon d)) S
  | .bl a, .bl b, S => .ok (.bl (decide (a = b))) S
  | _, _, _ => .bad
def oIsNot : D → D → Sto → RE D
  | d, .non, S => .ok (.bl (!isNon d)) S
  | .bl a, .bl b, S => .ok (.bl (!decide (a = b))) S
  | _, _, _ => .bad
theorem isNon_rep {K : PySem.W.Frag} {O : Ow} {H : Hp} {d : D} {v : V} (r : Rep K O H d v) : decide (v = V.non) = isNon d := by
  cases d <;> simp only [isNon, decide_eq_true_eq, decide_eq_false_iff_not]
  case non => exact r
  case bl => cases (show v = _ from r); exact fun z => nomatch z
  case int => cases (show v = _ from r); exact fun z => nomatch z
  case str => cases (show v = _ from r); exact fun z => nomatch z
  case ty => cases (show v = _ from r); exact fun z => nomatch z
  case glo => cases (show v = _ from r); exact fun z => nomatch z
  case tup => obtain ⟨a, xs, rfl, _⟩ := r; exact fun z => nomatch z
  case lst => obtain ⟨a, xs, rfl, _⟩ := r; exact fun z => nomatch z
  case scr => obtain ⟨a, xs, rfl, _⟩ := r; exact fun z => nomatch z
  case dK => obtain ⟨a, xs, rfl, _⟩ := r; exact fun z => nomatch z
  case dT => obtain ⟨a, xs, rfl, _⟩ := r; exact fun z => nomatch z
  case obj => obtain ⟨a, dx, xs, rfl, _⟩ := r; exact fun z => nomatch z
  case own => obtain ⟨a, _, rfl⟩ := r; exact fun z => nomatch z
  case xcp => obtain ⟨rfl, _⟩ := r; exact fun z => nomatch z
  case exo => obtain ⟨a, dd, vs, rfl, _⟩ := r; exact fun z => nomatch z
  case tab => exact (show False from r).elim
theorem op_oIs : OpR X (compareOp .Is) (RD X.K oIs) := by
  intro pins s σ H x y v u Q I rx ry ⟨W, ρ, σ', O, S, d, e, st, r1, r2, h⟩
  cases e
  case non =>
    have h' : After X.K W (Rep X.K) ρ σ' O H Q (.ok (.bl (isNon d)) S) := by cases d <;> exact h
    refine op_isN pins s σ H x y v u Q I rx ry ⟨r2, ?_⟩
    rw [isNon_rep r1]
    exact After.ok h' st rfl
  case bl b =>
    cases d <;> try exact h.elim
    rename_i a
    exact op_isBl pins s σ H x y v u Q I rx ry ⟨a, b, r1, r2, After.ok h st rfl⟩
  all_goals (cases d <;> exact h.elim)
theorem op_oIsNot : OpR X (compareOp .IsNot) (RD X.K oIsNot) := by
  intro pins s σ H x y v u Q I rx ry ⟨W, ρ, σ', O, S, d, e, st, r1, r2, h⟩
  cases e
  case non =>
    have h' : After X.K W (Rep X.K) ρ σ' O H Q (.ok (.bl (!isNon d)) S) := by cases d <;> exact h
    refine op_notN pins s σ H x y v u Q I rx ry ⟨r2, ?_⟩
    rw [isNon_rep r1]
    exact After.ok h' st rfl
  case bl b =>
    cases d <;> try exact h.elim
    rename_i a
    exact op_notBl pins s σ H x y v u Q I rx ry ⟨a, b, r1, r2, After.ok h st rfl⟩
  all_goals (cases d <;> exact h.elim)
end
end DE

set_option maxHeartbeats 4000000
namespace DE
open PySem PySem.Spec PyProof.Rows L2
section
variable {X : Cx} {W : WX} {a b c : Expr} {f g h : ME} {pos : Pos} {es : List Expr} {fa : MA}
/-! ### globals -/
theorem de_glob {x : Str} {d : D} {v : V} {u : Value} (hg : Gl X x) (hm : X.mg x = some u) (r : RelV v u) (rd : ∀ O H, Rep X.K O H d v) (hd : (x == ("__debug__" : Str)) = false := by decide) : DE X W (.Name x pos) (dC d) := de_const (pe_glob hg hm r hd) rd
theorem de_ty {x : Str} {n : String} (hg : Gl X x) (hm : X.mg x = none) (hv : bootBuiltins x = some (.type n)) (hn : x ≠ "__name__" := by decide) (hd : (x == ("__debug__" : Str)) = false := by decide) : DE X W (.Name x pos) (dC (.ty n)) := de_const (pe_bltn (v := .ty n) hg hm hv rfl hn hd) fun _ _ => rfl
/-! ### in -/
def toV : D → Option V
  | .non => some .non
  | .bl b => some (.bl b)
  | .int i => some (.int i)
  | .str x => some (.str x)
  | _ => none
def toVs : List D → Option (List V)
  | [] => some []
  | d :: ds => match toV d, toVs ds with
    | some p, some ps => some (p :: ps)
    | _, _ => none
theorem toV_rep {K : PySem.W.Frag} {O : Ow} {H : Hp} {d : D} {v w : V} (e : toV d = some w) (r : Rep K O H d v) : v = w ∧ flatV v = true := by
  cases d <;> simp only [toV] at e <;> cases e
  all_goals (cases (show v = _ from r); exact ⟨rfl, rfl⟩)
theorem toVs_rep {K : PySem.W.Frag} {O : Ow} {H : Hp} : ∀ {ds : List D} {vs ws : List V}, toVs ds = some ws → Reps K O H ds vs → vs = ws ∧ vs.all flatV = true
  | [], _, _, e, r => by cases e; cases r; exact ⟨rfl, rfl⟩
  | d :: ds, _, _, e, r => by
    obtain ⟨v, vr, rfl, r1, r2⟩ := r
    simp only [toVs] at e
    cases q : toV d with
    | none => rw [q] at e; cases e
    | some p =>
      cases q2 : toVs ds with
      | none => rw [q, q2] at e; cases e
      | some ps =>
        rw [q, q2] at e; cases e
        obtain ⟨e1, f1⟩ := toV_rep q r1
        obtain ⟨e2, f2⟩ := toVs_rep q2 r2
        exact ⟨by rw [e1, e2], by simp [f1, f2]⟩
def inS (x y : Str) : Bool := if x.cps.size = 1 then decide (x.cps.getD 0 0 ∈ y.cps.toList) else !(Builtin.Str.occurrences y x 0 y.length 1).isEmpty
/-- x in y, where it is told -/
def inD (d e : D) : Option Bool := match d, e with
  | .str x, .str y => some (inS x y)
  | d, .lst ds => match toV d, toVs ds with
    | some v, some vs => some (inV v vs)
    | _, _ => none
  | d, .tup ds => match toV d, toVs ds with
    | some v, some vs => some (inV v vs)
    | _, _ => none
  | _, _ => none
def oIn (d e : D) (S : Sto) : RE D := match inD d e with
  | some b => .ok (.bl b) S
  | none => .bad
def oNotIn (d e : D) (S : Sto) : RE D := match inD d e with
  | some b => .ok (.bl (!b)) S
  | none => .bad
theorem str1 {x : Str} (h : x.cps.size = 1) : x = ⟨#[x.cps.getD 0 0]⟩ := by
  obtain ⟨⟨l⟩⟩ := x
  match l, h with
  | [c], _ => rfl
theorem op_oIn : OpR X (compareOp .In) (RD X.K oIn) := by
  intro pins s σ H x y v u Q I rx ry ⟨W, ρ, σ', O, S, d, e, st, r1, r2, h⟩
  unfold oIn at h
  split at h
  case h_2 => exact h.elim
  rename_i b hb
  unfold inD at hb
  split at hb
  · rename_i z y'
    cases hb
    unfold inS at h
    split at h
    · rename_i h1
      refine op_in_sign pins s σ H x y v u Q I rx ry ⟨z.cps.getD 0 0, y', ?_, r2, After.ok h st rfl⟩
      rw [← str1 h1]; exact r1
    · exact op_in_str pins s σ H x y v u Q I rx ry ⟨z, y', r1, r2, After.ok h st rfl⟩
  · rename_i ds
    split at hb
    · rename_i w ws q1 q2
      cases hb
      obtain ⟨p, xs, rfl, n1, h1, q⟩ := r2
      obtain ⟨e1, f1⟩ := toV_rep q1 r1
      obtain ⟨e2, f2⟩ := toVs_rep q2 q
      subst e1 e2
      exact op_in_seq pins s σ H _ _ v u Q I rx ry ⟨p, xs, rfl, .inl (SqL.of h1), f1, f2, After.ok h st rfl⟩
    · cases hb
  · rename_i ds
    split at hb
    · rename_i w ws q1 q2
      cases hb
      obtain ⟨p, xs, rfl, h1, q⟩ := r2
      obtain ⟨e1, f1⟩ := toV_rep q1 r1
      obtain ⟨e2, f2⟩ := toVs_rep q2 q
      subst e1 e2
      exact op_in_seq pins s σ H _ _ v u Q I rx ry ⟨p, xs, rfl, .inr (sqT_of h1), f1, f2, After.ok h st rfl⟩
    · cases hb
  · cases hb
theorem op_oNotIn : OpR X (compareOp .NotIn) (RD X.K oNotIn) := by
  intro pins s σ H x y v u Q I rx ry ⟨W, ρ, σ', O, S, d, e, st, r1, r2, h⟩
  unfold oNotIn at h
  split at h
  case h_2 => exact h.elim
  rename_i b hb
  unfold inD at hb
  split at hb
  · rename_i z y'
    cases hb
    unfold inS at h
    split at h
    · rename_i h1
      refine op_notIn_sign pins s σ H x y v u Q I rx ry ⟨z.cps.getD 0 0, y', ?_, r2, After.ok h st rfl⟩
      rw [← str1 h1]; exact r1
    · exact op_notIn_str pins s σ H x y v u Q I rx ry ⟨z, y', r1, r2, After.ok h st rfl⟩
  · rename_i ds
    split at hb
    · rename_i w ws q1 q2
      cases hb
      obtain ⟨p, xs, rfl, n1, h1, q⟩ := r2
      obtain ⟨e1, f1⟩ := toV_rep q1 r1
      obtain ⟨e2, f2⟩ := toVs_rep q2 q
      subst e1 e2
      exact op_notIn_seq pins s σ H _ _ v u Q I rx ry ⟨p, xs, rfl, .inl (SqL.of h1), f1, f2, After.ok h st rfl⟩
    · cases hb
  · rename_i ds
    split at hb
    · rename_i w ws q1 q2
      cases hb
      obtain ⟨p, xs, rfl, h1, q⟩ := r2
      obtain ⟨e1, f1⟩ := toV_rep q1 r1
      obtain ⟨e2, f2⟩ := toVs_rep q2 q
      subst e1 e2
      exact op_notIn_seq pins s σ H _ _ v u Q I rx ry ⟨p, xs, rfl, .inr (sqT_of h1), f1, f2, After.ok h st rfl⟩
    · cases hb
  · cases hb
/-! ### subscripts -/
/-- the list or tuple at a datum -/
def seqOf (S : Sto) : D → Option (List D)
  | .lst ds => some ds
  | .tup ds => some ds
  | .scr ds => some ds
  | .own k => match S[k]? with
    | some (.lst ds) => some ds
    | _ => none
  | _ => none
theorem seq_rep {K : PySem.W.Frag} {O : Ow} {H : Hp} {ρ : DE.Env} {σ : L2.St} {S : Sto} {d : D} {v : V} {ds : List D} (st : Stt K O H ρ σ S) (e : seqOf S d = some ds) (r : Rep K O H d v) : ∃ p xs, v = .ref p ∧ (SqL K H p xs ∨ SqT K H p xs) ∧ Reps K O H ds xs := by
  cases d <;> simp only [seqOf] at e <;> try cases e
  case tup => obtain ⟨p, xs, rfl, h, q⟩ := r; exact ⟨p, xs, rfl, .inr (sqT_of h), q⟩
  case lst => obtain ⟨p, xs, rfl, _, h, q⟩ := r; exact ⟨p, xs, rfl, .inl (SqL.of h), q⟩
  case scr =>
    obtain ⟨p, xs, rfl, h, q⟩ := r
    refine ⟨p, xs, rfl, .inl ?_, q⟩
    rcases h with ⟨_, h⟩ | h
    · exact .inl h
    · rcases h with h | h
      · rcases h with h | ⟨_, h⟩ <;> cases h
      · exact .inr h
  case own k =>
    obtain ⟨p, h, rfl⟩ := r
    split at e
    · rename_i ds' hk
      cases e
      obtain ⟨xs, h1, q⟩ := st.wf.cell k p _ h hk
      exact ⟨p, xs, rfl, .inl (SqL.of h1), q⟩
    · cases e
def oIx (d e : D) (S : Sto) : RE D := match e with
  | .int i => (match d with
    | .str x => if x.length ≤ cap then (match atI x.cps.toList i with
      | some c => .ok (.str ⟨#[c]⟩) S
      | none => .bad) else .bad
    | d => match seqOf S d with
      | some ds => (match atI ds i with
        | some z => .ok z S
        | none => .bad)
      | none => .bad)
  | _ => .bad
theorem atI_len {α β : Type} {xs : List α} {ys : List β} {i : Int} {z : α} (hl : xs.length = ys.length) (h : atI xs i = some z) : ∃ j : Nat, ixN ys.length i = some j ∧ xs[j]? = some z := by
  unfold atI at h
  rw [hl] at h
  cases q : ixN ys.length i with
  | none => rw [q] at h; cases h
  | some j => rw [q] at h; exact ⟨j, rfl, h⟩
theorem ix_oIx : IxR X (RD X.K oIx) := by
  intro value slice pins s σ H x y v u Q I rx ry ⟨W, ρ, σ', O, S, d, e, st, r1, r2, h⟩ hs
  cases e <;> try exact h.elim
  rename_i i
  have seqc : ∀ ds, seqOf S d = some ds → (∀ z, atI ds i = some z → After X.K W (Rep X.K) ρ σ' O H Q (.ok z S)) → atI ds i ≠ none → wpAny (model X.prog X.w) X.A (subscriptTail value slice v u) (EP X pins σ Q) X.xe s := fun ds e1 hz nn => by
    cases q : atI ds i with
    | none => exact absurd q nn
    | some z =>
      obtain ⟨p, xs, rfl, hs', rs⟩ := seq_rep st e1 r1
      obtain ⟨j, hj, hz'⟩ := atI_len (ys := xs) rs.length q
      obtain ⟨vz, hv, rz⟩ := rs.get hz'
      have ha : atI xs i = some vz := by unfold atI; rw [hj]; exact hv
      have fin := After.ok (hz z q) st rz
      rcases hs' with hs' | hs'
      · exact ix_list value slice pins s σ H _ y v u Q I rx ry ⟨p, xs, i, vz, rfl, r2, hs', ha, fin⟩ hs
      · exact ix_tup value slice pins s σ H _ y v u Q I rx ry ⟨p, xs, i, vz, rfl, r2, hs', ha, fin⟩ hs
  have seqd : (∀ S' , oIx d (.int i) S' = match seqOf S' d with | some ds => (match atI ds i with | some z => .ok z S' | none => .bad) | none => .bad) → wpAny (model X.prog X.w) X.A (subscriptTail value slice v u) (EP X pins σ Q) X.xe s := fun he => by
    rw [he] at h
    cases q : seqOf S d with
    | none => rw [q] at h; exact h.elim
    | some ds =>
      rw [q] at h
      refine seqc ds q (fun z hz => ?_) fun hn => ?_
      · simp only [hz] at h; exact h
      · simp only [hn] at h; exact h.elim
  cases d
  case str z =>
    obtain ⟨hc, h⟩ := After.ite (show After X.K W (Rep X.K) ρ σ' O H Q (if z.length ≤ cap then (match atI z.cps.toList i with | some c => .ok (.str ⟨#[c]⟩) S | none => .bad) else .bad) from h)
    cases q : atI z.cps.toList i with
    | none => rw [q] at h; exact h.elim
    | some c =>
      rw [q] at h
      exact ix_str value slice pins s σ H x y v u Q I rx ry ⟨z, i, c, r1, r2, cap_line hc, q, After.ok h st rfl⟩ hs
  all_goals exact seqd fun _ => rfl
theorem de_ix (ha : DE X W a f) (hb : DE X W b g) (hs : PlainIx b := by exact fun _ _ => rfl) : DE X W (.Subscript a b pos) (dBin oIx f g) := ⟨PE.imp (pe_ix ix_oIx ha.pe hb.pe hs) fun _ _ _ h => bin_imp opD_RD h⟩
/-! ### slices -/
def cutD {α : Type} (xs : List α) (lo hi : Option Int) : List α := (xs.drop (HT.sIx xs.length 0 lo)).take (HT.sIx xs.length xs.length hi - HT.sIx xs.length 0 lo)
def slD (d : D) (lo hi : Option Int) (S : Sto) : RE D := match d with
  | .str x => if x.length ≤ cap then .ok (.str (cutS x lo hi)) S else .bad
  | .tup ds => .ok (.tup (cutD ds lo hi)) S
  | .lst ds => .ok (.lst (cutD ds lo hi)) S
  | _ => .bad
abbrev MO := DE.Env → Sto → RE (Option Int)
def oNoPart : MO := fun _ S => .ok none S
def oPart (f : ME) : MO := fun ρ S => (f ρ S).bind fun d S1 => match d with
  | .int i => .ok (some i) S1
  | _ => .bad
def tO (K : PySem.W.Frag) (W : WX) (f : MO) : TO := fun σ H Q => ∃ O ρ S, Stt K O H ρ σ S ∧ After K W (fun _ _ a b => a = b) ρ σ O H Q (f ρ S)
structure DPo (X : Cx) (W : WX) (e : Option Expr) (f : MO) : Prop where
  po : PO X e (tO X.K W f)
theorem PO.imp {X : Cx} {e : Option Expr} {t t' : TO} (h : PO X e t) (k : ∀ σ H Q, t' σ H Q → t σ H Q) : PO X e t' := ⟨fun pins s σ H Q I q => h.run pins s σ H Q I (k σ H Q q)⟩
theorem dpo_none : DPo X W none oNoPart := ⟨PO.imp po_none fun σ H Q ⟨O, ρ, S, st, h⟩ => After.ok h st rfl⟩
theorem dpo_some (ha : DE X W a f) : DPo X W (some a) (oPart f) := ⟨PO.imp (po_some ha.pe) fun σ H Q ⟨O, ρ, S, st, h⟩ => ⟨O, ρ, S, st, After.seq h fun d S1 O1 H1 v e1 st1 r1 h1 => by
  cases d with
  | int i => exact ⟨i, r1, After.ok h1 st1 rfl⟩
  | _ => exact h1.elim⟩⟩
def dSl (f : ME) (lo hi : MO) : ME := fun ρ S => (f ρ S).bind fun d S1 => (lo ρ S1).bind fun l S2 => (hi ρ S2).bind fun u S3 => slD d l u S3
theorem Reps.cut {K : PySem.W.Frag} {O : Ow} {H : Hp} {ds : List D} {vs : List V} (r : Reps K O H ds vs) (lo hi : Option Int) : Reps K O H (cutD ds lo hi) (cutV vs lo hi) := by
  unfold cutD cutV
  rw [r.length]
  exact (r.drop _).take _
def rSlD (K : PySem.W.Frag) : V → Option Int → Option Int → Hp → VK → Prop := fun x lo hi H Q => ∃ W ρ σ O S d, Stt K O H ρ σ S ∧ Rep K O H d x ∧ After K W (Rep K) ρ σ O H Q (slD d lo hi S)
theorem sl_slD : SlR X (rSlD X.K) := by
  intro pins s σ H x v vl vu lo hi sl Q I rx hsl pl pu ⟨W, ρ, σ', O, S, d, st, r1, h⟩
  cases d <;> try exact h.elim
  case str z =>
    obtain ⟨hc, h⟩ := After.ite (show After X.K W (Rep X.K) ρ σ' O H Q (if z.length ≤ cap then .ok (.str (cutS z lo hi)) S else .bad) from h)
    exact sl_str pins s σ H x v vl vu lo hi sl Q I rx hsl pl pu ⟨z, r1, cap_line hc, After.ok h st rfl⟩
  case tup ds =>
    obtain ⟨p, xs, rfl, h1, q1⟩ := r1
    refine sl_tupA pins s σ H _ v vl vu lo hi sl Q I rx hsl pl pu ⟨p, xs, rfl, sqT_of h1, fun hw => ?_, fun hw t ht => ?_⟩
    · have e : cutD ds lo hi = ds := by
        unfold cutD
        rw [q1.length, hw.1, hw.2]
        simp [← q1.length]
      have h' : After X.K W (Rep X.K) ρ σ' O H Q (.ok (.tup (cutD ds lo hi)) S) := h
      rw [e] at h'
      exact After.ok h' st ⟨p, xs, rfl, h1, q1⟩
    · obtain ⟨e2, st2⟩ := st.new (o := .tup (cutV xs lo hi)) ht
      exact h O _ _ e2 st2 ⟨t, _, rfl, .inl upd_same, (q1.mono (e2.w st.wf)).cut lo hi⟩
  case lst ds =>
    obtain ⟨p, xs, rfl, n1, h1, q1⟩ := r1
    refine sl_list pins s σ H _ v vl vu lo hi sl Q I rx hsl pl pu ⟨p, xs, rfl, SqL.of h1, fun t ht => ?_⟩
    obtain ⟨e2, st2⟩ := st.new (o := .lst (cutV xs lo hi)) ht
    exact h O _ _ e2 st2 ⟨t, _, rfl, st.no ht, upd_same, (q1.mono (e2.w st.wf)).cut lo hi⟩
theorem de_sl {lo hi : Option Expr} {p2 : Pos} {fl fh : MO} (ha : DE X W a f) (hl : DPo X W lo fl) (hh : DPo X W hi fh) : DE X W (.Subscript a (.Slice lo hi none p2) pos) (dSl f fl fh) :=
  ⟨PE.imp (pe_slice sl_slD ha.pe hl.po hh.po) fun σ H Q ⟨O, ρ, S, st, h⟩ => ⟨O, ρ, S, st, After.seq h fun d S1 O1 H1 v e1 st1 r1 h1 => ⟨O1, ρ, S1, st1, After.seq h1 fun l S2 O2 H2 v2 e2 st2 r2 h2 => ⟨O2, ρ, S2, st2, After.seq h2 fun u S3 O3 H3 v3 e3 st3 r3 h3 => by
    subst r2 r3
    exact ⟨W, ρ, σ, O3, S3, d, st3, r1.mono ((e2.trans e3).w st1.wf), h3⟩⟩⟩⟩⟩
end
end DE

set_option maxHeartbeats 4000000
namespace DE
open PySem PySem.Spec PyProof.Rows L2
def RC (K : PySem.W.Frag) (op : FD) : List V → Hp → VK → Prop := fun vs H Q => ∃ W ρ σ O S ds, Stt K O H ρ σ S ∧ Reps K O H ds vs ∧ After K W (Rep K) ρ σ O H Q (op ds S)
theorem caD_RC {X : Cx} {op : FD} : CaD X (RC X.K op) op := fun W ρ σ O H S vs ds Q st r h => ⟨W, ρ, σ, O, S, ds, st, r, h⟩
section
variable {X : Cx} {W : WX} {a b c : Expr} {f g h : ME} {pos : Pos} {es : List Expr} {fa : MA} {e : Expr} {x : Str} {p : Pos}
theorem de_bf {id : String} {op : FD} (hc : CallR X (.builtin id) (RC X.K op)) (hg : Gl X x) (hm : X.mg x = none) (hv : bootBuiltins x = some (.builtin id)) (ha : DA X W (e :: es) fa) (hn : x ≠ "__name__" := by decide) (hdb : (x == ("__debug__" : Str)) = false := by decide)
    (he : starEach (e :: es) X.env = (false, eval e X.env) :: starEach es X.env := by rfl) (hpl : (backTo pos (starEach es X.env)).any (·.1) = false := by rfl) : DE X W (.Call (.Name x p) (e :: es) [] pos) (dBlt op fa) := de_blt hc caD_RC hg hm hv ha hn hdb he hpl
theorem de_bt {T : String} {op : FD} (hc : CallR X (.type T) (RC X.K op)) (hg : Gl X x) (hm : X.mg x = none) (hv : bootBuiltins x = some (.type T)) (ha : DA X W (e :: es) fa) (hn : x ≠ "__name__" := by decide) (hdb : (x == ("__debug__" : Str)) = false := by decide)
    (he : starEach (e :: es) X.env = (false, eval e X.env) :: starEach es X.env := by rfl) (hpl : (backTo pos (starEach es X.env)).any (·.1) = false := by rfl) : DE X W (.Call (.Name x p) (e :: es) [] pos) (dBlt op fa) := de_bty hc caD_RC hg hm hv ha hn hdb he hpl
/-! ### len -/
def oLen : FD := fun ds S => match ds with
  | [d] => (match d with
    | .str z => if z.length ≤ cap then .ok (.int z.length) S else .bad
    | d => match seqOf S d with
      | some ds => .ok (.int ds.length) S
      | none => .bad)
  | _ => .bad
theorem RepK.length {K : PySem.W.Frag} {O : Ow} {H : Hp} : ∀ {ds : List (Key × D)} {vs : List (Key × V)}, RepK K O H ds vs → ds.length = vs.length
  | [], _, h => by cases h; rfl
  | (_, _) :: _, _, h => by
    obtain ⟨v, r, rfl, _, h2⟩ := h
    simp [RepK.length h2]
theorem c_oLen : CallR X (.builtin "len") (RC X.K oLen) := by
  intro pins s σ H vs us Q I rv ⟨W, ρ, σ', O, S, ds, st, r, h⟩
  rcases ds with _ | ⟨d, _ | ⟨_, _⟩⟩
  · exact h.elim
  · obtain ⟨v, rfl, r1⟩ := r.one
    have seqc : oLen [d] S = (match seqOf S d with | some ds => .ok (.int ds.length) S | none => .bad) → wpAny (model X.prog X.w) X.A (call (.builtin "len") us) (EP X pins σ Q) X.xe s := fun he => by
      rw [he] at h
      cases q : seqOf S d with
      | none => rw [q] at h; exact h.elim
      | some es =>
        rw [q] at h
        obtain ⟨p, xs, rfl, hs', rs⟩ := seq_rep st q r1
        exact call_len_seq pins s σ H _ us Q I rv ⟨p, xs, rfl, hs', by rw [← rs.length]; exact After.ok h st rfl⟩
    cases d
    case str z =>
      obtain ⟨hc, h⟩ := After.ite (show After X.K W (Rep X.K) ρ σ' O H Q (if z.length ≤ cap then .ok (.int z.length) S else .bad) from h)
      exact call_len pins s σ H _ us Q I rv ⟨v, z.length, rfl, by cases (show v = V.str z from r1); exact ⟨cap_line hc, rfl⟩, After.ok h st rfl⟩
    all_goals exact seqc rfl
  · exact h.elim
/-! ### isinstance -/
def tyName : D → Option String
  | .non => some "NoneType"
  | .bl _ => some "bool"
  | .int _ => some "int"
  | .str _ => some "str"
  | .tup _ => some "tuple"
  | .lst _ => some "list"
  | .dK _ => some "dict"
  | _ => none
def tyList : List String := ["NoneType", "bool", "int", "str", "tuple", "list", "dict"]
def subT (a n : String) : Bool := a == n || (a == "bool" && n == "int")
theorem kit_sub : ∀ a ∈ tyList, ∀ n ∈ tyList, kitB a n = some (subT a n) := by decide +kernel
def tyNamesOf : List D → Option (List String)
  | [] => some []
  | .ty n :: ds => if n ∈ tyList then (tyNamesOf ds).map (n :: ·) else none
  | _ => none
def oIsi : FD := fun ds S => match ds with
  | [d, .ty n] => (match tyName d with
    | some a => if n ∈ tyList then .ok (.bl (subT a n)) S else .bad
    | none => .bad)
  | [d, .tup ts] => (match tyName d, tyNamesOf ts with
    | some a, some ns => .ok (.bl (ns.any (subT a))) S
    | _, _ => .bad)
  | _ => .bad
theorem tyName_in {d : D} {a : String} (h : tyName d = some a) : a ∈ tyList := by
  cases d <;> simp only [tyName] at h <;> cases h <;> decide
theorem tyName_rep {K : PySem.W.Frag} {O : Ow} {H : Hp} {d : D} {v : V} {a : String} (h : tyName d = some a) (r : Rep K O H d v) : TyX K H v (.type a) := by
  cases d <;> simp only [tyName] at h <;> cases h
  case non => cases (show v = _ from r); exact .base .non
  case bl => cases (show v = _ from r); exact .base (.bl _)
  case int => cases (show v = _ from r); exact .base (.int _)
  case str => cases (show v = _ from r); exact .base (.str _)
  case tup =>
    obtain ⟨p, xs, rfl, h1, _⟩ := r
    rcases h1 with h1 | (h1 | ⟨o, h1⟩) | ⟨o, its, n, h1, h2, _⟩
    · exact .base (.tup h1)
    · cases h1
    · cases h1
    · exact .kTuple h1 h2
  case lst => obtain ⟨p, xs, rfl, _, h1, _⟩ := r; exact .base (.lst h1)
  case dK =>
    obtain ⟨p, xs, rfl, _, h1, _⟩ := r
    rcases h1 with h1 | ⟨o, h1⟩
    · exact .base (.dK h1)
    · exact .fDict h1
theorem tyNames_v {K : PySem.W.Frag} {O : Ow} {H : Hp} : ∀ {ts : List D} {ns : List String} {vs : List V}, tyNamesOf ts = some ns → Reps K O H ts vs → Paired ClsV vs (ns.map Value.type) ∧ ∀ n ∈ ns, n ∈ tyList
  | [], _, _, e, r => by cases e; cases r; exact ⟨.nil, fun _ h => by cases h⟩
  | t :: ts, _, _, e, r => by
    obtain ⟨v, vr, rfl, r1, r2⟩ := r
    cases t <;> simp only [tyNamesOf] at e <;> try cases e
    rename_i n
    split at e
    · rename_i hn
      cases q : tyNamesOf ts with
      | none => rw [q] at e; cases e
      | some ns =>
        rw [q] at e; cases e
        obtain ⟨h1, h2⟩ := tyNames_v q r2
        cases (show v = _ from r1)
        exact ⟨.cons (.ty n) h1, fun m hm => by
          rcases List.mem_cons.mp (show m ∈ n :: ns from hm) with e | hm
          · rw [e]; exact hn
          · exact h2 m hm⟩
    · cases e
theorem kitAny_sub {K : PySem.W.Frag} {a : String} (ha : a ∈ tyList) : ∀ {ns : List String}, (∀ n ∈ ns, n ∈ tyList) → PySem.W.kitAny K (.type a) (ns.map Value.type) = some (ns.any (subT a))
  | [], _ => rfl
  | n :: ns, h => by
    have h1 := kit_ty (K := K) (kit_sub a ha n (h n List.mem_cons_self))
    refine kitAny_cons h1 (fun hb => ?_) fun hb => ?_
    · rw [List.any_cons, hb, Bool.false_or]
      exact kitAny_sub ha fun m hm => h m (List.mem_cons_of_mem _ hm)
    · rw [List.any_cons, hb, Bool.true_or]
theorem c_oIsi : CallR X (.builtin "isinstance") (RC X.K oIsi) := by
  intro pins s σ H vs us Q I rv ⟨W, ρ, σ', O, S, ds, st, r, h⟩
  rcases ds with _ | ⟨d, _ | ⟨d2, _ | ⟨d3, ds⟩⟩⟩
  · exact h.elim
  · exact h.elim
  · obtain ⟨v, u, rfl, r1, r2⟩ := r.two
    cases d2 <;> try exact h.elim
    case ty n =>
      have h' : After X.K W (Rep X.K) ρ σ' O H Q (match tyName d with | some a => if n ∈ tyList then .ok (.bl (subT a n)) S else .bad | none => .bad) := h
      cases q : tyName d with
      | none => rw [q] at h'; exact h'.elim
      | some a =>
        rw [q] at h'
        obtain ⟨hn, h'⟩ := After.ite h'
        exact call_isi pins s σ H _ us Q I rv ⟨v, u, _, _, _, rfl, by cases (show u = _ from r2); exact .ty n, tyName_rep q r1, kit_ty (kit_sub a (tyName_in q) n hn), After.ok h' st rfl⟩
    case tup ts =>
      have h' : After X.K W (Rep X.K) ρ σ' O H Q (match tyName d, tyNamesOf ts with | some a, some ns => .ok (.bl (ns.any (subT a))) S | _, _ => .bad) := h
      cases q : tyName d with
      | none => rw [q] at h'; exact h'.elim
      | some a =>
        cases q2 : tyNamesOf ts with
        | none => rw [q, q2] at h'; exact h'.elim
        | some ns =>
          rw [q, q2] at h'
          obtain ⟨p, xs, rfl, h1, h2⟩ := r2
          obtain ⟨k1, k2⟩ := tyNames_v q2 h2
          rcases h1 with h1 | (h1 | ⟨o, h1⟩) | ⟨o, its, n, h1, h2, h3, h4, h5⟩
          · exact call_isiT pins s σ H _ us Q I rv ⟨v, p, xs, _, _, _, rfl, h1, k1, tyName_rep q r1, kitAny_sub (tyName_in q) k2, After.ok h' st rfl⟩
          · cases h1
          · cases h1
          · obtain ⟨oc, od, dt, sl⟩ := o
            simp only at h2 h3
            subst h2 h3
            have e3 := ClsV.all k1 h5
            have e4 : its = (ns.map Value.type).toArray := by rw [← e3]
            subst e4
            exact call_isiK pins s σ H _ us Q I rv ⟨v, p, od, ns.map Value.type, n, sl, _, _, rfl, h1, tyName_rep q r1, kitAny_sub (tyName_in q) k2, After.ok h' st rfl⟩
  · cases d2 <;> exact h.elim
/-! ### all, any, min, max -/
def blsOf : List D → Option (List Bool)
  | [] => some []
  | .bl b :: ds => (blsOf ds).map (b :: ·)
  | _ => none
def oAll : FD := fun ds S => match ds with
  | [.lst xs] => (match blsOf xs with
    | some bs => .ok (.bl (bs.all id)) S
    | none => .bad)
  | _ => .bad
def oAny : FD := fun ds S => match ds with
  | [.lst xs] => (match blsOf xs with
    | some bs => .ok (.bl (bs.any id)) S
    | none => .bad)
  | _ => .bad
theorem bls_rep {K : PySem.W.Frag} {O : Ow} {H : Hp} : ∀ {ds : List D} {bs : List Bool} {vs : List V}, blsOf ds = some bs → Reps K O H ds vs → vs = bs.map V.bl
  | [], _, _, e, r => by cases e; cases r; rfl
  | d :: ds, _, _, e, r => by
    obtain ⟨v, vr, rfl, r1, r2⟩ := r
    cases d <;> simp only [blsOf] at e <;> try cases e
    cases q : blsOf ds with
    | none => rw [q] at e; cases e
    | some bs => rw [q] at e; cases e; rw [show v = _ from r1, bls_rep q r2]; rfl
theorem c_oAll (hc : X.calm = true) : CallR X (.builtin "all") (RC X.K oAll) := by
  intro pins s σ H vs us Q I rv ⟨W, ρ, σ', O, S, ds, st, r, h⟩
  unfold oAll at h
  split at h
  · rename_i xs
    obtain ⟨v, rfl, r1⟩ := r.one
    split at h
    · rename_i bs hb
      obtain ⟨p, ys, rfl, n, h1, h2⟩ := r1
      have e := bls_rep hb h2
      subst e
      exact cr_all hc pins s σ H _ us Q I rv ⟨p, bs, rfl, SqL.of h1, After.ok h st rfl⟩
    · exact h.elim
  · exact h.elim
theorem c_oAny (hc : X.calm = true) : CallR X (.builtin "any") (RC X.K oAny) := by
  intro pins s σ H vs us Q I rv ⟨W, ρ, σ', O, S, ds, st, r, h⟩
  unfold oAny at h
  split at h
  · rename_i xs
    obtain ⟨v, rfl, r1⟩ := r.one
    split at h
    · rename_i bs hb
      obtain ⟨p, ys, rfl, n, h1, h2⟩ := r1
      have e := bls_rep hb h2
      subst e
      exact cr_any hc pins s σ H _ us Q I rv ⟨p, bs, rfl, SqL.of h1, After.ok h st rfl⟩
    · exact h.elim
  · exact h.elim
def oMax : FD := fun ds S => match ds with
  | [.int i, .int j] => .ok (.int (if j > i then j else i)) S
  | _ => .bad
def oMin : FD := fun ds S => match ds with
  | [.int i, .int j] => .ok (.int (if j < i then j else i)) S
  | _ => .bad
theorem c_oMax (hc : X.calm = true) : CallR X (.builtin "max") (RC X.K oMax) := by
  intro pins s σ H vs us Q I rv ⟨W, ρ, σ', O, S, ds, st, r, h⟩
  unfold oMax at h
  split at h
  · rename_i i j
    obtain ⟨v, u, rfl, r1, r2⟩ := r.two
    exact call_max2 hc pins s σ H _ us Q I rv ⟨i, j, by rw [show v = _ from r1, show u = _ from r2], After.ok h st rfl⟩
  · exact h.elim
theorem c_oMin (hc : X.calm = true) : CallR X (.builtin "min") (RC X.K oMin) := by
  intro pins s σ H vs us Q I rv ⟨W, ρ, σ', O, S, ds, st, r, h⟩
  unfold oMin at h
  split at h
  · rename_i i j
    obtain ⟨v, u, rfl, r1, r2⟩ := r.two
    exact call_min2 hc pins s σ H _ us Q I rv ⟨i, j, by rw [show v = _ from r1, show u = _ from r2], After.ok h st rfl⟩
  · exact h.elim
/-! ### repr of a truth value, list(..), tuple(..) -/
def reprB (b : Bool) : Str := if b then "True" else "False"
def oReprB : FD := fun ds S => match ds with
  | [.bl b] => .ok (.str (reprB b)) S
  | _ => .bad
theorem c_oReprB : CallR X (.builtin "repr") (RC X.K oReprB) := by
  intro pins s σ H vs us Q I rv ⟨W, ρ, σ', O, S, ds, st, r, h⟩
  unfold oReprB at h
  split at h
  · rename_i b
    obtain ⟨v, rfl, r1⟩ := r.one
    obtain ⟨u, rfl, ru⟩ := vals1 rv
    cases (show v = _ from r1)
    cases (show u = _ from ru)
    exact PySem.P.repr_of_bool ⟨.str _, H, I.tok _, ⟨_, rfl⟩, After.ok h st rfl⟩
  · exact h.elim
def oList : FD := fun ds S => match ds with
  | [d] => (match seqOf S d with
    | some xs => .ok (.lst xs) S
    | none => .bad)
  | _ => .bad
theorem c_oList : CallR X (.type "list") (RC X.K oList) := by
  intro pins s σ H vs us Q I rv ⟨W, ρ, σ', O, S, ds, st, r, h⟩
  unfold oList at h
  split at h
  · rename_i d
    obtain ⟨v, rfl, r1⟩ := r.one
    split at h
    · rename_i xs hx
      obtain ⟨p, ys, rfl, hs, rs⟩ := seq_rep st hx r1
      refine call_list_of pins s σ H _ us Q I rv ⟨p, ys, rfl, hs, fun l hl => ?_⟩
      obtain ⟨e2, st2⟩ := st.new (o := .lst ys) hl
      exact h O _ _ e2 st2 ⟨l, _, rfl, st.no hl, upd_same, rs.mono (e2.w st.wf)⟩
    · exact h.elim
  · exact h.elim
def listAt (S : Sto) : D → Option (List D)
  | .lst ds => some ds
  | .scr ds => some ds
  | .own k => match S[k]? with
    | some (.lst ds) => some ds
    | _ => none
  | _ => none
theorem list_rep {K : PySem.W.Frag} {O : Ow} {H : Hp} {ρ : DE.Env} {σ : L2.St} {S : Sto} {d : D} {v : V} {ds : List D} (st : Stt K O H ρ σ S) (e : listAt S d = some ds) (r : Rep K O H d v) : ∃ p xs, v = .ref p ∧ SqL K H p xs ∧ Reps K O H ds xs := by
  cases d
  case lst => cases e; obtain ⟨p, xs, rfl, _, h, q⟩ := r; exact ⟨p, xs, rfl, SqL.of h, q⟩
  case scr =>
    cases e
    obtain ⟨p, xs, rfl, h, q⟩ := r
    exact ⟨p, xs, rfl, sqL_of (h.imp (fun z => z.2) id), q⟩
  case own k =>
    obtain ⟨p, h, rfl⟩ := r
    simp only [listAt] at e
    split at e
    · rename_i ds' hk
      cases e
      obtain ⟨xs, h1, q⟩ := st.wf.cell k p _ h hk
      exact ⟨p, xs, rfl, SqL.of h1, q⟩
    · cases e
  all_goals (simp only [listAt] at e; cases e)
def oTuple : FD := fun ds S => match ds with
  | [.tup xs] => .ok (.tup xs) S
  | [d] => (match listAt S d with
    | some xs => .ok (.tup xs) S
    | none => .bad)
  | _ => .bad
theorem c_oTuple : CallR X (.type "tuple") (RC X.K oTuple) := by
  intro pins s σ H vs us Q I rv ⟨W, ρ, σ', O, S, ds, st, r, h⟩
  unfold oTuple at h
  split at h
  · obtain ⟨v, rfl, r1⟩ := r.one
    obtain ⟨p, ys, rfl, h1, q⟩ := r1
    exact call_tuple_of pins s σ H _ us Q I rv ⟨p, ys, rfl, .inr ⟨sqT_of h1, After.ok h st ⟨p, ys, rfl, h1, q⟩⟩⟩
  · obtain ⟨v, rfl, r1⟩ := r.one
    split at h
    · rename_i xs hx
      obtain ⟨p, ys, rfl, hs, rs⟩ := list_rep st hx r1
      refine call_tuple_of pins s σ H _ us Q I rv ⟨p, ys, rfl, .inl ⟨hs, fun l hl => ?_⟩⟩
      obtain ⟨e2, st2⟩ := st.new (o := .tup ys) hl
      exact h O _ _ e2 st2 ⟨l, _, rfl, .inl upd_same, rs.mono (e2.w st.wf)⟩
    · exact h.elim
  · exact h.elim
end
/-! ### methods of texts -/
section
variable {X : Cx} {W : WX} {o e : Expr} {f g : ME} {apos pos : Pos}
/-- a method of one argument of a text -/
def dM1 (op : Str → D → Sto → RE D) (f g : ME) : ME := fun ρ S => (f ρ S).bind fun d S1 => match d with
  | .str x => (g ρ S1).bind fun e S2 => op x e S2
  | _ => .bad
def M1D (K : PySem.W.Frag) (r : V → List V → Hp → VK → Prop) (op : Str → D → Sto → RE D) : Prop :=
  ∀ (W : WX) (ρ : DE.Env) (σ : L2.St) (O : Ow) (H : Hp) (S : Sto) (x : Str) (y : V) (e : D) (Q : VK), Stt K O H ρ σ S → Rep K O H e y → After K W (Rep K) ρ σ O H Q (op x e S) → r (.str x) [y] H Q
theorem m1_imp {r : V → List V → Hp → VK → Prop} {op : Str → D → Sto → RE D} (ho : M1D X.K r op) {σ : L2.St} {H : Hp} {Q : VK} (h : tE X.K W (dM1 op f g) σ H Q) : tM1 r (tE X.K W f) (tE X.K W g) σ H Q := by
  obtain ⟨O, ρ, S, st, h⟩ := h
  refine ⟨O, ρ, S, st, After.seq h fun d S1 O1 H1 v e1 st1 r1 h1 => ?_⟩
  cases d <;> try exact h1.elim
  cases (show v = _ from r1)
  exact ⟨⟨_, rfl⟩, O1, ρ, S1, st1, After.seq h1 fun e S2 O2 H2 y e2 st2 r2 h2 => ho W ρ σ O2 H2 S2 _ y e Q st2 r2 h2⟩
def strsOf : List D → Option (List Str)
  | [] => some []
  | .str x :: ds => (strsOf ds).map (x :: ·)
  | _ => none
theorem strs_rep {K : PySem.W.Frag} {O : Ow} {H : Hp} : ∀ {ds : List D} {bs : List Str} {vs : List V}, strsOf ds = some bs → Reps K O H ds vs → vs = bs.map V.str
  | [], _, _, e, r => by cases e; cases r; rfl
  | d :: ds, _, _, e, r => by
    obtain ⟨v, vr, rfl, r1, r2⟩ := r
    cases d <;> simp only [strsOf] at e <;> try cases e
    cases q : strsOf ds with
    | none => rw [q] at e; cases e
    | some bs => rw [q] at e; cases e; rw [show v = _ from r1, strs_rep q r2]; rfl
def oJoin (x : Str) (d : D) (S : Sto) : RE D := match seqOf S d with
  | some ds => (match strsOf ds with
    | some ys => if (ys.map (·.length)).sum + ys.length * x.length ≤ cap then .ok (.str (Txt.join x ys)) S else .bad
    | none => .bad)
  | none => .bad
theorem de_join (ho : DE X W o f) (he : DE X W e g) (hs : starEach [e] X.env = [(false, eval e X.env)] := by rfl) (hbase : attributeBase o "join" X.env (eval o X.env) = eval o X.env := by rfl) (hline : (apos.endLine == pos.line) = true := by rfl) :
    DE X W (.Call (.Attribute o "join" apos) [e] [] pos) (dM1 oJoin f g) :=
  ⟨PE.imp (pe_join ho.pe he.pe hs hbase hline) fun _ _ _ h => m1_imp (fun W ρ σ O H S x y e Q st r h => by
    unfold oJoin at h
    split at h
    · rename_i ds hd
      split at h
      · rename_i ys hy
        obtain ⟨hc, h⟩ := After.ite h
        obtain ⟨p, xs, rfl, hs, rs⟩ := seq_rep st hd r
        have e := strs_rep hy rs
        subst e
        exact ⟨x, p, ys, rfl, rfl, hs, Nat.le_trans hc (by decide), After.ok h st rfl⟩
      · exact h.elim
    · exact h.elim) h⟩
end
end DE

set_option maxHeartbeats 4000000
namespace DE
open PySem PySem.Spec PyProof.Rows L2
section
variable {X : Cx} {W : WX} {o e i : Expr} {es : List Expr} {f g h : ME} {fa : MA} {apos pos p2 : Pos}
/-- xs.append(e), xs a list that changes -/
def dApp (f : ME) (g : MA) : ME := fun ρ S => (f ρ S).bind fun d S1 => match d with
  | .own k => (match S1[k]? with
    | some (.lst _) => (g ρ S1).bind fun es S2 => (match es, S2[k]? with
      | [e], some (.lst ds) => if ds.length < cap then .ok .non (S2.set k (.lst (ds ++ [e]))) else .bad
      | _, _ => .bad)
    | _ => .bad)
  | _ => .bad
theorem de_app (ho : DE X W o f) (ha : DA X W (e :: es) fa)
    (hbase : attributeBase o "append" X.env (eval o X.env) = eval o X.env := by rfl)
    (hfew : ((backTo pos (starEach (e :: es) X.env)).all (fun x => !x.1) && (backToKw pos (keywordEach [] X.env)).all (fun x => x.1.isSome)
      && decide ((e :: es).length + ([] : List Keyword).length + (if ([] : List Keyword).isEmpty then 0 else 1) < 30)) = true := by rfl)
    (hline : (apos.endLine == pos.line) = true := by rfl) (hs : starEach (e :: es) X.env = (false, eval e X.env) :: starEach es X.env := by rfl) (hplain : (backTo pos (starEach es X.env)).any (·.1) = false := by rfl) :
    DE X W (.Call (.Attribute o "append" apos) (e :: es) [] pos) (dApp f fa) :=
  ⟨PE.imp (pe_bm PySem.F.plainAttrs_list PySem.F.slot_list_append PySem.F.type_list_append mt_append ho.pe ha.pa hbase hfew hline hs hplain) fun σ H Q ⟨O, ρ, S, st, h⟩ => ⟨O, ρ, S, st, After.seq h fun d S1 O1 H1 v e1 st1 r1 h1 => by
    cases d <;> try exact h1.elim
    rename_i k
    obtain ⟨a, ha, rfl⟩ := r1
    have h1' : After X.K W (Rep X.K) ρ σ O1 H1 Q (match S1[k]? with
      | some (.lst _) => (fa ρ S1).bind fun es S2 => (match es, S2[k]? with
        | [e], some (.lst ds) => if ds.length < cap then .ok .non (S2.set k (.lst (ds ++ [e]))) else .bad
        | _, _ => .bad)
      | _ => .bad) := h1
    split at h1'
    · rename_i ds hk
      obtain ⟨xs, hx, rx⟩ := st1.wf.cell k a _ ha hk
      refine ⟨.inl ⟨rfl, xs, SqL.of hx⟩, O1, ρ, S1, st1, After.seq h1' fun es S2 O2 H2 vs e2 st2 r2 h2 => ?_⟩
      split at h2
      · rename_i z ds2 hk2
        obtain ⟨v, rfl, rv⟩ := r2.one
        obtain ⟨hc, h2⟩ := After.ite h2
        have ha2 := e2.at ha
        obtain ⟨ys, hy, ry⟩ := st2.wf.cell k a _ ha2 hk2
        refine ⟨a, ys, v, rfl, rfl, hy, by rw [← ry.length]; exact cap_lt hc, ?_⟩
        obtain ⟨e3, st3⟩ := st2.mut (o := .lst (ys ++ [v])) (d := .lst (ds2 ++ [z])) ha2 fun e3 => ⟨_, upd_same, (ry.mono (e3.w st2.wf)).append ⟨v, [], rfl, rv.mono (e3.w st2.wf), rfl⟩⟩
        exact h2 O2 _ _ e3 st3 rfl
      · exact h2.elim
    · exact h1'.elim⟩⟩
/-- xs[i] = e, xs a list that changes -/
def sSetIx (f fo fi : ME) : MS := fun ρ S => (f ρ S).stm ρ fun d S1 => (fo ρ S1).stm ρ fun o S2 => (fi ρ S2).stm ρ fun i S3 => match o, i with
  | .own k, .int n => (match S3[k]? with
    | some (.lst ds) => (match ixN ds.length n with
      | some j => .nx ρ (S3.set k (.lst (ds.set j d)))
      | none => .bad)
    | _ => .bad)
  | _, _ => .bad
theorem ds_setIx (he : DE X W e f) (ho : DE X W o g) (hi : DE X W i h) (hs : swapsWithSole [.Subscript o i p2] e pos.line X.env = pure false := by rfl) (hw : swappedStores [.Subscript o i p2] e X.env = pure none := by rfl) (h1 : (assignEach [.Subscript o i p2] X.env).map (·.2) = [assign (.Subscript o i p2) X.env] := by rfl)
    (harm : ∀ v, assign (.Subscript o i p2) X.env v = (do let ov ← holding [v] (eval o X.env); let iv ← holding [v, ov] (eval i X.env); standAt p2; holding [v, ov, iv] (setItem ov iv v); release [v, ov, iv] []) := by intro _; rfl) :
    DS X W (.Assign [.Subscript o i p2] e pos) (sSetIx f g h) :=
  ⟨PS.imp (ps_asg he.pe (pg_sub ho.pe hi.pe set_list harm) hs hw h1) fun D' σ H ⟨O, ρ, S, st, h⟩ => ⟨O, ρ, S, st, AfterS.seqE h fun d S1 O1 H1 v e1 st1 r1 h1 => ⟨O1, ρ, S1, st1, AfterS.seqE h1 fun od S2 O2 H2 vo e2 st2 r2 h2 => ⟨O2, ρ, S2, st2, AfterS.seqE h2 fun idt S3 O3 H3 vi e3 st3 r3 h3 => by
    cases od <;> try exact h3.elim
    cases idt <;> try exact h3.elim
    rename_i k n
    have h4 : AfterS X.K W D' O3 H3 (match S3[k]? with | some (.lst ds) => (match ixN ds.length n with | some j => .nx ρ (S3.set k (.lst (ds.set j d))) | none => .bad) | _ => .bad) := h3
    obtain ⟨a, ha, rfl⟩ := r2
    split at h4
    · rename_i ds hk
      split at h4
      · rename_i j hj
        have ha3 := e3.at ha
        obtain ⟨ys, hy, ry⟩ := st3.wf.cell k a _ ha3 hk
        refine ⟨a, ys, n, j, rfl, r3, hy, by rw [← ry.length]; exact hj, ?_⟩
        have r1' := r1.mono ((e2.trans e3).w st1.wf)
        obtain ⟨e5, st5⟩ := st3.mut (o := .lst (ys.set j v)) (d := .lst (ds.set j d)) ha3 fun e5 => ⟨_, upd_same, Reps.set (r1'.mono (e5.w st3.wf)) j (ry.mono (e5.w st3.wf))⟩
        exact h4 O3 _ σ e5 st5
      · exact h4.elim
    · exact h4.elim⟩⟩⟩⟩
theorem chain_imp {o1 o2 : D → D → Sto → RE D} {σ : L2.St} {H : Hp} {Q : VK} (hq : tE X.K W (dChain o1 o2 f g h) σ H Q) :
    tE X.K W f σ H fun x H1 => tE X.K W g σ H1 fun y H2 => RD X.K o1 x y H2 fun z H3 => ∃ k, z = .bl k ∧ if k = true then tE X.K W h σ H3 fun w H4 => RD X.K o2 y w H4 Q else Q (.bl false) H3 := by
  obtain ⟨O, ρ, S, st, hq⟩ := hq
  refine ⟨O, ρ, S, st, After.seq hq fun x S1 O1 H1 v1 e1 st1 r1 h1 => ⟨O1, ρ, S1, st1, After.seq h1 fun y S2 O2 H2 v2 e2 st2 r2 h2 => ?_⟩⟩
  refine ⟨W, ρ, σ, O2, S2, x, y, st2, r1.mono (e2.w st1.wf), r2, After.seq h2 fun d S3 O3 H3 v3 e3 st3 r3 h3 => ?_⟩
  cases d <;> try exact h3.elim
  rename_i k
  refine ⟨k, r3, ?_⟩
  cases k with
  | true => exact iteT ⟨O3, ρ, S3, st3, After.seq h3 fun z S4 O4 H4 v4 e4 st4 r4 h4 => ⟨W, ρ, σ, O4, S4, y, z, st4, r2.mono ((e3.trans e4).w st2.wf), r4, h4⟩⟩
  | false => exact iteF (After.ok h3 st3 rfl)
theorem de_chain {a b c : Expr} {op op' : CmpOp} {o1 o2 : D → D → Sto → RE D} (h1 : OpR X (compareOp op) (RD X.K o1)) (h2 : OpR X (compareOp op') (RD X.K o2)) (ha : DE X W a f) (hb : DE X W b g) (hc : DE X W c h)
    (hm : lastMarks [op, op'] [b, c] = false := by with_unfolding_all rfl) : DE X W (.Compare a [op, op'] [b, c] pos) (dChain o1 o2 f g h) := ⟨PE.imp (pe_chain h1 h2 ha.pe hb.pe hc.pe hm) fun _ _ _ q => chain_imp q⟩
theorem dt_chain {a b c : Expr} {op op' : CmpOp} {o1 o2 : D → D → Sto → RE D} (h1 : OpR X (compareOp op) (RD X.K o1)) (h2 : OpR X (compareOp op') (RD X.K o2)) (ha : DE X W a f) (hb : DE X W b g) (hc : DE X W c h)
    (hm : lastMarks [op, op'] [b, c] = false := by with_unfolding_all rfl) : DT X W (.Compare a [op, op'] [b, c] pos) (dTest (dChain o1 o2 f g h)) := ⟨PT.imp (pt_chain h1 h2 ha.pe hb.pe hc.pe hm) fun _ _ _ q => test_imp (fun _ _ _ z => chain_imp z) q⟩
/-! ### -e -/
def dNeg (f : ME) : ME := fun ρ S => (f ρ S).bind fun d S1 => match d with
  | .int i => .ok (.int (-i)) S1
  | _ => .bad
theorem de_neg (ha : DE X W e f) : DE X W (.UnaryOp .USub e pos) (dNeg f) := ⟨PE.imp (pe_un un_neg ha.pe) fun σ H Q ⟨O, ρ, S, st, h⟩ => ⟨O, ρ, S, st, After.seq h fun d S1 O1 H1 v e1 st1 r1 h1 => by
  cases d <;> try exact h1.elim
  exact ⟨_, r1, After.ok h1 st1 rfl⟩⟩⟩
/-- an empty dict -/
def dDictE : ME := fun _ S => .ok (.dK []) S
theorem de_dict0 : DE X W (.Dict [] [] pos) dDictE := ⟨PE.imp pe_dnewK fun σ H Q ⟨O, ρ, S, st, h⟩ => fun p hp => by
  obtain ⟨e2, st2⟩ := st.new (o := .dK []) hp
  exact h O _ _ e2 st2 ⟨p, [], rfl, st.no hp, .inl upd_same, rfl⟩⟩
end
/-! ### short words -/
section
variable {X : Cx} {W : WX} {x : Str} {pos : Pos}
theorem dv (i : Nat) (hN : X.N[i]? = some x := by rfl) (hv : Vis X.env.scope x := by first | exact Or.inl rfl | exact Or.inr (Or.inl rfl) | exact Or.inr (Or.inr rfl)) (hd : (x == ("__debug__" : Str)) = false := by decide) (hcd : (x == ("__classdict__" : Str)) = false := by decide) : DE X W (.Name x pos) (dVar i) := de_var i hN hv hd hcd
theorem de_gstr {z : Str} (h : ∃ t, X.mg x = some (.str z t)) (hg : Gl X x := by rfl) (hd : (x == ("__debug__" : Str)) = false := by decide) : DE X W (.Name x pos) (dC (.str z)) := by
  obtain ⟨t, h⟩ := h
  exact de_glob (v := .str z) hg h ⟨t, rfl⟩ (fun _ _ => rfl) hd
theorem de_gint {z : Int} (h : ∃ t, X.mg x = some (.int z t)) (hg : Gl X x := by rfl) (hd : (x == ("__debug__" : Str)) = false := by decide) : DE X W (.Name x pos) (dC (.int z)) := by
  obtain ⟨t, h⟩ := h
  exact de_glob (v := .int z) hg h ⟨t, rfl⟩ (fun _ _ => rfl) hd
end
/-! ### defs by their names -/
section
variable {P : Program} {w : World} {K : PySem.W.Frag} {mg : Str → Option Value} {base : Heap}
structure Fn (P : Program) (w : World) (K : PySem.W.Frag) (mg : Str → Option Value) (base : Heap) (k : Nat) (x : Str) (n : Nat) (F : FD) : Prop where
  ok : ∃ fd ps, FnOk P w K mg base (L2.CX P w) k (He.ga K x) fd ps (spD K n F) ∧ Binds K fd ps []
  gl : mg x = some (.ref (He.ga K x))
  kp : PySem.W.keepIn K (.ref (He.ga K x)) = true
theorem Fn.imp {k n : Nat} {x : Str} {F G : FD} (h : Fn P w K mg base k x n F) (hk : ∀ ds S, G ds S ≠ .bad → F ds S = G ds S) : Fn P w K mg base k x n G := by
  obtain ⟨⟨fd, ps, h1, h2⟩, h3, h4⟩ := h
  refine ⟨⟨fd, ps, h1.imp (fun vs H Q E hh => ?_), h2⟩, h3, h4⟩
  obtain ⟨O, S, ds, wf, r, hl, h⟩ := hh
  refine ⟨O, S, ds, wf, r, hl, ?_⟩
  rw [hk ds S fun z => by rw [z] at h; exact h]
  exact h
end
section
variable {X : Cx} {W : WX} {e : Expr} {es : List Expr} {x : Str} {k j n : Nat} {F : FD} {fa : MA} {p pos : Pos}
theorem de_fn (G : Fn X.prog X.w X.K X.mg X.base k x n F) (hr : Room j X.A) (hg : Gl X x) (tk : Takes X W) (ha : DA X W (e :: es) fa) (hk : k ≤ j := by decide) (hdb : (x == ("__debug__" : Str)) = false := by decide) (he : starEach (e :: es) X.env = (false, eval e X.env) :: starEach es X.env := by rfl) (hpl : (backTo pos (starEach es X.env)).any (·.1) = false := by rfl) :
    DE X W (.Call (.Name x p) (e :: es) [] pos) (dCall n F [] fa) := by
  obtain ⟨fd, ps, h1, h2⟩ := G.ok
  exact de_call h1 (hr.mono hk) hg G.gl G.kp h2 .nil (fun _ _ => rfl) tk ha hdb he hpl
end
/-- what may leave, whatever the world -/
def CXA : CXT := fun outer H s E u s' => ∃ P w, L2.CX P w outer H s E u s'
theorem fn_any {P : Program} {w : World} {K : PySem.W.Frag} {mg : Str → Option Value} {base : Heap} {k : Nat} {f : Addr} {fd : FuncData} {ps : List Str} {sp : Sp} (F : FnOk P w K mg base (L2.CX P w) k f fd ps sp) : FnOk P w K mg base CXA k f fd ps sp :=
  ⟨F.len, fun A outer s H args us vs Q E hr he hb hv hs => codeAny_mono (F.run A outer s H args us vs Q E hr he hb hv hs) fun r s' h => by
    cases r with
    | error e => exact ⟨P, w, h⟩
    | ok f => cases f <;> exact h⟩
theorem CXA.no {H : Hp} {s : Shared} {e : Value} {s' : Shared} (h : CXA [] H s (fun _ _ _ => False) e s') : False := by
  obtain ⟨P, w, _, _, _, _, _, _, _, _, _, _, _, _, z⟩ := h
  exact z
end DE

set_option maxHeartbeats 4000000
namespace DE
open PySem PySem.Spec PyProof.Rows L2
/-! ### match -/
abbrev Bd := List (Nat × D)
/-- none: not told; some none: no match -/
abbrev MP := D → Option (Option Bd)
def BRel (X : Cx) (O : Ow) (H : Hp) : List (Str × Value) → Bd → Prop := Paired fun p q => X.N[q.1]? = some p.1 ∧ X.env.scope.names.lookup p.1 = some .local ∧ ∃ v, RelV v p.2 ∧ Rep X.K O H q.2 v
def MRel (X : Cx) (O : Ow) (H : Hp) : Option (List (Str × Value)) → Option Bd → Prop
  | none, none => True
  | some bs, some bd => BRel X O H bs bd
  | _, _ => False
structure DPt (X : Cx) (p : Pattern) (f : MP) : Prop where
  run : ∀ pins s σ H v u O ρ S d r, Inv X pins σ H s → RelV v u → Stt X.K O H ρ σ S → Rep X.K O H d v → f d = some r → wpAny (model X.prog X.w) X.A (matchPattern p X.env u) (fun bs s' => ∃ H', Inv X pins σ H' s' ∧ Ext O H O H' ∧ Stt X.K O H' ρ σ S ∧ MRel X O H' bs r) X.xe s
structure DPs (X : Cx) (ps : List Pattern) (f : List D → Option (Option Bd)) : Prop where
  run : ∀ pins s σ H vs us O ρ S ds r, Inv X pins σ H s → Vals vs us → Stt X.K O H ρ σ S → Reps X.K O H ds vs → f ds = some r → wpAny (model X.prog X.w) X.A (matchEach ps X.env us) (fun bs s' => ∃ H', Inv X pins σ H' s' ∧ Ext O H O H' ∧ Stt X.K O H' ρ σ S ∧ MRel X O H' bs r) X.xe s
theorem BRel.mono {X : Cx} {O : Ow} {H H' : Hp} (e : ExtW O H O H') : ∀ {a : List (Str × Value)} {b : Bd}, BRel X O H a b → BRel X O H' a b
  | _, _, .nil => .nil
  | _, _, .cons ⟨h1, h2, v, h3, h4⟩ t => .cons ⟨h1, h2, v, h3, h4.mono e⟩ (BRel.mono e t)
theorem BRel.app {X : Cx} {O : Ow} {H : Hp} : ∀ {a b : List (Str × Value)} {c d : Bd}, BRel X O H a c → BRel X O H b d → BRel X O H (a ++ b) (c ++ d)
  | _, _, _, _, .nil, h => h
  | _, _, _, _, .cons r t, h => .cons r (BRel.app t h)
section
variable {X : Cx} {W : WX} {pos : Pos}
/-- a name -/
def pNm (i : Nat) : MP := fun d => some (some [(i, d)])
def pAny : MP := fun _ => some (some [])
theorem dp_name (i : Nat) {x : Str} (hi : X.N[i]? = some x := by rfl) (hl : X.env.scope.names.lookup x = some .local := by rfl) : DPt X (.MatchAs none (some x) pos) (pNm i) := ⟨fun pins s σ H v u O ρ S d r I rv st rd e => by
  cases e
  exact wpAny_matchPattern_Capture ⟨H, I, .refl, st, .cons ⟨hi, hl, v, rv, rd⟩ .nil⟩⟩
theorem dp_any : DPt X (.MatchAs none none pos) pAny := ⟨fun pins s σ H v u O ρ S d r I rv st rd e => by
  cases e
  exact wpAny_matchPattern_Capture ⟨H, I, .refl, st, .nil⟩⟩
/-- a written text -/
def pStr (x : Str) : MP := fun d => (eqD d (.str x)).map fun b => if b = true then some [] else none
theorem dp_str {x : Str} {j} {pos' : Pos} (hu : X.A.units + 64 < cLine) : DPt X (.MatchValue (.Constant (.str x) j pos') pos) (pStr x) := ⟨fun pins s σ H v u O ρ S d r I rv st rd e => by
  unfold pStr at e
  cases q : eqD d (.str x) with
  | none => rw [q] at e; cases e
  | some b =>
    rw [q] at e
    cases e
    refine wpAny_matchPattern_Value (thn ((pe_str (X := X) (x := x) (j := j) (pos := pos')).run pins s σ H (fun y H1 => y = .str x ∧ H1 = H) I ⟨rfl, rfl⟩) fun u2 s1 ⟨y, H1, I1, r1, ey, eH⟩ => ?_)
    subst ey eH
    obtain ⟨p, q', e1, e2, s1', s2', rfl⟩ := eqD_some q
    refine thn (op_eqD hu pins s1 σ H1 v (.str x) u u2 (fun z H2 => z = .bl (PyData.eqv p q') ∧ H2 = H1) I1 rv r1 ⟨p, q', dp_of e1 rd, dp_of (K := X.K) (O := O) (H := H1) e2 (show Rep X.K O H1 (.str x) (.str x) from rfl), s1', s2', rfl, rfl⟩) fun c s2 ⟨z, H2, I2, r2, ez, eH⟩ => ?_
    subst ez eH
    cases r2
    refine wpAny_truthy_bool ?_
    cases PyData.eqv p q' with
    | true => exact ⟨_, I2, .refl, st, .nil⟩
    | false => exact ⟨_, I2, .refl, st, trivial⟩⟩
/-- None -/
def pNon : MP := fun d => match d with
  | .non => some (some [])
  | .bl _ => some none
  | .int _ => some none
  | .str _ => some none
  | .tup _ => some none
  | .lst _ => some none
  | _ => none
theorem dp_non : DPt X (.MatchSingleton .none pos) pNon := ⟨fun pins s σ H v u O ρ S d r I rv st rd e => by
  cases d <;> simp only [pNon] at e <;> cases e
  case non => cases (show v = _ from rd); cases (show u = _ from rv); exact wpAny_matchPattern_Singleton_None ⟨H, I, .refl, st, .nil⟩
  case bl => cases (show v = _ from rd); cases (show u = _ from rv); exact wpAny_matchPattern_Singleton_miss rfl ⟨H, I, .refl, st, trivial⟩
  case int => cases (show v = _ from rd); obtain ⟨t, rfl⟩ := (show ∃ t, u = _ from rv); exact wpAny_matchPattern_Singleton_miss rfl ⟨H, I, .refl, st, trivial⟩
  case str => cases (show v = _ from rd); obtain ⟨t, rfl⟩ := (show ∃ t, u = _ from rv); exact wpAny_matchPattern_Singleton_miss rfl ⟨H, I, .refl, st, trivial⟩
  case tup => obtain ⟨a, xs, rfl, _⟩ := rd; cases (show u = _ from rv); exact wpAny_matchPattern_Singleton_miss rfl ⟨H, I, .refl, st, trivial⟩
  case lst => obtain ⟨a, xs, rfl, _⟩ := rd; cases (show u = _ from rv); exact wpAny_matchPattern_Singleton_miss rfl ⟨H, I, .refl, st, trivial⟩⟩
/-- one by one -/
def psNil : List D → Option (Option Bd) := fun _ => some (some [])
def psCons (f : MP) (g : List D → Option (Option Bd)) : List D → Option (Option Bd) := fun ds => match ds with
  | [] => none
  | d :: r => (f d).bind fun x => match x with
    | none => some none
    | some bs => (g r).map fun y => match y with
      | none => none
      | some cs => some (bs ++ cs)
theorem dps_nil : DPs X [] psNil := ⟨fun pins s σ H vs us O ρ S ds r I rv st rd e => by
  cases e
  exact wpAny_matchEach_nil ⟨H, I, .refl, st, .nil⟩⟩
theorem dps_cons {p : Pattern} {ps : List Pattern} {f : MP} {g : List D → Option (Option Bd)} (h1 : DPt X p f) (h2 : DPs X ps g) (hp : p.isStar = false := by rfl) : DPs X (p :: ps) (psCons f g) := ⟨fun pins s σ H vs us O ρ S ds r I rv st rd e => by
  rcases ds with _ | ⟨d, ds⟩
  · cases e
  obtain ⟨v, vr, rfl, r1, r2⟩ := rd
  cases rv with
  | cons rv1 rv2 =>
    have e : (f d).bind _ = some r := e
    cases q : f d with
    | none => rw [q] at e; cases e
    | some x =>
      rw [q] at e
      refine wpAny_matchEach_cons (thn (h1.run pins s σ H _ _ O ρ S d x I rv1 st r1 q) fun bs s1 ⟨H1, I1, g1, st1, m1⟩ => ?_) hp
      cases x with
      | none =>
        cases e
        cases bs with
        | none => exact ⟨H1, I1, g1, st1, trivial⟩
        | some _ => exact m1.elim
      | some bd =>
        cases bs with
        | none => exact m1.elim
        | some bs =>
          have e : (g ds).map _ = some r := e
          cases q2 : g ds with
          | none => rw [q2] at e; cases e
          | some y =>
            rw [q2] at e
            cases e
            refine thn (h2.run pins s1 σ H1 _ _ O ρ S ds y I1 rv2 st1 (r2.mono (g1.w st.wf)) q2) fun cs s2 ⟨H2, I2, g2, st2, m2⟩ => ?_
            cases y with
            | none =>
              cases cs with
              | none => exact ⟨H2, I2, g1.trans g2, st2, trivial⟩
              | some _ => exact m2.elim
            | some cd =>
              cases cs with
              | none => exact m2.elim
              | some cs => exact ⟨H2, I2, g1.trans g2, st2, BRel.app (BRel.mono (g2.w st1.wf) m1) m2⟩⟩
/-- the star at the end -/
def psStar (i : Nat) : List D → Option (Option Bd) := fun ds => match ds with
  | [d] => some (some [(i, d)])
  | _ => none
theorem dps_star (i : Nat) {x : Str} (hi : X.N[i]? = some x := by rfl) (hl : X.env.scope.names.lookup x = some .local := by rfl) : DPs X [.MatchStar (some x) pos] (psStar i) := ⟨fun pins s σ H vs us O ρ S ds r I rv st rd e => by
  rcases ds with _ | ⟨d, _ | ⟨_, _⟩⟩
  · cases e
  · cases e
    obtain ⟨v, vr, rfl, r1, r2⟩ := rd
    cases r2
    cases rv with
    | cons rv1 rv2 =>
      cases rv2
      refine PySem.W.kun_each (wpAny_matchEach_nil ?_)
      exact ⟨H, I, .refl, st, .cons ⟨hi, hl, v, rv1, r1⟩ .nil⟩
  · cases e⟩
/-- a row of just n -/
def pSeq (n : Nat) (g : List D → Option (Option Bd)) : MP := fun d => match d with
  | .tup ds => if ds.length = n then g ds else some none
  | .lst ds => if ds.length = n then g ds else some none
  | _ => none
theorem ext_kept {h h' : Heap} (e : Heap.ExtBut h.objs.size h h') : ∀ b u, h.get? b = some u → h'.get? b = some u := fun b u z => e b u (Nat.ne_of_lt (Heap.lt_size z)) z
theorem plain_is {h : Heap} {a : Addr} {its : Array Value} (p : PlainL h a its) : h.IsList a its := by
  obtain ⟨o, n, h1, h2, h3, h4⟩ := p
  exact ⟨o, h1, h2, n, h4⟩
theorem dp_seq {ps : List Pattern} {g : List D → Option (Option Bd)} {n : Nat} (hc : X.calm = true) (h : DPs X ps g) (hn : ps.length = n := by rfl) (hstar : ps.findIdx? (·.isStar) = none := by rfl)
    (hwild : (ps.all fun p => p.isWildcard || (p.isStar && p.names.isEmpty)) = false := by rfl) : DPt X (.MatchSequence ps pos) (pSeq n g) := ⟨fun pins s σ H v u O ρ S d r I rv st rd e => by
  cases d <;> simp only [pSeq] at e <;> try cases e
  case tup ds =>
    obtain ⟨a, xs, rfl, h1, h2⟩ := rd
    cases (show u = _ from rv)
    obtain ⟨its, rvs, ht, hz⟩ := I.tuple (sqT_of h1)
    have hl : its.length = xs.length := rvs.length.symm
    have hfit : ((its.toArray).size : Int) < 2 ^ 63 := by
      rw [List.size_toArray, hl]
      rw [sizeLine_eq] at hz
      omega
    by_cases hm : ds.length = n
    · rw [if_pos hm] at e
      have hsz : its.toArray.size = ps.length := by rw [List.size_toArray, hl, ← h2.length, hm, hn]
      refine matchSeq_tuple_hit ht hfit hsz ?_ hstar hwild
      rw [← hsz]
      refine unpackItems_tuple (I.ok.hd hc) (show IsTup s.heap a its.toArray from ht) fun h' eb => ?_
      exact h.run pins _ σ H xs its O ρ S ds r (I.kept (t' := s.toks + 1 + 1) (ext_kept eb)) rvs st h2 e
    · rw [if_neg hm] at e
      cases e
      exact matchSeq_tuple_miss ht hfit (by rw [List.size_toArray, hl, ← h2.length, hn]; exact hm) ⟨H, I.tok _, .refl, st, trivial⟩ hstar hwild
  case lst ds =>
    obtain ⟨a, xs, rfl, h0, h1, h2⟩ := rd
    cases (show u = _ from rv)
    obtain ⟨its, rvs, ht, hz⟩ := I.list (SqL.of h1)
    have hl : its.length = xs.length := rvs.length.symm
    have hfit : ((its.toArray).size : Int) < 2 ^ 63 := by
      rw [List.size_toArray, hl]
      rw [sizeLine_eq] at hz
      omega
    by_cases hm : ds.length = n
    · rw [if_pos hm] at e
      have hsz : its.toArray.size = ps.length := by rw [List.size_toArray, hl, ← h2.length, hm, hn]
      refine matchSeq_list_hit (plain_is ht) hfit hsz ?_ hstar hwild
      rw [← hsz]
      refine PySem.W.kun_itemsOf (I.ok.hd hc) (plain_is (show PlainL s.heap a its.toArray from ht)) fun h' eb => ?_
      exact h.run pins _ σ H xs its O ρ S ds r (I.kept (t' := s.toks + 1 + 1) (ext_kept eb)) rvs st h2 e
    · rw [if_neg hm] at e
      cases e
      exact matchSeq_list_miss (plain_is ht) hfit (by rw [List.size_toArray, hl, ← h2.length, hn]; exact hm) ⟨H, I.tok _, .refl, st, trivial⟩ hstar hwild⟩
/-- a row with a star at its end; n patterns, the star counted -/
def pSeqS (n : Nat) (g : List D → Option (Option Bd)) : MP := fun d => match d with
  | .tup ds => if ds.length ≤ 16384 then (if ds.length + 1 < n then some none else g (ds.take (n - 1) ++ [.lst (ds.drop (n - 1))])) else none
  | .lst ds => if ds.length ≤ 16384 then (if ds.length + 1 < n then some none else g (ds.take (n - 1) ++ [.lst (ds.drop (n - 1))])) else none
  | _ => none
theorem star_listU {prog : Program} {w : World} {A : Around} {E : Value → Shared → Prop} {s : Shared} {l : Addr} {items : Array Value} {n : Nat} {Q : List Value → Shared → Prop} (hl : s.heap.IsList l items) (hh : A.handled = none) (hi : n - 1 < n) (hn : n ≤ items.size + 1) (hz : items.size ≤ 16384)
    (h : ∀ (h' : Heap) (tk : Nat), (∀ b o, s.heap.get? b = some o → h'.get? b = some o) → Q (items.toList.take (n - 1) ++ [.ref h'.objs.size]) { s with heap := h'.push { cls := .type "list", data := .seq (items.toList.drop (n - 1)).toArray }, toks := tk }) : wpAny (model prog w) A (unpackItems (.ref l) n (some (n - 1))) Q E s := by
  have hlt : l ≠ s.heap.objs.size := by obtain ⟨o, ho, _⟩ := hl; exact Nat.ne_of_lt (Heap.lt_size ho)
  unfold unpackItems
  refine wpAny_bind ?_
  unfold notIterableAtAll
  refine wpAny_bind (wpAny_specialOf hl.typeIs slot_list_iter.lookup ?_)
  refine wpAny_pure ?_
  simp only [Bool.false_eq_true, if_false]
  refine wpAny_bind (wpAny_holding (wpAny_pyIter_list hl ?_))
  refine wpAny_bind (wpAny_holding (PySem.W.kun_draw hlt (n - 1) 0 _ _ ⟨_, Heap.get?_push_size _ rfl, rfl, rfl⟩ (hl.push _) (by omega) fun h₁ hit₁ hs₁ => ?_))
  have hl₁ : h₁.IsList l items := (hl.push _).extBut hs₁.extBut hlt
  rw [Nat.zero_add] at hit₁
  have hit₁' := hit₁
  obtain ⟨oi, hoi, _⟩ := hit₁'
  have hl₁' := hl₁
  obtain ⟨ol, hol, _⟩ := hl₁'
  rw [List.drop_zero]
  have hfl : (items.toList.take (n - 1)).length = n - 1 := by rw [List.length_take, Array.length_toList]; omega
  rw [if_neg (show ¬ ((items.toList.take (n - 1)).length < n - 1) by rw [hfl]; omega)]
  refine wpAny_bind (wpAny_holding (PySem.W.kun_collect (s := { s with heap := h₁ }) (T := "list_iterator") (.inr (.inr (.inl rfl))) (Walks.list (A := A.in1) hh s.heap.objs.size l hlt items) (fun j u st => st.1.typeIs) (k := n - 1) (by omega) ⟨hit₁, hl₁⟩ (Heap.lt_size hoi) (Heap.lt_size hol) (fun h₂ tk hk => ?_) (by rw [sizeLine_eq]; omega)))
  have hrl : (items.toList.drop (n - 1)).length = items.size - (n - 1) := by rw [List.length_drop, Array.length_toList]
  show wpAny _ _ (if (items.toList.drop (n - 1)).length < n - 1 - (n - 1) then _ else _) _ _ _
  rw [if_neg (by omega)]
  show wpAny _ _ (newList ((items.toList.drop (n - 1)).take ((items.toList.drop (n - 1)).length - (n - 1 - (n - 1)))) >>= fun d => pure (items.toList.take (n - 1) ++ [d] ++ (items.toList.drop (n - 1)).drop ((items.toList.drop (n - 1)).length - (n - 1 - (n - 1))))) _ _ _
  rw [Nat.sub_self, Nat.sub_zero, List.take_length, List.drop_length]
  have he : Heap.ExtBut s.heap.objs.size s.heap h₂ := fun b o hb e => hk b o hb (hs₁.extBut b o hb (Heap.get?_push_of_some _ e))
  refine wpAny_bind (wpAny_newList ?_ (by rw [hrl, sizeLine_eq]; omega))
  refine wpAny_pure ?_
  rw [List.append_nil]
  exact h h₂ tk (ext_kept he)
theorem star_tupU {prog : Program} {w : World} {A : Around} {E : Value → Shared → Prop} {s : Shared} {l : Addr} {items : Array Value} {n : Nat} {Q : List Value → Shared → Prop} (hl : IsTup s.heap l items) (hh : A.handled = none) (hi : n - 1 < n) (hn : n ≤ items.size + 1) (hz : items.size ≤ 16384)
    (h : ∀ (h' : Heap) (tk : Nat), (∀ b o, s.heap.get? b = some o → h'.get? b = some o) → Q (items.toList.take (n - 1) ++ [.ref h'.objs.size]) { s with heap := h'.push { cls := .type "list", data := .seq (items.toList.drop (n - 1)).toArray }, toks := tk }) : wpAny (model prog w) A (unpackItems (.ref l) n (some (n - 1))) Q E s := by
  have hlt : l ≠ s.heap.objs.size := by obtain ⟨o, ho, _⟩ := hl; exact Nat.ne_of_lt (Heap.lt_size ho)
  unfold unpackItems
  refine wpAny_bind ?_
  unfold notIterableAtAll
  refine wpAny_bind (wpAny_specialOf hl.typeIs slot_tuple_iter.lookup ?_)
  refine wpAny_pure ?_
  simp only [Bool.false_eq_true, if_false]
  refine wpAny_bind (wpAny_holding (iter_tuple hl ?_))
  refine wpAny_bind (wpAny_holding (draw_tuple hlt (n - 1) 0 _ _ ⟨_, Heap.get?_push_size _ rfl, rfl, rfl⟩ (hl.push _) (by omega) fun h₁ hit₁ hs₁ => ?_))
  have hl₁ : IsTup h₁ l items := (hl.push _).extBut hs₁.extBut hlt
  rw [Nat.zero_add] at hit₁
  have hit₁' := hit₁
  obtain ⟨oi, hoi, _⟩ := hit₁'
  have hl₁' := hl₁
  obtain ⟨ol, hol, _⟩ := hl₁'
  rw [List.drop_zero]
  have hfl : (items.toList.take (n - 1)).length = n - 1 := by rw [List.length_take, Array.length_toList]; omega
  rw [if_neg (show ¬ ((items.toList.take (n - 1)).length < n - 1) by rw [hfl]; omega)]
  refine wpAny_bind (wpAny_holding (PySem.W.kun_collect (s := { s with heap := h₁ }) (T := "tuple_iterator") (.inr (.inr (.inr rfl))) (Walks.tuple (A := A.in1) hh s.heap.objs.size l hlt items) (fun j u st => st.1.typeIs) (k := n - 1) (by omega) ⟨hit₁, hl₁⟩ (Heap.lt_size hoi) (Heap.lt_size hol) (fun h₂ tk hk => ?_) (by rw [sizeLine_eq]; omega)))
  have hrl : (items.toList.drop (n - 1)).length = items.size - (n - 1) := by rw [List.length_drop, Array.length_toList]
  show wpAny _ _ (if (items.toList.drop (n - 1)).length < n - 1 - (n - 1) then _ else _) _ _ _
  rw [if_neg (by omega)]
  show wpAny _ _ (newList ((items.toList.drop (n - 1)).take ((items.toList.drop (n - 1)).length - (n - 1 - (n - 1)))) >>= fun d => pure (items.toList.take (n - 1) ++ [d] ++ (items.toList.drop (n - 1)).drop ((items.toList.drop (n - 1)).length - (n - 1 - (n - 1))))) _ _ _
  rw [Nat.sub_self, Nat.sub_zero, List.take_length, List.drop_length]
  have he : Heap.ExtBut s.heap.objs.size s.heap h₂ := fun b o hb e => hk b o hb (hs₁.extBut b o hb (Heap.get?_push_of_some _ e))
  refine wpAny_bind (wpAny_newList ?_ (by rw [hrl, sizeLine_eq]; omega))
  refine wpAny_pure ?_
  rw [List.append_nil]
  exact h h₂ tk (ext_kept he)
theorem Reps.take2 {K : PySem.W.Frag} {O : Ow} {H : Hp} : ∀ {ds : List D} {vs : List V} (n : Nat), Reps K O H ds vs → Reps K O H (ds.take n) (vs.take n) ∧ Reps K O H (ds.drop n) (vs.drop n)
  | [], _, n, r => by cases r; simp only [List.take_nil, List.drop_nil]; exact ⟨rfl, rfl⟩
  | d :: ds, _, 0, r => ⟨rfl, r⟩
  | d :: ds, _, n + 1, r => by
    obtain ⟨v, vs, rfl, h1, h2⟩ := r
    obtain ⟨a, b⟩ := Reps.take2 n h2
    exact ⟨⟨v, vs.take n, rfl, h1, a⟩, b⟩
theorem Vals.take : ∀ {vs : List V} {us : List Value} (n : Nat), Vals vs us → Vals (vs.take n) (us.take n) ∧ Vals (vs.drop n) (us.drop n)
  | _, _, 0, r => ⟨.nil, r⟩
  | _, _, n + 1, .nil => ⟨.nil, .nil⟩
  | _, _, n + 1, .cons a r => by
    obtain ⟨x, y⟩ := Vals.take n r
    exact ⟨.cons a x, y⟩
theorem Vals.app1 : ∀ {vs : List V} {us : List Value} {v : V} {u : Value}, Vals vs us → RelV v u → Vals (vs ++ [v]) (us ++ [u])
  | _, _, _, _, .nil, h => .cons h .nil
  | _, _, _, _, .cons a r, h => .cons a (Vals.app1 r h)
theorem Reps.app1 {K : PySem.W.Frag} {O : Ow} {H : Hp} : ∀ {ds : List D} {vs : List V} {d : D} {v : V}, Reps K O H ds vs → Rep K O H d v → Reps K O H (ds ++ [d]) (vs ++ [v])
  | [], _, _, _, r, h => by cases r; exact ⟨_, _, rfl, h, rfl⟩
  | d :: ds, _, _, _, r, h => by
    obtain ⟨v, vs, rfl, h1, h2⟩ := r
    exact ⟨v, _, rfl, h1, Reps.app1 h2 h⟩
/-- behind the unpacking: the new list is at its place -/
theorem star_next {g : List D → Option (Option Bd)} {ps : List Pattern} (h : DPs X ps g) {pins : List (Addr × Obj)} {s : Shared} {σ : L2.St} {H : Hp} {O : Ow} {ρ : DE.Env} {S : Sto} {ds : List D} {xs : List V} {its : List Value} {n : Nat} {r : Option Bd} {tk0 : Nat} (I : Inv X pins σ H s) (rvs : Vals xs its) (hz : xs.length ≤ sizeLine) (st : Stt X.K O H ρ σ S) (h2 : Reps X.K O H ds xs)
    (e : g (ds.take (n - 1) ++ [.lst (ds.drop (n - 1))]) = some r) (h' : Heap) (tk : Nat) (kp : ∀ b o, s.heap.get? b = some o → h'.get? b = some o) :
    wpAny (model X.prog X.w) X.A (matchEach ps X.env (its.take (n - 1) ++ [.ref h'.objs.size])) (fun bs s' => ∃ H', Inv X pins σ H' s' ∧ Ext O H O H' ∧ Stt X.K O H' ρ σ S ∧ MRel X O H' bs r) X.xe { s with heap := h'.push { cls := .type "list", data := .seq (its.drop (n - 1)).toArray }, toks := tk } := by
  have I0 : Inv X pins σ H { s with heap := h', toks := tk } := I.kept kp
  have hf : H h'.objs.size = none := I0.hok.fresh (Nat.le_refl _)
  obtain ⟨e2, st2⟩ := st.new (o := .lst (xs.drop (n - 1))) hf
  obtain ⟨v1, v2⟩ := Vals.take (n - 1) rvs
  obtain ⟨q1, q2⟩ := Reps.take2 (n - 1) (h2.mono (e2.w st.wf))
  have I2 : Inv X pins σ (upd H h'.objs.size (.lst (xs.drop (n - 1)))) { s with heap := h'.push { cls := .type "list", data := .seq (its.drop (n - 1)).toArray }, toks := tk } := I0.laid (t' := tk) (fun b u e => Heap.get?_push_of_some _ e) (Nat.le_refl _) ⟨by rw [List.length_drop]; omega, its.drop (n - 1), 0, v2, Heap.get?_push_size _ rfl⟩
  refine thn (h.run pins _ σ _ (xs.take (n - 1) ++ [.ref h'.objs.size]) _ O ρ S _ r I2 (Vals.app1 v1 (show RelV (.ref h'.objs.size) (.ref h'.objs.size) from rfl)) st2 (Reps.app1 q1 (show Rep X.K O (upd H h'.objs.size (.lst (xs.drop (n - 1)))) (.lst (ds.drop (n - 1))) (.ref h'.objs.size) from ⟨h'.objs.size, _, rfl, st.no hf, upd_same, q2⟩)) e) fun bs s2 ⟨H2, I3, g3, st3, m3⟩ => ⟨H2, I3, e2.trans g3, st3, m3⟩
theorem dp_seqS {ps : List Pattern} {g : List D → Option (Option Bd)} {n : Nat} (hc : X.calm = true) (h : DPs X ps g) (hn : ps.length = n := by rfl) (hstar : ps.findIdx? (·.isStar) = some (n - 1) := by rfl)
    (hwild : (ps.all fun p => p.isWildcard || (p.isStar && p.names.isEmpty)) = false := by rfl) (hname : (ps[n - 1]?.elim [] (·.names)).isEmpty = false := by rfl) (h1n : 1 < n := by decide) : DPt X (.MatchSequence ps pos) (pSeqS n g) := ⟨fun pins s σ H v u O ρ S d r I rv st rd e => by
  cases d <;> simp only [pSeqS] at e <;> try cases e
  case tup ds =>
    obtain ⟨a, xs, rfl, h1, h2⟩ := rd
    cases (show u = _ from rv)
    obtain ⟨its, rvs, ht, hz⟩ := I.tuple (sqT_of h1)
    have hl : its.length = xs.length := rvs.length.symm
    have hsz : its.toArray.size = ds.length := by rw [List.size_toArray, hl, ← h2.length]
    split at e
    · rename_i hk
      have hfit : ((its.toArray).size : Int) < 2 ^ 63 := by rw [hsz]; omega
      split at e
      · rename_i hm
        cases e
        exact PySem.W.kun_fewT ht hfit hstar (by omega) (by rw [hsz]; omega) ⟨H, I.tok _, .refl, st, trivial⟩
      · rename_i hm
        refine PySem.W.kun_seqT ht hfit hstar hwild hname (by omega) (by rw [hsz]; omega) ?_
        rw [hn]
        refine star_tupU (s := { s with toks := s.toks + 1 + 1 }) (show IsTup s.heap a its.toArray from ht) (I.ok.hd hc) (by omega) (by rw [hsz]; omega) (by rw [hsz]; omega) fun h' tk kp => ?_
        exact star_next h (s := { s with toks := s.toks + 1 + 1 }) (tk0 := 0) (I.tok _) rvs hz st h2 e h' tk kp
    · cases e
  case lst ds =>
    obtain ⟨a, xs, rfl, h0, h1, h2⟩ := rd
    cases (show u = _ from rv)
    obtain ⟨its, rvs, ht, hz⟩ := I.list (SqL.of h1)
    have hl : its.length = xs.length := rvs.length.symm
    have hsz : its.toArray.size = ds.length := by rw [List.size_toArray, hl, ← h2.length]
    split at e
    · rename_i hk
      have hfit : ((its.toArray).size : Int) < 2 ^ 63 := by rw [hsz]; omega
      split at e
      · rename_i hm
        cases e
        exact PySem.W.kun_fewL (plain_is ht) hfit hstar (by omega) (by rw [hsz]; omega) ⟨H, I.tok _, .refl, st, trivial⟩
      · rename_i hm
        refine PySem.W.kun_seqL (plain_is ht) hfit hstar hwild hname (by omega) (by rw [hsz]; omega) ?_
        rw [hn]
        refine star_listU (s := { s with toks := s.toks + 1 + 1 }) (plain_is (show PlainL s.heap a its.toArray from ht)) (I.ok.hd hc) (by omega) (by rw [hsz]; omega) (by rw [hsz]; omega) fun h' tk kp => ?_
        exact star_next h (s := { s with toks := s.toks + 1 + 1 }) (tk0 := 0) (I.tok _) rvs hz st h2 e h' tk kp
    · cases e⟩
/-! ### cases -/
def bindB : Bd → DE.Env → DE.Env
  | [], ρ => ρ
  | (i, d) :: r, ρ => bindB r (ρ.set i (some d))
def mCs : List (MP × MS) → D → MS
  | [], _ => sNil
  | (p, b) :: r, d => fun ρ S => match p d with
    | none => .bad
    | some none => mCs r d ρ S
    | some (some bs) => b (bindB bs ρ) S
structure DCs (X : Cx) (W : WX) (cs : List MatchCase) (f : List (MP × MS)) : Prop where
  run : ∀ pins s σ H D' v u O ρ S d first, Inv X pins σ H s → RelV v u → Stt X.K O H ρ σ S → Rep X.K O H d v → AfterS X.K W D' O H (mCs f d ρ S) → wpAny (model X.prog X.w) X.A (matchCases cs X.env u first) (SP X pins D') X.xe s
theorem dcs_nil : DCs X W [] [] := ⟨fun pins s σ H D' v u O ρ S d first I rv st rd h => wpAny_matchCases_nil ⟨σ, H, I, h O H σ .refl st⟩⟩
theorem bind_ok (hN : X.N.Nodup) {A : Around} {M : Model} {E : Value → Shared → Prop} {pins : List (Addr × Obj)} {H : Hp} {O : Ow} {S : Sto} : ∀ {bs : List (Str × Value)} {bd : Bd} {σ : L2.St} {ρ : DE.Env} {s : Shared} {Q : Unit → Shared → Prop}, BRel X O H bs bd → Inv X pins σ H s → Stt X.K O H ρ σ S →
    (∀ s' σ', Inv X pins σ' H s' → Stt X.K O H (bindB bd ρ) σ' S → Q () s') → wpAny M A (assignInOrder (bs.map fun (n, _) => bindName X.env n) (bs.map (·.2))) Q E s
  | _, _, σ, ρ, s, Q, .nil, I, st, k => wpAny_assignInOrder_none (k s σ I st)
  | _, _, σ, ρ, s, Q, .cons (a := p) (b := q) ⟨hi, hl, v, rv, rd⟩ t, I, st, k => by
    refine wpAny_assignInOrder_more ?_
    refine wpAny_bindName (x := p.1) (v := p.2) ?_
    refine store_ok I hN hi (.inl hl) rv (fun s' I' => ?_) (.inr hl)
    exact bind_ok hN t I' ⟨st.wf, st.env.set rd _⟩ k
theorem dcs_cons {p : Pattern} {b : List Stmt} {cs : List MatchCase} {f : MP} {F : MS} {r : List (MP × MS)} (hN : X.N.Nodup) (hp : DPt X p f) (hb : DSs X W b F) (hr : DCs X W cs r) : DCs X W (⟨p, none, b⟩ :: cs) ((f, F) :: r) := ⟨fun pins s σ H D' v u O ρ S d first I rv st rd h => by
  cases q : f d with
  | none => simp only [mCs, q] at h; exact h.elim
  | some y =>
    refine wpAny_matchCases_cons (thn (hp.run pins s σ H v u O ρ S d y I rv st rd q) fun bs s1 ⟨H1, I1, g1, st1, m1⟩ => ?_)
    cases y with
    | none =>
      simp only [mCs, q] at h
      cases bs with
      | none => exact hr.run pins s1 σ H1 D' v u O ρ S d false I1 rv st1 (rd.mono (g1.w st.wf)) (h.mono g1)
      | some _ => exact m1.elim
    | some bd =>
      simp only [mCs, q] at h
      cases bs with
      | none => exact m1.elim
      | some bs =>
        exact bind_ok hN m1 I1 st1 fun s2 σ2 I2 st2 => hb.pss.run pins s2 σ2 H1 D' I2 ⟨O, _, S, st2, h.mono g1⟩⟩
def sMatch (f : ME) (cs : List (MP × MS)) : MS := fun ρ S => (f ρ S).stm ρ fun d S1 => mCs cs d ρ S1
theorem ds_match {e : Expr} {f : ME} {cs : List MatchCase} {r : List (MP × MS)} (he : DE X W e f) (h : DCs X W cs r) : DS X W (.Match e cs pos) (sMatch f r) := ⟨⟨fun pins s σ H D' I ⟨O, ρ, S, st, q⟩ => by
  refine wpAny_Match (thn (he.pe.run pins s σ H (fun v H1 => ∃ O1 d S1, Stt X.K O1 H1 ρ σ S1 ∧ Rep X.K O1 H1 d v ∧ AfterS X.K W D' O1 H1 (mCs r d ρ S1)) I ⟨O, ρ, S, st, AfterS.seqE q fun d S1 O1 H1 v e1 st1 r1 h1 => ⟨O1, d, S1, st1, r1, h1⟩⟩) fun u s1 ⟨v, H1, I1, rv, O1, d, S1, st1, r1, h1⟩ => ?_)
  exact h.run pins s1 σ H1 D' v u O1 ρ S1 d true I1 rv st1 r1 h1⟩⟩
end
end DE

set_option maxHeartbeats 4000000
namespace DE
open PySem PySem.Spec PyProof.Rows L2
/-! ### facts of one's own at the end of the top -/
abbrev Xb := PySem.W.Frag → Bool
def obsX (fa : List He.Fa) (fn : List He.DefD) (xs : List Xb) (K : PySem.W.Frag) : He.AlD × Bool := (He.obsD fa fn K, xs.all fun f => f K)
def obsXG (n : Nat) (fa : List He.Fa) (fn : List He.DefD) (xs : List Xb) (g : Addr → Option Obj) : He.AlD × Bool := obsX fa fn xs (He.frG g (He.asD g n))
def hookX (n : Nat) (fa : List He.Fa) (fn : List He.DefD) (xs : List Xb) : PySem.W.Hook where
  α := He.AlD × Bool
  obs := fun s => obsXG n fa fn xs s.heap.get?
  val := fun _ => (He.valD fn, true)
  says := fun _ h => ∃ K : PySem.W.Frag, K.In h ∧ He.SaysD fa fn K ∧ (xs.all fun f => f K) = true
  of := fun _ _ e => ⟨_, He.frG_in, congrArg Prod.fst e, congrArg Prod.snd e⟩
  keeps := fun _ _ _ ⟨K, a, b, c⟩ k => ⟨K, a.keeps k, b, c⟩
theorem obsXG_eq {n : Nat} {fa : List He.Fa} {fn : List He.DefD} {xs : List Xb} {g : Addr → Option Obj} {s : Shared} (h : ∀ a, g a = s.heap.get? a) : obsXG n fa fn xs g = (hookX n fa fn xs).obs s := by
  rw [show g = s.heap.get? from funext h]; rfl
/-! ### what is asked of a class of errors -/
def oexB (K : PySem.W.Frag) (C : Addr) : Bool := (match K.lookup C with
  | some ⟨.type t, _, .cls cd, sl⟩ => t == "type" && (match cd.mro, sl.toList with
    | .ref C' :: bm, [_, _, _, _, some (.builtin n), _] => C' == C && (n == "ValueError.__new__" && (!cd.hasDel && (cd.hasDict && PySem.HandSPX.refsVE bm)))
    | _, _ => false)
  | _ => false) && (decide (PySem.W.findIn K (.ref C) "__setattr__" = some (some (.builtin "object.__setattr__"))) && (decide (PySem.W.subIn K (.ref C) (.type "BaseException") = some true) &&
    (decide (PySem.W.typeIn K (.ref C) = some (.type "type")) && PySem.W.keepIn K (.ref C))))
theorem oexB_ok {K : PySem.W.Frag} {C : Addr} (h : oexB K C = true) : OexC K C := by
  unfold oexB at h
  simp only [Bool.and_eq_true, decide_eq_true_eq] at h
  obtain ⟨h0, h1, h2, h3, h4⟩ := h
  refine ⟨?_, h1, h2, h3, h4⟩
  split at h0
  case h_2 => cases h0
  case h_1 t dd cd sl q =>
    rw [Bool.and_eq_true] at h0
    obtain ⟨ht, h0⟩ := h0
    split at h0
    case h_2 => cases h0
    case h_1 C' bm k0 k1 k2 k3 n k5 hm hs =>
      simp only [Bool.and_eq_true, beq_iff_eq, Bool.not_eq_true'] at h0 ht
      obtain ⟨e1, e2, e3, e4, e5⟩ := h0
      obtain ⟨nm, bs, mro, ns, qn, hd, sn, sub, ab, col, del⟩ := cd
      dsimp only at hm e3 e4
      obtain ⟨sl⟩ := sl
      dsimp only at hs
      subst hm e1 e2 e3 e4 ht hs
      exact ⟨nm, qn, ns, bs, bm, sn, sub, ab, col, dd, k0, k1, k2, k3, k5, q, e5⟩
/-- .. for isinstance -/
def kcB (K : PySem.W.Frag) (C : Addr) : Bool := (PySem.W.clsIn K C).isSome && (decide (PySem.W.findIn K (.ref C) "__class__" = some (some (.builtin "object.__class__"))) && (decide (PySem.W.specialIn K (.builtin "object.__class__") "__get__" = some (some (.builtin "getset_descriptor.__get__"))) &&
  (decide (PySem.W.takesIn K (.builtin "object.__class__") = some true) && decide (PySem.W.mroIn K C (.type "object") = some true))))
theorem kcB_kit {K : PySem.W.Frag} {C x : Addr} {ox : Obj} {od : Option Obj} (h : kcB K C = true) (T : XfC K C) : PySem.W.KitX K (.ref x) (.ref C) (fun h => PySem.W.InstAt h x ox C od) := by
  unfold kcB at h
  simp only [Bool.and_eq_true, decide_eq_true_eq] at h
  obtain ⟨h0, h1, h2, h3, h4⟩ := h
  exact PySem.W.kitx_exc h0 T.ga T.gg T.exC h1 h2 h3 h4
/-- the class c, of one field f -/
def x1B (c f : Str) : Xb := fun K => oexB K (He.ga K c) && (xfB K (He.ga K c) && (kcB K (He.ga K c) && (decide (PySem.W.findIn K (.ref (He.ga K c)) f = some none) &&
  (decide (PySem.W.findIn K (.ref (He.ga K c)) "__init__" = some (some (.ref (He.fAd K (c, some "__init__"))))) && decide (PySem.W.typeIn K (.ref (He.fAd K (c, some "__init__"))) = some (.type "function"))))))
structure X1 (K : PySem.W.Frag) (c f : Str) : Prop where
  o : OexC K (He.ga K c)
  x : XfC K (He.ga K c)
  k : kcB K (He.ga K c) = true
  n : PySem.W.findIn K (.ref (He.ga K c)) f = some none
  i : PySem.W.findIn K (.ref (He.ga K c)) "__init__" = some (some (.ref (He.fAd K (c, some "__init__"))))
  t : PySem.W.typeIn K (.ref (He.fAd K (c, some "__init__"))) = some (.type "function")
theorem x1B_ok {K : PySem.W.Frag} {c f : Str} (h : x1B c f K = true) : X1 K c f := by
  unfold x1B at h
  simp only [Bool.and_eq_true, decide_eq_true_eq] at h
  obtain ⟨h1, h2, h3, h4, h5, h6⟩ := h
  exact ⟨oexB_ok h1, xfB_ok h2, h3, h4, h5, h6⟩
/-- who is caught, who is an instance of what -/
def xmB (t : List ((Str × Str) × Bool)) : Xb := fun K => t.all fun q => decide (PySem.W.exmOne K (.ref (He.ga K q.1.1)) (.ref (He.ga K q.1.2)) = some q.2)
def xgB (t : List ((Str × Str) × Bool)) : Xb := fun K => t.all fun q => decide (PySem.W.kitOne K (.ref (He.ga K q.1.1)) (.ref (He.ga K q.1.2)) = some q.2)
def xtB (t : List ((Str × String) × Bool)) : Xb := fun K => t.all fun q => decide (PySem.W.kitOne K (.ref (He.ga K q.1.1)) (.type q.1.2) = some q.2)
theorem mem_of_lookup {α β : Type} [BEq α] [LawfulBEq α] : ∀ {l : List (α × β)} {a : α} {b : β}, l.lookup a = some b → (a, b) ∈ l
  | [], _, _, h => by cases h
  | (c, d) :: r, a, b, h => by
    rw [List.lookup_cons] at h
    by_cases e : a == c
    · rw [e] at h
      cases h
      rw [eq_of_beq e]
      exact List.mem_cons_self
    · simp only [Bool.not_eq_true] at e
      rw [e] at h
      exact List.mem_cons_of_mem _ (mem_of_lookup h)
theorem xmB_ok {K : PySem.W.Frag} {t : List ((Str × Str) × Bool)} (h : xmB t K = true) {c d : Str} {b : Bool} (l : t.lookup (c, d) = some b) : PySem.W.exmOne K (.ref (He.ga K c)) (.ref (He.ga K d)) = some b := of_decide_eq_true (List.all_eq_true.mp h _ (mem_of_lookup l))
theorem xgB_ok {K : PySem.W.Frag} {t : List ((Str × Str) × Bool)} (h : xgB t K = true) {c d : Str} {b : Bool} (l : t.lookup (c, d) = some b) : PySem.W.kitOne K (.ref (He.ga K c)) (.ref (He.ga K d)) = some b := of_decide_eq_true (List.all_eq_true.mp h _ (mem_of_lookup l))
theorem xtB_ok {K : PySem.W.Frag} {t : List ((Str × String) × Bool)} (h : xtB t K = true) {c : Str} {d : String} {b : Bool} (l : t.lookup (c, d) = some b) : PySem.W.kitOne K (.ref (He.ga K c)) (.type d) = some b := of_decide_eq_true (List.all_eq_true.mp h _ (mem_of_lookup l))
/-! ### __init__ of one field -/
def exSp (K : PySem.W.Frag) (f : Str) : Sp := fun vs H Q E => ∃ a C v, vs = [.ref a, v] ∧ OexC K C ∧ PySem.W.findIn K (.ref C) f = some none ∧ H a = some (exo a C none) ∧ ∀ dx, H dx = none → dx ≠ a → Q .non (upd (upd H dx (exd dx [(f, v)])) a (exo a C (some dx)))
theorem init_of {P : Program} {w : World} {K : PySem.W.Frag} {mg : Str → Option Value} {base : Heap} {x qual f : Str} {params : Arguments} {scope : Scope} {kws : List (Str × V)} {g : Addr} {fd : FuncData} {p1 p2 p3 p4 : Pos} {body : List Stmt}
    (F : FunD K x qual params body scope [] kws g fd) (hb : body = [.Assign [.Attribute (.Name "self" p1) f p2] (.Name "value" p3) p4]) (S : FnScope ["self", "value"] ["self", "value"] scope)
    (h1 : scope.names.lookup ("self" : Str) = some .local) (h2 : scope.names.lookup ("value" : Str) = some .local) : FnOk P w K mg base (L2.CX P w) 1 g fd ["self", "value"] (exSp K f) := by
  subst hb
  refine F.ok S (fun vs H Q E h => ?_) (fun cdv A outer s H vs Q E hr h => ?_)
  · obtain ⟨_, _, _, rfl, _⟩ := h; rfl
  · obtain ⟨a, C, v, rfl, T, hn, ha, q⟩ := h
    refine ⟨_, pss_one (ps_ost (pe_var (i := 0) rfl (.inl h1)) (pe_var (i := 1) rfl (.inl h2))), ⟨v, rfl, .ref a, rfl, a, C, rfl, T, hn, .inl ⟨ha, fun dx hd ne => q dx hd ne⟩⟩⟩
/-- a class of errors of the program: of one field, ready to be made -/
structure Err (P : Program) (w : World) (K : PySem.W.Frag) (mg : Str → Option Value) (base : Heap) (c f : Str) : Prop where
  x : X1 K c f
  ok : ∃ fd, FnOk P w K mg base (L2.CX P w) 1 (He.fAd K (c, some "__init__")) fd ["self", "value"] (exSp K f) ∧ Binds K fd ["self", "value"] []
  gl : mg c = some (.ref (He.ga K c))
section
variable {X : Cx} {W : WX} {x : Str} {p pos pos2 : Pos} {e : Expr} {j : Nat} {c f : Str} {g : ME}
/-- raise c(e) -/
def sRaise (c f : Str) (g : ME) : MS := fun ρ S => (g ρ S).stm ρ fun d S1 => .exc ⟨c, [(f, d)]⟩ ρ S1
theorem upd_twice {H : Hp} {a b : Addr} {o o2 u v : HO} (ha : H a = none) (hb : H b = none) (ne : b ≠ a) : upd (del (upd (upd (upd H a o) b u) a o2) a) b v = upd H b v := by
  funext y
  by_cases h1 : y = b
  · subst h1; rw [upd_same, upd_same]
  · rw [upd_ne h1, upd_ne h1]
    by_cases h2 : y = a
    · subst h2; rw [del_same, ha]
    · rw [del_ne h2, upd_ne h2, upd_ne h1, upd_ne h2]
theorem ds_raise (E : Err X.prog X.w X.K X.mg X.base c f) (hr : Room j X.A) (hc : X.calm = true) (hg : Gl X c) (tk : Takes X W) (he : DE X W e g) (hj : 2 ≤ j := by decide) (hdb : (c == ("__debug__" : Str)) = false := by decide)
    (hs : starEach (e :: []) X.env = (false, eval e X.env) :: starEach [] X.env := by rfl) (hpl : (backTo pos (starEach [] X.env)).any (·.1) = false := by rfl) : DS X W (.Raise (some (.Call (.Name c p) [e] [] pos)) none pos2) (sRaise c f g) := by
  obtain ⟨fd, F1, hb⟩ := E.ok
  refine ⟨PS.imp (ps_raise hc tk (pmk_oex (X := X) (ds := []) (dvs := []) E.x.o E.x.i E.x.t F1 (hr.mono hj) hb .nil passL hg E.gl (pa_cons he.pe pa_nil hs) hdb hs hpl)) ?_⟩
  intro D' σ H ⟨O, ρ, S, st, h⟩
  refine ⟨O, ρ, S, st, AfterS.seqE h fun d S1 O1 H1 v e1 st1 r1 h1 => ?_⟩
  refine ⟨by simp, fun a ha => ⟨a, He.ga X.K c, v, by simp, E.x.o, E.x.n, upd_same, fun dx hdx ne => ?_⟩⟩
  have hd1 : H1 dx = none := by rw [upd_ne ne] at hdx; exact hdx
  refine ⟨rfl, dx, _, upd_same, by rw [upd_ne ne, upd_same], hd1, ?_⟩
  rw [upd_twice ha hd1 ne]
  obtain ⟨e2, st2⟩ := st1.new (o := .xd [(f, v)]) hd1
  exact h1 O1 _ σ _ _ e2 st2 ⟨rfl, dx, _, rfl, upd_same, v, [], rfl, r1.mono (e2.w st1.wf), rfl⟩
/-! ### try: .. except c as n: .. -/
def RS.unset (i : Nat) : RS → RS
  | .nx ρ S => .nx (ρ.set i none) S
  | .bk ρ S => .bk (ρ.set i none) S
  | .ct ρ S => .ct (ρ.set i none) S
  | .rt d S => .rt d S
  | _ => .bad
/-- cl: who is caught; hm: what is done then -/
def sTry (fb : MS) (cl : Str → Option Bool) (i : Nat) (hm : Exc → Nat → Nat → MS) : MS := fun ρ S => match fb ρ S with
  | .exc x ρ1 S1 => (match cl x.c with
    | none => .bad
    | some true => (hm x 0 0 (ρ1.set i (some (.xcp 0 0 x.fs))) S1).unset i
    | some false => .exc x ρ1 S1)
  | r => r
theorem AfterS.unset {K : PySem.W.Frag} {D' : Ends} {O : Ow} {H : Hp} {i : Nat} {r : RS} (h : AfterS K W D' O H (r.unset i)) :
    AfterS K W0 { nx := fun σ' H' => D'.nx (σ'.set i none) H', rt := D'.rt, bk := fun σ' H' => D'.bk (σ'.set i none) H', ct := fun σ' H' => D'.ct (σ'.set i none) H' } O H r := by
  cases r with
  | nx ρ S => exact fun O' H' σ' e st => h O' H' _ e ⟨st.wf, st.env.unset i⟩
  | bk ρ S => exact fun O' H' σ' e st => h O' H' _ e ⟨st.wf, st.env.unset i⟩
  | ct ρ S => exact fun O' H' σ' e st => h O' H' _ e ⟨st.wf, st.env.unset i⟩
  | rt d S => exact h
  | exc x ρ S => exact h.elim
  | bad => exact h.elim
/-- the fields' dict is not owned -/
theorem Stt.noXd {K : PySem.W.Frag} {O : Ow} {H : Hp} {ρ : DE.Env} {σ : L2.St} {S : Sto} (st : Stt K O H ρ σ S) {d : Addr} {vs : List (Str × V)} (h : H d = some (.xd vs)) : O.no d := by
  refine ⟨fun z => ?_, fun z => ?_⟩
  · obtain ⟨k, hk⟩ := List.mem_iff_getElem?.mp z
    have hl : k < S.length := by rw [st.wf.len]; exact (List.getElem?_eq_some_iff.mp hk).1
    have c := st.wf.cell k d S[k] hk (by simp [hl])
    cases q : S[k] <;> rw [q] at c <;> simp only [Cell] at c
    all_goals first
      | exact c
      | (obtain ⟨xs, c, _⟩ := c; rw [h] at c; cases c)
      | (obtain ⟨dx, xs, c, _⟩ := c; rw [h] at c; cases c)
  · obtain ⟨_, o, c, _, _, q⟩ := st.wf.hid d z
    rw [h] at c; cases c; exact q _ rfl
/-- what stands behind the clause's head -/
def tHnd (K : PySem.W.Frag) (cl : Str → Option Bool) (i : Nat) (hm : Exc → Nat → Nat → MS) (a : Addr) (cls : Value) (d : Option Addr) : TS := fun D' σ H => ∃ (x : Exc) (dd : Addr) (O : Ow) (ρ : DE.Env) (S : Sto), cls = .ref (He.ga K x.c) ∧ d = some dd ∧ cl x.c = some true ∧
  Stt K O H (ρ.set i (some (.xcp a dd x.fs))) σ S ∧ AfterS K W0 D' O H (hm x a dd (ρ.set i (some (.xcp a dd x.fs))) S)
theorem ds_try {body suite : List Stmt} {b₀ : Stmt} {n : Str} {np pos' : Pos} {fb : MS} {i : Nat} {cl : Str → Option Bool} {hm : Exc → Nat → Nat → MS} (hs : X.stack = X.env :: X.outer) (hf : X.env.frame = some X.env.locals) (hN : X.N.Nodup) (hi : X.N[i]? = some n) (hln : X.env.kindOf n = some .local)
    (hx : Names X x (.ref (He.ga X.K x))) (tk : Takes X W) (hcl : ∀ c b, cl c = some b → PySem.W.exmOne X.K (.ref (He.ga X.K c)) (.ref (He.ga X.K x)) = some b)
    (hb : ∀ (W' : WX) (pn : List (Addr × Obj)) (xe : Value → Shared → Prop), Takes (X.tr pn xe) W' → PassesOwn (model X.prog X.w) X.A X.env xe → DSs (X.tr pn xe) W' body fb)
    (hh : ∀ (y : Exc) (a dd : Addr) (oe : Obj) (pn : List (Addr × Obj)), cl y.c = some true → Zc (.ref (He.ga X.K y.c)) (some dd) oe → (∃ vs, oe.data = .fields vs) → DSs (X.suite a ((a, oe) :: pn)) W0 (b₀ :: suite) (hm y a dd))
    (hu : ∀ (y : Exc) (a dd : Nat) (ρ : DE.Env) (S : Sto), cl y.c = some true → (hm y a dd (ρ.set i (some (.xcp a dd y.fs))) S).unset i = (hm y 0 0 (ρ.set i (some (.xcp 0 0 y.fs))) S).unset i) :
    DS X W (.Try body [.ExceptHandler (some (.Name x np)) (some n) (b₀ :: suite) pos'] [] [] pos) (sTry fb cl i hm) := by
  refine ⟨PS.imp (ps_try_as (tb := fun W' => tS X.K W' fb) (ts := tHnd X.K cl i hm) hs hf hN hi hln hx tk (fun W' pn xe t p => (hb W' pn xe t p).pss) fun a oe cls d pn hz hd => ⟨?_⟩) ?_⟩
  · rintro pins s σ H D' I ⟨y, dd, O, ρ, S, rfl, rfl, hc, st, h⟩
    exact (hh y a dd oe pn hc hz hd).pss.run pins s σ H D' I ⟨O, _, S, st, h⟩
  · intro D' σ H ⟨O, ρ, S, st, h⟩
    refine ⟨O, ρ, S, st, ?_⟩
    unfold sTry at h
    cases q : fb ρ S with
    | nx ρ1 S1 => rw [q] at h; exact h
    | bk ρ1 S1 => rw [q] at h; exact h
    | ct ρ1 S1 => rw [q] at h; exact h
    | rt d S1 => rw [q] at h; exact h
    | bad => rw [q] at h; exact h
    | exc y ρ1 S1 =>
      rw [q] at h
      rintro O1 H1 σ1 cls dx e1 st1 ⟨rfl, dd, vs, rfl, hd, rf⟩
      cases q2 : cl y.c with
      | none => simp only [q2] at h; exact h.elim
      | some b =>
        refine ⟨b, hcl _ _ q2, fun eb a ha => ?_, fun eb => ?_⟩
        · subst eb
          simp only [q2] at h
          rw [← hu y a dd ρ1 S1 q2] at h
          have rr : Rep X.K O1 H1 (.xcp a dd y.fs) (.ref a) := ⟨rfl, vs, st1.noXd hd, hd, rf⟩
          exact ⟨y, dd, O1, ρ1, S1, rfl, rfl, q2, ⟨st1.wf, st1.env.set rr i⟩, AfterS.unset (AfterS.mono h e1)⟩
        · subst eb
          simp only [q2] at h
          exact h O1 H1 σ1 _ _ e1 st1 ⟨rfl, dd, vs, rfl, hd, rf⟩
/-! ### in the suite -/
/-- n.f -/
def dXf (a dd : Nat) (f : Str) (g : ME) : ME := fun ρ S => (g ρ S).bind fun d S1 => match d with
  | .xcp a' dd' fs => if a' = a ∧ dd' = dd then (match fs.lookup f with
    | some d => .ok d S1
    | none => .bad) else .bad
  | _ => .bad
theorem repF_lookup {K : PySem.W.Frag} {O : Ow} {H : Hp} {f : Str} : ∀ {fs : List (Str × D)} {vs : List (Str × V)} {d : D}, RepF K O H fs vs → fs.lookup f = some d → ∃ v, vs.lookup f = some v ∧ Rep K O H d v
  | [], _, _, _, e => by cases e
  | (k, d0) :: r, _, d, h, e => by
    obtain ⟨v, vr, rfl, h1, h2⟩ := h
    rw [List.lookup_cons] at e ⊢
    cases q : f == k with
    | true => rw [q] at e; cases e; exact ⟨v, rfl, h1⟩
    | false => rw [q] at e; exact repF_lookup h2 e
theorem de_xf {a dd : Addr} {oe : Obj} {pn : List (Addr × Obj)} {n : Str} {y : Str} (T : XfC X.K (He.ga X.K y)) (hno : PySem.W.findIn X.K (.ref (He.ga X.K y)) n = some none) (hz : Zc (.ref (He.ga X.K y)) (some dd) oe) (hf : ∃ vs, oe.data = .fields vs)
    (he : DE (X.suite a ((a, oe) :: pn)) W e g) (hb : attributeBase e n X.env (eval e X.env) = eval e X.env := by rfl) : DE (X.suite a ((a, oe) :: pn)) W (.Attribute e n pos) (dXf a dd n g) :=
  ⟨PE.imp (pe_xf T hno hz hf he.pe hb) fun σ H Q ⟨O, ρ, S, st, h⟩ => ⟨O, ρ, S, st, After.seq h fun d S1 O1 H1 v e1 st1 r1 h1 => by
    cases d <;> try exact h1.elim
    rename_i a' dd' fs
    obtain ⟨rfl, vs, nd, hd, rf⟩ := r1
    by_cases hc : a' = a ∧ dd' = dd
    · obtain ⟨rfl, rfl⟩ := hc
      simp only [and_self, if_true] at h1
      cases q : fs.lookup n with
      | none => simp only [q] at h1; exact h1.elim
      | some d =>
        simp only [q] at h1
        obtain ⟨v, hv, rv⟩ := repF_lookup rf q
        exact ⟨rfl, rfl, _, vs, v, rfl, hd, hv, After.ok h1 st1 rv⟩
    · simp only [hc, if_false] at h1; exact h1.elim⟩⟩
/-- isinstance(n, c) -/
def oXi (a dd : Nat) (kt : D → Option Bool) : FD := fun ds S => match ds with
  | [.xcp a' dd' _, t] => if a' = a ∧ dd' = dd then (match kt t with
    | some b => .ok (.bl b) S
    | none => .bad) else .bad
  | _ => .bad
theorem c_oXi {a : Addr} {dd : Addr} {oe : Obj} {pn : List (Addr × Obj)} {y : Str} {kt : D → Option Bool} (T : XfC X.K (He.ga X.K y)) (hk : kcB X.K (He.ga X.K y) = true) (hz : Zc (.ref (He.ga X.K y)) (some dd) oe) (hf : ∃ vs, oe.data = .fields vs)
    (ht : ∀ t b, kt t = some b → ∃ cv, (∀ K O H v u, K = X.K → Rep K O H t v → RelV v u → u = cv) ∧ PySem.W.kitOne X.K (.ref (He.ga X.K y)) cv = some b) : CallR (X.suite a ((a, oe) :: pn)) (.builtin "isinstance") (RC X.K (oXi a dd kt)) := by
  intro pins s σ H vs us Q I rv ⟨W, ρ, σ', O, S, ds, st, r, h⟩
  unfold oXi at h
  split at h
  · rename_i a' dd' fs t
    obtain ⟨v, u, rfl, r1, r2⟩ := r.two
    by_cases ha : a' = a ∧ dd' = dd
    · obtain ⟨rfl, rfl⟩ := ha
      simp only [and_self, if_true] at h
      cases q : kt t with
      | none => simp only [q] at h; exact h.elim
      | some b =>
        simp only [q] at h
        obtain ⟨cv, hc, hk1⟩ := ht t b q
        obtain ⟨rfl, vs', nd, hdd, _⟩ := r1
        cases rv with
        | cons rx rr =>
          cases rr with
          | cons rt rr =>
            cases rr
            cases rx
            have ec := hc _ O H u _ rfl r2 rt
            subst ec
            obtain ⟨hget, _⟩ := I.pin (a', oe) (List.mem_append.mpr (.inl List.mem_cons_self))
            obtain ⟨fv, hv⟩ := hf
            obtain ⟨z1, z2⟩ := hz
            obtain ⟨mA, hns, _⟩ := (show ObjOk X.prog X.w H s.heap dd' (.xd vs') from I.hok dd' _ hdd)
            obtain ⟨od, ho, _⟩ := lookIn_ns hns
            have J : PySem.W.InstAt s.heap a' oe (He.ga X.K y) (some od) := ⟨hget, z1, by unfold PySem.W.notCls; rw [hv] <;> rfl, by rw [z2]; exact ho⟩
            exact PySem.W.kia_one (kcB_kit hk T) I.kIn J hk1 (fun z => nomatch z) fun tk => ⟨.bl b, H, I.kept (t' := tk) fun _ _ z => z, rfl, After.ok h st rfl⟩
    · simp only [ha, if_false] at h; exact h.elim
  · exact h.elim
end
end DE

set_option maxHeartbeats 4000000
namespace DE
open PySem PySem.Spec PyProof.Rows L2 PySem.Froz
/-! ### sorted(set(t)), t a tuple of texts -/
/-- the set at a holds the texts l, each once, and can be walked -/
structure StrS (P : Program) (w : World) (h : Heap) (a : Addr) (l : List Str) : Prop where
  ex : ∃ es ep t, h.get? a = some (sObj "set" (es, ep, t)) ∧ TxOk P w (es, ep, t) l ∧ Ris t.place.toList ∧ (w.params.followText "set-order" = true ∨ t.led = true)
  nd : l.Nodup
section
variable {P : Program} {w : World} {A : Around} {E : Value → Shared → Prop} {s : Shared} {h h' : Heap} {a : Addr} {l : List Str}
theorem StrS.keep (R : StrS P w h a l) (k : ∀ o, h.get? a = some o → h'.get? a = some o) : StrS P w h' a l := by
  obtain ⟨⟨es, ep, t, g, r⟩, n⟩ := R
  exact ⟨⟨es, ep, t, k _ g, r⟩, n⟩
theorem tail_ris {ep : Nat} {es : Array (Int × Value)} {t : SetTable} {b : Bool} (r : Ris t.place.toList) : Ris (tailTx ep es t b).2.2.place.toList ∧ (tailTx ep es t b).2.2.led = t.led := by
  unfold tailTx
  split
  · exact ⟨relayAll_ris _ _ _, relayAll_led _ _ _⟩
  · exact ⟨r, rfl⟩
theorem add_ris {es : Array (Int × Value)} {ep : Nat} {t : SetTable} {z : Int} {v : Value} (r : Ris t.place.toList) : Ris (addTx z v (es, ep, t)).2.2.place.toList ∧ (addTx z v (es, ep, t)).2.2.led = t.led := by
  unfold addTx
  have r1 : Ris (if (layNew t es z v).2.1.plain = true then { (layNew t es z v).2.1 with plain := false } else (layNew t es z v).2.1).place.toList := by
    split <;> exact layNew_ris t es z v r
  have e1 : (if (layNew t es z v).2.1.plain = true then { (layNew t es z v).2.1 with plain := false } else (layNew t es z v).2.1).led = t.led := by
    split <;> exact layNew_led t es z v
  obtain ⟨q1, q2⟩ := tail_ris (ep := ep) (es := (layNew t es z v).1) (b := (layNew t es z v).2.2.1) r1
  exact ⟨q1, q2.trans e1⟩
/-- a text put in, new or not -/
theorem StrS.add {k : Str} {u : Tok} {Q : Bool → Shared → Prop} (R : StrS P w s.heap a l) (hb : l.length + 1 < scanBound)
    (hQ : ∀ h' b, Heap.SameBut a s.heap h' → StrS P w h' a (if k ∈ l then l else k :: l) → Q b { s with heap := h' }) : wpAny (model P w) A (setAddHashed a (.str k u) (hashStr w k)) Q E s := by
  obtain ⟨⟨es, ep, t, g, F, r, ld⟩, n⟩ := R
  by_cases hk : k ∈ l
  · rw [if_pos hk] at hQ
    have same := hQ s.heap false (Heap.SameBut.refl a s.heap) ⟨⟨es, ep, t, g, F, r, ld⟩, n⟩
    have ki : (strKind P w).is k (.str k u) = true := is_str k u
    have hd : (sObj "set" (es, ep, t)).data = .set es ep t := rfl
    have he : ElemsOf (strKind P w) es.toList := F.el
    have hf : t.fits es.size = true := F.fit
    have hz : es.size < scanBound := by
      have : es.size = l.length := F.sz
      omega
    unfold setAddHashed setAddHashedIn
    refine wpAny_holding (wpAny_bind (wpAny_setState_of g hd hf ?_))
    dsimp only
    rw [byScan_of rfl hz he, if_pos rfl]
    unfold setAddByScan
    refine wpAny_bind (wpAny_bind (wpAny_rule (wpAny_bind (wpAny_setScan_of (k := k) ki g hd hf he ?_))))
    cases q : List.findIdx? (fun e => (strKind P w).is k e.2) es.toList with
    | none =>
      obtain ⟨e, m1, m2⟩ := (F.mem k).mp hk
      have := List.findIdx?_eq_none_iff.mp q e m1
      rw [m2] at this; cases this
    | some i => exact wpAny_pure (wpAny_pure same)
  · rw [if_neg hk] at hQ
    refine add_x g F hk hb (hQ _ true (Heap.SameBut.update s.heap a _) ⟨⟨_, _, _, get_upd _ g rfl, add_ok u F, (add_ris r).1, ?_⟩, List.nodup_cons.mpr ⟨hk, n⟩⟩)
    exact ld.imp id fun z => (add_ris r).2.trans z
def putAll : List Str → List Str → List Str
  | l, [] => l
  | l, k :: r => putAll (if k ∈ l then l else k :: l) r
theorem putAll_len : ∀ {r l : List Str}, (putAll l r).length ≤ l.length + r.length
  | [], l => Nat.le_refl _
  | k :: r, l => by
    have h := putAll_len (r := r) (l := if k ∈ l then l else k :: l)
    have h2 : (if k ∈ l then l else k :: l).length ≤ l.length + 1 := by split <;> simp
    show (putAll _ r).length ≤ l.length + (r.length + 1)
    omega
theorem mem_putAll {k : Str} : ∀ {r l : List Str}, k ∈ putAll l r ↔ k ∈ l ∨ k ∈ r
  | [], l => by simp [putAll]
  | x :: r, l => by
    show k ∈ putAll (if x ∈ l then l else x :: l) r ↔ _
    rw [mem_putAll]
    by_cases h : x ∈ l
    · rw [if_pos h]
      constructor
      · rintro (z | z)
        · exact .inl z
        · exact .inr (List.mem_cons_of_mem _ z)
      · rintro (z | z)
        · exact .inl z
        · rcases List.mem_cons.mp z with rfl | z
          · exact .inl h
          · exact .inr z
    · rw [if_neg h, List.mem_cons, List.mem_cons]
      constructor
      · rintro ((z | z) | z)
        · exact .inr (.inl z)
        · exact .inl z
        · exact .inr (.inr z)
      · rintro (z | z | z)
        · exact .inl (.inr z)
        · exact .inl (.inl z)
        · exact .inr z
/-- set.update's loop over texts -/
theorem strs_loop {I D : Addr} {fp wr : List Addr} {G : Array GenState → Array GenState → Prop} {n : Nat} {Pv : Nat → Value → Prop} {St : Nat → Shared → Prop} {R : Result → Shared → Prop} (W : WalksS P w A.in1 I fp wr G n Pv St) (hD : D ∉ fp)
    {xs : List Str} (hn : n = xs.length) (hb : xs.length + 1 < scanBound) (hv : ∀ i v, Pv i v → ∃ k t, xs[i]? = some k ∧ v = .str k t) :
    ∀ (m i : Nat) (l : List Str) (s : Shared), n - i = m → i ≤ n → l.length ≤ i → St i s → StrS P w s.heap D l → (∀ s', Moved (D :: wr) G s s' → StrS P w s'.heap D (putAll l (xs.drop i)) → R (.ok (.ret .none)) s') →
      codeAny (model P w) A (.builtin "set.update.loop" ⟨[.ref D, .ref I], []⟩) R s := by
  have nw : D ∉ wr := fun z => hD (W.sub _ z)
  have wider : ∀ b ∈ wr, b ∈ D :: wr := fun _ z => .tail _ z
  intro m
  induction m with
  | zero =>
    intro i l s e1 e2 _ a1 a2 k
    have hi : i = n := by omega
    refine codeAny_builtin F.entry_set_update_loop (by
      rw [Around.under_plainId F.plain_set_update_loop _]
      refine (show wpAny _ A.in1 (pyNext (.ref I) >>= _) _ _ s from wpAny_bind (W.done s _ _ (hi ▸ a1) fun s1 mv => ?_))
      refine (show wpAny _ A.in1 (ret Value.none) _ _ s1 from wpAny_pure (k s1 (mv.mono wider) ?_))
      rw [hi, hn, List.drop_length]
      exact a2.keep fun o z => mv.heap D o nw z)
  | succ m ih =>
    intro i l s e1 e2 e3 a1 a2 k
    have hi : i < n := by omega
    refine codeAny_builtin F.entry_set_update_loop (by
      rw [Around.under_plainId F.plain_set_update_loop _]
      refine (show wpAny _ A.in1 (pyNext (.ref I) >>= _) _ _ s from wpAny_bind (W.item i s _ _ hi a1 fun v s1 pv st1 mv => ?_))
      obtain ⟨y, tk, hy, rfl⟩ := hv i v pv
      refine (show wpAny _ A.in1 (holding [Value.str y tk] (setAdd D (.str y tk)) >>= _) _ _ s1 from wpAny_bind (wpAny_holding ?_))
      unfold setAdd
      refine wpAny_holding (wpAny_bind ((strKind P w).pyHash (is_str y tk) ?_))
      have a3 : StrS P w s1.heap D l := a2.keep fun o z => mv.heap D o nw z
      refine StrS.add (s := { s1 with toks := s1.toks + 1 }) a3 (by omega) fun h2 b sb a4 => ?_
      have ed : xs.drop i = y :: xs.drop (i + 1) := by
        obtain ⟨q1, q2⟩ := List.getElem?_eq_some_iff.mp hy
        rw [List.drop_eq_getElem_cons q1, q2]
      have ln : (if y ∈ l then l else y :: l).length ≤ i + 1 := by
        split
        · omega
        · simp; omega
      refine wpAny_pure ⟨plainId_quiet F.plain_set_update_loop _, ih (i + 1) _ _ (by omega) hi ln (W.frame _ s1 _ _ st1 (Nat.le_succ _) fun c hc o z => ?_) a4 fun s3 mv3 a5 => ?_⟩
      · rw [sb.2 c fun z2 => hD (z2 ▸ hc)]; exact z
      · refine k s3 (Moved.trans W.gtrans ((mv.mono wider).then_heap (Nat.le_succ _) fun c o hc z => ?_) mv3) ?_
        · rw [sb.2 c fun z2 => hc (z2 ▸ List.mem_cons_self)]; exact z
        · rw [ed]; exact a5)
abbrev mtS (w : World) : Obj := { cls := .type "set", dict := none, data := .set #[] 0 (.fresh 0 0 (!w.params.followText "set-order")) }
theorem mtS_ok {hp : Heap} {b : Addr} (e : hp.get? b = some (mtS w)) : StrS P w hp b [] := by
  refine ⟨⟨#[], 0, _, e, TxOk.nil (by rfl), List.Pairwise.nil, ?_⟩, List.nodup_nil⟩
  show _ ∨ (!w.params.followText "set-order") = true
  cases w.params.followText "set-order" <;> simp
set_option maxHeartbeats 8000000 in
theorem set_tup {t : Addr} {items : Array Value} {xs : List Str} {Q : Value → Shared → Prop} (hh : A.handled = none) (ht : IsTup s.heap t items) (sz : items.size = xs.length) (hi : ∀ (i : Nat) (v : Value), items[i]? = some v → ∃ k u, xs[i]? = some k ∧ v = .str k u) (hb : xs.length + 1 < scanBound)
    (done : ∀ (hp : Heap) (tk : Nat), StrS P w hp s.heap.objs.size (putAll [] xs) → (∀ b o, s.heap.get? b = some o → hp.get? b = some o) → Q (.ref s.heap.objs.size) { s with heap := hp, toks := tk }) :
    wpAny (model P w) A (call (.type "set") [.ref t]) Q E s := by
  obtain ⟨cls0, tail0, m0⟩ := F.called_set.mro
  have (eq := _) c1 := F.called_set.made
  have (eq := _) c2 := F.called_set.sub
  have (eq := _) c3 := F.called_set.notType
  have (eq := _) c4 := F.called_set.canCreate
  have (eq := _) c5 := F.typeCall_set_1 (.ref t)
  refine wpAny_call (codeAny_of_tree (show wpAny _ _ (callAny (.type "set") _) _ _ _ from wpAny_pure ⟨Code.quiet_builtin _ (by decide +kernel), codeAny_builtin F.entry_type_call ?_⟩))
  rw [Around.under_plain (weight_type_call_type "set" [.ref t] []) rfl]
  repeat (any_goals (first | assumption | wp_step))
  refine codeAny_mono (code_set_led1 (.ref t) (E := E) (Q₁ := fun u s1 => u = .ref s.heap.objs.size ∧ s1 = { s with heap := s.heap.push (mtS w) }) ⟨rfl, rfl⟩) ?_
  rintro (er | fl) s1 hr
  · exact hr
  cases fl <;> try exact hr.elim
  obtain ⟨rfl, rfl⟩ := hr
  have g0 : (s.heap.push (mtS w)).get? s.heap.objs.size = some (mtS w) := Heap.get?_push_size _ rfl
  have ty : Shared.TypeIs { s with heap := s.heap.push (mtS w) } (.ref s.heap.objs.size) "set" := ⟨_, g0, rfl⟩
  have c6 := F.called_set.init.lookup
  have c7 := F.called_set.init.bind (.ref s.heap.objs.size)
  repeat (any_goals (first | assumption | wp_step))
  refine codeAny_mono (codeAny_call_builtin (R := wants (fun r s2 => r = .none ∧ ∃ hp tk, s2 = { s with heap := hp, toks := tk } ∧ StrS P w hp s.heap.objs.size (putAll [] xs) ∧ ∀ b o, s.heap.get? b = some o → hp.get? b = some o) E) F.called_set.init.plain F.entry_set_init (check_set_init_1 ty ?_)) ?_
  · obtain ⟨⟨oc, od, dt, sl⟩, ho, hc, nn, hd⟩ := ht
    dsimp only at hc hd
    subst hc hd
    have q1 := F.sub_tuple_set
    have q2 := F.sub_tuple_frozenset
    have q3 : (Value.type "tuple" == Value.type "dict") = false := by decide
    have ho1 : (s.heap.push (mtS w)).get? t = some { cls := .type "tuple", dict := od, data := .seq items nn, slots := sl } := Heap.get?_push_of_some _ ho
    have tp : (s.heap.push (mtS w)).IsTuple t items := ⟨_, ho1, rfl, nn, rfl⟩
    unfold Builtin.«set.__init__» noKeywords Builtin.Frozenset.updateFrom
    generalize eIt : pyIter = it
    wp_walk
    subst eIt
    refine wpAny_pyIter_tuple tp (wpAny_bind (wpAny_runValue ?_))
    have lt : t < s.heap.objs.size := Heap.lt_size ho
    have sp : (s.heap.push (mtS w)).objs.size = s.heap.objs.size + 1 := Heap.size_push ..
    have n1 : t ≠ (s.heap.push (mtS w)).objs.size := fun z => absurd (z.trans sp) (Nat.ne_of_lt (Nat.lt_succ_of_lt lt))
    have n2 : s.heap.objs.size ∉ [(s.heap.push (mtS w)).objs.size, t] := fun z => by
      rcases List.mem_cons.mp z with z | z
      · exact absurd (z.trans sp) (Nat.ne_of_lt (Nat.lt_succ_self _))
      · exact absurd (List.mem_singleton.mp z).symm (Nat.ne_of_lt lt)
    have g1 : ((s.heap.push (mtS w)).push { cls := .type "tuple_iterator", data := .fields #[.ref t, .int 0 0] }).get? s.heap.objs.size = some (mtS w) := Heap.get?_push_of_some _ g0
    refine strs_loop ((Walks.tuple (show A.in1.in1.in1.handled = none by simp [hh]) _ t n1 items).toS) n2 sz hb hi (items.size - 0) 0 [] _ rfl (Nat.zero_le _) (Nat.le_refl _) ⟨⟨_, Heap.get?_push_size _ rfl, rfl, rfl⟩, tp.push _⟩ (mtS_ok g1) fun s5 mv R5 => ?_
    obtain ⟨h5, g5, d5, t5, o5⟩ := s5
    obtain rfl : g5 = s.gens := mv.gens
    obtain rfl : d5 = s.drawn := mv.drawn
    obtain rfl : o5 = s.os := mv.os
    refine (show wpAny _ _ _ _ _ _ from wpAny_pure (show wpAny _ _ (ret Value.none) _ _ _ from wpAny_pure ⟨rfl, h5, t5, rfl, R5, fun b o z => ?_⟩))
    have lb : b < s.heap.objs.size := Heap.lt_size z
    refine mv.heap b o (fun y => ?_) (Heap.get?_push_of_some _ (Heap.get?_push_of_some _ z))
    rcases List.mem_cons.mp y with y | y
    · exact absurd y (Nat.ne_of_lt lb)
    · exact absurd ((List.mem_singleton.mp y).trans sp) (Nat.ne_of_lt (Nat.lt_succ_of_lt lb))
  · rintro (er | fl) s6 hr
    · exact hr
    cases fl <;> try exact hr.elim
    obtain ⟨rfl, h6, t6, rfl, R6, k6⟩ := hr
    repeat (any_goals (first | assumption | wp_step))
    exact done h6 t6 R6 k6
end
end DE

set_option maxHeartbeats 4000000
namespace DE
open PySem PySem.Spec PyProof.Rows L2 PySem.Froz
/-! ### rows of texts, rising -/
abbrev Asc (l : List Str) : Prop := l.Pairwise fun x y => strLt x y = true
theorem strLt_irr (x : Str) : strLt x x = false := by unfold strLt; simp [List.lt_irrefl]
theorem strLt_tr {x y z : Str} (h : strLt x y = true) (k : strLt y z = true) : strLt x z = true := by
  unfold strLt at *
  simp only [decide_eq_true_eq] at *
  exact List.lt_trans h k
theorem strLt_tot {x y : Str} (h : strLt x y = false) (k : strLt y x = false) : x = y := by
  unfold strLt at *
  simp only [decide_eq_false_iff_not] at *
  obtain ⟨⟨x⟩⟩ := x
  obtain ⟨⟨y⟩⟩ := y
  have : x = y := List.le_antisymm (List.not_lt.mp k) (List.not_lt.mp h)
  rw [this]
def insS (k : Str) : List Str → List Str
  | [] => [k]
  | x :: r => if strLt k x = true then k :: x :: r else if strLt x k = true then x :: insS k r else x :: r
def sortD (l : List Str) : List Str := l.foldr insS []
theorem mem_insS {k y : Str} : ∀ {l : List Str}, y ∈ insS k l ↔ y = k ∨ y ∈ l
  | [] => by simp [insS]
  | x :: r => by
    unfold insS
    split
    · simp
    · rename_i h1
      split
      · rw [List.mem_cons, mem_insS, List.mem_cons]
        constructor
        · rintro (z | z | z)
          · exact .inr (.inl z)
          · exact .inl z
          · exact .inr (.inr z)
        · rintro (z | z | z)
          · exact .inr (.inl z)
          · exact .inl z
          · exact .inr (.inr z)
      · rename_i h2
        have e := strLt_tot (by simpa using h1) (by simpa using h2)
        subst e
        constructor
        · exact .inr
        · rintro (z | z)
          · rw [z]; exact List.mem_cons_self
          · exact z
theorem asc_insS {k : Str} : ∀ {l : List Str}, Asc l → Asc (insS k l)
  | [], _ => List.pairwise_singleton _ _
  | x :: r, h => by
    obtain ⟨h1, h2⟩ := List.pairwise_cons.mp h
    unfold insS
    split
    · rename_i q
      refine List.pairwise_cons.mpr ⟨fun y hy => ?_, h⟩
      rcases List.mem_cons.mp hy with z | z
      · rw [z]; exact q
      · exact strLt_tr q (h1 y z)
    · split
      · rename_i q
        refine List.pairwise_cons.mpr ⟨fun y hy => ?_, asc_insS h2⟩
        rcases mem_insS.mp hy with z | z
        · rw [z]; exact q
        · exact h1 y z
      · exact h
theorem sortD_asc : ∀ l : List Str, Asc (sortD l)
  | [] => List.Pairwise.nil
  | x :: r => asc_insS (sortD_asc r)
theorem mem_sortD {y : Str} : ∀ {l : List Str}, y ∈ sortD l ↔ y ∈ l
  | [] => Iff.rfl
  | x :: r => by
    show y ∈ insS x (sortD r) ↔ _
    rw [mem_insS, mem_sortD, List.mem_cons]
theorem asc_ext : ∀ {l m : List Str}, Asc l → Asc m → (∀ k, k ∈ l ↔ k ∈ m) → l = m
  | [], [], _, _, _ => rfl
  | [], y :: m, _, _, h => absurd ((h y).mpr List.mem_cons_self) (by simp)
  | x :: l, [], _, _, h => absurd ((h x).mp List.mem_cons_self) (by simp)
  | x :: l, y :: m, a, b, h => by
    obtain ⟨a1, a2⟩ := List.pairwise_cons.mp a
    obtain ⟨b1, b2⟩ := List.pairwise_cons.mp b
    have exy : x = y := by
      rcases List.mem_cons.mp ((h x).mp List.mem_cons_self) with e | hx
      · exact e
      · rcases List.mem_cons.mp ((h y).mpr List.mem_cons_self) with e | hy
        · exact e.symm
        · have q := strLt_tr (a1 y hy) (b1 x hx)
          rw [strLt_irr] at q; cases q
    subst exy
    congr 1
    refine asc_ext a2 b2 fun k => ?_
    have hk := h k
    rw [List.mem_cons, List.mem_cons] at hk
    constructor
    · intro z
      rcases hk.mp (.inr z) with e | z'
      · subst e
        have q := a1 k z
        rw [strLt_irr] at q; cases q
      · exact z'
    · intro z
      rcases hk.mpr (.inr z) with e | z'
      · subst e
        have q := b1 k z
        rw [strLt_irr] at q; cases q
      · exact z'
/-- a row is its sorted self just if it rises -/
theorem eq_sortD {l : List Str} : l = sortD l ↔ Asc l := ⟨fun e => e ▸ sortD_asc l, fun a => asc_ext a (sortD_asc l) fun k => mem_sortD.symm⟩
theorem rising_le : ∀ {l : List Str} {p : Str}, risingS p l = true → (p :: l).Pairwise fun x y => strLt y x = false
  | [], p, _ => List.pairwise_singleton _ _
  | x :: r, p, h => by
    have h' : (!ltCps x.cps.toList p.cps.toList && risingS x r) = true := h
    obtain ⟨h1, h2⟩ := Bool.and_eq_true_iff.mp h'
    have ih := rising_le h2
    have h3 : strLt x p = false := by
      rw [ltCps_eq] at h1
      exact Bool.not_eq_true' _ ▸ h1
    refine List.pairwise_cons.mpr ⟨fun y hy => ?_, ih⟩
    rcases List.mem_cons.mp hy with e | hy
    · rw [e]; exact h3
    · have h4 := (List.pairwise_cons.mp ih).1 y hy
      cases q : strLt y p with
      | false => rfl
      | true =>
        by_cases e : x = y
        · rw [← e, h3] at q; cases q
        · cases q2 : strLt x y with
          | true => rw [strLt_tr q2 q] at h3; cases h3
          | false => exact absurd (strLt_tot q2 h4) e
theorem asc_of_sorted {l : List Str} (h : sortedS l = true) (n : l.Nodup) : Asc l := by
  cases l with
  | nil => exact List.Pairwise.nil
  | cons x r =>
    refine (List.pairwise_and_iff.mpr ⟨rising_le h, n⟩ : List.Pairwise _ _).imp fun {a b} ⟨h1, h2⟩ => ?_
    cases q : strLt a b with
    | true => rfl
    | false => exact absurd (strLt_tot q h1) h2
theorem perm_of_sub : ∀ {l m : List Str}, l.Nodup → (∀ k ∈ l, k ∈ m) → m.length = l.length → m.Perm l
  | [], m, _, _, e => by rw [List.length_eq_zero_iff.mp e]
  | x :: l, m, n, h, e => by
    obtain ⟨n1, n2⟩ := List.nodup_cons.mp n
    have hx := h x List.mem_cons_self
    have p := List.perm_cons_erase hx
    refine p.trans (List.Perm.cons x (perm_of_sub n2 (fun k hk => ?_) ?_))
    · exact (List.mem_erase_of_ne (fun z : k = x => n1 (z ▸ hk))).mpr (h k (List.mem_cons_of_mem _ hk))
    · rw [List.length_erase_of_mem hx, e]; rfl
section
variable {P : Program} {w : World} {A : Around} {E : Value → Shared → Prop} {s : Shared} {a : Addr} {l : List Str}
theorem strOf_is {k : Str} {v : Value} (h : (PySem.strKind P w).is k v = true) : strOf v = k ∧ ∃ x t, v = .str x t := by
  obtain ⟨t, rfl⟩ := Value.isStrOf_shape h
  exact ⟨rfl, _, _, rfl⟩
/-- sorted(a set of texts) -/
theorem sorted_set_strs {Q : Value → Shared → Prop} (R : StrS P w s.heap a l) (hh : A.handled = none) (hb : l.length < scanBound)
    (done : ∀ (s' : Shared) (p : Addr) (out : Array Value) (c : Nat), (∀ b o, s.heap.get? b = some o → s'.heap.get? b = some o) → s'.gens = s.gens → s'.os = s.os → s.heap.objs.size ≤ p → s'.heap.get? p = some (seqObj "list" out c) → StrsAre out.toList (sortD l) → Q (.ref p) s') :
    wpAny (model P w) A (call (.builtin "sorted") [.ref a]) Q E s := by
  obtain ⟨⟨es, ep, t, g, F, r, ld⟩, n⟩ := R
  have hz : es.size = l.length := F.sz
  refine Calls.call_function_entry kind_sorted plain_sorted entry_sorted (args_sorted1 _) (by
    unfold Builtin.«sorted»
    refine wpAny_bind (m := checkCount "sorted" 1 1 _) (wpAny_pure (wpAny_bind (collect_set (A := A.in1) hh ⟨_, g, rfl, rfl⟩ F.fit (show es.size < scanBound by omega) r ld fun s1 vs k1 z1 g1 o1 pm => ?_)))
    have len : vs.length = l.length := by rw [pm.length_eq, List.length_map, Array.length_toList, hz]
    have allS : ∀ v ∈ vs, ∃ k, (PySem.strKind P w).is k v = true := fun v hv => by
      obtain ⟨e, m1, rfl⟩ := List.mem_map.mp (pm.mem_iff.mp hv)
      obtain ⟨⟨k, m2, _⟩, _⟩ := F.el e m1
      exact ⟨k, m2⟩
    have SA := strsAre_map vs fun v hv => (strOf_is (allS v hv).choose_spec).2
    have pl : (vs.map strOf).Perm l := perm_of_sub n (fun k hk => by
      obtain ⟨e, m1, m2⟩ := (F.mem k).mp hk
      exact List.mem_map.mpr ⟨e.2, pm.mem_iff.mpr (List.mem_map_of_mem m1), (strOf_is m2).1⟩) (by rw [List.length_map, len])
    have lz : vs.length ≤ sizeLine := by rw [len]; exact fits_of_scanBound (n := l.length) hb
    refine wpAny_bind (wpAny_newList ?_ lz)
    have at1 : (s1.heap.push (seqObj "list" vs.toArray 0)).get? s1.heap.objs.size = some (seqObj "list" vs.toArray 0) := Heap.get?_push_size _ rfl
    refine wpAny_bind (wpAny_holding (wpAny_call_entry slot_list_sort ⟨_, at1, rfl⟩ entry_list_sort (list_sort_treeKAny strKind_oneLt at1 SA.keysOf (fun v₁ v₂ rest e => keyKind_strs (by rw [← e]; exact SA)) lz fun st a1 a2 => ⟨_, rfl, ?_⟩) (args_list_sort _)))
    obtain ⟨ys, y1, y2, y3⟩ := sorted_out_str SA a1 a2
    have ey : ys = sortD l := asc_ext (asc_of_sorted y3 ((y2.trans pl).nodup_iff.mpr n)) (sortD_asc l) fun k => ((y2.trans pl).mem_iff).trans mem_sortD.symm
    rw [ey] at y1
    obtain ⟨c, hc⟩ := sortedHeap_at (vs := vs) (out := (arrOf st).map (·.2)) at1
    refine wpAny_pure ⟨_, rfl, done _ s1.heap.objs.size _ c (fun b o z => ?_) g1 o1 z1 hc y1⟩
    have q := k1 b o z
    have lt := Heap.lt_size q
    refine (sortedHeap_old (Nat.ne_of_lt lt) (by rw [size_push']; exact Nat.lt_succ_of_lt lt)).trans ?_
    exact Heap.get?_push_of_some _ q)
end
/-! ### the rule -/
def dSS (f : ME) : ME := fun ρ S => (f ρ S).bind fun d S1 => match d with
  | .tup ds => (match strsOf ds with
    | some xs => if xs.length < 4000 then .ok (.lst ((sortD xs).map .str)) S1 else .bad
    | none => .bad)
  | _ => .bad
theorem reps_strs {K : PySem.W.Frag} {O : Ow} {H : Hp} : ∀ {xs : List Str}, Reps K O H (xs.map .str) (xs.map .str)
  | [] => rfl
  | x :: r => ⟨.str x, r.map .str, rfl, rfl, reps_strs⟩
theorem strs_at2 : ∀ {vs : List Value} {xs : List Str} {i : Nat} {v : Value}, StrsAre vs xs → vs[i]? = some v → ∃ k u, xs[i]? = some k ∧ v = .str k u
  | _, _, _, _, .nil, h => by simp at h
  | _, _, 0, _, .cons y t r, h => by simp at h; exact ⟨y, t, rfl, h.symm⟩
  | _, _, i + 1, _, .cons y t r, h => by simpa using strs_at2 (i := i) r (by simpa using h)
theorem insS_len {k : Str} : ∀ {l : List Str}, (insS k l).length ≤ l.length + 1
  | [] => Nat.le_refl _
  | x :: r => by
    unfold insS
    split
    · simp
    · split
      · have := insS_len (k := k) (l := r)
        simp; omega
      · simp
theorem sortD_len : ∀ {l : List Str}, (sortD l).length ≤ l.length
  | [] => Nat.le_refl _
  | x :: r => Nat.le_trans insS_len (Nat.succ_le_succ sortD_len)
theorem sortD_put {l : List Str} : sortD (putAll [] l) = sortD l := asc_ext (sortD_asc _) (sortD_asc _) fun k => by
  rw [mem_sortD, mem_sortD, mem_putAll]; simp
section
variable {X : Cx} {W : WX} {a : Expr} {f : ME} {p p2 q pos : Pos}
theorem de_ss (hc : X.calm = true) (hg : Gl X "sorted") (hm : X.mg "sorted" = none) (hg2 : Gl X "set") (hm2 : X.mg "set" = none) (he : DE X W a f) (na : starEach [a] X.env = (false, eval a X.env) :: starEach [] X.env := by rfl) :
    DE X W (.Call (.Name "sorted" p) [.Call (.Name "set" p2) [a] [] q] [] pos) (dSS f) := ⟨⟨fun pins s σ H Q I ⟨O, ρ, S, st, h⟩ => by
  refine Call_ (ld_blt I hg hm (show bootBuiltins "sorted" = some (.builtin "sorted") by decide +kernel) ?_)
  refine PyProof.Rows.callWith_builtin1 (PyProof.Rows.args_cons ?_ rfl) rfl rfl
  refine Call_ (ld_blt I hg2 hm2 (show bootBuiltins "set" = some (.type "set") by decide +kernel) ?_)
  refine PyProof.Rows.callWith_type1 (PyProof.Rows.args_cons (thn (he.pe.run pins s σ H (fun v H1 => ∃ O1 d S1, Stt X.K O1 H1 ρ σ S1 ∧ Rep X.K O1 H1 d v ∧ After X.K W (Rep X.K) ρ σ O1 H1 Q (match d with
    | .tup ds => (match strsOf ds with
      | some xs => if xs.length < 4000 then .ok (.lst ((sortD xs).map .str)) S1 else .bad
      | none => .bad)
    | _ => .bad)) I ⟨O, ρ, S, st, After.seq h fun d S1 O1 H1 v e1 st1 r1 h1 => ⟨O1, d, S1, st1, r1, h1⟩⟩) fun u s1 ⟨v, H1, I1, rv, O1, d, S1, st1, r1, h1⟩ => PyProof.Rows.args_nil ?_) na) na rfl
  cases d <;> try exact h1.elim
  rename_i ds
  cases e : strsOf ds with
  | none => simp only [e] at h1; exact h1.elim
  | some xs =>
    by_cases hl : xs.length < 4000
    · simp only [e, hl, if_true] at h1
      obtain ⟨t, vs, rfl, ht, rs⟩ := r1
      obtain rfl := strs_rep e rs
      cases rv
      obtain ⟨its, rvs, tp, _⟩ := I1.tuple (sqT_of ht)
      have SA : StrsAre its xs := rvs.strs
      have ln : its.toArray.size = xs.length := by rw [List.size_toArray]; exact (rvs.length.symm).trans (List.length_map _)
      refine set_tup (I1.ok.hd hc) tp ln (fun i v hv => strs_at2 SA (by simpa using hv)) (by unfold scanBound; omega) fun hp tk R k1 => PyProof.Rows.args_nil ?_
      have I2 : Inv X pins σ H1 { s1 with heap := hp, toks := tk } := I1.kept k1
      have lp : (putAll [] xs).length < scanBound := by
        have := putAll_len (r := xs) (l := [])
        unfold scanBound
        simp at this
        omega
      refine sorted_set_strs R (I2.ok.hd hc) lp fun s3 b out c k3 g3 o3 z3 at3 y3 => ?_
      rw [sortD_put] at y3
      have hn : H1 b = none := I2.hok.fresh z3
      obtain ⟨e2, st2⟩ := st1.new (o := .lst ((sortD xs).map V.str)) hn
      have lz : ((sortD xs).map V.str).length ≤ sizeLine := by
        have := sortD_len (l := xs)
        rw [List.length_map, sizeLine_eq]; omega
      have J : Inv X pins σ (upd H1 b (.lst ((sortD xs).map V.str))) s3 := I2.call' (ch := []) o3 (Un.laid k3 z3 hn) (I2.hok.laid k3 z3 ⟨lz, out.toList, c, vals_of_strs y3, at3⟩) (by rw [g3]; exact I2.bare) (fun _ z => nomatch z)
      exact ⟨.ref b, _, J, rfl, h1 O1 _ _ e2 st2 ⟨b, _, rfl, st1.no hn, upd_same, reps_strs⟩⟩
    · simp only [e, hl, if_false] at h1; exact h1.elim⟩⟩
end
end DE

set_option maxHeartbeats 4000000
namespace DE
open PySem PySem.Spec PyProof.Rows L2
section
variable {X : Cx} {W : WX} {a : Expr} {f : ME} {p pos pos' : Pos} {e : Expr}
/-! ### int(..) of a number -/
def oInt : FD := fun ds S => match ds with
  | [.int i] => .ok (.int i) S
  | [.bl b] => .ok (.int (if b then 1 else 0)) S
  | _ => .bad
theorem c_oInt : CallR X (.type "int") (RC X.K oInt) := by
  intro pins s σ H vs us Q I rv ⟨W, ρ, σ', O, S, ds, st, r, h⟩
  unfold oInt at h
  split at h
  · obtain ⟨v, rfl, r1⟩ := r.one
    exact call_int1 pins s σ H _ us Q I rv (.inl ⟨_, by rw [show v = _ from r1], After.ok h st rfl⟩)
  · obtain ⟨v, rfl, r1⟩ := r.one
    exact call_int1 pins s σ H _ us Q I rv (.inr ⟨_, by rw [show v = _ from r1], After.ok h st rfl⟩)
  · exact h.elim
/-! ### a tuple so many times -/
def oMul2 : D → D → Sto → RE D := fun d e S => match d, e with
  | .tup xs, .int n => if xs ≠ [] ∧ 2 ≤ n ∧ n ≤ 1000 ∧ xs.length ≤ 1000 then .ok (.tup (List.replicate n.toNat xs).flatten) S else .bad
  | _, _ => .bad
theorem op_oMul2 : OpR X (binaryOp .Mult) (RD X.K oMul2) := by
  intro pins s σ H x y v u Q I rx ry ⟨W, ρ, σ', O, S, d, e, st, r1, r2, h⟩
  unfold oMul2 at h
  split at h
  · rename_i xs n
    obtain ⟨⟨c1, c2, c3, c4⟩, h⟩ := After.ite h
    obtain ⟨l, vs, rfl, hl, rs⟩ := r1
    refine op_repT pins s σ H _ _ v u Q I rx ry ⟨l, n, vs, rfl, r2, sqT_of hl, fun z => c1 ?_, c2, c3, by rw [← rs.length]; exact c4, fun t ht => ?_⟩
    · cases xs with
      | nil => rfl
      | cons _ _ => obtain ⟨_, _, q, _⟩ := rs; rw [z] at q; cases q
    · obtain ⟨e2, st2⟩ := st.new (o := .tup (List.replicate n.toNat vs).flatten) ht
      exact h O _ _ e2 st2 ⟨t, _, rfl, .inl upd_same, (rs.mono (e2.w st.wf)).rep _⟩
  · exact h.elim
/-! ### lists that change: a sum -/
def lstAt (S : Sto) : D → Option (List D)
  | .lst ds => some ds
  | .own k => match S[k]? with
    | some (.lst ds) => some ds
    | _ => none
  | _ => none
theorem lstAt_rep {K : PySem.W.Frag} {O : Ow} {H : Hp} {ρ : DE.Env} {σ : L2.St} {S : Sto} {d : D} {v : V} {ds : List D} (st : Stt K O H ρ σ S) (e : lstAt S d = some ds) (r : Rep K O H d v) : ∃ p xs, v = .ref p ∧ H p = some (.lst xs) ∧ Reps K O H ds xs := by
  cases d <;> simp only [lstAt] at e <;> try cases e
  case lst => obtain ⟨p, xs, rfl, _, h, q⟩ := r; exact ⟨p, xs, rfl, h, q⟩
  case own k =>
    obtain ⟨p, h, rfl⟩ := r
    split at e
    · rename_i ds' hk
      cases e
      obtain ⟨xs, h1, q⟩ := st.wf.cell k p _ h hk
      exact ⟨p, xs, rfl, h1, q⟩
    · cases e
def oAddL (d e : D) (S : Sto) : RE D := match lstAt S d, lstAt S e with
  | some xs, some ys => if xs.length + ys.length ≤ cap then .ok (.lst (xs ++ ys)) S else .bad
  | _, _ => .bad
def oAddO (d e : D) (S : Sto) : RE D := match lstAt S d, lstAt S e with
  | some xs, some ys => if xs.length + ys.length ≤ cap then .ok (.own S.length) (S ++ [.lst (xs ++ ys)]) else .bad
  | _, _ => .bad
theorem op_oAddL : OpR X (binaryOp .Add) (RD X.K oAddL) := by
  intro pins s σ H x y v u Q I rx ry ⟨W, ρ, σ', O, S, d, e, st, r1, r2, h⟩
  unfold oAddL at h
  split at h
  · rename_i xs ys q1 q2
    obtain ⟨hc, h⟩ := After.ite h
    obtain ⟨a, vs, rfl, h1, s1⟩ := lstAt_rep st q1 r1
    obtain ⟨b, us, rfl, h2, s2⟩ := lstAt_rep st q2 r2
    refine op_cat pins s σ H _ _ v u Q I rx ry ⟨a, b, vs, us, rfl, rfl, h1, h2, by rw [← s1.length, ← s2.length]; exact cap_line hc, fun t ht => ?_⟩
    obtain ⟨e2, st2⟩ := st.new (o := .lst (vs ++ us)) ht
    exact h O _ _ e2 st2 ⟨t, _, rfl, st.no ht, upd_same, (s1.mono (e2.w st.wf)).append (s2.mono (e2.w st.wf))⟩
  · exact h.elim
theorem op_oAddO : OpR X (binaryOp .Add) (RD X.K oAddO) := by
  intro pins s σ H x y v u Q I rx ry ⟨W, ρ, σ', O, S, d, e, st, r1, r2, h⟩
  unfold oAddO at h
  split at h
  · rename_i xs ys q1 q2
    obtain ⟨hc, h⟩ := After.ite h
    obtain ⟨a, vs, rfl, h1, s1⟩ := lstAt_rep st q1 r1
    obtain ⟨b, us, rfl, h2, s2⟩ := lstAt_rep st q2 r2
    refine op_cat pins s σ H _ _ v u Q I rx ry ⟨a, b, vs, us, rfl, rfl, h1, h2, by rw [← s1.length, ← s2.length]; exact cap_line hc, fun t ht => ?_⟩
    obtain ⟨e2, st2⟩ := st.newO (o := .lst (vs ++ us)) (d := .lst (xs ++ ys)) ht fun ex => ⟨vs ++ us, upd_same, (s1.mono (ex.w st.wf)).append (s2.mono (ex.w st.wf))⟩
    exact h _ _ _ e2 st2 ⟨t, by rw [st.wf.len]; exact getElem?_snoc _ _, rfl⟩
  · exact h.elim
/-! ### a tuple of the module's -/
def dvD : He.Dv → D
  | .non => .non
  | .bl b => .bl b
  | .int i => .int i
  | .str x => .str x
  | .ty n => .ty n
  | .glo x => .glo x
  | _ => .own 0
def dvOk : He.Dv → Bool
  | .non => true | .bl _ => true | .int _ => true | .str _ => true | .ty _ => true | .glo _ => true
  | _ => false
theorem dv_rep {K : PySem.W.Frag} {O : Ow} {H : Hp} : ∀ {vs : List He.Dv}, vs.all dvOk = true → Reps K O H (vs.map dvD) (vs.map (He.Dv.v K))
  | [], _ => rfl
  | v :: r, h => by
    rw [List.all_cons, Bool.and_eq_true] at h
    refine ⟨_, _, rfl, ?_, dv_rep h.2⟩
    cases v <;> first | rfl | exact absurd (show false = true from h.1) (by decide)
theorem de_gtup {x : Str} {vs : List He.Dv} (hg : Gl X x) (hm : X.mg x = some (.ref (He.ga X.K x))) (ht : He.tupB X.K x vs = true) (ho : vs.all dvOk = true := by decide) (hdb : (x == ("__debug__" : Str)) = false := by decide) : DE X W (.Name x pos) (dC (.tup (vs.map dvD))) :=
  ⟨⟨fun pins s σ H Q I ⟨O, ρ, S, st, h⟩ => ld_glob I hg hm ⟨.ref _, H, I, rfl, After.ok h st ⟨_, _, rfl, .inr (He.tupB_ok ht _), dv_rep ho⟩⟩ hdb⟩⟩
/-! ### name op= e -/
def sAug (i : Nat) (g : ME) : MS := fun ρ S => match ρ[i]? with
  | some (some (.int a)) => (g ρ S).stm ρ fun e S1 => match e with
    | .int b => .nx (ρ.set i (some (.int (a + b)))) S1
    | _ => .bad
  | _ => .bad
theorem ds_aug (i : Nat) {x : Str} (hN : X.N.Nodup) (hi : X.N[i]? = some x) (hx : Loc X.env.scope x) (he : DE X W e f) (hf : X.fn x = true ∨ X.env.scope.names.lookup x = some .local := by first | exact .inl rfl | exact .inr rfl | assumption) : DS X W (.AugAssign (.Name x pos') .Add e pos) (sAug i f) :=
  ⟨PS.imp (ps_aug hN hi hx he.pe ip_add hf) fun D' σ H ⟨O, ρ, S, st, h⟩ => by
    unfold sAug at h
    split at h
    · rename_i a q
      obtain ⟨v, hv, r0⟩ := st.env.get q
      refine ⟨v, hv, O, ρ, S, st, AfterS.seqE h fun d S1 O1 H1 u e1 st1 r1 h1 => ?_⟩
      cases d <;> try exact h1.elim
      rename_i b
      exact ⟨a, b, r0, r1, h1 O1 H1 _ .refl ⟨st1.wf, st1.env.set (d := .int (a + b)) (v := .int (a + b)) rfl i⟩⟩
    · exact h.elim⟩
/-! ### a, b = x, y with plain names -/
def sPar (i j : Nat) (fa : MA) : MS := fun ρ S => (fa ρ S).stm ρ fun ds S1 => match ds with
  | [d, e] => .nx ((ρ.set i (some d)).set j (some e)) S1
  | _ => .bad
theorem ds_par (i j : Nat) {x y : Str} {b : Expr} {fa : MA} {px py pt : Pos} {kt k2 pt2} (hc : X.calm = true) (hN : X.N.Nodup) (ha : DA X W [a, b] fa) (hi : X.N[i]? = some x := by rfl) (hj : X.N[j]? = some y := by rfl) (hij : i ≠ j := by decide)
    (hx : X.env.scope.names.lookup x = some .local := by rfl) (hy : X.env.scope.names.lookup y = some .local := by rfl)
    (hw : swappedStores [.Tuple [.Name x px, .Name y py] kt pt] (.Tuple [a, b] k2 pt2) X.env = pure (some [x, y]) := by rfl)
    (hs : swapsWithSole [.Tuple [.Name x px, .Name y py] kt pt] (.Tuple [a, b] k2 pt2) pos.line X.env = pure false := by rfl) :
    DS X W (.Assign [.Tuple [.Name x px, .Name y py] kt pt] (.Tuple [a, b] k2 pt2) pos) (sPar i j fa) :=
  ⟨PS.imp (ps_par hc hN hi hj hij hx hy ha.pa hw hs) fun D' σ H ⟨O, ρ, S, st, h⟩ => ⟨O, ρ, S, st, AfterS.seqE h fun ds S1 O1 H1 vs e1 st1 r1 h1 => by
    rcases ds with _ | ⟨d, _ | ⟨e, _ | ⟨_, _⟩⟩⟩
    · exact h1.elim
    · exact h1.elim
    · obtain ⟨v, u, rfl, q1, q2⟩ := r1.two
      exact ⟨v, u, rfl, h1 O1 H1 _ .refl ⟨st1.wf, (st1.env.set q1 i).set q2 j⟩⟩
    · exact h1.elim⟩⟩
/-- nothing is told -/
theorem dss_bad {ss : List Stmt} : DSs X W ss (fun _ _ => .bad) := ⟨⟨fun pins s σ H D' I ⟨O, ρ, S, st, h⟩ => h.elim⟩⟩
/-! ### a, b = a tuple or a list -/
def gTL (n : Nat) (g : MGs) : MG := fun d ρ => match d with
  | .tup ds => if ds.length = n then g ds ρ else none
  | .lst ds => if ds.length = n then g ds ρ else none
  | _ => none
theorem dg_tl {es : List Expr} {k : Nat} {is : List Nat} {g1 : MGs} {n : Nat} (hc : X.calm = true) (h : DGs X es is g1)
    (hn : (assignEach es X.env).length = n := by rfl) (hst : (assignEach es X.env).findIdx? (·.1) = none := by rfl) : DG X (.Tuple es k pos) is (gTL n g1) :=
  ⟨⟨fun pins s σ H v u Q I rv ⟨O, ρ, S, d, ρ', st, r, e, kk⟩ => by
    cases d <;> try cases e
    case tup ds =>
      obtain ⟨a, xs, rfl, h1, h2⟩ := r
      have e' : (if ds.length = n then g1 ds ρ else none) = some ρ' := e
      by_cases hl : ds.length = n
      · rw [if_pos hl] at e'
        exact (pg_tup hc h.pgs hn hst).run pins s σ H _ u Q I rv ⟨a, xs, rfl, sqT_of h1, h2.length ▸ hl, O, ρ, S, ds, ρ', st, h2, e', kk⟩
      · rw [if_neg hl] at e'; cases e'
    case lst ds =>
      obtain ⟨a, xs, rfl, _, h1, h2⟩ := r
      have e' : (if ds.length = n then g1 ds ρ else none) = some ρ' := e
      by_cases hl : ds.length = n
      · rw [if_pos hl] at e'
        exact (pg_unl hc h.pgs hn hst).run pins s σ H _ u Q I rv ⟨a, xs, rfl, SqL.of h1, h2.length ▸ hl, O, ρ, S, ds, ρ', st, h2, e', kk⟩
      · rw [if_neg hl] at e'; cases e'⟩⟩
end
end DE

set_option maxHeartbeats 4000000
namespace DE
open PySem PySem.Spec PyProof.Rows L2
/-! ### defs that are promised only where no repr is under way -/
structure FnGd (P : Program) (w : World) (K : PySem.W.Frag) (mg : Str → Option Value) (base : Heap) (k : Nat) (f : Addr) (fd : FuncData) (ps : List Str) (sp : Sp) : Prop where
  len : ∀ vs H Q E, sp vs H Q E → vs.length = ps.length
  run : ∀ (A : Around) (outer : List PySem.Env) (s : Shared) (H : Hp) (args : Args) (us : List Value) (vs : List V) (Q : VK) (E : XK), Room k A → A.guards = some [] → Env0 P w K mg base A outer s H → BindsTo s fd args (ps.zip us) → Vals vs us → sp vs H Q E →
    codeAny (model P w) A (.call (.ref f) args) (CR (L2.CX P w) outer P w H s Q E) s
section
variable {P : Program} {w : World} {K : PySem.W.Frag} {mg : Str → Option Value} {base : Heap} {k : Nat} {f : Addr} {fd : FuncData} {x qual : Str} {params : Arguments} {body : List Stmt} {scope : Scope} {dvs : List V} {kws : List (Str × V)} {N ps : List Str} {sp : Sp} {B : MS}
theorem FnGd.of (F : FunD K x qual params body scope dvs kws f fd) (S : FnScope N ps scope) (len : ∀ vs H Q E, sp vs H Q E → vs.length = ps.length)
    (go : ∀ (cdv : Value) (A : Around) (outer : List PySem.Env) (s : Shared) (H : Hp) (vs : List V) (Q : VK) (E : XK), Room k (A.deeper (envOfC qual scope s.heap.objs.size f cdv)) → A.guards = some [] → sp vs H Q E →
      ∃ t, PSs (XOf P w K mg base N qual scope f cdv A outer s H E) body t ∧ t { nx := fun _ H' => Q .non H', rt := Q } (start N vs) H) : FnGd P w K mg base (k + 1) f fd ps sp := by
  obtain ⟨oc, od, dV, kV, doc, pm, an, cdv, ct, osl, rfl, lk, hcd, _, _⟩ := F.ex
  refine ⟨len, fun A outer s H args us vs Q E room gd e0 bnd rel hs => ?_⟩
  have inK : K.In s.heap := e0.mod.kin.keeps (fun b o z => (e0.bs b o z).1)
  have locals_ : ∀ y ∈ ps.zip us, scope.names.lookup y.1 = some .local ∨ (scope.names.lookup y.1 = some .cell ∧ ((cellsFrom (s.heap.objs.size + 1) scope.names []).lookup y.1).isSome = true) := by
    rintro ⟨n, v⟩ hy
    exact (S.par n (List.of_mem_zip hy).1).imp id fun z => ⟨z, PySem.W.cellsFrom_some _ _ _ (.inl z)⟩
  refine codeAny_call_function room.depth (inK _ _ lk) rfl S.co S.gen rfl (PySem.W.codeRec_of inK hcd) (bnd _ _ _ _ (wpAny_newFunctionEnv_cells S.kind locals_ fun env ev s1 ic => ?_))
  subst ev
  obtain ⟨t, run, hq⟩ := go cdv A outer s H vs Q E (room.deeper _) gd hs
  have J : Inv (XOf P w K mg base N qual scope f cdv A outer s H E) [] (start N vs) H s1 := inv_start S room.hd e0 (len _ _ _ _ hs) rel ic
  have out : ∀ {σ' : L2.St} {H' : Hp} {v : V} {u : Value} {s' : Shared}, Inv (XOf P w K mg base N qual scope f cdv A outer s H E) [] σ' H' s' → RelV v u → Q v H' → CE outer P w H s Q u s' :=
    fun I' r q => ⟨_, _, I'.os, I'.bare, I'.base, I'.hok, r, q⟩
  refine ⟨e0.mod.nolimit.keeps (fun b o z => ic.toInCall.keep b o (e0.bs b o z).1), codeAny_func (wpAny_mono (run.run [] s1 (start N vs) H _ J hq) (fun fl s' z => ?_) fun _ _ z => z)⟩
  rcases fl with _ | _ | _ | u
  all_goals first
    | exact (let ⟨v, σ', H', I', r, q⟩ := z; out I' r q)
    | exact (let ⟨σ', H', I', q⟩ := z; out (v := .non) (u := .none) I' rfl q)
    | exact (let ⟨_, _, _, q⟩ := z; q.elim)
theorem fn_dataG (F : FunD K x qual params body scope dvs kws f fd) (S : FnScope N ps scope)
    (go : ∀ (cdv : Value) (A : Around) (outer : List PySem.Env) (s : Shared) (H : Hp) (E : XK), Room k (A.deeper (envOfC qual scope s.heap.objs.size f cdv)) → A.guards = some [] → DSs (XOf P w K mg base N qual scope f cdv A outer s H E) (WD E) body B) :
    FnGd P w K mg base (k + 1) f fd ps (spD K ps.length (fnD N.length B)) := by
  refine .of F S (fun vs H Q E ⟨O, S', ds, _, r, hl, _⟩ => by rw [← r.length]; exact hl) (fun cdv A outer s H vs Q E hr gd ⟨O, S', ds, wf, r, hl, h⟩ => ?_)
  refine ⟨_, (go cdv A outer s H E hr gd).pss, O, _, S', ⟨wf, by rw [L2.start, ← r.length]; exact (REnv.of r).app (N.length - ds.length)⟩, ?_⟩
  unfold fnD at h
  cases q : B (ds.map some ++ List.replicate (N.length - ds.length) none) S' with
  | nx ρ1 S1 => rw [q] at h; exact fun O' H' σ' e st => h O' H' .non e st.wf rfl
  | rt d S1 => rw [q] at h; exact fun O' H' v e st rd => h O' H' v e st rd
  | exc x ρ1 S1 => rw [q] at h; exact fun O' H' σ' cls dx e st rx => h O' H' cls dx e st.wf rx
  | bk _ _ => rw [q] at h; exact h.elim
  | ct _ _ => rw [q] at h; exact h.elim
  | bad => rw [q] at h; exact h.elim
end
section
variable {X : Cx} {W : WX} {x : Str} {p pos : Pos} {e : Expr} {es : List Expr} {k j n : Nat} {f : Addr} {fd : FuncData} {ps : List Str} {sp : Sp} {F : FD} {fa : MA}
/-- a call of such a def -/
theorem run_G {pins : List (Addr × Obj)} {σ : L2.St} {H : Hp} {s : Shared} {Q : VK} {E : L2.St → XK} {us : List Value} {vs : List V} (G : FnGd X.prog X.w X.K X.mg X.base k f fd ps sp) (room : Room k X.A) (gd : X.A.guards = some []) (bnd : Binds X.K fd ps []) (px : PassesAt (L2.CX X.prog X.w) X σ (E σ))
    (I : Inv X pins σ H s) (rel : Vals vs us) (h : sp vs H Q (E σ)) : wpAny (model X.prog X.w) X.A (call (.ref f) us) (EP X pins σ Q) X.xe s := by
  have hl : (us ++ []).length = ps.length := by rw [List.append_nil, ← rel.length]; exact G.len _ _ _ _ h
  have b := bnd s us I.kIn hl
  rw [List.append_nil] at b
  refine wpAny_call (codeAny_mono (G.run X.A X.stack s H ⟨us, []⟩ us vs Q (E σ) room gd I.env0 b rel h) ?_)
  rintro (er | fl) s' z
  · exact px pins H s er s' I z
  · rcases fl with _ | _ | _ | u
    all_goals first
      | exact I.after z
      | exact z.elim
theorem de_callG (G : FnGd X.prog X.w X.K X.mg X.base k f fd ps (spD X.K n F)) (room : Room k X.A) (gd : X.A.guards = some []) (hg : Gl X x) (hm : X.mg x = some (.ref f)) (hk : PySem.W.keepIn X.K (.ref f) = true) (bnd : Binds X.K fd ps []) (tk : Takes X W) (ha : DA X W (e :: es) fa)
    (hdb : (x == ("__debug__" : Str)) = false := by decide) (he : starEach (e :: es) X.env = (false, eval e X.env) :: starEach es X.env := by rfl) (hpl : (backTo pos (starEach es X.env)).any (·.1) = false := by rfl) : DE X W (.Call (.Name x p) (e :: es) [] pos) (dCall n F [] fa) :=
  ⟨⟨fun pins s σ H Q I h => by
    have h2 : tCallSD (spD X.K n F) [] (WE W) (tA X.K W fa) σ H Q := call_imp (dd := []) (dvs := []) (fun _ _ _ _ q => q) (fun _ _ => rfl) h
    refine wpAny_Call_Name_kw (ld_glob I hg hm ?_ hdb)
    refine PySem.W.callWith_K (h₀ := X.base) I.ok.mod.kin hk (thn (ha.pa.run pos pins s σ H _ I h2) fun us s1 ⟨vs, H1, I1, r, q⟩ => ⟨I1.kIn, ?_⟩) he hpl
    have q : spD X.K n F (vs ++ []) H1 Q (WE W σ) := q
    rw [List.append_nil] at q
    exact run_G G room gd bnd (passAt tk σ) I1 r q⟩⟩
/-- a def by its name, with a promise over data -/
structure FnG (P : Program) (w : World) (K : PySem.W.Frag) (mg : Str → Option Value) (base : Heap) (k : Nat) (x : Str) (n : Nat) (F : FD) : Prop where
  ok : ∃ fd ps, FnGd P w K mg base k (He.ga K x) fd ps (spD K n F) ∧ Binds K fd ps []
  gl : mg x = some (.ref (He.ga K x))
  kp : PySem.W.keepIn K (.ref (He.ga K x)) = true
theorem de_fnG (G : FnG X.prog X.w X.K X.mg X.base k x n F) (hr : Room j X.A) (gd : X.A.guards = some []) (hg : Gl X x) (tk : Takes X W) (ha : DA X W (e :: es) fa) (hk : k ≤ j := by decide) (hdb : (x == ("__debug__" : Str)) = false := by decide)
    (he : starEach (e :: es) X.env = (false, eval e X.env) :: starEach es X.env := by rfl) (hpl : (backTo pos (starEach es X.env)).any (·.1) = false := by rfl) : DE X W (.Call (.Name x p) (e :: es) [] pos) (dCall n F [] fa) := by
  obtain ⟨fd, ps, h1, h2⟩ := G.ok
  exact de_callG h1 (hr.mono hk) gd hg G.gl G.kp h2 tk ha hdb he hpl
end
/-! ### the head -/
/-- what is tracked at the head: the script, if it is none of the module's own objects -/
def H0 (K : PySem.W.Frag) (a : Addr) (o : Obj) (ns : List Int) : Hp := fun b => if b = a ∧ K.lookup a = none then some (.frz o (.lst (ns.map V.int))) else none
theorem H0_some {K : PySem.W.Frag} {a b : Addr} {o : Obj} {ns : List Int} {u : HO} (h : H0 K a o ns b = some u) : b = a ∧ K.lookup a = none ∧ u = .frz o (.lst (ns.map V.int)) := by
  unfold H0 at h
  by_cases c : b = a ∧ K.lookup a = none
  · rw [if_pos c] at h; exact ⟨c.1, c.2, (Option.some.inj h).symm⟩
  · rw [if_neg c] at h; cases h
theorem law_callG {P : Program} {w : World} {K : PySem.W.Frag} {mg mb : Str → Option Value} {k : Nat} {fa a : Addr} {fd : FuncData} {x : Str} {sp : Sp} {s : Shared} {vs : List Value} {ns : List Int} (KX : K.In s.heap) (hns : s.heap.Ns mainGlobals mg) (hb : s.heap.Ns builtinsNs mb)
    (hbb : ∀ x : Str, x ≠ "__name__" → mb x = bootBuiltins x) (lim : s.heap.NoLimit) (hg : s.gens = #[]) (ha : s.heap.get? a = some { cls := .type "list", data := .seq vs.toArray }) (hi : IntsAre vs ns) (hl : ns.length ≤ sizeLine) (hr : Room k callerA)
    (F : ∀ base : Heap, K.In base → base.Ns mainGlobals mg → FnGd P w K mg base k fa fd [x] sp) (hbind : ∀ (s : Shared) (u : Value), BindsTo s fd ⟨[u], []⟩ [(x, u)]) (hsp : ∀ H : Hp, SqL K H a (ns.map V.int) → sp [.ref a] H (fun v _ => v = .bl true) fun _ _ _ => False) :
    codeAny (model P w) callerA (.call (.ref fa) ⟨[.ref a], []⟩) (fun r s' => r = .ok (.ret (.bool true)) ∧ OldK s.heap s'.heap ∧ s'.os = s.os ∧ AllBare s'.gens) s := by
  have rv := vals_ints hi
  have lv : vs.length = ns.length := hi.length
  generalize hH : H0 K a { cls := .type "list", data := .seq vs.toArray } ns = H
  have only : ∀ {b u}, H b = some u → b = a ∧ K.lookup a = none ∧ u = .frz { cls := .type "list", data := .seq vs.toArray } (.lst (ns.map V.int)) := fun {b u} z => H0_some (hH ▸ z)
  have sq : SqL K H a (ns.map V.int) := by
    cases q : K.lookup a with
    | none => exact .inl (.inr ⟨_, by rw [← hH]; exact if_pos ⟨rfl, q⟩⟩)
    | some o =>
      have e := (KX a o q).symm.trans ha
      cases e
      exact .inr ⟨_, vs.toArray, _, q, rfl, rfl, rfl, by rw [List.size_toArray, lv]; exact hl, by simpa using rv⟩
  have hok : HOk P w H s.heap := fun b u z => by
    obtain ⟨rfl, _, rfl⟩ := only z
    exact ⟨ha, by rw [List.length_map]; exact hl, vs, _, rv, ha⟩
  have dictN : ∀ {b : Addr} {o : Obj} {es : Array DictEntry} {ep : Nat}, s.heap.get? b = some o → o.data = .dict es ep → H b = none := fun {b o es ep} z d => by
    cases q : H b with
    | none => rfl
    | some u =>
      obtain ⟨rfl, _, _⟩ := only q
      rw [ha] at z
      cases z
      exact absurd (show Data.seq vs.toArray _ = Data.dict es ep from d) (fun z => nomatch z)
  have ns' : ∀ {b : Addr} {m : Str → Option Value}, s.heap.Ns b m → (hidT s.heap H).Ns b m := fun {b m} ⟨o, es, ep, z, d, r⟩ => ⟨o, es, ep, hidT_get z (dictN z d), d, r⟩
  have KB : K.In (hidT s.heap H) := fun b o z => hidT_get (KX b o z) (by
    cases q : H b with
    | none => rfl
    | some u =>
      obtain ⟨rfl, q2, _⟩ := only q
      rw [q2] at z; cases z)
  have M : Mod K mg (hidT s.heap H) := by
    obtain ⟨mc, l1, l2⟩ := lim
    exact ⟨KB, ns' hns, ⟨mb, ns' hb, hbb⟩, mc, ns' l1, l2⟩
  have e0 : Env0 P w K mg (hidT s.heap H) callerA [] s H := ⟨rfl, M, fun b o z => of_hidT z, Nat.le_of_eq (hidT_size _ _), trivial, fun b z => absurd (show b ∈ ([] : List Addr) from z) (by simp), hok, .of_eq hg⟩
  refine codeAny_mono ((F _ KB (ns' hns)).run callerA [] s H ⟨[.ref a], []⟩ [.ref a] [.ref a] _ _ hr rfl e0 (hbind s (.ref a)) (.cons rfl .nil) (hsp H sq)) ?_
  rintro (er | fl) s' z
  · exact (CXA.no ⟨P, w, z⟩).elim
  · rcases fl with _ | _ | _ | u
    all_goals first
      | exact z.elim
      | skip
    obtain ⟨v, H', os, bare, un, hok', r', q⟩ := z
    obtain rfl : v = .bl true := q
    obtain rfl : u = Value.bool true := r'
    refine ⟨rfl, OldK.of_keep fun b o z => ?_, os, bare⟩
    cases q : H b with
    | none => exact un.keep b o z q (fun y => absurd (show b ∈ ([] : List Addr) from y) (by simp)) (by simp)
    | some u =>
      obtain ⟨rfl, _, rfl⟩ := only q
      obtain ⟨e2, _⟩ := hok' b _ (un.frzs b _ _ q)
      rw [ha] at z
      cases z
      exact e2
end DE

set_option maxHeartbeats 4000000
namespace DE
open PySem PySem.Spec PyProof.Rows L2
theorem walk_G {l : PySem.W.OpenLaw} {n k : Nat} {q : Program} {loose : List Str} {XP : (Str → Option Value) → Heap → Prop} {YP : World → Heap → Prop} {d : DefRec} {x : Str} (hn : l.most = some n) (hn2 : n ≤ sizeLine) (hdf : d.params.defaults = []) (hr : Room k callerA)
    (F : ∀ (w : World) (mg : Str → Option Value) (fa : Addr) (h : Heap), YP w h → h.Ns mainGlobals mg → mg d.name = some (.ref fa) → ∃ (K : PySem.W.Frag) (fd : FuncData) (sp : Sp), K.In h ∧ (∀ (s : Shared) (u : Value), BindsTo s fd ⟨[u], []⟩ [(x, u)]) ∧
      (∀ (H : Hp) (a : Addr) (ns : List Int), ns.length ≤ n → SqL K H a (ns.map V.int) → sp [.ref a] H (fun v _ => v = .bl true) fun _ _ _ => False) ∧ ∀ base : Heap, K.In base → base.Ns mainGlobals mg → FnGd l.prog w K mg base k fa fd [x] sp) :
    PySem.W.WalkO q loose XP YP l.row.toRowW d [] (fun f vs => PySem.call f vs) :=
  Att.attach_call hn hdf fun w s0 s1 mg mb fa o pm cd doc a vs ns G Y ho hd hcd hmg hobj hints hlen hg => by
    obtain ⟨K, fd, sp, KX, hb, hsp, hF⟩ := F w mg fa _ Y G.T.g hmg
    exact law_callG KX G.T.g G.T.b G.T.builtins G.T.nolimit hg hobj hints (Nat.le_trans hlen hn2) hr hF hb fun H hS => hsp H a ns hlen hS
/-! ### repr -/
def reprOf (p : PyData) : Option Str := if p.showable = true ∧ p.depth ≤ 60 ∧ p.shown.length ≤ cap then some p.shown else none
def oRepr : FD := fun ds S => match ds with
  | [.dK []] => .ok (.str (Str.ofString "{}")) S
  | [d] => (match (toPy d).bind reprOf with
    | some x => .ok (.str x) S
    | none => .bad)
  | _ => .bad
mutual
theorem toPy_nd : ∀ {d : D} {p : PyData}, toPy d = some p → p.hasDict = false
  | .non, _, e => by cases e; rfl
  | .bl _, _, e => by cases e; rfl
  | .int _, _, e => by cases e; rfl
  | .str _, _, e => by cases e; rfl
  | .tup ds, _, e => by
    simp only [toPy] at e
    cases q : toPys ds with
    | none => rw [q] at e; cases e
    | some ps => rw [q] at e; cases e; simpa only [PyData.hasDict] using toPys_nd q
  | .lst ds, _, e => by
    simp only [toPy] at e
    cases q : toPys ds with
    | none => rw [q] at e; cases e
    | some ps => rw [q] at e; cases e; simpa only [PyData.hasDict] using toPys_nd q
  | .ty _, _, e => by cases e
  | .glo _, _, e => by cases e
  | .scr _, _, e => by cases e
  | .dK _, _, e => by cases e
  | .dT _, _, e => by cases e
  | .obj _ _, _, e => by cases e
  | .own _, _, e => by cases e
  | .xcp _ _ _, _, e => by cases e
  | .exo _ _, _, e => by cases e
theorem toPys_nd : ∀ {ds : List D} {ps : List PyData}, toPys ds = some ps → PyData.hasDictAll ps = false
  | [], _, e => by cases e; rfl
  | d :: ds, _, e => by
    simp only [toPys] at e
    cases q : toPy d with
    | none => rw [q] at e; cases e
    | some p =>
      cases q2 : toPys ds with
      | none => rw [q, q2] at e; cases e
      | some ps => rw [q, q2] at e; cases e; simp [PyData.hasDictAll, toPy_nd q, toPys_nd q2]
end
section
variable {X : Cx}
theorem c_oRepr (gd : X.A.guards = some []) (hu : X.A.units + 64 < cLine) : CallR X (.builtin "repr") (RC X.K oRepr) := by
  intro pins s σ H vs us Q I rv ⟨W, ρ, σ', O, S, ds, st, r, h⟩
  unfold oRepr at h
  split at h
  · obtain ⟨v, rfl, r1⟩ := r.one
    obtain ⟨a, vs', rfl, _, hd, hk⟩ := r1
    cases hk
    cases rv with
    | cons ru rr =>
      cases rr
      cases ru
      obtain ⟨_, ns, kv, kvr, o, es, ep, ho, hex, hdt, _, hp, _⟩ := dk_rd I.hok hd
      cases kvr
      obtain ⟨es⟩ := es
      cases es with
      | cons _ _ => cases hp
      | nil =>
        have rd : Reads s.heap (.ref a) (.dict []) (a :: [] ++ []) := Reads.dict ho hex.1 hdt .nil .nil
        have ne : sysModules ∉ (a :: [] ++ [] : List Addr) := fun z => by
          have := List.mem_singleton.mp (show sysModules ∈ [a] from z)
          rw [this] at ns
          simp at ns
        have sh : (PyData.dict []).shown = Str.ofString "{}" := by decide +kernel
        refine repr_of_reads' rd rfl (fun _ => ne) gd (by have : (PyData.dict []).depth = 1 := rfl; omega) (fun _ _ z => z) (fun h2 u2 tk k2 => ⟨.str _, H, I.kept (t' := tk) k2, ⟨_, rfl⟩, ?_⟩) (by decide +kernel)
        rw [sh]
        exact After.ok h st rfl
  · rename_i d _
    obtain ⟨v, rfl, r1⟩ := r.one
    cases e : toPy d with
    | none => rw [e] at h; exact h.elim
    | some p =>
      rw [e] at h
      have h' : After X.K W (Rep X.K) ρ σ' O H Q (match reprOf p with | some x => .ok (.str x) S | none => .bad) := h
      unfold reprOf at h'
      by_cases c : p.showable = true ∧ p.depth ≤ 60 ∧ p.shown.length ≤ cap
      · rw [if_pos c] at h'
        obtain ⟨c1, c2, c3⟩ := c
        have dp := dp_of e r1
        cases rv with
        | cons ru rr =>
          cases rr
          rename_i u
          have fin : ∀ (tk : Tok), RelV (.str p.shown) (.str p.shown tk) := fun tk => ⟨tk, rfl⟩
          obtain ⟨as, rd⟩ := Dp.reads I p v u dp ru
          have nd : p.hasDict = false := toPy_nd e
          have ref : isDisplay p = true → ∃ a, u = .ref a := isRef_of_reads rd
          cases hp : p with
          | none => subst hp; cases rd; exact PySem.P.repr_of_none ⟨.str _, H, I.tok _, ⟨_, rfl⟩, After.ok h' st rfl⟩
          | bool b => subst hp; cases rd; exact PySem.P.repr_of_bool ⟨.str _, H, I.tok _, ⟨_, rfl⟩, After.ok h' st rfl⟩
          | int i =>
            subst hp
            cases rd
            exact PySem.P.repr_of_int (by simpa [PyData.showable] using c1) ⟨.str _, H, I.tok _, ⟨_, rfl⟩, After.ok h' st rfl⟩
          | str x =>
            subst hp
            cases rd
            exact PySem.P.repr_of_str ⟨.str _, H, I.tok _, ⟨_, rfl⟩, After.ok h' st rfl⟩ (cap_line c3)
          | list xs =>
            subst hp
            obtain ⟨a, rfl⟩ := ref rfl
            exact repr_of_reads' rd c1 (PyData.noDict_hsm nd) gd (by omega) (fun _ _ z => z) (fun h2 u2 tk k2 => ⟨.str _, H, I.kept (t' := tk) k2, ⟨_, rfl⟩, After.ok h' st rfl⟩) (cap_line c3)
          | tuple xs =>
            subst hp
            obtain ⟨a, rfl⟩ := ref rfl
            exact repr_of_reads' rd c1 (PyData.noDict_hsm nd) gd (by omega) (fun _ _ z => z) (fun h2 u2 tk k2 => ⟨.str _, H, I.kept (t' := tk) k2, ⟨_, rfl⟩, After.ok h' st rfl⟩) (cap_line c3)
          | dict kvs => subst hp; cases dp
      · rw [if_neg c] at h'; exact h'.elim
  · exact h.elim
end
end DE

set_option maxHeartbeats 4000000
namespace DE
open PySem PySem.Spec PyProof.Rows L2
/-- who is an instance of what: tables of names, of built-in types -/
def ktD (c : Str) (tg : List ((Str × Str) × Bool)) (tt : List ((Str × String) × Bool)) : D → Option Bool
  | .glo x => tg.lookup (c, x)
  | .ty n => tt.lookup (c, n)
  | _ => none
theorem ktD_ok {K0 : PySem.W.Frag} {c : Str} {tg : List ((Str × Str) × Bool)} {tt : List ((Str × String) × Bool)} (h1 : xgB tg K0 = true) (h2 : xtB tt K0 = true) : ∀ t b, ktD c tg tt t = some b →
    ∃ cv, (∀ K O H v u, K = K0 → Rep K O H t v → RelV v u → u = cv) ∧ PySem.W.kitOne K0 (.ref (He.ga K0 c)) cv = some b := by
  intro t b h
  cases t <;> simp only [ktD] at h <;> try cases h
  case glo x =>
    refine ⟨.ref (He.ga K0 x), fun K O H v u e r ru => ?_, xgB_ok h1 h⟩
    subst e
    cases (show v = _ from r)
    exact ru
  case ty n =>
    refine ⟨.type n, fun K O H v u e r ru => ?_, xtB_ok h2 h⟩
    cases (show v = _ from r)
    exact ru
/-- just c is caught -/
def cl1 (c : Str) : Str → Option Bool := fun d => if d = c then some true else none
theorem cl1_eq {c d : Str} {b : Bool} (h : cl1 c d = some b) : d = c ∧ b = true := by
  unfold cl1 at h
  by_cases e : d = c
  · rw [if_pos e] at h; cases h; exact ⟨e, rfl⟩
  · rw [if_neg e] at h; cases h
theorem cl1_ok {K : PySem.W.Frag} {x : Str} (h : PySem.W.exmOne K (.ref (He.ga K x)) (.ref (He.ga K x)) = some true) : ∀ c b, cl1 x c = some b → PySem.W.exmOne K (.ref (He.ga K c)) (.ref (He.ga K x)) = some b := by
  intro c b e
  obtain ⟨rfl, rfl⟩ := cl1_eq e
  exact h
/-! ### for simp -/
@[simp] theorem unset_nx (i : Nat) (ρ : DE.Env) (S : Sto) : RS.unset i (.nx ρ S) = .nx (ρ.set i none) S := id rfl
@[simp] theorem unset_rt (i : Nat) (d : D) (S : Sto) : RS.unset i (.rt d S) = .rt d S := id rfl
@[simp] theorem unset_bad (i : Nat) : RS.unset i .bad = .bad := id rfl
@[simp] theorem unset_exc (i : Nat) (x : Exc) (ρ : DE.Env) (S : Sto) : RS.unset i (.exc x ρ S) = .bad := id rfl
theorem unset_stm {α : Type} {i : Nat} {ρ : DE.Env} {r : RE α} {k : α → Sto → RS} : RS.unset i (r.stm ρ k) = (match r with | .ok a S => RS.unset i (k a S) | _ => .bad) := by
  cases r <;> rfl
theorem set3 {ρ : DE.Env} {i j : Nat} {v d : Option D} (h : i ≠ j) : ((ρ.set i v).set j d).set i none = (ρ.set i none).set j d := by
  rw [List.set_comm _ _ h, List.set_set, List.set_comm _ _ (Ne.symm h)]
theorem getset {ρ : DE.Env} {i : Nat} {v : Option D} : (ρ.set i v)[i]? = if i < ρ.length then some v else none := by
  by_cases h : i < ρ.length
  · rw [if_pos h, List.getElem?_set_self h]
  · rw [if_neg h, List.getElem?_eq_none (by simpa using h)]
end DE

set_option maxHeartbeats 4000000
namespace DE
open PySem PySem.Spec PyProof.Rows L2
/-! ### list.index -/
/-- where the first item stands that is equal to p -/
def firstEq (p : PyData) : List PyData → Option Nat
  | [] => none
  | q :: r => if PyData.eqv q p = true then some 0 else (firstEq p r).map (· + 1)
theorem firstEq_ok {p : PyData} : ∀ {l : List PyData} {j : Nat}, firstEq p l = some j → ∃ z, l[j]? = some z ∧ PyData.eqv z p = true ∧ ∀ (m : Nat) (z' : PyData), m < j → l[m]? = some z' → PyData.eqv z' p = false
  | [], _, h => by cases h
  | q :: r, j, h => by
    unfold firstEq at h
    by_cases c : PyData.eqv q p = true
    · rw [if_pos c] at h
      cases h
      exact ⟨q, rfl, c, fun m _ hm => by omega⟩
    · rw [if_neg c] at h
      cases e : firstEq p r with
      | none => rw [e] at h; cases h
      | some i =>
        rw [e] at h
        cases h
        obtain ⟨z, h1, h2, h3⟩ := firstEq_ok e
        refine ⟨z, by simpa using h1, h2, fun m z' hm hz => ?_⟩
        cases m with
        | zero =>
          simp at hz
          subst hz
          simpa using c
        | succ m => exact h3 m z' (by have q : m + 1 < i + 1 := hm; omega) (by simpa using hz)
def oIndex (d e : D) (S : Sto) : RE D := match d with
  | .lst ds => (match toPys ds, toPy e with
    | some ps, some p => if SeqAt.shaped (.list ps) = true ∧ SeqAt.shaped p = true then (match firstEq p ps with
      | some j => .ok (.int j) S
      | none => .bad) else .bad
    | _, _ => .bad)
  | _ => .bad
/-- d.index(e): the list stands, then the thing -/
def dIndex (f g : ME) : ME := fun ρ S => (f ρ S).bind fun d S1 => match d with
  | .lst _ => (g ρ S1).bind fun e S2 => oIndex d e S2
  | _ => .bad
section
variable {X : Cx} {W : WX} {o e : Expr} {f g : ME} {apos pos : Pos}
theorem de_index (hu : X.A.units + 65 < cLine) (ho : DE X W o f) (he : DE X W e g) (hbase : attributeBase o "index" X.env (eval o X.env) = eval o X.env := by rfl)
    (hfew : ((backTo pos (starEach (e :: []) X.env)).all (fun x => !x.1) && (backToKw pos (keywordEach [] X.env)).all (fun x => x.1.isSome) && decide ((e :: []).length + ([] : List Keyword).length + (if ([] : List Keyword).isEmpty then 0 else 1) < 30)) = true := by rfl)
    (hline : (apos.endLine == pos.line) = true := by rfl) (hs : starEach (e :: []) X.env = (false, eval e X.env) :: starEach [] X.env := by rfl) (hplain : (backTo pos (starEach [] X.env)).any (·.1) = false := by rfl) :
    DE X W (.Call (.Attribute o "index" apos) [e] [] pos) (dIndex f g) :=
  ⟨PE.imp (pe_bm PySem.F.plainAttrs_list PySem.F.slot_list_index PySem.F.type_list_index (mt_indexD hu) ho.pe (pa_cons he.pe pa_nil hs) hbase hfew hline hs hplain) fun σ H Q ⟨O, ρ, S, st, h⟩ => ⟨O, ρ, S, st, After.seq h fun d S1 O1 H1 v e1 st1 r1 h1 => by
    cases d <;> try exact h1.elim
    rename_i ds
    obtain ⟨a, xs, rfl, na, ha, rs⟩ := r1
    refine ⟨.inl ⟨rfl, _, SqL.of ha⟩, O1, ρ, S1, st1, After.seq h1 fun e2 S2 O2 H2 y ex st2 r2 h2 => ?_⟩
    have rl : Rep X.K O2 H2 (.lst ds) (.ref a) := Rep.mono (ex.w st1.wf) (show Rep X.K O1 H1 (.lst ds) (.ref a) from ⟨a, xs, rfl, na, ha, rs⟩)
    have h2 : After X.K W (Rep X.K) ρ σ O2 H2 Q (oIndex (.lst ds) e2 S2) := h2
    unfold oIndex at h2
    simp only at h2
    cases q1 : toPys ds with
    | none => rw [q1] at h2; exact h2.elim
    | some ps =>
      cases q2 : toPy e2 with
      | none => rw [q1, q2] at h2; exact h2.elim
      | some p =>
        rw [q1, q2] at h2
        obtain ⟨⟨s1, s2⟩, h2⟩ := After.ite h2
        cases q3 : firstEq p ps with
        | none => rw [q3] at h2; exact h2.elim
        | some j =>
          rw [q3] at h2
          obtain ⟨z, z1, z2, z3⟩ := firstEq_ok q3
          have dl : Dp X.K H2 (.ref a) (.list ps) := dp_of (d := .lst ds) (by simp only [toPy, q1, Option.map_some]) rl
          exact ⟨a, y, p, ps, j, z, rfl, rfl, dl, dp_of q2 r2, s1, s2, z1, z2, z3, After.ok h2 st2 rfl⟩⟩⟩
end
end DE

set_option maxHeartbeats 4000000
namespace DE
open PySem PySem.Spec PyProof.Rows L2
/-! ### t[::-1], t a tuple -/
theorem filterMap_all {α β : Type} {f : α → Option β} {g : α → β} : ∀ {l : List α}, (∀ x ∈ l, f x = some (g x)) → l.filterMap f = l.map g
  | [], _ => rfl
  | x :: r, h => by
    rw [List.filterMap_cons_some (h x List.mem_cons_self), filterMap_all fun y hy => h y (List.mem_cons_of_mem _ hy), List.map_cons]
theorem rev_pick (xs : Array Value) : (List.range xs.size).filterMap (fun (k : Nat) => xs[(((xs.size : Int) - 1) + (k : Int) * (-1)).toNat]?) = xs.toList.reverse := by
  apply List.ext_getElem?
  intro i
  have e : ∀ k ∈ List.range xs.size, xs[(((xs.size : Int) - 1) + (k : Int) * (-1)).toNat]? = some (xs[xs.size - 1 - k]?.getD .none) := fun k hk => by
    have hk := List.mem_range.mp hk
    have : (((xs.size : Int) - 1) + (k : Int) * (-1)).toNat = xs.size - 1 - k := by omega
    rw [this, Array.getElem?_eq_getElem (by omega)]
    rfl
  rw [filterMap_all e, List.getElem?_map]
  by_cases hi : i < xs.size
  · rw [List.getElem?_range hi, List.getElem?_reverse (by simpa using hi)]
    show some (xs[xs.size - 1 - i]?.getD Value.none) = _
    rw [Array.getElem?_toList, Array.length_toList, Array.getElem?_eq_getElem (show xs.size - 1 - i < xs.size by omega)]
    rfl
  · rw [List.getElem?_eq_none (by simpa using hi), List.getElem?_eq_none (by simpa using hi)]
    rfl
section
variable {prog : Program} {w : World} {A : Around} {E : Value → Shared → Prop} {s : Shared}
theorem applied_rev {sl : Addr} {vl vu vs : Value} {n : Nat} {Q : Int × Int × Nat → Shared → Prop} (hs : s.heap.IsSliceOf sl vl vu vs) (pl : IsPart vl none) (pu : IsPart vu none) (ps : IsPart vs (some (-1)))
    (h : Q ((n : Int) - 1, -1, n) s) : wpAny (model prog w) A (Builtin.Slice.sliceApplied (.ref sl) (pure (n : Int))) Q E s := by
  obtain ⟨o, g, c, d⟩ := id hs
  unfold Builtin.Slice.sliceApplied Builtin.Slice.sliceFields
  refine wpAny_bind (wpAny_bind (wpAny_field g d (x := vl) rfl (wpAny_bind (wpAny_field g d (x := vu) rfl (wpAny_bind (wpAny_field g d (x := vs) rfl (wpAny_pure ?_)))))))
  refine wpAny_bind (HT.slicePart_ ps ?_)
  refine (show wpAny _ _ (if ((-1 : Int) == 0) = true then _ else _) _ _ s from ?_)
  rw [if_neg (by decide)]
  refine wpAny_bind (HT.slicePart_ pl (wpAny_bind (HT.slicePart_ pu (wpAny_bind (wpAny_pure ?_)))))
  have e1 : Builtin.Slice.sliceAdjust none none (-1) (n : Int) = ((n : Int) - 1, -1) := rfl
  have e2 : Builtin.Slice.slicePlaces ((n : Int) - 1) (-1) (-1) = n := by
    unfold Builtin.Slice.slicePlaces
    rw [if_neg (by decide)]
    by_cases z : (n : Int) - 1 > -1
    · rw [if_pos z]
      first
        | (simp; done)
        | (simp; omega)
    · rw [if_neg z]
      first
        | (simp; done)
        | (simp; omega)
  refine (show wpAny _ _ (match Builtin.Slice.sliceAdjust none none (-1) (n : Int) with | (lo, hi) => pure (lo, (-1 : Int), Builtin.Slice.slicePlaces lo hi (-1))) _ _ s from ?_)
  rw [e1]
  refine (show wpAny _ _ (pure ((n : Int) - 1, (-1 : Int), Builtin.Slice.slicePlaces ((n : Int) - 1) (-1) (-1))) _ _ s from ?_)
  rw [e2]
  exact wpAny_pure h
theorem getItem_rev {t sl : Addr} {items : Array Value} {vl vu vs : Value} {Q : Value → Shared → Prop} (ht : IsTup s.heap t items) (hs : s.heap.IsSliceOf sl vl vu vs) (pl : IsPart vl none) (pu : IsPart vu none) (ps : IsPart vs (some (-1)))
    (h : Q (.ref s.heap.objs.size) { s with heap := s.heap.push { cls := .type "tuple", data := .seq items.toList.reverse.toArray } }) (hz : items.size ≤ sizeLine) : wpAny (model prog w) A (getItem (.ref t) (.ref sl)) Q E s := by
  have zo : sizeOk (.seq items.toList.reverse.toArray) := by
    show items.toList.reverse.toArray.size ≤ sizeLine
    simpa using hz
  obtain ⟨o, g, c, d⟩ := id hs
  have ts : s.TypeIs (.ref sl) "slice" := ⟨o, g, c⟩
  unfold getItem
  try with_reducible refine wpAny_holding ?_
  first
    | refine wpAny_bind (wpAny_pure ?_)
    | skip
  refine wpAny_bind (wpAny_sequenceKey ht.typeIs (by decide) (wpAny_bind (wpAny_callSpecial?_slot (name := Str.ofString "__getitem__") ht.typeIs slot_tuple_getitem (wpAny_call_entry slot_tuple_getitem ht.typeIs entry_tuple_getitem ?_ (args_tuple_getitem _ _)))))
  refine (show wpAny _ _ (Builtin.Tuple.tupleItemsOf (.ref t) >>= _) _ _ s from wpAny_bind (tupleItemsOf_ ht (wpAny_bind (wpAny_typeOf ts ?_))))
  rw [if_pos (by decide)]
  refine wpAny_bind (applied_rev (n := items.size) hs pl pu ps ?_)
  have no : ¬ (((items.size : Int) - 1 == 0 && (-1 : Int) == 1 && items.size == items.size) = true) := by simp
  refine (show wpAny _ _ (if ((items.size : Int) - 1 == 0 && (-1 : Int) == 1 && items.size == items.size) = true then _ else _) _ _ s from ?_)
  rw [if_neg no, rev_pick]
  first
    | exact wpAny_bind (m := Builtin.Tuple.tupleExact _) (wpAny_newObj_type (wpAny_pure ⟨_, rfl, wpAny_pure h⟩) zo)
    | exact wpAny_bind (m := Builtin.Tuple.tupleExact _) (wpAny_newObj_type (wpAny_bind (wpAny_pure (wpAny_pure ⟨_, rfl, wpAny_pure h⟩))) zo)
    | exact wpAny_bind (wpAny_bind (m := Builtin.Tuple.tupleExact _) (wpAny_newObj_type (wpAny_pure (wpAny_pure ⟨_, rfl, wpAny_pure h⟩)) zo))
    | exact wpAny_bind (wpAny_bind (m := Builtin.Tuple.tupleExact _) (wpAny_newObj_type (wpAny_pure ⟨_, rfl, wpAny_pure h⟩) zo))
end
/-- the datum turned round -/
def dRev (f : ME) : ME := fun ρ S => (f ρ S).bind fun d S1 => match d with
  | .tup ds => .ok (.tup ds.reverse) S1
  | _ => .bad
theorem vals_rev : ∀ {xs : List V} {us : List Value}, Vals xs us → Vals xs.reverse us.reverse
  | _, _, .nil => .nil
  | _, _, .cons h r => by
    rw [List.reverse_cons, List.reverse_cons]
    exact (vals_rev r).snoc h
theorem Reps.rev {K : PySem.W.Frag} {O : Ow} {H : Hp} : ∀ {ds : List D} {vs : List V}, Reps K O H ds vs → Reps K O H ds.reverse vs.reverse
  | [], _, h => by cases h; exact rfl
  | d :: ds, _, h => by
    obtain ⟨v, r, rfl, h1, h2⟩ := h
    rw [List.reverse_cons, List.reverse_cons]
    exact (Reps.rev h2).append ⟨v, [], rfl, h1, rfl⟩
section
variable {X : Cx} {W : WX} {e : Expr} {f : ME} {k : Option Str} {p1 p2 p3 pos : Pos}
theorem de_rev {k : Nat} (he : DE X W e f) : DE X W (.Subscript e (.Slice none none (some (.UnaryOp .USub (.Constant (.int 1) k p1) p2)) p3) pos) (dRev f) := ⟨⟨fun pins s σ H Q I ⟨O, ρ, S, st, h⟩ => by
  refine Subscript_ (thn (he.pe.run pins s σ H (fun v H1 => ∃ O1 d S1, Stt X.K O1 H1 ρ σ S1 ∧ Rep X.K O1 H1 d v ∧ After X.K W (Rep X.K) ρ σ O1 H1 Q (match d with | .tup ds => .ok (.tup ds.reverse) S1 | _ => .bad)) I ⟨O, ρ, S, st, After.seq h fun d S1 O1 H1 v e1 st1 r1 h1 => ⟨O1, d, S1, st1, r1, h1⟩⟩) fun u s1 ⟨v, H1, I1, rv, O1, d, S1, st1, r1, h1⟩ => ?_)
  cases d <;> try exact h1.elim
  rename_i ds
  obtain ⟨a, xs, rfl, hx, rs⟩ := r1
  cases rv
  have mn : PO X (some (.UnaryOp .USub (.Constant (.int 1) k p1) p2)) (tPart (tUn (rU fun i => .int (-i)) (tC (.int 1)))) := po_some (pe_un un_neg pe_int)
  refine wpAny_Slice (thn (po_none.run pins s1 σ H1 (fun o H2 => o = none ∧ H2 = H1) I1 ⟨rfl, rfl⟩) fun vl s2 ⟨l, H2, I2, pl, el, e2⟩ => ?_)
  subst el e2
  refine thn (po_none.run pins s2 σ H2 (fun o H3 => o = none ∧ H3 = H2) I2 ⟨rfl, rfl⟩) fun vu s3 ⟨u, H3, I3, pu, eu, e3⟩ => ?_
  subst eu e3
  refine thn (mn.run pins s3 σ H3 (fun o H4 => o = some (-1) ∧ H4 = H3) I3 ⟨1, rfl, -1, rfl, rfl, rfl⟩) fun vs s4 ⟨o, H4, I4, ps, eo, e4⟩ => ?_
  subst eo e4
  have I5 : Inv X pins σ H4 { s4 with heap := s4.heap.push { cls := .type "slice", data := .fields #[vl, vu, vs] } } := I4.kept (t' := s4.toks) fun b ob q => Heap.get?_push_of_some _ q
  obtain ⟨its, r, ht, hz⟩ := I5.tuple (sqT_of hx)
  have ln := r.length
  refine (show wpAny (model X.prog X.w) X.A (subscriptTail e (.Slice none none (some (.UnaryOp .USub (.Constant (.int 1) k p1) p2)) p3) (.ref a) (.ref s4.heap.objs.size)) (EP X pins σ Q) X.xe { s4 with heap := s4.heap.push { cls := .type "slice", data := .fields #[vl, vu, vs] } } from ?_)
  refine tail_any (ops := [.ref a, .ref s4.heap.objs.size]) ht.typeIs slot_tuple_getitem.lookup (getItem_rev ht (Heap.IsSliceOf.new _ vl vu vs) pl pu ps ?_ (by rw [List.size_toArray]; omega)) (by with_unfolding_all rfl)
  have hn := I5.hok.fresh (Nat.le_refl _)
  obtain ⟨e6, st6⟩ := st1.new (o := .tup xs.reverse) hn
  refine ⟨.ref _, _, I5.laid (t' := s4.toks) (o := .tup xs.reverse) (fun b ob q => Heap.get?_push_of_some _ q) (Nat.le_refl _) ?_, rfl, h1 O1 _ _ e6 st6 ⟨_, _, rfl, .inl upd_same, (rs.mono (e6.w st1.wf)).rev⟩⟩
  refine ⟨by rw [List.length_reverse]; exact hz, its.reverse, vals_rev r, _, Heap.get?_push_size _ rfl, rfl, 0, rfl⟩⟩⟩
end
/-- the first def of a class statement's suite -/
def clsDef : Stmt → Stmt
  | .ClassDef _ _ _ (d :: _) _ _ _ _ _ _ _ => d
  | s => s
theorem hu0 {j : Nat} {A : Around} (r : Room j A) : A.units + 65 < cLine := by have := r.un; omega
end DE

set_option maxHeartbeats 4000000
namespace DE
open PySem PySem.Spec PyProof.Rows L2
section
variable {X : Cx} {W : WX} {a b c o e : Expr} {f g h : ME} {pos : Pos} {tf : MT} {F : MS} {es : List Expr} {fa : MA}
/-! ### while -/
def whileN (t : MT) (b : MS) : Nat → MS
  | 0 => fun _ _ => .bad
  | n + 1 => fun ρ S => (t ρ S).stm ρ fun c S1 => if c = true then (match b ρ S1 with
    | .nx ρ2 S2 => whileN t b n ρ2 S2
    | .ct ρ2 S2 => whileN t b n ρ2 S2
    | .bk ρ2 S2 => .nx ρ2 S2
    | r => r) else .nx ρ S1
theorem ds_while {body : List Stmt} (n : Nat) (hp : PassesOwn (model X.prog X.w) X.A X.env X.xe) (hc : DT X W c tf) (hb : DSs X W body F) : DS X W (.While c body [] pos) (whileN tf F n) :=
  ⟨PS.imp (ps_while hp hc.pt hb.pss) fun D' σ H ⟨O, ρ, S, st, h⟩ => by
    refine ⟨fun m σ2 H2 => ∃ O2 ρ2 S2, Ext O H O2 H2 ∧ Stt X.K O2 H2 ρ2 σ2 S2 ∧ AfterS X.K W D' O2 H2 (whileN tf F m ρ2 S2), ⟨n, O, ρ, S, .refl, st, h⟩, ?_⟩
    rintro m σ2 H2 ⟨O2, ρ2, S2, e2, st2, h2⟩
    cases m with
    | zero => exact h2.elim
    | succ m =>
      refine ⟨O2, ρ2, S2, st2, AfterS.seqE h2 fun d S3 O3 H3 v e3 st3 r3 h3 => ?_⟩
      subst r3
      cases d with
      | false =>
        rw [if_neg (by simp)] at h3
        rw [if_neg (by simp)]
        exact h3 O3 H3 σ2 .refl st3
      | true =>
        rw [if_pos rfl] at h3
        rw [if_pos rfl]
        refine ⟨fun σ4 H4 => ∃ O4 ρ4 S4, Ext O H O4 H4 ∧ Stt X.K O4 H4 ρ4 σ4 S4 ∧ AfterS X.K W D' O4 H4 (whileN tf F m ρ4 S4), fun σ4 H4 z => ⟨m, Nat.lt_succ_self _, z⟩, O3, ρ2, S3, st3, ?_⟩
        cases q : F ρ2 S3 with
        | nx ρ5 S5 => rw [q] at h3; exact fun O' H5 σ5 e5 st5 => ⟨O', ρ5, S5, (e2.trans e3).trans e5, st5, AfterS.mono h3 e5⟩
        | ct ρ5 S5 => rw [q] at h3; exact fun O' H5 σ5 e5 st5 => ⟨O', ρ5, S5, (e2.trans e3).trans e5, st5, AfterS.mono h3 e5⟩
        | bk ρ5 S5 => rw [q] at h3; exact fun O' H5 σ5 e5 st5 => h3 O' H5 σ5 e5 st5
        | rt d5 S5 => rw [q] at h3; exact h3
        | exc x5 ρ5 S5 => rw [q] at h3; exact h3
        | bad => rw [q] at h3; exact h3⟩
/-! ### methods of texts -/
def MtD (K : PySem.W.Frag) (r : V → List V → Hp → VK → Prop) (op : Str → List D → Sto → RE D) : Prop :=
  ∀ (W : WX) (ρ : DE.Env) (σ : L2.St) (O : Ow) (H : Hp) (S : Sto) (x : Str) (ys : List V) (ds : List D) (Q : VK), Stt K O H ρ σ S → Reps K O H ds ys → After K W (Rep K) ρ σ O H Q (op x ds S) → r (.str x) ys H Q
def dTM (op : Str → List D → Sto → RE D) (f : ME) (fa : MA) : ME := fun ρ S => (f ρ S).bind fun d S1 => match d with
  | .str x => (fa ρ S1).bind fun ds S2 => op x ds S2
  | _ => .bad
theorem de_tm {name : Str} {id : String} {apos cpos : Pos} {r : V → List V → Hp → VK → Prop} {op : Str → List D → Sto → RE D} (slot : Slot "str" name id) (hty : typeOf (.builtin id) = pure (.type "method_descriptor")) (hm : MtR X id r) (hop : MtD X.K r op) (ho : DE X W o f) (ha : DA X W (e :: es) fa)
    (hbase : attributeBase o name X.env (eval o X.env) = eval o X.env := by rfl)
    (hfew : ((backTo cpos (starEach (e :: es) X.env)).all (fun x => !x.1) && (backToKw cpos (keywordEach [] X.env)).all (fun x => x.1.isSome)
      && decide ((e :: es).length + ([] : List Keyword).length + (if ([] : List Keyword).isEmpty then 0 else 1) < 30)) = true := by rfl)
    (hline : (apos.endLine == cpos.line) = true := by rfl) (hs : starEach (e :: es) X.env = (false, eval e X.env) :: starEach es X.env := by rfl) (hplain : (backTo cpos (starEach es X.env)).any (·.1) = false := by rfl) :
    DE X W (.Call (.Attribute o name apos) (e :: es) [] cpos) (dTM op f fa) :=
  ⟨PE.imp (pe_bm PySem.F.plainAttrs_str slot hty hm ho.pe ha.pa hbase hfew hline hs hplain) fun σ H Q ⟨O, ρ, S, st, h⟩ => ⟨O, ρ, S, st, After.seq h fun d S1 O1 H1 v e1 st1 r1 h1 => by
    cases d <;> try exact h1.elim
    cases (show v = _ from r1)
    exact ⟨rfl, O1, ρ, S1, st1, After.seq h1 fun ds S2 O2 H2 ys e2 st2 r2 h2 => hop W ρ σ O2 H2 S2 _ ys ds Q st2 r2 h2⟩⟩⟩
theorem new_strs {K : PySem.W.Frag} {O : Ow} {H : Hp} {ρ : DE.Env} {σ : L2.St} {S : Sto} {Q : VK} {ys : List Str} (st : Stt K O H ρ σ S) (h : After K W (Rep K) ρ σ O H Q (.ok (.lst (ys.map D.str)) S)) : rNewStrs ys H Q := fun p hp => by
  obtain ⟨e2, st2⟩ := st.new (o := .lst (ys.map V.str)) hp
  exact h O _ _ e2 st2 ⟨p, _, rfl, st.no hp, upd_same, reps_strs⟩
theorem len_ne {y : Str} (h : y.length ≠ 0) : (y.length == 0) = false := by simpa using h
def oSplit (x : Str) (ds : List D) (S : Sto) : RE D := match ds with
  | [.str y] => if y.length ≠ 0 ∧ x.length + 2 ≤ cap then .ok (.lst ((Txt.split x y).map .str)) S else .bad
  | _ => .bad
theorem m_oSplit {K : PySem.W.Frag} : MtD K (fun x xs H Q => ∃ a b, x = .str a ∧ xs = [.str b] ∧ (b.length == 0) = false ∧ a.length + 2 ≤ sizeLine ∧ rNewStrs (Txt.split a b) H Q) oSplit := by
  intro W ρ σ O H S x ys ds Q st r h
  unfold oSplit at h
  split at h
  · obtain ⟨hc, h⟩ := After.ite h
    obtain ⟨v, rfl, q⟩ := r.one
    cases (show v = _ from q)
    exact ⟨x, _, rfl, rfl, len_ne hc.1, cap_line hc.2, new_strs st h⟩
  · exact h.elim
def oSplitM (x : Str) (ds : List D) (S : Sto) : RE D := match ds with
  | [.str y, .int k] => if y.length ≠ 0 ∧ x.length + 2 ≤ cap ∧ 0 ≤ k ∧ k < 1000000 then .ok (.lst ((Txt.splitMax x y k).map .str)) S else .bad
  | _ => .bad
theorem m_oSplitM {K : PySem.W.Frag} : MtD K (fun x xs H Q => ∃ (a b : Str) (k : Int), x = .str a ∧ xs = [.str b, .int k] ∧ (b.length == 0) = false ∧ -(2 ^ 63) ≤ k ∧ k < 2 ^ 63 ∧ a.length + 2 ≤ sizeLine ∧ rNewStrs (Txt.splitMax a b k) H Q) oSplitM := by
  intro W ρ σ O H S x ys ds Q st r h
  unfold oSplitM at h
  split at h
  · obtain ⟨hc, h⟩ := After.ite h
    obtain ⟨v, u, rfl, q1, q2⟩ := r.two
    cases (show v = _ from q1)
    cases (show u = _ from q2)
    exact ⟨x, _, _, rfl, rfl, len_ne hc.1, by omega, by omega, cap_line hc.2.1, new_strs st h⟩
  · exact h.elim
def oCount (x : Str) (ds : List D) (S : Sto) : RE D := match ds with
  | [.str y] => .ok (.int (Txt.count x y)) S
  | _ => .bad
theorem m_oCount {K : PySem.W.Frag} : MtD K (fun x xs H Q => ∃ a b, x = .str a ∧ xs = [.str b] ∧ Q (.int (Txt.count a b)) H) oCount := by
  intro W ρ σ O H S x ys ds Q st r h
  unfold oCount at h
  split at h
  · obtain ⟨v, rfl, q⟩ := r.one
    cases (show v = _ from q)
    exact ⟨x, _, rfl, rfl, After.ok h st rfl⟩
  · exact h.elim
def oStarts (x : Str) (ds : List D) (S : Sto) : RE D := match ds with
  | [.str y] => .ok (.bl (Txt.startswith x y)) S
  | _ => .bad
theorem m_oStarts {K : PySem.W.Frag} : MtD K (fun x xs H Q => ∃ a b, x = .str a ∧ xs = [.str b] ∧ Q (.bl (Txt.startswith a b)) H) oStarts := by
  intro W ρ σ O H S x ys ds Q st r h
  unfold oStarts at h
  split at h
  · obtain ⟨v, rfl, q⟩ := r.one
    cases (show v = _ from q)
    exact ⟨x, _, rfl, rfl, After.ok h st rfl⟩
  · exact h.elim
/-! ### int, str -/
def oIntS : FD := fun ds S => match ds with
  | [.str x] => (match PySem.intText? x with
    | some n => if x.length ≤ 640 then .ok (.int n) S else .bad
    | none => .bad)
  | _ => .bad
theorem c_oIntS : CallR X (.type "int") (RC X.K oIntS) := by
  intro pins s σ H vs us Q I rv ⟨W, ρ, σ', O, S, ds, st, r, h⟩
  unfold oIntS at h
  split at h
  · obtain ⟨v, rfl, r1⟩ := r.one
    cases (show v = _ from r1)
    split at h
    · rename_i n hn
      obtain ⟨hc, h⟩ := After.ite h
      exact call_int_str pins s σ H _ us Q I rv ⟨_, n, rfl, hn, hc, After.ok h st rfl⟩
    · exact h.elim
  · exact h.elim
def oIntA : FD := fun ds S => match ds with
  | [.str x] => oIntS [.str x] S
  | ds => oInt ds S
theorem c_oIntA : CallR X (.type "int") (RC X.K oIntA) := by
  intro pins s σ H vs us Q I rv ⟨W, ρ, σ', O, S, ds, st, r, h⟩
  unfold oIntA at h
  split at h
  · exact c_oIntS pins s σ H vs us Q I rv ⟨W, ρ, σ', O, S, _, st, r, h⟩
  · exact c_oInt pins s σ H vs us Q I rv ⟨W, ρ, σ', O, S, _, st, r, h⟩
def oStr : FD := fun ds S => match ds with
  | [.str x] => .ok (.str x) S
  | [.int i] => if i.natAbs.log2 < 1920 then .ok (.str (Str.ofString (toString i))) S else .bad
  | _ => .bad
theorem c_oStr : CallR X (.type "str") (RC X.K oStr) := by
  intro pins s σ H vs us Q I rv ⟨W, ρ, σ', O, S, ds, st, r, h⟩
  unfold oStr at h
  split at h
  · obtain ⟨v, rfl, r1⟩ := r.one
    cases (show v = _ from r1)
    exact SkE.call_str_str pins s σ H _ us Q I rv ⟨_, rfl, After.ok h st rfl⟩
  · obtain ⟨v, rfl, r1⟩ := r.one
    cases (show v = _ from r1)
    obtain ⟨hc, h⟩ := After.ite h
    exact call_str_int pins s σ H _ us Q I rv ⟨_, rfl, hc, After.ok h st rfl⟩
  · exact h.elim
/-! ### f-strings -/
/-- {x} -/
def dFmt (f : ME) : ME := fun ρ S => (f ρ S).bind fun d S1 => match d with
  | .str x => if x.length ≤ cap then .ok (.str x) S1 else .bad
  | .int i => if i.natAbs.log2 < 1920 then .ok (.str (Str.ofString (toString i))) S1 else .bad
  | _ => .bad
theorem de_fmt (ha : DE X W a f) : DE X W (.FormattedValue a (-1) none pos) (dFmt f) :=
  ⟨PE.imp (pe_fmt ha.pe) fun σ H Q ⟨O, ρ, S, st, h⟩ => ⟨O, ρ, S, st, After.seq h fun d S1 O1 H1 v e1 st1 r1 h1 => by
    cases d <;> try exact h1.elim
    · cases (show v = _ from r1)
      obtain ⟨hc, h1⟩ := After.ite h1
      exact .inr ⟨_, rfl, hc, After.ok h1 st1 rfl⟩
    · cases (show v = _ from r1)
      obtain ⟨hc, h1⟩ := After.ite h1
      exact .inl ⟨_, rfl, cap_line hc, After.ok h1 st1 rfl⟩⟩⟩
def dJs : List ME → Str → ME
  | [], acc => fun _ S => .ok (.str acc) S
  | f :: fs, acc => fun ρ S => (f ρ S).bind fun d S1 => match d with
    | .str y => if (acc ++ y).length ≤ cap then dJs fs (acc ++ y) ρ S1 else .bad
    | _ => .bad
inductive DJs (X : Cx) (W : WX) : List Expr → List ME → Prop where
  | nil : DJs X W [] []
  | cons {e : Expr} {f : ME} {es : List Expr} {fs : List ME} (h : DE X W e f) (r : DJs X W es fs) : DJs X W (e :: es) (f :: fs)
theorem DJs.pj {es : List Expr} {fs : List ME} (h : DJs X W es fs) : PJ X es (fs.map (tE X.K W)) := by
  induction h with
  | nil => exact .nil
  | cons h r ih => exact .cons h.pe ih
theorem js_imp : ∀ (fs : List ME) (acc : Str) {σ : L2.St} {H : Hp} {Q : VK}, tE X.K W (dJs fs acc) σ H Q → tJs (fs.map (tE X.K W)) acc σ H fun out H1 => Q (.str out) H1
  | [], acc, σ, H, Q, ⟨O, ρ, S, st, h⟩ => After.ok (d := D.str acc) (v := V.str acc) h st rfl
  | f :: fs, acc, σ, H, Q, ⟨O, ρ, S, st, h⟩ => ⟨O, ρ, S, st, After.seq h fun d S1 O1 H1 v e1 st1 r1 h1 => by
    cases d <;> try exact h1.elim
    rename_i y
    cases (show v = _ from r1)
    obtain ⟨hc, h1⟩ := After.ite h1
    exact ⟨y, rfl, cap_line hc, js_imp fs (acc ++ y) ⟨O1, ρ, S1, st1, h1⟩⟩⟩
theorem de_js {v1 v2 : Expr} {rest : List Expr} {fs : List ME} (h : DJs X W (v1 :: v2 :: rest) fs) : DE X W (.JoinedStr (v1 :: v2 :: rest) pos) (dJs fs Str.empty) :=
  ⟨PE.imp (pe_joined h.pj) fun _ _ _ h => js_imp _ _ h⟩
/-! ### a, b, c = x, y, z -/
def sPar3 (i j l : Nat) (fa : MA) : MS := fun ρ S => (fa ρ S).stm ρ fun ds S1 => match ds with
  | [d, e, f] => .nx (((ρ.set i (some d)).set j (some e)).set l (some f)) S1
  | _ => .bad
theorem ds_par3 (i j l : Nat) {x y z : Str} {b c : Expr} {fa : MA} {px py pz pt : Pos} {kt k2 pt2} (hc : X.calm = true) (hN : X.N.Nodup) (ha : DA X W [a, b, c] fa) (hi : X.N[i]? = some x := by rfl) (hj : X.N[j]? = some y := by rfl) (hl : X.N[l]? = some z := by rfl)
    (hij : i ≠ j := by decide) (hil : i ≠ l := by decide) (hjl : j ≠ l := by decide)
    (hx : X.env.scope.names.lookup x = some .local := by rfl) (hy : X.env.scope.names.lookup y = some .local := by rfl) (hz : X.env.scope.names.lookup z = some .local := by rfl)
    (hw : swappedStores [.Tuple [.Name x px, .Name y py, .Name z pz] kt pt] (.Tuple [a, b, c] k2 pt2) X.env = pure (some [x, y, z]) := by rfl)
    (hs : swapsWithSole [.Tuple [.Name x px, .Name y py, .Name z pz] kt pt] (.Tuple [a, b, c] k2 pt2) pos.line X.env = pure false := by rfl) :
    DS X W (.Assign [.Tuple [.Name x px, .Name y py, .Name z pz] kt pt] (.Tuple [a, b, c] k2 pt2) pos) (sPar3 i j l fa) :=
  ⟨PS.imp (ps_par3 hc hN hi hj hl hij hil hjl hx hy hz ha.pa hw hs) fun D' σ H ⟨O, ρ, S, st, h⟩ => ⟨O, ρ, S, st, AfterS.seqE h fun ds S1 O1 H1 vs e1 st1 r1 h1 => by
    rcases ds with _ | ⟨d, _ | ⟨e, _ | ⟨f, _ | ⟨_, _⟩⟩⟩⟩
    · exact h1.elim
    · exact h1.elim
    · exact h1.elim
    · obtain ⟨v, vr, rfl, q1, u, ur, rfl, q2, w, wr, rfl, q3, rfl⟩ := r1
      exact ⟨v, u, w, rfl, h1 O1 H1 _ .refl ⟨st1.wf, ((st1.env.set q1 i).set q2 j).set q3 l⟩⟩
    · exact h1.elim⟩⟩
/-! ### replace of written texts, where a text was written ahead -/
structure DET (X : Cx) (W : WX) (e : Expr) (f : ME) : Prop where
  pet : PET X e (tE X.K W f)
theorem DE.t (h : DE X W a f) : DET X W a f := ⟨CwR.PET.of h.pe⟩
def dRep (y z : Str) (f : ME) : ME := fun ρ S => (f ρ S).bind fun d S1 => match d with
  | .str x => if x.length + (x.length + 1) * z.length ≤ cap then .ok (.str (Txt.replace x y z)) S1 else .bad
  | _ => .bad
theorem rep_imp {y z : Str} {σ : L2.St} {H : Hp} {Q : VK} (h : tE X.K W (dRep y z f) σ H Q) : CwR.tReplC (tE X.K W f) y z σ H Q := by
  obtain ⟨O, ρ, S, st, h⟩ := h
  refine ⟨O, ρ, S, st, After.seq h fun d S1 O1 H1 v e1 st1 r1 h1 => ?_⟩
  cases d <;> try exact h1.elim
  cases (show v = _ from r1)
  obtain ⟨hc, h1⟩ := After.ite h1
  exact ⟨_, rfl, Nat.le_trans hc (by decide), After.ok h1 st1 rfl⟩
theorem PET.imp {e : Expr} {t t' : TE} (h : PET X e t) (k : ∀ σ H Q, t' σ H Q → t σ H Q) : PET X e t' := fun pins s σ H Q h0 I q => h pins s σ H Q h0 I (k σ H Q q)
theorem det_rep {y z : Str} {j k : Nat} {c0 c1 apos : Pos} (ho : DET X W o f) (hyz : (y == z) = false := by decide +kernel)
    (hst : starEach [.Constant (.str y) j c0, .Constant (.str z) k c1] X.env = [(false, eval (.Constant (.str y) j c0) X.env), (false, eval (.Constant (.str z) k c1) X.env)] := by rfl)
    (hbase : attributeBase o "replace" X.env (eval o X.env) = eval o X.env := by rfl) (hline : (apos.endLine == pos.line) = true := by rfl) :
    DET X W (.Call (.Attribute o "replace" apos) [.Constant (.str y) j c0, .Constant (.str z) k c1] [] pos) (dRep y z f) :=
  ⟨PET.imp (CwR.pet_replT ho.pet hyz hst hbase hline) fun _ _ _ h => rep_imp h⟩
/-- 'x' + e -/
theorem de_strT {x : Str} {j : Nat} {p1 : Pos} {op : D → D → Sto → RE D} {bo : Operator} (hr : OpR X (binaryOp bo) (RD X.K op)) (hb : DET X W b g) : DE X W (.BinOp (.Constant (.str x) j p1) bo b pos) (dBin op (dC (.str x)) g) := by
  refine ⟨⟨fun pins s σ H Q I h => ?_⟩⟩
  have h2 := bin_imp (f := dC (.str x)) opD_RD h
  obtain ⟨O, ρ, S, st, h3⟩ := h2
  have h4 : tE X.K W g σ H fun y H2 => RD X.K op (.str x) y H2 Q := h3 O H (.str x) .refl st rfl
  refine wpAny_BinOp (Calls.Constant_str ?_)
  refine thn (hb.pet pins { s with toks := s.toks + 1 } σ H _ (by show 1 ≤ s.toks + 1; omega) (I.tok _) h4) fun u s2 ⟨y, H2, I2, r2, q2⟩ => ?_
  exact hr pins s2 σ H2 (.str x) y _ u Q I2 ⟨_, rfl⟩ r2 q2
/-! ### x += e, ints or texts -/
def sAugA (i : Nat) (g : ME) : MS := fun ρ S => match ρ[i]? with
  | some (some (.int a)) => (g ρ S).stm ρ fun e S1 => match e with
    | .int b => .nx (ρ.set i (some (.int (a + b)))) S1
    | _ => .bad
  | some (some (.str a)) => (g ρ S).stm ρ fun e S1 => match e with
    | .str b => if a.length + b.length ≤ cap then .nx (ρ.set i (some (.str (a ++ b)))) S1 else .bad
    | _ => .bad
  | _ => .bad
def ipA : V → V → Hp → VK → Prop := fun x y H Q => (∃ i j, x = .int i ∧ y = .int j ∧ Q (.int (i + j)) H) ∨ rAddS x y H Q
theorem ip_addA : PIp X .Add ipA := by
  intro pins s σ H x y v u Q I rx ry h
  rcases h with ⟨i, j, rfl, rfl, q⟩ | h
  · obtain ⟨t, rfl⟩ := (show ∃ t, v = Value.int i t from rx)
    obtain ⟨t', rfl⟩ := (show ∃ t', u = Value.int j t' from ry)
    exact PyProof.Rows.iadd_int ⟨.int (i + j), H, I.tok _, ⟨_, rfl⟩, q⟩
  · exact in_addS pins s σ H x y v u Q I rx ry h
theorem ds_augA (i : Nat) {x : Str} {e : Expr} {f : ME} {pos' : Pos} (hN : X.N.Nodup) (hi : X.N[i]? = some x) (hx : Loc X.env.scope x) (he : DE X W e f) (hf : X.fn x = true ∨ X.env.scope.names.lookup x = some .local := by first | exact .inl rfl | exact .inr rfl | assumption) : DS X W (.AugAssign (.Name x pos') .Add e pos) (sAugA i f) :=
  ⟨PS.imp (ps_aug hN hi hx he.pe ip_addA hf) fun D' σ H ⟨O, ρ, S, st, h⟩ => by
    unfold sAugA at h
    split at h
    · rename_i a q
      obtain ⟨v, hv, r⟩ := st.env.get q
      cases (show v = _ from r)
      refine ⟨_, hv, O, ρ, S, st, AfterS.seqE h fun d S1 O1 H1 u e1 st1 r1 h1 => ?_⟩
      cases d <;> try exact h1.elim
      rename_i b
      cases (show u = _ from r1)
      exact .inl ⟨_, _, rfl, rfl, h1 O1 H1 _ .refl ⟨st1.wf, st1.env.set (d := .int (a + b)) (v := .int (a + b)) rfl i⟩⟩
    · rename_i a q
      obtain ⟨v, hv, r⟩ := st.env.get q
      cases (show v = _ from r)
      refine ⟨_, hv, O, ρ, S, st, AfterS.seqE h fun d S1 O1 H1 u e1 st1 r1 h1 => ?_⟩
      cases d <;> try exact h1.elim
      rename_i b
      cases (show u = _ from r1)
      simp only at h1
      split at h1
      · rename_i hc
        exact .inr ⟨_, _, rfl, rfl, cap_line hc, h1 O1 H1 _ .refl ⟨st1.wf, st1.env.set (d := .str (a ++ b)) (v := .str (a ++ b)) rfl i⟩⟩
      · exact h1.elim
    · exact h.elim⟩
end
end DE

set_option maxHeartbeats 4000000
namespace DE
open PySem PySem.Spec PyProof.Rows L2
section
variable {X : Cx} {W : WX} {o a b e : Expr} {f g : ME} {es : List Expr} {fa : MA} {apos pos : Pos}
/-! ### behind it a token is out -/
structure DEK (X : Cx) (W : WX) (e : Expr) (f : ME) : Prop where
  run : ∀ pins s σ H Q, Inv X pins σ H s → tE X.K W f σ H Q → wpAny (model X.prog X.w) X.A (eval e X.env) (fun u s1 => 1 ≤ s1.toks ∧ EP X pins σ Q u s1) X.xe s
theorem DEK.de (h : DEK X W e f) : DE X W e f := ⟨⟨fun pins s σ H Q I q => wpAny_mono (h.run pins s σ H Q I q) (fun _ _ z => z.2) fun _ _ z => z⟩⟩
theorem dek_str {x : Str} {j : Nat} : DEK X W (.Constant (.str x) j pos) (dC (.str x)) := ⟨fun pins s σ H Q I ⟨O, ρ, S, st, h⟩ => Calls.Constant_str ⟨by show 1 ≤ s.toks + 1; omega, .str x, H, I.tok _, ⟨_, rfl⟩, After.ok h st rfl⟩⟩
theorem dek_m1 {id : String} {name : Str} {r : V → List V → Hp → VK → Prop} {op : Str → D → Sto → RE D} (slot : Slot "str" name id) (ty : typeOf (.builtin id) = pure (.type "method_descriptor")) (rule : MtR X id r) (hop : M1D X.K r op) (h : DEK X W o f) (he : DE X W e g)
    (hs : starEach [e] X.env = [(false, eval e X.env)] := by rfl) (hbase : attributeBase o name X.env (eval o X.env) = eval o X.env := by rfl) (hline : (apos.endLine == pos.line) = true := by rfl) :
    DEK X W (.Call (.Attribute o name apos) [e] [] pos) (dM1 op f g) := ⟨fun pins s σ H Q I q => by
  have q2 := m1_imp hop q
  refine PySem.Call_method1 hbase hs hline (wpAny_mono (h.run pins s σ H _ I q2) (fun v s1 ⟨hk, x, H1, I1, r1, q1⟩ => ?_) fun _ _ z => z)
  obtain ⟨⟨y, rfl⟩, q1⟩ := q1
  obtain ⟨t, rfl⟩ := _root_.id r1
  refine ⟨"str", _, PySem.F.plainAttrs_str, slot, ty, typeIs_str _ _ _, (fun _ e => nomatch e), Calls.callWith_builtin rfl (Calls.evalArgs_plain (Calls.spliced_cons ?_))⟩
  refine wpAny_mono (wpAny_toks_of hk (he.pe.run pins s1 σ H1 _ I1 q1)) (fun u s2 ⟨hk2, y, H2, I2, r2, q2⟩ => Calls.spliced_nil ?_) (fun _ _ z => z.2)
  exact wpAny_mono (wpAny_toks_of hk2 (rule pins s2 σ H2 _ [y] _ [u] Q I2 r1 (.cons r2 .nil) q2)) (fun _ _ z => z) fun _ _ z => z.2⟩
theorem dek_join (h : DEK X W o f) (he : DE X W e g) (hs : starEach [e] X.env = [(false, eval e X.env)] := by rfl) (hbase : attributeBase o "join" X.env (eval o X.env) = eval o X.env := by rfl) (hline : (apos.endLine == pos.line) = true := by rfl) :
    DEK X W (.Call (.Attribute o "join" apos) [e] [] pos) (dM1 oJoin f g) :=
  dek_m1 PySem.F.slot_str_join PySem.F.type_str_join mt_join (fun W ρ σ O H S x y e Q st r h => by
    unfold oJoin at h
    split at h
    · rename_i ds hd
      split at h
      · rename_i ys hy
        obtain ⟨hc, h⟩ := After.ite h
        obtain ⟨p, xs, rfl, hs, rs⟩ := seq_rep st hd r
        have e := strs_rep hy rs
        subst e
        exact ⟨x, p, ys, rfl, rfl, hs, Nat.le_trans hc (by decide), After.ok h st rfl⟩
      · exact h.elim
    · exact h.elim) h he hs hbase hline
theorem dek_sl {lo hi : Option Expr} {p2 : Pos} {fl fh : MO} (ha : DEK X W a f) (hl : DPo X W lo fl) (hh : DPo X W hi fh) : DEK X W (.Subscript a (.Slice lo hi none p2) pos) (dSl f fl fh) := ⟨fun pins s σ H Q I ⟨O, ρ, S, st, h⟩ => by
  have q : tSl (rSlD X.K) (tE X.K W f) (tO X.K W fl) (tO X.K W fh) σ H Q := ⟨O, ρ, S, st, After.seq h fun d S1 O1 H1 v e1 st1 r1 h1 => ⟨O1, ρ, S1, st1, After.seq h1 fun l S2 O2 H2 v2 e2 st2 r2 h2 => ⟨O2, ρ, S2, st2, After.seq h2 fun u S3 O3 H3 v3 e3 st3 r3 h3 => by
    subst r2 r3
    exact ⟨W, ρ, σ, O3, S3, d, st3, r1.mono ((e2.trans e3).w st1.wf), h3⟩⟩⟩⟩
  refine Subscript_ (wpAny_mono (ha.run pins s σ H _ I q) (fun v s1 ⟨hk, x, H1, I1, r1, q1⟩ => ?_) fun _ _ z => z)
  have old : wpAny (model X.prog X.w) X.A (eval (.Slice lo hi none p2) X.env) (fun i s2 => wpAny (model X.prog X.w) X.A (subscriptTail a (.Slice lo hi none p2) v i) (EP X pins σ Q) X.xe s2) X.xe s1 := by
    refine wpAny_Slice (thn (hl.po.run pins s1 σ H1 _ I1 q1) fun vl s2 ⟨l, H2, I2, pl, q2⟩ => thn (hh.po.run pins s2 σ H2 _ I2 q2) fun vu s3 ⟨u, H3, I3, pu, q3⟩ => ?_)
    rw [evalPart_none]
    refine wpAny_pure ?_
    have I4 : Inv X pins σ H3 { s3 with heap := s3.heap.push { cls := .type "slice", data := .fields #[vl, vu, .none] } } := I3.kept (t' := s3.toks) fun b ob q => Heap.get?_push_of_some _ q
    obtain ⟨T, id, hT, ht, hg⟩ := sl_slD pins { s3 with heap := s3.heap.push { cls := .type "slice", data := .fields #[vl, vu, .none] } } σ H3 x v vl vu l u s3.heap.objs.size Q I4 r1 (Heap.IsSliceOf.new ..) pl pu q3
    show wpAny (model X.prog X.w) X.A (subscriptTail a (.Slice lo hi none p2) v (.ref s3.heap.objs.size)) (EP X pins σ Q) X.xe { s3 with heap := s3.heap.push { cls := .type "slice", data := .fields #[vl, vu, .none] } }
    exact tail_any (ops := [.ref s3.heap.objs.size, v]) ht hT hg (by with_unfolding_all rfl)
  exact wpAny_mono (wpAny_toks_of hk old) (fun i s2 ⟨hk2, q⟩ => wpAny_mono (wpAny_toks_of hk2 q) (fun _ _ z => z) fun _ _ z => z.2) fun _ _ z => z.2⟩
theorem dek_rep {y z : Str} {j k : Nat} {c0 c1 : Pos} (ho : DEK X W o f) (hyz : (y == z) = false := by decide +kernel)
    (hst : starEach [.Constant (.str y) j c0, .Constant (.str z) k c1] X.env = [(false, eval (.Constant (.str y) j c0) X.env), (false, eval (.Constant (.str z) k c1) X.env)] := by rfl)
    (hbase : attributeBase o "replace" X.env (eval o X.env) = eval o X.env := by rfl) (hline : (apos.endLine == pos.line) = true := by rfl) :
    DEK X W (.Call (.Attribute o "replace" apos) [.Constant (.str y) j c0, .Constant (.str z) k c1] [] pos) (dRep y z f) := ⟨fun pins s σ H Q I h => by
  have q2 := rep_imp h
  refine PySem.Call_method2 hbase hst hline (wpAny_mono (ho.run pins s σ H _ I q2) (fun v s1 ⟨hk, v', H1, I1, r1, q1⟩ => ?_) fun _ _ z => z)
  obtain ⟨x, e1, hb, q⟩ := q1
  subst e1
  obtain ⟨tx, e2⟩ := r1
  subst e2
  refine ⟨"str", _, PySem.F.plainAttrs_str, PySem.F.slot_str_replace, PySem.F.type_str_replace, typeIs_str _ _ _, (fun _ e => nomatch e), Calls.callWith_builtin rfl (Calls.evalArgs_plain (Calls.spliced_cons ?_))⟩
  refine Calls.Constant_str (Calls.spliced_cons (Calls.Constant_str (Calls.spliced_nil ?_)))
  have h0 : 1 ≤ ({ s1 with toks := s1.toks + 1 + 1 } : Shared).toks := by show 1 ≤ s1.toks + 1 + 1; omega
  exact wpAny_mono (wpAny_toks_of h0 (PySem.SC.replace (E := X.xe) (by show s1.toks ≠ 0; omega) (by show s1.toks + 1 ≠ 0; omega) (by show s1.toks ≠ s1.toks + 1; omega) hyz hb fun t' k => (show EP X pins σ Q (.str (Txt.replace x y z) t') _ from ⟨.str (Txt.replace x y z), H1, I1.tok k, ⟨t', rfl⟩, q⟩))) (fun _ _ z => z) fun _ _ z => z.2⟩
/-- .. where the first text is put together -/
theorem dek_rep2 {y1 y2 z : Str} {j j2 k : Nat} {c0 c2 c1 cb : Pos} (ho : DEK X W o f) (hyz : ((y1 ++ y2) == z) = false := by decide +kernel) (n1 : (y1.length == 0) = false := by decide +kernel) (n2 : (y2.length == 0) = false := by decide +kernel) (nz : (y1 ++ y2).length ≤ 1000 := by decide +kernel)
    (hst : starEach [.BinOp (.Constant (.str y1) j c0) .Add (.Constant (.str y2) j2 c2) cb, .Constant (.str z) k c1] X.env = [(false, eval (.BinOp (.Constant (.str y1) j c0) .Add (.Constant (.str y2) j2 c2) cb) X.env), (false, eval (.Constant (.str z) k c1) X.env)] := by rfl)
    (hbase : attributeBase o "replace" X.env (eval o X.env) = eval o X.env := by rfl) (hline : (apos.endLine == pos.line) = true := by rfl) :
    DEK X W (.Call (.Attribute o "replace" apos) [.BinOp (.Constant (.str y1) j c0) .Add (.Constant (.str y2) j2 c2) cb, .Constant (.str z) k c1] [] pos) (dRep (y1 ++ y2) z f) := ⟨fun pins s σ H Q I h => by
  have q2 := rep_imp h
  refine PySem.Call_method2 hbase hst hline (wpAny_mono (ho.run pins s σ H _ I q2) (fun v s1 ⟨hk, v', H1, I1, r1, q1⟩ => ?_) fun _ _ z => z)
  obtain ⟨x, e1, hb, q⟩ := q1
  subst e1
  obtain ⟨tx, e2⟩ := r1
  subst e2
  refine ⟨"str", _, PySem.F.plainAttrs_str, PySem.F.slot_str_replace, PySem.F.type_str_replace, typeIs_str _ _ _, (fun _ e => nomatch e), Calls.callWith_builtin rfl (Calls.evalArgs_plain (Calls.spliced_cons ?_))⟩
  refine wpAny_BinOp (Calls.Constant_str (Calls.Constant_str ?_))
  refine P.add_str ?_
  rw [n1, n2]
  simp only [Bool.false_eq_true, if_false]
  refine ⟨Nat.le_trans nz (by decide), ?_⟩
  refine Calls.spliced_cons (Calls.Constant_str (Calls.spliced_nil ?_))
  have h0 : 1 ≤ ({ s1 with toks := s1.toks + 1 + 1 + 1 + 1 } : Shared).toks := by show 1 ≤ s1.toks + 1 + 1 + 1 + 1; omega
  exact wpAny_mono (wpAny_toks_of h0 (PySem.SC.replace (E := X.xe) (by show s1.toks + 1 + 1 ≠ 0; omega) (by show s1.toks + 1 + 1 + 1 ≠ 0; omega) (by show s1.toks + 1 + 1 ≠ s1.toks + 1 + 1 + 1; omega) hyz hb fun t' k => (show EP X pins σ Q (.str (Txt.replace x (y1 ++ y2) z) t') _ from ⟨.str (Txt.replace x (y1 ++ y2) z), H1, I1.tok k, ⟨t', rfl⟩, q⟩))) (fun _ _ z => z) fun _ _ z => z.2⟩
/-! ### displays behind a written text -/
structure DAT (X : Cx) (W : WX) (es : List Expr) (f : MA) : Prop where
  pat : PAT X es (tA X.K W f)
theorem dat_nil : DAT X W [] aNil := ⟨fun pos pins s σ H Q h0 I h => da_nil.pa.run pos pins s σ H Q I h⟩
theorem dat_cons (ha : DET X W e f) (hr : DAT X W es fa) (hs : starEach (e :: es) X.env = (false, eval e X.env) :: starEach es X.env := by rfl) : DAT X W (e :: es) (aCons f fa) := ⟨fun pos pins s σ H Q h0 I ⟨O, ρ, S, st, h⟩ => by
  refine pat_cons ha.pet hr.pat hs pos pins s σ H Q h0 I ⟨O, ρ, S, st, After.seq h fun d S1 O1 H1 v e1 st1 r1 h1 => ⟨O1, ρ, S1, st1, After.seq h1 fun ds S2 O2 H2 vs e2 st2 r2 h2 => ?_⟩⟩
  exact After.ok h2 st2 ⟨v, vs, rfl, r1.mono (e2.w st1.wf), r2⟩⟩
theorem da_strT {x : Str} {j : Nat} {p : Pos} (h : DAT X W es fa) (hs : starEach (.Constant (.str x) j p :: es) X.env = (false, eval (.Constant (.str x) j p) X.env) :: starEach es X.env := by rfl) : DA X W (.Constant (.str x) j p :: es) (aCons (dC (.str x)) fa) := ⟨⟨fun pos pins s σ H Q I ⟨O, ρ, S, st, h3⟩ => by
  rw [hs]
  show wpAny _ _ (spliced ((false, eval (.Constant (.str x) j p) X.env) :: backTo pos (starEach es X.env))) _ _ s
  refine Calls.spliced_cons (Calls.Constant_str ?_)
  refine thn (h.pat pos pins { s with toks := s.toks + 1 } σ H (fun xs H2 => Q (.str x :: xs) H2) (by show 1 ≤ s.toks + 1; omega) (I.tok _) ⟨O, ρ, S, st, After.seq h3 fun ds S2 O2 H2 vs e2 st2 r2 h2 => After.ok h2 st2 ⟨.str x, vs, rfl, rfl, r2⟩⟩) fun us s2 ⟨xs, H2, I2, r2, q2⟩ => ⟨.str x :: xs, H2, I2, .cons ⟨_, rfl⟩ r2, q2⟩⟩⟩
/-! ### [.., *x] -/
def aStar (f : ME) (fa : MA) : MA := fun ρ S => (f ρ S).bind fun d S1 => match seqOf S1 d with
  | some ds => (fa ρ S1).bind fun es S2 => .ok (ds ++ es) S2
  | none => .bad
theorem da_star {p : Pos} (he : DE X W e f) (hr : DA X W es fa) (hs : starEach (.Starred e p :: es) X.env = (true, eval e X.env) :: starEach es X.env := by rfl) : DA X W (.Starred e p :: es) (aStar f fa) := ⟨PA.imp (StX.pa_star he.pe hr.pa hs) fun σ H Q ⟨O, ρ, S, st, h⟩ => ⟨O, ρ, S, st, After.seq h fun d S1 O1 H1 v e1 st1 r1 h1 => by
  split at h1
  · rename_i ds hd
    obtain ⟨q, xs, rfl, hq, rs⟩ := seq_rep st1 hd r1
    refine ⟨q, xs, rfl, hq.symm, O1, ρ, S1, st1, After.seq h1 fun es S2 O2 H2 vs e2 st2 r2 h2 => ?_⟩
    exact After.ok h2 st2 ((rs.mono (e2.w st1.wf)).append r2)
  · exact h1.elim⟩⟩
end
end DE

set_option maxHeartbeats 4000000
namespace DE
open PySem L2
/-! ### calls whose store is their own -/
mutual
/-- nothing owned in it -/
def nown : D → Bool
  | .non => true
  | .bl _ => true
  | .int _ => true
  | .str _ => true
  | .ty _ => true
  | .glo _ => true
  | .tup ds => nowns ds
  | .lst ds => nowns ds
  | .scr ds => nowns ds
  | .dK kvs => nownK kvs
  | .dT kvs => nownT kvs
  | .obj _ fs => nownF fs
  | .exo _ fs => nownF fs
  | .own _ => false
  | .xcp _ _ _ => false
  | .tab _ _ _ => false
def nowns : List D → Bool
  | [] => true
  | d :: ds => nown d && nowns ds
def nownK : List (Key × D) → Bool
  | [] => true
  | (_, d) :: ds => nown d && nownK ds
def nownT : List (List Key × D) → Bool
  | [] => true
  | (_, d) :: ds => nown d && nownT ds
def nownF : List (Str × D) → Bool
  | [] => true
  | (_, d) :: ds => nown d && nownF ds
end
mutual
/-- no list in it -/
def nolst : D → Bool
  | .non => true
  | .bl _ => true
  | .int _ => true
  | .str _ => true
  | .ty _ => true
  | .glo _ => true
  | .tup ds => nolsts ds
  | .lst _ => false
  | .scr _ => false
  | .dK kvs => nolstK kvs
  | .dT kvs => nolstT kvs
  | .obj _ fs => nolstF fs
  | .exo _ fs => nolstF fs
  | .own _ => false
  | .xcp _ _ _ => false
  | .tab _ _ _ => false
def nolsts : List D → Bool
  | [] => true
  | d :: ds => nolst d && nolsts ds
def nolstK : List (Key × D) → Bool
  | [] => true
  | (_, d) :: ds => nolst d && nolstK ds
def nolstT : List (List Key × D) → Bool
  | [] => true
  | (_, d) :: ds => nolst d && nolstT ds
def nolstF : List (Str × D) → Bool
  | [] => true
  | (_, d) :: ds => nolst d && nolstF ds
end
/-- from one ownership to another: what is not owned there is not owned here (lists: if fl is off) -/
def Cap (fl : Bool) (O' O : Ow) (H : Hp) : Prop := ∀ a o, O'.no a → H a = some o → (fl = true → ∀ xs, o ≠ .lst xs) → O.no a
section
variable {K : PySem.W.Frag} {O O' : Ow} {H : Hp} {fl : Bool}
mutual
theorem Rep.cap (c : Cap fl O' O H) (hs : ∀ a o xs, O'.no a → H a = some (.frz o (.lst xs)) → O.no a) : ∀ {d : D} {v : V}, nown d = true → (fl = true → nolst d = true) → Rep K O' H d v → Rep K O H d v
  | .non, _, _, _, h => h
  | .bl _, _, _, _, h => h
  | .int _, _, _, _, h => h
  | .str _, _, _, _, h => h
  | .ty _, _, _, _, h => h
  | .glo _, _, _, _, h => h
  | .tup ds, _, n, l, h => by
    obtain ⟨a, xs, rfl, h1, h2⟩ := h
    exact ⟨a, xs, rfl, h1, Reps.cap c hs (by simpa only [nown] using n) (fun e => by simpa only [nolst] using l e) h2⟩
  | .lst ds, _, n, l, h => by
    obtain ⟨a, xs, rfl, m, h1, h2⟩ := h
    have nf : ¬ fl = true := fun e => absurd (l e) (by simp [nolst])
    exact ⟨a, xs, rfl, c _ _ m h1 (fun e => absurd e nf), h1, Reps.cap c hs (by simpa only [nown] using n) (fun e => absurd e nf) h2⟩
  | .scr ds, _, n, l, h => by
    obtain ⟨a, xs, rfl, h1, h2⟩ := h
    have nf : ¬ fl = true := fun e => absurd (l e) (by simp [nolst])
    refine ⟨a, xs, rfl, ?_, Reps.cap c hs (by simpa only [nown] using n) (fun e => absurd e nf) h2⟩
    rcases h1 with ⟨m, h1⟩ | h1
    · refine .inl ⟨?_, h1⟩
      rcases h1 with h1 | ⟨o, h1⟩
      · exact c _ _ m h1 (fun e => absurd e nf)
      · exact hs _ _ _ m h1
    · exact .inr h1
  | .dK kvs, _, n, l, h => by
    obtain ⟨a, xs, rfl, m, h1, h2⟩ := h
    refine ⟨a, xs, rfl, ?_, h1, RepK.cap c hs (by simpa only [nown] using n) (fun e => by simpa only [nolst] using l e) h2⟩
    rcases h1 with h1 | ⟨o, h1⟩
    · exact c _ _ m h1 (fun _ _ e => nomatch e)
    · exact c _ _ m h1 (fun _ _ e => nomatch e)
  | .dT kvs, _, n, l, h => by
    obtain ⟨a, xs, rfl, m, h1, h2⟩ := h
    refine ⟨a, xs, rfl, ?_, h1, RepT.cap c hs (by simpa only [nown] using n) (fun e => by simpa only [nolst] using l e) h2⟩
    rcases h1 with h1 | ⟨o, h1⟩
    · exact c _ _ m h1 (fun _ _ e => nomatch e)
    · exact c _ _ m h1 (fun _ _ e => nomatch e)
  | .obj _ fs, _, n, l, h => by
    obtain ⟨a, dx, xs, rfl, m, h1, h2⟩ := h
    exact ⟨a, dx, xs, rfl, c _ _ m h1 (fun _ _ e => nomatch e), h1, RepF.cap c hs (by simpa only [nown] using n) (fun e => by simpa only [nolst] using l e) h2⟩
  | .exo _ fs, _, n, l, h => by
    obtain ⟨a, dd, vs, rfl, m, h1, m2, z, h3⟩ := h
    exact ⟨a, dd, vs, rfl, c _ _ m h1 (fun _ _ e => nomatch e), h1, fun y q => ⟨c _ _ (m2 y q).1 (m2 y q).2 (fun _ _ e => nomatch e), (m2 y q).2⟩, z, RepF.cap c hs (by simpa only [nown] using n) (fun e => by simpa only [nolst] using l e) h3⟩
  | .own _, _, n, _, _ => by simp [nown] at n
  | .xcp _ _ _, _, n, _, _ => by simp [nown] at n
  | .tab _ _ _, _, n, _, _ => by simp [nown] at n
theorem Reps.cap (c : Cap fl O' O H) (hs : ∀ a o xs, O'.no a → H a = some (.frz o (.lst xs)) → O.no a) : ∀ {d : List D} {v : List V}, nowns d = true → (fl = true → nolsts d = true) → Reps K O' H d v → Reps K O H d v
  | [], _, _, _, h => h
  | _ :: _, _, n, l, h => by
    obtain ⟨v, r, rfl, h1, h2⟩ := h
    simp only [nowns, nolsts, Bool.and_eq_true] at n l
    exact ⟨v, r, rfl, Rep.cap c hs n.1 (fun e => (l e).1) h1, Reps.cap c hs n.2 (fun e => (l e).2) h2⟩
theorem RepK.cap (c : Cap fl O' O H) (hs : ∀ a o xs, O'.no a → H a = some (.frz o (.lst xs)) → O.no a) : ∀ {d : List (Key × D)} {v : List (Key × V)}, nownK d = true → (fl = true → nolstK d = true) → RepK K O' H d v → RepK K O H d v
  | [], _, _, _, h => h
  | (_, _) :: _, _, n, l, h => by
    obtain ⟨v, r, rfl, h1, h2⟩ := h
    simp only [nownK, nolstK, Bool.and_eq_true] at n l
    exact ⟨v, r, rfl, Rep.cap c hs n.1 (fun e => (l e).1) h1, RepK.cap c hs n.2 (fun e => (l e).2) h2⟩
theorem RepT.cap (c : Cap fl O' O H) (hs : ∀ a o xs, O'.no a → H a = some (.frz o (.lst xs)) → O.no a) : ∀ {d : List (List Key × D)} {v : List (List Key × V)}, nownT d = true → (fl = true → nolstT d = true) → RepT K O' H d v → RepT K O H d v
  | [], _, _, _, h => h
  | (_, _) :: _, _, n, l, h => by
    obtain ⟨v, r, rfl, h1, h2⟩ := h
    simp only [nownT, nolstT, Bool.and_eq_true] at n l
    exact ⟨v, r, rfl, Rep.cap c hs n.1 (fun e => (l e).1) h1, RepT.cap c hs n.2 (fun e => (l e).2) h2⟩
theorem RepF.cap (c : Cap fl O' O H) (hs : ∀ a o xs, O'.no a → H a = some (.frz o (.lst xs)) → O.no a) : ∀ {d : List (Str × D)} {v : List (Str × V)}, nownF d = true → (fl = true → nolstF d = true) → RepF K O' H d v → RepF K O H d v
  | [], _, _, _, h => h
  | (_, _) :: _, _, n, l, h => by
    obtain ⟨v, r, rfl, h1, h2⟩ := h
    simp only [nownF, nolstF, Bool.and_eq_true] at n l
    exact ⟨v, r, rfl, Rep.cap c hs n.1 (fun e => (l e).1) h1, RepF.cap c hs n.2 (fun e => (l e).2) h2⟩
end
end
/-! what is owned becomes a tree -/
def mapO {α β : Type} (f : α → Option β) : List α → Option (List β)
  | [] => some []
  | d :: ds => match f d, mapO f ds with
    | some e, some es => some (e :: es)
    | _, _ => none
def sndO {α : Type} (f : D → Option D) (p : α × D) : Option (α × D) := (f p.2).map fun d => (p.1, d)
def frz (S : Sto) : Nat → D → Option D
  | 0, _ => none
  | n + 1, d => match d with
    | .own k => (match S[k]? with
      | some (.lst ds) => (mapO (frz S n) ds).map .lst
      | some (.dK kvs) => (mapO (sndO (frz S n)) kvs).map .dK
      | some (.dT kvs) => (mapO (sndO (frz S n)) kvs).map .dT
      | some (.obj c fs) => (mapO (sndO (frz S n)) fs).map (.obj c)
      | _ => none)
    | .tup ds => (mapO (frz S n) ds).map .tup
    | .lst ds => (mapO (frz S n) ds).map .lst
    | .dK kvs => (mapO (sndO (frz S n)) kvs).map .dK
    | .dT kvs => (mapO (sndO (frz S n)) kvs).map .dT
    | .obj c fs => (mapO (sndO (frz S n)) fs).map (.obj c)
    | .exo c fs => (mapO (sndO (frz S n)) fs).map (.exo c)
    | .xcp _ _ _ => none
    | .scr _ => none
    | d => some d
section
variable {K : PySem.W.Frag} {O O2 : Ow} {H : Hp} {S : Sto}
theorem frz_list {f : D → Option D} (h : ∀ d e v, f d = some e → Rep K O H d v → Rep K O2 H e v) : ∀ {ds es : List D} {vs : List V}, mapO f ds = some es → Reps K O H ds vs → Reps K O2 H es vs
  | [], es, _, e, r => by cases e; exact r
  | d :: ds, es, _, e, r => by
    obtain ⟨v, r', rfl, h1, h2⟩ := r
    simp only [mapO] at e
    cases q : f d with
    | none => simp only [q] at e; cases e
    | some d' =>
      cases q2 : mapO f ds with
      | none => simp only [q, q2] at e; cases e
      | some ds' => simp only [q, q2] at e; cases e; exact ⟨v, r', rfl, h _ _ _ q h1, frz_list h q2 h2⟩
theorem frz_K {f : D → Option D} (h : ∀ d e v, f d = some e → Rep K O H d v → Rep K O2 H e v) : ∀ {ds es : List (Key × D)} {vs : List (Key × V)}, mapO (sndO f) ds = some es → RepK K O H ds vs → RepK K O2 H es vs
  | [], es, _, e, r => by cases e; exact r
  | (k, d) :: ds, es, _, e, r => by
    obtain ⟨v, r', rfl, h1, h2⟩ := r
    simp only [mapO, sndO] at e
    cases q : f d with
    | none => simp only [q, Option.map] at e; cases e
    | some d' =>
      cases q2 : mapO (sndO f) ds with
      | none => simp only [q, q2, Option.map] at e; cases e
      | some ds' => simp only [q, q2, Option.map] at e; cases e; exact ⟨v, r', rfl, h _ _ _ q h1, frz_K h q2 h2⟩
theorem frz_T {f : D → Option D} (h : ∀ d e v, f d = some e → Rep K O H d v → Rep K O2 H e v) : ∀ {ds es : List (List Key × D)} {vs : List (List Key × V)}, mapO (sndO f) ds = some es → RepT K O H ds vs → RepT K O2 H es vs
  | [], es, _, e, r => by cases e; exact r
  | (k, d) :: ds, es, _, e, r => by
    obtain ⟨v, r', rfl, h1, h2⟩ := r
    simp only [mapO, sndO] at e
    cases q : f d with
    | none => simp only [q, Option.map] at e; cases e
    | some d' =>
      cases q2 : mapO (sndO f) ds with
      | none => simp only [q, q2, Option.map] at e; cases e
      | some ds' => simp only [q, q2, Option.map] at e; cases e; exact ⟨v, r', rfl, h _ _ _ q h1, frz_T h q2 h2⟩
theorem frz_F {f : D → Option D} (h : ∀ d e v, f d = some e → Rep K O H d v → Rep K O2 H e v) : ∀ {ds es : List (Str × D)} {vs : List (Str × V)}, mapO (sndO f) ds = some es → RepF K O H ds vs → RepF K O2 H es vs
  | [], es, _, e, r => by cases e; exact r
  | (k, d) :: ds, es, _, e, r => by
    obtain ⟨v, r', rfl, h1, h2⟩ := r
    simp only [mapO, sndO] at e
    cases q : f d with
    | none => simp only [q, Option.map] at e; cases e
    | some d' =>
      cases q2 : mapO (sndO f) ds with
      | none => simp only [q, q2, Option.map] at e; cases e
      | some ds' => simp only [q, q2, Option.map] at e; cases e; exact ⟨v, r', rfl, h _ _ _ q h1, frz_F h q2 h2⟩
theorem omap {α β : Type} {x : Option α} {f : α → β} {b : β} (h : x.map f = some b) : ∃ a, x = some a ∧ b = f a := by
  cases x with
  | none => cases h
  | some a => cases h; exact ⟨a, rfl, rfl⟩
/-- O2: owned by nobody inside -/
theorem frz_rep (w : WF K O H S) (hl : ∀ a ∈ O.l, O2.no a) (hc : ∀ a, O.no a → H a ≠ none → O2.no a) : ∀ (n : Nat) (d e : D) (v : V), frz S n d = some e → Rep K O H d v → Rep K O2 H e v
  | 0, _, _, _, h, _ => by cases h
  | n + 1, d, e, v, h, r => by
    have ih := frz_rep w hl hc n
    have nn : ∀ {a : Addr} {o : HO}, O.no a → H a = some o → O2.no a := fun m h => hc _ m (by rw [h]; exact fun z => nomatch z)
    have nr : ∀ {a : Addr} {o : HO}, O.no a → Rd H a o → O2.no a := fun m h => by
      rcases h with h | ⟨_, h⟩
      · exact nn m h
      · exact nn m h
    cases d with
    | non => cases h; exact r
    | bl b => cases h; exact r
    | int i => cases h; exact r
    | str x => cases h; exact r
    | ty x => cases h; exact r
    | glo x => cases h; exact r
    | tup ds =>
      obtain ⟨es, q, rfl⟩ := omap (show (mapO (frz S n) ds).map D.tup = some e from h)
      obtain ⟨a, xs, rfl, h1, h2⟩ := r
      exact ⟨a, xs, rfl, h1, frz_list ih q h2⟩
    | lst ds =>
      obtain ⟨es, q, rfl⟩ := omap (show (mapO (frz S n) ds).map D.lst = some e from h)
      obtain ⟨a, xs, rfl, m, h1, h2⟩ := r
      exact ⟨a, xs, rfl, nn m h1, h1, frz_list ih q h2⟩
    | scr ds => cases h
    | dK ds =>
      obtain ⟨es, q, rfl⟩ := omap (show (mapO (sndO (frz S n)) ds).map D.dK = some e from h)
      obtain ⟨a, xs, rfl, m, h1, h2⟩ := r
      exact ⟨a, xs, rfl, nr m h1, h1, frz_K ih q h2⟩
    | dT ds =>
      obtain ⟨es, q, rfl⟩ := omap (show (mapO (sndO (frz S n)) ds).map D.dT = some e from h)
      obtain ⟨a, xs, rfl, m, h1, h2⟩ := r
      exact ⟨a, xs, rfl, nr m h1, h1, frz_T ih q h2⟩
    | obj c ds =>
      obtain ⟨es, q, rfl⟩ := omap (show (mapO (sndO (frz S n)) ds).map (D.obj c) = some e from h)
      obtain ⟨a, dx, xs, rfl, m, h1, h2⟩ := r
      exact ⟨a, dx, xs, rfl, nn m h1, h1, frz_F ih q h2⟩
    | exo c ds =>
      obtain ⟨es, q, rfl⟩ := omap (show (mapO (sndO (frz S n)) ds).map (D.exo c) = some e from h)
      obtain ⟨a, dd, xs, rfl, m, h1, m2, z, h3⟩ := r
      exact ⟨a, dd, xs, rfl, nn m h1, h1, fun y q => ⟨nn (m2 y q).1 (m2 y q).2, (m2 y q).2⟩, z, frz_F ih q h3⟩
    | xcp a b c => cases h
    | tab a b c => exact (show False from r).elim
    | own k =>
      obtain ⟨a, ha, rfl⟩ := r
      have hm := List.mem_of_getElem? ha
      simp only [frz] at h
      cases q : S[k]? with
      | none => simp only [q] at h; cases h
      | some d0 =>
        have c := w.cell k a d0 ha q
        simp only [q] at h
        cases d0 <;> try (cases h)
        case lst ds =>
          obtain ⟨es, q2, rfl⟩ := omap h
          obtain ⟨xs, h1, h2⟩ := c
          exact ⟨a, xs, rfl, hl a hm, h1, frz_list ih q2 h2⟩
        case dK ds =>
          obtain ⟨es, q2, rfl⟩ := omap h
          obtain ⟨xs, h1, h2⟩ := c
          exact ⟨a, xs, rfl, hl a hm, .inl h1, frz_K ih q2 h2⟩
        case dT ds =>
          obtain ⟨es, q2, rfl⟩ := omap h
          obtain ⟨xs, h1, h2⟩ := c
          exact ⟨a, xs, rfl, hl a hm, .inl h1, frz_T ih q2 h2⟩
        case obj cn ds =>
          obtain ⟨es, q2, rfl⟩ := omap h
          obtain ⟨dx, xs, h1, h2⟩ := c
          exact ⟨a, dx, xs, rfl, hl a hm, h1, frz_F ih q2 h2⟩
end

/-! ### a def whose store is its own -/
/-- the arguments; were there owned lists among them -/
def frzA (S : Sto) : List D → Option (List D × Bool)
  | [] => some ([], false)
  | d :: ds => match frzA S ds with
    | none => none
    | some (es, b) => if nown d = true then some (d :: es, b) else (match d with
      | .own k => (match S[k]? with
        | some (.lst xs) => if nowns xs = true then some (.lst xs :: es, true) else none
        | _ => none)
      | _ => none)
def outD (b : Bool) (S' : Sto) (d : D) : Option D := (if nown d = true then some d else frz S' 50 d).bind fun e => if nown e = true ∧ (b = true → nolst e = true) then some e else none
def outF (b : Bool) (S' : Sto) : List (Str × D) → Option (List (Str × D)) := mapO (sndO (outD b S'))
def pureF (F : FD) : FD := fun ds S => match frzA S ds with
  | none => .bad
  | some (es, b) => (match F es [] with
    | .ok d S' => (match outD b S' d with
      | some e => .ok e S
      | none => .bad)
    | .exc x S' => (match outF b S' x.fs with
      | some fs => .exc ⟨x.c, fs⟩ S
      | none => .bad)
    | .bad => .bad)
/-- the addresses of the owned lists that are handed in -/
def own0 (O : Ow) (P : List Addr) : Ow := ⟨[], (O.l ++ O.u).filter fun a => decide (a ∉ P)⟩
section
variable {K : PySem.W.Frag} {O : Ow} {H : Hp} {S : Sto}
theorem own0_no {P : List Addr} {a : Addr} (h : O.no a) : (own0 O P).no a := ⟨by simp [own0], fun z => by
  have := (List.mem_filter.mp z).1
  rcases List.mem_append.mp this with z | z
  · exact h.1 z
  · exact h.2 z⟩
theorem own0_in {P : List Addr} {a : Addr} (h : a ∈ P) : (own0 O P).no a := ⟨by simp [own0], fun z => by
  have := (List.mem_filter.mp z).2
  simp at this
  exact this h⟩
theorem cap_in {P : List Addr} : Cap false O (own0 O P) H := fun a o n _ _ => own0_no n
theorem rep_in {P : List Addr} {d : D} {v : V} (h : nown d = true) (r : Rep K O H d v) : Rep K (own0 O P) H d v := r.cap cap_in (fun _ _ _ n _ => own0_no n) h (fun e => nomatch e)
theorem reps_in {P : List Addr} {d : List D} {v : List V} (h : nowns d = true) (r : Reps K O H d v) : Reps K (own0 O P) H d v := r.cap cap_in (fun _ _ _ n _ => own0_no n) h (fun e => nomatch e)
theorem frzA_rep (w : WF K O H S) : ∀ {ds es : List D} {b : Bool} {vs : List V}, frzA S ds = some (es, b) → Reps K O H ds vs → ∃ P : List Addr, (b = false → P = []) ∧ (∀ p ∈ P, p ∈ O.l ∧ ∃ xs, H p = some (.lst xs)) ∧ ∀ P', (∀ p ∈ P, p ∈ P') → Reps K (own0 O P') H es vs
  | [], _, _, _, h, r => by cases h; exact ⟨[], fun _ => rfl, fun _ h => (nomatch h), fun _ _ => r⟩
  | d :: ds, es, b, vs, h, r => by
    obtain ⟨v, vr, rfl, r1, r2⟩ := r
    simp only [frzA] at h
    cases q : frzA S ds with
    | none => simp only [q] at h; cases h
    | some p =>
      obtain ⟨es', b'⟩ := p
      obtain ⟨P, h1, h2, h3⟩ := frzA_rep w q r2
      simp only [q] at h
      by_cases hn : nown d = true
      · rw [if_pos hn] at h
        cases h
        exact ⟨P, h1, h2, fun P' hp => ⟨v, vr, rfl, rep_in hn r1, h3 P' hp⟩⟩
      · rw [if_neg hn] at h
        cases d <;> try (cases h)
        rename_i k
        obtain ⟨a, ha, rfl⟩ := r1
        simp only at h
        cases q2 : S[k]? with
        | none => simp only [q2] at h; cases h
        | some d0 =>
          have c := w.cell k a d0 ha q2
          simp only [q2] at h
          cases d0 <;> try (cases h)
          rename_i xs
          simp only at h
          by_cases hx : nowns xs = true
          · rw [if_pos hx] at h
            cases h
            obtain ⟨ys, e1, e2⟩ := c
            refine ⟨a :: P, fun e => (nomatch e), fun p hp => ?_, fun P' hp => ⟨.ref a, vr, rfl, ⟨a, ys, rfl, own0_in (hp a List.mem_cons_self), e1, reps_in hx e2⟩, h3 P' fun p z => hp p (List.mem_cons_of_mem _ z)⟩⟩
            rcases List.mem_cons.mp hp with rfl | hp
            · exact ⟨List.mem_of_getElem? ha, ys, e1⟩
            · exact h2 p hp
          · rw [if_neg hx] at h; cases h
theorem own0_wf (w : WF K O H S) (P : List Addr) : WF K (own0 O P) H [] := by
  refine ⟨.nil, rfl, fun k a d h => by simp [own0] at h, fun a ha => ⟨by simp [own0], ?_⟩⟩
  have hm := (List.mem_filter.mp ha).1
  rcases List.mem_append.mp hm with z | z
  · obtain ⟨k, hk⟩ := List.mem_iff_getElem?.mp z
    have hl : k < S.length := by rw [w.len]; exact (List.getElem?_eq_some_iff.mp hk).1
    have c := w.cell k a S[k] hk (by simp [hl])
    cases q : S[k] <;> rw [q] at c <;> simp only [Cell] at c
    all_goals first
      | exact c.elim
      | (obtain ⟨xs, c, _⟩ := c; exact ⟨_, c, (fun _ z => by cases z), (fun _ _ z => by cases z), (fun _ z => by cases z)⟩)
      | (obtain ⟨dx, xs, c, _⟩ := c; exact ⟨_, c, (fun _ z => by cases z), (fun _ _ z => by cases z), (fun _ z => by cases z)⟩)
  · exact (w.hid a z).2
/-- behind: what stood stands -/
theorem own0_ext {P : List Addr} {O' : Ow} {H' : Hp} (e : Ext (own0 O P) H O' H') : Ext O H O H' :=
  ⟨⟨[], by simp, fun _ h => by cases h⟩, ⟨[], by simp, fun _ h => by cases h⟩, fun a o _ h => e.keep a o (by simp [own0]) h, e.tups, e.there⟩
theorem own0_back (w : WF K O H S) {P : List Addr} {O' : Ow} {H' : Hp} (e : Ext (own0 O P) H O' H') : WF K O H' S := by
  have x := (own0_ext e).w w
  refine ⟨w.nd, w.len, fun k a d h1 h2 => (w.cell k a d h1 h2).mono x ?_, fun a ha => ?_⟩
  · cases q : H a with
    | none => exact absurd q (w.there a (.inl (List.mem_of_getElem? h1)))
    | some o => exact e.keep a o (by simp [own0]) q
  · obtain ⟨n, o, h, s⟩ := w.hid a ha
    exact ⟨n, o, e.keep a o (by simp [own0]) h, s⟩
theorem own0_cap (w : WF K O H S) {P : List Addr} (hP : ∀ p ∈ P, p ∈ O.l ∧ ∃ xs, H p = some (.lst xs)) {b : Bool} (hb : b = false → P = []) {O' : Ow} {H' : Hp} (e : Ext (own0 O P) H O' H') : Cap b O' O H' := by
  intro a o n h hf
  obtain ⟨m, q, _⟩ := e.preu
  have nu : a ∉ (own0 O P).u := fun z => n.2 (by rw [q]; exact List.mem_append_right _ z)
  by_cases hp : a ∈ P
  · cases b with
    | false => rw [hb rfl] at hp; cases hp
    | true =>
      obtain ⟨_, xs, hx⟩ := hP a hp
      rw [e.keep a _ (by simp [own0]) hx] at h
      exact absurd (Option.some.inj h).symm (hf rfl xs)
  · have : a ∉ O.l ++ O.u := fun z => nu (List.mem_filter.mpr ⟨z, by simpa using hp⟩)
    exact ⟨fun z => this (List.mem_append_left _ z), fun z => this (List.mem_append_right _ z)⟩
theorem own0_frz (w : WF K O H S) {P : List Addr} (hP : ∀ p ∈ P, p ∈ O.l ∧ ∃ xs, H p = some (.lst xs)) {O' : Ow} {H' : Hp} (e : Ext (own0 O P) H O' H') : ∀ a o xs, O'.no a → H' a = some (.frz o (.lst xs)) → O.no a := by
  intro a o xs n h
  obtain ⟨m, q, _⟩ := e.preu
  have nu : a ∉ (own0 O P).u := fun z => n.2 (by rw [q]; exact List.mem_append_right _ z)
  have wb := own0_back w e
  exact ⟨fun z => wb.nofrz a (.inl z) _ _ h, fun z => wb.nofrz a (.inr z) _ _ h⟩
theorem out_rep (w : WF K O H S) {P : List Addr} (hP : ∀ p ∈ P, p ∈ O.l ∧ ∃ xs, H p = some (.lst xs)) {b : Bool} (hb : b = false → P = []) {O' : Ow} {H' : Hp} (e : Ext (own0 O P) H O' H') {S' : Sto} (w' : WF K O' H' S') {d d' : D} {v : V} (h : outD b S' d = some d') (r : Rep K O' H' d v) : Rep K O H' d' v := by
  unfold outD at h
  have key : ∀ {x : D}, nown x = true ∧ (b = true → nolst x = true) → Rep K ⟨[], O'.u⟩ H' x v → Rep K O H' x v := fun {x} hx rx => by
    refine rx.cap (fl := b) (fun a o n ho hf => ?_) (fun a o xs n ho => ?_) hx.1 hx.2
    · by_cases hm : a ∈ O'.l
      · obtain ⟨m, q, hm2⟩ := e.pre
        have : a ∈ m := by rw [q] at hm; simpa [own0] using hm
        have hn := hm2 a this
        exact ⟨fun z => w.there a (.inl z) hn, fun z => w.there a (.inr z) hn⟩
      · exact own0_cap w hP hb e a o ⟨hm, n.2⟩ ho hf
    · by_cases hm : a ∈ O'.l
      · exact absurd ho (w'.nofrz a (.inl hm) _ _)
      · exact own0_frz w hP e a o xs ⟨hm, n.2⟩ ho
  by_cases hn : nown d = true
  · rw [if_pos hn] at h
    simp only [Option.bind_some] at h
    split at h
    · rename_i hx
      cases h
      have cc : Cap false O' ⟨[], O'.u⟩ H' := fun a o n _ _ => ⟨by simp, n.2⟩
      exact key hx (Rep.cap cc (fun a o xs n _ => ⟨by simp, n.2⟩) hn (fun z => nomatch z) r)
    · cases h
  · rw [if_neg hn] at h
    cases q : frz S' 50 d with
    | none => rw [q] at h; cases h
    | some x =>
      rw [q] at h
      simp only [Option.bind_some] at h
      split at h
      · rename_i hx
        cases h
        exact key hx (frz_rep w' (O2 := ⟨[], O'.u⟩) (fun a ha => ⟨by simp, fun z => (w'.hid a z).1 ha⟩) (fun a n _ => ⟨by simp, n.2⟩) 50 d _ v q r)
      · cases h
theorem out_repF (w : WF K O H S) {P : List Addr} (hP : ∀ p ∈ P, p ∈ O.l ∧ ∃ xs, H p = some (.lst xs)) {b : Bool} (hb : b = false → P = []) {O' : Ow} {H' : Hp} (e : Ext (own0 O P) H O' H') {S' : Sto} (w' : WF K O' H' S') :
    ∀ {fs gs : List (Str × D)} {vs : List (Str × V)}, outF b S' fs = some gs → RepF K O' H' fs vs → RepF K O H' gs vs :=
  fun h r => frz_F (fun _ _ _ q rr => out_rep w hP hb e w' q rr) h r
end
theorem sp_pure {K : PySem.W.Frag} {n : Nat} {F : FD} {vs : List V} {H : Hp} {Q : VK} {E : XK} (h : spD K n (pureF F) vs H Q E) : spD K n F vs H Q E := by
  obtain ⟨O, S, ds, w, r, hl, h⟩ := h
  unfold pureF at h
  cases q : frzA S ds with
  | none => rw [q] at h; exact h.elim
  | some p =>
    obtain ⟨es, b⟩ := p
    obtain ⟨P, hb, hP, hr⟩ := frzA_rep w q r
    have r2 := hr P fun _ z => z
    rw [q] at h
    simp only at h
    refine ⟨own0 O P, [], es, own0_wf w P, r2, by rw [r2.length, ← r.length]; exact hl, ?_⟩
    cases qF : F es [] with
    | bad => rw [qF] at h; exact h.elim
    | ok d S' =>
      rw [qF] at h
      simp only at h
      intro O' H' v e w' rv
      cases qo : outD b S' d with
      | none => rw [qo] at h; exact h.elim
      | some d' =>
        rw [qo] at h
        exact h O H' v (own0_ext e) (own0_back w e) (out_rep w hP hb e w' qo rv)
    | exc x S' =>
      rw [qF] at h
      simp only at h
      intro O' H' cls dx e w' rx
      cases qo : outF b S' x.fs with
      | none => rw [qo] at h; exact h.elim
      | some fs =>
        rw [qo] at h
        obtain ⟨rc, a, us, e1, e2, e3⟩ := rx
        exact h O H' cls dx (own0_ext e) (own0_back w e) ⟨rc, a, us, e1, e2, out_repF w hP hb e w' qo e3⟩
theorem FnGd.pure {P : Program} {w : World} {K : PySem.W.Frag} {mg : Str → Option Value} {base : Heap} {k n : Nat} {f : Addr} {fd : FuncData} {ps : List Str} {F : FD} (G : FnGd P w K mg base k f fd ps (spD K n F)) : FnGd P w K mg base k f fd ps (spD K n (pureF F)) :=
  ⟨fun vs H Q E h => G.len vs H Q E (sp_pure h), fun A outer s H args us vs Q E hr gd e0 b r h => G.run A outer s H args us vs Q E hr gd e0 b r (sp_pure h)⟩
theorem FnG.pure {P : Program} {w : World} {K : PySem.W.Frag} {mg : Str → Option Value} {base : Heap} {k n : Nat} {x : Str} {F : FD} (G : FnG P w K mg base k x n F) : FnG P w K mg base k x n (pureF F) := by
  obtain ⟨⟨fd, ps, h1, h2⟩, gl, kp⟩ := G
  exact ⟨⟨fd, ps, h1.pure, h2⟩, gl, kp⟩
end DE

set_option maxHeartbeats 4000000
namespace DE
open PySem PySem.Spec PyProof.Rows L2
/-! ### instances -/
def objAt (S : Sto) : D → Option (Str × List (Str × D))
  | .obj c fs => some (c, fs)
  | .own k => (match S[k]? with
    | some (.obj c fs) => some (c, fs)
    | _ => none)
  | _ => none
theorem objAt_rep {K : PySem.W.Frag} {O : Ow} {H : Hp} {ρ : DE.Env} {σ : L2.St} {S : Sto} {d : D} {v : V} {c : Str} {fs : List (Str × D)} (st : Stt K O H ρ σ S) (h : objAt S d = some (c, fs)) (r : Rep K O H d v) :
    ∃ a dx vs, v = .ref a ∧ H a = some (.ins (He.ga K c) dx vs) ∧ RepF K O H fs vs := by
  cases d <;> try (cases h)
  · obtain ⟨a, dx, vs, rfl, _, h1, h2⟩ := r
    exact ⟨a, dx, vs, rfl, h1, h2⟩
  · rename_i k
    obtain ⟨a, ha, rfl⟩ := r
    simp only [objAt] at h
    cases q : S[k]? with
    | none => simp only [q] at h; cases h
    | some d0 =>
      have c0 := st.wf.cell k a d0 ha q
      simp only [q] at h
      cases d0 <;> try (cases h)
      obtain ⟨dx, vs, h1, h2⟩ := c0
      exact ⟨a, dx, vs, rfl, h1, h2⟩
theorem repF_none {K : PySem.W.Frag} {O : Ow} {H : Hp} {f : Str} : ∀ {fs : List (Str × D)} {vs : List (Str × V)}, RepF K O H fs vs → fs.lookup f = none → vs.lookup f = none
  | [], _, r, _ => by cases r; rfl
  | (k, d0) :: fs, _, h, e => by
    obtain ⟨v, vr, rfl, h1, h2⟩ := h
    rw [List.lookup_cons] at e ⊢
    cases q : f == k with
    | true => rw [q] at e; cases e
    | false => rw [q] at e; exact repF_none h2 e
section
variable {X : Cx} {W : WX} {x m f : Str} {p pos apos : Pos} {e o : Expr} {es : List Expr} {j k n : Nat} {fo : ME} {fa : MA} {F : FD}
/-! fields read -/
/-- cs: the classes that may stand there -/
def dFld (f : Str) (cs : List Str) (g : ME) : ME := fun ρ S => (g ρ S).bind fun d S1 => match objAt S1 d with
  | some (c, fs) => if c ∈ cs then (match fs.lookup f with
    | some d => .ok d S1
    | none => .bad) else .bad
  | none => .bad
theorem de_fld {cs : List Str} (ho : DE X W o fo) (hc : ∀ c ∈ cs, Cls X.K (He.ga X.K c) ∧ NoAttr X.K (He.ga X.K c) f) (hb : attributeBase o f X.env (eval o X.env) = eval o X.env := by rfl) : DE X W (.Attribute o f pos) (dFld f cs fo) :=
  ⟨PE.imp (pe_fld ho.pe hb) fun σ H Q ⟨O, ρ, S, st, h⟩ => ⟨O, ρ, S, st, After.seq h fun d S1 O1 H1 v e1 st1 r1 h1 => by
    cases q : objAt S1 d with
    | none => simp only [q] at h1; exact h1.elim
    | some z =>
      obtain ⟨c, fs⟩ := z
      simp only [q] at h1
      by_cases hm : c ∈ cs
      · rw [if_pos hm] at h1
        obtain ⟨a, dx, vs, rfl, ha, rf⟩ := objAt_rep st1 q r1
        cases q2 : fs.lookup f with
        | none => simp only [q2] at h1; exact h1.elim
        | some d2 =>
          simp only [q2] at h1
          obtain ⟨u, hu, ru⟩ := repF_lookup rf q2
          exact ⟨a, _, dx, vs, u, rfl, ha, (hc c hm).1, (hc c hm).2, hu, After.ok h1 st1 ru⟩
      · rw [if_neg hm] at h1; exact h1.elim⟩⟩
/-! fields stored -/
def putD (f : Str) (d : D) : List (Str × D) → List (Str × D)
  | [] => [(f, d)]
  | (g, x) :: r => if g = f then (g, d) :: r else (g, x) :: putD f d r
theorem RepF.put {K : PySem.W.Frag} {O : Ow} {H : Hp} {f : Str} {d : D} {v : V} (r : Rep K O H d v) : ∀ {fs : List (Str × D)} {vs : List (Str × V)}, RepF K O H fs vs → RepF K O H (putD f d fs) (putF f v vs)
  | [], _, h => by cases h; exact ⟨v, [], rfl, r, rfl⟩
  | (g, x) :: fs, _, h => by
    obtain ⟨u, vr, rfl, h1, h2⟩ := h
    by_cases c : g = f
    · simp only [putD, putF, if_pos c]; exact ⟨v, vr, rfl, r, h2⟩
    · simp only [putD, putF, if_neg c]; exact ⟨u, _, rfl, h1, RepF.put r h2⟩
theorem RepF.length {K : PySem.W.Frag} {O : Ow} {H : Hp} : ∀ {fs : List (Str × D)} {vs : List (Str × V)}, RepF K O H fs vs → fs.length = vs.length
  | [], _, h => by cases h; rfl
  | (_, _) :: _, _, h => by
    obtain ⟨u, vr, rfl, h1, h2⟩ := h
    simp [RepF.length h2]
/-- o.f = e -/
def sFldO (f : Str) (cs : List Str) (fo fe : ME) : MS := fun ρ S => (fe ρ S).stm ρ fun d S1 => (fo ρ S1).stm ρ fun ob S2 => match ob with
  | .own k => (match S2[k]? with
    | some (.obj c fs) => if c ∈ cs ∧ fs.length < 1000 then .nx ρ (S2.set k (.obj c (putD f d fs))) else .bad
    | _ => .bad)
  | _ => .bad
theorem ds_fldO {ap : Pos} {fe : ME} {cs : List Str} (ho : DE X W o fo) (he : DE X W e fe) (hc : ∀ c ∈ cs, Cls X.K (He.ga X.K c) ∧ NoAttr X.K (He.ga X.K c) f) (hs : swapsWith e (some (.Attribute o f ap)) pos.line X.env = pure false := by rfl) :
    DS X W (.Assign [.Attribute o f ap] e pos) (sFldO f cs fo fe) := by
  refine ⟨PS.imp (ps_fld ho.pe he.pe hs) fun D' σ H ⟨O, ρ, S, st, h⟩ => ⟨O, ρ, S, st, AfterS.seqE h fun d S1 O1 H1 v e1 st1 r1 h1 => ⟨O1, ρ, S1, st1, AfterS.seqE h1 fun ob S2 O2 H2 u e2 st2 r2 h2 => ?_⟩⟩⟩
  cases ob <;> try exact h2.elim
  rename_i k
  simp only at h2
  cases q : S2[k]? with
  | none => simp only [q] at h2; exact h2.elim
  | some d0 =>
    simp only [q] at h2
    cases d0 <;> try exact h2.elim
    rename_i c fs
    simp only at h2
    by_cases hm : c ∈ cs ∧ fs.length < 1000
    · rw [if_pos hm] at h2
      obtain ⟨a, ha, rfl⟩ := r2
      obtain ⟨dx, vs, hx, rf⟩ := st2.wf.cell k a _ ha q
      refine ⟨a, _, dx, vs, rfl, hx, (hc c hm.1).1, (hc c hm.1).2, by rw [← RepF.length rf]; exact hm.2, ?_⟩
      have rd := r1.mono (e2.w st1.wf)
      obtain ⟨e3, st3⟩ := st2.mut (o := .ins (He.ga X.K c) dx (putF f v vs)) (d := .obj c (putD f d fs)) ha fun e => ⟨dx, _, upd_same, RepF.mono (e.w st2.wf) (RepF.put rd rf)⟩
      exact h2 O2 _ σ e3 st3
    · rw [if_neg hm] at h2; exact h2.elim
/-! ### defs at an address, with a promise over data -/
theorem sp_of {σ : L2.St} {H : Hp} {O : Ow} {ρ : DE.Env} {S : Sto} {ds : List D} {vs : List V} {Q : VK} (st : Stt X.K O H ρ σ S) (r : Reps X.K O H ds vs) (hl : ds.length = n) (h : After X.K W (Rep X.K) ρ σ O H Q (F ds S)) : spD X.K n F vs H Q (WE W σ) := by
  refine ⟨O, S, ds, st.wf, r, hl, ?_⟩
  cases q : F ds S with
  | ok d S' => rw [q] at h; exact fun O' H' v e wf r => h O' H' v e ⟨wf, st.env.mono (e.w st.wf)⟩ r
  | exc y S' => rw [q] at h; exact fun O' H' cls dx e wf r => h O' H' cls dx e ⟨wf, st.env.mono (e.w st.wf)⟩ r
  | bad => rw [q] at h; exact h
structure FnA (P : Program) (w : World) (K : PySem.W.Frag) (mg : Str → Option Value) (base : Heap) (k : Nat) (f : Addr) (n : Nat) (F : FD) : Prop where
  ok : ∃ fd ps, FnGd P w K mg base k f fd ps (spD K n F) ∧ Binds K fd ps []
theorem FnA.mono {P : Program} {w : World} {K : PySem.W.Frag} {mg : Str → Option Value} {base : Heap} {a : Addr} (G : FnA P w K mg base k a n F) (h : k ≤ j) : FnA P w K mg base j a n F := by
  obtain ⟨fd, ps, g, b⟩ := G.ok
  exact ⟨fd, ps, ⟨g.len, fun A outer s H args us vs Q E hr => g.run A outer s H args us vs Q E (hr.mono h)⟩, b⟩
theorem FnA.pure {P : Program} {w : World} {K : PySem.W.Frag} {mg : Str → Option Value} {base : Heap} {a : Addr} (G : FnA P w K mg base k a n F) : FnA P w K mg base k a n (pureF F) := by
  obtain ⟨fd, ps, g, b⟩ := G.ok
  exact ⟨fd, ps, g.pure, b⟩
/-- a method of a class of the program -/
structure MethA (P : Program) (w : World) (K : PySem.W.Frag) (mg : Str → Option Value) (base : Heap) (k : Nat) (c m : Str) (n : Nat) (F : FD) : Prop where
  fn : FnA P w K mg base k (He.ma K (He.ga K c) m) n F
  me : Meth K (He.ga K c) m (He.ma K (He.ga K c) m)
  cl : Cls K (He.ga K c)
/-- o.m(e, ..): tb tells by the class which def -/
def dMeth (m : Str) (n : Nat) (tb : List (Str × FD)) (fo : ME) (fa : MA) : ME := fun ρ S => (fo ρ S).bind fun d S1 => match objAt S1 d with
  | some (c, fs) => (match fs.lookup m, tb.lookup c with
    | none, some F => (fa ρ S1).bind fun ds S2 => if ds.length + 1 = n then F (d :: ds) S2 else .bad
    | _, _ => .bad)
  | none => .bad
/-- what stands behind the receiver -/
def rMeth (X : Cx) (W : WX) (m : Str) (n : Nat) (tb : List (Str × FD)) (fa : MA) (σ : L2.St) (Q : VK) : V → Hp → Prop := fun x H1 => ∃ c F a dx vs, x = .ref a ∧ H1 a = some (.ins (He.ga X.K c) dx vs) ∧ vs.lookup m = none ∧ tb.lookup c = some F ∧
  tA X.K W fa σ H1 fun us H2 => spD X.K n F (x :: us) H2 Q (WE W σ)
theorem meth_imp {tb : List (Str × FD)} {σ : L2.St} {H : Hp} {Q : VK} (h : tE X.K W (dMeth m n tb fo fa) σ H Q) : tE X.K W fo σ H (rMeth X W m n tb fa σ Q) := by
  obtain ⟨O, ρ, S, st, h⟩ := h
  refine ⟨O, ρ, S, st, After.seq h fun d S1 O1 H1 v e1 st1 r1 h1 => ?_⟩
  cases q : objAt S1 d with
  | none => simp only [q] at h1; exact h1.elim
  | some z =>
    obtain ⟨c, fs⟩ := z
    simp only [q] at h1
    cases q1 : fs.lookup m with
    | some y => simp only [q1] at h1; exact h1.elim
    | none =>
      cases q2 : tb.lookup c with
      | none => simp only [q1, q2] at h1; exact h1.elim
      | some F =>
        simp only [q1, q2] at h1
        obtain ⟨a, dx, vs, rfl, ha, rf⟩ := objAt_rep st1 q r1
        refine ⟨c, F, a, dx, vs, rfl, ha, repF_none rf q1, q2, O1, ρ, S1, st1, After.seq h1 fun ds S2 O2 H2 us e2 st2 r2 h2 => ?_⟩
        by_cases hl : ds.length + 1 = n
        · rw [if_pos hl] at h2
          exact sp_of (ds := d :: ds) st2 ⟨_, _, rfl, r1.mono (e2.w st1.wf), r2⟩ hl h2
        · rw [if_neg hl] at h2; exact h2.elim
/-- the table's defs keep their promises -/
def MTab (X : Cx) (j : Nat) (m : Str) (n : Nat) (tb : List (Str × FD)) : Prop := ∀ c F, tb.lookup c = some F → MethA X.prog X.w X.K X.mg X.base j c m n F
theorem mt_nil : MTab X j m n [] := fun c F h => by cases h
theorem mt_cons {c : Str} {tb : List (Str × FD)} (G : MethA X.prog X.w X.K X.mg X.base k c m n F) (T : MTab X j m n tb) (h : k ≤ j := by decide) : MTab X j m n ((c, F) :: tb) := fun c' F' e => by
  rw [List.lookup_cons] at e
  cases q : c' == c with
  | true =>
    rw [q] at e
    cases e
    rw [eq_of_beq q]
    exact ⟨G.fn.mono h, G.me, G.cl⟩
  | false => rw [q] at e; exact T c' F' e
theorem de_meth {pl : Sem Bool} {tb : List (Str × FD)} (ho : DE X W o fo) (T : MTab X j m n tb) (hr : Room j X.A) (gd : X.A.guards = some []) (tk : Takes X W) (ha : DA X W (e :: es) fa)
    (hst : starEach (e :: es) X.env = (false, eval e X.env) :: starEach es X.env := by rfl) (hpl : (backTo pos (starEach es X.env)).any (·.1) = false := by rfl)
    (ht : eval (.Call (.Attribute o m apos) (e :: es) [] pos) X.env = (do
      let ov ← eval o X.env
      standAt apos.atName
      let (f, first) ← holding [ov] (getMethod ov m pl)
      callWith pos f first (backTo pos (starEach (e :: es) X.env)) (backToKw pos (keywordEach [] X.env))) := by rfl) :
    DE X W (.Call (.Attribute o m apos) (e :: es) [] pos) (dMeth m n tb fo fa) := by
  refine ⟨⟨fun pins s σ H Q I h => ?_⟩⟩
  refine PySem.W.methodCall_KW (pl := pl) (thn (ho.pe.run pins s σ H _ I (meth_imp h)) fun u s1 ⟨x, H1, I1, rx, c, F, a, dx, fs, ex, ea, l, ec, q⟩ => ?_) ht
  subst ex
  obtain rfl : u = Value.ref a := rx
  obtain ⟨fn, me, cl⟩ := T c F ec
  obtain ⟨fd, ps, g, b⟩ := fn.ok
  refine getmeth_ok I1 ea cl me l ?_
  refine PySem.W.callWith_K (first := [.ref a]) (h₀ := X.base) I.ok.mod.kin me.kp (thn (ha.pa.run pos pins s1 σ H1 _ I1 q) fun us s2 ⟨vs, H2, I2, r, q2⟩ => ⟨I2.kIn, ?_⟩) hst hpl
  exact run_G (us := Value.ref a :: us) (vs := V.ref a :: vs) g hr gd b (passAt tk σ) I2 (.cons rfl r) q2
theorem de_meth0 {pl : Sem Bool} {tb : List (Str × FD)} (ho : DE X W o fo) (T : MTab X j m n tb) (hr : Room j X.A) (gd : X.A.guards = some []) (tk : Takes X W)
    (ht : eval (.Call (.Attribute o m apos) [] [] pos) X.env = (do
      let ov ← eval o X.env
      standAt apos.atName
      let (f, first) ← holding [ov] (getMethod ov m pl)
      callWith pos f first (backTo pos (starEach [] X.env)) (backToKw pos (keywordEach [] X.env))) := by rfl) :
    DE X W (.Call (.Attribute o m apos) [] [] pos) (dMeth m n tb fo aNil) := by
  refine ⟨⟨fun pins s σ H Q I h => ?_⟩⟩
  refine PySem.W.methodCall_KW (pl := pl) (thn (ho.pe.run pins s σ H _ I (meth_imp h)) fun u s1 ⟨x, H1, I1, rx, c, F, a, dx, fs, ex, ea, l, ec, O, ρ, S, st, q⟩ => ?_) ht
  subst ex
  obtain rfl : u = Value.ref a := rx
  obtain ⟨fn, me, cl⟩ := T c F ec
  obtain ⟨fd, ps, g, b⟩ := fn.ok
  refine getmeth_ok I1 ea cl me l ?_
  have q2 := After.ok (d := ([] : List D)) (v := ([] : List V)) q st rfl
  exact PySem.W.callWith_K0 (first := [.ref a]) I1.kIn me.kp (run_G (us := [Value.ref a]) (vs := [V.ref a]) g hr gd b (passAt tk σ) I1 (.cons rfl .nil) q2)
end
end DE

set_option maxHeartbeats 4000000
namespace DE
open PySem PySem.Spec PyProof.Rows L2
/-! ### what may be called: a def, a class -/
/-- how a call binds, over data -/
structure KBD (K : PySem.W.Frag) (fd : FuncData) (ps : List Str) (n : Nat) (ks : List Str) (g : List D → List D → List D) : Prop where
  kb : ∃ gv gV, KBn K fd ps n ks gv gV ∧ ∀ (O : Ow) (H : Hp) ds vs es zs, Reps K O H ds vs → Reps K O H es zs → Reps K O H (g ds es) (gV vs zs)
theorem KBD.of_binds {K : PySem.W.Frag} {fd : FuncData} {ps : List Str} (b : Binds K fd ps []) : KBD K fd ps ps.length [] fun ds es => ds ++ es :=
  ⟨fun us ws => us ++ ws, fun vs zs => vs ++ zs, ⟨fun s us ws X l1 l2 => by
    have : ws = [] := List.length_eq_zero_iff.mp l2
    subst this
    have e := b s us X (by simpa using l1)
    simpa using e, fun a b => a.append b⟩, fun O H ds vs es zs r1 r2 => r1.append r2⟩
/-- the callee at f, with n values and the keywords ks, keeps F (of the values, then the keywords' values) -/
def CalleeX (X : Cx) (k : Nat) (f : Addr) (n : Nat) (ks : List Str) (F : FD) : Prop :=
  ∀ (pins : List (Addr × Obj)) (σ : L2.St) (H : Hp) (s : Shared) (Q : VK) (E : L2.St → XK) (us ws : List Value) (vs zs : List V), Room k X.A → X.A.guards = some [] → PassesAt (L2.CX X.prog X.w) X σ (E σ) → Inv X pins σ H s → Vals vs us → Vals zs ws →
    us.length = n → ws.length = ks.length → spD X.K (n + ks.length) F (vs ++ zs) H Q (E σ) → wpAny (model X.prog X.w) X.A (call (.ref f) us (ks.zip ws)) (EP X pins σ Q) X.xe s
theorem CalleeX.pure {X : Cx} {k n : Nat} {f : Addr} {ks : List Str} {F : FD} (C : CalleeX X k f n ks F) : CalleeX X k f n ks (pureF F) :=
  fun pins σ H s Q E us ws vs zs hr gd px I r rz l1 l2 h => C pins σ H s Q E us ws vs zs hr gd px I r rz l1 l2 (sp_pure h)
theorem CalleeX.mono {X : Cx} {j k n : Nat} {f : Addr} {ks : List Str} {F : FD} (C : CalleeX X j f n ks F) (h : j ≤ k) : CalleeX X k f n ks F :=
  fun pins σ H s Q E us ws vs zs hr gd px I r rz l1 l2 q => C pins σ H s Q E us ws vs zs (hr.mono h) gd px I r rz l1 l2 q
/-- the parameters, from what is written -/
def bindF (n N : Nat) (g : List D → List D → List D) (F : FD) : FD := fun as S => if (g (as.take n) (as.drop n)).length = N then F (g (as.take n) (as.drop n)) S else .bad
theorem reps_split {K : PySem.W.Frag} {O : Ow} {H : Hp} {vs zs : List V} {as : List D} {n : Nat} (r : Reps K O H as (vs ++ zs)) (hl : vs.length = n) : Reps K O H (as.take n) vs ∧ Reps K O H (as.drop n) zs := by
  have a := r.take n
  have b := r.drop n
  rw [← hl, List.take_left] at a
  rw [← hl, List.drop_left] at b
  rw [← hl]
  exact ⟨a, b⟩
theorem callee_fn {X : Cx} {k n N : Nat} {f : Addr} {fd : FuncData} {ps ks : List Str} {F : FD} {g : List D → List D → List D} (G : FnGd X.prog X.w X.K X.mg X.base k f fd ps (spD X.K N F)) (B : KBD X.K fd ps n ks g) : CalleeX X k f n ks (bindF n N g F) := by
  intro pins σ H s Q E us ws vs zs hr gd px I r rz l1 l2 ⟨O, S, as, wf, ra, hl, h⟩
  obtain ⟨gv, gV, kb, hg⟩ := B.kb
  obtain ⟨r1, r2⟩ := reps_split ra (r.length.trans l1)
  have rg := hg O H _ _ _ _ r1 r2
  unfold bindF at h
  by_cases hN : (g (as.take n) (as.drop n)).length = N
  · rw [if_pos hN] at h
    refine wpAny_call (codeAny_mono (G.run X.A X.stack s H ⟨us, ks.zip ws⟩ (gv us ws) (gV vs zs) Q (E σ) hr gd I.env0 (kb.to s us ws I.kIn l1 l2) (kb.rel r rz) ⟨O, S, _, wf, rg, hN, h⟩) ?_)
    rintro (er | fl) s' z
    · exact px pins H s er s' I z
    · rcases fl with _ | _ | _ | u
      all_goals first
        | exact I.after z
        | exact z.elim
  · rw [if_neg hN] at h; exact h.elim
/-- a new instance of c -/
def makeF (c : Str) (F : FD) : FD := fun as S => match F (.own S.length :: as) (S ++ [.obj c []]) with
  | .ok .non S' => .ok (.own S.length) S'
  | .exc x S' => .exc x S'
  | _ => .bad
theorem callee_mk {X : Cx} {k n N : Nat} {c : Str} {fI : Addr} {fd : FuncData} {ps ks : List Str} {F : FD} {g : List D → List D → List D} (M : Mk X.K (He.ga X.K c) fI) (G : FnGd X.prog X.w X.K X.mg X.base k fI fd ps (spD X.K N F)) (B : KBD X.K fd ps (n + 1) ks g) :
    CalleeX X (k + 1) (He.ga X.K c) n ks (makeF c (bindF (n + 1) N g F)) := by
  intro pins σ H s Q E us ws vs zs hr gd px I r rz l1 l2 ⟨O, S, as, wf, ra, hl, h⟩
  obtain ⟨gv, gV, kb, hg⟩ := B.kb
  generalize hC : He.ga X.K c = C at *
  generalize ha : s.heap.objs.size = z at *
  have n1 : H (z + 1) = none := I.hok.fresh (by rw [ha]; exact Nat.le_succ _)
  have n0 : H z = none := I.hok.fresh (by rw [ha]; exact Nat.le_refl _)
  have ne : z ≠ z + 1 := Nat.ne_of_lt (Nat.lt_succ_self _)
  have I2 := Inv.made (C := C) I
  rw [ha] at I2
  have e1 : Ext O H O (upd H z (.own (z + 1))) := ext_new n0
  have st0 : Stt X.K O H [] [] S := ⟨wf, .nil⟩
  obtain ⟨e1, st1⟩ := st0.new (o := .own (z + 1)) n0
  have n2 : upd H z (.own (z + 1)) (z + 1) = none := by rw [upd_ne (Ne.symm ne)]; exact n1
  obtain ⟨e2, st2⟩ := st1.newO (o := .ins C z []) (d := .obj c []) n2 fun e => ⟨z, [], by rw [hC]; exact upd_same, rfl⟩
  have e12 := e1.trans e2
  have rs : Rep X.K (O.add (z + 1)) (upd (upd H z (.own (z + 1))) (z + 1) (.ins C z [])) (.own S.length) (.ref (z + 1)) := ⟨z + 1, by rw [wf.len]; exact getElem?_snoc _ _, rfl⟩
  have ra2 : Reps X.K (O.add (z + 1)) (upd (upd H z (.own (z + 1))) (z + 1) (.ins C z [])) (.own S.length :: as) (V.ref (z + 1) :: (vs ++ zs)) := ⟨_, _, rfl, rs, ra.mono (e12.w wf)⟩
  obtain ⟨r1, r2⟩ := reps_split (n := n + 1) (vs := V.ref (z + 1) :: vs) ra2 (congrArg Nat.succ (r.length.trans l1))
  have rg := hg _ _ _ _ _ _ r1 r2
  unfold makeF bindF at h
  by_cases hN : (g ((D.own S.length :: as).take (n + 1)) ((D.own S.length :: as).drop (n + 1))).length = N
  · rw [if_pos hN] at h
    have rv : Vals (V.ref (z + 1) :: vs) (Value.ref (z + 1) :: us) := .cons rfl r
    have q : spD X.K N F (gV (V.ref (z + 1) :: vs) zs) (upd (upd H z (.own (z + 1))) (z + 1) (.ins C z [])) (fun v H2 => v = .non ∧ Q (.ref (z + 1)) H2) (E σ) := by
      refine ⟨_, _, _, st2.wf, rg, hN, ?_⟩
      cases qF : F (g ((D.own S.length :: as).take (n + 1)) ((D.own S.length :: as).drop (n + 1))) (S ++ [.obj c []]) with
      | bad => rw [qF] at h; exact h.elim
      | exc x S' =>
        rw [qF] at h
        exact fun O' H' cls dx e w' rx => h O' H' cls dx (e12.trans e) w' rx
      | ok d S' =>
        rw [qF] at h
        cases d <;> try exact h.elim
        intro O' H' v e w' rv
        refine ⟨rv, h O' H' _ (e12.trans e) w' ⟨z + 1, e.at (by rw [wf.len]; exact getElem?_snoc _ _), rfl⟩⟩
    refine wpAny_call (make_map (f := fI) I.kIn M.makes M.init (beq_iff_eq.mp M.fn) ?_)
    rw [ha]
    refine codeAny_mono (G.run _ X.stack _ _ ⟨Value.ref (z + 1) :: us, ks.zip ws⟩ (gv (Value.ref (z + 1) :: us) ws) _ _ (E σ) (hr.make C us (ks.zip ws)) gd
      (I2.env0.make C us (ks.zip ws)) (kb.to _ (Value.ref (z + 1) :: us) ws I2.kIn (congrArg Nat.succ l1) l2) (kb.rel rv rz) q) fun r s' hq' => ?_
    cases r with
    | error e => exact px pins _ _ e s' I2 hq'
    | ok fl =>
      cases fl with
      | ret u =>
        obtain ⟨v, H', I3, rv, ev, q3⟩ := I2.after hq'
        subst ev
        exact ⟨rv, ⟨V.ref (z + 1), H', I3, rfl, q3⟩⟩
      | next => exact False.elim hq'
      | brk => exact False.elim hq'
      | cont => exact False.elim hq'
  · rw [if_neg hN] at h; exact h.elim
/-! ### the calls -/
structure DKw (X : Cx) (W : WX) (kws : List Keyword) (f : MA) : Prop where
  pk : PK X kws (tA X.K W f)
section
variable {X : Cx} {W : WX} {x : Str} {p pos kpos : Pos} {e : Expr} {es : List Expr} {kws : List Keyword} {j k n : Nat} {f : Addr} {ks : List Str} {fe : ME} {fa fk : MA} {F : FD} {nm : Option Str}
theorem dk_nil : DKw X W [] aNil := ⟨⟨fun pos pins s σ H Q I ⟨O, ρ, S, st, h⟩ => pk_nil.run pos pins s σ H Q I (After.ok h st rfl)⟩⟩
theorem dk_cons (ha : DE X W e fe) (hr : DKw X W kws fk) : DKw X W (⟨nm, e, kpos⟩ :: kws) (aCons fe fk) :=
  ⟨⟨fun pos pins s σ H Q I ⟨O, ρ, S, st, h⟩ => (pk_cons ha.pe hr.pk).run pos pins s σ H Q I ⟨O, ρ, S, st, After.seq h fun d S1 O1 H1 v e1 st1 r1 h1 => ⟨O1, ρ, S1, st1, After.seq h1 fun d2 S2 O2 H2 u e2 st2 r2 h2 =>
    After.ok h2 st2 ⟨v, u, rfl, r1.mono (e2.w st1.wf), r2⟩⟩⟩⟩⟩
def dCC (n : Nat) (F : FD) (fa : MA) : ME := fun ρ S => (fa ρ S).bind fun ds S1 => if ds.length = n then F ds S1 else .bad
def dCK (n m : Nat) (F : FD) (fa fk : MA) : ME := fun ρ S => (fa ρ S).bind fun ds S1 => (fk ρ S1).bind fun es S2 => if ds.length = n ∧ es.length = m then F (ds ++ es) S2 else .bad
theorem de_cc (C : CalleeX X k f n [] F) (hr : Room j X.A) (gd : X.A.guards = some []) (hg : Gl X x) (hm : X.mg x = some (.ref f)) (hk : PySem.W.keepIn X.K (.ref f) = true) (tk : Takes X W) (ha : DA X W (e :: es) fa) (hj : k ≤ j := by decide)
    (hdb : (x == ("__debug__" : Str)) = false := by decide) (he : starEach (e :: es) X.env = (false, eval e X.env) :: starEach es X.env := by rfl) (hpl : (backTo pos (starEach es X.env)).any (·.1) = false := by rfl) : DE X W (.Call (.Name x p) (e :: es) [] pos) (dCC n F fa) := by
  refine ⟨⟨fun pins s σ H Q I ⟨O, ρ, S, st, h⟩ => ?_⟩⟩
  refine wpAny_Call_Name_kw (ld_glob I hg hm ?_ hdb)
  have hq : tA X.K W fa σ H (fun vs H1 => vs.length = n ∧ spD X.K (n + ([] : List Str).length) F (vs ++ []) H1 Q (WE W σ)) := ⟨O, ρ, S, st, After.seq h fun ds S1 O1 H1 vs e1 st1 r1 h1 => by
    by_cases hl : ds.length = n
    · rw [if_pos hl] at h1
      rw [List.append_nil]
      exact ⟨r1.length.symm.trans hl, sp_of st1 r1 hl h1⟩
    · rw [if_neg hl] at h1; exact h1.elim⟩
  refine PySem.W.callWith_K (h₀ := X.base) I.ok.mod.kin hk (thn (ha.pa.run pos pins s σ H _ I hq) fun us s1 ⟨vs, H1, I1, r, hl, q⟩ => ⟨I1.kIn, ?_⟩) he hpl
  exact C pins σ H1 s1 Q (WE W) us [] vs [] (hr.mono hj) gd (passAt tk σ) I1 r .nil (r.length.symm.trans hl) rfl q
theorem de_cc0 (C : CalleeX X k f 0 [] F) (hr : Room j X.A) (gd : X.A.guards = some []) (hg : Gl X x) (hm : X.mg x = some (.ref f)) (hk : PySem.W.keepIn X.K (.ref f) = true) (tk : Takes X W) (hj : k ≤ j := by decide)
    (hdb : (x == ("__debug__" : Str)) = false := by decide) : DE X W (.Call (.Name x p) [] [] pos) (dCC 0 F aNil) := by
  refine ⟨⟨fun pins s σ H Q I ⟨O, ρ, S, st, h⟩ => ?_⟩⟩
  refine wpAny_Call_Name_kw (ld_glob I hg hm ?_ hdb)
  have h0 : After X.K W (Rep X.K) ρ σ O H Q (F [] S) := h
  exact PySem.W.callWith_K0 I.kIn hk (C pins σ H s Q (WE W) [] [] [] [] (hr.mono hj) gd (passAt tk σ) I .nil .nil rfl rfl (sp_of st (ds := []) rfl rfl h0))
theorem de_ck (C : CalleeX X k f n ks F) (hr : Room j X.A) (gd : X.A.guards = some []) (hg : Gl X x) (hm : X.mg x = some (.ref f)) (hk : PySem.W.keepIn X.K (.ref f) = true) (tk : Takes X W) (ha : DA X W (e :: es) fa) (hkw : DKw X W kws fk) (hj : k ≤ j := by decide)
    (hall : (backToKw pos (keywordEach kws X.env)).all (·.1.isSome) = true := by rfl) (hks : (backToKw pos (keywordEach kws X.env)).filterMap (·.1) = ks := by rfl)
    (hdb : (x == ("__debug__" : Str)) = false := by decide) (he : starEach (e :: es) X.env = (false, eval e X.env) :: starEach es X.env := by rfl)
    (hpl : ((backTo pos (starEach (e :: es) X.env)).any (·.1) || (backToKw pos (keywordEach kws X.env)).any (·.1.isNone)) = false := by rfl) : DE X W (.Call (.Name x p) (e :: es) kws pos) (dCK n ks.length F fa fk) := by
  refine ⟨⟨fun pins s σ H Q I ⟨O, ρ, S, st, h⟩ => ?_⟩⟩
  refine wpAny_Call_Name_kw (ld_glob I hg hm ?_ hdb)
  have hq : tA X.K W fa σ H (fun vs H1 => tA X.K W fk σ H1 fun zs H2 => vs.length = n ∧ zs.length = ks.length ∧ spD X.K (n + ks.length) F (vs ++ zs) H2 Q (WE W σ)) := ⟨O, ρ, S, st, After.seq h fun ds S1 O1 H1 vs e1 st1 r1 h1 => ⟨O1, ρ, S1, st1, After.seq h1 fun es S2 O2 H2 zs e2 st2 r2 h2 => by
    by_cases hl : ds.length = n ∧ es.length = ks.length
    · rw [if_pos hl] at h2
      exact ⟨r1.length.symm.trans hl.1, r2.length.symm.trans hl.2, sp_of st2 ((r1.mono (e2.w st1.wf)).append r2) (by rw [List.length_append, hl.1, hl.2]) h2⟩
    · rw [if_neg hl] at h2; exact h2.elim⟩⟩
  refine PySem.W.callWith_KW (h₀ := X.base) I.ok.mod.kin hk hall (thn (ha.pa.run pos pins s σ H _ I hq) fun us s1 ⟨vs, H1, I1, r, q⟩ => ?_) hpl he
  refine thn (hkw.pk.run pos pins s1 σ H1 _ I1 q) fun ws s2 ⟨zs, H2, I2, rz, l1, l2, q2⟩ => ⟨I2.kIn, ?_⟩
  rw [hks]
  exact C pins σ H2 s2 Q (WE W) us ws vs zs (hr.mono hj) gd (passAt tk σ) I2 r rz (r.length.symm.trans l1) (rz.length.symm.trans l2) q2
end
end DE

set_option maxHeartbeats 4000000
namespace DE
open PySem PySem.Spec PyProof.Rows L2
/-! ### own operators, at the library's level -/
section
variable {prog : Program} {w : World} {A : Around} {E : Value → Shared → Prop} {s : Shared} {K : PySem.W.Frag} {x C f : Addr} {ox : Obj} {od : Option Obj} {v : Value}
theorem own_contains {Q : Bool → Shared → Prop} (kin : K.In s.heap) (I : PySem.W.InstAt s.heap x ox C od) (me : Meth K C "__contains__" f)
    (h : wpAny (model prog w) A (call (.ref f) [.ref x, v]) (fun r s' => wpAny (model prog w) A (truthy r) Q E s') E s) : wpAny (model prog w) A (contains (.ref x) v) Q E s := by
  unfold contains
  have ask := PySem.W.looks_findIn (M := model prog w) kin me.at_
  refine wpAny_holding (wpAny_bind (wpAny_bind (I.type.here (ask.here ?_))))
  rw [if_neg (show ¬ _ from by simp)]
  exact wpAny_bind (PySem.W.unlessNone_K kin I me.at_ me.fn h)
theorem own_item {value slice : Expr} {i : Value} {Q : Value → Shared → Prop} (kin : K.In s.heap) (I : PySem.W.InstAt s.heap x ox C od) (me : Meth K C "__getitem__" f) (fi : PySem.W.fnIn K f = true)
    (h : wpAny (model prog w) A.in1 (call (.ref f) [.ref x, i]) Q E s) (hsl : subscripted slice true (.ref x) i = runValue (.builtin "lifetime.subscript" ⟨[.ref x, i], []⟩) := by with_unfolding_all rfl) :
    wpAny (model prog w) A (subscriptTail value slice (.ref x) i) Q E s := by
  have ask := PySem.W.looks_findIn (M := model prog w) kin me.at_
  unfold PySem.W.fnIn at fi
  cases q : K.lookup f with
  | none => rw [q] at fi; cases fi
  | some o =>
    obtain ⟨oc, odd, dt, osl⟩ := o
    rw [q] at fi
    cases dt <;> try (cases fi)
    unfold subscriptTail getitemInPython
    refine wpAny_bind (wpAny_bind (wpAny_bind (I.type.here (ask.here ?_))))
    refine wpAny_bind (wpAny_load (kin _ _ q) (wpAny_pure ?_))
    dsimp only
    rw [hsl]
    refine wpAny_bind (wpAny_runValue (codeAny_builtin PySem.W.entry_sub ?_))
    unfold Builtin.«lifetime.subscript»
    have run : wpAny (model prog w) A.in1 (callSpecial? (.ref x) "__getitem__" [i]) (fun r s' => ∃ v, r = some v ∧ Q v s') E s := PySem.W.special_fn kin I me.at_ (beq_iff_eq.mp me.fn) (wpAny_mono h (fun v s' z => ⟨v, rfl, z⟩) fun _ _ z => z)
    refine wpAny_bind (wpAny_mono run (fun r s' z => ?_) fun _ _ z => z)
    obtain ⟨v, rfl, z⟩ := z
    exact wpAny_pure (wpAny_bind (wpAny_letTemporaryGo (wpAny_pure z)))
/-- an own operator; the right one is of another type, which has none -/
theorem own_binop {op : Operator} {b t : Value} {Q : Value → Shared → Prop} (kin : K.In s.heap) (I : PySem.W.InstAt s.heap x ox C od) (hb : PySem.W.Looks (model prog w) s.heap (typeOf b) t) (hx : (Value.ref C == t) = true ∨ ((Value.ref C == t) = false ∧ fillsNumberSlot t op.info.2 = pure false))
    (hc : PySem.W.selfFirst K C = true) (me : Meth K C (PySem.dunder op.info.2) f) (h : wpAny (model prog w) A (call (.ref f) [.ref x, b]) (PySem.W.CmpBack Q) E s) : wpAny (model prog w) A (binaryOp op (.ref x) b) Q E s := by
  obtain ⟨cd, hcd, hm⟩ := PySem.W.any_some hc
  have hmro : ∃ rest, cd.mro = .ref C :: rest := by
    cases q : cd.mro with
    | nil => rw [q] at hm; cases hm
    | cons a r =>
      rw [q, List.head?_cons] at hm
      have := beq_iff_eq.mp hm
      cases this
      exact ⟨r, rfl⟩
  obtain ⟨rest, hmro⟩ := hmro
  have fl := PySem.W.fills_K (M := model prog w) kin hcd hmro me.at_
  unfold binaryOp
  refine wpAny_holding (wpAny_bind ?_)
  unfold binaryOp1
  refine wpAny_bind (I.type.here (wpAny_bind (hb.here (wpAny_bind (fl.here ?_)))))
  have run : wpAny (model prog w) A (callSpecial? (.ref x) (PySem.dunder op.info.2) [b]) (fun r s' => ∃ v, r = some v ∧ PySem.W.CmpBack Q v s') E s := PySem.W.special_fn kin I me.at_ (beq_iff_eq.mp me.fn) (wpAny_mono h (fun v s' z => ⟨v, rfl, z⟩) fun _ _ z => z)
  rcases hx with ht | ⟨ht, hr⟩
  · simp only [ht, if_true]
    refine wpAny_bind (wpAny_pure ?_)
    simp only [Bool.and_false, Bool.false_eq_true, if_false, Bool.false_and]
    refine wpAny_bind (wpAny_pure ?_)
    simp only [Bool.false_eq_true, if_false, if_true]
    refine wpAny_bind (m := tryMethod (.ref x) _ b) ?_
    unfold tryMethod
    refine wpAny_bind (wpAny_mono run (fun r s' z => ?_) fun _ _ z => z)
    obtain ⟨v, rfl, hv⟩ := z
    cases v <;> first | exact hv.elim | exact wpAny_pure (wpAny_pure (wpAny_pure hv))
  · simp only [ht, Bool.false_eq_true, if_false]
    refine wpAny_bind (m := fillsNumberSlot t op.info.2) ?_
    rw [hr]
    refine wpAny_pure ?_
    simp only [Bool.and_false, Bool.false_eq_true, if_false, Bool.false_and]
    refine wpAny_bind (wpAny_pure ?_)
    simp only [Bool.false_eq_true, if_false, if_true]
    refine wpAny_bind (m := tryMethod (.ref x) _ b) ?_
    unfold tryMethod
    refine wpAny_bind (wpAny_mono run (fun r s' z => ?_) fun _ _ z => z)
    obtain ⟨v, rfl, hv⟩ := z
    cases v <;> first | exact hv.elim | exact wpAny_pure (wpAny_pure (wpAny_pure hv))
end
end DE

set_option maxHeartbeats 4000000
namespace DE
open PySem PySem.Spec PyProof.Rows L2
/-! ### operators that may run defs, raise -/
def OpS (X : Cx) (f : Value → Value → Sem Value) (r : L2.St → R2) : Prop :=
  ∀ (pins : List (Addr × Obj)) (s : Shared) (σ : L2.St) (H : Hp) (x y : V) (v u : Value) (Q : VK), Inv X pins σ H s → RelV x v → RelV y u → r σ x y H Q → wpAny (model X.prog X.w) X.A (f v u) (EP X pins σ Q) X.xe s
def rOwn (X : Cx) (W : WX) (op : D → D → Sto → RE D) : L2.St → R2 := fun σ x y H Q => ∃ ρ O S d e, Stt X.K O H ρ σ S ∧ Rep X.K O H d x ∧ Rep X.K O H e y ∧ After X.K W (Rep X.K) ρ σ O H Q (op d e S)
section
variable {X : Cx} {W : WX} {a b : Expr} {f g : ME} {pos : Pos} {m c : Str} {j k n : Nat} {F : FD} {tb : List (Str × FD)}
theorem own_imp {o : D → D → Sto → RE D} {σ : L2.St} {H : Hp} {Q : VK} (h : tE X.K W (dBin o f g) σ H Q) : tE X.K W f σ H fun x H1 => tE X.K W g σ H1 fun y H2 => rOwn X W o σ x y H2 Q := by
  obtain ⟨O, ρ, S, st, h⟩ := h
  refine ⟨O, ρ, S, st, After.seq h fun d S1 O1 H1 v e1 st1 r1 h1 => ⟨O1, ρ, S1, st1, After.seq h1 fun d2 S2 O2 H2 u e2 st2 r2 h2 => ?_⟩⟩
  exact ⟨ρ, O2, S2, d, d2, st2, r1.mono (e2.w st1.wf), r2, h2⟩
theorem de_opS {op : Operator} {o : D → D → Sto → RE D} (hr : OpS X (binaryOp op) (rOwn X W o)) (ha : DE X W a f) (hb : DE X W b g) : DE X W (.BinOp a op b pos) (dBin o f g) :=
  ⟨⟨fun pins s σ H Q I h => wpAny_BinOp (binT ha.pe hb.pe I (own_imp h) fun v u s2 x y H2 I2 rx ry q => hr pins s2 σ H2 x y v u Q I2 rx ry q)⟩⟩
theorem de_cmpS {op : CmpOp} {o : D → D → Sto → RE D} (hr : OpS X (compareOp op) (rOwn X W o)) (ha : DE X W a f) (hb : DE X W b g) (hm : behindInMarks op b = false := by first | exact nomark _ | rfl) : DE X W (.Compare a [op] [b] pos) (dBin o f g) :=
  ⟨⟨fun pins s σ H Q I h => wpAny_Compare1 (binT ha.pe hb.pe I (own_imp h) fun v u s2 x y H2 I2 rx ry q => hr pins s2 σ H2 x y v u Q I2 rx ry q) hm⟩⟩
theorem dt_cmpS {op : CmpOp} {o : D → D → Sto → RE D} (hr : OpS X (compareOp op) (rOwn X W o)) (ha : DE X W a f) (hb : DE X W b g) (hm : behindInMarks op b = false := by first | exact nomark _ | rfl) : DT X W (.Compare a [op] [b] pos) (dTest (dBin o f g)) := by
  refine ⟨⟨fun pins s σ H Q I h => ?_⟩⟩
  have h2 : tE X.K W (dBin o f g) σ H fun z H3 => ∃ k, z = V.bl k ∧ Q k H3 := by
    obtain ⟨O, ρ, S, st, h⟩ := h
    refine ⟨O, ρ, S, st, After.seq h fun d S1 O1 H1 v e1 st1 r1 h1 => ?_⟩
    cases d with
    | bl b => exact ⟨b, r1, After.ok h1 st1 rfl⟩
    | _ => exact h1.elim
  refine wpAny_isTrue_Compare1 (binT ha.pe hb.pe I (own_imp h2) fun v u s2 x y H2 I2 rx ry q => thn (hr pins s2 σ H2 x y v u _ I2 rx ry q) fun cc s3 ⟨z, H3, I3, r3, k, e, q3⟩ => ?_) hm
  subst e
  obtain rfl : cc = Value.bool k := r3
  exact wpAny_truthy_bool ⟨H3, I3, q3⟩
/-! the def of an own operator runs -/
theorem inst_of {pins : List (Addr × Obj)} {σ : L2.St} {H : Hp} {s : Shared} {p C dx : Addr} {fs : List (Str × V)} (I : Inv X pins σ H s) (e : H p = some (.ins C dx fs)) : ∃ ox od, PySem.W.InstAt s.heap p ox C (some od) := by
  obtain ⟨mA, O, _, _, _, _⟩ := ins_get I.hok e
  obtain ⟨od, J, _⟩ := O.look
  exact ⟨_, od, J⟩
theorem run_G1 {pins : List (Addr × Obj)} {σ : L2.St} {H : Hp} {s : Shared} {Q : VK} {E : L2.St → XK} {us : List Value} {vs : List V} {p : Addr} {fd : FuncData} {ps : List Str} {sp : Sp} (G : FnGd X.prog X.w X.K X.mg X.base k p fd ps sp) (room : Room (k + 1) X.A) (gd : X.A.guards = some []) (bnd : Binds X.K fd ps [])
    (px : PassesAt (L2.CX X.prog X.w) X σ (E σ)) (I : Inv X pins σ H s) (rel : Vals vs us) (h : sp vs H Q (E σ)) : wpAny (model X.prog X.w) X.A.in1 (call (.ref p) us) (EP X pins σ Q) X.xe s := by
  have hl : (us ++ []).length = ps.length := by rw [List.append_nil, ← rel.length]; exact G.len _ _ _ _ h
  have b := bnd s us I.kIn hl
  rw [List.append_nil] at b
  refine wpAny_call (codeAny_mono (G.run X.A.in1 X.stack s H ⟨us, []⟩ us vs Q (E σ) room.in1 gd I.env0.in1 b rel h) ?_)
  rintro (er | fl) s' z
  · exact px pins H s er s' I z
  · rcases fl with _ | _ | _ | u
    all_goals first
      | exact I.after z
      | exact z.elim
/-- x in o, x not in o -/
def oInO (neg : Bool) (tb : List (Str × FD)) : D → D → Sto → RE D := fun d e S => match objAt S e with
  | some (c, _) => (match tb.lookup c with
    | some F => (F [e, d] S).bind fun r S1 => (match r with
      | .bl b => .ok (.bl (b != neg)) S1
      | _ => .bad)
    | none => .bad)
  | none => .bad
theorem own_run2 (T : MTab X j m 2 tb) (hr : Room j X.A) (gd : X.A.guards = some []) (tk : Takes X W) {pins : List (Addr × Obj)} {s : Shared} {σ : L2.St} {H : Hp} {x y : V} {v u : Value} {Q : VK} {ρ : DE.Env} {O : Ow} {S : Sto} {d e : D} {fs : List (Str × D)} {F : FD}
    (I : Inv X pins σ H s) (rx : RelV x v) (ry : RelV y u) (st : Stt X.K O H ρ σ S) (r1 : Rep X.K O H d x) (r2 : Rep X.K O H e y) (q : objAt S e = some (c, fs)) (q2 : tb.lookup c = some F) (h : After X.K W (Rep X.K) ρ σ O H Q (F [e, d] S)) :
    ∃ a dx vs ox od, y = .ref a ∧ u = .ref a ∧ H a = some (.ins (He.ga X.K c) dx vs) ∧ PySem.W.InstAt s.heap a ox (He.ga X.K c) (some od) ∧ Meth X.K (He.ga X.K c) m (He.ma X.K (He.ga X.K c) m) ∧
      wpAny (model X.prog X.w) X.A (call (.ref (He.ma X.K (He.ga X.K c) m)) [.ref a, v]) (EP X pins σ Q) X.xe s := by
  obtain ⟨a, dx, vs, rfl, ha, rf⟩ := objAt_rep st q r2
  obtain rfl : u = Value.ref a := ry
  obtain ⟨ox, od, J⟩ := inst_of I ha
  obtain ⟨fn, me, cl⟩ := T c F q2
  obtain ⟨fd, ps, g, b⟩ := fn.ok
  exact ⟨a, dx, vs, ox, od, rfl, rfl, ha, J, me, run_G (us := [Value.ref a, v]) (vs := [V.ref a, x]) g hr gd b (passAt tk σ) I (.cons rfl (.cons rx .nil)) (sp_of (ds := [e, d]) st ⟨_, _, rfl, r2, _, _, rfl, r1, rfl⟩ rfl h)⟩
theorem op_inO (T : MTab X j "__contains__" 2 tb) (hr : Room j X.A) (gd : X.A.guards = some []) (tk : Takes X W) : OpS X (compareOp .In) (rOwn X W (oInO false tb)) := by
  intro pins s σ H x y v u Q I rx ry ⟨ρ, O, S, d, e, st, r1, r2, h⟩
  unfold oInO at h
  cases q : objAt S e with
  | none => simp only [q] at h; exact h.elim
  | some z =>
    obtain ⟨c, fs⟩ := z
    simp only [q] at h
    cases q2 : tb.lookup c with
    | none => simp only [q2] at h; exact h.elim
    | some F =>
      simp only [q2] at h
      have h2 : After X.K W (Rep X.K) ρ σ O H (fun z H3 => ∃ k, z = V.bl k ∧ Q (.bl k) H3) (F [e, d] S) := After.seq h fun r S1 O1 H1 w e1 st1 rr h1 => by
        cases r <;> try exact h1.elim
        rename_i b
        cases b
        · exact ⟨_, rr, After.ok h1 st1 rfl⟩
        · exact ⟨_, rr, After.ok h1 st1 rfl⟩
      obtain ⟨a, dx, vs, ox, od, rfl, rfl, ha, J, me, run⟩ := own_run2 T hr gd tk I rx ry st r1 r2 q q2 h2
      refine wpAny_bind (own_contains I.kIn J me (wpAny_mono run (fun r s' z => ?_) fun _ _ z => z))
      obtain ⟨z, H3, I3, r3, k, rfl, q3⟩ := z
      obtain rfl : r = Value.bool k := r3
      exact wpAny_truthy_bool (wpAny_pure ⟨.bl k, H3, I3, rfl, q3⟩)
theorem op_notInO (T : MTab X j "__contains__" 2 tb) (hr : Room j X.A) (gd : X.A.guards = some []) (tk : Takes X W) : OpS X (compareOp .NotIn) (rOwn X W (oInO true tb)) := by
  intro pins s σ H x y v u Q I rx ry ⟨ρ, O, S, d, e, st, r1, r2, h⟩
  unfold oInO at h
  cases q : objAt S e with
  | none => simp only [q] at h; exact h.elim
  | some z =>
    obtain ⟨c, fs⟩ := z
    simp only [q] at h
    cases q2 : tb.lookup c with
    | none => simp only [q2] at h; exact h.elim
    | some F =>
      simp only [q2] at h
      have h2 : After X.K W (Rep X.K) ρ σ O H (fun z H3 => ∃ k, z = V.bl k ∧ Q (.bl (!k)) H3) (F [e, d] S) := After.seq h fun r S1 O1 H1 w e1 st1 rr h1 => by
        cases r <;> try exact h1.elim
        rename_i b
        cases b
        · exact ⟨_, rr, After.ok h1 st1 rfl⟩
        · exact ⟨_, rr, After.ok h1 st1 rfl⟩
      obtain ⟨a, dx, vs, ox, od, rfl, rfl, ha, J, me, run⟩ := own_run2 T hr gd tk I rx ry st r1 r2 q q2 h2
      refine wpAny_bind (own_contains I.kIn J me (wpAny_mono run (fun r s' z => ?_) fun _ _ z => z))
      obtain ⟨z, H3, I3, r3, k, rfl, q3⟩ := z
      obtain rfl : r = Value.bool k := r3
      exact wpAny_truthy_bool (wpAny_pure ⟨.bl (!k), H3, I3, rfl, q3⟩)
/-- o[i] -/
def oIxO (tb : List (Str × FD)) : D → D → Sto → RE D := fun e d S => match objAt S e with
  | some (c, _) => (match tb.lookup c with
    | some F => F [e, d] S
    | none => .bad)
  | none => .bad
theorem de_ixO (T : MTab X j "__getitem__" 2 tb) (fi : ∀ c F, tb.lookup c = some F → PySem.W.fnIn X.K (He.ma X.K (He.ga X.K c) "__getitem__") = true) (hr : Room (j + 1) X.A) (gd : X.A.guards = some []) (tk : Takes X W) (ha : DE X W a f) (hb : DE X W b g)
    (hsl : ∀ (x : Addr) (i : Value), subscripted b true (.ref x) i = runValue (.builtin "lifetime.subscript" ⟨[.ref x, i], []⟩) := by intro _ _; with_unfolding_all rfl) : DE X W (.Subscript a b pos) (dBin (oIxO tb) f g) := by
  refine ⟨⟨fun pins s σ H Q I h => Subscript_ (binT ha.pe hb.pe I (own_imp h) fun v u s2 x y H2 I2 rx ry q => ?_)⟩⟩
  obtain ⟨ρ, O, S, e, d, st, r1, r2, h⟩ := q
  unfold oIxO at h
  cases q : objAt S e with
  | none => simp only [q] at h; exact h.elim
  | some z =>
    obtain ⟨c, fs⟩ := z
    simp only [q] at h
    cases q2 : tb.lookup c with
    | none => simp only [q2] at h; exact h.elim
    | some F =>
      simp only [q2] at h
      obtain ⟨p, dx, vs, rfl, hp, rf⟩ := objAt_rep st q r1
      obtain rfl : v = Value.ref p := rx
      obtain ⟨ox, od, J⟩ := inst_of I2 hp
      obtain ⟨fn, me, cl⟩ := T c F q2
      obtain ⟨fd, ps, gg, bb⟩ := fn.ok
      exact own_item I2.kIn J me (fi c F q2) (run_G1 (us := [Value.ref p, u]) (vs := [V.ref p, y]) gg hr gd bb (passAt tk σ) I2 (.cons rfl (.cons ry .nil)) (sp_of (ds := [e, d]) st ⟨_, _, rfl, r1, _, _, rfl, r2, rfl⟩ rfl h)) (hsl p u)
/-! o op x -/
/-- the right one: T tells its type -/
def oBinO (ok : Sto → D → Bool) (tb : List (Str × FD)) : D → D → Sto → RE D := fun e d S => match objAt S e with
  | some (c, _) => (match tb.lookup c with
    | some F => if ok S d = true then (F [e, d] S).bind fun r S1 => (match r with
      | .glo _ => .bad
      | .ty _ => .bad
      | r => .ok r S1) else .bad
    | none => .bad)
  | none => .bad
theorem not_ni {v : V} {u : Value} (h : RelV v u) : u ≠ .notImplemented := by
  cases v with
  | non => cases (show u = _ from h); exact fun z => nomatch z
  | bl b => cases (show u = _ from h); exact fun z => nomatch z
  | int i => obtain ⟨t, rfl⟩ := (show ∃ t, u = Value.int i t from h); exact fun z => nomatch z
  | str i => obtain ⟨t, rfl⟩ := (show ∃ t, u = Value.str i t from h); exact fun z => nomatch z
  | byt i => obtain ⟨t, rfl⟩ := (show ∃ t, u = Value.bytes i t from h); exact fun z => nomatch z
  | flt i => obtain ⟨t, rfl⟩ := (show ∃ t, u = Value.float i t from h); exact fun z => nomatch z
  | ref a => cases (show u = _ from h); exact fun z => nomatch z
  | ty n => cases (show u = _ from h); exact fun z => nomatch z
theorem cmpBack {Q : Value → Shared → Prop} {u : Value} {s : Shared} (h : u ≠ .notImplemented) (q : Q u s) : PySem.W.CmpBack Q u s := by
  unfold PySem.W.CmpBack
  cases u <;> first | exact absurd rfl h | exact q
end
end DE

set_option maxHeartbeats 4000000
namespace DE
open PySem PySem.Spec PyProof.Rows L2
theorem nf_list_sub : fillsNumberSlot (.type "list") "sub" = pure false := by kernel_rfl
theorem nf_tuple_sub : fillsNumberSlot (.type "tuple") "sub" = pure false := by kernel_rfl
theorem nf_tuple_rshift : fillsNumberSlot (.type "tuple") "rshift" = pure false := by kernel_rfl
section
variable {X : Cx} {W : WX} {a b o : Expr} {f g : ME} {pos : Pos} {m c fld : Str} {j k n : Nat} {F : FD} {tb : List (Str × FD)}
/-- o op x: the right one is of a type of ts, or of o's class -/
def oBin2 (ts : List String) (tb : List (Str × FD)) : D → D → Sto → RE D := fun e d S => match objAt S e with
  | some (c, _) => (match tb.lookup c with
    | some F => if (match tyName d with
        | some t => decide (t ∈ ts)
        | none => (match objAt S d with
          | some (c2, _) => decide (c2 = c)
          | none => false)) = true then F [e, d] S else .bad
    | none => .bad)
  | none => .bad
theorem op_bin2 {op : Operator} {ts : List String} (hm : PySem.dunder op.info.2 = m) (hts : ∀ t ∈ ts, fillsNumberSlot (.type t) op.info.2 = pure false) (hs : ∀ c F, tb.lookup c = some F → PySem.W.selfFirst X.K (He.ga X.K c) = true) (T : MTab X j m 2 tb) (hr : Room j X.A)
    (gd : X.A.guards = some []) (tk : Takes X W) : OpS X (binaryOp op) (rOwn X W (oBin2 ts tb)) := by
  subst hm
  intro pins s σ H x y v u Q I rx ry ⟨ρ, O, S, e, d, st, r1, r2, h⟩
  unfold oBin2 at h
  cases q : objAt S e with
  | none => simp only [q] at h; exact h.elim
  | some z =>
    obtain ⟨c, fs⟩ := z
    simp only [q] at h
    cases q2 : tb.lookup c with
    | none => simp only [q2] at h; exact h.elim
    | some F =>
      simp only [q2] at h
      obtain ⟨hc, h⟩ := After.ite h
      obtain ⟨p, dx, vs, rfl, hp, rf⟩ := objAt_rep st q r1
      obtain rfl : v = Value.ref p := rx
      obtain ⟨ox, od, J⟩ := inst_of I hp
      obtain ⟨fn, me, cl⟩ := T c F q2
      obtain ⟨fd, ps, gg, bb⟩ := fn.ok
      have run := run_G (us := [Value.ref p, u]) (vs := [V.ref p, y]) gg hr gd bb (passAt tk σ) I (.cons rfl (.cons ry .nil)) (sp_of (ds := [e, d]) st ⟨_, _, rfl, r1, _, _, rfl, r2, rfl⟩ rfl h)
      have run2 : wpAny (model X.prog X.w) X.A (call (.ref (He.ma X.K (He.ga X.K c) (PySem.dunder op.info.2))) [Value.ref p, u]) (PySem.W.CmpBack (EP X pins σ Q)) X.xe s := wpAny_mono run (fun r s' z => by
        obtain ⟨w, H3, I3, rv, q3⟩ := z
        exact cmpBack (not_ni rv) ⟨w, H3, I3, rv, q3⟩) fun _ _ z => z
      have key : ∃ t, PySem.W.Looks (model X.prog X.w) s.heap (typeOf u) t ∧ ((Value.ref (He.ga X.K c) == t) = true ∨ ((Value.ref (He.ga X.K c) == t) = false ∧ fillsNumberSlot t op.info.2 = pure false)) := by
        cases qt : tyName d with
        | some t =>
          rw [qt] at hc
          obtain ⟨P, kx, hP, _⟩ := kit_of I ry (tyName_rep qt r2)
          exact ⟨.type t, kx.ty _ _ I.kIn hP, .inr ⟨rfl, hts t (of_decide_eq_true hc)⟩⟩
        | none =>
          rw [qt] at hc
          cases qo : objAt S d with
          | none => rw [qo] at hc; cases hc
          | some z =>
            obtain ⟨c2, fs2⟩ := z
            rw [qo] at hc
            obtain rfl := of_decide_eq_true hc
            obtain ⟨p2, dx2, vs2, rfl, hp2, _⟩ := objAt_rep st qo r2
            obtain rfl : u = Value.ref p2 := ry
            obtain ⟨ox2, od2, J2⟩ := inst_of I hp2
            exact ⟨_, J2.type, .inl (beq_self_eq_true _)⟩
      obtain ⟨t, lt, hx⟩ := key
      exact own_binop I.kIn J lt hx (hs c F q2) me run2
/-! ### properties -/
structure PropA (P : Program) (w : World) (K : PySem.W.Frag) (mg : Str → Option Value) (base : Heap) (k : Nat) (c f : Str) (F : FD) : Prop where
  ex : ∃ p g, PropOf K (He.ga K c) f p g ∧ FnA P w K mg base k g 1 F
  cl : Cls K (He.ga K c)
def PTab (X : Cx) (j : Nat) (f : Str) (tb : List (Str × FD)) : Prop := ∀ c F, tb.lookup c = some F → PropA X.prog X.w X.K X.mg X.base j c f F
theorem pt_nil' : PTab X j fld [] := fun c F h => by cases h
theorem pt_cons' (G : PropA X.prog X.w X.K X.mg X.base k c fld F) (T : PTab X j fld tb) (h : k ≤ j := by decide) : PTab X j fld ((c, F) :: tb) := fun c' F' e => by
  rw [List.lookup_cons] at e
  cases q : c' == c with
  | true =>
    rw [q] at e
    cases e
    rw [eq_of_beq q]
    obtain ⟨p, g, h1, h2⟩ := G.ex
    exact ⟨⟨p, g, h1, h2.mono h⟩, G.cl⟩
  | false => rw [q] at e; exact T c' F' e
/-- o.f, a property; it raises nothing -/
def dProp (f : Str) (tb : List (Str × FD)) (fo : ME) : ME := fun ρ S => (fo ρ S).bind fun d S1 => match objAt S1 d with
  | some (c, _) => (match tb.lookup c with
    | some F => (match F [d] S1 with
      | .ok r S2 => .ok r S2
      | _ => .bad)
    | none => .bad)
  | none => .bad
theorem de_prop (ho : DE X W o f) (T : PTab X j fld tb) (hr : Room (j + 1) X.A) (gd : X.A.guards = some []) (hb : attributeBase o fld X.env (eval o X.env) = eval o X.env := by rfl) : DE X W (.Attribute o fld pos) (dProp fld tb f) := by
  refine ⟨⟨fun pins s σ H Q I ⟨O, ρ, S, st, h⟩ => ?_⟩⟩
  have h2 : tE X.K W f σ H fun x H1 => ∃ c F a dx vs, x = V.ref a ∧ H1 a = some (.ins (He.ga X.K c) dx vs) ∧ tb.lookup c = some F ∧ spD X.K 1 F [.ref a] H1 Q (fun _ _ _ => False) := ⟨O, ρ, S, st, After.seq h fun d S1 O1 H1 v e1 st1 r1 h1 => by
    cases q : objAt S1 d with
    | none => simp only [q] at h1; exact h1.elim
    | some z =>
      obtain ⟨c, fs⟩ := z
      simp only [q] at h1
      cases q2 : tb.lookup c with
      | none => simp only [q2] at h1; exact h1.elim
      | some F =>
        simp only [q2] at h1
        obtain ⟨p, dx, vs, rfl, hp, rf⟩ := objAt_rep st1 q r1
        refine ⟨c, F, p, dx, vs, rfl, hp, q2, O1, S1, [d], st1.wf, ⟨_, _, rfl, r1, rfl⟩, rfl, ?_⟩
        cases qF : F [d] S1 with
        | ok r S2 => rw [qF] at h1; exact fun O' H' v e wf r => h1 O' H' v e ⟨wf, st1.env.mono (e.w st1.wf)⟩ r
        | exc x S2 => rw [qF] at h1; exact h1.elim
        | bad => rw [qF] at h1; exact h1.elim⟩
  refine attr_of hb (thn (ho.pe.run pins s σ H _ I h2) fun u s1 ⟨x, H1, I1, rx, c, F, a, dx, vs, ex, ea, ec, q⟩ => ?_)
  subst ex
  obtain rfl : u = Value.ref a := rx
  obtain ⟨⟨p, gt, hp, fn⟩, cl⟩ := T c F ec
  obtain ⟨fd, ps, gg, bb⟩ := fn.ok
  obtain ⟨ox, od, J⟩ := inst_of I1 ea
  obtain ⟨rest, hrec⟩ := hp.rec_
  have I2 := I1.tok (s1.toks + 1)
  have hc : (PySem.W.clsIn X.K (He.ga X.K c)).isSome = true := by
    obtain ⟨cd, hc, _⟩ := PySem.W.any_some cl.hd
    rw [hc]; rfl
  have hl : ([Value.ref a] ++ []).length = ps.length := by rw [← gg.len _ _ _ _ q]; rfl
  have bd := bb { s1 with toks := s1.toks + 1 } [.ref a] I2.kIn hl
  refine PySem.W.get_bind I1.kIn J (PySem.W.plainGet_of (cl.get fld)).1 (PySem.W.findObj_data hc hp.at_ hp.get hp.tak) (PySem.W.plainGet_of (cl.get fld)).2 (wpAny_call (PySem.W.prop_get (s := { s1 with toks := s1.toks + 1 }) I1.kIn hrec ?_))
  refine codeAny_mono (gg.run X.A.in1 X.stack { s1 with toks := s1.toks + 1 } H1 ⟨[.ref a], []⟩ [.ref a] [.ref a] Q _ hr.in1 gd I2.env0.in1 bd (.cons rfl .nil) q) ?_
  rintro (er | fl) s' z
  · exact False.elim (passL (X := X.nox) pins σ H1 _ er s' (I2.wish _) z)
  · rcases fl with _ | _ | _ | u2
    all_goals first
      | exact z.elim
      | skip
    obtain ⟨v, H', I3, rv, q3⟩ := I2.after z
    show wpAny _ _ (handedOut u2) _ _ _
    rw [PySem.W.handedOut_of (handed_of rv)]
    exact wpAny_pure ⟨v, H', I3, rv, q3⟩
end
end DE

set_option maxHeartbeats 4000000
namespace DE
open PySem PySem.Spec PyProof.Rows L2
section
variable {X : Cx} {W : WX} {o a b c e : Expr} {f g : ME} {fa : MA} {es : List Expr} {apos pos : Pos}
/-! ### o.f += e, ints -/
def sFldAug (f : Str) (cs : List Str) (fo fe : ME) : MS := fun ρ S => (fo ρ S).stm ρ fun ob S1 => match ob with
  | .own k => (match S1[k]? with
    | some (.obj c fs) => if c ∈ cs then (match fs.lookup f with
      | some (.int i) => (fe ρ S1).stm ρ fun y S2 => (match y, S2[k]? with
        | .int j, some (.obj c2 fs2) => if c2 = c ∧ fs2.length < 1000 then .nx ρ (S2.set k (.obj c2 (putD f (.int (i + j)) fs2))) else .bad
        | _, _ => .bad)
      | _ => .bad) else .bad
    | _ => .bad)
  | _ => .bad
theorem ds_fldAug {fo fe : ME} {fld : Str} {cs : List Str} {tpos : Pos} (ho : DE X W o fo) (he : DE X W e fe) (hc : ∀ c ∈ cs, Cls X.K (He.ga X.K c) ∧ NoAttr X.K (He.ga X.K c) fld) :
    DS X W (.AugAssign (.Attribute o fld tpos) .Add e pos) (sFldAug fld cs fo fe) := by
  refine ⟨PS.imp (ps_fldaug ho.pe he.pe in_add) fun D' σ H ⟨O, ρ, S, st, h⟩ => ⟨O, ρ, S, st, AfterS.seqE h fun ob S1 O1 H1 u e1 st1 r1 h1 => ?_⟩⟩
  cases ob <;> try exact h1.elim
  rename_i k
  simp only at h1
  cases q : S1[k]? with
  | none => simp only [q] at h1; exact h1.elim
  | some d0 =>
    simp only [q] at h1
    cases d0 <;> try exact h1.elim
    rename_i c fs
    simp only at h1
    by_cases hm : c ∈ cs
    · rw [if_pos hm] at h1
      obtain ⟨a, ha, rfl⟩ := r1
      obtain ⟨dx, vs, hx, rf⟩ := st1.wf.cell k a _ ha q
      cases q2 : fs.lookup fld with
      | none => simp only [q2] at h1; exact h1.elim
      | some d2 =>
        simp only [q2] at h1
        cases d2 <;> try exact h1.elim
        rename_i i
        obtain ⟨u, hu, ru⟩ := repF_lookup rf q2
        cases (show u = _ from ru)
        refine ⟨a, _, dx, vs, _, rfl, hx, (hc c hm).1, (hc c hm).2, hu, O1, ρ, S1, st1, AfterS.seqE h1 fun y S2 O2 H2 w e2 st2 r2 h2 => ?_⟩
        cases y <;> try exact h2.elim
        rename_i j
        cases q3 : S2[k]? with
        | none => simp only [q3] at h2; exact h2.elim
        | some d3 =>
          simp only [q3] at h2
          cases d3 <;> try exact h2.elim
          rename_i c2 fs2
          simp only at h2
          by_cases hm2 : c2 = c ∧ fs2.length < 1000
          · rw [if_pos hm2] at h2
            obtain ⟨rfl, hl⟩ := hm2
            have ha2 := e2.at ha
            obtain ⟨dx2, vs2, hx2, rf2⟩ := st2.wf.cell k a _ ha2 q3
            cases (show w = _ from r2)
            refine ⟨i, j, rfl, rfl, dx2, vs2, hx2, by rw [← RepF.length rf2]; exact hl, ?_⟩
            obtain ⟨e3, st3⟩ := st2.mut (o := .ins (He.ga X.K c2) dx2 (putF fld (.int (i + j)) vs2)) (d := .obj c2 (putD fld (.int (i + j)) fs2)) ha2 fun e => ⟨dx2, _, upd_same, RepF.mono (e.w st2.wf) (RepF.put (show Rep X.K O2 H2 (.int (i + j)) (.int (i + j)) from rfl) rf2)⟩
            exact h2 O2 _ σ e3 st3
          · rw [if_neg hm2] at h2; exact h2.elim
    · rw [if_neg hm] at h1; exact h1.elim
/-! ### a test that stores a name: nx where it holds, bk where not -/
def wD (K : PySem.W.Frag) (W : WX) (t : MS) : TTw := fun σ H Q => ∃ O ρ S, Stt K O H ρ σ S ∧ AfterS K W { nx := Q true, rt := fun _ _ => False, bk := Q false, ct := fun _ _ => False } O H (t ρ S)
structure DTW (X : Cx) (W : WX) (c : Expr) (t : MS) : Prop where
  ptw : PTw X c (wD X.K W t)
theorem PTw.imp {t t' : TTw} (h : PTw X c t) (k : ∀ σ H Q, t' σ H Q → t σ H Q) : PTw X c t' := ⟨fun pins s σ H Q I q => h.run pins s σ H Q I (k σ H Q q)⟩
def mWal (i : Nat) (op : D → D → Sto → RE D) (fe ff : ME) : MS := fun ρ S => (fe ρ S).stm ρ fun d S1 => (ff (ρ.set i (some d)) S1).stm (ρ.set i (some d)) fun e S2 => (op d e S2).stm (ρ.set i (some d)) fun z S3 => match z with
  | .bl true => .nx (ρ.set i (some d)) S3
  | .bl false => .bk (ρ.set i (some d)) S3
  | _ => .bad
theorem dtw_cmp {op : CmpOp} {od : D → D → Sto → RE D} {x : Str} {p npos : Pos} {ff fe : ME} (i : Nat) (ho : OpR X (compareOp op) (RD X.K od)) (hN : X.N.Nodup) (hi : X.N[i]? = some x) (hx : Loc X.env.scope x) (he : DE X W e fe) (hb : DE X W b ff) (hm : behindInMarks op b = false := by first | exact nomark _ | rfl)
    (hf : X.fn x = true ∨ X.env.scope.names.lookup x = some .local := by first | exact .inl rfl | exact .inr rfl | assumption) :
    DTW X W (.Compare (.NamedExpr (.Name x p) e npos) [op] [b] pos) (mWal i od fe ff) :=
  ⟨PTw.imp (ptw_cmp ho (pew_named hN hi hx (pew_of he.pe) hf) hb.pe hm) fun σ H Q ⟨O, ρ, S, st, h⟩ => ⟨O, ρ, S, st, AfterS.seqE h fun d S1 O1 H1 v e1 st1 r1 h1 =>
    ⟨O1, ρ.set i (some d), S1, ⟨st1.wf, st1.env.set r1 i⟩, AfterS.seqE h1 fun y S2 O2 H2 u e2 st2 r2 h2 => ⟨W, ρ.set i (some d), _, O2, S2, d, y, st2, r1.mono (e2.w st1.wf), r2, AfterS.seqE h2 fun z S3 O3 H3 t e3 st3 r3 h3 => by
      cases z <;> try exact h3.elim
      rename_i k
      cases (show t = _ from r3)
      cases k with
      | true => exact ⟨true, rfl, h3 O3 H3 _ .refl st3⟩
      | false => exact ⟨false, rfl, h3 O3 H3 _ .refl st3⟩⟩⟩⟩⟩
def mAndW (t : MS) (g : MT) : MS := fun ρ S => match t ρ S with
  | .nx ρ1 S1 => (g ρ1 S1).stm ρ1 fun c S2 => if c = true then .nx ρ1 S2 else .bk ρ1 S2
  | r => r
def tAndW (ta : TTw) (tb : TT) : TTw := fun σ H Q => ta σ H fun c σ1 H1 => if c = true then tb σ1 H1 fun d H2 => Q d σ1 H2 else Q false σ1 H1
theorem ptw_and {ta : TTw} {tb : TT} (ha : PTw X a ta) (hb : PT X b tb) : PTw X (.BoolOp .And [a, b] pos) (tAndW ta tb) := ⟨fun pins s σ H Q I h => by
  refine isTrue_and (thn (ha.run pins s σ H _ I h) fun c s1 ⟨σ1, H1, I1, q1⟩ => ?_)
  cases c with
  | true =>
    rw [if_pos rfl] at q1
    refine isTrue_and (thn (hb.run pins s1 σ1 H1 _ I1 q1) fun d s2 ⟨H2, I2, q2⟩ => ?_)
    cases d with
    | true => exact isTrue_and_nil ⟨σ1, H2, I2, q2⟩
    | false => exact ⟨σ1, H2, I2, q2⟩
  | false =>
    rw [if_neg (by simp)] at q1
    exact ⟨σ1, H1, I1, q1⟩⟩
theorem dtw_and {t : MS} {g : MT} (ha : DTW X W a t) (hb : DT X W b g) : DTW X W (.BoolOp .And [a, b] pos) (mAndW t g) :=
  ⟨PTw.imp (ptw_and ha.ptw hb.pt) fun σ H Q ⟨O, ρ, S, st, h⟩ => ⟨O, ρ, S, st, by
    unfold mAndW at h
    cases q : t ρ S with
    | nx ρ1 S1 =>
      rw [q] at h
      intro O1 H1 σ1 e1 st1
      dsimp only
      rw [if_pos rfl]
      refine ⟨O1, ρ1, S1, st1, AfterS.seqE (h.mono e1) fun d S2 O2 H2 v e2 st2 r2 h2 => ?_⟩
      cases (show d = v from r2)
      cases d with
      | true => exact h2 O2 H2 σ1 .refl st2
      | false => exact h2 O2 H2 σ1 .refl st2
    | bk ρ1 S1 =>
      rw [q] at h
      intro O1 H1 σ1 e1 st1
      dsimp only
      rw [if_neg (show ¬ (false = true) from Bool.false_ne_true)]
      exact h O1 H1 σ1 e1 st1
    | ct ρ1 S1 => rw [q] at h; exact h
    | rt d S1 => rw [q] at h; exact h
    | exc y ρ1 S1 => rw [q] at h; exact h
    | bad => rw [q] at h; exact h⟩⟩
/-- while over such a test, n turns at the most -/
def whileW (t : MS) (b : MS) : Nat → MS
  | 0 => fun _ _ => .bad
  | n + 1 => fun ρ S => match t ρ S with
    | .nx ρ1 S1 => (match b ρ1 S1 with
      | .nx ρ2 S2 => whileW t b n ρ2 S2
      | .ct ρ2 S2 => whileW t b n ρ2 S2
      | .bk ρ2 S2 => .nx ρ2 S2
      | r => r)
    | .bk ρ1 S1 => .nx ρ1 S1
    | .exc y ρ1 S1 => .exc y ρ1 S1
    | _ => .bad
theorem ds_whileW {body : List Stmt} {t F : MS} (n : Nat) (hp : PassesOwn (model X.prog X.w) X.A X.env X.xe) (hc : DTW X W c t) (hb : DSs X W body F) : DS X W (.While c body [] pos) (whileW t F n) :=
  ⟨PS.imp (ps_whileW hp hc.ptw hb.pss pss_nil) fun D' σ H ⟨O, ρ, S, st, h⟩ => by
    refine ⟨fun m σ2 H2 => ∃ O2 ρ2 S2, Ext O H O2 H2 ∧ Stt X.K O2 H2 ρ2 σ2 S2 ∧ AfterS X.K W D' O2 H2 (whileW t F m ρ2 S2), ⟨n, O, ρ, S, .refl, st, h⟩, ?_⟩
    rintro m σ2 H2 ⟨O2, ρ2, S2, e2, st2, h2⟩
    cases m with
    | zero => exact h2.elim
    | succ m =>
      refine ⟨O2, ρ2, S2, st2, ?_⟩
      unfold whileW at h2
      cases q : t ρ2 S2 with
      | nx ρ3 S3 =>
        simp only [q] at h2
        intro O3 H3 σ3 e3 st3
        dsimp only
        rw [if_pos rfl]
        refine ⟨fun σ4 H4 => ∃ O4 ρ4 S4, Ext O H O4 H4 ∧ Stt X.K O4 H4 ρ4 σ4 S4 ∧ AfterS X.K W D' O4 H4 (whileW t F m ρ4 S4), fun σ4 H4 z => ⟨m, Nat.lt_succ_self _, z⟩, O3, ρ3, S3, st3, ?_⟩
        have h3 := h2.mono e3
        cases q2 : F ρ3 S3 with
        | nx ρ5 S5 => simp only [q2] at h3; exact fun O' H5 σ5 e5 st5 => ⟨O', ρ5, S5, (e2.trans e3).trans e5, st5, AfterS.mono h3 e5⟩
        | ct ρ5 S5 => simp only [q2] at h3; exact fun O' H5 σ5 e5 st5 => ⟨O', ρ5, S5, (e2.trans e3).trans e5, st5, AfterS.mono h3 e5⟩
        | bk ρ5 S5 => simp only [q2] at h3; exact fun O' H5 σ5 e5 st5 => h3 O' H5 σ5 e5 st5
        | rt d5 S5 => simp only [q2] at h3; exact h3
        | exc x5 ρ5 S5 => simp only [q2] at h3; exact h3
        | bad => simp only [q2] at h3; exact h3
      | bk ρ3 S3 =>
        simp only [q] at h2
        intro O3 H3 σ3 e3 st3
        dsimp only
        rw [if_neg (show ¬ (false = true) from Bool.false_ne_true)]
        exact h2 O3 H3 σ3 e3 st3
      | exc y ρ3 S3 => simp only [q] at h2; exact h2
      | ct ρ3 S3 => simp only [q] at h2; exact h2.elim
      | rt d S3 => simp only [q] at h2; exact h2.elim
      | bad => simp only [q] at h2; exact h2.elim⟩
/-! ### try .. except C: .. -/
def noexc : RS → RS
  | .exc _ _ _ => .bad
  | r => r
theorem AfterS.noexc {K : PySem.W.Frag} {D' : Ends} {O : Ow} {H : Hp} {r : RS} (h : AfterS K W D' O H (DE.noexc r)) : AfterS K W0 D' O H r := by
  cases r with
  | exc y ρ S => exact h.elim
  | bad => exact h
  | nx ρ S => exact h
  | rt d S => exact h
  | bk ρ S => exact h
  | ct ρ S => exact h
def sTryN (fb : MS) (cl : Str → Option Bool) (hm : MS) : MS := fun ρ S => match fb ρ S with
  | .exc x ρ1 S1 => (match cl x.c with
    | none => .bad
    | some true => noexc (hm ρ1 S1)
    | some false => .exc x ρ1 S1)
  | r => r
def tHn0 (K : PySem.W.Frag) (hm : MS) (a : Addr) (cls : Value) (d : Option Addr) : TS := fun D' σ H => ∃ (O : Ow) (ρ : DE.Env) (S : Sto), Stt K O H ρ σ S ∧ AfterS K W0 D' O H (hm ρ S)
theorem ds_tryN {body suite : List Stmt} {b₀ : Stmt} {x : Str} {np pos' : Pos} {fb : MS} {cl : Str → Option Bool} {hm : MS} (hs : X.stack = X.env :: X.outer) (hf : X.env.frame = some X.env.locals)
    (hx : Names X x (.ref (He.ga X.K x))) (tk : Takes X W) (hcl : ∀ c b, cl c = some b → PySem.W.exmOne X.K (.ref (He.ga X.K c)) (.ref (He.ga X.K x)) = some b)
    (hb : ∀ (W' : WX) (pn : List (Addr × Obj)) (xe : Value → Shared → Prop), Takes (X.tr pn xe) W' → PassesOwn (model X.prog X.w) X.A X.env xe → DSs (X.tr pn xe) W' body fb)
    (hh : ∀ (a : Addr) (oe : Obj) (pn : List (Addr × Obj)), DSs (X.suite a ((a, oe) :: pn)) W0 (b₀ :: suite) hm) :
    DS X W (.Try body [.ExceptHandler (some (.Name x np)) none (b₀ :: suite) pos'] [] [] pos) (sTryN fb cl hm) := by
  refine ⟨PS.imp (ps_try_only (tb := fun W' => tS X.K W' fb) (ts := tHn0 X.K hm) hs hf hx tk (fun W' pn xe t p => (hb W' pn xe t p).pss) fun a oe cls d pn hz hd => ⟨?_⟩) ?_⟩
  · rintro pins s σ H D' I ⟨O, ρ, S, st, h⟩
    exact (hh a oe pn).pss.run pins s σ H D' I ⟨O, ρ, S, st, h⟩
  · intro D' σ H ⟨O, ρ, S, st, h⟩
    refine ⟨O, ρ, S, st, ?_⟩
    unfold sTryN at h
    cases q : fb ρ S with
    | nx ρ1 S1 => rw [q] at h; exact h
    | bk ρ1 S1 => rw [q] at h; exact h
    | ct ρ1 S1 => rw [q] at h; exact h
    | rt d S1 => rw [q] at h; exact h
    | bad => rw [q] at h; exact h
    | exc y ρ1 S1 =>
      rw [q] at h
      rintro O1 H1 σ1 cls dx e1 st1 ⟨rfl, dd, vs, rfl, hd, rf⟩
      cases q2 : cl y.c with
      | none => simp only [q2] at h; exact h.elim
      | some b =>
        refine ⟨b, hcl _ _ q2, fun eb a ha => ?_, fun eb => ?_⟩
        · subst eb
          simp only [q2] at h
          exact ⟨O1, ρ1, S1, st1, AfterS.noexc (AfterS.mono h e1)⟩
        · subst eb
          simp only [q2] at h
          exact h O1 H1 σ1 _ _ e1 st1 ⟨rfl, dd, vs, rfl, hd, rf⟩
/-! ### xs.extend(e) -/
def dExt (f : ME) (g : MA) : ME := fun ρ S => (f ρ S).bind fun d S1 => match d with
  | .own k => (match S1[k]? with
    | some (.lst _) => (g ρ S1).bind fun es S2 => (match es, S2[k]? with
      | [.lst zs], some (.lst ds) => if ds.length + zs.length ≤ cap then .ok .non (S2.set k (.lst (ds ++ zs))) else .bad
      | [.own j], some (.lst ds) => (match S2[j]? with
        | some (.lst zs) => if ds.length + zs.length ≤ cap then .ok .non (S2.set k (.lst (ds ++ zs))) else .bad
        | _ => .bad)
      | _, _ => .bad)
    | _ => .bad)
  | _ => .bad
theorem de_ext (ho : DE X W o f) (ha : DA X W (e :: es) fa)
    (hbase : attributeBase o "extend" X.env (eval o X.env) = eval o X.env := by rfl)
    (hfew : ((backTo pos (starEach (e :: es) X.env)).all (fun x => !x.1) && (backToKw pos (keywordEach [] X.env)).all (fun x => x.1.isSome)
      && decide ((e :: es).length + ([] : List Keyword).length + (if ([] : List Keyword).isEmpty then 0 else 1) < 30)) = true := by rfl)
    (hline : (apos.endLine == pos.line) = true := by rfl) (hs : starEach (e :: es) X.env = (false, eval e X.env) :: starEach es X.env := by rfl) (hplain : (backTo pos (starEach es X.env)).any (·.1) = false := by rfl) :
    DE X W (.Call (.Attribute o "extend" apos) (e :: es) [] pos) (dExt f fa) :=
  ⟨PE.imp (pe_bm PySem.F.plainAttrs_list PySem.F.slot_list_extend PySem.F.type_list_extend mt_extend ho.pe ha.pa hbase hfew hline hs hplain) fun σ H Q ⟨O, ρ, S, st, h⟩ => ⟨O, ρ, S, st, After.seq h fun d S1 O1 H1 v e1 st1 r1 h1 => by
    cases d <;> try exact h1.elim
    rename_i k
    obtain ⟨a, ha, rfl⟩ := r1
    dsimp only at h1
    split at h1
    · rename_i ds hk
      obtain ⟨xs, hx, rx⟩ := st1.wf.cell k a _ ha hk
      refine ⟨.inl ⟨rfl, xs, SqL.of hx⟩, O1, ρ, S1, st1, After.seq h1 fun es S2 O2 H2 vs e2 st2 r2 h2 => ?_⟩
      have ha2 := e2.at ha
      split at h2
      · rename_i zs ds2 hk2
        obtain ⟨v, rfl, rv⟩ := r2.one
        obtain ⟨hc, h2⟩ := After.ite h2
        obtain ⟨b, ws, rfl, nb, hb, rw_⟩ := rv
        obtain ⟨ys, hy, ry⟩ := st2.wf.cell k a _ ha2 hk2
        refine ⟨a, b, ys, ws, rfl, rfl, hy, hb, by rw [← ry.length, ← rw_.length]; exact cap_line hc, ?_⟩
        obtain ⟨e3, st3⟩ := st2.mut (o := .lst (ys ++ ws)) (d := .lst (ds2 ++ zs)) ha2 fun e3 => ⟨_, upd_same, (ry.mono (e3.w st2.wf)).append (rw_.mono (e3.w st2.wf))⟩
        exact h2 O2 _ _ e3 st3 rfl
      · rename_i j ds2 hk2
        obtain ⟨v, rfl, rv⟩ := r2.one
        obtain ⟨b, hb, rfl⟩ := rv
        split at h2
        · rename_i zs hj
          obtain ⟨hc, h2⟩ := After.ite h2
          obtain ⟨ws, hw, rw_⟩ := st2.wf.cell j b _ hb hj
          obtain ⟨ys, hy, ry⟩ := st2.wf.cell k a _ ha2 hk2
          refine ⟨a, b, ys, ws, rfl, rfl, hy, hw, by rw [← ry.length, ← rw_.length]; exact cap_line hc, ?_⟩
          obtain ⟨e3, st3⟩ := st2.mut (o := .lst (ys ++ ws)) (d := .lst (ds2 ++ zs)) ha2 fun e3 => ⟨_, upd_same, (ry.mono (e3.w st2.wf)).append (rw_.mono (e3.w st2.wf))⟩
          exact h2 O2 _ _ e3 st3 rfl
        · exact h2.elim
      · exact h2.elim
    · exact h1.elim⟩⟩
end
/-- a def in a class's body -/
def clsDefAt (j : Nat) : Stmt → Stmt := fun s => match s with
  | .ClassDef _ _ _ body _ _ _ _ _ _ _ => body.getD j s
  | _ => s
end DE

set_option maxHeartbeats 4000000
/-! exceptions of the program's own over any builtin error whose maker is that of L: made with keywords, too -/
namespace XN
open PySem PySem.HandSPX PySem.Builtin
section
variable {pg : Program} {wd : World} {B : Around} {F : Value → Shared → Prop} {Z : Result → Shared → Prop} {hp : Heap} {gs : Array GenState} {dr : Drawn} {tk : Nat} {os : OsState}
variable {nm qn : Str} {C N : Addr} {bs mr mL : List Value} {dct : Bool} {sn : List Str} {sb : List Value} {ab : Bool} {cl : Option Bool} {dd : Option Addr} {k0 k1 k2 k3 k5 : Option Value} {L mk ini : String}
/-- what the classes behind an own one must be -/
structure Behind (mr : List Value) (L : String) : Prop where
  maker : mr.contains (.type L) = true
  attr : mr.contains (.type "AttributeError") = false
  name : mr.contains (.type "NameError") = false
theorem mem_own {v : Value} {b : Bool} {C : Addr} {mr : List Value} (h : mr.contains v = b) (ne : (v == Value.ref C) = false) : (Value.ref C :: mr).contains v = b := by
  rw [List.contains_cons, ne, h, Bool.false_or]
theorem maker_check (FL : ExcBaseFacts L mk ini mL) (hb : Behind mr L) {vs : List Value} {kw : List (Str × Value)} {Q : Unit → Shared → Prop}
    (hC : hp.get? C = some (excClassObj nm qn C N bs mr dct sn sb ab cl dd k0 k1 k2 k3 k5 mk)) (q : Q () ⟨hp, gs, dr, tk, os⟩) : wpAny (model pg wd) B (checkBuiltinCall mk ⟨.ref C :: vs, kw⟩) Q F ⟨hp, gs, dr, tk, os⟩ := by
  have h1 := mem_own (C := C) hb.maker rfl
  have h2 := FL.noStar
  simp only [checkBuiltinCall, FL.newKind, FL.newSplit, FL.newRow]
  repeat (first | refine wpAny_loadPart_at hC ?_ | (refine wpAny_isSubtype_exc hC ?_; rw [h1]) | refine wpAny_staticBase_exc hC ?_ | refine wpAny_madeBy_exc hC ?_ | simp only [bne_self_eq_false, Bool.false_eq_true, if_false] | wp_step)
  exact q
theorem maker_run (FL : ExcBaseFacts L mk ini mL) (hb : Behind mr L) {vs : List Value} {kw : List (Str × Value)}
    (hC : hp.get? C = some (excClassObj nm qn C N bs mr dct sn sb ab cl dd k0 k1 k2 k3 k5 mk)) (hl : vs.length ≤ sizeLine)
    (q : Z (.ok (.ret (.ref (hp.objs.size + 1)))) ⟨(hp.push (W.kdv_tup vs)).push (excO C hp.objs.size), gs, dr, tk, os⟩) :
    codeAny (model pg wd) B (.builtin mk ⟨.ref C :: vs, kw⟩) Z ⟨hp, gs, dr, tk, os⟩ := by
  have e0 := FL.ends
  have e1 := mem_own (C := C) hb.maker rfl
  have e2 := mem_own (C := C) hb.attr rfl
  have e3 := mem_own (C := C) hb.name rfl
  refine codeAny_builtinAt FL.entry (?_ : _)
  unfold Builtin.«BaseException.__new__»
  refine wpAt_bind (?_ : _)
  show wpAt _ _ _ (stack >>= _) _ _ _
  refine wpAt_bind (wpAt_stack fun p0 below0 => wpAt_of_wpAny (?_ : _))
  wp_walk
  refine wpAt_of_wpAny (?_ : _)
  rw [FL.owner]
  repeat (first | with_reducible refine wpAny_madeHere_exc FL.canon hC ?_ | with_reducible refine wpAny_loadPart_at hC ?_ | (with_reducible refine wpAny_isSubtype_exc hC ?_; first | rw [e1] | rw [e2] | rw [e3]) | wp_step)
  show Z _ _
  rw [Heap.size_push]
  exact q
theorem made_then (FL : ExcBaseFacts L mk ini mL) (hb : Behind mr L) {vs : List Value} {kw : List (Str × Value)} {g0 : Addr} {Q : Fin → Shared → Prop}
    (hC : hp.get? C = some (excClassObj nm qn C N bs mr dct sn sb ab cl dd k0 k1 k2 k3 k5 mk)) (li : W.Looks (model pg wd) hp (typeLookup (.ref C) "__init__") (some (.ref g0))) (bi : ∀ me, W.Looks (model pg wd) hp (bindSpecial (.ref g0) me) (.ref g0, [me])) (hl : vs.length ≤ sizeLine)
    (q : codeAny (model pg wd) B (.call (.ref g0) ⟨.ref (hp.objs.size + 1) :: vs, kw⟩) (fun z s2 => match z with | .ok (.ret v) => v = .none ∧ Q (.done (.ret (.ref (hp.objs.size + 1)))) s2 | .ok _ => False | .error x => F x s2)
      ⟨(hp.push (W.kdv_tup vs)).push (excO C hp.objs.size), gs, dr, tk, os⟩) : wpAny (model pg wd) B (Builtin.«type.__call__» ⟨.ref C :: vs, kw⟩) Q F ⟨hp, gs, dr, tk, os⟩ := by
  repeat (first | with_reducible refine wpAny_loadPart_at hC ?_ | with_reducible refine wpAny_madeBy_exc hC ?_ | wp_step)
  refine codeAny_call_builtin_code (Code.quiet_builtin _ FL.quiet) (maker_check FL hb hC (maker_run FL hb hC hl ?_))
  show wpAny _ _ _ _ _ _
  have keep : ∀ b o, hp.get? b = some o → ((hp.push (W.kdv_tup vs)).push (excO C hp.objs.size)).get? b = some o := fun b o z => Heap.get?_push_of_some _ (Heap.get?_push_of_some _ z)
  have hC2 := keep _ _ hC
  have hme : ((hp.push (W.kdv_tup vs)).push (excO C hp.objs.size)).get? (hp.objs.size + 1) = some (excO C hp.objs.size) := by heap_get
  have own : (Value.ref C :: mr).contains (.ref C) = true := by simp
  unfold isInstance
  repeat (first | with_reducible refine wpAny_loadPart_at hme ?_ | (with_reducible refine wpAny_isSubtype_exc hC2 ?_; rw [own]) | wp_step)
  show wpAny _ _ (typeLookup (.ref C) _) _ _ _
  refine (li.keeps keep).at (wpAny_holding (wpAny_bind (((bi (.ref (hp.objs.size + 1))).keeps keep).at (wpAny_bind (wpAny_call (codeAny_mono q fun z s2 w => ?_))))))
  rcases z with x | (v | _ | _ | _) <;> first | exact w | exact w.elim | skip
  obtain ⟨rfl, w⟩ := w
  first
    | exact wpAny_pure (wpAny_pure w)
    | (wp_walk; exact w)
/-- C(vs, kw): the exception is laid, then C's own __init__ runs on it -/
theorem exn_call (FL : ExcBaseFacts L mk ini mL) (hb : Behind mr L) {vs : List Value} {kw : List (Str × Value)} {g0 : Addr}
    (hC : hp.get? C = some (excClassObj nm qn C N bs mr dct sn sb ab cl dd k0 k1 k2 k3 k5 mk)) (li : W.Looks (model pg wd) hp (typeLookup (.ref C) "__init__") (some (.ref g0))) (bi : ∀ me, W.Looks (model pg wd) hp (bindSpecial (.ref g0) me) (.ref g0, [me])) (hl : vs.length ≤ sizeLine)
    (q : codeAny (model pg wd) (B.under (.builtin "type.__call__" ⟨.ref C :: vs, kw⟩)) (.call (.ref g0) ⟨.ref (hp.objs.size + 1) :: vs, kw⟩) (W.InitBack (hp.objs.size + 1) Z) ⟨(hp.push (W.kdv_tup vs)).push (excO C hp.objs.size), gs, dr, tk, os⟩) :
    codeAny (model pg wd) B (.call (.ref C) ⟨vs, kw⟩) Z ⟨hp, gs, dr, tk, os⟩ := by
  have look := tc_lookup
  have bound := tc_bind (.ref C)
  have ty : (⟨hp, gs, dr, tk, os⟩ : Shared).TypeIs (.ref C) "type" := ⟨_, hC, rfl⟩
  refine codeAny_of_tree (?_ : _)
  show wpAny _ _ (callAny (.ref C) _) _ _ _
  repeat (any_goals (first | assumption | with_reducible refine wpAny_loadPart_at hC ?_ | wp_step))
  refine ⟨rfl, codeAny_call_builtin_at (Code.quiet_builtin _ (by decide +kernel)) entry_typeCall (wpAny_check_type_call_sub hC (made_then FL hb hC li bi hl ?_))⟩
  refine codeAny_mono q fun z s2 w => (?_ : _)
  rcases z with x | (v | _ | _ | _) <;> exact w
end
end XN

set_option maxHeartbeats 4000000
namespace PySem
namespace F
theorem store_KeyErrorD : StoreFacts "KeyError" [.type "KeyError", .type "LookupError", .type "Exception", .type "BaseException", .type "object"] "object.__setattr__" "object" where
  mro := by kernel_rfl
  slot := .of (owner := "object") (n := "__setattr__") (by rw [typeLookup_type, builtinLookup_eq_fast]; kernel_rfl) (by decide +kernel) (by decide +kernel) (by decide +kernel)
    (by first | exact .inl (by decide +kernel) | exact .inr (by decide +kernel)) (by rw [isSubtype_type]; kernel_rfl)
  entry := entry_object_sa
  kind := by decide +kernel
  split := by decide +kernel
  hasOwner := by decide +kernel
  args := fun a b c => by unfold argsOk; kernel_rfl
  passes := fun self => by kernel_rfl
end F
end PySem

set_option maxHeartbeats 4000000
namespace XN
open PySem PySem.HandSPX PySem.Builtin PySem.Builtin.ObjectAttr
/-! ### fields stored on such an exception -/
section
variable {pg : Program} {wd : World} {B : Around} {F : Value → Shared → Prop} {Z : Result → Shared → Prop} {hp : Heap} {gs : Array GenState} {dr : Drawn} {tk : Nat} {os : OsState} {K : W.Frag}
/-- nothing on the way of classes refuses a store -/
structure Lets (mro : List Value) : Prop where
  pass : ∀ me, refuseLoop me "__setattr__" mro = pure ()
  obj : mro.contains (.type "object") = true
  ne : mro.isEmpty = false
theorem put_first {fld : Str} {u0 : Tok} {v : Value} {x C : Addr} {fv : Array Value} {cd : ClassData} (KI : K.In hp) (at_ : hp.get? x = some { cls := .ref C, data := .fields fv }) (hcd : W.clsIn K C = some cd) (lt : Lets cd.mro) (hd : cd.hasDict = true) (no : W.findIn K (.ref C) fld = some none)
    (q : ∀ h2 t2 dx, (∀ b o, b ≠ x → hp.get? b = some o → h2.get? b = some o) → hp.objs.size ≤ dx → dx ≠ x → h2.get? x = some { cls := .ref C, dict := some dx, data := .fields fv } → h2.Ns1 dx (fun y => if y = fld then some v else none) → Z (.ok (.ret .none)) ⟨h2, gs, dr, t2, os⟩) :
    codeAny (model pg wd) B (.call (.builtin "object.__setattr__") ⟨[.ref x, .str fld u0, v], []⟩) Z ⟨hp, gs, dr, tk, os⟩ := by
  have J : W.InstAt hp x { cls := .ref C, data := .fields fv } C none := ⟨at_, rfl, rfl, trivial⟩
  have SO := F.store_object
  have far : x ≠ hp.objs.size := Nat.ne_of_lt (Heap.lt_size at_)
  have isO : W.Looks (model pg wd) hp (isInstance (.ref x) (.type "object")) true := J.type.andThen (W.looks_mroIn KI (by unfold W.mroIn; rw [hcd, Option.bind_some, if_neg (by rw [lt.ne]; decide), lt.obj]))
  refine codeAny_call_builtin SO.slot.plain SO.entry (@W.check_slot (model pg wd) _ _ ⟨hp, gs, dr, tk, os⟩ "object.__setattr__" "object" "__setattr__" (.ref x) [.str fld u0, v] [] _ SO.kind SO.split isO (SO.args (.ref x) (.str fld u0) v) ?_)
  have l1 : W.Looks (model pg wd) hp (mroOf (.ref C)) cd.mro := (W.looks_clsIn KI hcd).andThen .now
  have l2 : W.Looks (model pg wd) hp (storeTaker? none) none := .now
  have l3 : W.Looks (model pg wd) hp (classData C) cd := W.looks_clsIn KI hcd
  rw [W.osa_eq, refuse_eq]
  refine wpAny_bind (wpAny_bind (J.type.at (wpAny_bind (l1.at (?_ : _)))))
  rw [lt.pass]
  refine wpAny_pure (wpAny_bind (J.type.at (wpAny_bind ((W.looks_findIn KI no).at (wpAny_bind (l2.at (?_ : _)))))))
  show wpAny _ _ (storeInOwnDict (.ref x) (.ref C) (.str fld u0) fld v false) _ _ _
  obtain ⟨nm, bs, mro, ns, qn, hasD, sn, sb, ab, cl, del⟩ := cd
  dsimp only at hd
  subst hd
  unfold storeInOwnDict ownDictForStores
  repeat (first | with_reducible refine store_in_new ?_ ?_ | with_reducible refine wpAny_loadPart_at at_ ?_ | with_reducible refine l3.at ?_ | wp_step)
  · exact ⟨_, #[], _, (Heap.get?_update_ne _ _ _ _ far.symm).trans (Heap.get?_push_at rfl rfl), rfl, fun e he => absurd he (by simp), fun _ => rfl⟩
  · intro h2 t2 n2 sm
    have at2 : (hp.push { cls := .type "dict", data := .dict #[] }).get? x = some { cls := .ref C, data := .fields fv } := Heap.get?_push_of_some _ at_
    exact q h2 t2 hp.objs.size (fun b o hb ho => (sm.2 b (Nat.ne_of_lt (Heap.lt_size ho))).trans ((Heap.get?_update_ne _ _ _ _ hb).trans (Heap.get?_push_of_some _ ho))) (Nat.le_refl _) far.symm ((sm.2 x far).trans (Heap.get?_update_self _ at2 rfl)) n2
theorem put_more {fld : Str} {u0 : Tok} {v : Value} {x C dx : Addr} {fv : Array Value} {cd : ClassData} {m0 : Str → Option Value} {nl : List Str} (KI : K.In hp) (at_ : hp.get? x = some { cls := .ref C, dict := some dx, data := .fields fv }) (hns : hp.Ns1 dx m0) (hw : Within m0 nl) (hz : nl.length ≤ 1000)
    (hcd : W.clsIn K C = some cd) (lt : Lets cd.mro) (hd : cd.hasDict = true) (no : W.findIn K (.ref C) fld = some none)
    (q : ∀ h2 t2, (∀ b o, b ≠ dx → hp.get? b = some o → h2.get? b = some o) → h2.Ns1 dx (fun y => if y = fld then some v else m0 y) → Z (.ok (.ret .none)) ⟨h2, gs, dr, t2, os⟩) :
    codeAny (model pg wd) B (.call (.builtin "object.__setattr__") ⟨[.ref x, .str fld u0, v], []⟩) Z ⟨hp, gs, dr, tk, os⟩ := by
  obtain ⟨oD, esD, epD, gD, dD, _⟩ := hns.count hw
  have J : W.InstAt hp x { cls := .ref C, dict := some dx, data := .fields fv } C (some oD) := ⟨at_, rfl, rfl, gD⟩
  have SO := F.store_object
  have isO : W.Looks (model pg wd) hp (isInstance (.ref x) (.type "object")) true := J.type.andThen (W.looks_mroIn KI (by unfold W.mroIn; rw [hcd, Option.bind_some, if_neg (by rw [lt.ne]; decide), lt.obj]))
  refine codeAny_call_builtin SO.slot.plain SO.entry (@W.check_slot (model pg wd) _ _ ⟨hp, gs, dr, tk, os⟩ "object.__setattr__" "object" "__setattr__" (.ref x) [.str fld u0, v] [] _ SO.kind SO.split isO (SO.args (.ref x) (.str fld u0) v) ?_)
  have l1 : W.Looks (model pg wd) hp (mroOf (.ref C)) cd.mro := (W.looks_clsIn KI hcd).andThen .now
  have l2 : W.Looks (model pg wd) hp (storeTaker? none) none := .now
  have l3 : W.Looks (model pg wd) hp (classData C) cd := W.looks_clsIn KI hcd
  rw [W.osa_eq, refuse_eq]
  refine wpAny_bind (wpAny_bind (J.type.at (wpAny_bind (l1.at (?_ : _)))))
  rw [lt.pass]
  refine wpAny_pure (wpAny_bind (J.type.at (wpAny_bind ((W.looks_findIn KI no).at (wpAny_bind (l2.at (?_ : _)))))))
  show wpAny _ _ (storeInOwnDict (.ref x) (.ref C) (.str fld u0) fld v false) _ _ _
  obtain ⟨nm, bs, mro, ns, qn, hasD, sn, sb, ab, cl, del⟩ := cd
  dsimp only at hd
  subst hd
  unfold storeInOwnDict ownDictForStores
  repeat (first | with_reducible refine PySem.OEX.store_in_old hns hw hz ?_ | with_reducible refine wpAny_loadPart_at at_ ?_ | with_reducible refine l3.at ?_ | wp_step)
  intro h2 t2 n2 sm
  exact q h2 t2 (fun b o hb ho => (sm.2 b hb).trans ho) n2
end
end XN

set_option maxHeartbeats 4000000
/-! own exception classes over ValueError, KeyError, RuntimeError: what is asked of them, their fields' stores, their __init__ -/
namespace XN
open PySem PySem.Spec PyProof.Rows L2 DE
def isR : Value → Bool
  | .ref _ => true
  | _ => false
theorem pass_drop (me : Value) : ∀ l : List Value, refuseLoop me "__setattr__" l = refuseLoop me "__setattr__" (l.dropWhile isR)
  | [] => rfl
  | v :: r => by
    cases v <;> first
      | rfl
      | (rw [refuseLoop_ref]; exact pass_drop me r)
def tailB (L : String) (tl bm : List Value) : Bool := bm.dropWhile isR == tl && (bm.contains (.type L) && (!bm.contains (.type "AttributeError") && (!bm.contains (.type "NameError") && bm.contains (.type "object"))))
def vT : List Value := [.type "ValueError", .type "Exception", .type "BaseException", .type "object"]
def kT : List Value := [.type "KeyError", .type "LookupError", .type "Exception", .type "BaseException", .type "object"]
def rT : List Value := [.type "RuntimeError", .type "Exception", .type "BaseException", .type "object"]
def mkB (n : String) (bm : List Value) : Bool := (n == "ValueError.__new__" && tailB "ValueError" vT bm) || ((n == "LookupError.__new__" && tailB "LookupError" kT bm) || (n == "RuntimeError.__new__" && tailB "RuntimeError" rT bm))
theorem tailB_ok {L : String} {tl bm : List Value} {C : Addr} (pt : ∀ me, refuseLoop me "__setattr__" tl = pure ()) (h : tailB L tl bm = true) : Behind bm L ∧ Lets (.ref C :: bm) := by
  unfold tailB at h
  simp only [Bool.and_eq_true, beq_iff_eq, Bool.not_eq_true'] at h
  obtain ⟨h1, h2, h3, h4, h5⟩ := h
  refine ⟨⟨h2, h3, h4⟩, ⟨fun me => ?_, by rw [List.contains_cons, h5, Bool.or_true], rfl⟩⟩
  rw [pass_drop]
  show refuseLoop me "__setattr__" (bm.dropWhile isR) = _
  rw [h1]
  exact pt me
theorem mkB_ok {n : String} {bm : List Value} {C : Addr} (h : mkB n bm = true) : ∃ L ini mL, ExcBaseFacts L n ini mL ∧ Behind bm L ∧ Lets (.ref C :: bm) := by
  unfold mkB at h
  simp only [Bool.or_eq_true, Bool.and_eq_true, beq_iff_eq] at h
  rcases h with ⟨rfl, h⟩ | ⟨rfl, h⟩ | ⟨rfl, h⟩
  · exact ⟨_, _, _, F.excBase_ValueError, tailB_ok F.store_ValueError.passes h⟩
  · exact ⟨_, _, _, F.excBase_LookupError, tailB_ok F.store_KeyErrorD.passes h⟩
  · exact ⟨_, _, _, F.excBase_RuntimeError, tailB_ok F.store_RuntimeError.passes h⟩
/-- what a class of exceptions must be -/
structure OexG (K : PySem.W.Frag) (C : Addr) : Prop where
  cls : ∃ L mk ini mL nm q N bs bm sn sub ab col dd k0 k1 k2 k3 k5, ExcBaseFacts L mk ini mL ∧ Behind bm L ∧ Lets (.ref C :: bm) ∧ K.lookup C = some (excClassObj nm q C N bs bm true sn sub ab col dd k0 k1 k2 k3 k5 mk)
  put : PySem.W.findIn K (.ref C) "__setattr__" = some (some (.builtin "object.__setattr__"))
  keep : PySem.W.keepIn K (.ref C) = true
def clB (K : PySem.W.Frag) (C : Addr) : Bool := match K.lookup C with
  | some ⟨.type t, _, .cls cd, sl⟩ => t == "type" && (match cd.mro, sl.toList with
    | .ref C' :: bm, [_, _, _, _, some (.builtin n), _] => C' == C && (!cd.hasDel && (cd.hasDict && mkB n bm))
    | _, _ => false)
  | _ => false
def exgB (K : PySem.W.Frag) (C : Addr) : Bool := clB K C && (decide (PySem.W.findIn K (.ref C) "__setattr__" = some (some (.builtin "object.__setattr__"))) && PySem.W.keepIn K (.ref C))
theorem exgB_ok {K : PySem.W.Frag} {C : Addr} (h : exgB K C = true) : OexG K C := by
  unfold exgB at h
  simp only [Bool.and_eq_true, decide_eq_true_eq] at h
  obtain ⟨h0, h1, h2⟩ := h
  refine ⟨?_, h1, h2⟩
  unfold clB at h0
  split at h0
  case h_2 => cases h0
  case h_1 t dd cd sl look =>
    rw [Bool.and_eq_true] at h0
    obtain ⟨ht, h0⟩ := h0
    split at h0
    case h_2 => cases h0
    case h_1 C' bm k0 k1 k2 k3 n k5 hm hs =>
      simp only [Bool.and_eq_true, beq_iff_eq, Bool.not_eq_true'] at h0 ht
      obtain ⟨e1, e3, e4, e5⟩ := h0
      obtain ⟨L, ini, mL, w1, w2, w3⟩ := mkB_ok (C := C) e5
      obtain ⟨nm, bs, mro, ns, qn, hd, sn, sub, ab, col, dl⟩ := cd
      dsimp only at hm e3 e4
      obtain ⟨sl⟩ := sl
      dsimp only at hs
      subst hm e1 e3 e4 ht hs
      exact ⟨L, n, ini, mL, nm, qn, ns, bs, bm, sn, sub, ab, col, dd, k0, k1, k2, k3, k5, w1, w2, w3, look⟩
section
variable {X : Cx} {pins : List (Addr × Obj)} {σ : L2.St} {H : Hp} {s : Shared} {a C dx : Addr} {f : Str} {y : V} {u : Value} {fs : List (Str × V)} {Q : Unit → Shared → Prop} {Z : Value → Shared → Prop} {B : Around}
theorem st_first (T : OexG X.K C) (I : Inv X pins σ H s) (e : H a = some (exo a C none)) (no : PySem.W.findIn X.K (.ref C) f = some none) (ry : RelV y u)
    (go : ∀ dn s1, H dn = none → dn ≠ a → Inv X pins σ (upd (upd H dn (.xd [(f, y)])) a (exo a C (some dn))) s1 → Q () s1) : wpAny (model X.prog X.w) B (setAttr (.ref a) f u) Q Z s := by
  obtain ⟨L, mk, ini, mL, nm, q, N, bs, bm, sn, sub, ab, col, dd, k0, k1, k2, k3, k5, FL, hb, lt, look⟩ := T.cls
  have cd : PySem.W.clsIn X.K C = some { name := nm, bases := bs, mro := .ref C :: bm, ns := N, qualname := q, hasDict := true, slotNames := sn, subclasses := sub, abstract := ab, collection := col, hasDel := false } := by
    unfold PySem.W.clsIn
    rw [look] <;> rfl
  obtain ⟨t1, at1⟩ := exo_at I.hok e
  obtain ⟨hp, g, dr, tk, os⟩ := s
  refine PySem.W.set_plain I.kIn (od := none) (ox := { cls := .ref C, dict := none, data := .fields #[.ref t1, .none, .none, .none, .bool false, .none] }) ⟨at1, rfl, rfl, trivial⟩ T.put ?_
  refine put_first I.kIn at1 cd lt rfl no fun h2 t2 dn kp big ne at2 ns2 => ?_
  have fresh : H dn = none := I.hok.fresh big
  have off : ∀ {c : Addr} {ob : Obj}, hp.get? c = some ob → c ≠ dn := fun {c ob} z => Nat.ne_of_lt (Nat.lt_of_lt_of_le (Heap.lt_size z) big)
  have nota : ∀ {c : Addr}, H c = none → c ≠ a := fun {c} n z => by
    rw [z, e] at n
    cases n
  have ch : Un X.fs [] H (upd (upd H dn (.xd [(f, y)])) a (exo a C (some dn))) hp h2 := {
    keep := fun c ob z n _ _ => kp c ob (nota n) z
    slot := fun c ob z n _ _ => ⟨ob.slots, kp c ob (nota n) z⟩
    free := fun c ob z n _ => by rw [upd_ne (nota n), upd_ne (off z), n]
    there := fun c ob z _ => by
      by_cases hc : c = a
      · exact ⟨_, hc ▸ at2⟩
      · exact ⟨ob, kp c ob hc z⟩
    tups := fun c xs z => by rw [upd_ne (at_ne e z exo_tup), upd_ne (ne_of_none z fresh), z]
    frzs := fun c ob v z => by rw [upd_ne (at_ne e z exo_frz), upd_ne (ne_of_none z fresh), z]
    tbls := fun c ps z => ⟨#[], by rw [upd_ne (at_ne e z exo_tbl), upd_ne (ne_of_none z fresh), z]; simp⟩ }
  refine go dn _ fresh ne (I.un (t' := t2) ch fun c ob z => ?_)
  by_cases hc : c = a
  · subst hc
    rw [upd_same] at z
    cases z
    exact exo_ok at2
  · rw [upd_ne hc] at z
    by_cases hd : c = dn
    · subst hd
      rw [upd_same] at z
      cases z
      exact ⟨_, ns2, relO_put (fs := []) ry fun g => True.intro⟩
    · rw [upd_ne hd] at z
      refine (I.hok c ob z).stay (fun c2 v h2c z2 => kp c2 v ?_ z2) (fun c2 h2c => ?_) (fun c2 xs h2c => ?_)
      · rcases h2c with h2c | h2c
        · exact h2c ▸ hc
        · exact at_ne e h2c exo_own
      · rw [upd_ne (at_ne e h2c exo_own), upd_ne (ne_of_none h2c fresh), h2c]
      · rw [upd_ne (at_ne e h2c exo_tup), upd_ne (ne_of_none h2c fresh), h2c]
/-- an exception's dict, told the other way -/
theorem retag (I : Inv X pins σ H s) (ed : H dx = some (.xd fs)) : Inv X pins σ (upd H dx (exd dx fs)) s := by
  obtain ⟨mA, ns, rel⟩ := (show ObjOk X.prog X.w H s.heap dx (.xd fs) from I.hok dx _ ed)
  have n1 : ∀ {c : Addr} {u : HO}, H c = some u → HO.xd fs ≠ u → c ≠ dx := fun z d => at_ne ed z d
  have n0 : ∀ {c : Addr}, H c = none → c ≠ dx := fun n z => by
    rw [z, ed] at n
    cases n
  have un : Un X.fs [] H (upd H dx (exd dx fs)) s.heap s.heap := {
    keep := fun c ob z n _ _ => z
    slot := fun c ob z n _ _ => ⟨ob.slots, z⟩
    free := fun c ob z n _ => by rw [upd_ne (n0 n), n]
    there := fun c ob z _ => ⟨ob, z⟩
    tups := fun c xs z => by rw [upd_ne (n1 z fun e => nomatch e), z]
    frzs := fun c ob v z => by rw [upd_ne (n1 z fun e => nomatch e), z]
    tbls := fun c ps z => ⟨#[], by rw [upd_ne (n1 z fun e => nomatch e), z]; simp⟩ }
  refine I.un (t' := s.toks) un fun c ob z => ?_
  by_cases hc : c = dx
  · subst hc
    rw [upd_same] at z
    cases z
    exact exd_ok ns rel
  · rw [upd_ne hc] at z
    refine (I.hok c ob z).stay (fun c2 v h2c z2 => z2) (fun c2 h2c => ?_) (fun c2 xs h2c => ?_)
    · rw [upd_ne (n1 h2c fun e => nomatch e), h2c]
    · rw [upd_ne (n1 h2c fun e => nomatch e), h2c]
theorem st_next (T : OexG X.K C) (I : Inv X pins σ H s) (e : H a = some (exo a C (some dx))) (ed : H dx = some (.xd fs)) (hl : fs.length ≤ 900) (no : PySem.W.findIn X.K (.ref C) f = some none) (ry : RelV y u)
    (go : ∀ s1, Inv X pins σ (upd H dx (.xd ((f, y) :: fs))) s1 → Q () s1) : wpAny (model X.prog X.w) B (setAttr (.ref a) f u) Q Z s := by
  obtain ⟨L, mk, ini, mL, nm, q, N, bs, bm, sn, sub, ab, col, dd, k0, k1, k2, k3, k5, FL, hb, lt, look⟩ := T.cls
  have cd : PySem.W.clsIn X.K C = some { name := nm, bases := bs, mro := .ref C :: bm, ns := N, qualname := q, hasDict := true, slotNames := sn, subclasses := sub, abstract := ab, collection := col, hasDel := false } := by
    unfold PySem.W.clsIn
    rw [look] <;> rfl
  obtain ⟨t1, at1⟩ := exo_at I.hok e
  obtain ⟨mA, ns, rel⟩ := (show ObjOk X.prog X.w H s.heap dx (.xd fs) from I.hok dx _ ed)
  have wi := within_of rel
  obtain ⟨hp, g, dr, tk, os⟩ := s
  obtain ⟨oD, _, _, gD, _, _⟩ := ns.count wi
  refine PySem.W.set_plain I.kIn (od := some oD) (ox := { cls := .ref C, dict := some dx, data := .fields #[.ref t1, .none, .none, .none, .bool false, .none] }) ⟨at1, rfl, rfl, gD⟩ T.put ?_
  refine put_more I.kIn at1 ns wi (by rw [List.length_map]; omega) cd lt rfl no fun h2 t2 kp ns2 => ?_
  have there : ∃ o, h2.get? dx = some o := by
    obtain ⟨o, _, _, z, _⟩ := ns2
    exact ⟨o, z⟩
  have J := (retag I ed).write (t' := t2) (x := dx) (e := dx) (o := .xd ((f, y) :: fs)) (by rw [upd_same]; exact True.intro) (.inl rfl) kp there ⟨_, ns2, relO_put ry rel⟩
  rw [upd_upd] at J
  exact go _ J
end
/-- self.f = e -/
def tStG (K : PySem.W.Frag) (f : Str) (to te : TE) : TS := fun D' σ H => te σ H fun y H1 => to σ H1 fun x H2 => ∃ a C : Addr, x = .ref a ∧ OexG K C ∧ PySem.W.findIn K (.ref C) f = some none ∧
  ((H2 a = some (exo a C none) ∧ ∀ dn, H2 dn = none → dn ≠ a → D'.nx σ (upd (upd H2 dn (.xd [(f, y)])) a (exo a C (some dn)))) ∨
    ∃ (dn : Addr) (fs : List (Str × V)), H2 a = some (exo a C (some dn)) ∧ H2 dn = some (.xd fs) ∧ fs.length ≤ 900 ∧ D'.nx σ (upd H2 dn (.xd ((f, y) :: fs))))
theorem ps_stG {X : Cx} {o e : Expr} {to te : TE} {f : Str} {p' pos : Pos} (ho : PE X o to) (he : PE X e te) (hs : swapsWith e (some (.Attribute o f p')) pos.line X.env = pure false := by rfl) : PS X (.Assign [.Attribute o f p'] e pos) (tStG X.K f to te) := by
  refine ⟨fun pins s σ H D' I h => ?_⟩
  refine plainObj_wpAny_Assign_Attribute (thn (he.run pins s σ H _ I h) fun v s1 ⟨y, H1, I1, r1, q1⟩ => thn (ho.run pins s1 σ H1 _ I1 q1) fun u s2 ⟨x, H2, I2, r2, z⟩ => ?_) hs
  obtain ⟨a, C, rfl, T, no, z⟩ := z
  cases r2
  rcases z with ⟨ea, z⟩ | ⟨dn, fs, ea, ed, hl, z⟩
  · exact st_first T I2 ea no r1 fun dn s3 n ne J => ⟨σ, _, J, z dn n ne⟩
  · exact st_next T I2 ea ed hl no r1 fun s3 J => ⟨σ, _, J, z⟩
/-! __init__ of one field, of two -/
def in1 (K : PySem.W.Frag) (f : Str) : Sp := fun vs H Q E => ∃ a C v, vs = [.ref a, v] ∧ OexG K C ∧ PySem.W.findIn K (.ref C) f = some none ∧ H a = some (exo a C none) ∧ ∀ dn, H dn = none → dn ≠ a → Q .non (upd (upd H dn (.xd [(f, v)])) a (exo a C (some dn)))
def in2 (K : PySem.W.Frag) (f g : Str) : Sp := fun vs H Q E => ∃ a C v u, vs = [.ref a, v, u] ∧ OexG K C ∧ PySem.W.findIn K (.ref C) f = some none ∧ PySem.W.findIn K (.ref C) g = some none ∧ H a = some (exo a C none) ∧
  ∀ dn, H dn = none → dn ≠ a → Q .non (upd (upd H dn (.xd [(g, u), (f, v)])) a (exo a C (some dn)))
theorem upd_swap {H : Hp} {a b : Addr} {o u v : HO} (ne : b ≠ a) : upd (upd (upd H b o) a u) b v = upd (upd H b v) a u := by
  funext y
  by_cases h1 : y = b
  · subst h1; rw [upd_same, upd_ne ne, upd_same]
  · rw [upd_ne h1]
    by_cases h2 : y = a
    · subst h2; rw [upd_same, upd_same]
    · rw [upd_ne h2, upd_ne h2, upd_ne h1, upd_ne h1]
section
variable {P : Program} {w : World} {K : PySem.W.Frag} {mg : Str → Option Value} {base : Heap} {x qual f f2 pn pm : Str} {params : Arguments} {scope : Scope} {kws : List (Str × V)} {g : Addr} {fd : FuncData} {p1 p2 p3 p4 q1 q2 q3 q4 : Pos} {body : List Stmt}
theorem in1_of (F : FunD K x qual params body scope [] kws g fd) (hb : body = [.Assign [.Attribute (.Name "self" p1) f p2] (.Name "value" p3) p4]) (S : FnScope ["self", "value"] ["self", "value"] scope)
    (h1 : scope.names.lookup ("self" : Str) = some .local) (h2 : scope.names.lookup ("value" : Str) = some .local) : FnOk P w K mg base (L2.CX P w) 1 g fd ["self", "value"] (in1 K f) := by
  subst hb
  refine F.ok S (fun vs H Q E h => ?_) (fun cdv A outer s H vs Q E hr h => ?_)
  · obtain ⟨_, _, _, rfl, _⟩ := h; rfl
  · obtain ⟨a, C, v, rfl, T, no, ha, z⟩ := h
    exact ⟨_, pss_one (ps_stG (pe_var (i := 0) rfl (.inl h1)) (pe_var (i := 1) rfl (.inl h2))), ⟨v, rfl, .ref a, rfl, a, C, rfl, T, no, .inl ⟨ha, z⟩⟩⟩
theorem in2_of (F : FunD K x qual params body scope [] kws g fd) (hb : body = [.Assign [.Attribute (.Name "self" p1) f p2] (.Name "word" p3) p4, .Assign [.Attribute (.Name "self" q1) f2 q2] (.Name "value" q3) q4]) (S : FnScope ["self", "word", "value"] ["self", "word", "value"] scope)
    (h1 : scope.names.lookup ("self" : Str) = some .local) (h2 : scope.names.lookup ("word" : Str) = some .local) (h3 : scope.names.lookup ("value" : Str) = some .local) : FnOk P w K mg base (L2.CX P w) 1 g fd ["self", "word", "value"] (in2 K f f2) := by
  subst hb
  refine F.ok S (fun vs H Q E h => ?_) (fun cdv A outer s H vs Q E hr h => ?_)
  · obtain ⟨_, _, _, _, rfl, _⟩ := h; rfl
  · obtain ⟨a, C, v, u, rfl, T, no, no2, ha, z⟩ := h
    refine ⟨_, pss_cons (ps_stG (pe_var (i := 0) rfl (.inl h1)) (pe_var (i := 1) rfl (.inl h2))) (pss_one (ps_stG (pe_var (i := 0) rfl (.inl h1)) (pe_var (i := 2) rfl (.inl h3)))), ?_⟩
    refine ⟨v, rfl, .ref a, rfl, a, C, rfl, T, no, .inl ⟨ha, fun dn hd ne => ?_⟩⟩
    refine ⟨u, rfl, .ref a, rfl, a, C, rfl, T, no2, .inr ⟨dn, [(f, v)], upd_same, by rw [upd_ne ne, upd_same], by rw [List.length_singleton]; omega, ?_⟩⟩
    rw [upd_swap ne]
    exact z dn hd ne
end
end XN

set_option maxHeartbeats 4000000
/-! own exceptions as values: made, read, asked isinstance; enumerate -/
namespace XN
open PySem PySem.Spec PyProof.Rows L2 DE
theorem upd_hide {H : Hp} {a b : Addr} {o u v : HO} (ne : b ≠ a) : upd (upd (upd H a o) b u) a v = upd (upd H b u) a v := by
  funext y
  by_cases h1 : y = a
  · subst h1; rw [upd_same, upd_same]
  · rw [upd_ne h1, upd_ne h1]
    by_cases h2 : y = b
    · subst h2; rw [upd_same, upd_same]
    · rw [upd_ne h2, upd_ne h2, upd_ne h1]
theorem wf_no {K : PySem.W.Frag} {O : Ow} {H : Hp} {S : Sto} {a : Addr} (wf : WF K O H S) (n : H a = none) : O.no a := ⟨fun z => wf.there a (.inl z) n, fun z => wf.there a (.inr z) n⟩
/-- keywords behind values, no defaults -/
theorem kb_of {K : PySem.W.Frag} {x qual : Str} {params : Arguments} {body : List Stmt} {scope : Scope} {kws : List (Str × V)} {f : Addr} {fd : FuncData} {ps : List Str} (F : FunD K x qual params body scope [] kws f fd) (n : Nat) (ks : List Str)
    (h : ∀ (kV doc pm : Value) (an : Option Addr) (cdv ct : Value) (us ws : List Value), us.length = n → ws.length = ks.length → bindArgs (PySem.W.fnOf x qual params body scope .none kV doc pm an cdv ct) ⟨us, ks.zip ws⟩ = pure (ps.zip (us ++ ws))) :
    KBn K fd ps n ks (fun us ws => us ++ ws) (fun vs zs => vs ++ zs) := by
  obtain ⟨oc, od, dV, kV, doc, pm, an, cdv, ct, osl, rfl, _, _, hD, _⟩ := F.ex
  rcases hD with ⟨_, rfl⟩ | ⟨e, _⟩
  · exact ⟨fun s us ws X l1 l2 => .of_eq (h kV doc pm an cdv ct us ws l1 l2), fun r1 r2 => r1.append r2⟩
  · exact absurd rfl e
def exF (c : Str) (m : Nat) (outD : List D → List (Str × D)) : FD := fun as S => if as.length = m then .ok (.exo c (outD as)) S else .bad
theorem callee_ex {X : Cx} {k n m : Nat} {c : Str} {fI : Addr} {fd : FuncData} {ps ks : List Str} {sp : Sp} {outD : List D → List (Str × D)} {out : List V → List (Str × V)} (T : OexG X.K (He.ga X.K c))
    (iC : PySem.W.findIn X.K (.ref (He.ga X.K c)) "__init__" = some (some (.ref fI))) (tI : PySem.W.typeIn X.K (.ref fI) = some (.type "function")) (G : FnOk X.prog X.w X.K X.mg X.base (L2.CX X.prog X.w) k fI fd ps sp)
    (kb : KBn X.K fd ps (n + 1) ks (fun us ws => us ++ ws) (fun vs zs => vs ++ zs)) (hm : n + ks.length = m) (hz : m ≤ 1000)
    (hsp : ∀ (a : Addr) (vs : List V) (H : Hp) (Q : VK) (E : XK), vs.length = m → H a = some (exo a (He.ga X.K c) none) → (∀ dn, H dn = none → dn ≠ a → Q .non (upd (upd H dn (.xd (out vs))) a (exo a (He.ga X.K c) (some dn)))) → sp (.ref a :: vs) H Q E)
    (hrel : ∀ (O : Ow) (H : Hp) ds vs, ds.length = m → Reps X.K O H ds vs → RepF X.K O H (outD ds) (out vs)) : CalleeX X (k + 1) (He.ga X.K c) n ks (exF c m outD) := by
  intro pins σ H s Q E us ws vs zs hr gd px I r rz l1 l2 ⟨O, S, as, wf, ra, hl, h⟩
  have hl2 : as.length = m := hl.trans hm
  unfold exF at h
  rw [if_pos hl2] at h
  obtain ⟨L, mk, ini, mL, nm, q, N, bs, bm, sn, sub, ab, col, dd, k0, k1, k2, k3, k5, FL, hb, lt, look⟩ := T.cls
  generalize hC : He.ga X.K c = C at *
  obtain ⟨hp, g0, dr, tk, os⟩ := s
  generalize ez : hp.objs.size + 1 = z
  have hn : H z = none := by subst ez; exact I.hok.fresh (Nat.le_succ _)
  have kk : ∀ b o, hp.get? b = some o → ((hp.push (PySem.W.kdv_tup us)).push (PySem.HandSPX.excO C hp.objs.size)).get? b = some o := fun b o e => Heap.get?_push_of_some _ (Heap.get?_push_of_some _ e)
  have at1 : ((hp.push (PySem.W.kdv_tup us)).push (PySem.HandSPX.excO C hp.objs.size)).get? z = some (PySem.HandSPX.excO C hp.objs.size) := by subst ez; heap_get
  have big : hp.objs.size ≤ z := ez ▸ Nat.le_succ _
  have I2 : Inv X pins σ (upd H z (exo z C none)) ⟨(hp.push (PySem.W.kdv_tup us)).push (PySem.HandSPX.excO C hp.objs.size), g0, dr, tk, os⟩ := I.laid (t' := tk) (a := z) kk big (exo_ok at1)
  have short : us.length ≤ sizeLine := by rw [l1, sizeLine_eq]; omega
  have rv : Vals (V.ref z :: vs) (Value.ref z :: us) := .cons rfl r
  have lvs : (vs ++ zs).length = m := by rw [List.length_append, r.length, rz.length, l1, l2]; exact hm
  refine wpAny_call (exn_call FL hb (I.kIn _ _ look) (PySem.W.looks_findIn I.kIn iC) (fun me => PySem.W.bind_fn I.kIn me tI) short ?_)
  rw [ez]
  have q0 : sp (V.ref z :: (vs ++ zs)) (upd H z (exo z C none)) (fun v H2 => v = .non ∧ Q (.ref z) H2) (E σ) := by
    refine hsp z _ _ _ _ lvs upd_same fun dn hd ne => ⟨rfl, ?_⟩
    have hd1 : H dn = none := by rw [upd_ne ne] at hd; exact hd
    rw [upd_hide ne]
    have st0 : Stt X.K O H [] [] S := ⟨wf, .nil⟩
    obtain ⟨e1, st1⟩ := st0.new (o := .xd (out (vs ++ zs))) hd1
    have hn1 : upd H dn (.xd (out (vs ++ zs))) z = none := by rw [upd_ne (Ne.symm ne)]; exact hn
    obtain ⟨e2, st2⟩ := st1.new (o := exo z C (some dn)) hn1
    have e12 := e1.trans e2
    refine h _ _ _ e12 st2.wf ⟨z, some dn, out (vs ++ zs), rfl, wf_no wf hn, by rw [hC]; exact upd_same, fun y ey => ?_, fun z => (nomatch z), hrel _ _ _ _ hl2 (ra.mono (e12.w wf))⟩
    cases ey
    exact ⟨wf_no wf hd1, by rw [upd_ne ne, upd_same]⟩
  refine codeAny_mono (G.run _ X.stack _ _ ⟨Value.ref z :: us, ks.zip ws⟩ (Value.ref z :: us ++ ws) _ _ (E σ) (hr.make C us (ks.zip ws)) (I2.env0.make C us (ks.zip ws)) (kb.to _ (Value.ref z :: us) ws I2.kIn (congrArg Nat.succ l1) l2) (kb.rel rv rz) q0) ?_
  rintro (er | fl) s' w
  · exact px pins _ _ er s' I2 w
  · rcases fl with _ | _ | _ | u
    all_goals first
      | exact w.elim
      | (obtain ⟨v, H', I3, rr, ev, q3⟩ := I2.after w
         subst ev
         exact ⟨rr, ⟨V.ref z, H', I3, rfl, q3⟩⟩)
/-- C(): no __init__ of its own, no dict -/
def exNF (c : Str) : FD := fun as S => match as with
  | [] => .ok (.exo c []) S
  | _ => .bad
theorem callee_exN {X : Cx} {c : Str} {L mk ini : String} {mL : List Value} (FL : ExcBaseFacts L mk ini mL) (hq : PySem.W.excIn X.K (He.ga X.K c) mL mk = true) : CalleeX X 0 (He.ga X.K c) 0 [] (exNF c) := by
  intro pins σ H s Q E us ws vs zs hr gd px I r rz l1 l2 ⟨O, S, as, wf, ra, hl, h⟩
  have e1 : us = [] := List.length_eq_zero_iff.mp l1
  have e2 : as = [] := List.length_eq_zero_iff.mp hl
  subst e1 e2
  obtain ⟨hp, g0, dr, tk, os⟩ := s
  obtain ⟨bm, N, nm, qn, bs, hdct, sn, sub, ab, col, dd, k0, k1, k2, k3, k5, mN, at1, hN, hni, ot⟩ := exc_obj I.kIn hq
  refine wpAny_call_exc_subT FL ot at1 hN hni (fun h2 e hx => ?_) (by show 0 ≤ sizeLine; exact Nat.zero_le _)
  obtain ⟨t, he, _, _⟩ := hx.there
  have hn : H e = none := I.hok.gone hx.new
  have off : ∀ {b : Addr} {u : HO}, H b = some u → b ≠ e := fun z y => by
    rw [y, hn] at z
    cases z
  have offh : ∀ {b : Addr} {u : Obj}, hp.get? b = some u → b ≠ e := fun z y => by
    have w := hx.new
    rw [y] at z
    cases w.symm.trans z
  have I2 : Inv X pins σ (upd H e (exo e (He.ga X.K c) none)) ⟨h2, g0, dr, tk, os⟩ := by
    refine I.un (t' := tk) (h' := h2) {
      keep := fun b ob z n _ _ => hx.keeps b ob z
      slot := fun b ob z n _ _ => ⟨ob.slots, hx.keeps b ob z⟩
      free := fun b ob z n _ => by rw [upd_ne (offh z), n]
      there := fun b ob z _ => ⟨ob, hx.keeps b ob z⟩
      tups := fun b xs z => by rw [upd_ne (off z), z]
      frzs := fun b ob v z => by rw [upd_ne (off z), z]
      tbls := fun b ps z => ⟨#[], by rw [upd_ne (off z), z]; simp⟩ } fun b ob z => ?_
    by_cases hb : b = e
    · subst hb
      rw [upd_same] at z
      cases z
      exact exo_ok he
    · rw [upd_ne hb] at z
      exact (I.hok b ob z).stay (fun b2 v _ z2 => hx.keeps b2 v z2) (fun b2 h3 => by rw [upd_ne (off h3), h3]) (fun b2 xs h3 => by rw [upd_ne (off h3), h3])
  have st0 : Stt X.K O H [] [] S := ⟨wf, .nil⟩
  obtain ⟨x1, st1⟩ := st0.new (o := exo e (He.ga X.K c) none) hn
  exact ⟨.ref e, _, I2, rfl, h _ _ _ x1 st1.wf ⟨e, none, [], rfl, wf_no wf hn, upd_same, fun y ey => (nomatch ey), fun _ => rfl, rfl⟩⟩
section
variable {X : Cx} {W : WX} {e : Expr} {pos p : Pos} {g : ME} {fa : MA}
/-! o.f -/
def dEf (f : Str) (cs : List Str) (g : ME) : ME := fun ρ S => (g ρ S).bind fun d S1 => match d with
  | .exo c fs => if c ∈ cs then (match fs.lookup f with
    | some d => .ok d S1
    | none => .bad) else .bad
  | _ => .bad
theorem de_ef {f : Str} {cs : List Str} (he : DE X W e g) (hc : ∀ c ∈ cs, XfC X.K (He.ga X.K c) ∧ PySem.W.findIn X.K (.ref (He.ga X.K c)) f = some none) (hb : attributeBase e f X.env (eval e X.env) = eval e X.env := by rfl) : DE X W (.Attribute e f pos) (dEf f cs g) := by
  refine ⟨⟨fun pins s σ H Q I ⟨O, ρ, S, st, h⟩ => ?_⟩⟩
  have run := he.pe.run pins s σ H (fun x H1 => ∃ a c dd vs v, x = .ref a ∧ XfC X.K (He.ga X.K c) ∧ PySem.W.findIn X.K (.ref (He.ga X.K c)) f = some none ∧ H1 a = some (exo a (He.ga X.K c) (some dd)) ∧ H1 dd = some (.xd vs) ∧ vs.lookup f = some v ∧ Q v H1) I ⟨O, ρ, S, st, After.seq h fun d S1 O1 H1 v e1 st1 r1 h1 => by
    cases d <;> try exact h1.elim
    rename_i c fs
    simp only at h1
    by_cases hm : c ∈ cs
    · rw [if_pos hm] at h1
      cases q : fs.lookup f with
      | none => simp only [q] at h1; exact h1.elim
      | some d =>
        simp only [q] at h1
        obtain ⟨a, dd, vs, rfl, _, ha, hd, hz, rf⟩ := r1
        obtain ⟨v, hv, rv⟩ := repF_lookup rf q
        cases dd with
        | none => rw [hz rfl] at hv; cases hv
        | some dd => exact ⟨a, c, dd, vs, v, rfl, (hc c hm).1, (hc c hm).2, ha, (hd dd rfl).2, hv, After.ok h1 st1 rv⟩
    · rw [if_neg hm] at h1; exact h1.elim⟩
  refine attr_of hb (thn run fun u s1 ⟨x, H1, I1, rx, a, c, dd, vs, v, ex, T, no, ha, hd, hv, q⟩ => ?_)
  subst ex
  cases rx
  obtain ⟨t1, at1⟩ := exo_at I1.hok ha
  obtain ⟨mA, hns, rel⟩ := (show ObjOk X.prog X.w H1 s1.heap dd (.xd vs) from I1.hok dd _ hd)
  obtain ⟨od, ho, hl⟩ := lookIn_ns hns
  obtain ⟨u2, hu, ru⟩ := RelO.some_of (v := v) (o := mA f) (by rw [← hv]; exact rel f)
  have J : PySem.W.InstAt s1.heap a { cls := .ref (He.ga X.K c), dict := some dd, data := .fields #[.ref t1, .none, .none, .none, .bool false, .none] } (He.ga X.K c) (some od) := ⟨at1, rfl, rfl, ho⟩
  exact HandSPX.exc_get I1.kIn J T.ga T.gg T.exC (PySem.W.findObj_own T.hdC no rfl (by rw [hl, hu])) (handed_of ru) ⟨v, H1, I1.tok _, ru, q⟩
/-! isinstance(o, C) -/
def oEi (kt : Str → D → Option Bool) : FD := fun ds S => match ds with
  | [.exo c _, t] => (match kt c t with
    | some b => .ok (.bl b) S
    | none => .bad)
  | _ => .bad
theorem c_oEi {kt : Str → D → Option Bool} (hk : ∀ c t b, kt c t = some b → XfC X.K (He.ga X.K c) ∧ kcB X.K (He.ga X.K c) = true ∧ ∃ cv, (∀ K O H v u, K = X.K → Rep K O H t v → RelV v u → u = cv) ∧ PySem.W.kitOne X.K (.ref (He.ga X.K c)) cv = some b) : CallR X (.builtin "isinstance") (RC X.K (oEi kt)) := by
  intro pins s σ H vs us Q I rv ⟨W, ρ, σ', O, S, ds, st, r, h⟩
  unfold oEi at h
  split at h
  · rename_i c fs t
    obtain ⟨v, u, rfl, r1, r2⟩ := r.two
    cases q : kt c t with
    | none => simp only [q] at h; exact h.elim
    | some b =>
      simp only [q] at h
      obtain ⟨T, kc, cv, hc, k1⟩ := hk c t b q
      obtain ⟨a, dd, vs', rfl, _, ha, hd, _, _⟩ := r1
      cases rv with
      | cons rx rr =>
        cases rr with
        | cons rt rr =>
          cases rr
          cases rx
          have ec := hc _ O H u _ rfl r2 rt
          subst ec
          obtain ⟨t1, at1⟩ := exo_at I.hok ha
          have J : ∃ od, PySem.W.InstAt s.heap a { cls := .ref (He.ga X.K c), dict := dd, data := .fields #[.ref t1, .none, .none, .none, .bool false, .none] } (He.ga X.K c) od := by
            cases dd with
            | none => exact ⟨none, at1, rfl, rfl, trivial⟩
            | some y =>
              obtain ⟨mA, hns, _⟩ := (show ObjOk X.prog X.w H s.heap y (.xd vs') from I.hok y _ (hd y rfl).2)
              obtain ⟨od, ho, _⟩ := lookIn_ns hns
              exact ⟨some od, at1, rfl, rfl, ho⟩
          obtain ⟨od, J⟩ := J
          exact PySem.W.kia_one (kcB_kit kc T) I.kIn J k1 (fun z => nomatch z) fun tk => ⟨.bl b, H, I.kept (t' := tk) fun _ _ z => z, rfl, After.ok h st rfl⟩
  · exact h.elim
/-- by tables -/
def ktE (cs : List Str) (tg : List ((Str × Str) × Bool)) (tt : List ((Str × String) × Bool)) : Str → D → Option Bool := fun c t => if c ∈ cs then ktD c tg tt t else none
def isB (cs : List Str) : Xb := fun K => cs.all fun c => xfB K (He.ga K c) && kcB K (He.ga K c)
theorem ktE_ok {cs : List Str} {tg : List ((Str × Str) × Bool)} {tt : List ((Str × String) × Bool)} (h0 : isB cs X.K = true) (h1 : xgB tg X.K = true) (h2 : xtB tt X.K = true) : ∀ c t b, ktE cs tg tt c t = some b →
    XfC X.K (He.ga X.K c) ∧ kcB X.K (He.ga X.K c) = true ∧ ∃ cv, (∀ K O H v u, K = X.K → Rep K O H t v → RelV v u → u = cv) ∧ PySem.W.kitOne X.K (.ref (He.ga X.K c)) cv = some b := fun c t b h => by
  unfold ktE at h
  by_cases hm : c ∈ cs
  · rw [if_pos hm] at h
    have z := List.all_eq_true.mp h0 c hm
    rw [Bool.and_eq_true] at z
    exact ⟨xfB_ok z.1, z.2, ktD_ok h1 h2 t b h⟩
  · rw [if_neg hm] at h; cases h
/-! enumerate(list) -/
def enumD : Nat → List D → List D
  | _, [] => []
  | i, d :: r => .tup [.int i, d] :: enumD (i + 1) r
theorem enumD_len : ∀ (ds : List D) (i : Nat), (enumD i ds).length = ds.length
  | [], _ => rfl
  | _ :: r, i => congrArg Nat.succ (enumD_len r (i + 1))
theorem enumD_get : ∀ (ds : List D) (i j : Nat) {d : D}, (enumD i ds)[j]? = some d → ∃ x, ds[j]? = some x ∧ d = .tup [.int ((i + j : Nat) : Int), x]
  | [], _, _, _, h => by cases h
  | x :: r, i, 0, d, h => by
    cases h
    exact ⟨x, rfl, rfl⟩
  | x :: r, i, j + 1, d, h => by
    obtain ⟨y, h1, h2⟩ := enumD_get r (i + 1) j (d := d) h
    exact ⟨y, h1, by rw [h2, show i + 1 + j = i + (j + 1) by omega]⟩
theorem walks_enum {K : PySem.W.Frag} {O : Ow} {H : Hp} {ds : List D} {xs : List V} {a : Addr} (na : O.no a) (h1 : H a = some (.lst xs)) (h2 : Reps K O H ds xs) {S0 : Sto} (w0 : WF K O H S0) : Walks K O H (enumD 0 ds) (Ite K a) := by
  intro O' H' S ρ σ e st i
  have hs : SqL K H' a xs := .inl (.inl ((e.w w0).keep _ _ na h1))
  have r := h2.mono (e.w w0)
  refine ⟨fun d hd => ?_, fun hi => ⟨xs, hs, by rw [hi, enumD_len, r.length]; exact Nat.le_refl _⟩⟩
  obtain ⟨x, hx, rfl⟩ := enumD_get ds 0 i hd
  obtain ⟨v, hv, rv⟩ := r.get hx
  refine ⟨⟨xs, v, hs, hv⟩, fun y H2 z => ?_⟩
  obtain ⟨T, v2, rfl, hT, rfl, hy⟩ := z
  have z := hy xs hs
  rw [hv] at z
  cases z
  obtain ⟨e1, st1⟩ := st.new (o := .tup [.int (i : Nat), v]) hT
  refine ⟨e1, fun ρ' σ' S' st' => (st'.new hT).2, ⟨T, _, rfl, .inl upd_same, _, _, rfl, ?_, v, [], rfl, rv.mono (e1.w st.wf), rfl⟩⟩
  rw [Nat.zero_add]
  exact rfl
def iEn (fa : MA) : MA := fun ρ S => (fa ρ S).bind fun ds S1 => match ds with
  | [.lst ds] => .ok (enumD 0 ds) S1
  | _ => .bad
theorem di_enum {elts : List Expr} {kk : Nat} {tpos : Pos} (hg : Gl X "enumerate") (hm : X.mg "enumerate" = none) (ha : DA X W [e] fa) (hs : starEach [e] X.env = [(false, eval e X.env)] := by rfl) : DI X W (.Tuple elts kk tpos) (.Call (.Name "enumerate" p) [e] [] pos) (iEn fa) :=
  ⟨PI.imp (pi_enum hg hm ha.pa hs) fun σ H R ⟨O, ρ, S, st, h⟩ => ⟨O, ρ, S, st, After.seq h fun ds S1 O1 H1 vs e1 st1 r1 h1 => by
    rcases ds with _ | ⟨d, _ | ⟨d2, ds⟩⟩
    · exact h1.elim
    · cases d <;> try exact h1.elim
      rename_i ds
      obtain ⟨v, rfl, r⟩ := r1.one
      obtain ⟨a, xs, rfl, na, ha, rr⟩ := r
      exact ⟨a, xs, rfl, .inl (.inl ha), After.ok h1 st1 (walks_enum na ha rr st1.wf)⟩
    · cases d <;> exact h1.elim⟩⟩
end
end XN

set_option maxHeartbeats 4000000
/-! own exceptions: the checks, the calls, as the printer wants them -/
namespace XN
open PySem PySem.Spec PyProof.Rows L2 DE
def o1 (f : Str) : List D → List (Str × D)
  | [d] => [(f, d)]
  | _ => []
def o2 (f g : Str) : List D → List (Str × D)
  | [d, e] => [(g, e), (f, d)]
  | _ => []
def v1 (f : Str) : List V → List (Str × V)
  | [d] => [(f, d)]
  | _ => []
def v2 (f g : Str) : List V → List (Str × V)
  | [d, e] => [(g, e), (f, d)]
  | _ => []
def xE (c : Str) (fs : List Str) : Xb := fun K => exgB K (He.ga K c) && (fs.all (fun f => decide (PySem.W.findIn K (.ref (He.ga K c)) f = some none)) &&
  (decide (PySem.W.findIn K (.ref (He.ga K c)) "__init__" = some (some (.ref (He.fAd K (c, some "__init__"))))) && decide (PySem.W.typeIn K (.ref (He.fAd K (c, some "__init__"))) = some (.type "function"))))
structure XE (K : PySem.W.Frag) (c : Str) (fs : List Str) : Prop where
  o : OexG K (He.ga K c)
  n : ∀ f ∈ fs, PySem.W.findIn K (.ref (He.ga K c)) f = some none
  i : PySem.W.findIn K (.ref (He.ga K c)) "__init__" = some (some (.ref (He.fAd K (c, some "__init__"))))
  t : PySem.W.typeIn K (.ref (He.fAd K (c, some "__init__"))) = some (.type "function")
theorem xE_ok {K : PySem.W.Frag} {c : Str} {fs : List Str} (h : xE c fs K = true) : XE K c fs := by
  unfold xE at h
  simp only [Bool.and_eq_true, decide_eq_true_eq] at h
  obtain ⟨h1, h2, h3, h4⟩ := h
  exact ⟨exgB_ok h1, fun f hf => of_decide_eq_true (List.all_eq_true.mp h2 f hf), h3, h4⟩
section
variable {X : Cx} {c f g qual : Str} {n : Nat} {ks : List Str} {params : Arguments} {scope : Scope} {kws : List (Str × V)} {fd : FuncData} {p1 p2 p3 p4 q1 q2 q3 q4 : Pos} {body : List Stmt}
theorem mk1 (E : XE X.K c [f]) (F : FunD X.K "__init__" qual params body scope [] kws (He.fAd X.K (c, some "__init__")) fd) (hb : body = [.Assign [.Attribute (.Name "self" p1) f p2] (.Name "value" p3) p4]) (S : FnScope ["self", "value"] ["self", "value"] scope)
    (h1 : scope.names.lookup ("self" : Str) = some .local) (h2 : scope.names.lookup ("value" : Str) = some .local) (kb : KBn X.K fd ["self", "value"] (n + 1) ks (fun us ws => us ++ ws) (fun vs zs => vs ++ zs)) (hn : n + ks.length = 1) : CalleeX X 2 (He.ga X.K c) n ks (exF c 1 (o1 f)) :=
  callee_ex (k := 1) (out := v1 f) E.o E.i E.t (in1_of F hb S h1 h2) kb hn (by omega)
    (fun a vs H Q E' hl ha q => match vs, hl, q with
      | [v], _, q => ⟨a, _, v, rfl, E.o, E.n f (by simp), ha, q⟩)
    (fun O H ds vs hl r => match ds, hl, r with
      | [d], _, r => by
        obtain ⟨v, rfl, rv⟩ := r.one
        exact ⟨v, [], rfl, rv, rfl⟩)
theorem mk2 (E : XE X.K c [f, g]) (F : FunD X.K "__init__" qual params body scope [] kws (He.fAd X.K (c, some "__init__")) fd)
    (hb : body = [.Assign [.Attribute (.Name "self" p1) f p2] (.Name "word" p3) p4, .Assign [.Attribute (.Name "self" q1) g q2] (.Name "value" q3) q4]) (S : FnScope ["self", "word", "value"] ["self", "word", "value"] scope)
    (h1 : scope.names.lookup ("self" : Str) = some .local) (h2 : scope.names.lookup ("word" : Str) = some .local) (h3 : scope.names.lookup ("value" : Str) = some .local)
    (kb : KBn X.K fd ["self", "word", "value"] (n + 1) ks (fun us ws => us ++ ws) (fun vs zs => vs ++ zs)) (hn : n + ks.length = 2) : CalleeX X 2 (He.ga X.K c) n ks (exF c 2 (o2 f g)) :=
  callee_ex (k := 1) (out := v2 f g) E.o E.i E.t (in2_of F hb S h1 h2 h3) kb hn (by omega)
    (fun a vs H Q E' hl ha q => match vs, hl, q with
      | [v, u], _, q => ⟨a, _, v, u, rfl, E.o, E.n f (by simp), E.n g (by simp), ha, q⟩)
    (fun O H ds vs hl r => match ds, hl, r with
      | [d, e], _, r => by
        obtain ⟨v, u, rfl, r1, r2⟩ := r.two
        exact ⟨u, _, rfl, r2, v, [], rfl, r1, rfl⟩)
end
/-- a class without __init__, over RuntimeError -/
def xN (c : Str) : Xb := fun K => PySem.W.excIn K (He.ga K c) rT "RuntimeError.__new__" && PySem.W.keepIn K (.ref (He.ga K c))
theorem xN_ok {K : PySem.W.Frag} {c : Str} (h : xN c K = true) : PySem.W.excIn K (He.ga K c) rT "RuntimeError.__new__" = true ∧ PySem.W.keepIn K (.ref (He.ga K c)) = true := Bool.and_eq_true_iff.mp h
theorem mkN {X : Cx} {c : Str} (h : xN c X.K = true) : CalleeX X 0 (He.ga X.K c) 0 [] (exNF c) := callee_exN F.excBase_RuntimeError (xN_ok h).1
/-- the field f of these classes' exceptions -/
def efB (f : Str) (cs : List Str) : Xb := fun K => cs.all fun c => xfB K (He.ga K c) && decide (PySem.W.findIn K (.ref (He.ga K c)) f = some none)
theorem efB_ok {K : PySem.W.Frag} {f : Str} {cs : List Str} (h : efB f cs K = true) : ∀ c ∈ cs, XfC K (He.ga K c) ∧ PySem.W.findIn K (.ref (He.ga K c)) f = some none := fun c hc => by
  have z := List.all_eq_true.mp h c hc
  rw [Bool.and_eq_true] at z
  exact ⟨xfB_ok z.1, of_decide_eq_true z.2⟩
/-! calls with keywords alone -/
def dKK (m : Nat) (F : FD) (fk : MA) : ME := fun ρ S => (fk ρ S).bind fun es S1 => if es.length = m then F es S1 else .bad
section
variable {X : Cx} {W : WX} {x : Str} {p pos : Pos} {kws : List Keyword} {j k : Nat} {f : Addr} {ks : List Str} {fk : MA} {F : FD}
theorem de_kk (C : CalleeX X k f 0 ks F) (hr : Room j X.A) (gd : X.A.guards = some []) (hg : Gl X x) (hm : X.mg x = some (.ref f)) (hk : PySem.W.keepIn X.K (.ref f) = true) (tk : Takes X W) (hkw : DKw X W kws fk) (hj : k ≤ j := by decide)
    (hall : (backToKw pos (keywordEach kws X.env)).all (·.1.isSome) = true := by rfl) (hks : (backToKw pos (keywordEach kws X.env)).filterMap (·.1) = ks := by rfl) (hdb : (x == ("__debug__" : Str)) = false := by decide)
    (hpl : ((backTo pos (starEach [] X.env)).any (·.1) || (backToKw pos (keywordEach kws X.env)).any (·.1.isNone)) = false := by rfl) : DE X W (.Call (.Name x p) [] kws pos) (dKK ks.length F fk) := by
  refine ⟨⟨fun pins s σ H Q I ⟨O, ρ, S, st, h⟩ => ?_⟩⟩
  refine wpAny_Call_Name_kw (ld_glob I hg hm ?_ hdb)
  have hq : tA X.K W fk σ H (fun zs H2 => zs.length = ks.length ∧ spD X.K (0 + ks.length) F ([] ++ zs) H2 Q (WE W σ)) := ⟨O, ρ, S, st, After.seq h fun es S2 O2 H2 zs e2 st2 r2 h2 => by
    by_cases hl : es.length = ks.length
    · rw [if_pos hl] at h2
      exact ⟨r2.length.symm.trans hl, sp_of st2 r2 (hl.trans (Nat.zero_add _).symm) h2⟩
    · rw [if_neg hl] at h2; exact h2.elim⟩
  refine PySem.W.callWith_KW0 (h₀ := X.base) I.ok.mod.kin hk hall (thn (hkw.pk.run pos pins s σ H _ I hq) fun ws s2 ⟨zs, H2, I2, rz, l2, q2⟩ => ⟨I2.kIn, ?_⟩) hpl
  rw [hks]
  exact C pins σ H2 s2 Q (WE W) [] ws [] zs (hr.mono hj) gd (passAt tk σ) I2 .nil rz rfl (rz.length.symm.trans l2) q2
end
end XN

set_option maxHeartbeats 4000000
/-! lambda x: x[0] as a key -/
namespace LM
open PySem PySem.Spec PyProof.Rows L2
section
variable {prog : Program} {w : World} {A : Around} {s : Shared} {E : Value → Shared → Prop}
theorem lam_first {f c' t : Addr} {q x : Str} {params : Arguments} {scope : Scope} {cl : List (Str × Addr)} {pm ctv u : Value} {p1 p2 p3 : Pos} {j : Nat} {items : Array Value} {Q : Value → Shared → Prop} (room : A.depth < recursionLimit)
    (hf : s.heap.get? f = some (PySem.W.kla_obj "<lambda>" q params (.Subscript (.Name x p1) (.Constant (.int 0) j p2) p3) scope cl pm c' ctv)) (hc : ∃ oc vs tk, s.heap.get? c' = some oc ∧ oc.data = .fields vs ∧ vs[1]? = some (.str q tk)) (lim : s.heap.NoLimit)
    (bd : bindArgs (PySem.W.kla_fn "<lambda>" q params (.Subscript (.Name x p1) (.Constant (.int 0) j p2) p3) scope cl pm (.ref c') ctv) ⟨[.ref t], []⟩ = pure [(x, .ref t)])
    (sk : scope.kind = .function) (co : scope.isCoroutine = false) (gen : scope.isGenerator = false) (nc : ∀ y ∈ scope.names, y.2 ≠ .cell) (lx : scope.names.lookup x = some .local) (hdb : (x == ("__debug__" : Str)) = false)
    (ht : IsTup s.heap t items) (hu : items[0]? = some u) (hz : items.size ≤ sizeLine) (h : ∀ h' tk', (∀ b o, s.heap.get? b = some o → h'.get? b = some o) → Q u { s with heap := h', toks := tk' }) :
    wpAny (model prog w) A (call (.ref f) [.ref t]) Q E s := by
  obtain ⟨oc, vs, tk, hoc, hdc, hvc⟩ := hc
  refine wpAny_call (PySem.W.kla_callFunE room hf rfl co gen rfl ⟨c', oc, vs, tk, rfl, hoc, hdc, hvc⟩ ?_)
  rw [bd]
  refine wpAny_pure (wpAny_newFunctionEnv nc (fun y hy => by rw [List.mem_singleton.mp hy]; exact lx) (fun h₁ hns hsb => ⟨lim.fresh _ hsb, ?_⟩) sk)
  have kp : ∀ b o, s.heap.get? b = some o → h₁.get? b = some o := fun b o e => hsb.extBut b o (Nat.ne_of_lt (Heap.lt_size e)) (Heap.get?_push_of_some _ e)
  refine PySem.W.kla_codeExpr (Subscript_ (wpAny_Name (wpAny_loadName_local sk lx hns (v := .ref t) ?_ ?_) hdb))
  · show List.lookup x [(x, Value.ref t)] = _
    rw [List.lookup_cons]
    simp
  · refine wpAny_Constant_int ?_
    refine item_tuple (items := items) (j := 0) (x := u) ?_ (by decide) (by decide) ?_ hu ?_
    · obtain ⟨o, ho, z⟩ := ht
      exact ⟨o, kp _ _ ho, z⟩
    · have : 0 < items.size := by
        rcases Nat.eq_zero_or_pos items.size with z | z
        · rw [Array.getElem?_eq_none (by omega)] at hu; cases hu
        · exact z
      unfold seqIndex?
      simp [this]
    · exact h _ _ kp
end
end LM

set_option maxHeartbeats 4000000
/-! sorted(xs, key=f) of a list or a tuple, over the heap alone -/
namespace LM
open PySem PySem.Spec PyProof.Rows PySem.W PySem.Calls
/-- a list, a tuple -/
def SeqOf (h : Heap) (l : Addr) (us : List Value) : Prop := ∃ o n, h.get? l = some o ∧ (o.cls = .type "list" ∨ o.cls = .type "tuple") ∧ o.data = .seq us.toArray n
section
variable {pg : Program} {wd : World} {B : Around} {Z : Value → Shared → Prop} {s : Shared} {l : Addr} {us : List Value}
theorem ext_with {d : Addr} (hs : SeqOf s.heap l us) (hd : s.heap.get? d = some (seqObj "list" #[] 0)) (short : us.length ≤ sizeLine) {Q : Fin → Shared → Prop}
    (q : Q (.done (.ret (.ref d))) { s with heap := s.heap.update d (Obj.mapSeq (· ++ us.toArray)) }) : wpAny (model pg wd) B (Builtin.List.listExtendWith (.ref d) (.ref l) (.ref d)) Q Z s := by
  obtain ⟨o, n, at2, isc, dat⟩ := hs
  have go : ∀ T : String, (T = "list" ∨ T = "tuple") → o.cls = .type T → wpAny (model pg wd) B (Builtin.List.listExtendWith (.ref d) (.ref l) (.ref d)) Q Z s := by
    intro T hT isT
    unfold Builtin.List.listExtendWith
    refine wpAny_bind (wpAny_typeOf (T := T) ⟨o, at2, isT⟩ ?_)
    rw [if_pos (by rcases hT with rfl | rfl <;> simp)]
    refine wpAny_bind (listItems_at at2 dat (wpAny_bind (listItems_at (xs := #[]) (n := 0) hd rfl ?_)))
    rw [if_neg (by simp)]
    refine wpAny_bind (listUpdate_at (xs := #[]) (n := 0) hd rfl ?_ (Nat.zero_le _) (by show (#[] ++ us.toArray).size ≤ sizeLine + 1; simp only [Array.size_append, List.size_toArray, List.length_nil]; omega))
    exact wpAny_pure q
  exact isc.elim (go "list" (.inl rfl)) (go "tuple" (.inr rfl))
theorem gather {Q : List Value → Shared → Prop} (hs : SeqOf s.heap l us) (short : us.length ≤ sizeLine) (q : Q us { s with heap := (s.heap.push (seqObj "list" #[] 0)).update s.heap.objs.size (Obj.mapSeq (· ++ us.toArray)) }) :
    wpAny (model pg wd) B (collect (.ref l)) Q Z s := by
  have new0 : (s.heap.push (seqObj "list" #[] 0)).get? s.heap.objs.size = some (seqObj "list" #[] 0) := Heap.get?_push_size _ rfl
  have hs2 : SeqOf (s.heap.push (seqObj "list" #[] 0)) l us := by
    obtain ⟨o, n, at1, r⟩ := hs
    exact ⟨o, n, Heap.get?_push_of_some _ at1, r⟩
  unfold collect
  refine wpAny_bind (wpAny_runValue (codeAny_builtin entry_proto_collect' ?_))
  show wpAny _ _ (do again (.builtin "list.__iadd__" ⟨[← newList [], .ref l], []⟩)) _ _ s
  refine wpAny_bind (wpAny_newList (wpAny_pure ⟨Code.quiet_builtin _ (by decide +kernel), codeAny_builtin entry_list_iadd' ?_⟩))
  refine ext_with (s := { s with heap := s.heap.push (seqObj "list" #[] 0) }) hs2 new0 short ?_
  show wpAny (model pg wd) B (do
      let o ← load s.heap.objs.size
      match o.data with
      | .seq ys _ => pure ys.toList
      | _ => unsupported "internal:collect") Q Z { s with heap := (s.heap.push (seqObj "list" #[] 0)).update s.heap.objs.size (Obj.mapSeq (· ++ us.toArray)) }
  refine wpAny_bind (wpAny_load (get?_update_seq new0 _) ?_)
  show wpAny _ _ (pure ((#[] : Array Value) ++ us.toArray).toList) Q Z _
  rw [show ((#[] : Array Value) ++ us.toArray).toList = us by simp]
  exact wpAny_pure q
/-- sorted(l, ..) is list.sort(..) on a new list -/
theorem sort_new {kw : List (Str × Value)} {Q : Value → Shared → Prop} (hs : SeqOf s.heap l us) (short : us.length ≤ sizeLine) (a1 : argsOk "sorted" ⟨[.ref l], kw⟩) (a2 : ∀ x, argsOk "list.sort" ⟨[.ref x], kw⟩)
    (go : ∀ Z' : Value → Shared → Prop, wpAny (model pg wd) B.in1.in1 (Builtin.«list.sort» ⟨[.ref (s.heap.objs.size + 1)], kw⟩) (fun f s' => f = .done (.ret .none) ∧ Q (.ref (s.heap.objs.size + 1)) s') Z' { s with heap := copyHeap s.heap us }) :
    wpAny (model pg wd) B (call (.builtin "sorted") [.ref l] kw) Q Z s := by
  refine call_function_entry_kw kind_sorted plain_sorted entry_sorted a1 ?_
  unfold Builtin.«sorted»
  refine wpAny_bind (m := checkCount "sorted" 1 1 _) (wpAny_pure (wpAny_bind (gather hs short (wpAny_bind (wpAny_newList ?_ short)))))
  have sz : ((s.heap.push (seqObj "list" #[] 0)).update s.heap.objs.size (Obj.mapSeq (· ++ us.toArray))).objs.size = s.heap.objs.size + 1 := by
    rw [Heap.size_update]
    exact size_push' ..
  show wpAny _ _ _ _ _ { s with heap := copyHeap s.heap us }
  rw [sz]
  refine wpAny_bind (wpAny_holding (wpAny_call_entry_kw slot_list_sort ⟨_, copyHeap_at s.heap us, rfl⟩ entry_list_sort ?run (a2 _)))
  case run =>
    show wpAny (model pg wd) B.in1.in1 (Builtin.«list.sort» ⟨[.ref (s.heap.objs.size + 1)], kw⟩) _ _ _
    refine wpAny_mono (go _) (fun f s' z => ?_) fun _ _ e => e
    obtain ⟨rfl, z⟩ := z
    exact ⟨_, rfl, wpAny_pure ⟨_, rfl, z⟩⟩
theorem sort_by {β : Type} {bs : List β} {R : Value → β → Prop} {f : Addr} {Q : Value → Shared → Prop} (k : β → PyData) (hs : SeqOf s.heap l us) (each : EachIs R us bs) (al : AllAlike (bs.map k)) (so : Sortable (bs.map k)) (short : bs.length ≤ sizeLine)
    (room : ∀ x, x ∈ bs → B.units + 2 + (k x).depth < cLine)
    (key : ∀ (v : Value) (x : β), R v x → x ∈ bs → ∀ (h : Heap) (tk : Nat), (∀ b o, s.heap.get? b = some o → h.get? b = some o) → wpAny (model pg wd) B.in1.in1 (call (.ref f) [v]) (KeyPure (k x) { s with heap := h, toks := tk }) (fun _ _ => False) { s with heap := h, toks := tk })
    (q : ∀ out c h2 tk, (∀ b o, s.heap.get? b = some o → h2.get? b = some o) → h2.get? (s.heap.objs.size + 1) = some (seqObj "list" (List.toArray out) c) → EachIs R out (bs.mergeSort (dataLe false k)) → Q (.ref (s.heap.objs.size + 1)) { s with heap := h2, toks := tk }) :
    wpAny (model pg wd) B (call (.builtin "sorted") [.ref l] [(Str.ofString "key", .ref f)]) Q Z s := by
  have el := each.length
  have old : ∀ {g : Heap}, KeepsBut (s.heap.objs.size + 1) (copyHeap s.heap us) g → ∀ b o, s.heap.get? b = some o → g.get? b = some o := fun kp b o z =>
    kp b o (Nat.ne_of_lt (Nat.lt_succ_of_lt (Heap.lt_size z))) (copyHeap_old z)
  refine sort_new hs (by rw [el]; exact short) (ksk_s1 _ _) (fun _ => ksk_l1 _ _) fun Z' => ?_
  rw [ksk_t1]
  have ml : (bs.map k).length = us.length := by rw [List.length_map]; exact el.symm
  refine keyH_tree (kz := bs.map k) (s := { s with heap := copyHeap s.heap us }) (copyHeap_at s.heap us) ml (by rw [el]; exact short) al so (bound_map (A := B.in1.in1) room)
    (keyH_turns (s := { s with heap := copyHeap s.heap us }) each fun v x r m h tk kp => key v x r m h tk (old kp)) fun h2 tk out c kp at2 ko => ⟨rfl, q out c h2 tk (old kp) at2 (keyedOut_each k ko each)⟩
end
end LM

set_option maxHeartbeats 4000000
/-! sorted(e, key=lambda x: x[0]), in the walk -/
namespace LM
open PySem PySem.Spec PyProof.Rows L2
def keyLe (p q : V × Str) : Bool := decide (p.2.cps.toList ≤ q.2.cps.toList)
/-- the lambda's own names: its parameter alone -/
structure OneS (scope : Scope) (x : Str) : Prop where
  kind : scope.kind = .function
  co : scope.isCoroutine = false
  gen : scope.isGenerator = false
  nc : ∀ y ∈ scope.names, y.2 ≠ .cell
  nf : ∀ y ∈ scope.names, y.2 ≠ .free
  loc : scope.names.lookup x = some .local
theorem sqT_ext {K : PySem.W.Frag} {H H2 : Hp} {t : Addr} {xs : List V} (e : LamX.ExtN H H2) (h : SqT K H t xs) : SqT K H2 t xs := by
  rcases h with (h | ⟨o, h⟩) | h
  · exact .inl (.inl (e _ _ h fun ps z => nomatch z))
  · exact .inl (.inr ⟨o, e _ _ h fun ps z => nomatch z⟩)
  · exact .inr h
theorem sqL_ext {K : PySem.W.Frag} {H H2 : Hp} {t : Addr} {xs : List V} (e : LamX.ExtN H H2) (h : SqL K H t xs) : SqL K H2 t xs := by
  rcases h with (h | ⟨o, h⟩) | h
  · exact .inl (.inl (e _ _ h fun ps z => nomatch z))
  · exact .inl (.inr ⟨o, e _ _ h fun ps z => nomatch z⟩)
  · exact .inr h
theorem each_of {X : Cx} {h : Heap} : ∀ {xs : List (V × Str)} {us : List Value}, Vals (xs.map (·.1)) us → (∀ p ∈ xs, ∀ u, RelV p.1 u → ∃ t items tk, u = .ref t ∧ IsTup h t items ∧ items[0]? = some (.str p.2 tk) ∧ items.size ≤ sizeLine) →
    PySem.W.EachIs (fun (u : Value) (p : V × Str) => RelV p.1 u ∧ ∃ t items tk, u = .ref t ∧ IsTup h t items ∧ items[0]? = some (.str p.2 tk) ∧ items.size ≤ sizeLine) us xs
  | [], _, .nil, _ => .nil
  | p :: xs, u :: us, .cons r rr, k => .cons ⟨r, k p List.mem_cons_self u r⟩ (each_of (X := X) rr fun q hq => k q (List.mem_cons_of_mem _ hq))
theorem vals_each {h : Heap} : ∀ {xs : List (V × Str)} {us : List Value}, PySem.W.EachIs (fun (u : Value) (p : V × Str) => RelV p.1 u ∧ ∃ t items tk, u = .ref t ∧ IsTup h t items ∧ items[0]? = some (.str p.2 tk) ∧ items.size ≤ sizeLine) us xs → Vals (xs.map (·.1)) us
  | _, _, .nil => .nil
  | _, _, .cons r rr => .cons r.1 (vals_each rr)
end LM

set_option maxHeartbeats 4000000
/-! the making of a lambda, told more fully: the table may have grown by one code object, all else stands -/
namespace LM
open PySem PySem.Spec PyProof.Rows L2 LamX
def Knows (H : Hp) (q : Str) (ps : Array Value) : Prop := TriplesOk ps.toList ∧ ∀ (pos : Pos) (cv : Value), codeAmong pos ps.toList = some cv → ∃ c, cv = .ref c ∧ H c = some (CodeO c q)
/-- what the heap has become: H1; P the table, c the code object -/
def Grown (H H1 : Hp) (P c : Addr) (q : Str) (ps : Array Value) : Prop := (H1 = H ∧ H c = some (CodeO c q)) ∨ ∃ more : Array Value, H c = none ∧ H1 = upd (upd H P (.tbl (ps ++ more))) c (CodeO c q) ∧ TriplesOk (ps ++ more).toList ∧
  ∀ (pos : Pos) (cv : Value), codeAmong pos (ps ++ more).toList = some cv → codeAmong pos ps.toList = some cv ∨ cv = .ref c
section
variable {X : Cx} {pins : List (Addr × Obj)} {σ : L2.St} {H : Hp} {s : Shared}
theorem lam_new {c P : Addr} {ps : Array Value} {params : Arguments} {body : Expr} {scope : Scope} {lp : Pos} {Z : Value → Shared → Prop} {Q : Value → Shared → Prop} (I : Inv X pins σ H s) (TB : TabB X.base X.mg c P) (hcode : X.env.code = .ref c)
    (tbl : H P = some (.tbl ps)) (kn : Knows H (X.env.qual ++ "<lambda>") ps) (hdef : defaultsOf params X.env = ([], [])) (nf : ∀ y ∈ scope.names, y.2 ≠ .free)
    (go : ∀ (f d : Addr) (pm ctv : Value) (H1 : Hp) (s1 : Shared), Inv X pins σ H1 s1 → Grown H H1 P d (X.env.qual ++ "<lambda>") ps → H1 d = some (CodeO d (X.env.qual ++ "<lambda>")) →
      s1.heap.get? f = some (PySem.W.kla_obj "<lambda>" (X.env.qual ++ "<lambda>") params body scope (cloFrom X.env.cells scope.names []) pm d ctv) → Q (.ref f) s1) :
    wpAny (model X.prog X.w) X.A (eval (.Lambda params body scope lp) X.env) Q Z s := by
  obtain ⟨tok, among⟩ := kn
  have clo := closure_ok (env := X.env) (scope := scope) fun y hy z => absurd z (nf y hy)
  have glo := I.mod.glob.keeps I.bk
  have hd := TB.code.keeps I.bk
  have bm := TB.bm.keeps I.bk
  have raw : s.heap.get? P = some { cls := .none, data := .fields ps } := I.hok P _ tbl
  refine PySem.W.kla_eval hdef ?_
  cases cm : codeAmong lp ps.toList with
  | some cv =>
    obtain ⟨d, e, known⟩ := among lp cv cm
    subst e
    refine PySem.W.kla_makeFunctionHit (mg := X.mg) (c := c) (P := P) (ps := ps) clo I.ok.glob glo hcode hd raw tok cm bm fun ctv h1 tk grow sz => ?_
    exact go h1.objs.size d ((X.mg "__name__").getD .none) ctv H _ (I.kept fun b o z => Heap.get?_push_of_some _ (grow b o z)) (.inl ⟨rfl, known⟩) known (Heap.get?_push_size _ rfl)
  | none =>
    refine PySem.W.kla_makeFunction (mg := X.mg) (c := c) (P := P) (ps := ps) clo I.ok.glob glo hcode hd raw tok cm TB.gP bm fun d ctv h1 tk grow big small rec atP => ?_
    obtain ⟨d2, od, us, tq, e, god, dat, nm⟩ := rec
    cases e
    have J := inv_table (t' := tk) (more := #[rawInt lp.line, rawInt lp.col, .ref d]) (h' := h1.push (PySem.W.kla_obj "<lambda>" (X.env.qual ++ "<lambda>") params body scope (cloFrom X.env.cells scope.names []) ((X.mg "__name__").getD .none) d ctv)) I tbl
      (fun b o ne z => Heap.get?_push_of_some _ (grow b o ne z)) (Heap.get?_push_of_some _ atP) big ⟨od, us, tq, Heap.get?_push_of_some _ god, dat, nm⟩
    have el : (ps ++ #[rawInt lp.line, rawInt lp.col, .ref d]).toList = ps.toList ++ [rawInt lp.line, rawInt lp.col, .ref d] := by simp
    refine go h1.objs.size d ((X.mg "__name__").getD .none) ctv _ _ J (.inr ⟨_, I.hok.fresh big, rfl, ?_, fun p2 cv z => ?_⟩) upd_same (Heap.get?_push_size _ rfl)
    · rw [el]
      exact PySem.TriplesOk_snoc _ _ _ _ tok
    · rw [el] at z
      exact among_app _ tok z
end
theorem Grown.ext {H H1 : Hp} {P c : Addr} {q : Str} {ps : Array Value} (tbl : H P = some (.tbl ps)) (g : Grown H H1 P c q ps) : ExtN H H1 := by
  rcases g with ⟨rfl, _⟩ | ⟨more, hn, rfl, _, _⟩
  · exact ExtN.refl _
  · intro b o z nt
    have h1 : b ≠ c := fun e => by rw [e, hn] at z; cases z
    have h2 : b ≠ P := fun e => by rw [e, tbl] at z; cases z; exact nt _ rfl
    rw [upd_ne h1, upd_ne h2, z]
def tSk2 (K : PySem.W.Frag) (P : Addr) (q : Str) (ta : TA) : TE := fun σ H Q => ta σ H fun vs H1 => ∃ (a : Addr) (xs : List (V × Str)) (ps : Array Value), vs = [.ref a] ∧ (SqL K H1 a (xs.map (·.1)) ∨ SqT K H1 a (xs.map (·.1))) ∧ (∀ p ∈ xs, ∃ t r, p.1 = .ref t ∧ SqT K H1 t (.str p.2 :: r)) ∧
  H1 P = some (.tbl ps) ∧ Knows H1 q ps ∧ ∀ H2 c b, Grown H1 H2 P c q ps → H2 c = some (CodeO c q) → H2 b = none → Q (.ref b) (upd H2 b (.lst ((xs.mergeSort keyLe).map (·.1))))
section
variable {X : Cx} {e : Expr} {ta : TA} {c P : Addr} {params : Arguments} {x : Str} {scope : Scope} {p p1 p2 p3 pos lpos kpos : Pos} {j k : Nat}
theorem pe_sk2 (hg : Gl X "sorted") (hm : X.mg "sorted" = none) (ha : PA X [e] ta) (TB : TabB X.base X.mg c P) (hcode : X.env.code = .ref c) (hr : Room k X.A) (sc : OneS scope x) (hdef : defaultsOf params X.env = ([], []))
    (hbind : ∀ (q : Str) (cl : List (Str × Addr)) (pm cv ctv v : Value), bindArgs (PySem.W.kla_fn "<lambda>" q params (.Subscript (.Name x p1) (.Constant (.int 0) j p2) p3) scope cl pm cv ctv) ⟨[v], []⟩ = pure [(x, v)])
    (hdb : (x == ("__debug__" : Str)) = false := by decide) (he : backTo pos (starEach [e] X.env) = (false, eval e X.env) :: backTo pos (starEach [] X.env) := by rfl) (hpl : (backTo pos (starEach [e] X.env)).any (·.1) = false := by rfl) :
    PE X (.Call (.Name "sorted" p) [e] [⟨some "key", .Lambda params (.Subscript (.Name x p1) (.Constant (.int 0) j p2) p3) scope lpos, kpos⟩] pos) (tSk2 X.K P (X.env.qual ++ "<lambda>") ta) := by
  refine ⟨fun pins s σ H Q I h => ?_⟩
  refine wpAny_Call_Name_kw (ld_blt (u := .builtin "sorted") I hg hm (by kernel_rfl) ?_)
  refine PyProof.Rows.callWith_kw (thn (ha.run pos pins s σ H _ I h) fun us s1 ⟨vs, H1, I1, r1, q1⟩ => ?_) he hpl
  obtain ⟨a, xs, ps, rfl, hq, hx, tbl, kn, q⟩ := q1
  cases r1 with
  | cons ru rr =>
    cases rr
    cases ru
    show wpAny _ _ (evalAll [do let v ← eval (.Lambda params (.Subscript (.Name x p1) (.Constant (.int 0) j p2) p3) scope lpos) X.env; standAt pos; pure v]) _ _ s1
    refine wpAny_evalAll_cons (wpAny_bind (lam_new I1 TB hcode tbl kn hdef sc.nf fun f c' pm ctv H2 s2 I2 gr hco of => wpAny_bind (wpAny_standAt (wpAny_pure (wpAny_evalAll_nil ?_)))))
    have eN := gr.ext tbl
    show wpAny _ _ (call (.builtin "sorted") [.ref a] [(Str.ofString "key", .ref f)]) _ _ s2
    have hseq : ∃ its : List Value, Vals (xs.map (·.1)) its ∧ SeqOf s2.heap a its ∧ (xs.map (·.1)).length ≤ sizeLine := by
      rcases hq with hq | hq
      · obtain ⟨its, rv, pl, z⟩ := I2.list (sqL_ext eN hq)
        obtain ⟨o, ho, hc, n, hd⟩ := pl.isList
        exact ⟨its, rv, ⟨o, n, ho, .inl hc, hd⟩, z⟩
      · obtain ⟨its, rv, ⟨o, ho, hc, n, hd⟩, z⟩ := I2.tuple (sqT_ext eN hq)
        exact ⟨its, rv, ⟨o, n, ho, .inr hc, hd⟩, z⟩
    obtain ⟨its, rv, hs, hz⟩ := hseq
    have item : ∀ p ∈ xs, ∀ u, RelV p.1 u → ∃ t items tk, u = .ref t ∧ IsTup s2.heap t items ∧ items[0]? = some (.str p.2 tk) ∧ items.size ≤ sizeLine := by
      intro p hp u ru
      obtain ⟨t, r, ep, ht⟩ := hx p hp
      rw [ep] at ru
      cases ru
      obtain ⟨ii, ri, it, z⟩ := I2.tuple (sqT_ext eN ht)
      cases ri with
      | cons r0 rest =>
        obtain ⟨tk, rfl⟩ := r0
        refine ⟨t, _, tk, rfl, it, rfl, ?_⟩
        have el := Paired.length rest
        simp only [List.size_toArray, List.length_cons] at z ⊢
        omega
    have each := each_of (X := X) rv item
    obtain ⟨⟨oc, vs, tk0, hoc, hdc, hvc⟩, _, _⟩ := (show ObjOk X.prog X.w H2 s2.heap c' (CodeO c' (X.env.qual ++ "<lambda>")) from I2.hok c' _ hco)
    refine sort_by (k := fun p : V × Str => .str p.2) hs each (PySem.W.AllAlike.of fun _ _ => by simp [PySem.W.alike]) (PySem.W.Sortable.others (enc := fun p : V × Str => PyData.str p.2) fun _ => ⟨(fun z => by cases z), (fun _ z => by cases z)⟩) (by rw [← List.length_map]; exact hz) (fun p _ => ?_) (fun v p rv' _ h' tk' kp => ?_) fun out c2 h2 tk' kp at2 eo => ?_
    · have z : (PyData.str p.2).depth = 0 := by simp [PyData.depth]
      have := hr.un
      rw [z]
      omega
    · obtain ⟨_, t, items, tk2, rfl, it, i0, sz⟩ := rv'
      have it2 : IsTup h' t items := by
        obtain ⟨o, ho, z⟩ := it
        exact ⟨o, kp _ _ ho, z⟩
      refine lam_first (s := { s2 with heap := h', toks := tk' }) (by have := hr.dp; show X.A.depth < _; omega) (kp _ _ of) ⟨oc, vs, tk0, kp _ _ hoc, hdc, hvc⟩ (I2.nolimit.keeps kp) (hbind _ _ _ _ _ _) sc.kind sc.co sc.gen sc.nc sc.loc hdb it2 i0 sz fun h3 tk3 kp3 => ?_
      exact ⟨h3, tk3, rfl, kp3, .str _ _⟩
    · rw [PySem.W.dataLe_str] at eo
      have hn : H2 (s2.heap.objs.size + 1) = none := I2.hok.fresh (Nat.le_succ _)
      have len : ((xs.mergeSort keyLe).map (·.1)).length ≤ sizeLine := by rw [List.length_map, List.length_mergeSort, ← List.length_map]; exact hz
      have I3 := I2.laid (t' := tk') (a := s2.heap.objs.size + 1) (o := .lst ((xs.mergeSort keyLe).map (·.1))) (h' := h2) kp (Nat.le_succ _) ⟨len, out, c2, vals_each eo, at2⟩
      exact ⟨.ref _, _, I3, rfl, q H2 c' _ gr hco hn⟩
end
end LM

set_option maxHeartbeats 4000000
/-! sorted(e, key=lambda x: x[0]) over data; the table of code objects is the store's cell i -/
namespace LM
open PySem PySem.Spec PyProof.Rows L2 DE
def keyed : List D → Option (List (D × Str))
  | [] => some []
  | .tup (.str k :: r) :: ds => (keyed ds).map ((.tup (.str k :: r), k) :: ·)
  | _ => none
def keyLeD (p q : D × Str) : Bool := decide (p.2.cps.toList ≤ q.2.cps.toList)
def dSk (i : Nat) (c m q : Str) (fa : MA) : ME := fun ρ S => (fa ρ S).bind fun ds S1 => match ds with
  | [d] => (match seqOf S1 d with
    | some ds => (match keyed ds, S1[i]? with
      | some xs, some (.tab c' m' q') => if c' = c ∧ m' = some m ∧ q' = q then .ok (.lst ((xs.mergeSort keyLeD).map (·.1))) S1 else .bad
      | _, _ => .bad)
    | none => .bad)
  | _ => .bad
theorem keyed_rep {K : PySem.W.Frag} {O : Ow} {H : Hp} : ∀ {ds : List D} {kd : List (D × Str)} {xs : List V}, keyed ds = some kd → Reps K O H ds xs →
    ∃ xk : List (V × Str), xk.map (·.1) = xs ∧ (∀ p ∈ xk, ∃ t r, p.1 = .ref t ∧ SqT K H t (.str p.2 :: r)) ∧ PySem.W.EachIs (fun (p : V × Str) (d : D × Str) => Rep K O H d.1 p.1 ∧ p.2 = d.2) xk kd
  | [], kd, xs, e, r => by
    cases e
    cases r
    exact ⟨[], rfl, fun p hp => absurd hp List.not_mem_nil, .nil⟩
  | d :: ds, kd, xs, e, r => by
    obtain ⟨v, vr, rfl, r1, r2⟩ := r
    unfold keyed at e
    split at e
    · cases (‹_› : (d :: ds) = [])
    · rename_i k rr ds' he
      cases he
      obtain ⟨kd2, e2, rfl⟩ := Option.map_eq_some_iff.mp e
      obtain ⟨xk, h1, h2, h3⟩ := keyed_rep e2 r2
      have r1' := r1
      obtain ⟨t, ys, rfl, ht, rs⟩ := r1
      obtain ⟨u, ur, rfl, r0, _⟩ := rs
      cases r0
      refine ⟨(.ref t, k) :: xk, by rw [List.map_cons, h1], fun p hp => ?_, .cons ⟨r1', rfl⟩ h3⟩
      rcases List.mem_cons.mp hp with rfl | hp
      · exact ⟨t, ur, rfl, sqT_of ht⟩
      · exact h2 p hp
    · cases e
theorem each_reps {K : PySem.W.Frag} {O : Ow} {H : Hp} : ∀ {kd : List (D × Str)} {xk : List (V × Str)}, PySem.W.EachIs (fun (p : V × Str) (d : D × Str) => Rep K O H d.1 p.1 ∧ p.2 = d.2) xk kd → Reps K O H (kd.map (·.1)) (xk.map (·.1))
  | _, _, .nil => rfl
  | _, _, .cons r rr => ⟨_, _, rfl, r.1, each_reps rr⟩
theorem grown_stt {K : PySem.W.Frag} {O : Ow} {H H2 : Hp} {ρ : DE.Env} {σ : L2.St} {S : Sto} {i : Nat} {c : Str} {m : Option Str} {q : Str} {cc : Addr} {ps : Array Value} (st : Stt K O H ρ σ S) (hi : S[i]? = some (.tab c m q)) (hP : H (He.cT K (c, m)).2 = some (.tbl ps)) (gr : Grown H H2 (He.cT K (c, m)).2 cc q ps) : Ext O H O H2 ∧ Stt K O H2 ρ σ S := by
  rcases gr with ⟨rfl, _⟩ | ⟨more, hn, rfl, tok, am⟩
  · exact ⟨.refl, st⟩
  · obtain ⟨a, ha, cell⟩ := st.own hi
    obtain ⟨ps0, h1, rfl, h3, h4⟩ := cell
    rw [hP] at h1
    cases h1
    have ne : (He.cT K (c, m)).2 ≠ cc := fun z => by rw [z, hn] at hP; cases hP
    obtain ⟨e1, st1⟩ := st.new (o := LamX.CodeO cc q) hn
    have nocc : O.no cc := XN.wf_no st.wf hn
    obtain ⟨e2, st2⟩ := st1.mut (o := .tbl (ps ++ more)) (d := .tab c m q) ha fun e => by
      refine ⟨_, upd_same, rfl, tok, fun pos cv z => ?_⟩
      rcases am pos cv z with z | rfl
      · obtain ⟨c0, e1', e2', e3'⟩ := h4 pos cv z
        have n0 : c0 ≠ cc := fun y => by rw [y, hn] at e3'; cases e3'
        have nP : c0 ≠ (He.cT K (c, m)).2 := fun y => by rw [y, hP] at e3'; unfold LamX.CodeO at e3'; cases e3'
        exact ⟨c0, e1', e2', by rw [upd_ne nP, upd_ne n0]; exact e3'⟩
      · exact ⟨cc, rfl, nocc, by rw [upd_ne (Ne.symm ne), upd_same]⟩
    have es : S.set i (.tab c m q) = S := by
      have hl := (List.getElem?_eq_some_iff.mp hi)
      exact List.ext_getElem? fun j => by
        by_cases hj : i = j
        · subst hj; rw [List.getElem?_set_self hl.1, hi]
        · rw [List.getElem?_set_ne hj]
    rw [es] at st2
    have eh : upd (upd H cc (LamX.CodeO cc q)) (He.cT K (c, m)).2 (.tbl (ps ++ more)) = upd (upd H (He.cT K (c, m)).2 (.tbl (ps ++ more))) cc (LamX.CodeO cc q) := by
      funext y
      by_cases h1 : y = cc
      · subst h1; rw [upd_same, upd_ne (Ne.symm ne), upd_same]
      · rw [upd_ne h1]
        by_cases h2 : y = (He.cT K (c, m)).2
        · subst h2; rw [upd_same, upd_same]
        · rw [upd_ne h2, upd_ne h2, upd_ne h1]
    rw [eh] at e2 st2
    exact ⟨e1.trans e2, st2⟩
section
variable {X : Cx} {W : WX} {e : Expr} {fa : MA} {params : Arguments} {x : Str} {scope : Scope} {p p1 p2 p3 pos lpos kpos : Pos} {i j k : Nat} {c m q : Str}
theorem de_sk (hg : Gl X "sorted") (hm : X.mg "sorted" = none) (ha : DA X W [e] fa) (TB : LamX.TabB X.base X.mg (He.cT X.K (c, some m)).1 (He.cT X.K (c, some m)).2) (hcode : X.env.code = .ref (He.cT X.K (c, some m)).1) (hq : X.env.qual ++ "<lambda>" = q) (hr : Room k X.A) (sc : OneS scope x) (hdef : defaultsOf params X.env = ([], []))
    (hbind : ∀ (q : Str) (cl : List (Str × Addr)) (pm cv ctv v : Value), bindArgs (PySem.W.kla_fn "<lambda>" q params (.Subscript (.Name x p1) (.Constant (.int 0) j p2) p3) scope cl pm cv ctv) ⟨[v], []⟩ = pure [(x, v)])
    (hdb : (x == ("__debug__" : Str)) = false := by decide) (he : backTo pos (starEach [e] X.env) = (false, eval e X.env) :: backTo pos (starEach [] X.env) := by rfl) (hpl : (backTo pos (starEach [e] X.env)).any (·.1) = false := by rfl) :
    DE X W (.Call (.Name "sorted" p) [e] [⟨some "key", .Lambda params (.Subscript (.Name x p1) (.Constant (.int 0) j p2) p3) scope lpos, kpos⟩] pos) (dSk i c m q fa) := by
  refine ⟨PE.imp (pe_sk2 hg hm ha.pa TB hcode hr sc hdef hbind hdb he hpl) fun σ H Q ⟨O, ρ, S, st, h⟩ => ⟨O, ρ, S, st, After.seq h fun ds S1 O1 H1 vs e1 st1 r1 h1 => ?_⟩⟩
  rcases ds with _ | ⟨d, _ | ⟨d2, ds⟩⟩
  · exact h1.elim
  · simp only at h1
    cases q1 : seqOf S1 d with
    | none => simp only [q1] at h1; exact h1.elim
    | some ds =>
      simp only [q1] at h1
      cases q2 : keyed ds with
      | none => simp only [q2] at h1; exact h1.elim
      | some kd =>
        cases q3 : S1[i]? with
        | none => simp only [q2, q3] at h1; exact h1.elim
        | some t =>
          simp only [q2, q3] at h1
          cases t <;> try exact h1.elim
          rename_i c' m' q'
          simp only at h1
          by_cases hc : c' = c ∧ m' = some m ∧ q' = q
          · rw [if_pos hc] at h1
            obtain ⟨rfl, rfl, rfl⟩ := hc
            obtain ⟨v, rfl, rv⟩ := r1.one
            obtain ⟨a, xs, rfl, hs, rs⟩ := seq_rep st1 q1 rv
            obtain ⟨xk, ex, hit, each⟩ := keyed_rep q2 rs
            obtain ⟨aP, haP, ps, hP, eP, tok, am⟩ := st1.own q3
            rw [eP] at hP
            refine ⟨a, xk, ps, rfl, by rw [ex]; exact hs, hit, hP, ⟨tok, fun pos cv z => ?_⟩, fun H2 cc b gr hco hb => ?_⟩
            · obtain ⟨c0, z1, z2, z3⟩ := am pos cv z
              exact ⟨c0, z1, by rw [hq]; exact z3⟩
            · rw [hq] at gr
              obtain ⟨e2, st2⟩ := grown_stt st1 q3 hP gr
              obtain ⟨e3, st3⟩ := st2.new (o := .lst ((xk.mergeSort keyLe).map (·.1))) hb
              refine After.ok (After.mono h1 (e2.trans e3)) st3 ⟨b, _, rfl, XN.wf_no st2.wf hb, upd_same, ?_⟩
              have so := PySem.W.sort_each (r := keyLe) (s := keyLeD) each fun p hp p2 hp2 => by
                have z1 := (each.zip p hp).2
                have z2 := (each.zip p2 hp2).2
                unfold keyLe keyLeD
                rw [z1, z2]
              exact (each_reps so).mono ((e2.trans e3).w st1.wf)
          · rw [if_neg hc] at h1; exact h1.elim
  · exact h1.elim
end
end LM

set_option maxHeartbeats 4000000
/-! the end of a law's row, with one table of code objects -/
namespace LM
open PySem PySem.Spec PyProof.Rows L2 DE
theorem law_callT {P : Program} {w : World} {K : PySem.W.Frag} {mg mb : Str → Option Value} {k : Nat} {fa a cc TP : Addr} {fd : FuncData} {x : Str} {sp : Sp} {s : Shared} {vs : List Value} {ns : List Int} (KX : K.In s.heap) (hns : s.heap.Ns mainGlobals mg) (hb : s.heap.Ns builtinsNs mb)
    (hbb : ∀ x : Str, x ≠ "__name__" → mb x = bootBuiltins x) (lim : s.heap.NoLimit) (hg : s.gens = #[]) (hT : s.heap.get? TP = some { cls := .none, data := .fields #[] }) (nT : K.lookup TP = none) (hd : PySem.W.CodeHd s.heap cc TP)
    (hbm : ∃ (bm : Addr) (ob : Obj), mg "__builtins__" = some (.ref bm) ∧ bm ≠ builtinsNs ∧ s.heap.get? bm = some ob ∧ ob.cls = .type "module" ∧ ob.dict = some builtinsNs ∧ ob.data = .plain)
    (ha : s.heap.get? a = some { cls := .type "list", data := .seq vs.toArray }) (hi : IntsAre vs ns) (hl : ns.length ≤ sizeLine) (hr : Room k callerA)
    (F : ∀ base : Heap, K.In base → base.Ns mainGlobals mg → LamX.TabB base mg cc TP → FnGd P w K mg base k fa fd [x] sp) (hbind : ∀ (s : Shared) (u : Value), BindsTo s fd ⟨[u], []⟩ [(x, u)])
    (hsp : ∀ H : Hp, H TP = some (.tbl #[]) → SqL K H a (ns.map V.int) → sp [.ref a] H (fun v _ => v = .bl true) fun _ _ _ => False) :
    codeAny (model P w) callerA (.call (.ref fa) ⟨[.ref a], []⟩) (fun r s' => r = .ok (.ret (.bool true)) ∧ OldK s.heap s'.heap ∧ s'.os = s.os ∧ AllBare s'.gens) s := by
  have rv := vals_ints hi
  have lv : vs.length = ns.length := hi.length
  have aT : a ≠ TP := fun z => by
    rw [z, hT] at ha
    cases ha
  generalize hH : upd (H0 K a { cls := .type "list", data := .seq vs.toArray } ns) TP (.tbl #[]) = H
  have atT : H TP = some (.tbl #[]) := by rw [← hH]; exact upd_same
  have only : ∀ {b u}, H b = some u → (b = TP ∧ u = .tbl #[]) ∨ (b = a ∧ K.lookup a = none ∧ u = .frz { cls := .type "list", data := .seq vs.toArray } (.lst (ns.map V.int))) := fun {b u} z => by
    by_cases hb : b = TP
    · subst hb
      rw [atT] at z
      cases z
      exact .inl ⟨rfl, rfl⟩
    · rw [← hH, upd_ne hb] at z
      exact .inr (H0_some z)
  have sq : SqL K H a (ns.map V.int) := by
    cases q : K.lookup a with
    | none => exact .inl (.inr ⟨_, by rw [← hH, upd_ne aT]; exact if_pos ⟨rfl, q⟩⟩)
    | some o =>
      have e := (KX a o q).symm.trans ha
      cases e
      exact .inr ⟨_, vs.toArray, _, q, rfl, rfl, rfl, by rw [List.size_toArray, lv]; exact hl, by simpa using rv⟩
  have hok : HOk P w H s.heap := fun b u z => by
    rcases only z with ⟨rfl, rfl⟩ | ⟨rfl, _, rfl⟩
    · exact hT
    · exact ⟨ha, by rw [List.length_map]; exact hl, vs, _, rv, ha⟩
  have free : ∀ {b : Addr} {o : Obj}, s.heap.get? b = some o → b ≠ TP → (∀ us n, o.data ≠ .seq us n) → H b = none := fun {b o} z nb d => by
    cases q : H b with
    | none => rfl
    | some u =>
      rcases only q with ⟨e, _⟩ | ⟨rfl, _, _⟩
      · exact absurd e nb
      · rw [ha] at z
        cases z
        exact absurd rfl (d _ _)
  have dictN : ∀ {b : Addr} {o : Obj} {es : Array DictEntry} {ep : Nat}, s.heap.get? b = some o → o.data = .dict es ep → H b = none := fun {b o es ep} z d => free z (fun e => by
    rw [e, hT] at z
    cases z
    cases d) fun us n e => by
    rw [d] at e
    cases e
  have ns' : ∀ {b : Addr} {m : Str → Option Value}, s.heap.Ns b m → (hidT s.heap H).Ns b m := fun {b m} ⟨o, es, ep, z, d, r⟩ => ⟨o, es, ep, hidT_get z (dictN z d), d, r⟩
  have KB : K.In (hidT s.heap H) := fun b o z => hidT_get (KX b o z) (by
    cases q : H b with
    | none => rfl
    | some u =>
      rcases only q with ⟨rfl, _⟩ | ⟨rfl, q2, _⟩
      · rw [nT] at z; cases z
      · rw [q2] at z; cases z)
  have M : Mod K mg (hidT s.heap H) := by
    obtain ⟨mc, l1, l2⟩ := lim
    exact ⟨KB, ns' hns, ⟨mb, ns' hb, hbb⟩, mc, ns' l1, l2⟩
  have TB : LamX.TabB (hidT s.heap H) mg cc TP := by
    refine ⟨?_, ?_, fun z => ?_⟩
    · obtain ⟨o, us, file, tf, flags, tg, inF, text, tt, e1, z1, z2, z3, z4, z5, z6, z7, z8, ne⟩ := hd
      exact ⟨o, us, file, tf, flags, tg, inF, text, tt, hidT_get e1 (free e1 ne fun us n y => by rw [z2] at y; cases y), z1, z2, z3, z4, z5, z6, z7, z8, ne⟩
    · obtain ⟨bm, ob, b1, b2, b3, b4, b5, b6⟩ := hbm
      have n1 : bm ≠ mainGlobals := fun y => by
        obtain ⟨o, es, ep, g1, g2, _⟩ := hns
        rw [y, g1] at b3
        cases b3
        rw [b6] at g2
        cases g2
      have n2 : bm ≠ TP := fun y => by
        rw [y, hT] at b3
        cases b3
        cases b6
      exact ⟨bm, ob, b1, b2, n1, n2, hidT_get b3 (free b3 n2 fun us n y => by rw [b6] at y; cases y), b4, b5, b6⟩
    · obtain ⟨o, es, ep, g1, g2, _⟩ := hns
      rw [z, hT] at g1
      cases g1
      cases g2
  have e0 : Env0 P w K mg (hidT s.heap H) callerA [] s H := ⟨rfl, M, fun b o z => of_hidT z, Nat.le_of_eq (hidT_size _ _), trivial, fun b z => absurd (show b ∈ ([] : List Addr) from z) (by simp), hok, .of_eq hg⟩
  refine codeAny_mono ((F _ KB (ns' hns) TB).run callerA [] s H ⟨[.ref a], []⟩ [.ref a] [.ref a] _ _ hr rfl e0 (hbind s (.ref a)) (.cons rfl .nil) (hsp H atT sq)) ?_
  rintro (er | fl) s' z
  · exact (CXA.no ⟨P, w, z⟩).elim
  · rcases fl with _ | _ | _ | u
    all_goals first
      | exact z.elim
      | skip
    obtain ⟨v, H', os, bare, un, hok', r', q⟩ := z
    obtain rfl : v = .bl true := q
    obtain rfl : u = Value.bool true := r'
    obtain ⟨more, gm⟩ := un.tbls TP #[] atT
    have gr : s'.heap.get? TP = some { cls := .none, data := .fields (#[] ++ more) } := hok' TP _ gm
    have old : ∀ b o, b ≠ TP → s.heap.get? b = some o → s'.heap.get? b = some o := fun b o nb z => by
      cases q : H b with
      | none => exact un.keep b o z q (fun y => absurd (show b ∈ ([] : List Addr) from y) (by simp)) (by simp)
      | some u =>
        rcases only q with ⟨e, _⟩ | ⟨rfl, _, rfl⟩
        · exact absurd e nb
        · obtain ⟨e2, _⟩ := hok' b _ (un.frzs b _ _ q)
          rw [ha] at z
          cases z
          exact e2
    refine ⟨rfl, ⟨fun b o z => ?_, fun b o z => ?_⟩, os, bare⟩
    · by_cases hb : b = TP
      · subst hb
        rw [hT] at z
        cases z
        exact .inr (.inl ⟨(hd.tab hT).isCodeTable, rfl, #[], more, rfl, gr⟩)
      · exact .inl (old b o hb z)
    · by_cases hb : b = TP
      · subst hb
        exact ⟨_, gr⟩
      · exact ⟨o, old b o hb z⟩
theorem walk_T {l : PySem.W.OpenLaw} {n k : Nat} {q : Program} {loose : List Str} {XP : (Str → Option Value) → Heap → Prop} {YP : World → Heap → Prop} {d : DefRec} {x : Str} (hn : l.most = some n) (hn2 : n ≤ sizeLine) (hdf : d.params.defaults = []) (hr : Room k callerA)
    (F : ∀ (w : World) (mg : Str → Option Value) (fa : Addr) (h : Heap), YP w h → h.Ns mainGlobals mg → mg d.name = some (.ref fa) → ∃ (K : PySem.W.Frag) (fd : FuncData) (sp : Sp) (cc TP : Addr), K.In h ∧ h.get? TP = some { cls := .none, data := .fields #[] } ∧ K.lookup TP = none ∧ PySem.W.CodeHd h cc TP ∧
      (∀ (s : Shared) (u : Value), BindsTo s fd ⟨[u], []⟩ [(x, u)]) ∧ (∀ (H : Hp) (a : Addr) (ns : List Int), ns.length ≤ n → H TP = some (.tbl #[]) → SqL K H a (ns.map V.int) → sp [.ref a] H (fun v _ => v = .bl true) fun _ _ _ => False) ∧
      ∀ base : Heap, K.In base → base.Ns mainGlobals mg → LamX.TabB base mg cc TP → FnGd l.prog w K mg base k fa fd [x] sp) :
    PySem.W.WalkO q loose XP YP l.row.toRowW d [] (fun f vs => PySem.call f vs) :=
  Att.attach_call hn hdf fun w s0 s1 mg mb fa o pm cd doc a vs ns G Y ho hd hcd hmg hobj hints hlen hg => by
    obtain ⟨K, fd, sp, cc, TP, KX, hT, nT, hC, hb, hsp, hF⟩ := F w mg fa _ Y G.T.g hmg
    exact law_callT KX G.T.g G.T.b G.T.builtins G.T.nolimit hg hT nT hC G.T.bmain hobj hints (Nat.le_trans hlen hn2) hr hF hb fun H hH hS => hsp H a ns hlen hH hS
end LM

set_option maxHeartbeats 4000000
/-! a def whose code object is told (its body makes a lambda) -/
namespace DE
open PySem PySem.Spec PyProof.Rows L2
section
variable {P : Program} {w : World} {K : PySem.W.Frag} {mg : Str → Option Value} {base : Heap} {k : Nat} {fd : FuncData} {x qual : Str} {params : Arguments} {body : List Stmt} {scope : Scope} {dvs : List V} {kws : List (Str × V)} {N ps : List Str} {sp : Sp} {B : MS}
theorem FnGd.ofT {pp : Str × Option Str} (F : FunD K x qual params body scope dvs kws (He.fAd K pp) fd) (S : FnScope N ps scope) (len : ∀ vs H Q E, sp vs H Q E → vs.length = ps.length)
    (go : ∀ (cdv : Value) (A : Around) (outer : List PySem.Env) (s : Shared) (H : Hp) (vs : List V) (Q : VK) (E : XK), Room k (A.deeper (envOfC qual scope s.heap.objs.size (He.fAd K pp) cdv)) → A.guards = some [] → cdv = .ref (He.codeOf K pp) → sp vs H Q E →
      ∃ t, PSs (XOf P w K mg base N qual scope (He.fAd K pp) cdv A outer s H E) body t ∧ t { nx := fun _ H' => Q .non H', rt := Q } (start N vs) H) : FnGd P w K mg base (k + 1) (He.fAd K pp) fd ps sp := by
  obtain ⟨oc, od, dV, kV, doc, pm, an, cdv, ct, osl, rfl, lk, hcd, _, _⟩ := F.ex
  have ecd : cdv = .ref (He.codeOf K pp) := by
    obtain ⟨c, rfl⟩ := He.codeIn_ref hcd
    rw [He.codeOf_eq lk rfl]
  refine ⟨len, fun A outer s H args us vs Q E room gd e0 bnd rel hs => ?_⟩
  have inK : K.In s.heap := e0.mod.kin.keeps (fun b o z => (e0.bs b o z).1)
  have locals_ : ∀ y ∈ ps.zip us, scope.names.lookup y.1 = some .local ∨ (scope.names.lookup y.1 = some .cell ∧ ((cellsFrom (s.heap.objs.size + 1) scope.names []).lookup y.1).isSome = true) := by
    rintro ⟨n, v⟩ hy
    exact (S.par n (List.of_mem_zip hy).1).imp id fun z => ⟨z, PySem.W.cellsFrom_some _ _ _ (.inl z)⟩
  refine codeAny_call_function room.depth (inK _ _ lk) rfl S.co S.gen rfl (PySem.W.codeRec_of inK hcd) (bnd _ _ _ _ (wpAny_newFunctionEnv_cells S.kind locals_ fun env ev s1 ic => ?_))
  subst ev
  obtain ⟨t, run, hq⟩ := go cdv A outer s H vs Q E (room.deeper _) gd ecd hs
  have J : Inv (XOf P w K mg base N qual scope (He.fAd K pp) cdv A outer s H E) [] (start N vs) H s1 := inv_start S room.hd e0 (len _ _ _ _ hs) rel ic
  have out : ∀ {σ' : L2.St} {H' : Hp} {v : V} {u : Value} {s' : Shared}, Inv (XOf P w K mg base N qual scope (He.fAd K pp) cdv A outer s H E) [] σ' H' s' → RelV v u → Q v H' → CE outer P w H s Q u s' :=
    fun I' r q => ⟨_, _, I'.os, I'.bare, I'.base, I'.hok, r, q⟩
  refine ⟨e0.mod.nolimit.keeps (fun b o z => ic.toInCall.keep b o (e0.bs b o z).1), codeAny_func (wpAny_mono (run.run [] s1 (start N vs) H _ J hq) (fun fl s' z => ?_) fun _ _ z => z)⟩
  rcases fl with _ | _ | _ | u
  all_goals first
    | exact (let ⟨v, σ', H', I', r, q⟩ := z; out I' r q)
    | exact (let ⟨σ', H', I', q⟩ := z; out (v := .non) (u := .none) I' rfl q)
    | exact (let ⟨_, _, _, q⟩ := z; q.elim)
theorem fn_dataT {pp : Str × Option Str} (F : FunD K x qual params body scope dvs kws (He.fAd K pp) fd) (S : FnScope N ps scope)
    (go : ∀ (cdv : Value) (A : Around) (outer : List PySem.Env) (s : Shared) (H : Hp) (E : XK), Room k (A.deeper (envOfC qual scope s.heap.objs.size (He.fAd K pp) cdv)) → A.guards = some [] → cdv = .ref (He.codeOf K pp) → DSs (XOf P w K mg base N qual scope (He.fAd K pp) cdv A outer s H E) (WD E) body B) :
    FnGd P w K mg base (k + 1) (He.fAd K pp) fd ps (spD K ps.length (fnD N.length B)) := by
  refine .ofT F S (fun vs H Q E ⟨O, S', ds, _, r, hl, _⟩ => by rw [← r.length]; exact hl) (fun cdv A outer s H vs Q E hr gd ec ⟨O, S', ds, wf, r, hl, h⟩ => ?_)
  refine ⟨_, (go cdv A outer s H E hr gd ec).pss, O, _, S', ⟨wf, by rw [L2.start, ← r.length]; exact (REnv.of r).app (N.length - ds.length)⟩, ?_⟩
  unfold fnD at h
  cases q : B (ds.map some ++ List.replicate (N.length - ds.length) none) S' with
  | nx ρ1 S1 => rw [q] at h; exact fun O' H' σ' e st => h O' H' .non e st.wf rfl
  | rt d S1 => rw [q] at h; exact fun O' H' v e st rd => h O' H' v e st rd
  | exc x ρ1 S1 => rw [q] at h; exact fun O' H' σ' cls dx e st rx => h O' H' cls dx e st.wf rx
  | bk _ _ => rw [q] at h; exact h.elim
  | ct _ _ => rw [q] at h; exact h.elim
  | bad => rw [q] at h; exact h.elim
end
end DE

set_option maxHeartbeats 4000000
/-! isinstance(d, C), C a class of the program: instances, built-in values -/
namespace LM
open PySem PySem.Spec PyProof.Rows L2 DE
/-- what isinstance asks of an instance's class -/
def insB (K : PySem.W.Frag) (C : Addr) : Bool := decide (PySem.W.findIn K (.ref C) "__class__" = some (some (.builtin "object.__class__"))) && (decide (PySem.W.specialIn K (.builtin "object.__class__") "__get__" = some (some (.builtin "getset_descriptor.__get__"))) &&
  (decide (PySem.W.takesIn K (.builtin "object.__class__") = some true) && decide (PySem.W.mroIn K C (.type "object") = some true)))
/-- the class c; cs: which classes of the program are below it -/
def ioB (c : Str) (cs : List (Str × Bool)) : Xb := fun K => tyList.all (fun a => decide (PySem.W.kitOne K (.type a) (.ref (He.ga K c)) = some false)) && cs.all fun p => insB K (He.ga K p.1) && decide (PySem.W.kitOne K (.ref (He.ga K p.1)) (.ref (He.ga K c)) = some p.2)
def oIsO (c : Str) (cs : List (Str × Bool)) : FD := fun ds S => match ds with
  | [d, .glo c'] => if c' = c then (match objAt S d with
    | some (c2, _) => (match cs.lookup c2 with
      | some b => .ok (.bl b) S
      | none => .bad)
    | none => if (tyName d).isSome ∨ (lstAt S d).isSome then .ok (.bl false) S else .bad) else .bad
  | _ => .bad
section
variable {X : Cx}
theorem c_oIsO {c : Str} {cs : List (Str × Bool)} (h0 : ioB c cs X.K = true) (hc : ∀ p ∈ cs, Cls X.K (He.ga X.K p.1)) : CallR X (.builtin "isinstance") (RC X.K (oIsO c cs)) := by
  intro pins s σ H vs us Q I rv ⟨W, ρ, σ', O, S, ds, st, r, h⟩
  unfold ioB at h0
  rw [Bool.and_eq_true] at h0
  obtain ⟨hf, ht⟩ := h0
  unfold oIsO at h
  split at h
  · rename_i d c'
    obtain ⟨v, u, rfl, r1, r2⟩ := r.two
    by_cases e : c' = c
    · subst e
      rw [if_pos rfl] at h
      have cv : ClsV u (.ref (He.ga X.K c')) := by
        cases (show u = _ from r2)
        exact .own _
      cases q : objAt S d with
      | some z =>
        obtain ⟨c2, fs⟩ := z
        simp only [q] at h
        cases q2 : cs.lookup c2 with
        | none => simp only [q2] at h; exact h.elim
        | some b =>
          simp only [q2] at h
          obtain ⟨a, dx, ws, rfl, ha, _⟩ := objAt_rep st q r1
          have hm := DE.mem_of_lookup q2
          have z := List.all_eq_true.mp ht _ hm
          simp only [Bool.and_eq_true, decide_eq_true_eq] at z
          obtain ⟨z1, z2⟩ := z
          unfold insB at z1
          simp only [Bool.and_eq_true, decide_eq_true_eq] at z1
          obtain ⟨y1, y2, y3, y4⟩ := z1
          exact call_isi pins s σ H _ us Q I rv ⟨.ref a, u, _, _, b, rfl, cv, .base (.ins ha (hc _ hm) y1 y2 y3 y4), z2, After.ok h st rfl⟩
      | none =>
        simp only [q] at h
        obtain ⟨hd, h⟩ := After.ite h
        have ty : ∃ a ∈ tyList, TyX X.K H v (.type a) := by
          rcases hd with hd | hd
          · obtain ⟨a, q1⟩ := Option.isSome_iff_exists.mp hd
            exact ⟨a, tyName_in q1, tyName_rep q1 r1⟩
          · obtain ⟨ds, q1⟩ := Option.isSome_iff_exists.mp hd
            obtain ⟨p, xs, rfl, hp, _⟩ := lstAt_rep st q1 r1
            exact ⟨"list", by decide, .base (.lst hp)⟩
        obtain ⟨a, ha, tx⟩ := ty
        exact call_isi pins s σ H _ us Q I rv ⟨v, u, _, _, false, rfl, cv, tx, of_decide_eq_true (List.all_eq_true.mp hf a ha), After.ok h st rfl⟩
    · rw [if_neg e] at h; exact h.elim
  · exact h.elim
end
end LM

set_option maxHeartbeats 4000000
/-! <, <=, >, >= of data that are alike (tuples of numbers and texts too); sorted of a list of such -/
namespace LM
open PySem PySem.Spec PyProof.Rows L2 DE
def isNo : PyData → Bool
  | .none => true
  | _ => false
def oData (k : PyData → PyData → Bool) : D → D → Sto → RE D := fun d e S => match toPy d, toPy e with
  | some p, some q => if PySem.W.alike p q = true ∧ isNo p = false ∧ p.depth ≤ 60 then .ok (.bl (k p q)) S else .bad
  | _, _ => .bad
section
variable {X : Cx}
theorem op_data {op : CmpOp} {k : PyData → PyData → Bool} (hu : X.A.units + 64 < cLine)
    (go : ∀ (s : Shared) (a b : Value) (p q : PyData) (as bs : List Addr) (Q : Value → Shared → Prop), Reads s.heap a p as → Reads s.heap b q bs → PySem.W.alike p q = true → p ≠ .none → X.A.units + min p.depth q.depth < cLine → Q (.bool (k p q)) s → wpAny (model X.prog X.w) X.A (compareOp op a b) Q X.xe s) :
    OpR X (compareOp op) (RD X.K (oData k)) := by
  intro pins s σ H x y v u Q I rx ry ⟨W, ρ, σ', O, S, d, e, st, r1, r2, h⟩
  unfold oData at h
  cases e1 : toPy d with
  | none => simp only [e1] at h; exact h.elim
  | some p =>
    cases e2 : toPy e with
    | none => simp only [e1, e2] at h; exact h.elim
    | some q =>
      simp only [e1, e2] at h
      obtain ⟨⟨c1, c2, c3⟩, h⟩ := After.ite h
      obtain ⟨as, ra⟩ := Dp.reads I p x v (dp_of e1 r1) rx
      obtain ⟨bs, rb⟩ := Dp.reads I q y u (dp_of e2 r2) ry
      exact go s v u p q as bs _ ra rb c1 (fun z => by rw [z] at c2; cases c2) (by have := Nat.min_le_left p.depth q.depth; omega) ⟨.bl _, H, I, rfl, After.ok h st rfl⟩
theorem op_ltD (hu : X.A.units + 64 < cLine) : OpR X (compareOp .Lt) (RD X.K (oData fun p q => PySem.W.dataLt p q)) := op_data hu fun s a b p q as bs Q ra rb al nn ro hq => PySem.W.lt_data ra rb al nn ro hq
theorem op_gtD (hu : X.A.units + 64 < cLine) : OpR X (compareOp .Gt) (RD X.K (oData fun p q => PySem.W.dataLt q p)) := op_data hu fun s a b p q as bs Q ra rb al nn ro hq => PySem.W.gt_data ra rb al nn ro hq
theorem op_leD (hu : X.A.units + 64 < cLine) : OpR X (compareOp .LtE) (RD X.K (oData fun p q => !PySem.W.dataLt q p)) := op_data hu fun s a b p q as bs Q ra rb al nn ro hq => PySem.W.le_data ra rb al nn ro hq
theorem op_geD (hu : X.A.units + 64 < cLine) : OpR X (compareOp .GtE) (RD X.K (oData fun p q => !PySem.W.dataLt p q)) := op_data hu fun s a b p q as bs Q ra rb al nn ro hq => PySem.W.ge_data ra rb al nn ro hq
end
end LM

set_option maxHeartbeats 4000000
/-! sorted(xs), xs a list of tuples that are alike -/
namespace LM
open PySem PySem.Spec PyProof.Rows L2 DE
def isTup1 : PyData → Bool
  | .tuple (_ :: _) => true
  | _ => false
def sortOk (ps : List PyData) : Bool := ps.all isTup1 && (ps.all (fun p => ps.all fun q => PySem.W.alike p q) && ps.all fun p => decide (p.depth ≤ 60))
def oSorted : FD := fun as S => match as with
  | [d] => (match lstAt S d with
    | some ds => (match toPys ds with
      | some ps => if sortOk ps = true then .ok (.lst (((ds.zip ps).mergeSort (PySem.W.dataLe false Prod.snd)).map (·.1))) S else .bad
      | none => .bad)
    | none => .bad)
  | _ => .bad
abbrev Tri : Type := V × D × PyData
def TriR (K : PySem.W.Frag) (O : Ow) (H : Hp) (h : Heap) (u : Value) (b : Tri) : Prop := RelV b.1 u ∧ Rep K O H b.2.1 b.1 ∧ ∃ as, Reads h u b.2.2 as
theorem tri_of {X : Cx} {pins : List (Addr × Obj)} {σ : L2.St} {H : Hp} {s : Shared} {O : Ow} (I : Inv X pins σ H s) : ∀ {ds : List D} {ps : List PyData} {xs : List V} {us : List Value}, toPys ds = some ps → Reps X.K O H ds xs → Vals xs us →
    PySem.W.EachIs (TriR X.K O H s.heap) us (xs.zip (ds.zip ps))
  | [], ps, xs, us, e, r, v => by
    cases e
    cases r
    cases v
    exact .nil
  | d :: ds, ps, xs, us, e, r, v => by
    obtain ⟨x, xr, rfl, r1, r2⟩ := r
    cases v with
    | cons v1 v2 =>
      simp only [toPys] at e
      cases q : toPy d with
      | none => rw [q] at e; cases e
      | some p =>
        cases q2 : toPys ds with
        | none => rw [q, q2] at e; cases e
        | some qs =>
          rw [q, q2] at e
          cases e
          exact .cons ⟨v1, r1, Dp.reads I p x _ (dp_of q r1) v1⟩ (tri_of I q2 r2 v2)
theorem tri_vals {K : PySem.W.Frag} {O : Ow} {H : Hp} {h : Heap} : ∀ {us : List Value} {bs : List Tri}, PySem.W.EachIs (TriR K O H h) us bs → Vals (bs.map (·.1)) us ∧ Reps K O H (bs.map (·.2.1)) (bs.map (·.1))
  | _, _, .nil => ⟨.nil, rfl⟩
  | _, _, .cons r rr => ⟨.cons r.1 (tri_vals rr).1, _, _, rfl, r.2.1, (tri_vals rr).2⟩
theorem toPys_len : ∀ {ds : List D} {ps : List PyData}, toPys ds = some ps → ps.length = ds.length
  | [], _, e => by cases e; rfl
  | d :: ds, _, e => by
    simp only [toPys] at e
    cases q : toPy d with
    | none => rw [q] at e; cases e
    | some p =>
      cases q2 : toPys ds with
      | none => rw [q, q2] at e; cases e
      | some qs => rw [q, q2] at e; cases e; simp [toPys_len q2]
section
variable {X : Cx}
theorem c_oSorted {k : Nat} (hr : Room k X.A) : CallR X (.builtin "sorted") (RC X.K oSorted) := by
  intro pins s σ H vs us Q I rv ⟨W, ρ, σ', O, S, as, st, r, h⟩
  unfold oSorted at h
  split at h
  · rename_i d
    obtain ⟨v, rfl, r1⟩ := r.one
    cases e1 : lstAt S d with
    | none => simp only [e1] at h; exact h.elim
    | some ds =>
      simp only [e1] at h
      cases e2 : toPys ds with
      | none => simp only [e2] at h; exact h.elim
      | some ps =>
        simp only [e2] at h
        obtain ⟨ok, h⟩ := After.ite h
        obtain ⟨p, xs, rfl, hp, rs⟩ := lstAt_rep st e1 r1
        cases rv with
        | cons ru rr =>
          cases rr
          cases ru
          obtain ⟨its, rv2, pl, hz⟩ := I.list (.inl (.inl hp))
          have each := tri_of I e2 rs rv2
          have lx : xs.length = (ds.zip ps).length := by rw [List.length_zip, toPys_len e2, Nat.min_self, rs.length]
          have lb : (xs.zip (ds.zip ps)).length = xs.length := by rw [List.length_zip, ← lx, Nat.min_self]
          unfold sortOk at ok
          simp only [Bool.and_eq_true] at ok
          obtain ⟨o1, o2, o3⟩ := ok
          have inP : ∀ b ∈ xs.zip (ds.zip ps), b.2.2 ∈ ps := fun b hb => (List.of_mem_zip (List.of_mem_zip (a := b.1) (b := b.2) hb).2).2
          refine PySem.W.sorted_data (bs := xs.zip (ds.zip ps)) (enc := fun b : Tri => b.2.2) pl.isList each (each.mono fun _ _ z => z.2.2) ?_ ?_ (by rw [lb]; exact hz) (fun b hb => ?_) fun out lo eo => ?_
          · intro d1 h1 d2 h2
            obtain ⟨b1, m1, rfl⟩ := List.mem_map.mp h1
            obtain ⟨b2, m2, rfl⟩ := List.mem_map.mp h2
            exact List.all_eq_true.mp (List.all_eq_true.mp o2 _ (inP b1 m1)) _ (inP b2 m2)
          · refine .inl fun d1 h1 => ?_
            obtain ⟨b1, m1, rfl⟩ := List.mem_map.mp h1
            have z := List.all_eq_true.mp o1 _ (inP b1 m1)
            cases q : b1.2.2 <;> rw [q] at z <;> try cases z
            rename_i l
            cases l with
            | nil => cases z
            | cons y l => exact ⟨y, l, rfl⟩
          · have z := of_decide_eq_true (List.all_eq_true.mp o3 _ (inP b hb))
            have := hr.un
            omega
          · obtain ⟨v2, r2⟩ := tri_vals eo
            have hn : H (s.heap.objs.size + 1) = none := I.hok.fresh (Nat.le_succ _)
            obtain ⟨ep, at2⟩ := PyProof.Rows.sortedAll_at s.heap its (List.toArray out)
            have len : (((xs.zip (ds.zip ps)).mergeSort (PySem.W.dataLe false fun b : Tri => b.2.2)).map (·.1)).length ≤ sizeLine := by rw [List.length_map, List.length_mergeSort, lb]; exact hz
            have I2 := I.laid (t' := s.toks) (a := s.heap.objs.size + 1) (o := .lst (((xs.zip (ds.zip ps)).mergeSort (PySem.W.dataLe false fun b : Tri => b.2.2)).map (·.1))) (h' := sortedAll s.heap its (List.toArray out)) (fun _ _ => PyProof.Rows.sortedAll_old) (Nat.le_succ _) ⟨len, out, ep, v2, at2⟩
            obtain ⟨e3, st3⟩ := st.new (o := .lst (((xs.zip (ds.zip ps)).mergeSort (PySem.W.dataLe false fun b : Tri => b.2.2)).map (·.1))) hn
            refine ⟨.ref _, _, I2, rfl, After.ok (After.mono h e3) st3 ⟨_, _, rfl, XN.wf_no st.wf hn, upd_same, ?_⟩⟩
            have ez : ((xs.zip (ds.zip ps)).mergeSort (PySem.W.dataLe false fun b : Tri => b.2.2)).map (·.2.1) = ((ds.zip ps).mergeSort (PySem.W.dataLe false Prod.snd)).map (·.1) := by
              have z := PySem.W.sort_maps (r := PySem.W.dataLe false fun b : Tri => b.2.2) (s := PySem.W.dataLe false (Prod.snd : D × PyData → PyData)) (Prod.snd : Tri → D × PyData) (l := xs.zip (ds.zip ps)) (fun _ _ _ _ => rfl)
              rw [List.map_snd_zip (by omega)] at z
              rw [← z, List.map_map]
              rfl
            rw [← ez]
            exact r2.mono (e3.w st.wf)
  · exact h.elim
end
end LM

set_option maxHeartbeats 4000000
/-! dict comprehensions: {k: v for tg in iter if ..}, keys texts or ints -/
namespace LM
open PySem PySem.Spec PyProof.Rows L2 DE
section
variable {K : PySem.W.Frag} {O : Ow} {H : Hp} {ρ : DE.Env} {σ : L2.St} {S : Sto}
/-- a new hidden object -/
theorem hideG (st : Stt K O H ρ σ S) {p : Addr} {o : HO} (so : Solid o) (hp : H p = none) : Ext O H (O.hide p) (upd H p o) ∧ Stt K (O.hide p) (upd H p o) ρ σ S := by
  have nw : ∀ a, a ∈ O.l ∨ a ∈ O.u → a ≠ p := fun a ha z => st.wf.there a ha (z ▸ hp)
  have e0 : Ext O H O (upd H p o) := ext_new hp
  have e : Ext O H (O.hide p) (upd H p o) := ⟨⟨[], by simp [Ow.hide], fun _ h => by cases h⟩, ⟨[p], rfl, fun a h => by rw [List.mem_singleton.mp h]; exact hp⟩, e0.keep, e0.tups, e0.there⟩
  refine ⟨e, ⟨st.wf.nd, st.wf.len, fun k a d h1 h2 => (st.wf.cell k a d h1 h2).mono (e.w st.wf) (upd_ne (nw a (.inl (List.mem_of_getElem? h1)))), fun a ha => ?_⟩, st.env.mono (e.w st.wf)⟩
  rcases List.mem_cons.mp (show a ∈ p :: O.u from ha) with z | z
  · subst z
    exact ⟨fun z => nw a (.inl z) rfl, _, upd_same, so⟩
  · rw [upd_ne (nw a (.inr z))]
    exact st.wf.hid a z
theorem extW_hidG (w : WF K O H S) {p : Addr} {o : HO} (hp : p ∈ O.u) : ExtW O H O (upd H p o) :=
  ⟨fun _ _ h => h, fun _ _ n _ => n, fun a u n h => by rw [upd_ne (show a ≠ p from fun z => n.2 (z ▸ hp))]; exact h, fun a u h => by rw [upd_ne (show a ≠ p from fun z => w.notup p (.inr hp) u (z ▸ h))]; exact h, fun a o2 u h => by rw [upd_ne (show a ≠ p from fun z => w.nofrz p (.inr hp) o2 u (z ▸ h))]; exact h⟩
theorem hidG (st : Stt K O H ρ σ S) {p : Addr} {o : HO} (so : Solid o) (hp : p ∈ O.u) : Stt K O (upd H p o) ρ σ S := by
  have e := extW_hidG (o := o) st.wf hp
  refine ⟨⟨st.wf.nd, st.wf.len, fun k a d h1 h2 => (st.wf.cell k a d h1 h2).mono e (upd_ne fun z => (st.wf.hid p hp).1 (z ▸ List.mem_of_getElem? h1)), fun a ha => ?_⟩, st.env.mono e⟩
  by_cases z : a = p
  · subst z
    exact ⟨(st.wf.hid a ha).1, _, upd_same, so⟩
  · rw [upd_ne z]
    exact st.wf.hid a ha
theorem solid_dK {kvs : List (Key × V)} : Solid (.dK kvs) := ⟨(fun _ z => by cases z), (fun _ _ z => by cases z), (fun _ z => by cases z)⟩
end
def keyD : D → Option Key
  | .str x => some (.inr x)
  | .int i => some (.inl i)
  | _ => none
theorem keyD_rep {K : PySem.W.Frag} {O : Ow} {H : Hp} {d : D} {k : Key} {v : V} (e : keyD d = some k) (r : Rep K O H d v) : v = kV k := by
  cases d <;> simp only [keyD] at e <;> cases e <;> exact r
def putKD (kvs : List (Key × D)) (k : Key) (d : D) : List (Key × D) := if (kvs.any fun kv => decide (kv.1 = k)) = true then kvs.map (fun kv => if kv.1 = k then (kv.1, d) else kv) else kvs ++ [(k, d)]
section
variable {K : PySem.W.Frag} {O : Ow} {H : Hp}
theorem repK_any {k : Key} : ∀ {kd : List (Key × D)} {kv : List (Key × V)}, RepK K O H kd kv → (kv.any fun z => decide (z.1 = k)) = kd.any fun z => decide (z.1 = k)
  | [], _, r => by cases r; rfl
  | (j, d) :: kd, _, r => by
    obtain ⟨v, vr, rfl, _, r2⟩ := r
    rw [List.any_cons, List.any_cons, repK_any r2]
theorem repK_len : ∀ {kd : List (Key × D)} {kv : List (Key × V)}, RepK K O H kd kv → kd.length = kv.length
  | [], _, r => by cases r; rfl
  | (j, d) :: kd, _, r => by
    obtain ⟨v, vr, rfl, _, r2⟩ := r
    simp [repK_len r2]
theorem repK_app : ∀ {kd ke : List (Key × D)} {kv kw : List (Key × V)}, RepK K O H kd kv → RepK K O H ke kw → RepK K O H (kd ++ ke) (kv ++ kw)
  | [], _, _, _, r, r' => by cases r; exact r'
  | (j, d) :: kd, _, _, _, r, r' => by
    obtain ⟨v, vr, rfl, r1, r2⟩ := r
    exact ⟨v, _, rfl, r1, repK_app r2 r'⟩
theorem repK_map {k : Key} {d : D} {v : V} (rv : Rep K O H d v) : ∀ {kd : List (Key × D)} {kv : List (Key × V)}, RepK K O H kd kv → RepK K O H (kd.map fun z => if z.1 = k then (z.1, d) else z) (kv.map fun z => if z.1 = k then (z.1, v) else z)
  | [], _, r => by cases r; rfl
  | (j, e) :: kd, _, r => by
    obtain ⟨u, vr, rfl, r1, r2⟩ := r
    by_cases h : j = k
    · simp only [List.map_cons, h, if_true]
      exact ⟨v, _, rfl, rv, repK_map rv r2⟩
    · simp only [List.map_cons, h, if_false]
      exact ⟨u, _, rfl, r1, repK_map rv r2⟩
theorem repK_put {k : Key} {d : D} {v : V} (rv : Rep K O H d v) {kd : List (Key × D)} {kv : List (Key × V)} (r : RepK K O H kd kv) : RepK K O H (putKD kd k d) (putK kv k v) := by
  unfold putKD putK
  rw [repK_any r]
  split
  · exact repK_map rv r
  · exact repK_app r ⟨v, [], rfl, rv, rfl⟩
end
theorem length_putKD (kd : List (Key × D)) (k : Key) (d : D) : (putKD kd k d).length ≤ kd.length + 1 := by
  unfold putKD
  split
  · rw [List.length_map]; omega
  · rw [List.length_append]; simp
def loopDC (own : List Nat) (g : MG) (t : MT) (ek ev : ME) (ρ : DE.Env) : List D → List (Key × D) → Sto → RE D
  | [], acc, S => .ok (.dK acc) S
  | d :: ds, acc, S => match g d (wipeD ρ own) with
    | none => .bad
    | some ρ1 => match t ρ1 S with
      | .ok true S1 => (match ek ρ1 S1 with
        | .ok k S2 => (match keyD k, ev ρ1 S2 with
          | some k, .ok v S3 => loopDC own g t ek ev ρ ds (putKD acc k v) S3
          | _, _ => .bad)
        | _ => .bad)
      | .ok false S1 => loopDC own g t ek ev ρ ds acc S1
      | _ => .bad
def dDC (own : List Nat) (i : MA) (g : MG) (t : MT) (ek ev : ME) : ME := fun ρ S => (i ρ S).bind fun ds S1 => if ds.length ≤ cap then loopDC own g t ek ev ρ ds [] S1 else .bad
section
variable {X : Cx} {W : WX} {fk fv : ME}
theorem dc_imp {own : List (Str × Nat)} {fi : MA} {is : List Nat} {g1 : MG} {ft : MT} (hv : ∀ i ∈ is, i ∈ own.map (·.2)) : ∀ σ H Q, tE X.K W (dDC (own.map (·.2)) fi g1 ft fk fv) σ H Q → tDc (tI X.K W fi) (tG X.K is g1) (tT X.K W0 ft) (tE X.K W0 fk) (tE X.K W0 fv) (own.map (·.2)) σ H Q :=
  fun σ H Q ⟨O, ρ, S, st, h⟩ => ⟨O, ρ, S, st, After.seq h fun ds S1 O1 H1 J e1 st1 w1 h1 => by
    intro p hp
    have hl : ds.length ≤ cap := by
      by_cases hl : ds.length ≤ cap
      · exact hl
      · simp only [hl, if_false] at h1; exact h1.elim
    simp only [hl, if_true] at h1
    obtain ⟨eh, sth⟩ := hideG (o := .dK []) st1 solid_dK hp
    refine ⟨fun i m H2 => m = ds.length - i ∧ i ≤ ds.length ∧ ∃ O2 S2 acc accV, p ∈ O2.u ∧ Ext O1 H1 O2 H2 ∧ Stt X.K O2 H2 ρ σ S2 ∧ H2 p = some (.dK accV) ∧ acc.length ≤ i ∧ RepK X.K O2 H2 acc accV ∧
        After X.K W (Rep X.K) ρ σ O1 H1 Q (loopDC (own.map (·.2)) g1 ft fk fv ρ (ds.drop i) acc S2), ⟨_, rfl, Nat.zero_le _, _, S1, [], [], List.mem_cons_self, eh, sth, upd_same, Nat.le_refl _, rfl, h1⟩, ?_⟩
    rintro i m H2 ⟨rfl, hi, O2, S2, acc, accV, hu, e2, st2, hp2, ha, r2, h2⟩
    have ww := w1 O2 H2 S2 ρ σ e2 st2 i
    by_cases hlt : i < ds.length
    · have hd : ds[i]? = some ds[i] := by simp [hlt]
      obtain ⟨go, yl⟩ := ww.1 _ hd
      rw [drop_of hd] at h2
      refine .inr ⟨go, fun H' => ∃ O3 S3 acc3 accV3, p ∈ O3.u ∧ Ext O1 H1 O3 H' ∧ Stt X.K O3 H' ρ σ S3 ∧ H' p = some (.dK accV3) ∧ acc3.length ≤ i + 1 ∧ RepK X.K O3 H' acc3 accV3 ∧
        After X.K W (Rep X.K) ρ σ O1 H1 Q (loopDC (own.map (·.2)) g1 ft fk fv ρ (ds.drop (i + 1)) acc3 S3), fun H' hn => ⟨_, by omega, rfl, hlt, hn⟩, fun x H' y => ?_⟩
      obtain ⟨e3, st3, r3⟩ := yl x H' y
      have st2' := st3 _ _ _ st2
      have hp' : ∀ {O4 H4}, Ext O2 H' O4 H4 → H4 p = some (.dK accV) := fun e4 => (e3.trans e4).keep p _ (st2.wf.hid p hu).1 hp2
      have hu' : ∀ {O4 H4}, Ext O2 H' O4 H4 → p ∈ O4.u := fun e4 => by
        obtain ⟨m, q, _⟩ := e4.preu
        rw [q]; exact List.mem_append_right _ hu
      cases q : g1 ds[i] (wipeD ρ (own.map (·.2))) with
      | none => simp only [loopDC, q] at h2; exact h2.elim
      | some ρ1 =>
        refine ⟨O2, wipeD ρ (own.map (·.2)), S2, _, ρ1, ⟨st2'.wf, wipe_env st2'.env _⟩, r3, q, fun σ4 st4 only => ⟨(only _ hv).trans (wipe_wipe _ _), O2, ρ1, S2, st4, ?_⟩⟩
        cases qt : ft ρ1 S2 with
        | bad => simp only [loopDC, q, qt] at h2; exact h2.elim
        | exc _ _ => simp only [loopDC, q, qt] at h2; exact h2.elim
        | ok bt S5 =>
          intro O5 H5 bb e5 st5 rb
          subst rb
          cases bt with
          | false =>
            refine iteF ⟨O5, S5, acc, accV, hu' e5, e2.trans (e3.trans e5), ⟨st5.wf, st2'.env.mono (e5.w st2'.wf)⟩, hp' e5, by omega, r2.mono ((e3.trans e5).w st2.wf), ?_⟩
            simp only [loopDC, q, qt] at h2
            exact h2
          | true =>
            refine iteT ⟨O5, ρ1, S5, st5, ?_⟩
            cases qk : fk ρ1 S5 with
            | bad => simp only [loopDC, q, qt, qk] at h2; exact h2.elim
            | exc _ _ => simp only [loopDC, q, qt, qk] at h2; exact h2.elim
            | ok k6 S6 =>
              intro O6 H6 y6 e6 st6 r6
              refine ⟨O6, ρ1, S6, st6, ?_⟩
              cases kk : keyD k6 with
              | none => simp only [loopDC, q, qt, qk, kk] at h2; exact h2.elim
              | some k =>
                cases qf : fv ρ1 S6 with
                | bad => simp only [loopDC, q, qt, qk, kk, qf] at h2; exact h2.elim
                | exc _ _ => simp only [loopDC, q, qt, qk, kk, qf] at h2; exact h2.elim
                | ok v7 S7 =>
                  intro O7 H7 y7 e7 st7 r7
                  have e57 := e5.trans (e6.trans e7)
                  have st7' : Stt X.K O7 H7 ρ σ S7 := ⟨st7.wf, st2'.env.mono (e57.w st2'.wf)⟩
                  have ra : RepK X.K O7 H7 acc accV := r2.mono ((e3.trans e57).w st2.wf)
                  have ew := extW_hidG (o := .dK (putK accV k y7)) st7.wf (hu' e57)
                  refine ⟨accV, k, keyD_rep kk r6, hp' e57, ?_, O7, S7, putKD acc k v7, putK accV k y7, hu' e57, ?_, hidG st7' solid_dK (hu' e57), upd_same, Nat.le_trans (length_putKD acc k v7) (by omega), RepK.mono ew (repK_put r7 ra), ?_⟩
                  · rw [← repK_len ra]
                    exact cap_lt (by omega)
                  · have e8 := e2.trans (e3.trans e57)
                    refine ⟨e8.pre, e8.preu, fun a o na ho => ?_, fun a u ho => ?_, fun a ho => upd_there a (e8.there a ho)⟩
                    · rw [upd_ne (ne_of_none ho hp)]; exact e8.keep a o na ho
                    · rw [upd_ne (ne_of_none ho hp)]; exact e8.tups a u ho
                  · simp only [loopDC, q, qt, qk, kk, qf] at h2
                    exact h2
    · have e : i = ds.length := by omega
      refine .inl ⟨ww.2 e, ?_⟩
      have hd : ds.drop i = [] := by rw [e]; simp
      rw [hd] at h2
      have h3 : After X.K W (Rep X.K) ρ σ O1 H1 Q (.ok (.dK acc) S2) := h2
      have hsub : ∀ a ∈ O1.u, a ∈ O2.u := fun a ha => by
        obtain ⟨m, q, _⟩ := e2.preu
        rw [q]; exact List.mem_append_right _ ha
      refine h3 ⟨O2.l, O1.u⟩ H2 _ ⟨e2.pre, ⟨[], rfl, fun _ h => by cases h⟩, e2.keep, e2.tups, e2.there⟩ (st2.bare hsub) ⟨p, accV, rfl, ⟨(st2.wf.hid p hu).1, fun z => st1.wf.there p (.inr z) hp⟩, .inl hp2, r2.mono (extW_bare hsub)⟩⟩
theorem de_dc {kx vx tg iter : Expr} {ifs : List Expr} {scope : Scope} {pos : Pos} {own : List (Str × Nat)} {vs : List Nat} {fi : MA} {is : List Nat} {g1 : MG} {ft : MT} (hc : X.calm = true) (hN : X.N.Nodup) (hi : DI X W tg iter fi) (ok : BlkOk X.N X.env.scope scope own)
    (hg : ∀ (s : Shared) (H : Hp) (C : Addr) (cl : List (Str × Addr)) (fp : List Addr), DG (X.blk s H scope (compEnvC scope cl C X.env) fp) tg is g1) (ht : ∀ (s : Shared) (H : Hp) (C : Addr) (cl : List (Str × Addr)) (fp : List Addr), DTs (X.blk s H scope (compEnvC scope cl C X.env) fp) W0 ifs ft)
    (hk : ∀ (s : Shared) (H : Hp) (C : Addr) (cl : List (Str × Addr)) (fp : List Addr), DE (X.blk s H scope (compEnvC scope cl C X.env) fp) W0 kx fk) (he : ∀ (s : Shared) (H : Hp) (C : Addr) (cl : List (Str × Addr)) (fp : List Addr), DE (X.blk s H scope (compEnvC scope cl C X.env) fp) W0 vx fv)
    (hv : ∀ i ∈ is, i ∈ vs) (hvs : vs = own.map (·.2) := by rfl) (hs : ∀ x, foldedSetIterable iter X.env x = pure x := by intro _; rfl) : DE X W (.DictComp kx vx [⟨tg, iter, ifs, 0⟩] scope pos) (dDC vs fi g1 ft fk fv) := by
  subst hvs
  exact ⟨PE.imp (pe_dc (g := tG X.K is g1) (tt := tT X.K W0 ft) (tk := tE X.K W0 fk) (tv := tE X.K W0 fv) hc hN hi.pi ok (fun s H C cl fp => (hg s H C cl fp).pg) (fun s H C cl fp => (ht s H C cl fp).pts) (fun s H C cl fp => (hk s H C cl fp).pe) (fun s H C cl fp => (he s H C cl fp).pe) hs) fun σ H Q h => dc_imp hv σ H Q h⟩
end
end LM

set_option maxHeartbeats 4000000
/-! [elt for tg in x.f.items() if ..]: the dict is locked while it is walked -/
namespace LM
open PySem PySem.Spec PyProof.Rows L2 DE
section
variable {X : Cx} {W : WX} {f : ME}
theorem lc_body {own : List (Str × Nat)} {is : List Nat} {g1 : MG} {ft : MT} (hv : ∀ i ∈ is, i ∈ own.map (·.2)) {σ : L2.St} {Q : VK} {O1 : Ow} {H1 : Hp} {ρ : DE.Env} {S1 : Sto} {ds : List D} {J : It} (st1 : Stt X.K O1 H1 ρ σ S1) (w1 : Walks X.K O1 H1 ds J) (hl : ds.length ≤ cap)
    (h1 : After X.K W (Rep X.K) ρ σ O1 H1 Q ((loopC (own.map (·.2)) g1 ft f ρ ds S1).bind fun vs S3 => .ok (.lst vs) S3)) :
    ∀ D, H1 D = none → ∃ Wi : Nat → Nat → Hp → Prop, (∃ m, Wi 0 m (upd H1 D (.lst []))) ∧ ∀ i m H, Wi i m H →
      (J.stop i H ∧ Q (.ref D) H) ∨ (J.go i H ∧ ∃ Nx : Hp → Prop, (∀ H', Nx H' → ∃ m', m' < m ∧ Wi (i + 1) m' H') ∧ ∀ x H', J.yld i H x H' → tG X.K is g1 x (wipe σ (own.map (·.2))) H' fun σ2 H2 => wipe σ2 (own.map (·.2)) = wipe σ (own.map (·.2)) ∧ tT X.K W0 ft σ2 H2 fun b H3 =>
        if b = true then tE X.K W0 f σ2 H3 fun y H4 => ∃ acc, H4 D = some (.lst acc) ∧ acc.length < sizeLine ∧ Nx (upd H4 D (.lst (acc ++ [y]))) else Nx H3) := by
  intro p hp
  obtain ⟨eh, sth⟩ := st1.hide (xs := []) hp
  refine ⟨fun i m H2 => m = ds.length - i ∧ i ≤ ds.length ∧ ∃ O2 S2 acc accV, p ∈ O2.u ∧ Ext O1 H1 O2 H2 ∧ Stt X.K O2 H2 ρ σ S2 ∧ H2 p = some (.lst accV) ∧ acc.length ≤ i ∧ Reps X.K O2 H2 acc accV ∧
      After X.K W (Rep X.K) ρ σ O1 H1 Q ((loopC (own.map (·.2)) g1 ft f ρ (ds.drop i) S2).bind fun vs S3 => .ok (.lst (acc ++ vs)) S3), ⟨_, rfl, Nat.zero_le _, _, S1, [], [], List.mem_cons_self, eh, sth, upd_same, Nat.le_refl _, rfl, h1⟩, ?_⟩
  rintro i m H2 ⟨rfl, hi, O2, S2, acc, accV, hu, e2, st2, hp2, ha, r2, h2⟩
  have ww := w1 O2 H2 S2 ρ σ e2 st2 i
  by_cases hlt : i < ds.length
  · have hd : ds[i]? = some ds[i] := by simp [hlt]
    obtain ⟨go, yl⟩ := ww.1 _ hd
    rw [drop_of hd] at h2
    refine .inr ⟨go, fun H' => ∃ O3 S3 acc3 accV3, p ∈ O3.u ∧ Ext O1 H1 O3 H' ∧ Stt X.K O3 H' ρ σ S3 ∧ H' p = some (.lst accV3) ∧ acc3.length ≤ i + 1 ∧ Reps X.K O3 H' acc3 accV3 ∧
      After X.K W (Rep X.K) ρ σ O1 H1 Q ((loopC (own.map (·.2)) g1 ft f ρ (ds.drop (i + 1)) S3).bind fun vs S3 => .ok (.lst (acc3 ++ vs)) S3), fun H' hn => ⟨_, by omega, rfl, hlt, hn⟩, fun x H' y => ?_⟩
    obtain ⟨e3, st3, r3⟩ := yl x H' y
    have st2' := st3 _ _ _ st2
    have hp' : ∀ {O4 H4}, Ext O2 H' O4 H4 → H4 p = some (.lst accV) := fun e4 => (e3.trans e4).keep p _ (st2.wf.hid p hu).1 hp2
    have hu' : ∀ {O4 H4}, Ext O2 H' O4 H4 → p ∈ O4.u := fun e4 => by
      obtain ⟨m, q, _⟩ := e4.preu
      rw [q]; exact List.mem_append_right _ hu
    cases q : g1 ds[i] (wipeD ρ (own.map (·.2))) with
    | none => simp only [loopC, q] at h2; exact h2.elim
    | some ρ1 =>
      refine ⟨O2, wipeD ρ (own.map (·.2)), S2, _, ρ1, ⟨st2'.wf, wipe_env st2'.env _⟩, r3, q, fun σ4 st4 only => ⟨(only _ hv).trans (wipe_wipe _ _), O2, ρ1, S2, st4, ?_⟩⟩
      cases qt : ft ρ1 S2 with
      | bad => simp only [loopC, q, qt] at h2; exact h2.elim
      | exc _ _ => simp only [loopC, q, qt] at h2; exact h2.elim
      | ok bt S5 =>
        intro O5 H5 bb e5 st5 rb
        subst rb
        cases bt with
        | false =>
          refine iteF ⟨O5, S5, acc, accV, hu' e5, e2.trans (e3.trans e5), ⟨st5.wf, st2'.env.mono (e5.w st2'.wf)⟩, hp' e5, by omega, r2.mono ((e3.trans e5).w st2.wf), ?_⟩
          simp only [loopC, q, qt] at h2
          exact h2
        | true =>
          refine iteT ⟨O5, ρ1, S5, st5, ?_⟩
          cases qf : f ρ1 S5 with
          | bad => simp only [loopC, q, qt, qf] at h2; exact h2.elim
          | exc _ _ => simp only [loopC, q, qt, qf] at h2; exact h2.elim
          | ok v6 S6 =>
            intro O6 H6 y6 e6 st6 r6
            have e56 := e5.trans e6
            have st6' : Stt X.K O6 H6 ρ σ S6 := ⟨st6.wf, st2'.env.mono (e56.w st2'.wf)⟩
            have ra : Reps X.K O6 H6 acc accV := r2.mono ((e3.trans e56).w st2.wf)
            have ew := extW_hid (xs := accV ++ [y6]) st6.wf (hu' e56)
            refine ⟨accV, hp' e56, ?_, O6, S6, acc ++ [v6], accV ++ [y6], hu' e56, ?_, st6'.hid (hu' e56), upd_same, by simp; omega, Reps.append (ra.mono ew) ⟨y6, [], rfl, r6.mono ew, rfl⟩, ?_⟩
            · rw [← ra.length]
              exact cap_lt (by omega)
            · have e7 := e2.trans (e3.trans e56)
              refine ⟨e7.pre, e7.preu, fun a o na ho => ?_, fun a u ho => ?_, fun a ho => upd_there a (e7.there a ho)⟩
              · rw [upd_ne (ne_of_none ho hp)]; exact e7.keep a o na ho
              · rw [upd_ne (ne_of_none ho hp)]; exact e7.tups a u ho
            · simp only [loopC, q, qt, qf] at h2
              have e8 : ∀ vs : List D, acc ++ [v6] ++ vs = acc ++ v6 :: vs := fun vs => by simp
              simp only [e8]
              cases ql : loopC (own.map (·.2)) g1 ft f ρ (ds.drop (i + 1)) S6 with
              | ok vs S7 => rw [ql] at h2; exact h2
              | exc _ _ => rw [ql] at h2; exact h2
              | bad => rw [ql] at h2; exact h2
  · have e : i = ds.length := by omega
    refine .inl ⟨ww.2 e, ?_⟩
    have hd : ds.drop i = [] := by rw [e]; simp
    rw [hd] at h2
    have h3 : After X.K W (Rep X.K) ρ σ O1 H1 Q (.ok (.lst (acc ++ [])) S2) := h2
    rw [List.append_nil] at h3
    have hsub : ∀ a ∈ O1.u, a ∈ O2.u := fun a ha => by
      obtain ⟨m, q, _⟩ := e2.preu
      rw [q]; exact List.mem_append_right _ ha
    refine h3 ⟨O2.l, O1.u⟩ H2 _ ⟨e2.pre, ⟨[], rfl, fun _ h => by cases h⟩, e2.keep, e2.tups, e2.there⟩ (st2.bare hsub) ⟨p, accV, rfl, ⟨(st2.wf.hid p hu).1, fun z => st1.wf.there p (.inr z) hp⟩, hp2, r2.mono (extW_bare hsub)⟩
end
end LM

set_option maxHeartbeats 4000000
/-! a dict locked, let go: what is said of data stays -/
namespace LM
open PySem PySem.Spec PyProof.Rows L2 DE
/-- the same things stand; a dict of keys may be locked, let go -/
structure Same (H H' : Hp) : Prop where
  at_ : ∀ a o, H a = some o → (∀ kvs, o ≠ .dK kvs) → (∀ ob kvs, o ≠ .frz ob (.dK kvs)) → H' a = some o
  rd : ∀ a kvs, Rd H a (.dK kvs) → Rd H' a (.dK kvs)
section
variable {K : PySem.W.Frag} {O : Ow} {H H' : Hp}
theorem Same.rdO (e : Same H H') {a : Addr} {u : HO} (n : ∀ kvs, u ≠ .dK kvs) (n2 : ∀ ob kvs, u ≠ .frz ob (.dK kvs)) (h : Rd H a u) : Rd H' a u := by
  rcases h with h | ⟨ob, h⟩
  · exact .inl (e.at_ _ _ h n n2)
  · exact .inr ⟨ob, e.at_ _ _ h (fun _ z => nomatch z) fun ob2 kvs z => by cases z; exact n _ rfl⟩
mutual
theorem rep_same (e : Same H H') : ∀ {d : D} {v : V}, Rep K O H d v → Rep K O H' d v
  | .non, _, h => h
  | .bl _, _, h => h
  | .int _, _, h => h
  | .str _, _, h => h
  | .ty _, _, h => h
  | .glo _, _, h => h
  | .tup _, _, h => by
    obtain ⟨a, xs, rfl, h1, h2⟩ := h
    exact ⟨a, xs, rfl, h1.imp (fun z => e.at_ _ _ z (fun _ z => nomatch z) (fun _ _ z => nomatch z)) id, reps_same e h2⟩
  | .lst _, _, h => by
    obtain ⟨a, xs, rfl, n, h1, h2⟩ := h
    exact ⟨a, xs, rfl, n, e.at_ _ _ h1 (fun _ z => nomatch z) (fun _ _ z => nomatch z), reps_same e h2⟩
  | .scr _, _, h => by
    obtain ⟨a, xs, rfl, h1, h2⟩ := h
    exact ⟨a, xs, rfl, h1.imp (fun z => ⟨z.1, e.rdO (fun _ z => nomatch z) (fun _ _ z => nomatch z) z.2⟩) id, reps_same e h2⟩
  | .dK _, _, h => by
    obtain ⟨a, xs, rfl, n, h1, h2⟩ := h
    exact ⟨a, xs, rfl, n, e.rd _ _ h1, repK_same e h2⟩
  | .dT _, _, h => by
    obtain ⟨a, xs, rfl, n, h1, h2⟩ := h
    exact ⟨a, xs, rfl, n, e.rdO (fun _ z => nomatch z) (fun _ _ z => nomatch z) h1, repT_same e h2⟩
  | .obj _ _, _, h => by
    obtain ⟨a, dx, xs, rfl, n, h1, h2⟩ := h
    exact ⟨a, dx, xs, rfl, n, e.at_ _ _ h1 (fun _ z => nomatch z) (fun _ _ z => nomatch z), repF_same e h2⟩
  | .own _, _, h => h
  | .xcp _ _ _, _, h => by
    obtain ⟨rfl, vs, n, h1, h2⟩ := h
    exact ⟨rfl, vs, n, e.at_ _ _ h1 (fun _ z => nomatch z) (fun _ _ z => nomatch z), repF_same e h2⟩
  | .exo _ _, _, h => by
    obtain ⟨a, dd, vs, rfl, n, h1, m, z, h3⟩ := h
    refine ⟨a, dd, vs, rfl, n, e.at_ _ _ h1 (fun _ z => ?_) (fun _ _ z => ?_), fun y q => ⟨(m y q).1, e.at_ _ _ (m y q).2 (fun _ z => nomatch z) (fun _ _ z => nomatch z)⟩, z, repF_same e h3⟩
    · unfold L2.exo at z; cases z
    · unfold L2.exo at z; cases z
  | .tab _ _ _, _, h => h.elim
theorem reps_same (e : Same H H') : ∀ {d : List D} {v : List V}, Reps K O H d v → Reps K O H' d v
  | [], _, h => h
  | _ :: _, _, h => by
    obtain ⟨v, r, rfl, h1, h2⟩ := h
    exact ⟨v, r, rfl, rep_same e h1, reps_same e h2⟩
theorem repK_same (e : Same H H') : ∀ {d : List (Key × D)} {v : List (Key × V)}, RepK K O H d v → RepK K O H' d v
  | [], _, h => h
  | (_, _) :: _, _, h => by
    obtain ⟨v, r, rfl, h1, h2⟩ := h
    exact ⟨v, r, rfl, rep_same e h1, repK_same e h2⟩
theorem repT_same (e : Same H H') : ∀ {d : List (List Key × D)} {v : List (List Key × V)}, RepT K O H d v → RepT K O H' d v
  | [], _, h => h
  | (_, _) :: _, _, h => by
    obtain ⟨v, r, rfl, h1, h2⟩ := h
    exact ⟨v, r, rfl, rep_same e h1, repT_same e h2⟩
theorem repF_same (e : Same H H') : ∀ {d : List (Str × D)} {v : List (Str × V)}, RepF K O H d v → RepF K O H' d v
  | [], _, h => h
  | (_, _) :: _, _, h => by
    obtain ⟨v, r, rfl, h1, h2⟩ := h
    exact ⟨v, r, rfl, rep_same e h1, repF_same e h2⟩
end
theorem env_same (e : Same H H') : ∀ {ρ : DE.Env} {σ : L2.St}, REnv K O H ρ σ → REnv K O H' ρ σ
  | _, _, .nil => .nil
  | _, _, .cons (d := none) h t => .cons trivial (env_same e t)
  | _, _, .cons (d := some _) ⟨v, e1, h⟩ t => .cons ⟨v, e1, rep_same e h⟩ (env_same e t)
theorem cell_same {a : Addr} {d : D} (e : Same H H') (k : H' a = H a) (h : Cell K O H a d) : Cell K O H' a d := by
  cases d <;> simp only [Cell] at h ⊢
  case lst => obtain ⟨xs, h1, h2⟩ := h; exact ⟨xs, k.trans h1, reps_same e h2⟩
  case dK => obtain ⟨xs, h1, h2⟩ := h; exact ⟨xs, k.trans h1, repK_same e h2⟩
  case dT => obtain ⟨xs, h1, h2⟩ := h; exact ⟨xs, k.trans h1, repT_same e h2⟩
  case obj => obtain ⟨dx, xs, h1, h2⟩ := h; exact ⟨dx, xs, k.trans h1, repF_same e h2⟩
  case tab =>
    obtain ⟨ps, h1, h2, h3, h4⟩ := h
    refine ⟨ps, k.trans h1, h2, h3, fun pos cv z => ?_⟩
    obtain ⟨c, e1, e2, e3⟩ := h4 pos cv z
    refine ⟨c, e1, e2, e.at_ _ _ e3 (fun _ z => ?_) (fun _ _ z => ?_)⟩
    · unfold LamX.CodeO at z; cases z
    · unfold LamX.CodeO at z; cases z
/-- d is nobody's own -/
theorem stt_same {ρ : DE.Env} {σ : L2.St} {S : Sto} {d : Addr} (st : Stt K O H ρ σ S) (e : Same H H') (nd : O.no d) (only : ∀ a, a ≠ d → H' a = H a) : Stt K O H' ρ σ S := by
  refine ⟨⟨st.wf.nd, st.wf.len, fun k a dd h1 h2 => cell_same e (only a fun z => nd.1 (z ▸ List.mem_of_getElem? h1)) (st.wf.cell k a dd h1 h2), fun a ha => ?_⟩, env_same e st.env⟩
  obtain ⟨h1, o, h2, h3⟩ := st.wf.hid a ha
  exact ⟨h1, o, by rw [only a fun z => nd.2 (z ▸ ha)]; exact h2, h3⟩
theorem lock_same {d : Addr} {od : Obj} {vs : List (Key × V)} (h : H d = some (.dK vs)) : Same H (upd H d (.frz od (.dK vs))) where
  at_ := fun a o z n _ => by
    rw [upd_ne fun y => by rw [y, h] at z; cases z; exact n _ rfl]
    exact z
  rd := fun a kvs z => by
    by_cases y : a = d
    · subst y
      rcases z with z | ⟨_, z⟩
      · rw [h] at z; cases z; exact .inr ⟨_, upd_same⟩
      · rw [h] at z; cases z
    · unfold Rd
      rw [upd_ne y]
      exact z
theorem free_same {d : Addr} {od : Obj} {vs : List (Key × V)} (h : H d = some (.frz od (.dK vs))) : Same H (upd H d (.dK vs)) where
  at_ := fun a o z _ n => by
    rw [upd_ne fun y => by rw [y, h] at z; cases z; exact n _ _ rfl]
    exact z
  rd := fun a kvs z => by
    by_cases y : a = d
    · subst y
      rcases z with z | ⟨_, z⟩
      · rw [h] at z; cases z
      · rw [h] at z; cases z; exact .inl upd_same
    · unfold Rd
      rw [upd_ne y]
      exact z
end
end LM

set_option maxHeartbeats 4000000
/-! [elt for tg in x.f.items() if ..] over data -/
namespace LM
open PySem PySem.Spec PyProof.Rows L2 DE
def keyToD : Key → D
  | .inl i => .int i
  | .inr x => .str x
def itemD (p : Key × D) : D := .tup [keyToD p.1, p.2]
theorem keyToD_rep {K : PySem.W.Frag} {O : Ow} {H : Hp} (k : Key) : Rep K O H (keyToD k) (kV k) := by cases k <;> exact rfl
theorem repK_get {K : PySem.W.Frag} {O : Ow} {H : Hp} : ∀ {kd : List (Key × D)} {vs : List (Key × V)} {i : Nat} {p : Key × D}, RepK K O H kd vs → kd[i]? = some p → ∃ v, vs[i]? = some (p.1, v) ∧ Rep K O H p.2 v
  | [], _, _, _, _, e => by simp at e
  | (k, d) :: kd, _, 0, p, h, e => by
    obtain ⟨v, r, rfl, h1, h2⟩ := h
    simp at e
    subst e
    exact ⟨v, rfl, h1⟩
  | (k, d) :: kd, _, i + 1, p, h, e => by
    obtain ⟨v, r, rfl, h1, h2⟩ := h
    exact repK_get (i := i) h2 (by simpa using e)
theorem walks_items {K : PySem.W.Frag} {O : Ow} {H : Hp} {kd : List (Key × D)} {vs : List (Key × V)} {d : Addr} {od : Obj} (nd : O.no d) (hd : H d = some (.frz od (.dK vs))) (h2 : RepK K O H kd vs) {S0 : Sto} (w0 : WF K O H S0) : Walks K O H (kd.map itemD) (Iti d od vs) := by
  intro O' H' S ρ σ e st i
  have hd' := e.keep d _ nd.1 hd
  have r := h2.mono (e.w w0)
  refine ⟨fun x hx => ?_, fun hi => ⟨hd', by rw [hi, List.length_map, repK_len r]; exact Nat.le_refl _⟩⟩
  rw [List.getElem?_map] at hx
  obtain ⟨p, hp, rfl⟩ := Option.map_eq_some_iff.mp hx
  obtain ⟨v, hv, rv⟩ := repK_get r hp
  refine ⟨⟨hd', (List.getElem?_eq_some_iff.mp hv).1⟩, fun y H2 z => ?_⟩
  obtain ⟨T, k, v2, hk, rfl, hT, rfl⟩ := z
  rw [hv] at hk
  cases hk
  obtain ⟨e1, st1⟩ := st.new (o := .tup [kV p.1, v]) hT
  exact ⟨e1, fun ρ' σ' S' st' => (st'.new hT).2, T, _, rfl, .inl upd_same, _, _, rfl, keyToD_rep _, v, [], rfl, rv.mono (e1.w st.wf), rfl⟩
theorem loopC_ne {own : List Nat} {g : MG} {t : MT} {e : ME} {ρ : DE.Env} {x : Exc} {S' : Sto} : ∀ (ds : List D) (S : Sto), loopC own g t e ρ ds S ≠ .exc x S'
  | [], S => fun z => by cases z
  | d :: ds, S => fun z => by
    unfold loopC at z
    split at z
    · cases z
    · split at z
      · split at z
        · rename_i S2 _
          cases q : loopC own g t e ρ ds S2 with
          | ok vs S3 => rw [q] at z; cases z
          | exc y S3 => exact loopC_ne ds S2 q
          | bad => rw [q] at z; cases z
        · cases z
      · exact loopC_ne ds _ z
      · cases z
section
variable {K : PySem.W.Frag} {W : WX} {O : Ow} {H : Hp} {ρ : DE.Env} {σ : L2.St} {Q : VK}
theorem after_lock {r : RE D} {d : Addr} {od : Obj} {vs : List (Key × V)} (nx : ∀ x S, r ≠ .exc x S) (nd : O.no d) (hd : H d = some (.dK vs)) (h : After K W (Rep K) ρ σ O H Q r) : After K W (Rep K) ρ σ O (upd H d (.frz od (.dK vs))) (fun v H' => H' d = some (.frz od (.dK vs)) ∧ Q v (upd H' d (.dK vs))) r := by
  cases r with
  | exc x S => exact absurd rfl (nx x S)
  | bad => exact h
  | ok d1 S1 =>
    intro O' H' v e st rv
    have atd : H' d = some (.frz od (.dK vs)) := e.keep d _ nd.1 upd_same
    have sm := free_same atd
    have back : ∀ a, upd H d (.frz od (.dK vs)) a = none → H a = none := fun a z => by
      by_cases y : a = d
      · rw [y, upd_same] at z; cases z
      · rw [upd_ne y] at z; exact z
    have e2 : Ext O H O' (upd H' d (.dK vs)) := by
      refine ⟨?_, ?_, fun a o na ho => ?_, fun a xs ho => ?_, fun a ho => ?_⟩
      · obtain ⟨m, q, hm⟩ := e.pre
        exact ⟨m, q, fun a ha => back a (hm a ha)⟩
      · obtain ⟨m, q, hm⟩ := e.preu
        exact ⟨m, q, fun a ha => back a (hm a ha)⟩
      · by_cases y : a = d
        · subst y
          rw [hd] at ho
          cases ho
          exact upd_same
        · rw [upd_ne y]
          exact e.keep a o na (by rw [upd_ne y]; exact ho)
      · have y : a ≠ d := fun y => by rw [y, hd] at ho; cases ho
        rw [upd_ne y]
        exact e.tups a xs (by rw [upd_ne y]; exact ho)
      · by_cases y : a = d
        · rw [y, upd_same]; exact fun z => nomatch z
        · rw [upd_ne y]
          exact e.there a (by rw [upd_ne y]; exact ho)
    exact ⟨atd, h O' _ v e2 (stt_same st sm (e.notin nd upd_same) fun a y => upd_ne y) (rep_same sm rv)⟩
end
def dLI (i : Nat) (f : Str) (cs : List Str) (own : List Nat) (g : MG) (t : MT) (e : ME) : ME := fun ρ S => match ρ[i]? with
  | some (some ob) => (match objAt S ob with
    | some (c, fs) => if c ∈ cs then (match fs.lookup f with
      | some (.dK kd) => if kd.length ≤ cap then (loopC own g t e ρ (kd.map itemD) S).bind fun vs S2 => .ok (.lst vs) S2 else .bad
      | _ => .bad) else .bad
    | none => .bad)
  | _ => .bad
theorem pe_or {X : Cx} {e : Expr} {t t' : TE} (h : PE X e t) (h' : PE X e t') : PE X e fun σ H Q => t σ H Q ∨ t' σ H Q := ⟨fun pins s σ H Q I z => z.elim (fun z => h.run pins s σ H Q I z) fun z => h'.run pins s σ H Q I z⟩
section
variable {X : Cx} {W : WX} {fe : ME}
theorem items_go {own : List (Str × Nat)} {is : List Nat} {g1 : MG} {ft : MT} {i : Nat} {f : Str} {σ : L2.St} {H : Hp} {Q : VK} {O : Ow} {ρ : DE.Env} {S : Sto} {a C dx d : Addr} {ws : List (Str × V)} {od : Obj} {kd : List (Key × D)} {vs : List (Key × V)} (hv : ∀ i ∈ is, i ∈ own.map (·.2)) (st : Stt X.K O H ρ σ S)
    (hi : σ[i]? = some (some (.ref a))) (ha : H a = some (.ins C dx ws)) (cl : Cls X.K C) (na : NoAttr X.K C f) (hf : ws.lookup f = some (.ref d)) (nd : O.no d) (hd : H d = some (.frz od (.dK vs))) (rk : RepK X.K O H kd vs) (hl : kd.length ≤ cap)
    (h : After X.K W (Rep X.K) ρ σ O H Q ((loopC (own.map (·.2)) g1 ft fe ρ (kd.map itemD) S).bind fun vs S3 => .ok (.lst vs) S3)) :
    tLc (iItems (tFld X.K (tVar i) f)) (tG X.K is g1) (tT X.K W0 ft) (tE X.K W0 fe) (own.map (·.2)) σ H Q :=
  ⟨.ref a, hi, a, C, dx, ws, .ref d, rfl, ha, cl, na, hf, d, od, vs, rfl, hd, lc_body hv st (walks_items nd hd rk st.wf) (by rw [List.length_map]; exact hl) h⟩
theorem de_lci {elt : Expr} {elts : List Expr} {kk : Nat} {ifs : List Expr} {scope : Scope} {x f : Str} {p1 p2 p3 p4 tpos pos : Pos} {own : List (Str × Nat)} {vs : List Nat} {is : List Nat} {g1 : MG} {ft : MT} {i : Nat} {cs : List Str} (hc : X.calm = true) (hN : X.N.Nodup) (hx : X.N[i]? = some x) (hvis : Vis X.env.scope x)
    (hcs : ∀ c ∈ cs, Cls X.K (He.ga X.K c) ∧ NoAttr X.K (He.ga X.K c) f) (ok : BlkOk X.N X.env.scope scope own)
    (hg : ∀ (s : Shared) (H : Hp) (C : Addr) (cl : List (Str × Addr)) (fp : List Addr), DG (X.blk s H scope (compEnvC scope cl C X.env) fp) (.Tuple elts kk tpos) is g1) (ht : ∀ (s : Shared) (H : Hp) (C : Addr) (cl : List (Str × Addr)) (fp : List Addr), DTs (X.blk s H scope (compEnvC scope cl C X.env) fp) W0 ifs ft)
    (he : ∀ (s : Shared) (H : Hp) (C : Addr) (cl : List (Str × Addr)) (fp : List Addr), DE (X.blk s H scope (compEnvC scope cl C X.env) fp) W0 elt fe) (hv : ∀ i ∈ is, i ∈ vs) (hvs : vs = own.map (·.2) := by rfl)
    (hb : attributeBase (.Name x p1) f X.env (eval (.Name x p1) X.env) = eval (.Name x p1) X.env := by rfl) (hb2 : attributeBase (.Attribute (.Name x p1) f p2) "items" X.env (eval (.Attribute (.Name x p1) f p2) X.env) = eval (.Attribute (.Name x p1) f p2) X.env := by rfl) (hline : (p3.endLine == p4.line) = true := by rfl)
    (hs : ∀ z, foldedSetIterable (.Call (.Attribute (.Attribute (.Name x p1) f p2) "items" p3) [] [] p4) X.env z = pure z := by intro _; rfl) (hd : (x == ("__debug__" : Str)) = false := by decide) (hcd : (x == ("__classdict__" : Str)) = false := by decide) :
    DE X W (.ListComp elt [⟨.Tuple elts kk tpos, .Call (.Attribute (.Attribute (.Name x p1) f p2) "items" p3) [] [] p4, ifs, 0⟩] scope pos) (dLI i f cs vs g1 ft fe) := by
  subst hvs
  have p0 : PE X (.ListComp elt [⟨.Tuple elts kk tpos, .Call (.Attribute (.Attribute (.Name x p1) f p2) "items" p3) [] [] p4, ifs, 0⟩] scope pos) (tLc (iItems (tFld X.K (tVar i) f)) (tG X.K is g1) (tT X.K W0 ft) (tE X.K W0 fe) (own.map (·.2))) :=
    pe_lc hc hN (pi_items (pe_fld (pe_var hx hvis hd hcd) hb) hb2 hline) ok (fun s H C cl fp => (hg s H C cl fp).pg) (fun s H C cl fp => (ht s H C cl fp).pts) (fun s H C cl fp => (he s H C cl fp).pe) hs
  refine ⟨PE.imp (pe_or p0 (pe_lock p0)) fun σ H Q ⟨O, ρ, S, st, h⟩ => ?_⟩
  unfold dLI at h
  cases q1 : ρ[i]? with
  | none => simp only [q1] at h; exact h.elim
  | some o1 =>
    cases o1 with
    | none => simp only [q1] at h; exact h.elim
    | some ob =>
      simp only [q1] at h
      obtain ⟨v, hi, rv⟩ := st.env.get q1
      cases q2 : objAt S ob with
      | none => simp only [q2] at h; exact h.elim
      | some z =>
        obtain ⟨c, fs⟩ := z
        simp only [q2] at h
        obtain ⟨a, dx, ws, rfl, ha, rf⟩ := objAt_rep st q2 rv
        obtain ⟨hm, h⟩ := After.ite h
        cases q3 : fs.lookup f with
        | none => simp only [q3] at h; exact h.elim
        | some d3 =>
          simp only [q3] at h
          cases d3 <;> try exact h.elim
          rename_i kd
          obtain ⟨hl, h⟩ := After.ite h
          obtain ⟨u, hu, ru⟩ := repF_lookup rf q3
          obtain ⟨d, vs, rfl, nd, hd0, rk⟩ := ru
          obtain ⟨cl, na⟩ := hcs c hm
          rcases hd0 with hd0 | ⟨od, hd0⟩
          · refine .inr ⟨d, .dK vs, hd0, True.intro, fun od => ?_⟩
            have sm := lock_same (od := od) hd0
            have st2 := stt_same st sm nd fun a y => upd_ne y
            have ha2 := sm.at_ _ _ ha (fun _ z => nomatch z) fun _ _ z => nomatch z
            refine items_go hv st2 hi ha2 cl na hu nd upd_same (repK_same sm rk) hl (after_lock (fun y S' z => ?_) nd hd0 h)
            cases q : loopC (own.map (·.2)) g1 ft fe ρ (kd.map itemD) S with
            | ok ys S3 => rw [q] at z; cases z
            | exc y2 S3 => exact loopC_ne _ _ q
            | bad => rw [q] at z; cases z
          · exact .inl (items_go hv st hi ha cl na hu nd hd0 rk hl h)
end
end LM

set_option maxHeartbeats 4000000
/-! set comprehensions, whatever is added (emp: how a new set is told; Ad: what an add asks and leaves) -/
namespace LM
open PySem PySem.Spec PyProof.Rows L2 DE PpSet
abbrev freshSet (w : World) : Obj := { cls := .type "set", dict := none, data := .set #[] 0 (.fresh 0 0 (!w.params.followText "set-order")) }
section
variable {X : Cx}
/-- {elt for tg in iter if ..} -/
def tSG (emp : Addr → HO) (Ad : Addr → V → Hp → (Hp → Prop) → Prop) (wi : TI) (g : TG) (tt : TT) (te : TE) (vs : List Nat) : TE := fun σ H Q => wi σ H fun J H1 => ∀ D, H1 D = none → ∃ Wi : Nat → Nat → Hp → Prop, (∃ m, Wi 0 m (upd H1 D (emp D))) ∧ ∀ i m H, Wi i m H →
  (J.stop i H ∧ Q (.ref D) H) ∨ (J.go i H ∧ ∃ Nx : Hp → Prop, (∀ H', Nx H' → ∃ m', m' < m ∧ Wi (i + 1) m' H') ∧ ∀ x H', J.yld i H x H' → g x (wipe σ vs) H' fun σ2 H2 => wipe σ2 vs = wipe σ vs ∧ tt σ2 H2 fun b H3 =>
    if b = true then te σ2 H3 fun y H4 => Ad D y H4 Nx else Nx H3)
theorem pe_sg {emp : Addr → HO} {Ad : Addr → V → Hp → (Hp → Prop) → Prop} {elt tg iter : Expr} {ifs : List Expr} {scope : Scope} {own : List (PySem.Str × Nat)} {pos : Pos} {wi : TI} {g : TG} {tt : TT} {te : TE}
    (hnew : ∀ (H : Hp) (h : Heap) (a : Addr), h.get? a = some (freshSet X.w) → ObjOk X.prog X.w H h a (emp a))
    (hadd : ∀ (Y : Cx) (pins : List (Addr × Obj)) (σ : L2.St) (H : Hp) (s : Shared) (D : Addr) (y : V) (u : Value) (Nx : Hp → Prop) (Z : Value → Shared → Prop), Y.prog = X.prog → Y.w = X.w → Inv Y pins σ H s → RelV y u → Ad D y H Nx →
      wpAny (model Y.prog Y.w) Y.A (call (.builtin "set.add") [.ref D, u]) (fun _ s' => ∃ H', Inv Y pins σ H' s' ∧ Nx H') Z s)
    (hc : X.calm = true) (hN : X.N.Nodup) (hi : PI X tg iter wi) (ok : BlkOk X.N X.env.scope scope own)
    (hg : ∀ (s : Shared) (H : Hp) (C : Addr) (cl : List (PySem.Str × Addr)) (fp : List Addr), PG (X.blk s H scope (compEnvC scope cl C X.env) fp) tg g) (ht : ∀ (s : Shared) (H : Hp) (C : Addr) (cl : List (PySem.Str × Addr)) (fp : List Addr), PTs (X.blk s H scope (compEnvC scope cl C X.env) fp) ifs tt)
    (he : ∀ (s : Shared) (H : Hp) (C : Addr) (cl : List (PySem.Str × Addr)) (fp : List Addr), PE (X.blk s H scope (compEnvC scope cl C X.env) fp) elt te) (hs : ∀ x, foldedSetIterable iter X.env x = pure x := by intro _; rfl) :
    PE X (.SetComp elt [⟨tg, iter, ifs, 0⟩] scope pos) (tSG emp Ad wi g tt te (own.map (·.2))) := by
  refine ⟨fun pins s σ H Q I h => ?_⟩
  have cells : ∀ y ∈ scope.names, y.2 = .free → ∃ c, X.env.cells.lookup y.1 = some c := fun y hy e => I.ok.has _ ((ok.free y hy e).imp id id)
  rw [eval_SetComp]
  refine wpAny_comprehension_free (use := none) rfl hs (closure_ok cells) ok.kind (fun y hy e => by rw [ok.uniq y hy, e]) (thn (hi.run pins s σ H _ I h) fun xv s1 hx => thn hx fun itv s2 z => ?_)
  obtain ⟨it, fp, tn, J, H2, rfl, I2, T, at0, fresh2, q⟩ := z
  refine newSet_ok (newEnv_comp ?_)
  generalize hD : s2.heap.objs.size = D
  have nD : H2 D = none := I2.hok.fresh (Nat.le_of_eq hD)
  obtain ⟨Wi, ⟨m0, w0⟩, turn⟩ := q D nD
  generalize es3 : ({ s2 with heap := s2.heap.push (freshSet X.w) } : Shared) = s3
  have heap3 : s3.heap = s2.heap.push (freshSet X.w) := by rw [← es3]
  have I3 : Inv X pins σ (upd H2 D (emp D)) s3 := by
    rw [← es3]
    exact I2.laid (t' := s2.toks) (fun b o e => Heap.get?_push_of_some _ e) (Nat.le_of_eq hD) (hnew _ _ _ (by rw [← hD]; exact Heap.get?_push_size _ rfl))
  have small : ∀ b ∈ fp, b < s2.heap.objs.size := fun b hb => by
    obtain ⟨o, e, _⟩ := T.obj _ _ at0 b hb
    exact Heap.lt_size e
  have fresh3 : ∀ b ∈ fp, FpOk X pins (upd H2 D (emp D)) b ∧ b < s3.heap.objs.size := fun b hb => by
    have lt := small b hb
    obtain ⟨a1, a2⟩ := fresh2 b hb
    exact ⟨⟨by rw [upd_ne (by rw [← hD]; exact Nat.ne_of_lt lt)]; exact a1, a2⟩, by rw [heap3, Heap.size_push]; exact Nat.lt_succ_of_lt lt⟩
  have at3 : tn 0 s3.heap := T.keep _ _ _ at0 fun b _ o e => by rw [heap3]; exact Heap.get?_push_of_some _ e
  have I4 := block_start I3 ok hN fresh3
  have pg := hg s3 (upd H2 D (emp D)) s3.heap.objs.size (cellsFrom (s3.heap.objs.size + 1) scope.names (cloFrom X.env.cells scope.names [])) fp
  have pt := ht s3 (upd H2 D (emp D)) s3.heap.objs.size (cellsFrom (s3.heap.objs.size + 1) scope.names (cloFrom X.env.cells scope.names [])) fp
  have pe := he s3 (upd H2 D (emp D)) s3.heap.objs.size (cellsFrom (s3.heap.objs.size + 1) scope.names (cloFrom X.env.cells scope.names [])) fp
  show codeAny _ _ (.compStart (.SetComp elt [⟨tg, iter, ifs, 0⟩] scope pos) 0 (.ref it) (.ref D) (compEnvC scope (cellsFrom (s3.heap.objs.size + 1) scope.names (cloFrom X.env.cells scope.names [])) s3.heap.objs.size X.env)) _ { s3 with heap := pushCells (s3.heap.push { cls := .type "dict", data := .dict #[] }) scope.names }
  generalize ece : compEnvC scope (cellsFrom (s3.heap.objs.size + 1) scope.names (cloFrom X.env.cells scope.names [])) s3.heap.objs.size X.env = ce at I4 pg pt pe ⊢
  have locals_ : ce.locals = s3.heap.objs.size := by subst ece; rfl
  have no3 : ∀ b ∈ fp, (upd H2 D (emp D)) b = none := fun b hb => (fresh3 b hb).1.1
  generalize eH3 : upd H2 D (emp D) = H3 at I3 I4 pg pt pe w0 no3 fresh3
  generalize es4 : ({ s3 with heap := pushCells (s3.heap.push { cls := .type "dict", data := .dict #[] }) scope.names } : Shared) = s4 at I4 ⊢
  have at4 : tn 0 s4.heap := T.keep _ _ _ at3 fun b _ o e => by rw [← es4]; exact pushCells_keeps _ _ _ _ (Heap.get?_push_of_some _ e)
  have foot : ∀ {σ' : L2.St} {H' : Hp} {s' : Shared}, Inv (X.blk s3 H3 scope ce fp) [] σ' H' s' → (∀ b ∈ fp, H' b = none) → ∀ b ∈ fp, FpOk (X.blk s3 H3 scope ce fp) [] H' b := fun J' no b hb =>
    ⟨no b hb, (J'.ok.exf b hb).1, J'.ok.exfs b hb, .inl hb, fun x c e => (J'.ok.exf b hb).2 x c e, fun p hp => absurd (show p ∈ ([] : List (Addr × Obj)) ++ [] from hp) (by simp)⟩
  have loop : codeAny (model X.prog X.w) X.A (.compLoop (.SetComp elt [⟨tg, iter, ifs, 0⟩] scope pos) 0 (.ref it) (.ref D) ce) (compPost (model X.prog X.w) X.A X.xe none (EP X pins σ Q) (.ref D) s3.heap.objs.size) s4 := by
    refine compLoopS_any (fun n s' => ∃ i H', Inv (X.blk s3 H3 scope ce fp) [] (wipe σ (own.map (·.2))) H' s' ∧ tn i s'.heap ∧ (∀ b ∈ fp, H' b = none) ∧ Wi i n H') ?_ m0 ⟨0, H3, I4, at4, no3, w0⟩
    rintro n s5 ⟨i, H5, I5, at5, no5, w5⟩
    rcases turn i n H5 w5 with ⟨stop, fin⟩ | ⟨go, Nx, less, step⟩
    · refine thnF (T.done (X.blk s3 H3 scope ce fp) rfl rfl rfl hc i [] s5 _ H5 (fun _ _ => False) I5 (foot I5 no5) at5 stop) fun r s6 ⟨er, I6⟩ => ?_
      subst er
      have I7 : Inv X pins σ H5 s6 := I3.call' (ch := fp) I6.os I6.base I6.hok I6.bare fun b hb => ⟨(fresh3 b hb).1.2.2.2.1, (fresh3 b hb).1.2.1, (fresh3 b hb).1.2.2.2.2.1, (fresh3 b hb).1.2.2.2.2.2⟩
      have nC : H5 s3.heap.objs.size = none := by
        rw [← locals_]
        exact I6.free
      obtain ⟨m, ns, _⟩ := I6.loc
      have ns : s6.heap.Ns ce.locals m := ns
      rw [locals_] at ns
      obtain ⟨f0, f1, f2, f3, f4, f5⟩ := I3.fpOk (Nat.le_refl _) nC
      exact ⟨m, ns, fun h'' sb => ⟨.ref D, H5, I7.turned (t' := s6.toks) (fun b o hb e => (sb.2 b hb).trans e) f0 f1 f3 f4 f5, rfl, fin⟩⟩
    · refine thnF (T.item (X.blk s3 H3 scope ce fp) rfl rfl rfl hc i [] s5 _ H5 (fun _ _ => False) I5 (foot I5 no5) at5 go) fun r s6 ⟨u, er, z6⟩ => ?_
      subst er
      refine thnF z6 fun _ s7 ⟨x, H7, I7, r7, y7, at7, no7⟩ => ?_
      refine thnF (pg.run _ s7 _ H7 x u _ (I7.pinned (foot I7 no7) (T.obj _ _ at7)) r7 (step x H7 y7)) fun _ s8 ⟨σ8, H8, I8, w8, q8⟩ => ?_
      refine thnF (pt.run _ s8 σ8 H8 _ I8 q8) fun b s9 ⟨H9, I9, q9⟩ => ?_
      have again_ : ∀ {s' : Shared} {H' : Hp}, Inv (X.blk s3 H3 scope ce fp) ([] ++ pinsAt fp s7.heap) σ8 H' s' → Nx H' → ∃ m, m < n ∧ ∃ i H', Inv (X.blk s3 H3 scope ce fp) [] (wipe σ (own.map (·.2))) H' s' ∧ tn i s'.heap ∧ (∀ b ∈ fp, H' b = none) ∧ Wi i m H' := fun {s' H'} J' nx => by
        obtain ⟨m', lt, w'⟩ := less H' nx
        have pinned : ∀ b ∈ fp, ∀ o, s7.heap.get? b = some o → s'.heap.get? b = some o ∧ H' b = none := fun b hb o e =>
          let z := J'.pin (b, o) (List.mem_append_right _ (List.mem_append_right _ (mem_pinsAt hb e)))
          ⟨z.1, z.2.1⟩
        refine ⟨m', lt, i + 1, H', (J'.unpinned (pins := [])).weak (by rw [← w8, wipe_length]) (fun j v e => ?_), T.keep _ _ _ at7 fun b hb o e => (pinned b hb o e).1, fun b hb => ?_, w'⟩
        · rw [← w8] at e
          exact (wipe_some e).1
        · obtain ⟨o, e, _⟩ := T.obj _ _ at7 b hb
          exact (pinned b hb o e).2
      cases b with
      | false =>
        simp only [Bool.false_eq_true, if_false] at q9 ⊢
        exact again_ I9 q9
      | true =>
        simp only [if_true] at q9 ⊢
        refine thnF (pe.run _ s9 σ8 H9 _ I9 q9) fun z s10 ⟨yv, H10, I10, r10, ad⟩ => ?_
        exact thn (hadd (X.blk s3 H3 scope ce fp) _ σ8 H10 s10 D yv z Nx _ rfl rfl I10 r10 ad) fun _ s11 ⟨H11, I11, nx⟩ => again_ I11 nx
  exact codeAny_compStart_set loop (T.self X.A 0 _ _ _ at4 loop)
end
end LM

set_option maxHeartbeats 4000000
/-! len({elt for tg in iter if ..}), the elements texts or ints -/
namespace LM
open PySem PySem.Spec PyProof.Rows L2 DE
def hasK (acc : List Key) (k : Key) : Bool := acc.any fun z => decide (z = k)
def addK (acc : List Key) (k : Key) : List Key := if hasK acc k = true then acc else acc ++ [k]
theorem addK_len (acc : List Key) (k : Key) : (addK acc k).length ≤ acc.length + 1 := by
  unfold addK
  split
  · omega
  · rw [List.length_append]; simp
def setAt (P : Program) (w : World) (D : Addr) (acc : List Key) : HO := SetK P w D (fun j => hasK acc j) acc.length
theorem setAt_add {P : Program} {w : World} {D : Addr} (acc : List Key) (k : Key) : SetK P w D (fun j => hasK acc j || decide (j = k)) (if hasK acc k = true then acc.length else acc.length + 1) = setAt P w D (addK acc k) := by
  unfold setAt addK
  by_cases h : hasK acc k = true
  · rw [if_pos h, if_pos h]
    congr 1
    funext j
    by_cases e : j = k
    · subst e; simp [h]
    · simp [e]
  · rw [if_neg h, if_neg h]
    congr 1
    · funext j
      unfold hasK
      rw [List.any_append]
      congr 1
      simp only [List.any_cons, List.any_nil, Bool.or_false]
      by_cases e : j = k
      · subst e; simp
      · have e2 : ¬ k = j := fun z => e z.symm
        simp [e, e2]
    · simp
theorem solid_set {P : Program} {w : World} {D : Addr} {acc : List Key} : Solid (setAt P w D acc) := by
  unfold setAt SetK
  exact ⟨(fun _ z => by cases z), (fun _ _ z => by cases z), (fun _ z => by cases z)⟩
def adK (P : Program) (w : World) : Addr → V → Hp → (Hp → Prop) → Prop := fun D y H Nx => ∃ (k : Key) (acc : List Key), y = kV k ∧ H D = some (setAt P w D acc) ∧ acc.length + 1 < scanBound ∧ Nx (upd H D (setAt P w D (addK acc k)))
def loopSC (own : List Nat) (g : MG) (t : MT) (e : ME) (ρ : DE.Env) : List D → List Key → Sto → RE D
  | [], acc, S => .ok (.int acc.length) S
  | d :: ds, acc, S => match g d (wipeD ρ own) with
    | none => .bad
    | some ρ1 => match t ρ1 S with
      | .ok true S1 => (match e ρ1 S1 with
        | .ok v S2 => (match keyD v with
          | some k => loopSC own g t e ρ ds (addK acc k) S2
          | none => .bad)
        | _ => .bad)
      | .ok false S1 => loopSC own g t e ρ ds acc S1
      | _ => .bad
def dSetLen (own : List Nat) (i : MA) (g : MG) (t : MT) (e : ME) : ME := fun ρ S => (i ρ S).bind fun ds S1 => if ds.length ≤ 4000 then loopSC own g t e ρ ds [] S1 else .bad
def rLenK (P : Program) (w : World) : List V → Hp → VK → Prop := fun xs H Q => ∃ a acc, xs = [V.ref a] ∧ H a = some (setAt P w a acc) ∧ Q (.int (acc.length : Nat)) H
section
variable {X : Cx} {W : WX} {f : ME}
theorem cr_lenK : CallR X (.builtin "len") (rLenK X.prog X.w) := by
  intro pins s σ H xs us Q I r h
  obtain ⟨a, acc, rfl, ha, q⟩ := h
  cases r with
  | cons ru rr =>
    cases rr
    cases ru
    have so := setK_get I ha
    obtain ⟨o, es, ep, t, ho, hex, hd, _, _, sm, fit, en⟩ := so
    have lt : (es.size : Int) < 2 ^ 63 := by
      have : es.size < 4096 := sm
      omega
    refine call_len_set ho hex hd fit lt ⟨.int _, H, I.tok _, ⟨s.toks + 1, by rw [en]⟩, q⟩
theorem set_new (H : Hp) (h : Heap) (a : Addr) (e : h.get? a = some (freshSet X.w)) : ObjOk X.prog X.w H h a (setAt X.prog X.w a []) := by
  have ef : (fun j : Key => hasK [] j) = fun _ => false := rfl
  have so : h.SetOf (mixKind X.prog X.w) a (fun _ => false) 0 := ⟨_, #[], 0, _, e, ⟨rfl, rfl, rfl⟩, rfl, (fun e he => by simp at he), (fun k => by simp), (by decide), (by rfl), rfl⟩
  unfold setAt
  rw [ef]
  exact setK_new so
theorem set_add (Y : Cx) (pins : List (Addr × Obj)) (σ : L2.St) (H : Hp) (s : Shared) (D : Addr) (y : V) (u : Value) (Nx : Hp → Prop) (Z : Value → Shared → Prop) (e1 : Y.prog = X.prog) (e2 : Y.w = X.w) (I : Inv Y pins σ H s) (ry : RelV y u) (ad : adK X.prog X.w D y H Nx) :
    wpAny (model Y.prog Y.w) Y.A (call (.builtin "set.add") [.ref D, u]) (fun _ s' => ∃ H', Inv Y pins σ H' s' ∧ Nx H') Z s := by
  obtain ⟨k, acc, rfl, hD, room, nx⟩ := ad
  rw [← e1, ← e2] at hD nx
  refine call_set_add (kV_is ry) (key_scan ry) (setK_get I hD) room fun h' sb new => ?_
  have there : ∃ o, h'.get? D = some o := by
    obtain ⟨o, _, _, _, z, _⟩ := new
    exact ⟨o, z⟩
  rw [← setAt_add] at nx
  exact ⟨_, I.write (e := D) (t' := s.toks + 1) (by rw [hD]; exact True.intro) (.inl rfl) (fun b o hb z => (sb.2 b hb).trans z) there (setK_new new), nx⟩
theorem sl_imp {own : List (Str × Nat)} {fi : MA} {is : List Nat} {g1 : MG} {ft : MT} (hv : ∀ i ∈ is, i ∈ own.map (·.2)) : ∀ σ H Q, tE X.K W (dSetLen (own.map (·.2)) fi g1 ft f) σ H Q →
    tSG (fun D => setAt X.prog X.w D []) (adK X.prog X.w) (tI X.K W fi) (tG X.K is g1) (tT X.K W0 ft) (tE X.K W0 f) (own.map (·.2)) σ H fun x H1 => rLenK X.prog X.w [x] H1 Q :=
  fun σ H Q ⟨O, ρ, S, st, h⟩ => ⟨O, ρ, S, st, After.seq h fun ds S1 O1 H1 J e1 st1 w1 h1 => by
    intro p hp
    have hl : ds.length ≤ 4000 := by
      by_cases hl : ds.length ≤ 4000
      · exact hl
      · simp only [hl, if_false] at h1; exact h1.elim
    simp only [hl, if_true] at h1
    obtain ⟨eh, sth⟩ := hideG (o := setAt X.prog X.w p []) st1 solid_set hp
    refine ⟨fun i m H2 => m = ds.length - i ∧ i ≤ ds.length ∧ ∃ O2 S2 acc, p ∈ O2.u ∧ Ext O1 H1 O2 H2 ∧ Stt X.K O2 H2 ρ σ S2 ∧ H2 p = some (setAt X.prog X.w p acc) ∧ acc.length ≤ i ∧
        After X.K W (Rep X.K) ρ σ O1 H1 Q (loopSC (own.map (·.2)) g1 ft f ρ (ds.drop i) acc S2), ⟨_, rfl, Nat.zero_le _, _, S1, [], List.mem_cons_self, eh, sth, upd_same, Nat.le_refl _, h1⟩, ?_⟩
    rintro i m H2 ⟨rfl, hi, O2, S2, acc, hu, e2, st2, hp2, ha, h2⟩
    have ww := w1 O2 H2 S2 ρ σ e2 st2 i
    by_cases hlt : i < ds.length
    · have hd : ds[i]? = some ds[i] := by simp [hlt]
      obtain ⟨go, yl⟩ := ww.1 _ hd
      rw [drop_of hd] at h2
      refine .inr ⟨go, fun H' => ∃ O3 S3 acc3, p ∈ O3.u ∧ Ext O1 H1 O3 H' ∧ Stt X.K O3 H' ρ σ S3 ∧ H' p = some (setAt X.prog X.w p acc3) ∧ acc3.length ≤ i + 1 ∧
        After X.K W (Rep X.K) ρ σ O1 H1 Q (loopSC (own.map (·.2)) g1 ft f ρ (ds.drop (i + 1)) acc3 S3), fun H' hn => ⟨_, by omega, rfl, hlt, hn⟩, fun x H' y => ?_⟩
      obtain ⟨e3, st3, r3⟩ := yl x H' y
      have st2' := st3 _ _ _ st2
      have hp' : ∀ {O4 H4}, Ext O2 H' O4 H4 → H4 p = some (setAt X.prog X.w p acc) := fun e4 => (e3.trans e4).keep p _ (st2.wf.hid p hu).1 hp2
      have hu' : ∀ {O4 H4}, Ext O2 H' O4 H4 → p ∈ O4.u := fun e4 => by
        obtain ⟨m, q, _⟩ := e4.preu
        rw [q]; exact List.mem_append_right _ hu
      cases q : g1 ds[i] (wipeD ρ (own.map (·.2))) with
      | none => simp only [loopSC, q] at h2; exact h2.elim
      | some ρ1 =>
        refine ⟨O2, wipeD ρ (own.map (·.2)), S2, _, ρ1, ⟨st2'.wf, wipe_env st2'.env _⟩, r3, q, fun σ4 st4 only => ⟨(only _ hv).trans (wipe_wipe _ _), O2, ρ1, S2, st4, ?_⟩⟩
        cases qt : ft ρ1 S2 with
        | bad => simp only [loopSC, q, qt] at h2; exact h2.elim
        | exc _ _ => simp only [loopSC, q, qt] at h2; exact h2.elim
        | ok bt S5 =>
          intro O5 H5 bb e5 st5 rb
          subst rb
          cases bt with
          | false =>
            refine iteF ⟨O5, S5, acc, hu' e5, e2.trans (e3.trans e5), ⟨st5.wf, st2'.env.mono (e5.w st2'.wf)⟩, hp' e5, by omega, ?_⟩
            simp only [loopSC, q, qt] at h2
            exact h2
          | true =>
            refine iteT ⟨O5, ρ1, S5, st5, ?_⟩
            cases qf : f ρ1 S5 with
            | bad => simp only [loopSC, q, qt, qf] at h2; exact h2.elim
            | exc _ _ => simp only [loopSC, q, qt, qf] at h2; exact h2.elim
            | ok v6 S6 =>
              intro O6 H6 y6 e6 st6 r6
              cases kk : keyD v6 with
              | none => simp only [loopSC, q, qt, qf, kk] at h2; exact h2.elim
              | some k =>
                have e56 := e5.trans e6
                have st6' : Stt X.K O6 H6 ρ σ S6 := ⟨st6.wf, st2'.env.mono (e56.w st2'.wf)⟩
                refine ⟨k, acc, keyD_rep kk r6, hp' e56, by show acc.length + 1 < 4096; omega, O6, S6, addK acc k, hu' e56, ?_, hidG st6' solid_set (hu' e56), upd_same, Nat.le_trans (addK_len acc k) (by omega), ?_⟩
                · have e8 := e2.trans (e3.trans e56)
                  refine ⟨e8.pre, e8.preu, fun a o na ho => ?_, fun a u ho => ?_, fun a ho => upd_there a (e8.there a ho)⟩
                  · rw [upd_ne (ne_of_none ho hp)]; exact e8.keep a o na ho
                  · rw [upd_ne (ne_of_none ho hp)]; exact e8.tups a u ho
                · simp only [loopSC, q, qt, qf, kk] at h2
                  exact h2
    · have e : i = ds.length := by omega
      refine .inl ⟨ww.2 e, ?_⟩
      have hd : ds.drop i = [] := by rw [e]; simp
      rw [hd] at h2
      have h3 : After X.K W (Rep X.K) ρ σ O1 H1 Q (.ok (.int acc.length) S2) := h2
      have hsub : ∀ a ∈ O1.u, a ∈ O2.u := fun a ha => by
        obtain ⟨m, q, _⟩ := e2.preu
        rw [q]; exact List.mem_append_right _ ha
      exact ⟨p, acc, rfl, hp2, h3 ⟨O2.l, O1.u⟩ H2 _ ⟨e2.pre, ⟨[], rfl, fun _ h => by cases h⟩, e2.keep, e2.tups, e2.there⟩ (st2.bare hsub) rfl⟩⟩
theorem de_slen {elt tg iter : Expr} {ifs : List Expr} {scope : Scope} {p pos spos : Pos} {own : List (Str × Nat)} {vs : List Nat} {fi : MA} {is : List Nat} {g1 : MG} {ft : MT} (hgl : Gl X "len") (hm : X.mg "len" = none) (hc : X.calm = true) (hN : X.N.Nodup) (hi : DI X W tg iter fi) (ok : BlkOk X.N X.env.scope scope own)
    (hg : ∀ (s : Shared) (H : Hp) (C : Addr) (cl : List (Str × Addr)) (fp : List Addr), DG (X.blk s H scope (compEnvC scope cl C X.env) fp) tg is g1) (ht : ∀ (s : Shared) (H : Hp) (C : Addr) (cl : List (Str × Addr)) (fp : List Addr), DTs (X.blk s H scope (compEnvC scope cl C X.env) fp) W0 ifs ft)
    (he : ∀ (s : Shared) (H : Hp) (C : Addr) (cl : List (Str × Addr)) (fp : List Addr), DE (X.blk s H scope (compEnvC scope cl C X.env) fp) W0 elt f) (hv : ∀ i ∈ is, i ∈ vs) (hvs : vs = own.map (·.2) := by rfl) (hs : ∀ x, foldedSetIterable iter X.env x = pure x := by intro _; rfl)
    (hst : starEach [.SetComp elt [⟨tg, iter, ifs, 0⟩] scope spos] X.env = [(false, eval (.SetComp elt [⟨tg, iter, ifs, 0⟩] scope spos) X.env)] := by rfl) : DE X W (.Call (.Name "len" p) [.SetComp elt [⟨tg, iter, ifs, 0⟩] scope spos] [] pos) (dSetLen vs fi g1 ft f) := by
  subst hvs
  have sg := pe_sg (X := X) (emp := fun D => setAt X.prog X.w D []) (Ad := adK X.prog X.w) (pos := spos) (g := tG X.K is g1) (tt := tT X.K W0 ft) (te := tE X.K W0 f) set_new set_add hc hN hi.pi ok (fun s H C cl fp => (hg s H C cl fp).pg) (fun s H C cl fp => (ht s H C cl fp).pts) (fun s H C cl fp => (he s H C cl fp).pe) hs
  exact ⟨PE.imp (pe_callB cr_lenK hgl hm boot_len (pa_cons sg pa_nil hst) (he := hst)) fun σ H Q h => sl_imp hv σ H Q h⟩
end
end LM

set_option maxHeartbeats 4000000
/-! d[k] = v into a dict that is owned; a new owned dict -/
namespace LM
open PySem PySem.Spec PyProof.Rows L2 DE
def sSetKey (f fo fi : ME) : MS := fun ρ S => (f ρ S).stm ρ fun d S1 => (fo ρ S1).stm ρ fun o S2 => (fi ρ S2).stm ρ fun i S3 => match o, keyD i with
  | .own k, some key => (match S3[k]? with
    | some (.dK kd) => if kd.length < cap then .nx ρ (S3.set k (.dK (putKD kd key d))) else .bad
    | _ => .bad)
  | _, _ => .bad
section
variable {X : Cx} {W : WX} {f g h : ME} {e o i : Expr} {p2 pos : Pos}
theorem ds_setKey (hu : X.A.units + 1 < cLine) (he : DE X W e f) (ho : DE X W o g) (hi : DE X W i h) (hs : swapsWithSole [.Subscript o i p2] e pos.line X.env = pure false := by rfl) (hw : swappedStores [.Subscript o i p2] e X.env = pure none := by rfl)
    (h1 : (assignEach [.Subscript o i p2] X.env).map (·.2) = [assign (.Subscript o i p2) X.env] := by rfl)
    (harm : ∀ v, assign (.Subscript o i p2) X.env v = (do let ov ← holding [v] (eval o X.env); let iv ← holding [v, ov] (eval i X.env); standAt p2; holding [v, ov, iv] (setItem ov iv v); release [v, ov, iv] []) := by intro _; rfl) :
    DS X W (.Assign [.Subscript o i p2] e pos) (sSetKey f g h) :=
  ⟨PS.imp (ps_asg he.pe (pg_sub ho.pe hi.pe (set_dict hu) harm) hs hw h1) fun D' σ H ⟨O, ρ, S, st, h⟩ => ⟨O, ρ, S, st, AfterS.seqE h fun d S1 O1 H1 v e1 st1 r1 h1 => ⟨O1, ρ, S1, st1, AfterS.seqE h1 fun od S2 O2 H2 vo e2 st2 r2 h2 => ⟨O2, ρ, S2, st2, AfterS.seqE h2 fun idt S3 O3 H3 vi e3 st3 r3 h3 => by
    cases od <;> try exact h3.elim
    rename_i k
    try simp only at h3
    cases kk : keyD idt with
    | none => simp only [kk] at h3; exact h3.elim
    | some key =>
      simp only [kk] at h3
      obtain ⟨a, ha, rfl⟩ := r2
      cases q : S3[k]? with
      | none => simp only [q] at h3; exact h3.elim
      | some d3 =>
        simp only [q] at h3
        cases d3 <;> try exact h3.elim
        rename_i kd
        try simp only at h3
        by_cases hl : kd.length < cap
        · rw [if_pos hl] at h3
          have ha3 := e3.at ha
          obtain ⟨kv, hy, ry⟩ := st3.wf.cell k a _ ha3 q
          have r1' := r1.mono ((e2.trans e3).w st1.wf)
          obtain ⟨e5, st5⟩ := st3.mut (o := .dK (putK kv key v)) (d := .dK (putKD kd key d)) ha3 fun e5 => ⟨_, upd_same, RepK.mono (e5.w st3.wf) (repK_put r1' ry)⟩
          refine ⟨a, _, rfl, by rw [keyD_rep kk r3]; exact DPut.k hy (by rw [← repK_len ry]; exact cap_lt hl), ?_⟩
          exact h3 O3 _ σ e5 st5
        · rw [if_neg hl] at h3; exact h3.elim⟩⟩⟩⟩
end
end LM

set_option maxHeartbeats 4000000
/-! a new owned dict; == of two dicts of data -/
namespace LM
open PySem PySem.Spec PyProof.Rows L2 DE
def dDictO : ME := fun _ S => .ok (.own S.length) (S ++ [.dK []])
section
variable {X : Cx} {W : WX} {pos : Pos}
theorem de_dictO : DE X W (.Dict [] [] pos) dDictO := ⟨PE.imp pe_dnewK fun σ H Q ⟨O, ρ, S, st, h⟩ => fun p hp => by
  obtain ⟨e2, st2⟩ := st.newO (o := .dK []) (d := .dK []) hp fun e => ⟨[], upd_same, rfl⟩
  exact h _ _ _ e2 st2 ⟨p, by rw [st.wf.len]; exact DE.getElem?_snoc _ _, rfl⟩⟩
end
def hitsD (ld : List (Key × D)) : List (Key × D) → Option Bool
  | [] => some true
  | (k, d) :: r => match ld.find? (fun p => decide (p.1 = k)) with
    | none => some false
    | some p => (match eqD d p.2, hitsD ld r with
      | some e, some b => some (e && b)
      | _, _ => none)
theorem repK_find {K : PySem.W.Frag} {O : Ow} {H : Hp} {k : Key} : ∀ {kd : List (Key × D)} {kv : List (Key × V)}, RepK K O H kd kv →
    (kd.find? (fun p => decide (p.1 = k)) = none ∧ valV kv k = none) ∨ ∃ p v, kd.find? (fun p => decide (p.1 = k)) = some p ∧ valV kv k = some v ∧ Rep K O H p.2 v
  | [], _, r => by cases r; exact .inl ⟨rfl, rfl⟩
  | (j, d) :: kd, _, r => by
    obtain ⟨v, vr, rfl, r1, r2⟩ := r
    by_cases h : j = k
    · exact .inr ⟨(j, d), v, by simp [h], by simp [valV, h], r1⟩
    · rcases repK_find (k := k) r2 with ⟨h1, h2⟩ | ⟨p, u, h1, h2, h3⟩
      · exact .inl ⟨by simp [h, h1], by simpa [valV, h] using h2⟩
      · exact .inr ⟨p, u, by simp [h, h1], by simpa [valV, h] using h2, h3⟩
section
variable {X : Cx}
theorem hits_of {pins : List (Addr × Obj)} {σ : L2.St} {H : Hp} {s : Shared} {O : Ow} {A : Around} (I : Inv X pins σ H s) (hu : A.units + 64 < cLine) {ld : List (Key × D)} {lv : List (Key × V)} {lb : List (Key × Value)} (rl : RepK X.K O H ld lv) (vl : KV lv lb) :
    ∀ {kd : List (Key × D)} {kv : List (Key × V)} {kb : List (Key × Value)} {b : Bool}, hitsD ld kd = some b → RepK X.K O H kd kv → KV kv kb → PySem.W.KeqHits A s lb kb b
  | [], _, _, _, e, r, v => by
    cases e
    cases r
    cases v
    exact .nil
  | (k, d) :: kd, _, _, b, e, r, v => by
    obtain ⟨x, xr, rfl, r1, r2⟩ := r
    cases v with
    | @cons _ q _ qs h t =>
      obtain ⟨k', u⟩ := q
      obtain ⟨h1, h2⟩ := h
      have h1 : k = k' := h1
      subst h1
      unfold hitsD at e
      have rv := vl.val k
      rcases repK_find (k := k) rl with ⟨f1, f2⟩ | ⟨p, w, f1, f2, f3⟩
      · rw [f1] at e
        cases e
        rw [f2] at rv
        refine .miss ?_
        cases q : valueAt lb k with
        | none => rfl
        | some y => rw [q] at rv; exact rv.elim
      · rw [f1] at e
        rw [f2] at rv
        obtain ⟨y, hy, ry⟩ := rv.some_of
        simp only at e
        cases q1 : eqD d p.2 with
        | none => simp only [q1] at e; cases e
        | some e1 =>
          cases q2 : hitsD ld kd with
          | none => simp only [q1, q2] at e; cases e
          | some b2 =>
            simp only [q1, q2] at e
            cases e
            obtain ⟨p1, p2, t1, t2, s1, s2, rfl⟩ := eqD_some q1
            obtain ⟨as, ra⟩ := Dp.reads I p1 x u (dp_of t1 r1) h2
            obtain ⟨bs, rb⟩ := Dp.reads I p2 w y (dp_of t2 f3) ry
            exact .hit hy (SeqAt.eqAt_reads p1 p2 A s u y as bs ra rb (SeqAt.canLay_of_shaped s1) (SeqAt.canLay_of_shaped s2) (SeqAt.room_of_shaped s1 hu)) (hits_of I hu rl vl q2 r2 t)
def oDictC (neg : Bool) : D → D → Sto → RE D := fun d e S => match d, e with
  | .dK kd, .dK ld => (match hitsD ld kd with
    | some b => .ok (.bl (xor neg (kd.length == ld.length && b))) S
    | none => .bad)
  | _, _ => .bad
theorem op_dictC {neg : Bool} {op : CmpOp} (hu : X.A.units + 200 < cLine) (hop : ∀ (s : Shared) (a b : Addr) (ka kb : List (Key × Value)) (r : Bool) (Q : Value → Shared → Prop), (a == sysModules) = false → (b == sysModules) = false → s.heap.DictOf (mixKind X.prog X.w) a ka → s.heap.DictOf (mixKind X.prog X.w) b kb →
      PySem.W.KeqHits X.A.in1 s kb ka r → Q (.bool (xor neg (ka.length == kb.length && r))) s → wpAny (model X.prog X.w) X.A (compareOp op (.ref a) (.ref b)) Q X.xe s) : OpR X (compareOp op) (RD X.K (oDictC neg)) := by
  intro pins s σ H x y v u Q I rx ry ⟨W, ρ, σ', O, S, d, e, st, r1, r2, h⟩
  unfold oDictC at h
  split at h
  · rename_i kd ld
    cases q : hitsD ld kd with
    | none => simp only [q] at h; exact h.elim
    | some b =>
      simp only [q] at h
      obtain ⟨a1, kv, rfl, _, hd1, rk⟩ := r1
      obtain ⟨a2, lv, rfl, _, hd2, rl⟩ := r2
      cases rx
      cases ry
      obtain ⟨_, m1, kb, vk, dk⟩ := dk_rd I.hok hd1
      obtain ⟨_, m2, lb, vl, dl⟩ := dk_rd I.hok hd2
      have un : X.A.in1.units = X.A.units + 1 := rfl
      have hit := hits_of (A := X.A.in1) I (by rw [un]; omega) rl vl q rk vk
      have e1 : kd.length = kb.length := (repK_len rk).trans (Paired.length vk)
      have e2 : ld.length = lb.length := (repK_len rl).trans (Paired.length vl)
      exact hop s a1 a2 kb lb b _ m1 m2 dk dl hit ⟨.bl _, H, I, rfl, by rw [← e1, ← e2]; exact After.ok h st rfl⟩
  · exact h.elim
theorem op_dictEq (hu : X.A.units + 200 < cLine) : OpR X (compareOp .Eq) (RD X.K (oDictC false)) := op_dictC hu fun s a b ka kb r Q ha hb da db hits q => PySem.W.keq_eq (knd := mixKind X.prog X.w) ha hb da db (by omega) (fun _ => hits) (by simpa using q)
theorem op_dictNe (hu : X.A.units + 200 < cLine) : OpR X (compareOp .NotEq) (RD X.K (oDictC true)) := op_dictC hu fun s a b ka kb r Q ha hb da db hits q => PySem.W.keq_ne (knd := mixKind X.prog X.w) ha hb da db (by omega) (fun _ => hits) (by simpa using q)
end
end LM

set_option maxHeartbeats 4000000
/-! [elt for x in d], d an owned dict that the inside reads: inside, nothing is owned -/
namespace LM
open PySem PySem.Spec PyProof.Rows L2 DE
/-- told, and new -/
def NewR (K : PySem.W.Frag) (H1 : Hp) : Ow → Hp → D → V → Prop := fun O' H' d v => Rep K O' H' d v ∧ ∃ p, v = .ref p ∧ H1 p = none
section
variable {X : Cx} {W : WX} {f : ME}
theorem lc_bodyN {own : List (Str × Nat)} {is : List Nat} {g1 : MG} {ft : MT} (hv : ∀ i ∈ is, i ∈ own.map (·.2)) {σ : L2.St} {Q : VK} {O1 : Ow} {H1 : Hp} {ρ : DE.Env} {S1 : Sto} {ds : List D} {J : It} (st1 : Stt X.K O1 H1 ρ σ S1) (w1 : Walks X.K O1 H1 ds J) (hl : ds.length ≤ cap)
    (h1 : After X.K W (NewR X.K H1) ρ σ O1 H1 Q ((loopC (own.map (·.2)) g1 ft f ρ ds S1).bind fun vs S3 => .ok (.lst vs) S3)) :
    ∀ D, H1 D = none → ∃ Wi : Nat → Nat → Hp → Prop, (∃ m, Wi 0 m (upd H1 D (.lst []))) ∧ ∀ i m H, Wi i m H →
      (J.stop i H ∧ Q (.ref D) H) ∨ (J.go i H ∧ ∃ Nx : Hp → Prop, (∀ H', Nx H' → ∃ m', m' < m ∧ Wi (i + 1) m' H') ∧ ∀ x H', J.yld i H x H' → tG X.K is g1 x (wipe σ (own.map (·.2))) H' fun σ2 H2 => wipe σ2 (own.map (·.2)) = wipe σ (own.map (·.2)) ∧ tT X.K W0 ft σ2 H2 fun b H3 =>
        if b = true then tE X.K W0 f σ2 H3 fun y H4 => ∃ acc, H4 D = some (.lst acc) ∧ acc.length < sizeLine ∧ Nx (upd H4 D (.lst (acc ++ [y]))) else Nx H3) := by
  intro p hp
  obtain ⟨eh, sth⟩ := st1.hide (xs := []) hp
  refine ⟨fun i m H2 => m = ds.length - i ∧ i ≤ ds.length ∧ ∃ O2 S2 acc accV, p ∈ O2.u ∧ Ext O1 H1 O2 H2 ∧ Stt X.K O2 H2 ρ σ S2 ∧ H2 p = some (.lst accV) ∧ acc.length ≤ i ∧ Reps X.K O2 H2 acc accV ∧
      After X.K W (NewR X.K H1) ρ σ O1 H1 Q ((loopC (own.map (·.2)) g1 ft f ρ (ds.drop i) S2).bind fun vs S3 => .ok (.lst (acc ++ vs)) S3), ⟨_, rfl, Nat.zero_le _, _, S1, [], [], List.mem_cons_self, eh, sth, upd_same, Nat.le_refl _, rfl, h1⟩, ?_⟩
  rintro i m H2 ⟨rfl, hi, O2, S2, acc, accV, hu, e2, st2, hp2, ha, r2, h2⟩
  have ww := w1 O2 H2 S2 ρ σ e2 st2 i
  by_cases hlt : i < ds.length
  · have hd : ds[i]? = some ds[i] := by simp [hlt]
    obtain ⟨go, yl⟩ := ww.1 _ hd
    rw [drop_of hd] at h2
    refine .inr ⟨go, fun H' => ∃ O3 S3 acc3 accV3, p ∈ O3.u ∧ Ext O1 H1 O3 H' ∧ Stt X.K O3 H' ρ σ S3 ∧ H' p = some (.lst accV3) ∧ acc3.length ≤ i + 1 ∧ Reps X.K O3 H' acc3 accV3 ∧
      After X.K W (NewR X.K H1) ρ σ O1 H1 Q ((loopC (own.map (·.2)) g1 ft f ρ (ds.drop (i + 1)) S3).bind fun vs S3 => .ok (.lst (acc3 ++ vs)) S3), fun H' hn => ⟨_, by omega, rfl, hlt, hn⟩, fun x H' y => ?_⟩
    obtain ⟨e3, st3, r3⟩ := yl x H' y
    have st2' := st3 _ _ _ st2
    have hp' : ∀ {O4 H4}, Ext O2 H' O4 H4 → H4 p = some (.lst accV) := fun e4 => (e3.trans e4).keep p _ (st2.wf.hid p hu).1 hp2
    have hu' : ∀ {O4 H4}, Ext O2 H' O4 H4 → p ∈ O4.u := fun e4 => by
      obtain ⟨m, q, _⟩ := e4.preu
      rw [q]; exact List.mem_append_right _ hu
    cases q : g1 ds[i] (wipeD ρ (own.map (·.2))) with
    | none => simp only [loopC, q] at h2; exact h2.elim
    | some ρ1 =>
      refine ⟨O2, wipeD ρ (own.map (·.2)), S2, _, ρ1, ⟨st2'.wf, wipe_env st2'.env _⟩, r3, q, fun σ4 st4 only => ⟨(only _ hv).trans (wipe_wipe _ _), O2, ρ1, S2, st4, ?_⟩⟩
      cases qt : ft ρ1 S2 with
      | bad => simp only [loopC, q, qt] at h2; exact h2.elim
      | exc _ _ => simp only [loopC, q, qt] at h2; exact h2.elim
      | ok bt S5 =>
        intro O5 H5 bb e5 st5 rb
        subst rb
        cases bt with
        | false =>
          refine iteF ⟨O5, S5, acc, accV, hu' e5, e2.trans (e3.trans e5), ⟨st5.wf, st2'.env.mono (e5.w st2'.wf)⟩, hp' e5, by omega, r2.mono ((e3.trans e5).w st2.wf), ?_⟩
          simp only [loopC, q, qt] at h2
          exact h2
        | true =>
          refine iteT ⟨O5, ρ1, S5, st5, ?_⟩
          cases qf : f ρ1 S5 with
          | bad => simp only [loopC, q, qt, qf] at h2; exact h2.elim
          | exc _ _ => simp only [loopC, q, qt, qf] at h2; exact h2.elim
          | ok v6 S6 =>
            intro O6 H6 y6 e6 st6 r6
            have e56 := e5.trans e6
            have st6' : Stt X.K O6 H6 ρ σ S6 := ⟨st6.wf, st2'.env.mono (e56.w st2'.wf)⟩
            have ra : Reps X.K O6 H6 acc accV := r2.mono ((e3.trans e56).w st2.wf)
            have ew := extW_hid (xs := accV ++ [y6]) st6.wf (hu' e56)
            refine ⟨accV, hp' e56, ?_, O6, S6, acc ++ [v6], accV ++ [y6], hu' e56, ?_, st6'.hid (hu' e56), upd_same, by simp; omega, Reps.append (ra.mono ew) ⟨y6, [], rfl, r6.mono ew, rfl⟩, ?_⟩
            · rw [← ra.length]
              exact cap_lt (by omega)
            · have e7 := e2.trans (e3.trans e56)
              refine ⟨e7.pre, e7.preu, fun a o na ho => ?_, fun a u ho => ?_, fun a ho => upd_there a (e7.there a ho)⟩
              · rw [upd_ne (ne_of_none ho hp)]; exact e7.keep a o na ho
              · rw [upd_ne (ne_of_none ho hp)]; exact e7.tups a u ho
            · simp only [loopC, q, qt, qf] at h2
              have e8 : ∀ vs : List D, acc ++ [v6] ++ vs = acc ++ v6 :: vs := fun vs => by simp
              simp only [e8]
              cases ql : loopC (own.map (·.2)) g1 ft f ρ (ds.drop (i + 1)) S6 with
              | ok vs S7 => rw [ql] at h2; exact h2
              | exc _ _ => rw [ql] at h2; exact h2
              | bad => rw [ql] at h2; exact h2
  · have e : i = ds.length := by omega
    refine .inl ⟨ww.2 e, ?_⟩
    have hd : ds.drop i = [] := by rw [e]; simp
    rw [hd] at h2
    have h3 : After X.K W (NewR X.K H1) ρ σ O1 H1 Q (.ok (.lst (acc ++ [])) S2) := h2
    rw [List.append_nil] at h3
    have hsub : ∀ a ∈ O1.u, a ∈ O2.u := fun a ha => by
      obtain ⟨m, q, _⟩ := e2.preu
      rw [q]; exact List.mem_append_right _ ha
    refine h3 ⟨O2.l, O1.u⟩ H2 _ ⟨e2.pre, ⟨[], rfl, fun _ h => by cases h⟩, e2.keep, e2.tups, e2.there⟩ (st2.bare hsub) ⟨⟨p, accV, rfl, ⟨(st2.wf.hid p hu).1, fun z => st1.wf.there p (.inr z) hp⟩, hp2, r2.mono (extW_bare hsub)⟩, p, rfl, hp⟩
end
mutual
def flatD : D → Bool
  | .non => true
  | .bl _ => true
  | .int _ => true
  | .str _ => true
  | .tup ds => flatDs ds
  | _ => false
def flatDs : List D → Bool
  | [] => true
  | d :: ds => flatD d && flatDs ds
end
def flatK : List (Key × D) → Bool
  | [] => true
  | p :: r => flatD p.2 && flatK r
section
variable {K : PySem.W.Frag} {O O2 : Ow} {H H2 : Hp}
mutual
theorem flat_rep (e : ∀ a xs, H a = some (.tup xs) → H2 a = some (.tup xs)) : ∀ {d : D} {v : V}, flatD d = true → Rep K O H d v → Rep K O2 H2 d v
  | .non, _, _, h => h
  | .bl _, _, _, h => h
  | .int _, _, _, h => h
  | .str _, _, _, h => h
  | .tup _, _, f, h => by
    obtain ⟨a, xs, rfl, h1, h2⟩ := h
    exact ⟨a, xs, rfl, h1.imp (e _ _) id, flat_reps e (by simpa only [flatD] using f) h2⟩
  | .ty _, _, f, _ => by cases f
  | .glo _, _, f, _ => by cases f
  | .lst _, _, f, _ => by cases f
  | .scr _, _, f, _ => by cases f
  | .dK _, _, f, _ => by cases f
  | .dT _, _, f, _ => by cases f
  | .obj _ _, _, f, _ => by cases f
  | .own _, _, f, _ => by cases f
  | .xcp _ _ _, _, f, _ => by cases f
  | .exo _ _, _, f, _ => by cases f
  | .tab _ _ _, _, f, _ => by cases f
theorem flat_reps (e : ∀ a xs, H a = some (.tup xs) → H2 a = some (.tup xs)) : ∀ {d : List D} {v : List V}, flatDs d = true → Reps K O H d v → Reps K O2 H2 d v
  | [], _, _, h => h
  | _ :: _, _, f, h => by
    obtain ⟨v, r, rfl, h1, h2⟩ := h
    simp only [flatDs, Bool.and_eq_true] at f
    exact ⟨v, r, rfl, flat_rep e f.1 h1, flat_reps e f.2 h2⟩
end
theorem flat_repK (e : ∀ a xs, H a = some (.tup xs) → H2 a = some (.tup xs)) : ∀ {d : List (Key × D)} {v : List (Key × V)}, flatK d = true → RepK K O H d v → RepK K O2 H2 d v
  | [], _, _, h => h
  | (_, _) :: _, _, f, h => by
    obtain ⟨v, r, rfl, h1, h2⟩ := h
    simp only [flatK, Bool.and_eq_true] at f
    exact ⟨v, r, rfl, flat_rep e f.1 h1, flat_repK e f.2 h2⟩
def keepFlat : Option D → Option D
  | some d => if flatD d = true then some d else none
  | none => none
theorem flat_env (e : ∀ a xs, H a = some (.tup xs) → H2 a = some (.tup xs)) : ∀ {ρ : DE.Env} {σ : L2.St}, REnv K O H ρ σ → REnv K O2 H2 (ρ.map keepFlat) σ
  | _, _, .nil => .nil
  | _, _, .cons (d := none) h t => .cons trivial (flat_env e t)
  | _, _, .cons (d := some d) h t => by
    refine .cons ?_ (flat_env e t)
    obtain ⟨v, e1, h⟩ := h
    show RepO K O2 H2 (keepFlat (some d)) _
    unfold keepFlat
    by_cases c : flatD d = true
    · simp only [c, if_true]
      exact ⟨v, e1, flat_rep e c h⟩
    · simp only [c, if_false]
      exact trivial
end
theorem walks_keys {K : PySem.W.Frag} {O : Ow} {H : Hp} {kd : List (Key × D)} {vs : List (Key × V)} {d : Addr} {od : Obj} (nd : O.no d) (hd : H d = some (.frz od (.dK vs))) (h2 : RepK K O H kd vs) : Walks K O H (kd.map fun p => keyToD p.1) (Itk d od vs) := by
  intro O' H' S ρ σ e st i
  have hd' := e.keep d _ nd.1 hd
  refine ⟨fun x hx => ?_, fun hi => ⟨hd', by rw [hi, List.length_map, repK_len h2]; exact Nat.le_refl _⟩⟩
  rw [List.getElem?_map] at hx
  obtain ⟨p, hp, rfl⟩ := Option.map_eq_some_iff.mp hx
  obtain ⟨v, hv, _⟩ := repK_get h2 hp
  refine ⟨⟨hd', (List.getElem?_eq_some_iff.mp hv).1⟩, fun y H2 z => ?_⟩
  obtain ⟨eH, k, v2, hk, rfl⟩ := z
  rw [hv] at hk
  cases hk
  obtain ⟨e1, e2⟩ := Walks.same (K := K) (O := O') eH
  exact ⟨e1, e2, keyToD_rep _⟩
end LM

set_option maxHeartbeats 4000000
namespace LM
open PySem PySem.Spec PyProof.Rows L2 DE
def dLK (i : Nat) (own : List Nat) (g : MG) (t : MT) (e : ME) : ME := fun ρ S => match ρ[i]? with
  | some (some (.own k)) => (match S[k]? with
    | some (.dK kd) => if kd.length ≤ cap ∧ flatK kd = true then (match loopC own g t e ((ρ.map keepFlat).set i (some (.dK kd))) (kd.map fun p => keyToD p.1) [] with
      | .ok vs [] => if flatDs vs = true then .ok (.lst vs) S else .bad
      | _ => .bad) else .bad
    | _ => .bad)
  | _ => .bad
section
variable {X : Cx} {W : WX} {fe : ME}
theorem own_go {own : List (Str × Nat)} {is : List Nat} {g1 : MG} {ft : MT} {i k : Nat} {σ : L2.St} {H : Hp} {Q : VK} {O : Ow} {ρ : DE.Env} {S : Sto} {a : Addr} {od : Obj} {kd : List (Key × D)} {kv : List (Key × V)} {vs : List D} (hv : ∀ i ∈ is, i ∈ own.map (·.2)) (st : Stt X.K O H ρ σ S)
    (hi : σ[i]? = some (some (.ref a))) (ha : O.l[k]? = some a) (hd : H a = some (.dK kv)) (rk : RepK X.K O H kd kv) (hl : kd.length ≤ cap) (fl : flatK kd = true) (q : loopC (own.map (·.2)) g1 ft fe ((ρ.map keepFlat).set i (some (.dK kd))) (kd.map fun p => keyToD p.1) [] = .ok vs []) (fv : flatDs vs = true)
    (h : After X.K W (Rep X.K) ρ σ O H Q (.ok (.lst vs) S)) :
    tLc (iKeys (tVar i)) (tG X.K is g1) (tT X.K W0 ft) (tE X.K W0 fe) (own.map (·.2)) σ (upd H a (.frz od (.dK kv))) fun v H' => H' a = some (.frz od (.dK kv)) ∧ Q v (upd H' a (.dK kv)) := by
  have mem := List.mem_of_getElem? ha
  have tups : ∀ b xs, H b = some (.tup xs) → upd H a (.frz od (.dK kv)) b = some (.tup xs) := fun b xs z => by
    rw [upd_ne fun y => by rw [y, hd] at z; cases z]
    exact z
  have es : σ.set i (some (.ref a)) = σ := List.ext_getElem? fun j => by
    by_cases y : i = j
    · subst y
      rw [List.getElem?_set_self (List.getElem?_eq_some_iff.mp hi).1, hi]
    · rw [List.getElem?_set_ne y]
  have rk2 : RepK X.K ⟨[], []⟩ (upd H a (.frz od (.dK kv))) kd kv := flat_repK tups fl rk
  have n0 : (⟨[], []⟩ : Ow).no a := ⟨by simp, by simp⟩
  have env2 : REnv X.K ⟨[], []⟩ (upd H a (.frz od (.dK kv))) ((ρ.map keepFlat).set i (some (.dK kd))) σ := by
    have z := (flat_env (O2 := ⟨[], []⟩) tups st.env).set (d := .dK kd) (v := .ref a) ⟨a, kv, rfl, n0, .inr ⟨od, upd_same⟩, rk2⟩ i
    rw [es] at z
    exact z
  have st2 : Stt X.K ⟨[], []⟩ (upd H a (.frz od (.dK kv))) ((ρ.map keepFlat).set i (some (.dK kd))) σ [] := ⟨⟨.nil, rfl, fun k a d h => by simp at h, fun a h => by cases h⟩, env2⟩
  suffices aft : After X.K W (NewR X.K (upd H a (.frz od (.dK kv)))) ((ρ.map keepFlat).set i (some (.dK kd))) σ ⟨[], []⟩ (upd H a (.frz od (.dK kv))) (fun v H' => H' a = some (.frz od (.dK kv)) ∧ Q v (upd H' a (.dK kv)))
      ((loopC (own.map (·.2)) g1 ft fe ((ρ.map keepFlat).set i (some (.dK kd))) (kd.map fun p => keyToD p.1) []).bind fun vs S3 => .ok (.lst vs) S3) by
    have z := lc_bodyN (X := X) (W := W) (f := fe) (is := is) (g1 := g1) (ft := ft) (J := Itk a od kv) hv st2 (walks_keys n0 upd_same rk2) (by rw [List.length_map]; exact hl) aft
    exact ⟨.ref a, hi, a, od, rfl, .inl ⟨kv, upd_same, z⟩⟩
  rw [q]
  intro O3 H3 w e st3 ⟨rw', p, ew, np⟩
  subst ew
  have atd : H3 a = some (.frz od (.dK kv)) := e.keep a _ (by simp) upd_same
  have kept : ∀ b o, b ≠ a → H b = some o → upd H3 a (.dK kv) b = some o := fun b o y z => by
    rw [upd_ne y]
    exact e.keep b o (by simp) (by rw [upd_ne y]; exact z)
  have np2 : H p = none := by
    by_cases y : p = a
    · rw [y, upd_same] at np; cases np
    · rw [upd_ne y] at np; exact np
  have pa : p ≠ a := fun y => by rw [y, hd] at np2; cases np2
  have e2 : Ext O H O (upd H3 a (.dK kv)) := by
    refine ⟨⟨[], by simp, fun _ z => by cases z⟩, ⟨[], by simp, fun _ z => by cases z⟩, fun b o nb z => kept b o (fun y => nb (y ▸ mem)) z, fun b xs z => kept b _ (fun y => by rw [y, hd] at z; cases z) z, fun b z => ?_⟩
    by_cases y : b = a
    · rw [y, upd_same]; exact fun z => nomatch z
    · cases q2 : H b with
      | none => exact absurd q2 z
      | some o => rw [kept b o y q2]; exact fun z => nomatch z
  have same : ∀ b, b ∈ O.l ∨ b ∈ O.u → upd H3 a (.dK kv) b = H b := fun b hb => by
    by_cases y : b = a
    · rw [y, upd_same, hd]
    · obtain ⟨o, ho, _⟩ := st.wf.cases hb
      rw [ho, kept b o y ho]
  have st4 : Stt X.K O (upd H3 a (.dK kv)) ρ σ S := ⟨⟨st.wf.nd, st.wf.len, fun j b d h1 h2 => (st.wf.cell j b d h1 h2).mono (e2.w st.wf) (same b (.inl (List.mem_of_getElem? h1))), fun b hb => by
    obtain ⟨h1, o, h2, h3⟩ := st.wf.hid b hb
    exact ⟨h1, o, by rw [same b (.inr hb)]; exact h2, h3⟩⟩, st.env.mono (e2.w st.wf)⟩
  obtain ⟨p', xs, ep, _, hp, rs⟩ := rw'
  cases ep
  refine ⟨atd, h O _ (.ref p) e2 st4 ⟨p, xs, rfl, XN.wf_no st.wf np2, by rw [upd_ne pa]; exact hp, flat_reps (fun b ys z => ?_) fv rs⟩⟩
  rw [upd_ne fun y => by rw [y, atd] at z; cases z]
  exact z
theorem de_lck {elt tg : Expr} {ifs : List Expr} {scope : Scope} {x : Str} {p1 pos : Pos} {own : List (Str × Nat)} {vs : List Nat} {is : List Nat} {g1 : MG} {ft : MT} {i : Nat} (hc : X.calm = true) (hN : X.N.Nodup) (hx : X.N[i]? = some x) (hvis : Vis X.env.scope x) (ok : BlkOk X.N X.env.scope scope own)
    (hg : ∀ (s : Shared) (H : Hp) (C : Addr) (cl : List (Str × Addr)) (fp : List Addr), DG (X.blk s H scope (compEnvC scope cl C X.env) fp) tg is g1) (ht : ∀ (s : Shared) (H : Hp) (C : Addr) (cl : List (Str × Addr)) (fp : List Addr), DTs (X.blk s H scope (compEnvC scope cl C X.env) fp) W0 ifs ft)
    (he : ∀ (s : Shared) (H : Hp) (C : Addr) (cl : List (Str × Addr)) (fp : List Addr), DE (X.blk s H scope (compEnvC scope cl C X.env) fp) W0 elt fe) (hv : ∀ i ∈ is, i ∈ vs) (hvs : vs = own.map (·.2) := by rfl)
    (hs : ∀ z, foldedSetIterable (.Name x p1) X.env z = pure z := by intro _; rfl) (hd : (x == ("__debug__" : Str)) = false := by decide) (hcd : (x == ("__classdict__" : Str)) = false := by decide) : DE X W (.ListComp elt [⟨tg, .Name x p1, ifs, 0⟩] scope pos) (dLK i vs g1 ft fe) := by
  subst hvs
  have p0 : PE X (.ListComp elt [⟨tg, .Name x p1, ifs, 0⟩] scope pos) (tLc (iKeys (tVar i)) (tG X.K is g1) (tT X.K W0 ft) (tE X.K W0 fe) (own.map (·.2))) :=
    pe_lc hc hN (pi_keys (pe_var hx hvis hd hcd)) ok (fun s H C cl fp => (hg s H C cl fp).pg) (fun s H C cl fp => (ht s H C cl fp).pts) (fun s H C cl fp => (he s H C cl fp).pe) hs
  refine ⟨PE.imp (pe_lock p0) fun σ H Q ⟨O, ρ, S, st, h⟩ => ?_⟩
  unfold dLK at h
  split at h
  · rename_i k q1
    split at h
    · rename_i kd q2
      obtain ⟨⟨hl, fl⟩, h⟩ := After.ite h
      split at h
      · rename_i ys q3
        obtain ⟨fv, h⟩ := After.ite h
        obtain ⟨v, hi, a, ha, rfl⟩ := st.env.get q1
        obtain ⟨kv, hd0, rk⟩ := st.wf.cell k a _ ha q2
        exact ⟨a, .dK kv, hd0, True.intro, fun od => own_go hv st hi ha hd0 rk hl fl q3 fv h⟩
      · exact h.elim
    · exact h.elim
  · exact h.elim
end
end LM

set_option maxHeartbeats 4000000
/-! a def with defaults, called with all its values by place -/
namespace LM
open PySem PySem.Spec PyProof.Rows L2 DE
theorem kbd_all {K : PySem.W.Frag} {x qual : Str} {params : Arguments} {body : List Stmt} {scope : Scope} {dvs : List V} {kws : List (Str × V)} {f : Addr} {fd : FuncData} {ps : List Str} (F : FunD K x qual params body scope dvs kws f fd) (n : Nat) (hd : dvs ≠ [])
    (h : ∀ (T : Addr) (kV doc pm : Value) (an : Option Addr) (cdv ct : Value) (us its ws : List Value), us.length = n → its.length = dvs.length → ws.length = ([] : List Str).length →
      ∃ k, bindArgs (PySem.W.fnOf x qual params body scope (.ref T) kV doc pm an cdv ct) ⟨us, ([] : List Str).zip ws⟩ = seqItems? (.ref T) >>= k ∧ k (some its.toArray) = pure (ps.zip us)) : KBD K fd ps n [] fun ds _ => ds := by
  obtain ⟨its, kb⟩ := F.kbindsD (ps := ps) n [] (fun us _ _ => us) hd (fun r _ _ => r) h
  exact ⟨_, _, kb, fun O H ds vs es zs r1 _ => r1⟩
end LM
namespace LM
open PySem PySem.Spec PyProof.Rows L2 DE
/-- a statement that is never reached -/
theorem ds_bad {X : Cx} {W : WX} {st : Stmt} : DS X W st (fun _ _ => .bad) := ⟨⟨fun pins s σ H D' I ⟨O, ρ, S, st, h⟩ => h.elim⟩⟩
end LM

set_option maxHeartbeats 4000000
/-! d[k], k in d, k not in d -/
namespace LM
open PySem PySem.Spec PyProof.Rows L2 DE
def dictAt (S : Sto) : D → Option (List (Key × D))
  | .dK kd => some kd
  | .own k => (match S[k]? with
    | some (.dK kd) => some kd
    | _ => none)
  | _ => none
theorem dictAt_rep {K : PySem.W.Frag} {O : Ow} {H : Hp} {ρ : DE.Env} {σ : L2.St} {S : Sto} {d : D} {v : V} {kd : List (Key × D)} (st : Stt K O H ρ σ S) (e : dictAt S d = some kd) (r : Rep K O H d v) : ∃ a vs, v = .ref a ∧ Rd H a (.dK vs) ∧ RepK K O H kd vs := by
  cases d <;> simp only [dictAt] at e <;> try cases e
  case dK => obtain ⟨a, vs, rfl, _, h, q⟩ := r; exact ⟨a, vs, rfl, h, q⟩
  case own k =>
    obtain ⟨a, h, rfl⟩ := r
    cases q : S[k]? with
    | none => simp only [q] at e; cases e
    | some d0 =>
      have c := st.wf.cell k a d0 h q
      simp only [q] at e
      cases d0 <;> try cases e
      obtain ⟨vs, h1, h2⟩ := c
      exact ⟨a, vs, rfl, .inl h1, h2⟩
def findD (kd : List (Key × D)) (k : Key) : Option D := (kd.find? fun p => decide (p.1 = k)).map (·.2)
theorem findD_rep {K : PySem.W.Frag} {O : Ow} {H : Hp} {k : Key} {kd : List (Key × D)} {vs : List (Key × V)} (r : RepK K O H kd vs) : (findD kd k = none ∧ valV vs k = none) ∨ ∃ d v, findD kd k = some d ∧ valV vs k = some v ∧ Rep K O H d v := by
  rcases repK_find (k := k) r with ⟨h1, h2⟩ | ⟨p, v, h1, h2, h3⟩
  · exact .inl ⟨by simp [findD, h1], h2⟩
  · exact .inr ⟨p.2, v, by simp [findD, h1], h2, h3⟩
def dGetK (fo fi : ME) : ME := fun ρ S => (fo ρ S).bind fun o S1 => (fi ρ S1).bind fun i S2 => match dictAt S2 o, keyD i with
  | some kd, some k => (match findD kd k with
    | some d => .ok d S2
    | none => .bad)
  | _, _ => .bad
def dInK (neg : Bool) (fi fo : ME) : ME := fun ρ S => (fi ρ S).bind fun i S1 => (fo ρ S1).bind fun o S2 => match dictAt S2 o, keyD i with
  | some kd, some k => .ok (.bl (xor neg (findD kd k).isSome)) S2
  | _, _ => .bad
section
variable {X : Cx} {W : WX} {o i : Expr} {fo fi : ME} {pos : Pos}
theorem de_dget (hu : X.A.units + 1 < cLine) (ho : DE X W o fo) (hi : DE X W i fi) (hs : NoSl i) : DE X W (.Subscript o i pos) (dGetK fo fi) :=
  ⟨PE.imp (pe_dget hu ho.pe hi.pe hs) fun σ H Q ⟨O, ρ, S, st, h⟩ => ⟨O, ρ, S, st, After.seq h fun d S1 O1 H1 v e1 st1 r1 h1 => ⟨O1, ρ, S1, st1, After.seq h1 fun i S2 O2 H2 u e2 st2 r2 h2 => by
    cases q1 : dictAt S2 d with
    | none => simp only [q1] at h2; exact h2.elim
    | some kd =>
      cases q2 : keyD i with
      | none => simp only [q1, q2] at h2; exact h2.elim
      | some k =>
        simp only [q1, q2] at h2
        obtain ⟨a, vs, rfl, hd, rk⟩ := dictAt_rep st2 q1 (r1.mono (e2.w st1.wf))
        rcases findD_rep (k := k) rk with ⟨f1, _⟩ | ⟨x, w, f1, f2, f3⟩
        · rw [f1] at h2; exact h2.elim
        · rw [f1] at h2
          exact ⟨a, w, rfl, .inl ⟨vs, k, hd, keyD_rep q2 r2, f2.symm⟩, After.ok h2 st2 f3⟩⟩⟩⟩
theorem in_imp {neg : Bool} {σ : L2.St} {H : Hp} {Q : VK} (h : tE X.K W (dInK neg fi fo) σ H Q) : tE X.K W fi σ H fun y H1 => tE X.K W fo σ H1 fun x H2 => ∃ a o, x = .ref a ∧ DGet H2 a y o ∧ Q (.bl (xor neg o.isSome)) H2 := by
  obtain ⟨O, ρ, S, st, h⟩ := h
  refine ⟨O, ρ, S, st, After.seq h fun i S1 O1 H1 u e1 st1 r1 h1 => ⟨O1, ρ, S1, st1, After.seq h1 fun d S2 O2 H2 v e2 st2 r2 h2 => ?_⟩⟩
  cases q1 : dictAt S2 d with
  | none => simp only [q1] at h2; exact h2.elim
  | some kd =>
    cases q2 : keyD i with
    | none => simp only [q1, q2] at h2; exact h2.elim
    | some k =>
      simp only [q1, q2] at h2
      obtain ⟨a, vs, rfl, hd, rk⟩ := dictAt_rep st2 q1 r2
      refine ⟨a, valV vs k, rfl, .inl ⟨vs, k, hd, keyD_rep q2 r1, rfl⟩, ?_⟩
      have e : (valV vs k).isSome = (findD kd k).isSome := by
        rcases findD_rep (k := k) rk with ⟨f1, f2⟩ | ⟨x, w, f1, f2, f3⟩
        · rw [f1, f2]; rfl
        · rw [f1, f2]; rfl
      rw [e]
      exact After.ok h2 st2 rfl
end
end LM

set_option maxHeartbeats 4000000
namespace LM
open PySem PySem.Spec PyProof.Rows L2 DE
def oInKey (neg : Bool) : D → D → Sto → RE D := fun d e S => match dictAt S e, keyD d with
  | some kd, some k => .ok (.bl (xor neg (findD kd k).isSome)) S
  | _, _ => .bad
section
variable {X : Cx}
theorem inKey_of {neg : Bool} {op : CmpOp} (go : ∀ (pins : List (Addr × Obj)) (s : Shared) (σ : L2.St) (H : Hp) (a : Addr) (x : V) (v : Value) (o : Option V) (Q : Value → Shared → Prop), Inv X pins σ H s → DGet H a x o → RelV x v → (∀ s', Inv X pins σ H s' → Q (.bool (xor neg o.isSome)) s') → wpAny (model X.prog X.w) X.A (compareOp op v (.ref a)) Q X.xe s) :
    OpR X (compareOp op) (RD X.K (oInKey neg)) := by
  intro pins s σ H x y v u Q I rx ry ⟨W, ρ, σ', O, S, d, e, st, r1, r2, h⟩
  unfold oInKey at h
  cases q1 : dictAt S e with
  | none => simp only [q1] at h; exact h.elim
  | some kd =>
    cases q2 : keyD d with
    | none => simp only [q1, q2] at h; exact h.elim
    | some k =>
      simp only [q1, q2] at h
      obtain ⟨a, vs, rfl, hd, rk⟩ := dictAt_rep st q1 r2
      cases ry
      refine go pins s σ H a x v (valV vs k) _ I (.inl ⟨vs, k, hd, keyD_rep q2 r1, rfl⟩) rx fun s' I' => ⟨.bl (xor neg (valV vs k).isSome), H, I', rfl, ?_⟩
      have e : (valV vs k).isSome = (findD kd k).isSome := by
        rcases findD_rep (k := k) rk with ⟨f1, f2⟩ | ⟨x, w, f1, f2, f3⟩
        · rw [f1, f2]; rfl
        · rw [f1, f2]; rfl
      rw [e]
      exact After.ok h st rfl
theorem op_inK (hu : X.A.units + 1 < cLine) : OpR X (compareOp .In) (RD X.K (oInKey false)) := inKey_of fun pins s σ H a x v o Q I g r h => d_in hu I g r fun s' I' => by
  have z := h s' I'
  simpa using z
theorem op_notInK (hu : X.A.units + 1 < cLine) : OpR X (compareOp .NotIn) (RD X.K (oInKey true)) := inKey_of fun pins s σ H a x v o Q I g r h => d_notIn hu I g r fun s' I' => by
  have z := h s' I'
  simpa using z
end
end LM
namespace LM
open PySem L2
theorem u1 {k : Nat} {A : Around} (r : Room k A) : A.units + 1 < cLine := by have := r.un; omega
theorem u200 {k : Nat} {A : Around} (r : Room k A) : A.units + 200 < cLine := by have := r.un; omega
end LM

set_option maxHeartbeats 4000000
/-! == and != of two instances of one class, by its own __eq__ -/
namespace LM
open PySem PySem.Spec PyProof.Rows L2 DE
theorem ne_bind (self : Value) : bindSpecial (.builtin "object.__ne__") self = pure (.builtin "object.__ne__", [self]) := F.cmp_object.ne.bind self
section
variable {prog : Program} {w : World} {A : Around} {E : Value → Shared → Prop} {s : Shared} {K : PySem.W.Frag} {x C f : Addr} {ox : Obj} {od : Option Obj} {b : Value}
theorem own_ne {Q : Value → Shared → Prop} (hu : A.units + 1 < cLine) (kin : K.In s.heap) (I : PySem.W.InstAt s.heap x ox C od) (hb : PySem.W.Looks (model prog w) s.heap (typeOf b) (.ref C))
    (hne : PySem.W.findIn K (.ref C) "__ne__" = some (some (.builtin "object.__ne__"))) (top : PySem.W.mroIn K C (.type "object") = some true) (me : Meth K C "__eq__" f)
    (h : wpAny (model prog w) A.in1 (call (.ref f) [.ref x, b]) (fun v s' => ∃ k, v = .bool k ∧ Q (.bool (!k)) s') E s) : wpAny (model prog w) A (richCompare .NotEq (.ref x) b) Q E s := by
  have body : wpAny (model prog w) A (tryCompare (.ref x) "__ne__" b) (fun r s' => ∃ k, r = some (Value.bool (!k)) ∧ Q (.bool (!k)) s') E s := by
    unfold tryCompare
    refine wpAny_bind ?_
    simp only [callSpecialIfBound?, bindSpecialIfBound?]
    refine wpAny_holding (wpAny_bind (wpAny_bind (wpAny_bind (I.type.here ((PySem.W.looks_findIn kin hne).here ?_)))))
    refine wpAny_bind (wpAny_askSetting (wpAny_ite ?_))
    have t2 : PySem.W.Looks (model prog w) s.heap (isInstance (.ref x) (.type "object")) true := I.type.andThen (PySem.W.looks_mroIn kin top)
    have fin : wpAny (model prog w) A (call (.builtin "object.__ne__") ([.ref x] ++ [b])) (fun v s' => ∃ k, v = Value.bool (!k) ∧ Q (.bool (!k)) s') E s := by
      refine wpAny_call (codeAny_call_builtin F.cmp_object.ne.plain F.cmpEntry_ne (@PySem.W.check_slot (model prog w) _ _ s "object.__ne__" "object" "__ne__" (.ref x) [b] [] _ F.cmpKind_ne F.cmpSplit_ne t2 (F.cmpArgs_ne _ _) ?_))
      unfold Builtin.«object.__ne__»
      refine wpAny_bind (wpAny_pure ?_)
      refine wpAny_bind (wpAny_cRoomFor (A := A.in1) hu ?_)
      refine wpAny_bind (PySem.W.ifBound_K kin I me.at_ me.fn (wpAny_mono h (fun v s' z => ?_) fun _ _ z => z))
      obtain ⟨k, rfl, q⟩ := z
      exact wpAny_bind (wpAny_truthy_bool (wpAny_pure ⟨k, rfl, q⟩))
    have fin2 : wpAny (model prog w) A (call (.builtin "object.__ne__") ([.ref x] ++ [b]) >>= fun v => pure (some v)) (fun r s' => ∃ k, r = some (Value.bool (!k)) ∧ Q (.bool (!k)) s') E s :=
      wpAny_bind (wpAny_mono fin (fun v s' ⟨k, e, q⟩ => wpAny_pure ⟨k, by rw [e], q⟩) fun _ _ z => z)
    have fin3 : wpAny (model prog w) A (call (.builtin "object.__ne__") ([.ref x] ++ [b]) >>= fun v => pure (some v)) (fun r s' => wpAny (model prog w) A (match r with | some .notImplemented => pure none | none => pure none | some r => pure (some r)) (fun r s' => ∃ k, r = some (Value.bool (!k)) ∧ Q (.bool (!k)) s') E s') E s :=
      wpAny_mono fin2 (fun r s' ⟨k, e, q⟩ => by subst e; exact wpAny_pure ⟨k, rfl, q⟩) fun _ _ z => z
    rw [ne_bind]
    split
    · exact wpAny_bind (wpAny_pure (wpAny_pure (by exact fin3)))
    · exact wpAny_tryCatch (wpAny_bind (wpAny_pure (wpAny_pure (by exact fin3))))
  unfold richCompare
  simp only [oneThing_ref]
  refine wpAny_holding (wpAny_bind (wpAny_cRoomFor (Nat.lt_of_succ_lt hu) ?_))
  refine wpAny_bind (I.type.here (wpAny_bind (hb.here ?_)))
  rw [if_neg (by simp)]
  refine wpAny_bind (wpAny_pure ?_)
  simp only [Bool.false_eq_true, if_false]
  refine wpAny_bind (wpAny_mono body (fun r s' z => ?_) fun _ _ e => e)
  obtain ⟨k, rfl, hq⟩ := z
  exact wpAny_pure hq
end
def oEqO (neg : Bool) (tb : List (Str × FD)) : D → D → Sto → RE D := fun e d S => match objAt S e, objAt S d with
  | some (c, _), some (c2, _) => if c2 = c then (match tb.lookup c with
    | some F => (F [e, d] S).bind fun r S1 => (match r with
      | .bl b => .ok (.bl (b != neg)) S1
      | _ => .bad)
    | none => .bad) else .bad
  | _, _ => .bad
section
variable {X : Cx} {W : WX} {j : Nat} {tb : List (Str × FD)}
theorem eqO_of {K : PySem.W.Frag} {W : WX} {ρ : DE.Env} {σ : L2.St} {O : Ow} {H : Hp} {Q : VK} {S : Sto} {e d : D} {neg : Bool} (h : After K W (Rep K) ρ σ O H Q (oEqO neg tb e d S)) :
    ∃ c fs gs F, objAt S e = some (c, fs) ∧ objAt S d = some (c, gs) ∧ tb.lookup c = some F ∧ After K W (Rep K) ρ σ O H (fun z H3 => ∃ k, z = V.bl k ∧ Q (.bl (k != neg)) H3) (F [e, d] S) := by
  unfold oEqO at h
  cases q : objAt S e with
  | none => simp only [q] at h; exact h.elim
  | some z =>
    obtain ⟨c, fs⟩ := z
    cases q1 : objAt S d with
    | none => simp only [q, q1] at h; exact h.elim
    | some z2 =>
      obtain ⟨c2, gs⟩ := z2
      simp only [q, q1] at h
      obtain ⟨rfl, h⟩ := After.ite h
      cases q2 : tb.lookup c2 with
      | none => simp only [q2] at h; exact h.elim
      | some F =>
        simp only [q2] at h
        refine ⟨c2, fs, gs, F, rfl, rfl, q2, After.seq h fun r S1 O1 H1 w e1 st1 rr h1 => ?_⟩
        cases r <;> try exact h1.elim
        exact ⟨_, rr, After.ok h1 st1 rfl⟩
theorem op_eqO (T : MTab X j "__eq__" 2 tb) (hr : Room j X.A) (gd : X.A.guards = some []) (tk : Takes X W) : OpS X (compareOp .Eq) (rOwn X W (oEqO false tb)) := by
  intro pins s σ H x y v u Q I rx ry ⟨ρ, O, S, e, d, st, r1, r2, h⟩
  obtain ⟨c, fs, gs, F, q, q1, q2, h2⟩ := eqO_of h
  obtain ⟨a, dx, vs, rfl, ha, rf⟩ := objAt_rep st q r1
  obtain ⟨b, dy, ws, rfl, hb, rg⟩ := objAt_rep st q1 r2
  obtain rfl : v = Value.ref a := rx
  obtain rfl : u = Value.ref b := ry
  obtain ⟨ox, od, J⟩ := inst_of I ha
  obtain ⟨ox2, od2, J2⟩ := inst_of I hb
  obtain ⟨fn, me, cl⟩ := T c F q2
  obtain ⟨fd, ps, gg, bb⟩ := fn.ok
  obtain ⟨m, hF⟩ := I.fr
  have run := run_G (us := [Value.ref a, Value.ref b]) (vs := [V.ref a, V.ref b]) gg hr gd bb (passAt tk σ) I (.cons rfl (.cons rfl .nil)) (sp_of (ds := [e, d]) st ⟨_, _, rfl, r1, _, _, rfl, r2, rfl⟩ rfl h2)
  refine PySem.W.cmp_K (op := .Eq) (tb := .ref (He.ga X.K c)) hr.units0 hF I.ok.mod.kin J J2.type (by simp [PySem.W.notFirst]) me.at_ me.fn (wpAny_mono run (fun r s' z => ?_) fun _ _ z => z)
  obtain ⟨z, H3, I3, rv, k, rfl, q3⟩ := z
  obtain rfl : r = Value.bool k := rv
  exact ⟨.bl k, H3, I3, rfl, by simpa using q3⟩
def neB (c : Str) : Xb := fun K => decide (PySem.W.findIn K (.ref (He.ga K c)) "__ne__" = some (some (.builtin "object.__ne__"))) && decide (PySem.W.mroIn K (He.ga K c) (.type "object") = some true)
theorem op_neO (T : MTab X j "__eq__" 2 tb) (hn : ∀ c F, tb.lookup c = some F → neB c X.K = true) (hr : Room (j + 1) X.A) (gd : X.A.guards = some []) (tk : Takes X W) : OpS X (compareOp .NotEq) (rOwn X W (oEqO true tb)) := by
  intro pins s σ H x y v u Q I rx ry ⟨ρ, O, S, e, d, st, r1, r2, h⟩
  obtain ⟨c, fs, gs, F, q, q1, q2, h2⟩ := eqO_of h
  obtain ⟨a, dx, vs, rfl, ha, rf⟩ := objAt_rep st q r1
  obtain ⟨b, dy, ws, rfl, hb, rg⟩ := objAt_rep st q1 r2
  obtain rfl : v = Value.ref a := rx
  obtain rfl : u = Value.ref b := ry
  obtain ⟨ox, od, J⟩ := inst_of I ha
  obtain ⟨ox2, od2, J2⟩ := inst_of I hb
  obtain ⟨fn, me, cl⟩ := T c F q2
  obtain ⟨fd, ps, gg, bb⟩ := fn.ok
  have hk := hn c F q2
  unfold neB at hk
  simp only [Bool.and_eq_true, decide_eq_true_eq] at hk
  have run := run_G1 (us := [Value.ref a, Value.ref b]) (vs := [V.ref a, V.ref b]) gg hr gd bb (passAt tk σ) I (.cons rfl (.cons rfl .nil)) (sp_of (ds := [e, d]) st ⟨_, _, rfl, r1, _, _, rfl, r2, rfl⟩ rfl h2)
  refine own_ne hr.in1.units0 I.kIn J J2.type hk.1 hk.2 me (wpAny_mono run (fun r s' z => ?_) fun _ _ z => z)
  obtain ⟨z, H3, I3, rv, k, rfl, q3⟩ := z
  obtain rfl : r = Value.bool k := rv
  exact ⟨k, rfl, .bl (!k), H3, I3, rfl, by simpa using q3⟩
end
end LM
namespace LM
open PySem PySem.Spec PyProof.Rows L2 DE
theorem one_tab {p : Str → Prop} {c : Str} {F : FD} (h : p c) : ∀ c' F', ([(c, F)] : List (Str × FD)).lookup c' = some F' → p c' := fun c' F' e => by
  rw [List.lookup_cons] at e
  cases q : c' == c with
  | true => rw [eq_of_beq q]; exact h
  | false => rw [q] at e; cases e
def sfB (c : Str) : Xb := fun K => PySem.W.selfFirst K (He.ga K c)
theorem hts_sub : ∀ t ∈ ["list", "tuple"], fillsNumberSlot (.type t) Operator.Sub.info.2 = pure false := fun t h => by
  rcases List.mem_cons.mp h with rfl | h
  · exact nf_list_sub
  · rw [List.mem_singleton.mp h]; exact nf_tuple_sub
end LM

set_option maxHeartbeats 4000000
/-! sorted of a list of tuples: where the first items differ, the rest need not be of one kind -/
namespace LM
open PySem PySem.Spec PyProof.Rows L2 DE PySem.W PySem.SeqAt
def alikeH : PyData → PyData → Bool
  | .tuple (x :: r), .tuple (y :: t) => alike x y && (!PyData.eqv x y || alikeAll r t)
  | _, _ => false
theorem alikeH_inv {p q : PyData} (h : alikeH p q = true) : ∃ x r y t, p = .tuple (x :: r) ∧ q = .tuple (y :: t) ∧ alike x y = true ∧ (PyData.eqv x y = true → alikeAll r t = true) := by
  unfold alikeH at h
  split at h
  · rename_i x r y t
    rw [Bool.and_eq_true, Bool.or_eq_true] at h
    exact ⟨x, r, y, t, rfl, rfl, h.1, fun e => h.2.elim (fun z => by rw [e] at z; cases z) id⟩
  · cases h
theorem eqv_self_of {x : PyData} {h : Heap} {v : Value} {as bs : List Addr} {y : PyData} (al : alike x y = true) (r : Reads h v x as) (r' : Reads h v y bs) (f : x = y → PyData.eqv x y = true) : PyData.eqv x y = true := f (alike_unique _ _ _ _ _ al r r')
def HalH (ds : List PyData) : Prop := ∀ d, d ∈ ds → ∀ d', d' ∈ ds → alikeH d d' = true
mutual
theorem eqv_alike : ∀ p : PyData, alike p p = true → PyData.eqv p p = true
  | .none, _ => rfl
  | .bool _, _ => by simp [PyData.eqv]
  | .int _, _ => by simp [PyData.eqv]
  | .str _, _ => by simp [PyData.eqv]
  | .list xs, h => by
    rw [PyData.eqv]
    exact eqvs_alike xs (by simpa [alike] using h)
  | .tuple xs, h => by
    rw [PyData.eqv]
    exact eqvs_alike xs (by simpa [alike] using h)
  | .dict _, h => by simp [alike] at h
theorem eqvs_alike : ∀ ps : List PyData, alikeAll ps ps = true → PyData.eqvAll ps ps = true
  | [], _ => rfl
  | p :: ps, h => by
    obtain ⟨h1, h2⟩ := alike_all_cons h
    rw [eqv_all_cons, eqv_alike p h1, eqvs_alike ps h2] <;> rfl
end
theorem uniqH {h : Heap} {d d' : PyData} {v : Value} {as bs : List Addr} (hh : alikeH d d' = true) (r : Reads h v d as) (r' : Reads h v d' bs) : d = d' := by
  obtain ⟨x, l, y, t, rfl, rfl, h1, h2⟩ := alikeH_inv hh
  have head : x = y := by
    cases r with
    | @tuple a o xs n _ _ ho hc hd hr =>
      cases r' with
      | @tuple _ o' xs' n' _ _ ho' hc' hd' hr' =>
        rw [ho] at ho'
        cases ho'
        rw [hd] at hd'
        cases hd'
        revert hr hr'
        generalize xs.toList = vs
        intro hr hr'
        cases hr with
        | cons a1 a2 =>
          cases hr' with
          | cons b1 b2 => exact alike_unique _ _ _ _ _ h1 a1 b1
  subst head
  exact alike_unique _ _ _ _ _ (by simp only [alike, alikeAll, h1, h2 (eqv_alike _ h1), Bool.and_self]) r r'
theorem keyH {h : Heap} {ds : List PyData} (hal : HalH ds) {v : Value} {d : PyData} {as : List Addr} (hd : d ∈ ds) (r : Reads h v d as) : (dataKind h ds).keyOf v = some (keyToks d) := by
  have q : ∃ d, d ∈ ds ∧ ∃ as, Reads h v d as := ⟨d, hd, as, r⟩
  have e : (dataKind h ds).keyOf v = some (keyToks q.choose) := by
    unfold dataKind
    exact dif_pos q
  obtain ⟨m1, as', m2⟩ := q.choose_spec
  rw [e, uniqH (hal _ m1 _ hd) m2 r]
section
variable {prog : Program} {w : World} {A : Around} {s : Shared}
theorem katH {b fin : Bool} {Q : Bool → Shared → Prop} {x y : PyData} {xs ys : List PyData} {vs ws : List Value} {as bs : List Addr} (ra : ReadsAll s.heap vs (x :: xs) as) (rb : ReadsAll s.heap ws (y :: ys) bs) (h1 : alike x y = true) (h2 : PyData.eqv x y = true → alikeAll xs ys = true)
    (hu : A.units + min (PyData.depthAll (x :: xs)) (PyData.depthAll (y :: ys)) < cLine) (hb : b = true → ∀ t, x ≠ .tuple t) (hf : fin = decide ((x :: xs).length < (y :: ys).length)) (hq : Q (PyProof.Rows.lexLt itemOrd (keyToksAll (x :: xs)) (keyToksAll (y :: ys))) s) :
    KatLex prog w A b fin Q (vs.zip ws) 0 s := by
  have hf' : fin = decide (xs.length < ys.length) := by
    rw [hf]; simp
  have u1 : A.units + min x.depth y.depth < cLine := by
    simp only [PyData.depthAll] at hu
    omega
  have u2 : A.units + min (PyData.depthAll xs) (PyData.depthAll ys) < cLine := by
    simp only [PyData.depthAll] at hu
    omega
  cases ra with
  | cons r rs =>
    cases rb with
    | cons r' rs' =>
      rw [List.zip_cons_cons]
      refine kat_cons (eqAt_alike x y A s _ _ _ _ r r' h1 u1 prog w _ _ ?_)
      cases hx : PyData.eqv x y with
      | true =>
        rw [dataLt_all_yes h1 hx] at hq
        exact kat_yes (katLex_alike xs ys 1 _ _ _ _ rs rs' (h2 hx) u2 (fun _ z => absurd z (by decide)) hf' hq)
      | false =>
        rw [dataLt_all_no h1 hx] at hq
        exact kat_no (oneLt_alike (fun z t => hb (by simpa using z) t) r r' h1 (ne_none_of h1 hx) u1 hq)
theorem sortsH {vs : List Value} {ds : List PyData} (e : EachIs (fun v d => ∃ as, Reads s.heap v d as) vs ds) (hal : HalH ds) (hu : ∀ d, d ∈ ds → A.units + d.depth < cLine) : SortsAt prog w A s (dataKind s.heap ds) vs := by
  have isT : ∀ d, d ∈ ds → ∃ x r, d = .tuple (x :: r) := fun d hd => by
    obtain ⟨x, r, _, _, e, _⟩ := alikeH_inv (hal d hd d hd)
    exact ⟨x, r, e⟩
  refine ⟨fun v hv => ?_, ?_⟩
  · obtain ⟨d, hd, as, r⟩ := e.left v hv
    exact ⟨_, keyH hal hd r⟩
  · cases ds with
    | nil =>
      cases e
      exact ⟨general', fun E x y a b Q ha _ _ => (by
        obtain ⟨d, _, hd, _⟩ := dataKind_inv ha
        cases hd), fun h2 => absurd h2 (by decide)⟩
    | cons d₀ ds₀ =>
      obtain ⟨x₀, r₀, e₀⟩ := isT d₀ (List.mem_cons_self ..)
      have first : ∀ x r, PyData.tuple (x :: r) ∈ d₀ :: ds₀ → alike x x₀ = true := fun x r hm => by
        obtain ⟨_, _, _, _, z1, z2, z3, _⟩ := alikeH_inv (hal _ hm d₀ (List.mem_cons_self ..))
        cases z1
        rw [e₀] at z2
        cases z2
        exact z3
      refine ⟨tuples' (dataType x₀ != Value.type "tuple"), ?_, fun h2 E Q hq => ?_⟩
      · intro E x y a b Q ha hb hq
        obtain ⟨d, as, hd, ra, rfl⟩ := dataKind_inv ha
        obtain ⟨d', as', hd', rb, rfl⟩ := dataKind_inv hb
        obtain ⟨x1, r1, x2, r2, rfl, rfl, q1, q2⟩ := alikeH_inv (hal d hd d' hd')
        have ro := hu _ hd
        simp only [PyData.depth] at ro
        have hq' : Q (dataLt (.tuple (x1 :: r1)) (.tuple (x2 :: r2))) s := hq
        rw [dataLt_tuple] at hq'
        cases ra with
        | @tuple l o xs n _ _ h1 h2 h3 h4 =>
          cases rb with
          | @tuple l' o' xs' n' _ _ k1 k2 k3 k4 =>
            have n1 : xs.size = (x1 :: r1).length := by simpa using SeqAt.ReadsAll.length _ _ _ h4
            have n2 : xs'.size = (x2 :: r2).length := by simpa using SeqAt.ReadsAll.length _ _ _ k4
            refine kat_lt h1 h3 k1 k3 (katH h4 k4 q1 q2 (by omega) (fun hb t ex => ?_) (by rw [n1, n2]) hq')
            have q := dataType_alike (first _ _ hd)
            rw [← q] at hb
            exact dataType_tuple hb t ex
      · obtain ⟨fs, t1, t2, t3⟩ := each_katTups e isT
        refine kat_kind (T := dataType x₀) t1 (by omega) (fun f hf => ?_) (beq_self_eq_true _) hq
        obtain ⟨x, r, as, m1, m2⟩ := t3 f hf
        rw [← dataType_alike (first x r m1)]
        exact looks_reads m2
/-- sorted of such a list -/
theorem sortedH {β : Type} {R : Value → β → Prop} {E : Value → Shared → Prop} {vs : List Value} {bs : List β} {enc : β → PyData} {l : Addr} {Q : Value → Shared → Prop} (hl : s.heap.IsList l vs.toArray) (e : EachIs R vs bs) (er : EachIs (fun v b => ∃ as, Reads s.heap v (enc b) as) vs bs) (hal : HalH (bs.map enc)) (hL : bs.length ≤ sizeLine)
    (hu : ∀ b, b ∈ bs → A.units + 2 + (enc b).depth < cLine) (h : ∀ out, out.length = bs.length → EachIs R out (bs.mergeSort (dataLe false enc)) → Q (.ref (s.heap.objs.size + 1)) { s with heap := sortedAll s.heap vs (List.toArray out) }) :
    wpAny (model prog w) A (call (.builtin "sorted") [.ref l]) Q E s := by
  have er' := er.mono fun v b (z : ∃ as, Reads s.heap v (enc b) as) => (show ∃ as, Reads (sortingHeap (copyHeap s.heap vs) (s.heap.objs.size + 1) vs) v (enc b) as from ⟨z.choose, PyProof.Rows.Reads.keeps (fun _ _ => sorting_copy_old) z.choose_spec⟩)
  refine sorted_vals hl (sortsH (s := { s with heap := sortingHeap (copyHeap s.heap vs) (s.heap.objs.size + 1) vs }) (each_map (R := fun v d => ∃ as, Reads (sortingHeap (copyHeap s.heap vs) (s.heap.objs.size + 1) vs) v d as) enc er') hal (bound_map hu)) (by rw [e.length]; exact hL)
    (h _ ((sortVals_length false rfl).trans e.length) ?_)
  refine sortVals_each (κ := dataKind (sortingHeap (copyHeap s.heap vs) (s.heap.objs.size + 1) vs) (bs.map enc)) (fun b => keyToks (enc b)) e ?_
  refine each_of_map (R := fun v d => (dataKind (sortingHeap (copyHeap s.heap vs) (s.heap.objs.size + 1) vs) (bs.map enc)).keyOf v = some (keyToks d)) enc ?_
  exact (each_mem (each_map (R := fun v d => ∃ as, Reads (sortingHeap (copyHeap s.heap vs) (s.heap.objs.size + 1) vs) v d as) enc er')).mono fun v d z => keyH hal z.2 z.1.choose_spec
end
def sortOkH (ps : List PyData) : Bool := ps.all (fun p => ps.all fun q => alikeH p q) && ps.all fun p => decide (p.depth ≤ 60)
def oSortedH : FD := fun as S => match as with
  | [d] => (match lstAt S d with
    | some ds => (match toPys ds with
      | some ps => if sortOkH ps = true then .ok (.lst (((ds.zip ps).mergeSort (PySem.W.dataLe false Prod.snd)).map (·.1))) S else .bad
      | none => .bad)
    | none => .bad)
  | _ => .bad
section
variable {X : Cx}
theorem c_oSortedH {k : Nat} (hr : Room k X.A) : CallR X (.builtin "sorted") (RC X.K oSortedH) := by
  intro pins s σ H vs us Q I rv ⟨W, ρ, σ', O, S, as, st, r, h⟩
  unfold oSortedH at h
  split at h
  · rename_i d
    obtain ⟨v, rfl, r1⟩ := r.one
    cases e1 : lstAt S d with
    | none => simp only [e1] at h; exact h.elim
    | some ds =>
      simp only [e1] at h
      cases e2 : toPys ds with
      | none => simp only [e2] at h; exact h.elim
      | some ps =>
        simp only [e2] at h
        obtain ⟨ok, h⟩ := After.ite h
        obtain ⟨p, xs, rfl, hp, rs⟩ := lstAt_rep st e1 r1
        cases rv with
        | cons ru rr =>
          cases rr
          cases ru
          obtain ⟨its, rv2, pl, hz⟩ := I.list (.inl (.inl hp))
          have each := tri_of I e2 rs rv2
          have lx : xs.length = (ds.zip ps).length := by rw [List.length_zip, toPys_len e2, Nat.min_self, rs.length]
          have lb : (xs.zip (ds.zip ps)).length = xs.length := by rw [List.length_zip, ← lx, Nat.min_self]
          unfold sortOkH at ok
          simp only [Bool.and_eq_true] at ok
          obtain ⟨o2, o3⟩ := ok
          have inP : ∀ b ∈ xs.zip (ds.zip ps), b.2.2 ∈ ps := fun b hb => (List.of_mem_zip (List.of_mem_zip (a := b.1) (b := b.2) hb).2).2
          refine sortedH (bs := xs.zip (ds.zip ps)) (enc := fun b : Tri => b.2.2) pl.isList each (each.mono fun _ _ z => z.2.2) ?_ (by rw [lb]; exact hz) (fun b hb => ?_) fun out lo eo => ?_
          · intro d1 h1 d2 h2
            obtain ⟨b1, m1, rfl⟩ := List.mem_map.mp h1
            obtain ⟨b2, m2, rfl⟩ := List.mem_map.mp h2
            exact List.all_eq_true.mp (List.all_eq_true.mp o2 _ (inP b1 m1)) _ (inP b2 m2)
          · have z := of_decide_eq_true (List.all_eq_true.mp o3 _ (inP b hb))
            have := hr.un
            omega
          · obtain ⟨v2, r2⟩ := tri_vals eo
            have hn : H (s.heap.objs.size + 1) = none := I.hok.fresh (Nat.le_succ _)
            obtain ⟨ep, at2⟩ := PyProof.Rows.sortedAll_at s.heap its (List.toArray out)
            have len : (((xs.zip (ds.zip ps)).mergeSort (PySem.W.dataLe false fun b : Tri => b.2.2)).map (·.1)).length ≤ sizeLine := by rw [List.length_map, List.length_mergeSort, lb]; exact hz
            have I2 := I.laid (t' := s.toks) (a := s.heap.objs.size + 1) (o := .lst (((xs.zip (ds.zip ps)).mergeSort (PySem.W.dataLe false fun b : Tri => b.2.2)).map (·.1))) (h' := sortedAll s.heap its (List.toArray out)) (fun _ _ => PyProof.Rows.sortedAll_old) (Nat.le_succ _) ⟨len, out, ep, v2, at2⟩
            obtain ⟨e3, st3⟩ := st.new (o := .lst (((xs.zip (ds.zip ps)).mergeSort (PySem.W.dataLe false fun b : Tri => b.2.2)).map (·.1))) hn
            refine ⟨.ref _, _, I2, rfl, After.ok (After.mono h e3) st3 ⟨_, _, rfl, XN.wf_no st.wf hn, upd_same, ?_⟩⟩
            have ez : ((xs.zip (ds.zip ps)).mergeSort (PySem.W.dataLe false fun b : Tri => b.2.2)).map (·.2.1) = ((ds.zip ps).mergeSort (PySem.W.dataLe false Prod.snd)).map (·.1) := by
              have z := PySem.W.sort_maps (r := PySem.W.dataLe false fun b : Tri => b.2.2) (s := PySem.W.dataLe false (Prod.snd : D × PyData → PyData)) (Prod.snd : Tri → D × PyData) (l := xs.zip (ds.zip ps)) (fun _ _ _ _ => rfl)
              rw [List.map_snd_zip (by omega)] at z
              rw [← z, List.map_map]
              rfl
            rw [← ez]
            exact r2.mono (e3.w st.wf)
  · exact h.elim
end
end LM

set_option maxHeartbeats 4000000
/-! an expression that is run with nothing owned: owned lists of data are seen as lists -/
namespace LM
open PySem PySem.Spec PyProof.Rows L2 DE
mutual
def datD : D → Bool
  | .non => true
  | .bl _ => true
  | .int _ => true
  | .str _ => true
  | .ty _ => true
  | .glo _ => true
  | .tup ds => datDs ds
  | .lst ds => datDs ds
  | .dK kd => datK kd
  | _ => false
def datDs : List D → Bool
  | [] => true
  | d :: ds => datD d && datDs ds
def datK : List (Key × D) → Bool
  | [] => true
  | (_, d) :: r => datD d && datK r
end
def O0 : Ow := ⟨[], []⟩
theorem no0 (a : Addr) : O0.no a := ⟨by simp [O0], by simp [O0]⟩
section
variable {K : PySem.W.Frag} {O : Ow} {H : Hp}
mutual
theorem dat_rep : ∀ {d : D} {v : V}, datD d = true → Rep K O H d v → Rep K O0 H d v
  | .non, _, _, h => h
  | .bl _, _, _, h => h
  | .int _, _, _, h => h
  | .str _, _, _, h => h
  | .ty _, _, _, h => h
  | .glo _, _, _, h => h
  | .tup _, _, f, h => by
    obtain ⟨a, xs, rfl, h1, h2⟩ := h
    exact ⟨a, xs, rfl, h1, dat_reps (by simpa only [datD] using f) h2⟩
  | .lst _, _, f, h => by
    obtain ⟨a, xs, rfl, _, h1, h2⟩ := h
    exact ⟨a, xs, rfl, no0 a, h1, dat_reps (by simpa only [datD] using f) h2⟩
  | .dK _, _, f, h => by
    obtain ⟨a, xs, rfl, _, h1, h2⟩ := h
    exact ⟨a, xs, rfl, no0 a, h1, dat_repK (by simpa only [datD] using f) h2⟩
  | .scr _, _, f, _ => by cases f
  | .dT _, _, f, _ => by cases f
  | .obj _ _, _, f, _ => by cases f
  | .own _, _, f, _ => by cases f
  | .xcp _ _ _, _, f, _ => by cases f
  | .exo _ _, _, f, _ => by cases f
  | .tab _ _ _, _, f, _ => by cases f
theorem dat_reps : ∀ {d : List D} {v : List V}, datDs d = true → Reps K O H d v → Reps K O0 H d v
  | [], _, _, h => h
  | _ :: _, _, f, h => by
    obtain ⟨v, r, rfl, h1, h2⟩ := h
    simp only [datDs, Bool.and_eq_true] at f
    exact ⟨v, r, rfl, dat_rep f.1 h1, dat_reps f.2 h2⟩
theorem dat_repK : ∀ {d : List (Key × D)} {v : List (Key × V)}, datK d = true → RepK K O H d v → RepK K O0 H d v
  | [], _, _, h => h
  | (_, _) :: _, _, f, h => by
    obtain ⟨v, r, rfl, h1, h2⟩ := h
    simp only [datK, Bool.and_eq_true] at f
    exact ⟨v, r, rfl, dat_rep f.1 h1, dat_repK f.2 h2⟩
end
def frzD (S : Sto) : Option D → Option D
  | none => none
  | some (.own k) => (match S[k]? with
    | some (.lst ds) => if datDs ds = true then some (.lst ds) else none
    | some (.dK kd) => if datK kd = true then some (.dK kd) else none
    | _ => none)
  | some d => if datD d = true then some d else none
theorem frz_one {S : Sto} (wf : WF K O H S) {d : D} {v : V} (r : Rep K O H d v) : ∀ d', frzD S (some d) = some d' → Rep K O0 H d' v := by
  intro d' e
  cases d
  case own k =>
    obtain ⟨a, ha, rfl⟩ := r
    simp only [frzD] at e
    cases q : S[k]? with
    | none => simp only [q] at e; cases e
    | some c =>
      have ce := wf.cell k a c ha q
      cases c <;> simp only [q] at e <;> try cases e
      case lst ds =>
        obtain ⟨xs, h1, h2⟩ := ce
        by_cases f : datDs ds = true
        · rw [if_pos f] at e
          cases e
          exact ⟨a, xs, rfl, no0 a, h1, dat_reps f h2⟩
        · rw [if_neg f] at e; cases e
      case dK kd =>
        obtain ⟨xs, h1, h2⟩ := ce
        by_cases f : datK kd = true
        · rw [if_pos f] at e
          cases e
          exact ⟨a, xs, rfl, no0 a, .inl h1, dat_repK f h2⟩
        · rw [if_neg f] at e; cases e
  all_goals
    simp only [frzD] at e
    split at e
    · rename_i f
      cases e
      exact dat_rep f r
    · cases e
theorem frz_env {S : Sto} (wf : WF K O H S) : ∀ {ρ : DE.Env} {σ : L2.St}, REnv K O H ρ σ → REnv K O0 H (ρ.map (frzD S)) σ
  | _, _, .nil => .nil
  | _, _, .cons (d := none) h t => .cons trivial (frz_env wf t)
  | _, _, .cons (d := some d) h t => by
    refine .cons ?_ (frz_env wf t)
    obtain ⟨v, e1, h⟩ := h
    cases q : frzD S (some d) with
    | none => exact trivial
    | some d' => exact ⟨v, e1, frz_one wf h d' q⟩
end
def dFz (f : ME) : ME := fun ρ S => match f (ρ.map (frzD S)) [] with
  | .ok v _ => if flatD v = true then .ok v S else .bad
  | _ => .bad
theorem de_fz {X : Cx} {W : WX} {e : Expr} {f : ME} (he : DE X W e f) : DE X W e (dFz f) := ⟨PE.imp he.pe fun σ H Q ⟨O, ρ, S, st, h⟩ => by
  have st0 : Stt X.K O0 H (ρ.map (frzD S)) σ [] := ⟨⟨.nil, rfl, fun k a d h => by simp [O0] at h, fun a h => by cases h⟩, frz_env st.wf st.env⟩
  refine ⟨O0, ρ.map (frzD S), [], st0, ?_⟩
  unfold dFz at h
  cases q : f (ρ.map (frzD S)) [] with
  | exc x S' => rw [q] at h; exact h.elim
  | bad => rw [q] at h; exact h.elim
  | ok v S' =>
    rw [q] at h
    simp only at h
    obtain ⟨fv, h⟩ := After.ite h
    intro O3 H3 u e st3 r
    have kept : ∀ b o, H b = some o → H3 b = some o := fun b o z => e.keep b o (by simp [O0]) z
    have e2 : DE.Ext O H O H3 := ⟨⟨[], by simp, fun _ z => by cases z⟩, ⟨[], by simp, fun _ z => by cases z⟩, fun b o _ z => kept b o z, fun b xs z => kept b _ z, fun b z => e.there b z⟩
    have same : ∀ b, b ∈ O.l ∨ b ∈ O.u → H3 b = H b := fun b hb => by
      obtain ⟨o, ho, _⟩ := st.wf.cases hb
      rw [ho, kept b o ho]
    have st4 : Stt X.K O H3 ρ σ S := ⟨⟨st.wf.nd, st.wf.len, fun j b d h1 h2 => (st.wf.cell j b d h1 h2).mono (e2.w st.wf) (same b (.inl (List.mem_of_getElem? h1))), fun b hb => by
      obtain ⟨h1, o, h2, h3⟩ := st.wf.hid b hb
      exact ⟨h1, o, by rw [same b (.inr hb)]; exact h2, h3⟩⟩, st.env.mono (e2.w st.wf)⟩
    exact h O H3 u e2 st4 (flat_rep (fun _ _ z => z) fv r)⟩
end LM

set_option maxHeartbeats 4000000
/-! sorted(set(a list of texts)) -/
namespace LM
open PySem PySem.Spec PyProof.Rows L2 DE PySem.Froz
section
variable {P : Program} {w : World} {A : Around} {E : Value → Shared → Prop} {s : Shared}
set_option maxHeartbeats 8000000 in
theorem set_lst {t : Addr} {items : Array Value} {xs : List Str} {Q : Value → Shared → Prop} (hh : A.handled = none) (ht : s.heap.IsList t items) (sz : items.size = xs.length) (hi : ∀ (i : Nat) (v : Value), items[i]? = some v → ∃ k u, xs[i]? = some k ∧ v = .str k u) (hb : xs.length + 1 < scanBound)
    (done : ∀ (hp : Heap) (tk : Nat), StrS P w hp s.heap.objs.size (putAll [] xs) → (∀ b o, s.heap.get? b = some o → hp.get? b = some o) → Q (.ref s.heap.objs.size) { s with heap := hp, toks := tk }) :
    wpAny (model P w) A (call (.type "set") [.ref t]) Q E s := by
  obtain ⟨cls0, tail0, m0⟩ := F.called_set.mro
  have (eq := _) c1 := F.called_set.made
  have (eq := _) c2 := F.called_set.sub
  have (eq := _) c3 := F.called_set.notType
  have (eq := _) c4 := F.called_set.canCreate
  have (eq := _) c5 := F.typeCall_set_1 (.ref t)
  refine wpAny_call (codeAny_of_tree (show wpAny _ _ (callAny (.type "set") _) _ _ _ from wpAny_pure ⟨Code.quiet_builtin _ (by decide +kernel), codeAny_builtin F.entry_type_call ?_⟩))
  rw [Around.under_plain (weight_type_call_type "set" [.ref t] []) rfl]
  repeat (any_goals (first | assumption | wp_step))
  refine codeAny_mono (code_set_led1 (.ref t) (E := E) (Q₁ := fun u s1 => u = .ref s.heap.objs.size ∧ s1 = { s with heap := s.heap.push (mtS w) }) ⟨rfl, rfl⟩) ?_
  rintro (er | fl) s1 hr
  · exact hr
  cases fl <;> try exact hr.elim
  obtain ⟨rfl, rfl⟩ := hr
  have g0 : (s.heap.push (mtS w)).get? s.heap.objs.size = some (mtS w) := Heap.get?_push_size _ rfl
  have ty : Shared.TypeIs { s with heap := s.heap.push (mtS w) } (.ref s.heap.objs.size) "set" := ⟨_, g0, rfl⟩
  have c6 := F.called_set.init.lookup
  have c7 := F.called_set.init.bind (.ref s.heap.objs.size)
  repeat (any_goals (first | assumption | wp_step))
  refine codeAny_mono (codeAny_call_builtin (R := wants (fun r s2 => r = .none ∧ ∃ hp tk, s2 = { s with heap := hp, toks := tk } ∧ StrS P w hp s.heap.objs.size (putAll [] xs) ∧ ∀ b o, s.heap.get? b = some o → hp.get? b = some o) E) F.called_set.init.plain F.entry_set_init (check_set_init_1 ty ?_)) ?_
  · obtain ⟨⟨oc, od, dt, sl⟩, ho, hc, nn, hd⟩ := ht
    dsimp only at hc hd
    subst hc hd
    have q1 := F.sub_list_set
    have q2 := F.sub_list_frozenset
    have q3 : (Value.type "list" == Value.type "dict") = false := by decide
    have ho1 : (s.heap.push (mtS w)).get? t = some { cls := .type "list", dict := od, data := .seq items nn, slots := sl } := Heap.get?_push_of_some _ ho
    have tp : (s.heap.push (mtS w)).IsList t items := ⟨_, ho1, rfl, nn, rfl⟩
    unfold Builtin.«set.__init__» noKeywords Builtin.Frozenset.updateFrom
    generalize eIt : pyIter = it
    wp_walk
    subst eIt
    refine wpAny_pyIter_list tp (wpAny_bind (wpAny_runValue ?_))
    have lt : t < s.heap.objs.size := Heap.lt_size ho
    have sp : (s.heap.push (mtS w)).objs.size = s.heap.objs.size + 1 := Heap.size_push ..
    have n1 : t ≠ (s.heap.push (mtS w)).objs.size := fun z => absurd (z.trans sp) (Nat.ne_of_lt (Nat.lt_succ_of_lt lt))
    have n2 : s.heap.objs.size ∉ [(s.heap.push (mtS w)).objs.size, t] := fun z => by
      rcases List.mem_cons.mp z with z | z
      · exact absurd (z.trans sp) (Nat.ne_of_lt (Nat.lt_succ_self _))
      · exact absurd (List.mem_singleton.mp z).symm (Nat.ne_of_lt lt)
    have g1 : ((s.heap.push (mtS w)).push { cls := .type "list_iterator", data := .fields #[.ref t, .int 0 0] }).get? s.heap.objs.size = some (mtS w) := Heap.get?_push_of_some _ g0
    refine strs_loop ((Walks.list (show A.in1.in1.in1.handled = none by simp [hh]) _ t n1 items).toS) n2 sz hb hi (items.size - 0) 0 [] _ rfl (Nat.zero_le _) (Nat.le_refl _) ⟨⟨_, Heap.get?_push_size _ rfl, rfl, rfl⟩, tp.push _⟩ (mtS_ok g1) fun s5 mv R5 => ?_
    obtain ⟨h5, g5, d5, t5, o5⟩ := s5
    obtain rfl : g5 = s.gens := mv.gens
    obtain rfl : d5 = s.drawn := mv.drawn
    obtain rfl : o5 = s.os := mv.os
    refine (show wpAny _ _ _ _ _ _ from wpAny_pure (show wpAny _ _ (ret Value.none) _ _ _ from wpAny_pure ⟨rfl, h5, t5, rfl, R5, fun b o z => ?_⟩))
    have lb : b < s.heap.objs.size := Heap.lt_size z
    refine mv.heap b o (fun y => ?_) (Heap.get?_push_of_some _ (Heap.get?_push_of_some _ z))
    rcases List.mem_cons.mp y with y | y
    · exact absurd y (Nat.ne_of_lt lb)
    · exact absurd ((List.mem_singleton.mp y).trans sp) (Nat.ne_of_lt (Nat.lt_succ_of_lt lb))
  · rintro (er | fl) s6 hr
    · exact hr
    cases fl <;> try exact hr.elim
    obtain ⟨rfl, h6, t6, rfl, R6, k6⟩ := hr
    repeat (any_goals (first | assumption | wp_step))
    exact done h6 t6 R6 k6
end
def dSSL (f : ME) : ME := fun ρ S => (f ρ S).bind fun d S1 => match lstAt S1 d with
  | some ds => (match strsOf ds with
    | some xs => if xs.length < 4000 then .ok (.lst ((sortD xs).map .str)) S1 else .bad
    | none => .bad)
  | none => .bad
section
variable {X : Cx} {W : WX} {a : Expr} {f : ME} {p p2 q pos : Pos}
theorem de_ssL (hc : X.calm = true) (hg : Gl X "sorted") (hm : X.mg "sorted" = none) (hg2 : Gl X "set") (hm2 : X.mg "set" = none) (he : DE X W a f) (na : starEach [a] X.env = (false, eval a X.env) :: starEach [] X.env := by rfl) :
    DE X W (.Call (.Name "sorted" p) [.Call (.Name "set" p2) [a] [] q] [] pos) (dSSL f) := ⟨⟨fun pins s σ H Q I ⟨O, ρ, S, st, h⟩ => by
  refine Call_ (ld_blt I hg hm (show bootBuiltins "sorted" = some (.builtin "sorted") by decide +kernel) ?_)
  refine PyProof.Rows.callWith_builtin1 (PyProof.Rows.args_cons ?_ rfl) rfl rfl
  refine Call_ (ld_blt I hg2 hm2 (show bootBuiltins "set" = some (.type "set") by decide +kernel) ?_)
  refine PyProof.Rows.callWith_type1 (PyProof.Rows.args_cons (thn (he.pe.run pins s σ H (fun v H1 => ∃ O1 d S1, Stt X.K O1 H1 ρ σ S1 ∧ Rep X.K O1 H1 d v ∧ After X.K W (Rep X.K) ρ σ O1 H1 Q (match lstAt S1 d with
    | some ds => (match strsOf ds with
      | some xs => if xs.length < 4000 then .ok (.lst ((sortD xs).map .str)) S1 else .bad
      | none => .bad)
    | none => .bad)) I ⟨O, ρ, S, st, After.seq h fun d S1 O1 H1 v e1 st1 r1 h1 => ⟨O1, d, S1, st1, r1, h1⟩⟩) fun u s1 ⟨v, H1, I1, rv, O1, d, S1, st1, r1, h1⟩ => PyProof.Rows.args_nil ?_) na) na rfl
  cases ed : lstAt S1 d with
  | none => simp only [ed] at h1; exact h1.elim
  | some ds =>
  simp only [ed] at h1
  cases e : strsOf ds with
  | none => simp only [e] at h1; exact h1.elim
  | some xs =>
    by_cases hl : xs.length < 4000
    · simp only [e, hl, if_true] at h1
      obtain ⟨t, vs, rfl, ht, rs⟩ := lstAt_rep st1 ed r1
      obtain rfl := strs_rep e rs
      cases rv
      obtain ⟨its, rvs, tp, _⟩ := I1.list (.inl (.inl ht))
      have SA : StrsAre its xs := rvs.strs
      have ln : its.toArray.size = xs.length := by rw [List.size_toArray]; exact (rvs.length.symm).trans (List.length_map _)
      refine set_lst (I1.ok.hd hc) tp.isList ln (fun i v hv => strs_at2 SA (by simpa using hv)) (by unfold scanBound; omega) fun hp tk R k1 => PyProof.Rows.args_nil ?_
      have I2 : Inv X pins σ H1 { s1 with heap := hp, toks := tk } := I1.kept k1
      have lp : (putAll [] xs).length < scanBound := by
        have := putAll_len (r := xs) (l := [])
        unfold scanBound
        simp at this
        omega
      refine sorted_set_strs R (I2.ok.hd hc) lp fun s3 b out c k3 g3 o3 z3 at3 y3 => ?_
      rw [sortD_put] at y3
      have hn : H1 b = none := I2.hok.fresh z3
      obtain ⟨e2, st2⟩ := st1.new (o := .lst ((sortD xs).map V.str)) hn
      have lz : ((sortD xs).map V.str).length ≤ sizeLine := by
        have := sortD_len (l := xs)
        rw [List.length_map, sizeLine_eq]; omega
      have J : Inv X pins σ (upd H1 b (.lst ((sortD xs).map V.str))) s3 := I2.call' (ch := []) o3 (Un.laid k3 z3 hn) (I2.hok.laid k3 z3 ⟨lz, out.toList, c, vals_of_strs y3, at3⟩) (by rw [g3]; exact I2.bare) (fun _ z => nomatch z)
      exact ⟨.ref b, _, J, rfl, h1 O1 _ _ e2 st2 ⟨b, _, rfl, st1.no hn, upd_same, reps_strs⟩⟩
    · simp only [e, hl, if_false] at h1; exact h1.elim⟩⟩
end
end LM

set_option maxHeartbeats 4000000
/-! several except clauses, each with the name -/
namespace LM
open PySem PySem.Spec PyProof.Rows L2
def dropI (i : Nat) (D : Ends) : Ends := { nx := fun σ' H' => D.nx (σ'.set i none) H', rt := D.rt, bk := fun σ' H' => D.bk (σ'.set i none) H', ct := fun σ' H' => D.ct (σ'.set i none) H' }
/-- the wishes of named clauses, in turn; n is in slot i -/
def wManyA (K : PySem.W.Frag) (i : Nat) (Wout : WX) (D : Ends) : List (Value × (Addr → Value → Option Addr → TS)) → WX
  | [] => Wout
  | (c, ts) :: r => fun cls d σ H => ∃ b, PySem.W.exmOne K cls c = some b ∧ (b = true → ∀ a, H a = none → ts a cls d (dropI i D) (σ.set i (some (.ref a))) H) ∧ (b = false → wManyA K i Wout D r cls d σ H)
inductive HdsA (X : Cx) (n : Str) : List ExceptHandler → List (Value × (Addr → Value → Option Addr → TS)) → Prop
  | nil : HdsA X n [] []
  | cons {x : Str} {c : Value} {ts : Addr → Value → Option Addr → TS} {b₀ : Stmt} {suite : List Stmt} {np pos' : Pos} {hds : List ExceptHandler} {l : List (Value × (Addr → Value → Option Addr → TS))} (hc : Names X x c)
      (hsu : ∀ (a : Addr) (oe : Obj) (cls : Value) (d : Option Addr) (pn : List (Addr × Obj)), Zc cls d oe → (∃ vs, oe.data = .fields vs) → PSs (X.suite a ((a, oe) :: pn)) (b₀ :: suite) (ts a cls d)) (r : HdsA X n hds l) :
      HdsA X n (.ExceptHandler (some (.Name x np)) (some n) (b₀ :: suite) pos' :: hds) ((c, ts) :: l)
section
variable {X : Cx} {body : List Stmt} {h₀ : ExceptHandler} {hds : List ExceptHandler} {l : List (Value × (Addr → Value → Option Addr → TS))} {pos : Pos} {tb : WX → TS} {Wout : WX}
theorem ps_try_manyA {n : Str} {i : Nat} (hN : X.N.Nodup) (hi : X.N[i]? = some n) (hln : X.env.kindOf n = some .local) (hst : X.stack = X.env :: X.outer) (hfm : X.env.frame = some X.env.locals) (tk0 : Takes X Wout)
    (hbd : ∀ (W : WX) (pn : List (Addr × Obj)) (xe : Value → Shared → Prop), Takes (X.tr pn xe) W → PassesOwn (model X.prog X.w) X.A X.env xe → PSs (X.tr pn xe) body (tb W))
    (hh0 : HdsA X n (h₀ :: hds) l) : PS X (.Try body (h₀ :: hds) [] [] pos) (fun D σ H => tb (wManyA X.K i Wout D l) D σ H) := by
  refine ⟨fun pz s σ H D I h => ?_⟩
  have ok0 := I.ok
  have hloc : Loc X.env.scope n := .inl hln
  have hf0 : X.A.frames = some (X.env :: X.outer) := by rw [ok0.frames, hst]
  refine wpAny_Try_except ?_
  refine wpAny_mono ((hbd (wManyA X.K i Wout D l) (X.pn ++ pz) (fun e s₁ => wpAny (model X.prog X.w) X.A (noteFrame e X.env) (fun _ s₂ => wpAny (model X.prog X.w) X.A (setFlight e none) (fun _ s₃ =>
    wpAny (model X.prog X.w) X.A (handleBy e X.env (h₀ :: hds)) (SP X pz D) X.xe s₃) X.xe s₂) X.xe s₁) (fun u s' xc => ?_) PassesOwn.looking).run [] s σ H D (I.toTry _) h) (fun f sa hz0 => ?_) (fun e sa he => he)
  · -- the catch
    obtain ⟨a, B, sI0, pz1, σ', H', cls, d, rfl, J1, nb, up, sky, na, os, ag, w⟩ := xc
    have J : Inv X pz σ' H' sI0 := J1.ofTry ok0
    have sky1 : Sky B (X.env :: X.outer) a (Zc cls d) X.env.locals s'.heap := by rw [← hst]; exact sky
    show wpAny (model X.prog X.w) X.A (noteFrame (.ref a) X.env) _ _ _
    refine Sky.land Zc.steady hf0 hfm sky1 fun p3 g3 w3 => ?_
    have I3 : Inv X pz σ' H' { s' with heap := p3 } := J.landed nb g3.1 (up.trans w3) os ag
    obtain ⟨ob3, fs3, hb3, zc3, dt3⟩ := g3.there
    have nf1 : ∀ {h : Heap} {o : Obj} {vs : Array Value}, h.FunFrames B (X.env :: X.outer) → h.get? a = some o → o.data = .fields vs → a ∉ frs (X.env :: X.outer) := fun {h o vs} ff e dd hm => by
      obtain ⟨_, o', e', hnf⟩ := ff.mem hm
      rw [e] at e'; cases e'
      exact hnf _ dd
    have nf0 := nf1 g3.2.2.1 hb3 dt3
    have nl0 : a ≠ X.env.locals := fun z => nf0 (List.mem_filterMap.mpr ⟨X.env, List.mem_cons_self, by rw [hfm, z]⟩)
    have nf2 : a ∉ X.fs := fun hm => by
      obtain ⟨e, he, q⟩ := List.mem_filterMap.mp hm
      exact nf0 (List.mem_filterMap.mpr ⟨e, List.mem_cons_of_mem _ he, q⟩)
    have Z3 := I3.suite hb3 dt3 na nl0 nf2
    have go : ∀ {hds' : List ExceptHandler} {l' : List (Value × (Addr → Value → Option Addr → TS))}, HdsA X n hds' l' → wManyA X.K i Wout D l' cls d σ' H' →
        wpAny (model X.prog X.w) X.A (handleBy (.ref a) X.env hds') (SP X pz D) X.xe { s' with heap := p3 } := by
      intro hds' l' hk
      induction hk with
      | nil =>
        intro w
        refine wpAny_handleBy_nil ?_
        obtain ⟨k1, k2, k3, oe, vs, T, oT, ts', he, hz, hd, h1, hr⟩ := id g3
        unfold PySem.passOn
        refine wpAny_bind (wpAny_field he hd h1 ?_)
        rw [if_neg (show ¬ ((Value.ref T == Value.none) = true) from by simp)]
        have fin0 : wpAny (model X.prog X.w) X.A (setFlight (.ref a) X.env.frame) (fun _ s4 => wpAny (model X.prog X.w) X.A (throw (.ref a) : Sem Flow) (SP X pz D) X.xe s4) X.xe { s' with heap := p3 } := by
          rw [hfm]
          refine HandSPX.setFlight_upZ g3 fun p4 hh4 w4 => wpAny_throw (tk0 _ _ ?_)
          exact ⟨a, B, sI0, pz, σ', H', cls, d, rfl, J, nb, (up.trans w3).trans w4, .inr (.inr (by rw [hst]; exact hh4)), na, os, ag, w⟩
        first
          | exact wpAny_bind (wpAny_pure (wpAny_bind fin0))
          | exact wpAny_bind fin0
      | @cons x c ts b₀ suite np pos' hds2 l2 hc hsu r ih =>
        intro w
        obtain ⟨b, ht1, hy1, hn1⟩ := w
        refine wpAny_handleBy_cons (codeAny_handlers_test ?_) (by intro q; cases q)
        have LT0 : PySem.W.Looks (model X.prog X.w) p3 (typeOf (.ref a)) cls := fun A Q E s k q => wpAny_typeOf_ref (k _ _ hb3) (by rw [zc3.1]; exact q)
        have LM0 := PySem.W.exm_one (M := model X.prog X.w) (I3.kIn) LT0 ht1
        have tst : ∀ {Q : Value → Shared → Prop} {E : Value → Shared → Prop}, Q c { s' with heap := p3 } → wpAny (model X.prog X.w) (X.A.mark (some (.ref a))) (eval (.Name x np) X.env) Q E { s' with heap := p3 } := fun {Q E} q => by
          obtain ⟨hg, hdb0, hm | ⟨hm, hv, hnn⟩⟩ := hc
          · exact ld_glob (X := X.suite a ((a, ob3) :: (X.pn ++ pz))) Z3 hg hm q hdb0
          · exact ld_blt (X := X.suite a ((a, ob3) :: (X.pn ++ pz))) Z3 hg hm hv q hnn hdb0
        refine tst (LM0.here ?_)
        cases b with
        | true =>
          refine codeAny_handlers_suite_as ?_
          refine HandSPX.lands_againZ g3 fun p4 g4 w4 => ?_
          have I4 : Inv X pz σ' H' { s' with heap := p4 } := J.landed nb g4.1 ((up.trans w3).trans w4) os ag
          obtain ⟨ob4, fs4, hb4, zc4, dt4⟩ := g4.there
          have Z4 := I4.suite hb4 dt4 na nl0 nf2
          refine store_ok (X := X.suite a ((a, ob4) :: (X.pn ++ pz))) (v := .ref a) Z4 hN hi hloc rfl (fun sa5 Z5 => ?_) (.inr hln)
          refine wpAny_mono ((hsu a ob4 cls d (X.pn ++ pz) zc4 ⟨_, dt4⟩).run [] sa5 _ H' _ Z5 (hy1 rfl a na)) (fun f sa6 hz0 => ?_) (fun _ _ z => False.elim z)
          have fin_ : ∀ {σ6 : L2.St} {H6 : Hp} {Q : Shared → Prop} {pq : Pos}, Inv (X.suite a ((a, ob4) :: (X.pn ++ pz))) [] σ6 H6 sa6 → (∀ sb7, Inv X pz (σ6.set i none) H6 sb7 → Q sb7) →
              wpAny (model X.prog X.w) X.A (do bindName X.env n .none; unbindBehindTheSuite X.env n pq) (fun _ sb7 => Q sb7) X.xe sa6 := fun {σ6 H6 Q pq} Z6 hq => gone_ok (Z6.unsuite ok0) hN hi hln hq
          cases f with
          | next =>
            obtain ⟨σ6, H6, Z6, qe6⟩ := hz0
            exact fin_ Z6 fun sb7 I7 => ⟨_, _, I7, qe6⟩
          | brk =>
            obtain ⟨σ6, H6, Z6, qe6⟩ := hz0
            exact fin_ Z6 fun sb7 I7 => ⟨_, _, I7, qe6⟩
          | cont =>
            obtain ⟨σ6, H6, Z6, qe6⟩ := hz0
            exact fin_ Z6 fun sb7 I7 => ⟨_, _, I7, qe6⟩
          | ret u =>
            obtain ⟨v6, σ6, H6, Z6, r6, qe6⟩ := hz0
            exact fin_ Z6 fun sb7 I7 => ⟨_, _, _, I7, r6, qe6⟩
        | false =>
          show wpAny _ X.A (handleBy (.ref a) X.env hds2) _ _ _
          exact ih (hn1 rfl)
    exact go hh0 w
  · cases f with
    | next =>
      obtain ⟨σ', H', J1, q⟩ := hz0
      exact wpAny_execs_nil ⟨σ', H', J1.ofTry ok0, q⟩
    | brk =>
      obtain ⟨σ', H', J1, q⟩ := hz0
      exact ⟨σ', H', J1.ofTry ok0, q⟩
    | cont =>
      obtain ⟨σ', H', J1, q⟩ := hz0
      exact ⟨σ', H', J1.ofTry ok0, q⟩
    | ret u =>
      obtain ⟨v, σ', H', J1, r, q⟩ := hz0
      exact ⟨v, σ', H', J1.ofTry ok0, r, q⟩
end
end LM

set_option maxHeartbeats 4000000
/-! raise C(e), C an own class of one field over any built-in error -/
namespace LM
open PySem PySem.Spec PyProof.Rows L2 DE XN
section
variable {X : Cx} {pins : List (Addr × Obj)} {σ : L2.St} {x f : Str} {p pos : Pos} {e : Expr} {ta : TA}
def tMkG (C : Addr) (f : Str) (ta : TA) : L2.St → Hp → XK → Prop := fun σ H Q => ta σ H fun vs H1 => ∃ v, vs = [v] ∧ ∀ dn, H1 dn = none → Q (.ref C) (some dn) (upd H1 dn (.xd [(f, v)]))
theorem un_retag {L : List Addr} {H1 H2 : Hp} {h h2 : Heap} {d : Addr} {fs : List (Str × V)} (un : Un L [] H1 H2 h h2) (ed : H2 d = some (.xd fs)) (hd : H1 d = none) : Un L [] H1 (upd H2 d (exd d fs)) h h2 := {
  keep := un.keep
  slot := un.slot
  free := fun b o z n hx => by
    have q := un.free b o z n hx
    rw [upd_ne fun y => by rw [y, ed] at q; cases q]
    exact q
  there := un.there
  tups := fun b xs z => by
    rw [upd_ne (ne_of_none z hd)]
    exact un.tups b xs z
  frzs := fun b o v z => by
    rw [upd_ne (ne_of_none z hd)]
    exact un.frzs b o v z
  tbls := fun b ps z => by
    rw [upd_ne (ne_of_none z hd)]
    exact un.tbls b ps z }
theorem del_hide {H : Hp} {a d : Addr} {o1 o2 u v : HO} (n : H a = none) (ne : d ≠ a) : upd (del (upd (upd (upd (upd H a o1) d u) a o2) d v) a) d u = upd H d u := by
  funext y
  by_cases h1 : y = d
  · subst h1; rw [upd_same, upd_same]
  · rw [upd_ne h1, upd_ne h1]
    by_cases h2 : y = a
    · subst h2; rw [del_same, n]
    · rw [del_ne h2, upd_ne h1, upd_ne h2, upd_ne h1, upd_ne h2]
theorem pmkG {C fI : Addr} {k : Nat} {fd : FuncData} (T : OexG X.K C) (iC : PySem.W.findIn X.K (.ref C) "__init__" = some (some (.ref fI))) (tI : PySem.W.typeIn X.K (.ref fI) = some (.type "function")) (no : PySem.W.findIn X.K (.ref C) f = some none) (ra : Raises X (.ref C))
    (G : FnOk X.prog X.w X.K X.mg X.base (L2.CX X.prog X.w) k fI fd ["self", "value"] (in1 X.K f)) (hr : Room (k + 1) X.A) (hb : Binds X.K fd ["self", "value"] []) (hg : Gl X x) (hm : X.mg x = some (.ref C)) (ha : PA X [e] ta)
    (hdb : (x == ("__debug__" : Str)) = false := by decide) (he : starEach (e :: []) X.env = (false, eval e X.env) :: starEach [] X.env := by rfl) (hpl : (backTo pos (starEach [] X.env)).any (·.1) = false := by rfl) :
    PMk X (.Call (.Name x p) [e] [] pos) (tMkG C f ta) := by
  intro pins s σ H Q I h
  obtain ⟨L, mk, ini, mL, nm, q, N, bs, bm, sn, sub, ab, col, dd, k0, k1, k2, k3, k5, FL, hb1, lt, look⟩ := T.cls
  refine wpAny_Call_Name_kw (ld_glob I hg hm ?_ hdb)
  refine PySem.W.callWith_K (h₀ := X.base) I.ok.mod.kin T.keep (thn (ha.run pos pins s σ H _ I h) fun us s1 ⟨vs, H1, I1, r1, v, ev, q1⟩ => ⟨I1.kIn, ?_⟩) he hpl
  show wpAny _ _ (call (.ref C) us) _ _ _
  subst ev
  obtain ⟨u, rfl, ru⟩ : ∃ u, us = [u] ∧ RelV v u := by
    cases r1 with
    | cons a b => cases b; exact ⟨_, rfl, a⟩
  obtain ⟨hp, g0, dr, tk, os⟩ := s1
  generalize ez : hp.objs.size + 1 = z
  have hn : H1 z = none := by subst ez; exact I1.hok.fresh (Nat.le_succ _)
  have kk : ∀ b o, hp.get? b = some o → ((hp.push (PySem.W.kdv_tup [u])).push (PySem.HandSPX.excO C hp.objs.size)).get? b = some o := fun b o e => Heap.get?_push_of_some _ (Heap.get?_push_of_some _ e)
  have at1 : ((hp.push (PySem.W.kdv_tup [u])).push (PySem.HandSPX.excO C hp.objs.size)).get? z = some (PySem.HandSPX.excO C hp.objs.size) := by subst ez; heap_get
  have big : hp.objs.size ≤ z := ez ▸ Nat.le_succ _
  have I2 : Inv X pins σ (upd H1 z (exo z C none)) ⟨(hp.push (PySem.W.kdv_tup [u])).push (PySem.HandSPX.excO C hp.objs.size), g0, dr, tk, os⟩ := I1.laid (t' := tk) (a := z) kk big (exo_ok at1)
  have rv : Vals [V.ref z, v] [Value.ref z, u] := .cons rfl (.cons ru .nil)
  have short : ([u] : List Value).length ≤ sizeLine := by rw [sizeLine_eq]; simp
  refine wpAny_call (exn_call FL hb1 (I1.kIn _ _ look) (PySem.W.looks_findIn I1.kIn iC) (fun me => PySem.W.bind_fn I1.kIn me tI) short ?_)
  rw [ez]
  have q0 : in1 X.K f [V.ref z, v] (upd H1 z (exo z C none)) (fun w H2 => w = .non ∧ ∃ dn, H1 dn = none ∧ dn ≠ z ∧ H2 = upd (upd (upd H1 z (exo z C none)) dn (.xd [(f, v)])) z (exo z C (some dn))) (fun _ _ _ => False) :=
    ⟨z, C, v, rfl, T, no, upd_same, fun dn hd ne => ⟨rfl, dn, by rw [upd_ne ne] at hd; exact hd, ne, rfl⟩⟩
  have bnd := hb ⟨(hp.push (PySem.W.kdv_tup [u])).push (PySem.HandSPX.excO C hp.objs.size), g0, dr, tk, os⟩ [.ref z, u] I2.kIn rfl
  refine codeAny_mono (G.run _ X.stack _ _ ⟨[Value.ref z, u], []⟩ [Value.ref z, u] _ _ (fun _ _ _ => False) (hr.make C [u] []) (I2.env0.make C [u] []) bnd rv q0) ?_
  rintro (er | fl) s' w
  · exact (passL (X := X.nox) pins σ _ _ er s' (I2.wish _) w).elim
  · rcases fl with _ | _ | _ | ur
    all_goals first
      | exact w.elim
      | skip
    obtain ⟨w2, H2, os2, bare2, un2, hok2, rr, ew, dn, hd, ne, eH⟩ := id w
    subst ew
    subst eH
    obtain ⟨_, H3, I3, _, eH3⟩ := I2.after (Q := fun _ H => H = upd (upd (upd H1 z (exo z C none)) dn (.xd [(f, v)])) z (exo z C (some dn))) ⟨_, _, os2, bare2, un2, hok2, rr, rfl⟩
    subst eH3
    have ea : (upd (upd (upd H1 z (exo z C none)) dn (.xd [(f, v)])) z (exo z C (some dn))) z = some (exo z C (some dn)) := upd_same
    have ed : (upd (upd (upd H1 z (exo z C none)) dn (.xd [(f, v)])) z (exo z C (some dn))) dn = some (.xd [(f, v)]) := by rw [upd_ne ne, upd_same]
    have hd0 : upd H1 z (exo z C none) dn = none := by rw [upd_ne ne]; exact hd
    have un3 := un_retag un2 ed hd0
    have hok3 := (retag I3 ed).hok
    refine ⟨rr, ?_⟩
    obtain ⟨h2, g2, d2, t2, os'⟩ := s'
    refine mk_end ra I1 big kk un3 hok3 os2 bare2 (by rw [upd_ne (Ne.symm ne)]; exact ea) upd_same hd ?_
    rw [del_hide hn ne]
    exact q1 dn hd
end
end LM
namespace LM
open PySem PySem.Spec PyProof.Rows L2 DE XN
def rsB (c : Str) : Xb := fun K => decide (PySem.W.subIn K (.ref (He.ga K c)) (.type "BaseException") = some true) && (decide (PySem.W.typeIn K (.ref (He.ga K c)) = some (.type "type")) && (xfB K (He.ga K c) && kcB K (He.ga K c)))
structure ErrG (P : Program) (w : World) (K : PySem.W.Frag) (mg : Str → Option Value) (base : Heap) (c f : Str) : Prop where
  x : XE K c [f]
  r : rsB c K = true
  ok : ∃ fd, FnOk P w K mg base (L2.CX P w) 1 (He.fAd K (c, some "__init__")) fd ["self", "value"] (in1 K f) ∧ Binds K fd ["self", "value"] []
  gl : mg c = some (.ref (He.ga K c))
section
variable {X : Cx} {W : WX} {p pos pos2 : Pos} {e : Expr} {j : Nat} {c f : Str} {g : ME}
theorem ErrG.k {P : Program} {w : World} {K : PySem.W.Frag} {mg : Str → Option Value} {base : Heap} (E : ErrG P w K mg base c f) : XfC K (He.ga K c) ∧ kcB K (He.ga K c) = true ∧ PySem.W.findIn K (.ref (He.ga K c)) f = some none := by
  have h := E.r
  unfold rsB at h
  simp only [Bool.and_eq_true, decide_eq_true_eq] at h
  exact ⟨xfB_ok h.2.2.1, h.2.2.2, E.x.n f (by simp)⟩
theorem ds_raiseG (E : ErrG X.prog X.w X.K X.mg X.base c f) (hr : Room j X.A) (hc : X.calm = true) (hg : Gl X c) (tk : Takes X W) (he : DE X W e g) (hj : 2 ≤ j := by decide) (hdb : (c == ("__debug__" : Str)) = false := by decide)
    (hs : starEach (e :: []) X.env = (false, eval e X.env) :: starEach [] X.env := by rfl) (hpl : (backTo pos (starEach [] X.env)).any (·.1) = false := by rfl) : DS X W (.Raise (some (.Call (.Name c p) [e] [] pos)) none pos2) (sRaise c f g) := by
  obtain ⟨fd, F1, hb⟩ := E.ok
  have h := E.r
  unfold rsB at h
  simp only [Bool.and_eq_true, decide_eq_true_eq] at h
  refine ⟨PS.imp (ps_raise hc tk (pmkG (X := X) E.x.o E.x.i E.x.t (E.x.n f (by simp)) (raises_own h.1 h.2.1) F1 (hr.mono hj) hb hg E.gl (pa_cons he.pe pa_nil hs) hdb hs hpl)) ?_⟩
  intro D' σ H ⟨O, ρ, S, st, h⟩
  refine ⟨O, ρ, S, st, AfterS.seqE h fun d S1 O1 H1 v e1 st1 r1 h1 => ?_⟩
  refine ⟨v, rfl, fun dn hd1 => ?_⟩
  obtain ⟨e2, st2⟩ := st1.new (o := .xd [(f, v)]) hd1
  exact h1 O1 _ σ _ _ e2 st2 ⟨rfl, dn, _, rfl, upd_same, v, [], rfl, r1.mono (e2.w st1.wf), rfl⟩
end
end LM

set_option maxHeartbeats 4000000
/-! try: .. except A as n: .. except B as n: .. -/
namespace LM
open PySem PySem.Spec PyProof.Rows L2 DE
abbrev Cls2 : Type := (Str → Option Bool) × (Exc → Nat → Nat → MS)
def goH (y : Exc) (i : Nat) (ρ : DE.Env) (S : Sto) : List Cls2 → RS
  | [] => .exc y ρ S
  | (cl, hm) :: r => match cl y.c with
    | none => .bad
    | some true => (hm y 0 0 (ρ.set i (some (.xcp 0 0 y.fs))) S).unset i
    | some false => goH y i ρ S r
def sTryM (fb : MS) (i : Nat) (l : List Cls2) : MS := fun ρ S => match fb ρ S with
  | .exc y ρ1 S1 => goH y i ρ1 S1 l
  | r => r
inductive HsD (X : Cx) (i : Nat) (n : Str) : List ExceptHandler → List Cls2 → List (Value × (Addr → Value → Option Addr → TS)) → Prop
  | nil : HsD X i n [] [] []
  | cons {x : Str} {cl : Str → Option Bool} {hm : Exc → Nat → Nat → MS} {b₀ : Stmt} {suite : List Stmt} {np pos' : Pos} {hds : List ExceptHandler} {l : List Cls2} {ls : List (Value × (Addr → Value → Option Addr → TS))} (hx : Names X x (.ref (He.ga X.K x)))
      (hcl : ∀ c b, cl c = some b → PySem.W.exmOne X.K (.ref (He.ga X.K c)) (.ref (He.ga X.K x)) = some b)
      (hh : ∀ (y : Exc) (a dd : Addr) (oe : Obj) (pn : List (Addr × Obj)), cl y.c = some true → Zc (.ref (He.ga X.K y.c)) (some dd) oe → (∃ vs, oe.data = .fields vs) → DSs (X.suite a ((a, oe) :: pn)) W0 (b₀ :: suite) (hm y a dd))
      (hu : ∀ (y : Exc) (a dd : Nat) (ρ : DE.Env) (S : Sto), cl y.c = some true → (hm y a dd (ρ.set i (some (.xcp a dd y.fs))) S).unset i = (hm y 0 0 (ρ.set i (some (.xcp 0 0 y.fs))) S).unset i) (r : HsD X i n hds l ls) :
      HsD X i n (.ExceptHandler (some (.Name x np)) (some n) (b₀ :: suite) pos' :: hds) ((cl, hm) :: l) ((.ref (He.ga X.K x), tHnd X.K cl i hm) :: ls)
section
variable {X : Cx} {W : WX} {i : Nat} {n : Str}
theorem HsD.hds {hds : List ExceptHandler} {l : List Cls2} {ls : List (Value × (Addr → Value → Option Addr → TS))} (h : HsD X i n hds l ls) : HdsA X n hds ls := by
  induction h with
  | nil => exact .nil
  | cons hx hcl hh hu r ih =>
    refine .cons hx (fun a oe cls d pn hz hd => ⟨?_⟩) ih
    rintro pins s σ H D' I ⟨y, dd, O, ρ, S, rfl, rfl, hc, st, h⟩
    exact (hh y a dd oe pn hc hz hd).pss.run pins s σ H D' I ⟨O, _, S, st, h⟩
theorem HsD.wish {hds : List ExceptHandler} {l : List Cls2} {ls : List (Value × (Addr → Value → Option Addr → TS))} (h : HsD X i n hds l ls) {D' : Ends} {y : Exc} {O : Ow} {H : Hp} {ρ : DE.Env} {S : Sto} {σ : L2.St} {dd : Addr} {vs : List (Str × V)}
    (st : Stt X.K O H ρ σ S) (hd : H dd = some (.xd vs)) (rf : RepF X.K O H y.fs vs) (q : AfterS X.K W D' O H (goH y i ρ S l)) : wManyA X.K i W D' ls (.ref (He.ga X.K y.c)) (some dd) σ H := by
  induction h with
  | nil => exact q O H σ _ _ .refl st ⟨rfl, dd, vs, rfl, hd, rf⟩
  | @cons x cl hm b₀ suite np pos' hds l ls hx hcl hh hu r ih =>
    unfold goH at q
    cases q2 : cl y.c with
    | none => simp only [q2] at q; exact q.elim
    | some b =>
      refine ⟨b, hcl _ _ q2, fun eb a ha => ?_, fun eb => ?_⟩
      · subst eb
        simp only [q2] at q
        rw [← hu y a dd ρ S q2] at q
        have rr : Rep X.K O H (.xcp a dd y.fs) (.ref a) := ⟨rfl, vs, st.noXd hd, hd, rf⟩
        exact ⟨y, dd, O, ρ, S, rfl, rfl, q2, ⟨st.wf, st.env.set rr i⟩, AfterS.unset q⟩
      · subst eb
        simp only [q2] at q
        exact ih q
theorem ds_tryM {body : List Stmt} {h₀ : ExceptHandler} {hds : List ExceptHandler} {l : List Cls2} {ls : List (Value × (Addr → Value → Option Addr → TS))} {pos : Pos} {fb : MS} (hs : X.stack = X.env :: X.outer) (hf : X.env.frame = some X.env.locals) (hN : X.N.Nodup) (hi : X.N[i]? = some n) (hln : X.env.kindOf n = some .local) (tk : Takes X W)
    (hb : ∀ (W' : WX) (pn : List (Addr × Obj)) (xe : Value → Shared → Prop), Takes (X.tr pn xe) W' → PassesOwn (model X.prog X.w) X.A X.env xe → DSs (X.tr pn xe) W' body fb) (hh : HsD X i n (h₀ :: hds) l ls) :
    DS X W (.Try body (h₀ :: hds) [] [] pos) (sTryM fb i l) := by
  refine ⟨PS.imp (ps_try_manyA (tb := fun W' => tS X.K W' fb) hN hi hln hs hf tk (fun W' pn xe t p => (hb W' pn xe t p).pss) hh.hds) ?_⟩
  intro D' σ H ⟨O, ρ, S, st, h⟩
  refine ⟨O, ρ, S, st, ?_⟩
  unfold sTryM at h
  cases q : fb ρ S with
  | nx ρ1 S1 => rw [q] at h; exact h
  | bk ρ1 S1 => rw [q] at h; exact h
  | ct ρ1 S1 => rw [q] at h; exact h
  | rt d S1 => rw [q] at h; exact h
  | bad => rw [q] at h; exact h
  | exc y ρ1 S1 =>
    rw [q] at h
    rintro O1 H1 σ1 cls dx e1 st1 ⟨rfl, dd, vs, rfl, hd, rf⟩
    exact hh.wish st1 hd rf (AfterS.mono h e1)
end
end LM

set_option maxHeartbeats 4000000
/-! f(lambda: e), f calls it in a try -/
namespace LM
open PySem PySem.Spec PyProof.Rows L2 LamX DE
section
variable {X : Cx} {pins : List (Addr × Obj)} {σ : L2.St} {H : Hp} {s : Shared}
/-- a lambda that reads names of the def around it -/
theorem lam_newC {c P : Addr} {ps : Array Value} {params : Arguments} {body : Expr} {scope : Scope} {lp : Pos} {Z : Value → Shared → Prop} {Q : Value → Shared → Prop} (I : Inv X pins σ H s) (TB : TabB X.base X.mg c P) (hcode : X.env.code = .ref c)
    (tbl : H P = some (.tbl ps)) (kn : Knows H (X.env.qual ++ "<lambda>") ps) (hdef : defaultsOf params X.env = ([], [])) (hfree : ∀ y ∈ scope.names, y.2 = .free → ∃ c, X.env.cells.lookup y.1 = some c)
    (go : ∀ (f d : Addr) (pm ctv : Value) (H1 : Hp) (s1 : Shared), Inv X pins σ H1 s1 → Grown H H1 P d (X.env.qual ++ "<lambda>") ps → H1 d = some (CodeO d (X.env.qual ++ "<lambda>")) →
      s1.heap.get? f = some (PySem.W.kla_obj "<lambda>" (X.env.qual ++ "<lambda>") params body scope (cloFrom X.env.cells scope.names []) pm d ctv) → H1 f = none → f ∉ frs X.stack → Q (.ref f) s1) :
    wpAny (model X.prog X.w) X.A (eval (.Lambda params body scope lp) X.env) Q Z s := by
  obtain ⟨tok, among⟩ := kn
  have clo := closure_ok (env := X.env) (scope := scope) hfree
  have glo := I.mod.glob.keeps I.bk
  have hd := TB.code.keeps I.bk
  have bm := TB.bm.keeps I.bk
  have raw : s.heap.get? P = some { cls := .none, data := .fields ps } := I.hok P _ tbl
  have outs : ∀ f, s.heap.objs.size ≤ f → f ∉ frs X.stack := fun f hf z => by
    rcases List.mem_cons.mp (I.stkSub _ z) with e | e
    · have h1 := I.lt
      rw [← e] at h1
      exact absurd hf (Nat.not_le.mpr h1)
    · exact I.nofs hf e
  refine PySem.W.kla_eval hdef ?_
  cases cm : codeAmong lp ps.toList with
  | some cv =>
    obtain ⟨d, e, known⟩ := among lp cv cm
    subst e
    refine PySem.W.kla_makeFunctionHit (mg := X.mg) (c := c) (P := P) (ps := ps) clo I.ok.glob glo hcode hd raw tok cm bm fun ctv h1 tk grow sz => ?_
    exact go h1.objs.size d ((X.mg "__name__").getD .none) ctv H _ (I.kept fun b o z => Heap.get?_push_of_some _ (grow b o z)) (.inl ⟨rfl, known⟩) known (Heap.get?_push_size _ rfl) (I.hok.fresh sz) (outs _ sz)
  | none =>
    refine PySem.W.kla_makeFunction (mg := X.mg) (c := c) (P := P) (ps := ps) clo I.ok.glob glo hcode hd raw tok cm TB.gP bm fun d ctv h1 tk grow big small rec atP => ?_
    obtain ⟨d2, od, us, tq, e, god, dat, nm⟩ := rec
    cases e
    have sz : s.heap.objs.size ≤ h1.objs.size := Nat.le_trans big (Nat.le_of_lt small)
    have J := inv_table (t' := tk) (more := #[rawInt lp.line, rawInt lp.col, .ref d]) (h' := h1.push (PySem.W.kla_obj "<lambda>" (X.env.qual ++ "<lambda>") params body scope (cloFrom X.env.cells scope.names []) ((X.mg "__name__").getD .none) d ctv)) I tbl
      (fun b o ne z => Heap.get?_push_of_some _ (grow b o ne z)) (Heap.get?_push_of_some _ atP) big ⟨od, us, tq, Heap.get?_push_of_some _ god, dat, nm⟩
    have el : (ps ++ #[rawInt lp.line, rawInt lp.col, .ref d]).toList = ps.toList ++ [rawInt lp.line, rawInt lp.col, .ref d] := by simp
    refine go h1.objs.size d ((X.mg "__name__").getD .none) ctv _ _ J (.inr ⟨_, I.hok.fresh big, rfl, ?_, fun p2 cv z => ?_⟩) upd_same (Heap.get?_push_size _ rfl) ?_ (outs _ sz)
    · rw [el]
      exact PySem.TriplesOk_snoc _ _ _ _ tok
    · rw [el] at z
      exact among_app _ tok z
    · have n2 : h1.objs.size ≠ P := Nat.ne_of_gt (Nat.lt_of_lt_of_le (Heap.lt_size raw) sz)
      rw [upd_ne (Nat.ne_of_gt small), upd_ne n2]
      exact I.hok.fresh sz
/-- the lambda is called in the def that got it -/
theorem pe_actD {CXg : CXT} {Eg : XK} {Ng : List Str} {qg : Str} {sg : Scope} {g f c' : Addr} {cdg pm ctv : Value} {params : Arguments} {body : Expr} {scope : Scope} {k i : Nat} {a : Str} {pn : List (Addr × Obj)} {xe : Value → Shared → Prop} {W : WX} {tb : XK → TE} {p1 p2 : Pos}
    (I : Inv X pins σ H s) (L : LamS X.env.scope scope) (hf : s.heap.get? f = some (PySem.W.kla_obj "<lambda>" (X.env.qual ++ "<lambda>") params body scope (cloFrom X.env.cells scope.names []) pm c' ctv)) (hfn : H f = none) (hfr : f ∉ frs X.stack)
    (hbind : bindArgs (PySem.W.kla_fn "<lambda>" (X.env.qual ++ "<lambda>") params body scope (cloFrom X.env.cells scope.names []) pm (.ref c') ctv) ⟨[], []⟩ = pure [])
    (tk : Takes ((cxOf CXg X.prog X.w X.K X.mg X.base Ng qg sg g cdg X.A X.stack s H Eg).tr pn xe) W) (hr : Room (k + 1) (X.A.deeper (envOfC qg sg s.heap.objs.size g cdg)))
    (gd : X.A.guards = some []) (hbody : ∀ (A : Around) (outer : List PySem.Env) (s : Shared) (H : Hp) (E : XK), A.guards = some [] → Room k (A.deeper (lamEnv X scope s.heap.objs.size f c')) → PE (lamCx X A outer s H E scope f c') body (tb E))
    (hN : Ng[i]? = some a) (hv : Vis sg a) (hd : (a == ("__debug__" : Str)) = false := by decide) (hcd : (a == ("__classdict__" : Str)) = false := by decide) :
    PE ((cxOf CXg X.prog X.w X.K X.mg X.base Ng qg sg g cdg X.A X.stack s H Eg).tr pn xe) (.Call (.Name a p1) [] [] p2)
      (fun σZ HZ Q => σZ[i]? = some (some (.ref f)) ∧ HZ c' = some (CodeO c' (X.env.qual ++ "<lambda>")) ∧ tb (WE W σZ) σ HZ Q) := by
  refine ⟨fun pinsZ sZ σZ HZ Q IZ h => ?_⟩
  obtain ⟨hs, hc, ht⟩ := h
  refine wpAny_Call_Name_kw (thn ((pe_var (pos := p1) (i := i) hN hv hd hcd).run pinsZ sZ σZ HZ (fun v H1 => v = .ref f ∧ H1 = HZ) IZ ⟨.ref f, hs, rfl, rfl⟩) fun u s1 ⟨v, H1, I1, r1, q1⟩ => ?_)
  obtain ⟨ev, eH⟩ := q1
  subst ev
  rw [eH] at I1
  obtain rfl : u = Value.ref f := r1
  have of1 : s1.heap.get? f = some (PySem.W.kla_obj "<lambda>" (X.env.qual ++ "<lambda>") params body scope (cloFrom X.env.cells scope.names []) pm c' ctv) := I1.base.keep f _ hf hfn hfr (fun z => nomatch (show f ∈ ([] : List Addr) from z))
  refine PySem.W.callWith_F0 ⟨_, _, _, _, of1⟩ ?_
  have un : Un (frs X.stack) [] H HZ s.heap s1.heap := I1.base
  obtain ⟨⟨oc, vs, t, hoc, hdc, hvc⟩, _, _⟩ := I1.hok c' _ hc
  have rc : codeAny (model X.prog X.w) (X.A.deeper (envOfC qg sg s.heap.objs.size g cdg)) (.call (.ref f) ⟨[], []⟩) (CR (L2.CX X.prog X.w) (envOfC qg sg s.heap.objs.size g cdg :: X.stack) X.prog X.w HZ s1 Q (WE W σZ)) s1 := by
    refine PySem.W.kla_callFunE hr.depth of1 rfl L.co L.gen rfl ⟨c', oc, vs, t, rfl, hoc, hdc, hvc⟩ ?_
    rw [hbind]
    refine wpAny_pure (wpAny_newFunctionEnv (fun y hy => (L.own y hy).2) (fun y hy => absurd hy (by simp)) (fun h₁ hns hsb => ⟨I1.nolimit.fresh _ hsb, ?_⟩) L.kind)
    show codeAny _ _ (.expr body (lamEnv X scope s1.heap.objs.size f c')) _ _
    have kp : ∀ b o, s1.heap.get? b = some o → h₁.get? b = some o := fun b o e => hsb.extBut b o (Nat.ne_of_lt (Heap.lt_size e)) (Heap.get?_push_of_some _ e)
    have J : Inv (lamCx X (X.A.deeper (envOfC qg sg s.heap.objs.size g cdg)) (envOfC qg sg s.heap.objs.size g cdg :: X.stack) s1 HZ (WE W σZ) scope f c') [] σ HZ { s1 with heap := h₁, toks := s1.toks + ([] : List (Str × Value)).length } :=
      lam_start2 I L I1.env0 hr.hd un hns kp
    refine PySem.W.kla_codeExpr (wpAny_mono ((hbody (X.A.deeper (envOfC qg sg s.heap.objs.size g cdg)) (envOfC qg sg s.heap.objs.size g cdg :: X.stack) s1 HZ (WE W σZ) gd (hr.deeper _)).run [] _ _ HZ Q J ht) (fun v s' hq => ?_) fun e s' hq => hq)
    obtain ⟨w', H', J', rv, q⟩ := hq
    exact ⟨w', H', J'.os, J'.bare, J'.base, J'.hok, rv, q⟩
  have hx := passAt tk σZ
  refine wpAny_call (codeAny_mono rc fun r s' hq => ?_)
  cases r with
  | error e => exact hx pinsZ HZ s1 e s' I1 hq
  | ok fl =>
    cases fl with
    | ret u => exact I1.after hq
    | next => exact False.elim hq
    | brk => exact False.elim hq
    | cont => exact False.elim hq
/-- what the def makes of the lambda's end: None, or what the clause has stored in slot k -/
def lamR (i k : Nat) (ρ0 : DE.Env) (l : List Cls2) (r : RE D) : RE D := match r with
  | .ok _ S1 => (match ρ0[k]? with
    | some (some d) => .ok d S1
    | _ => .bad)
  | .exc y S1 => (match goH y i ρ0 S1 l with
    | .nx ρ' S' => (match ρ'[k]? with
      | some (some d) => .ok d S'
      | _ => .bad)
    | _ => .bad)
  | .bad => .bad
def env3 : DE.Env := [none, some .non, none]
/-- f(lambda: e); the table of code objects is the store's cell it -/
def dLam (it : Nat) (c : Str) (m : Option Str) (q : Str) (l : List Cls2) (fb : ME) : ME := fun ρ S => match S[it]? with
  | some (.tab c' m' q') => if c' = c ∧ m' = m ∧ q' = q then lamR 2 1 env3 l (fb ρ S) else .bad
  | _ => .bad
theorem after_lam {W : WX} {X : Cx} {n : Str} {hds : List ExceptHandler} {l : List Cls2} {ls : List (Value × (Addr → Value → Option Addr → TS))} {ρ ρ0 : DE.Env} {σ σ1 : L2.St} {O : Ow} {H : Hp} {S : Sto} {Q : VK} {r : RE D} {D' : Ends} {i k : Nat} (st : Stt X.K O H ρ σ S) (e0 : ∀ O' H', REnv X.K O' H' ρ0 σ1)
    (hh : HsD X i n hds l ls) (hD : ∀ v σ' H', σ'[k]? = some (some v) → Q v H' → D'.nx σ' H') (h : After X.K W (Rep X.K) ρ σ O H Q (lamR i k ρ0 l r)) :
    After X.K (WE (wManyA X.K i W0 D' ls) σ1 |> fun E => WD E) (Rep X.K) ρ σ O H (fun _ H' => D'.nx σ1 H') r := by
  cases r with
  | ok d S1 =>
    intro O' H' v e st' rd
    unfold lamR at h
    cases q : ρ0[k]? with
    | none => simp only [q] at h; exact h.elim
    | some o =>
      cases o with
      | none => simp only [q] at h; exact h.elim
      | some d0 =>
        simp only [q] at h
        obtain ⟨v0, hv, rv⟩ := (e0 O' H').get q
        exact hD v0 _ _ hv (h O' H' v0 e st' rv)
  | exc y S1 =>
    rintro O' H' cls dx e st' ⟨rfl, dd, vs, rfl, hd, rf⟩
    unfold lamR at h
    refine hh.wish (X := X) (W := W0) (ρ := ρ0) (S := S1) ⟨st'.wf, e0 O' H'⟩ hd rf ?_
    cases q : goH y i ρ0 S1 l with
    | nx ρ' S' =>
      simp only [q] at h
      intro O2 H2 σ2 e2 st2
      cases q2 : ρ'[k]? with
      | none => simp only [q2] at h; exact h.elim
      | some o =>
        cases o with
        | none => simp only [q2] at h; exact h.elim
        | some d0 =>
          simp only [q2] at h
          obtain ⟨v0, hv, rv⟩ := st2.env.get q2
          exact hD v0 _ _ hv (h O2 H2 v0 (e.trans e2) ⟨st2.wf, st.env.mono ((e.trans e2).w st.wf)⟩ rv)
    | bk ρ' S' => simp only [q] at h; exact h.elim
    | ct ρ' S' => simp only [q] at h; exact h.elim
    | rt d S' => simp only [q] at h; exact h.elim
    | exc x ρ' S' => simp only [q] at h; exact h.elim
    | bad => simp only [q] at h; exact h.elim
  | bad => exact h.elim
end
end LM

set_option maxHeartbeats 4000000
/-! the rule: f(lambda: e) -/
namespace LM
open PySem PySem.Spec PyProof.Rows L2 LamX DE
theorem un0 {σ : L2.St} {i : Nat} {v : V} (h : σ[i]? = some (some v)) : σ[i]? = some (some v) := h
section
variable {X : Cx} {W : WX} {x a kn en q c : Str} {m : Option Str} {pp : Str × Option Str} {it k : Nat} {pg params : Arguments} {bg : List Stmt} {sg scope : Scope} {kws : List (Str × V)} {fd : FuncData} {h₀ : ExceptHandler} {hds : List ExceptHandler} {l : List Cls2} {body : Expr} {fb : ME} {p lpos pos p1 p2 p3 p4 p5 p6 p7 p8 p9 : Pos} {j1 : Nat}
theorem de_lamR (hg : Gl X x) (hm : X.mg x = some (.ref (He.fAd X.K pp))) (F : FunD X.K x x pg bg sg [] kws (He.fAd X.K pp) fd)
    (hbg : bg = [.Assign [.Name kn p1] (.Constant .none j1 p2) p3, .Try [.Expr (.Call (.Name a p4) [] [] p5) p6] (h₀ :: hds) [] [] p7, .Return (some (.Name kn p8)) p9])
    (Sg : FnScope [a, kn, en] [a] sg) (la : sg.names.lookup a = some .local) (lk' : sg.names.lookup kn = some .local) (le : sg.names.lookup en = some .local) (hb : L2.Binds X.K fd [a] [])
    (hH : ∀ (cdv : Value) (s : Shared) (H : Hp), Room (k + 1) (X.A.deeper (envOfC x sg s.heap.objs.size (He.fAd X.K pp) cdv)) → ∃ ls, HsD (XOf X.prog X.w X.K X.mg X.base [a, kn, en] x sg (He.fAd X.K pp) cdv X.A X.stack s H fun _ _ _ => False) 2 en (h₀ :: hds) l ls)
    (TB : TabB X.base X.mg (He.cT X.K (c, m)).1 (He.cT X.K (c, m)).2) (hcode : X.env.code = .ref (He.cT X.K (c, m)).1) (hq : X.env.qual ++ "<lambda>" = q) (hr : Room (k + 2) X.A) (gd : X.A.guards = some []) (L : LamS X.env.scope scope) (hdef : defaultsOf params X.env = ([], []))
    (hbind : ∀ (q : Str) (cl : List (Str × Addr)) (pm cv ctv : Value), bindArgs (PySem.W.kla_fn "<lambda>" q params body scope cl pm cv ctv) ⟨[], []⟩ = pure [])
    (hbody : ∀ (A : Around) (outer : List PySem.Env) (s : Shared) (H : Hp) (E : XK) (f c' : Addr), A.guards = some [] → Room k (A.deeper (lamEnv X scope s.heap.objs.size f c')) → DE (lamCx X A outer s H E scope f c') (WD E) body fb)
    (hdb : (x == ("__debug__" : Str)) = false := by decide) (hd : (a == ("__debug__" : Str)) = false := by decide) (hcd : (a == ("__classdict__" : Str)) = false := by decide) (hd2 : (kn == ("__debug__" : Str)) = false := by decide) (hcd2 : (kn == ("__classdict__" : Str)) = false := by decide) :
    DE X W (.Call (.Name x p) [.Lambda params body scope lpos] [] pos) (dLam it c m q l fb) := by
  subst hq
  refine ⟨⟨fun pins s σ H Q I ⟨O, ρ, S, st, h⟩ => ?_⟩⟩
  unfold dLam at h
  cases qi : S[it]? with
  | none => simp only [qi] at h; exact h.elim
  | some t =>
    simp only [qi] at h
    cases t <;> try exact h.elim
    rename_i c1 m1 q1
    simp only at h
    obtain ⟨⟨rfl, rfl, rfl⟩, h9⟩ := After.ite h
    obtain ⟨aP, haP, ps, hP, eP, tok, am⟩ := st.own qi
    rw [eP] at hP
    have kn' : Knows H (X.env.qual ++ "<lambda>") ps := ⟨tok, fun pos cv z => by
      obtain ⟨c0, z1, z2, z3⟩ := am pos cv z
      exact ⟨c0, z1, z3⟩⟩
    refine wpAny_Call_Name_kw (ld_glob I hg hm ?_ hdb)
    refine PySem.W.callWith_K (h₀ := X.base) I.ok.mod.kin F.kp ?_ (by rfl) (by rfl)
    show wpAny _ _ (spliced ((false, eval (.Lambda params body scope lpos) X.env) :: backTo pos (starEach [] X.env))) _ _ s
    refine Calls.spliced_cons (lam_newC I TB hcode hP kn' hdef (L.has I.ok) fun f c' pm ctv H2 s2 I2 gr hco of hfn hfr => ?_)
    refine Calls.spliced_nil ⟨I2.kIn, ?_⟩
    obtain ⟨e2, st2⟩ := grown_stt st qi hP gr
    have h2 := After.mono h9 e2
    obtain ⟨oc, od, dV, kV, doc, pmg, an, cdv, ct, osl, rfl, look, hcd', _, _⟩ := F.ex
    have rc : codeAny (model X.prog X.w) X.A (.call (.ref (He.fAd X.K pp)) ⟨[.ref f], []⟩) (CR (L2.CX X.prog X.w) X.stack X.prog X.w H2 s2 Q fun _ _ _ => False) s2 := by
      refine run_ofS (N := [a, kn, en]) (ps := [a]) (us := [.ref f]) (vs := [.ref f]) look hcd' Sg hr I2.env0 (hb s2 [.ref f] I2.kIn rfl) (.cons rfl .nil) rfl fun hr' => ?_
      subst hbg
      obtain ⟨ls, hh⟩ := hH cdv s2 H2 hr'
      let Z : Cx := XOf X.prog X.w X.K X.mg X.base [a, kn, en] x sg (He.fAd X.K pp) cdv X.A X.stack s2 H2 fun _ _ _ => False
      let σ1 : L2.St := (L2.start [a, kn, en] [V.ref f]).set 1 (some .non)
      have e0 : ∀ O' H', REnv X.K O' H' env3 σ1 := fun O' H' => .cons trivial (.cons ⟨.non, rfl, rfl⟩ (.cons trivial .nil))
      refine ⟨_, pss_cons (ps_set (X := Z) (i := 1) Sg.nd rfl (.inl lk') pe_non) (pss_cons (ps_try_manyA (X := Z) (i := 2) (n := en) (Wout := WD fun _ _ _ => False)
        (tb := fun W' D' σZ HZ => σZ = σ1 ∧ HZ = H2 ∧ After X.K (WD (WE W' σ1)) (Rep X.K) ρ σ O H2 (fun _ H' => D'.nx σ1 H') (fb ρ S)) Sg.nd rfl le rfl rfl (takes_of rfl rfl rfl rfl) (fun W' pn xe tk _ => ?_) hh.hds) (pss_one (ps_ret (pe_var (X := Z) (i := 1) rfl (.inl lk') hd2 hcd2)))), ?_⟩
      · refine ⟨fun pz sZ σZ HZ D' IZ hz => ?_⟩
        obtain ⟨rfl, rfl, hz⟩ := hz
        have act := pe_actD (i := 0) (tb := fun E => tE X.K (WD E) fb) (p1 := p4) (p2 := p5) I2 L of hfn hfr (hbind _ _ _ _ _) tk hr' gd (fun A outer s H E g2 r2 => (hbody A outer s H E f c' g2 r2).pe) rfl (.inl la) hd hcd
        exact (pss_one (ps_expr act)).run pz sZ σ1 HZ D' IZ ⟨rfl, hco, O, ρ, S, st2, hz⟩
      · refine ⟨rfl, rfl, ?_⟩
        exact after_lam (X := Z) (k := 1) (i := 2) (W := W) st2 e0 hh (fun v σ' H' hv hQ => ⟨v, hv, hQ⟩) h2
    refine wpAny_call (codeAny_mono rc fun r s3 hq => ?_)
    cases r with
    | error e => exact (passL (X := X.nox) pins σ H2 _ e s3 (I2.wish _) hq).elim
    | ok fl =>
      cases fl with
      | ret u => exact I2.after hq
      | next => exact False.elim hq
      | brk => exact False.elim hq
      | cont => exact False.elim hq
end
end LM

set_option maxHeartbeats 4000000
/-! a def gives its own new list away: it is owned no more -/
namespace LM
open PySem PySem.Spec PyProof.Rows L2 DE
def freeC : D → Bool
  | .tab _ _ _ => true
  | d => nown d
def relF (F : FD) : FD := fun ds S => match F ds S with
  | .ok (.own k) S1 => if S.length ≤ k ∧ k + 1 = S1.length ∧ (S1.take k).all freeC = true then (match S1[k]? with
    | some (.lst xs) => if nowns xs = true then .ok (.lst xs) (S1.take k) else .bad
    | _ => .bad) else .bad
  | r => r
def cutO (O : Ow) (k : Nat) : Ow := ⟨O.l.take k, O.u⟩
section
variable {K : PySem.W.Frag} {O : Ow} {H : Hp} {S : Sto}
theorem cut_no {k : Nat} {a : Addr} (h : O.no a) : (cutO O k).no a := ⟨fun z => h.1 (List.mem_of_mem_take z), h.2⟩
theorem cap_cut {k : Nat} : Cap false O (cutO O k) H := fun a o n _ _ => cut_no n
theorem wf_cut (w : WF K O H S) (k : Nat) (hf : (S.take k).all freeC = true) : WF K (cutO O k) H (S.take k) := by
  refine ⟨(List.take_sublist _ _).nodup w.nd, by simp [cutO, w.len], fun j a d h1 h2 => ?_, fun a ha => ?_⟩
  · have j1 : j < k := by
      have := (List.getElem?_eq_some_iff.mp h2).1
      simp at this
      omega
    have h1' : O.l[j]? = some a := by
      have : (O.l.take k)[j]? = some a := h1
      rwa [List.getElem?_take_of_lt j1] at this
    have h2' : S[j]? = some d := by rwa [List.getElem?_take_of_lt j1] at h2
    have c := w.cell j a d h1' h2'
    have fd := List.all_eq_true.mp hf d (List.mem_of_getElem? h2)
    cases d <;> simp only [Cell] at c ⊢ <;> try exact c.elim
    case lst ds =>
      obtain ⟨xs, c1, c2⟩ := c
      exact ⟨xs, c1, c2.cap cap_cut (fun _ _ _ n _ => cut_no n) (by simpa only [freeC, nown] using fd) (fun e => nomatch e)⟩
    case dK ds =>
      obtain ⟨xs, c1, c2⟩ := c
      exact ⟨xs, c1, c2.cap cap_cut (fun _ _ _ n _ => cut_no n) (by simpa only [freeC, nown] using fd) (fun e => nomatch e)⟩
    case dT ds =>
      obtain ⟨xs, c1, c2⟩ := c
      exact ⟨xs, c1, c2.cap cap_cut (fun _ _ _ n _ => cut_no n) (by simpa only [freeC, nown] using fd) (fun e => nomatch e)⟩
    case obj cn ds =>
      obtain ⟨dx, xs, c1, c2⟩ := c
      exact ⟨dx, xs, c1, c2.cap cap_cut (fun _ _ _ n _ => cut_no n) (by simpa only [freeC, nown] using fd) (fun e => nomatch e)⟩
    case tab cn m q =>
      obtain ⟨ps, c1, c2, c3, c4⟩ := c
      exact ⟨ps, c1, c2, c3, fun pos cv z => by
        obtain ⟨x, z1, z2, z3⟩ := c4 pos cv z
        exact ⟨x, z1, cut_no z2, z3⟩⟩
  · obtain ⟨h1, h2⟩ := w.hid a ha
    exact ⟨fun z => h1 (List.mem_of_mem_take z), h2⟩
theorem sp_rel {n : Nat} {F : FD} {vs : List V} {Q : VK} {E : XK} (h : spD K n (relF F) vs H Q E) : spD K n F vs H Q E := by
  obtain ⟨O, S, ds, w, r, hl, h⟩ := h
  refine ⟨O, S, ds, w, r, hl, ?_⟩
  unfold relF at h
  cases q : F ds S with
  | bad => rw [q] at h; exact h
  | exc x S1 => rw [q] at h; exact h
  | ok d S1 =>
    rw [q] at h
    cases d <;> try exact h
    rename_i k
    simp only at h
    by_cases hc : S.length ≤ k ∧ k + 1 = S1.length ∧ (S1.take k).all freeC = true
    · rw [if_pos hc] at h
      obtain ⟨h1, h2, h3⟩ := hc
      cases q2 : S1[k]? with
      | none => simp only [q2] at h; exact h.elim
      | some c =>
        simp only [q2] at h
        cases c <;> try exact h.elim
        rename_i xs
        simp only at h
        by_cases hx : nowns xs = true
        · rw [if_pos hx] at h
          intro O' H' v e w' rv
          obtain ⟨a, ha, rfl⟩ := rv
          obtain ⟨m, em, hm⟩ := e.pre
          obtain ⟨m2, em2, hm2⟩ := e.preu
          have e2 : DE.Ext O H (cutO O' k) H' := by
            refine ⟨⟨m.take (k - O.l.length), ?_, fun b hb => hm b (List.mem_of_mem_take hb)⟩, ⟨m2, em2, hm2⟩, e.keep, e.tups, e.there⟩
            show O'.l.take k = _
            rw [em, List.take_append, List.take_of_length_le (by rw [← w.len]; exact h1)]
          refine h (cutO O' k) H' (.ref a) e2 (wf_cut w' k h3) ?_
          obtain ⟨ys, c1, c2⟩ := w'.cell k a _ ha q2
          refine ⟨a, ys, rfl, ⟨fun z => ?_, fun z => ?_⟩, c1, c2.cap cap_cut (fun _ _ _ n _ => cut_no n) hx (fun e => nomatch e)⟩
          · obtain ⟨j, hj⟩ := List.mem_iff_getElem?.mp (show a ∈ O'.l.take k from z)
            have j1 : j < k := by
              have := (List.getElem?_eq_some_iff.mp hj).1
              simp at this
              omega
            rw [List.getElem?_take_of_lt j1] at hj
            obtain ⟨l1, g1⟩ := List.getElem?_eq_some_iff.mp hj
            obtain ⟨l2, g2⟩ := List.getElem?_eq_some_iff.mp ha
            exact (List.pairwise_iff_getElem.mp w'.nd j k l1 l2 j1) (g1.trans g2.symm)
          · exact (w'.hid a z).1 (List.mem_of_getElem? ha)
        · rw [if_neg hx] at h; exact h.elim
    · rw [if_neg hc] at h; exact h.elim
end
theorem FnG_rel {P : Program} {w : World} {K : PySem.W.Frag} {mg : Str → Option Value} {base : Heap} {k n : Nat} {x : Str} {F : FD} (G : FnG P w K mg base k x n F) : FnG P w K mg base k x n (relF F) := by
  obtain ⟨⟨fd, ps, h1, h2⟩, gl, kp⟩ := G
  exact ⟨⟨fd, ps, ⟨fun vs H Q E h => h1.len vs H Q E (sp_rel h), fun A outer s H args us vs Q E hr gd e0 b r h => h1.run A outer s H args us vs Q E hr gd e0 b r (sp_rel h)⟩, h2⟩, gl, kp⟩
/-- data in place of owned things, for an operator that gives a flat value -/
def oFz (o : D → D → Sto → RE D) : D → D → Sto → RE D := fun d e S => match frzD S (some d), frzD S (some e) with
  | some d', some e' => (match o d' e' [] with
    | .ok v _ => if flatD v = true then .ok v S else .bad
    | _ => .bad)
  | _, _ => .bad
theorem op_fz {X : Cx} {f : Value → Value → Sem Value} {o : D → D → Sto → RE D} (h : OpR X f (RD X.K o)) : OpR X f (RD X.K (oFz o)) := by
  intro pins s σ H x y v u Q I rx ry ⟨W, ρ, σ', O, S, d, e, st, r1, r2, hh⟩
  unfold oFz at hh
  cases q1 : frzD S (some d) with
  | none => simp only [q1] at hh; exact hh.elim
  | some d' =>
    cases q2 : frzD S (some e) with
    | none => simp only [q1, q2] at hh; exact hh.elim
    | some e' =>
      simp only [q1, q2] at hh
      cases q3 : o d' e' [] with
      | bad => simp only [q3] at hh; exact hh.elim
      | exc x S' => simp only [q3] at hh; exact hh.elim
      | ok w S' =>
        simp only [q3] at hh
        obtain ⟨fw, hh⟩ := After.ite hh
        have st0 : Stt X.K O0 H [] [] [] := ⟨⟨.nil, rfl, fun k a d h => by simp [O0] at h, fun a h => by cases h⟩, .nil⟩
        refine h pins s σ H x y v u Q I rx ry ⟨W, [], [], O0, [], d', e', st0, frz_one st.wf r1 d' q1, frz_one st.wf r2 e' q2, ?_⟩
        rw [q3]
        intro O3 H3 z e3 st3 rz
        have kept : ∀ b ob, H b = some ob → H3 b = some ob := fun b ob z => e3.keep b ob (by simp [O0]) z
        have e4 : DE.Ext O H O H3 := ⟨⟨[], by simp, fun _ z => by cases z⟩, ⟨[], by simp, fun _ z => by cases z⟩, fun b o _ z => kept b o z, fun b xs z => kept b _ z, fun b z => e3.there b z⟩
        have same : ∀ b, b ∈ O.l ∨ b ∈ O.u → H3 b = H b := fun b hb => by
          obtain ⟨ob, ho, _⟩ := st.wf.cases hb
          rw [ho, kept b ob ho]
        have st4 : Stt X.K O H3 ρ σ' S := ⟨⟨st.wf.nd, st.wf.len, fun j b d h1 h2 => (st.wf.cell j b d h1 h2).mono (e4.w st.wf) (same b (.inl (List.mem_of_getElem? h1))), fun b hb => by
          obtain ⟨h1, ob, h2, h3⟩ := st.wf.hid b hb
          exact ⟨h1, ob, by rw [same b (.inr hb)]; exact h2, h3⟩⟩, st.env.mono (e4.w st.wf)⟩
        exact hh O H3 z e4 st4 (flat_rep (fun _ _ z => z) fw rz)
end LM

set_option maxHeartbeats 4000000
/-! a content against built-in values; its length; list of a dict; a dict against a text -/
namespace LM
open PySem PySem.Spec PyProof.Rows L2 DE PySem.SeqAt
/-! ### == against a built-in value -/
def nfB (c : Str) : Xb := fun K => tyList.all fun t => PySem.W.notFirst K (He.ga K c) (.type t)
def oEqX (tb : List (Str × FD)) : D → D → Sto → RE D := fun e d S => match objAt S e with
  | some (c, _) => if ((match objAt S d with
      | some (c2, _) => decide (c2 = c)
      | none => (tyName d).isSome || (lstAt S d).isSome)) = true then (match tb.lookup c with
    | some F => (F [e, d] S).bind fun r S1 => (match r with
      | .bl b => .ok (.bl b) S1
      | _ => .bad)
    | none => .bad) else .bad
  | none => .bad
section
variable {X : Cx} {W : WX} {j : Nat} {tb : List (Str × FD)}
theorem op_eqX (T : MTab X j "__eq__" 2 tb) (hn : ∀ c F, tb.lookup c = some F → nfB c X.K = true) (hr : Room j X.A) (gd : X.A.guards = some []) (tk : Takes X W) : OpS X (compareOp .Eq) (rOwn X W (oEqX tb)) := by
  intro pins s σ H x y v u Q I rx ry ⟨ρ, O, S, e, d, st, r1, r2, h⟩
  unfold oEqX at h
  cases q : objAt S e with
  | none => simp only [q] at h; exact h.elim
  | some z =>
    obtain ⟨c, fs⟩ := z
    simp only [q] at h
    obtain ⟨hc, h⟩ := After.ite h
    cases q2 : tb.lookup c with
    | none => simp only [q2] at h; exact h.elim
    | some F =>
      simp only [q2] at h
      have h2 : After X.K W (Rep X.K) ρ σ O H (fun z H3 => ∃ k, z = V.bl k ∧ Q (.bl k) H3) (F [e, d] S) := After.seq h fun r S1 O1 H1 w e1 st1 rr h1 => by
        cases r <;> try exact h1.elim
        exact ⟨_, rr, After.ok h1 st1 rfl⟩
      obtain ⟨a, dx, vs, rfl, ha, rf⟩ := objAt_rep st q r1
      obtain rfl : v = Value.ref a := rx
      obtain ⟨ox, od, J⟩ := inst_of I ha
      obtain ⟨fn, me, cl⟩ := T c F q2
      obtain ⟨fd, ps, gg, bb⟩ := fn.ok
      obtain ⟨m, hF⟩ := I.fr
      have run := run_G (us := [Value.ref a, u]) (vs := [V.ref a, y]) gg hr gd bb (passAt tk σ) I (.cons rfl (.cons ry .nil)) (sp_of (ds := [e, d]) st ⟨_, _, rfl, r1, _, _, rfl, r2, rfl⟩ rfl h2)
      have key : ∃ t, PySem.W.Looks (model X.prog X.w) s.heap (typeOf u) t ∧ PySem.W.notFirst X.K (He.ga X.K c) t = true := by
        have hall := List.all_eq_true.mp (hn c F q2)
        cases qo : objAt S d with
        | some z2 =>
          obtain ⟨c2, fs2⟩ := z2
          rw [qo] at hc
          obtain rfl := of_decide_eq_true hc
          obtain ⟨b, dy, ws, rfl, hb, rg⟩ := objAt_rep st qo r2
          obtain rfl : u = Value.ref b := ry
          obtain ⟨ox2, od2, J2⟩ := inst_of I hb
          exact ⟨_, J2.type, by simp [PySem.W.notFirst]⟩
        | none =>
          rw [qo] at hc
          rcases Bool.or_eq_true_iff.mp hc with hc | hc
          · obtain ⟨t, qt⟩ := Option.isSome_iff_exists.mp hc
            obtain ⟨P, kx, hP, _⟩ := kit_of I ry (tyName_rep qt r2)
            exact ⟨.type t, kx.ty _ _ I.kIn hP, hall t (tyName_in qt)⟩
          · obtain ⟨ds, qt⟩ := Option.isSome_iff_exists.mp hc
            obtain ⟨p, xs, rfl, hp, _⟩ := lstAt_rep st qt r2
            obtain ⟨P, kx, hP, _⟩ := kit_of I ry (TyX.base (.lst hp))
            exact ⟨.type "list", kx.ty _ _ I.kIn hP, hall "list" (by decide)⟩
      obtain ⟨t, lt, hnf⟩ := key
      refine PySem.W.cmp_K (op := .Eq) (tb := t) hr.units0 hF I.ok.mod.kin J lt hnf me.at_ me.fn (wpAny_mono run (fun r s' z => ?_) fun _ _ z => z)
      obtain ⟨z, H3, I3, rv, k, rfl, q3⟩ := z
      obtain rfl : r = Value.bool k := rv
      exact ⟨.bl k, H3, I3, rfl, q3⟩
end
/-! ### len of a content -/
def dLenO (tb : List (Str × FD)) (f : ME) : ME := fun ρ S => (f ρ S).bind fun d S1 => match objAt S1 d with
  | some (c, _) => (match tb.lookup c with
    | some F => (F [d] S1).bind fun r S2 => (match r with
      | .int n => if 0 ≤ n ∧ n < 2 ^ 63 then .ok (.int n) S2 else .bad
      | _ => .bad)
    | none => .bad)
  | none => .bad
section
variable {X : Cx} {W : WX} {j : Nat} {tb : List (Str × FD)} {e : Expr} {f : ME} {p pos : Pos}
theorem de_lenO (hg : Gl X "len") (hm : X.mg "len" = none) (he : DE X W e f) (T : MTab X j "__len__" 1 tb) (hr : Room (j + 1) X.A) (gd : X.A.guards = some []) (tk : Takes X W) (na : starEach [e] X.env = (false, eval e X.env) :: starEach [] X.env := by rfl) :
    DE X W (.Call (.Name "len" p) [e] [] pos) (dLenO tb f) := ⟨⟨fun pins s σ H Q I ⟨O, ρ, S, st, h⟩ => by
  refine Call_ (ld_blt I hg hm (show bootBuiltins "len" = some (.builtin "len") by decide +kernel) ?_)
  refine PyProof.Rows.callWith_builtin1 (PyProof.Rows.args_cons (thn (he.pe.run pins s σ H (fun v H1 => ∃ O1 d S1, Stt X.K O1 H1 ρ σ S1 ∧ Rep X.K O1 H1 d v ∧ After X.K W (Rep X.K) ρ σ O1 H1 Q (match objAt S1 d with
    | some (c, _) => (match tb.lookup c with
      | some F => (F [d] S1).bind fun r S2 => (match r with
        | .int n => if 0 ≤ n ∧ n < 2 ^ 63 then .ok (.int n) S2 else .bad
        | _ => .bad)
      | none => .bad)
    | none => .bad)) I ⟨O, ρ, S, st, After.seq h fun d S1 O1 H1 v e1 st1 r1 h1 => ⟨O1, d, S1, st1, r1, h1⟩⟩) fun u s1 ⟨v, H1, I1, rv, O1, d, S1, st1, r1, h1⟩ => PyProof.Rows.args_nil ?_) na) na rfl
  cases q : objAt S1 d with
  | none => simp only [q] at h1; exact h1.elim
  | some z =>
    obtain ⟨c, fs⟩ := z
    simp only [q] at h1
    cases q2 : tb.lookup c with
    | none => simp only [q2] at h1; exact h1.elim
    | some F =>
      simp only [q2] at h1
      have h2 : After X.K W (Rep X.K) ρ σ O1 H1 (fun z H3 => ∃ n, z = V.int n ∧ (0 ≤ n ∧ n < 2 ^ 63) ∧ Q (.int n) H3) (F [d] S1) := After.seq h1 fun r S2 O2 H2 w e2 st2 rr h2 => by
        cases r <;> try exact h2.elim
        obtain ⟨hz, h2⟩ := After.ite h2
        exact ⟨_, rr, hz, After.ok h2 st2 rfl⟩
      obtain ⟨a, dx, vs, rfl, ha, rf⟩ := objAt_rep st1 q r1
      obtain rfl : u = Value.ref a := rv
      obtain ⟨ox, od, J⟩ := inst_of I1 ha
      obtain ⟨fn, me, cl⟩ := T c F q2
      obtain ⟨fd, ps, gg, bb⟩ := fn.ok
      obtain ⟨m, hF⟩ := I1.fr
      have run := run_G1 (us := [Value.ref a]) (vs := [V.ref a]) gg hr gd bb (passAt tk σ) I1 (.cons rfl .nil) (sp_of (ds := [d]) st1 ⟨_, _, rfl, r1, rfl⟩ rfl h2)
      refine PySem.W.len_K hF I1.ok.mod.kin J me.at_ me.fn (wpAny_mono run (fun r s' z => ?_) fun _ _ z => z)
      obtain ⟨z, H3, I3, rv, n, rfl, hz, q3⟩ := z
      obtain ⟨t, rfl⟩ := (show ∃ t, r = Value.int n t from rv)
      exact ⟨hz, .int n, H3, I3.tok _, ⟨_, rfl⟩, q3⟩⟩⟩
end
/-! ### list(a dict), a new list that is owned -/
def oListKO : FD := fun ds S => match ds with
  | [d] => (match dictAt S d with
    | some kd => if kd.length ≤ cap then .ok (.own S.length) (S ++ [.lst (kd.map fun p => keyToD p.1)]) else .bad
    | none => .bad)
  | _ => .bad
theorem keys_reps {K : PySem.W.Frag} {O : Ow} {H : Hp} : ∀ {kd : List (Key × D)} {vs : List (Key × V)}, RepK K O H kd vs → ∀ {O2 : Ow} {H2 : Hp}, Reps K O2 H2 (kd.map fun p => keyToD p.1) (vs.map fun q => kV q.1)
  | [], _, r, _, _ => by cases r; rfl
  | (k, d) :: kd, _, r, _, _ => by
    obtain ⟨v, vr, rfl, r1, r2⟩ := r
    exact ⟨_, _, rfl, keyToD_rep k, keys_reps r2⟩
section
variable {X : Cx}
theorem c_oListKO (hc : X.calm = true) : CallR X (.type "list") (RC X.K oListKO) := by
  intro pins s σ H vs us Q I rv ⟨W, ρ, σ', O, S, ds, st, r, h⟩
  unfold oListKO at h
  split at h
  · rename_i d
    obtain ⟨v, rfl, r1⟩ := r.one
    cases e1 : dictAt S d with
    | none => simp only [e1] at h; exact h.elim
    | some kd =>
      simp only [e1] at h
      obtain ⟨_, h⟩ := After.ite h
      obtain ⟨a, ws, rfl, hd, rk⟩ := dictAt_rep st e1 r1
      refine call_listD hc pins s σ H _ us Q I rv ⟨a, ws, rfl, hd, fun p hp => ?_⟩
      obtain ⟨e2, st2⟩ := st.newO (o := .lst (ws.map fun kv => kV kv.1)) (d := .lst (kd.map fun p => keyToD p.1)) hp fun e => ⟨_, upd_same, keys_reps rk⟩
      exact h _ _ _ e2 st2 ⟨p, by rw [st.wf.len]; exact DE.getElem?_snoc _ _, rfl⟩
  · exact h.elim
end
/-! ### a dict is no text -/
section
variable {P : Program} {w : World} {A : Around} {E : Value → Shared → Prop} {s : Shared} {a : Addr} {kvs : List (Key × Value)} {b : Str} {t : Tok} {Q : Value → Shared → Prop}
theorem sub_str_dict : isSubtype (.type "str") (.type "dict") = pure false := by rw [isSubtype_type]; kernel_rfl
theorem ne_dict_str (da : s.heap.DictOf (mixKind P w) a kvs) (hu : A.units < cLine) (h : Q (.bool true) s) : wpAny (model P w) A (compareOp .NotEq (.ref a) (.str b t)) Q E s := by
  refine rc_ne_decline_or (k := false) da.typeIs (typeIs_str s b t) (by decide) sub_str_dict F.slot_dict_ne F.slot_str_ne_refl (fun Q' hq => ?_) (fun Q' hq => ?_) (fun _ hq => wpAny_of_eq (rfl : isSame (.ref a) (.str b t) = pure false) hq) (.inr hu) h
  · refine wpAny_call_entry F.slot_dict_ne da.typeIs F.entry_dict_ne ?_ (F.args_dict_ne_2 _ _)
    show wpAny _ _ (Builtin.Dict.dictSlotArgs "__ne__" ⟨[.ref a, .str b t], []⟩ >>= _) _ _ s
    refine wpAny_bind ?_
    unfold Builtin.Dict.dictSlotArgs
    refine wpAny_bind (wpAny_notOrdered_dict da.typeIs ?_)
    show wpAny _ _ (pure (Value.ref a, Value.str b t)) _ _ s
    refine wpAny_pure ?_
    refine wpAny_bind (wpAny_isInstance (T := "str") (typeIs_str s b t) sub_str_dict ?_)
    simp only [Bool.not_false, if_true]
    wp_walk
    exact ⟨_, rfl, hq⟩
  · obtain ⟨ob, es, ep, ho, -, hd, -⟩ := da
    refine wpAny_call_entry F.slot_str_ne_refl (typeIs_str s b t) F.entry_str_ne ?_ (F.args_str_ne_2 _ _)
    unfold Builtin.«str.__ne__»
    wp_walk using wpAny_load ho
    rw [hd]
    wp_walk
    exact ⟨_, rfl, hq⟩
end
end LM

set_option maxHeartbeats 4000000
/-! the end of a law's row, with several tables of code objects -/
namespace LM
open PySem PySem.Spec PyProof.Rows L2 DE
def updT (TS : List Addr) (H : Hp) : Hp := fun b => if b ∈ TS then some (.tbl #[]) else H b
theorem law_callM {P : Program} {w : World} {K : PySem.W.Frag} {mg mb : Str → Option Value} {k : Nat} {fa a : Addr} {cs : List (Addr × Addr)} {fd : FuncData} {x : Str} {sp : Sp} {s : Shared} {vs : List Value} {ns : List Int} (KX : K.In s.heap) (hns : s.heap.Ns mainGlobals mg) (hb : s.heap.Ns builtinsNs mb)
    (hbb : ∀ x : Str, x ≠ "__name__" → mb x = bootBuiltins x) (lim : s.heap.NoLimit) (hg : s.gens = #[]) (hT : ∀ c ∈ cs, s.heap.get? c.2 = some { cls := .none, data := .fields #[] }) (nT : ∀ c ∈ cs, K.lookup c.2 = none) (hd : ∀ c ∈ cs, PySem.W.CodeHd s.heap c.1 c.2)
    (hbm : ∃ (bm : Addr) (ob : Obj), mg "__builtins__" = some (.ref bm) ∧ bm ≠ builtinsNs ∧ s.heap.get? bm = some ob ∧ ob.cls = .type "module" ∧ ob.dict = some builtinsNs ∧ ob.data = .plain)
    (ha : s.heap.get? a = some { cls := .type "list", data := .seq vs.toArray }) (hi : IntsAre vs ns) (hl : ns.length ≤ sizeLine) (hr : Room k callerA)
    (F : ∀ base : Heap, K.In base → base.Ns mainGlobals mg → (∀ c ∈ cs, LamX.TabB base mg c.1 c.2) → FnGd P w K mg base k fa fd [x] sp) (hbind : ∀ (s : Shared) (u : Value), BindsTo s fd ⟨[u], []⟩ [(x, u)])
    (hsp : ∀ H : Hp, (∀ c ∈ cs, H c.2 = some (.tbl #[])) → SqL K H a (ns.map V.int) → sp [.ref a] H (fun v _ => v = .bl true) fun _ _ _ => False) :
    codeAny (model P w) callerA (.call (.ref fa) ⟨[.ref a], []⟩) (fun r s' => r = .ok (.ret (.bool true)) ∧ OldK s.heap s'.heap ∧ s'.os = s.os ∧ AllBare s'.gens) s := by
  have rv := vals_ints hi
  have lv : vs.length = ns.length := hi.length
  generalize eT : cs.map Prod.snd = TS
  have hT' : ∀ t ∈ TS, s.heap.get? t = some { cls := .none, data := .fields #[] } := fun t ht => by
    rw [← eT] at ht
    obtain ⟨c, hc, rfl⟩ := List.mem_map.mp ht
    exact hT c hc
  have inT : ∀ c ∈ cs, c.2 ∈ TS := fun c hc => by rw [← eT]; exact List.mem_map.mpr ⟨c, hc, rfl⟩
  have aT : a ∉ TS := fun z => by
    have h := hT' a z
    rw [ha] at h
    cases h
  generalize hH : updT TS (H0 K a { cls := .type "list", data := .seq vs.toArray } ns) = H
  have atT : ∀ t ∈ TS, H t = some (.tbl #[]) := fun t ht => by rw [← hH]; exact if_pos ht
  have offT : ∀ b, b ∉ TS → H b = H0 K a { cls := .type "list", data := .seq vs.toArray } ns b := fun b hb => by rw [← hH]; exact if_neg hb
  have only : ∀ {b u}, H b = some u → (b ∈ TS ∧ u = .tbl #[]) ∨ (b = a ∧ K.lookup a = none ∧ u = .frz { cls := .type "list", data := .seq vs.toArray } (.lst (ns.map V.int))) := fun {b u} z => by
    by_cases hb : b ∈ TS
    · rw [atT b hb] at z
      cases z
      exact .inl ⟨hb, rfl⟩
    · rw [offT b hb] at z
      exact .inr (H0_some z)
  have sq : SqL K H a (ns.map V.int) := by
    cases q : K.lookup a with
    | none => exact .inl (.inr ⟨_, by rw [offT a aT]; exact if_pos ⟨rfl, q⟩⟩)
    | some o =>
      have e := (KX a o q).symm.trans ha
      cases e
      exact .inr ⟨_, vs.toArray, _, q, rfl, rfl, rfl, by rw [List.size_toArray, lv]; exact hl, by simpa using rv⟩
  have hok : HOk P w H s.heap := fun b u z => by
    rcases only z with ⟨hb, rfl⟩ | ⟨rfl, _, rfl⟩
    · exact hT' b hb
    · exact ⟨ha, by rw [List.length_map]; exact hl, vs, _, rv, ha⟩
  have free : ∀ {b : Addr} {o : Obj}, s.heap.get? b = some o → b ∉ TS → (∀ us n, o.data ≠ .seq us n) → H b = none := fun {b o} z nb d => by
    cases q : H b with
    | none => rfl
    | some u =>
      rcases only q with ⟨e, _⟩ | ⟨rfl, _, _⟩
      · exact absurd e nb
      · rw [ha] at z
        cases z
        exact absurd rfl (d _ _)
  have noT : ∀ {b : Addr} {o : Obj}, s.heap.get? b = some o → o ≠ { cls := .none, data := .fields #[] } → b ∉ TS := fun {b o} z ne e => by
    have h := hT' b e
    rw [z] at h
    cases h
    exact ne rfl
  have dictN : ∀ {b : Addr} {o : Obj} {es : Array DictEntry} {ep : Nat}, s.heap.get? b = some o → o.data = .dict es ep → H b = none := fun {b o es ep} z d => free z (noT z fun e => by
    rw [e] at d
    cases d) fun us n e => by
    rw [d] at e
    cases e
  have ns' : ∀ {b : Addr} {m : Str → Option Value}, s.heap.Ns b m → (hidT s.heap H).Ns b m := fun {b m} ⟨o, es, ep, z, d, r⟩ => ⟨o, es, ep, hidT_get z (dictN z d), d, r⟩
  have KB : K.In (hidT s.heap H) := fun b o z => hidT_get (KX b o z) (by
    cases q : H b with
    | none => rfl
    | some u =>
      rcases only q with ⟨hb, _⟩ | ⟨rfl, q2, _⟩
      · rw [← eT] at hb
        obtain ⟨c, hc, rfl⟩ := List.mem_map.mp hb
        rw [nT c hc] at z; cases z
      · rw [q2] at z; cases z)
  have M : Mod K mg (hidT s.heap H) := by
    obtain ⟨mc, l1, l2⟩ := lim
    exact ⟨KB, ns' hns, ⟨mb, ns' hb, hbb⟩, mc, ns' l1, l2⟩
  have TB : ∀ c ∈ cs, LamX.TabB (hidT s.heap H) mg c.1 c.2 := fun c hc => by
    refine ⟨?_, ?_, fun z => ?_⟩
    · obtain ⟨o, us, file, tf, flags, tg, inF, text, tt, e1, z1, z2, z3, z4, z5, z6, z7, z8, ne⟩ := hd c hc
      refine ⟨o, us, file, tf, flags, tg, inF, text, tt, hidT_get e1 (free e1 (noT e1 fun e => ?_) fun us n y => by rw [z2] at y; cases y), z1, z2, z3, z4, z5, z6, z7, z8, ne⟩
      rw [e] at z1
      cases z1
    · obtain ⟨bm, ob, b1, b2, b3, b4, b5, b6⟩ := hbm
      have n1 : bm ≠ mainGlobals := fun y => by
        obtain ⟨o, es, ep, g1, g2, _⟩ := hns
        rw [y, g1] at b3
        cases b3
        rw [b6] at g2
        cases g2
      have n3 : bm ∉ TS := noT b3 fun e => by
        rw [e] at b6
        cases b6
      have n2 : bm ≠ c.2 := fun y => n3 (y ▸ inT c hc)
      exact ⟨bm, ob, b1, b2, n1, n2, hidT_get b3 (free b3 n3 fun us n y => by rw [b6] at y; cases y), b4, b5, b6⟩
    · obtain ⟨o, es, ep, g1, g2, _⟩ := hns
      rw [z, hT c hc] at g1
      cases g1
      cases g2
  have e0 : Env0 P w K mg (hidT s.heap H) callerA [] s H := ⟨rfl, M, fun b o z => of_hidT z, Nat.le_of_eq (hidT_size _ _), trivial, fun b z => absurd (show b ∈ ([] : List Addr) from z) (by simp), hok, .of_eq hg⟩
  refine codeAny_mono ((F _ KB (ns' hns) TB).run callerA [] s H ⟨[.ref a], []⟩ [.ref a] [.ref a] _ _ hr rfl e0 (hbind s (.ref a)) (.cons rfl .nil) (hsp H (fun c hc => atT _ (inT c hc)) sq)) ?_
  rintro (er | fl) s' z
  · exact (CXA.no ⟨P, w, z⟩).elim
  · rcases fl with _ | _ | _ | u
    all_goals first
      | exact z.elim
      | skip
    obtain ⟨v, H', os, bare, un, hok', r', q⟩ := z
    obtain rfl : v = .bl true := q
    obtain rfl : u = Value.bool true := r'
    have gr : ∀ t ∈ TS, ∃ more : Array Value, s'.heap.get? t = some { cls := .none, data := .fields (#[] ++ more) } := fun t ht => by
      obtain ⟨more, gm⟩ := un.tbls t #[] (atT t ht)
      exact ⟨more, hok' t _ gm⟩
    have old : ∀ b o, b ∉ TS → s.heap.get? b = some o → s'.heap.get? b = some o := fun b o nb z => by
      cases q : H b with
      | none => exact un.keep b o z q (fun y => absurd (show b ∈ ([] : List Addr) from y) (by simp)) (by simp)
      | some u =>
        rcases only q with ⟨e, _⟩ | ⟨rfl, _, rfl⟩
        · exact absurd e nb
        · obtain ⟨e2, _⟩ := hok' b _ (un.frzs b _ _ q)
          rw [ha] at z
          cases z
          exact e2
    refine ⟨rfl, ⟨fun b o z => ?_, fun b o z => ?_⟩, os, bare⟩
    · by_cases hb : b ∈ TS
      · obtain ⟨more, g⟩ := gr b hb
        have hz := hT' b hb
        rw [z] at hz
        cases hz
        rw [← eT] at hb
        obtain ⟨c, hc, rfl⟩ := List.mem_map.mp hb
        exact .inr (.inl ⟨((hd c hc).tab z).isCodeTable, rfl, #[], more, rfl, g⟩)
      · exact .inl (old b o hb z)
    · by_cases hb : b ∈ TS
      · obtain ⟨more, g⟩ := gr b hb
        exact ⟨_, g⟩
      · exact ⟨o, old b o hb z⟩
theorem walk_M {l : PySem.W.OpenLaw} {n k : Nat} {q : Program} {loose : List Str} {XP : (Str → Option Value) → Heap → Prop} {YP : World → Heap → Prop} {d : DefRec} {x : Str} (hn : l.most = some n) (hn2 : n ≤ sizeLine) (hdf : d.params.defaults = []) (hr : Room k callerA)
    (F : ∀ (w : World) (mg : Str → Option Value) (fa : Addr) (h : Heap), YP w h → h.Ns mainGlobals mg → mg d.name = some (.ref fa) → ∃ (K : PySem.W.Frag) (fd : FuncData) (sp : Sp) (cs : List (Addr × Addr)), K.In h ∧ (∀ c ∈ cs, h.get? c.2 = some { cls := .none, data := .fields #[] }) ∧ (∀ c ∈ cs, K.lookup c.2 = none) ∧ (∀ c ∈ cs, PySem.W.CodeHd h c.1 c.2) ∧
      (∀ (s : Shared) (u : Value), BindsTo s fd ⟨[u], []⟩ [(x, u)]) ∧ (∀ (H : Hp) (a : Addr) (ns : List Int), ns.length ≤ n → (∀ c ∈ cs, H c.2 = some (.tbl #[])) → SqL K H a (ns.map V.int) → sp [.ref a] H (fun v _ => v = .bl true) fun _ _ _ => False) ∧
      ∀ base : Heap, K.In base → base.Ns mainGlobals mg → (∀ c ∈ cs, LamX.TabB base mg c.1 c.2) → FnGd l.prog w K mg base k fa fd [x] sp) :
    PySem.W.WalkO q loose XP YP l.row.toRowW d [] (fun f vs => PySem.call f vs) :=
  Att.attach_call hn hdf fun w s0 s1 mg mb fa o pm cd doc a vs ns G Y ho hd hcd hmg hobj hints hlen hg => by
    obtain ⟨K, fd, sp, cs, KX, hT, nT, hC, hb, hsp, hF⟩ := F w mg fa _ Y G.T.g hmg
    exact law_callM KX G.T.g G.T.b G.T.builtins G.T.nolimit hg hT nT hC G.T.bmain hobj hints (Nat.le_trans hlen hn2) hr hF hb fun H hH hS => hsp H a ns hlen hH hS
/-- the store at the law's start: one empty table for each -/
def tabsD (ts : List (Str × Option Str × Str)) : Sto := ts.map fun t => .tab t.1 t.2.1 t.2.2
def tabsA (K : PySem.W.Frag) (ts : List (Str × Option Str × Str)) : List (Addr × Addr) := ts.map fun t => He.cT K (t.1, t.2.1)
/-- the tables stand apart -/
def tabsB (ts : List (Str × Option Str × Str)) : Xb := fun K => decide ((tabsA K ts).map Prod.snd).Nodup
theorem sp_tabs {K : PySem.W.Frag} {ts : List (Str × Option Str × Str)} {F : FD} {H : Hp} {a : Addr} {ns : List Int} (nd : tabsB ts K = true) (hF : ∃ S', F [.scr (ns.map .int)] (tabsD ts) = .ok (.bl true) S') (hT : ∀ c ∈ tabsA K ts, H c.2 = some (.tbl #[])) (hS : SqL K H a (ns.map V.int)) :
    spD K 1 F [.ref a] H (fun v _ => v = .bl true) fun _ _ _ => False := by
  obtain ⟨S', e⟩ := hF
  refine ⟨⟨(tabsA K ts).map Prod.snd, []⟩, tabsD ts, [.scr (ns.map .int)], ⟨of_decide_eq_true nd, by simp [tabsD, tabsA], fun k a d h h2 => ?_, fun a h => by cases h⟩, ⟨.ref a, [], rfl, ⟨a, ns.map V.int, rfl, ?_, ?_⟩, rfl⟩, rfl, ?_⟩
  · unfold tabsD at h2
    unfold tabsA at h
    rw [List.map_map, List.getElem?_map] at h
    rw [List.getElem?_map] at h2
    cases q : ts[k]? with
    | none => rw [q] at h; cases h
    | some t =>
      rw [q] at h h2
      cases h
      cases h2
      refine ⟨#[], hT _ (List.mem_map.mpr ⟨t, List.mem_of_getElem? q, rfl⟩), rfl, trivial, fun pos cv z => by cases z⟩
  · rcases hS with h | h
    · have ne : a ∉ (tabsA K ts).map Prod.snd := fun z => by
        obtain ⟨c, hc, rfl⟩ := List.mem_map.mp z
        rcases h with h | ⟨o, h⟩ <;> rw [hT c hc] at h <;> cases h
      exact .inl ⟨⟨ne, by simp⟩, h⟩
    · exact .inr (.inr h)
  · clear hS e hT nd
    induction ns with
    | nil => rfl
    | cons n r ih => exact ⟨.int n, r.map V.int, rfl, rfl, ih⟩
  · rw [e]
    exact fun O' H' v _ _ r => r
end LM

set_option maxHeartbeats 4000000
/-! a default that is the empty tuple; != of a dict and a text -/
namespace LM
open PySem PySem.Spec PyProof.Rows L2 DE
def dfB (f : Str × Option Str) (i : Nat) : Xb := fun K => match K.lookup (He.dflAt f i K) with
  | some ⟨.type c, _, .seq its _, _⟩ => decide (c = "tuple") && decide (its.toList = [])
  | _ => false
theorem dfB_ok {K : PySem.W.Frag} {f : Str × Option Str} {i : Nat} (h : dfB f i K = true) : WrT K (He.dflAt f i K) [] := by
  unfold dfB at h
  cases q : K.lookup (He.dflAt f i K) with
  | none => rw [q] at h; cases h
  | some o =>
    obtain ⟨oc, od, dt, osl⟩ := o
    rw [q] at h
    cases oc <;> try cases h
    cases dt <;> try cases h
    rename_i c its n
    simp only [Bool.and_eq_true, decide_eq_true_eq] at h
    obtain ⟨rfl, h2⟩ := h
    have hs : its.size = 0 := by rw [← Array.length_toList, h2]; rfl
    refine .inr ⟨_, its, n, q, rfl, rfl, by rw [hs]; exact Nat.zero_le _, by rw [h2]; exact .nil⟩
theorem kbd_dfl {K : PySem.W.Frag} {x qual : Str} {params : Arguments} {body : List Stmt} {scope : Scope} {a : Addr} {kws : List (Str × V)} {f : Addr} {fd : FuncData} {ps : List Str} (F : FunD K x qual params body scope [.ref a] kws f fd) (n : Nat) (ha : WrT K a [])
    (h : ∀ (T : Addr) (kV doc pm : Value) (an : Option Addr) (cdv ct : Value) (us its ws : List Value), us.length = n → its.length = 1 → ws.length = ([] : List Str).length →
      ∃ k, bindArgs (PySem.W.fnOf x qual params body scope (.ref T) kV doc pm an cdv ct) ⟨us, ([] : List Str).zip ws⟩ = seqItems? (.ref T) >>= k ∧ k (some its.toArray) = pure (ps.zip (us ++ its))) : KBD K fd ps n [] fun ds _ => ds ++ [.tup []] := by
  obtain ⟨its, kb⟩ := F.kbindsD (ps := ps) n [] (fun us its _ => us ++ its) (by simp) (fun r r2 _ => r.append r2) h
  exact ⟨_, _, kb, fun O H ds vs es zs r1 _ => r1.append ⟨_, _, rfl, ⟨a, [], rfl, .inr ha, rfl⟩, rfl⟩⟩
def oNeX (d e : D) (S : Sto) : RE D := match d, e with
  | .dK _, .str _ => .ok (.bl true) S
  | d, e => oNe d e S
section
variable {X : Cx}
theorem op_oNeX (hu : X.A.units + 64 < cLine) : OpR X (compareOp .NotEq) (RD X.K oNeX) := by
  intro pins s σ H x y v u Q I rx ry ⟨W, ρ, σ', O, S, d, e, st, r1, r2, h⟩
  unfold oNeX at h
  split at h
  · rename_i kvs t
    obtain ⟨a, vs, rfl, no, hd, rk⟩ := r1
    obtain rfl : v = Value.ref a := rx
    obtain rfl : y = V.str t := r2
    obtain ⟨tk, rfl⟩ := (show ∃ tk, u = Value.str t tk from ry)
    obtain ⟨_, _, ws, _, da⟩ := dk_rd I.hok hd
    exact ne_dict_str da (by omega) ⟨.bl true, H, I, rfl, After.ok h st rfl⟩
  · exact op_oNe hu pins s σ H x y v u Q I rx ry ⟨W, ρ, σ', O, S, d, e, st, r1, r2, h⟩
end
theorem fi_one {K : PySem.W.Frag} {c m : Str} {F : FD} (h : PySem.W.fnIn K (He.ma K (He.ga K c) m) = true) : ∀ c' F', ([(c, F)] : List (Str × FD)).lookup c' = some F' → PySem.W.fnIn K (He.ma K (He.ga K c') m) = true := fun c' F' h' => by
  by_cases e : c' = c
  · rw [e]; exact h
  · rw [List.lookup_cons] at h'
    have : (c' == c) = false := by simpa using e
    rw [this] at h'
    cases h'
end LM

set_option maxHeartbeats 4000000
/-! clauses told by a list of classes; // by a great number -/
namespace LM
open PySem PySem.Spec PyProof.Rows L2 DE
def clT (l : List (Str × Bool)) : Str → Option Bool := fun c => l.lookup c
def ClOk (K : PySem.W.Frag) (x : Str) (l : List (Str × Bool)) : Prop := ∀ c b, clT l c = some b → PySem.W.exmOne K (.ref (He.ga K c)) (.ref (He.ga K x)) = some b
theorem clOk_nil {K : PySem.W.Frag} {x : Str} : ClOk K x [] := fun _ _ h => nomatch h
theorem clOk_cons {K : PySem.W.Frag} {x c : Str} {b : Bool} {l : List (Str × Bool)} (h : PySem.W.exmOne K (.ref (He.ga K c)) (.ref (He.ga K x)) = some b) (r : ClOk K x l) : ClOk K x ((c, b) :: l) := fun d b' e => by
  unfold clT at e
  rw [List.lookup_cons] at e
  cases q : d == c with
  | true =>
    rw [q] at e
    cases e
    rw [eq_of_beq q]
    exact h
  | false => rw [q] at e; exact r d b' e
theorem clT_eq {x : Str} {l : List (Str × Bool)} (hl : (l.all fun p => !p.2 || p.1 == x) = true) {c : Str} (h : clT l c = some true) : c = x := by
  unfold clT at h
  have hm := List.all_eq_true.mp hl _ (PySem.mem_of_lookup h)
  simpa using hm
def oFDivW := oI (fun i j => decide (0 < j ∧ j < lim64)) fun i j => .int (i / j)
theorem op_oFDivW {X : Cx} : OpR X (binaryOp .FloorDiv) (RD X.K oFDivW) := op_I op_fdivW (fun i j h => by
  have h := of_decide_eq_true h
  exact wide_div (b := 64) h.1 (by unfold lim64 at h; omega) (by decide) (by decide)) fun _ _ _ _ => rfl
theorem oFDivW_int {i j : Int} {S : Sto} (h : 0 < j) (h2 : j < lim64) : oFDivW (.int i) (.int j) S = .ok (.int (i / j)) S := if_pos (decide_eq_true ⟨h, h2⟩)
end LM

set_option maxHeartbeats 4000000
/-! len of a dict; l[::-1], l a list -/
namespace LM
open PySem PySem.Spec PyProof.Rows L2 DE
def oLenK : FD := fun ds S => match ds with
  | [d] => (match dictAt S d with
    | some kd => .ok (.int kd.length) S
    | none => .bad)
  | _ => .bad
section
variable {X : Cx} {W : WX} {e : Expr} {f : ME} {k : Option Str} {p1 p2 p3 pos : Pos}
theorem c_oLenK : CallR X (.builtin "len") (RC X.K oLenK) := by
  intro pins s σ H vs us Q I rv ⟨W, ρ, σ', O, S, ds, st, r, h⟩
  unfold oLenK at h
  split at h
  · rename_i d
    obtain ⟨v, rfl, r1⟩ := r.one
    cases e1 : dictAt S d with
    | none => simp only [e1] at h; exact h.elim
    | some kd =>
      simp only [e1] at h
      obtain ⟨a, ws, rfl, hd, rk⟩ := dictAt_rep st e1 r1
      obtain ⟨u, rfl, ru⟩ : ∃ u, us = [u] ∧ RelV (V.ref a) u := by
        cases rv with
        | cons a b => cases b; exact ⟨_, rfl, a⟩
      obtain rfl : u = Value.ref a := ru
      refine d_len I hd fun t s' I' => ⟨.int ws.length, H, I', ⟨t, rfl⟩, ?_⟩
      rw [← RepK.length rk]
      exact After.ok h st rfl
  · exact h.elim
/-- the list turned round -/
def dRevL (f : ME) : ME := fun ρ S => (f ρ S).bind fun d S1 => match d with
  | .lst ds => .ok (.lst ds.reverse) S1
  | _ => .bad
theorem de_revL {k : Nat} (he : DE X W e f) : DE X W (.Subscript e (.Slice none none (some (.UnaryOp .USub (.Constant (.int 1) k p1) p2)) p3) pos) (dRevL f) := ⟨⟨fun pins s σ H Q I ⟨O, ρ, S, st, h⟩ => by
  refine Subscript_ (thn (he.pe.run pins s σ H (fun v H1 => ∃ O1 d S1, Stt X.K O1 H1 ρ σ S1 ∧ Rep X.K O1 H1 d v ∧ After X.K W (Rep X.K) ρ σ O1 H1 Q (match d with | .lst ds => .ok (.lst ds.reverse) S1 | _ => .bad)) I ⟨O, ρ, S, st, After.seq h fun d S1 O1 H1 v e1 st1 r1 h1 => ⟨O1, d, S1, st1, r1, h1⟩⟩) fun u s1 ⟨v, H1, I1, rv, O1, d, S1, st1, r1, h1⟩ => ?_)
  cases d <;> try exact h1.elim
  rename_i ds
  obtain ⟨a, xs, rfl, no, hx, rs⟩ := r1
  cases rv
  have mn : PO X (some (.UnaryOp .USub (.Constant (.int 1) k p1) p2)) (tPart (tUn (rU fun i => .int (-i)) (tC (.int 1)))) := po_some (pe_un un_neg pe_int)
  refine wpAny_Slice (thn (po_none.run pins s1 σ H1 (fun o H2 => o = none ∧ H2 = H1) I1 ⟨rfl, rfl⟩) fun vl s2 ⟨l, H2, I2, pl, el, e2⟩ => ?_)
  subst el e2
  refine thn (po_none.run pins s2 σ H2 (fun o H3 => o = none ∧ H3 = H2) I2 ⟨rfl, rfl⟩) fun vu s3 ⟨u, H3, I3, pu, eu, e3⟩ => ?_
  subst eu e3
  refine thn (mn.run pins s3 σ H3 (fun o H4 => o = some (-1) ∧ H4 = H3) I3 ⟨1, rfl, -1, rfl, rfl, rfl⟩) fun vs s4 ⟨o, H4, I4, ps, eo, e4⟩ => ?_
  subst eo e4
  have I5 : Inv X pins σ H4 { s4 with heap := s4.heap.push { cls := .type "slice", data := .fields #[vl, vu, vs] } } := I4.kept (t' := s4.toks) fun b ob q => Heap.get?_push_of_some _ q
  obtain ⟨its, r, ht, hz⟩ := I5.list (.inl (.inl hx))
  have ln := r.length
  refine (show wpAny (model X.prog X.w) X.A (subscriptTail e (.Slice none none (some (.UnaryOp .USub (.Constant (.int 1) k p1) p2)) p3) (.ref a) (.ref s4.heap.objs.size)) (EP X pins σ Q) X.xe { s4 with heap := s4.heap.push { cls := .type "slice", data := .fields #[vl, vu, vs] } } from ?_)
  refine tail_any (ops := [.ref a, .ref s4.heap.objs.size]) ht.isList.typeIs slot_list_getitem.lookup (wpAny_getItem_list_slice ht.isList (Heap.IsSliceOf.new _ vl vu vs) pl pu ps (by simp) ?_ (by rw [List.size_toArray]; omega)) (by with_unfolding_all rfl)
  have hn := I5.hok.fresh (Nat.le_refl _)
  obtain ⟨e6, st6⟩ := st1.new (o := .lst xs.reverse) hn
  rw [PySem.W.krv_pick]
  refine ⟨.ref _, _, I5.laid (t' := s4.toks) (o := .lst xs.reverse) (fun b ob q => Heap.get?_push_of_some _ q) (Nat.le_refl _) ?_, rfl, h1 O1 _ _ e6 st6 ⟨_, _, rfl, st1.no hn, upd_same, (rs.mono (e6.w st1.wf)).rev⟩⟩
  exact ⟨by rw [List.length_reverse]; exact hz, its.reverse, 0, vals_rev r, Heap.get?_push_size _ rfl⟩⟩⟩
end
end LM

set_option maxHeartbeats 4000000
namespace G
open PySem PySem.Spec PyProof.Rows L2 DE
def TABS : List (Str × Option Str × Str) := [("Content", some "__init__", "Content.__init__.<locals>.<lambda>"), ("law", none, "law.<locals>.<lambda>")]
def top (i : Nat) : Stmt := PySem.Challenge.pw_tombkeeper_k05_contents_told.main.body.getD i (.Pass ⟨0, 0, 0, 0⟩)
abbrev s_is_word : Stmt := top 10
abbrev s_is_value : Stmt := top 11
abbrev s_is_number : Stmt := top 12
abbrev s_is_stamp : Stmt := top 13
abbrev s_is_entry : Stmt := top 14
abbrev s_are_entries : Stmt := top 16
abbrev s_Content___init__ : Stmt := clsDefAt 0 (top 17)
abbrev s_Content___contains__ : Stmt := clsDefAt 1 (top 17)
abbrev s_Content___getitem__ : Stmt := clsDefAt 2 (top 17)
abbrev s_Content___len__ : Stmt := clsDefAt 4 (top 17)
abbrev s_Content_entries : Stmt := clsDefAt 5 (top 17)
abbrev s_Content_key_list : Stmt := clsDefAt 6 (top 17)
abbrev s_Content_shows : Stmt := clsDefAt 7 (top 17)
abbrev s_Content___eq__ : Stmt := clsDefAt 13 (top 17)
abbrev s_law_pool : Stmt := top 21
abbrev s_law_take : Stmt := top 22
abbrev s_law_entries : Stmt := top 23
abbrev s_law_refused : Stmt := top 24
abbrev s_law_told : Stmt := top 25
abbrev s_law : Stmt := top 26
def d_is_word : He.DefD := ⟨("is_word", none), "is_word", "is_word", defArgs s_is_word, defBody s_is_word, defScope s_is_word, [], []⟩
def d_is_value : He.DefD := ⟨("is_value", none), "is_value", "is_value", defArgs s_is_value, defBody s_is_value, defScope s_is_value, [], []⟩
def d_is_number : He.DefD := ⟨("is_number", none), "is_number", "is_number", defArgs s_is_number, defBody s_is_number, defScope s_is_number, [], []⟩
def d_is_stamp : He.DefD := ⟨("is_stamp", none), "is_stamp", "is_stamp", defArgs s_is_stamp, defBody s_is_stamp, defScope s_is_stamp, [], []⟩
def d_is_entry : He.DefD := ⟨("is_entry", none), "is_entry", "is_entry", defArgs s_is_entry, defBody s_is_entry, defScope s_is_entry, [], []⟩
def d_are_entries : He.DefD := ⟨("are_entries", none), "are_entries", "are_entries", defArgs s_are_entries, defBody s_are_entries, defScope s_are_entries, [], []⟩
def d_Content___init__ : He.DefD := ⟨("Content", some "__init__"), "__init__", "Content.__init__", defArgs s_Content___init__, defBody s_Content___init__, defScope s_Content___init__, [.adr (He.dflAt ("Content", some "__init__") 0)], []⟩
def d_Content___contains__ : He.DefD := ⟨("Content", some "__contains__"), "__contains__", "Content.__contains__", defArgs s_Content___contains__, defBody s_Content___contains__, defScope s_Content___contains__, [], []⟩
def d_Content___getitem__ : He.DefD := ⟨("Content", some "__getitem__"), "__getitem__", "Content.__getitem__", defArgs s_Content___getitem__, defBody s_Content___getitem__, defScope s_Content___getitem__, [], []⟩
def d_Content___len__ : He.DefD := ⟨("Content", some "__len__"), "__len__", "Content.__len__", defArgs s_Content___len__, defBody s_Content___len__, defScope s_Content___len__, [], []⟩
def d_Content_entries : He.DefD := ⟨("Content", some "entries"), "entries", "Content.entries", defArgs s_Content_entries, defBody s_Content_entries, defScope s_Content_entries, [], []⟩
def d_Content_key_list : He.DefD := ⟨("Content", some "key_list"), "key_list", "Content.key_list", defArgs s_Content_key_list, defBody s_Content_key_list, defScope s_Content_key_list, [], []⟩
def d_Content_shows : He.DefD := ⟨("Content", some "shows"), "shows", "Content.shows", defArgs s_Content_shows, defBody s_Content_shows, defScope s_Content_shows, [], []⟩
def d_Content___eq__ : He.DefD := ⟨("Content", some "__eq__"), "__eq__", "Content.__eq__", defArgs s_Content___eq__, defBody s_Content___eq__, defScope s_Content___eq__, [], []⟩
def d_law_pool : He.DefD := ⟨("_law_pool", none), "_law_pool", "_law_pool", defArgs s_law_pool, defBody s_law_pool, defScope s_law_pool, [], []⟩
def d_law_take : He.DefD := ⟨("_law_take", none), "_law_take", "_law_take", defArgs s_law_take, defBody s_law_take, defScope s_law_take, [], []⟩
def d_law_entries : He.DefD := ⟨("_law_entries", none), "_law_entries", "_law_entries", defArgs s_law_entries, defBody s_law_entries, defScope s_law_entries, [], []⟩
def d_law_refused : He.DefD := ⟨("_law_refused", none), "_law_refused", "_law_refused", defArgs s_law_refused, defBody s_law_refused, defScope s_law_refused, [], []⟩
def d_law_told : He.DefD := ⟨("_law_told", none), "_law_told", "_law_told", defArgs s_law_told, defBody s_law_told, defScope s_law_told, [], []⟩
def d_law : He.DefD := ⟨("law", none), "law", "law", defArgs s_law, defBody s_law, defScope s_law, [], []⟩
abbrev s_i_BadEntries : Stmt := clsDef (top 3)
def d_i_BadEntries : He.DefD := ⟨("BadEntries", some "__init__"), "__init__", "BadEntries.__init__", defArgs s_i_BadEntries, defBody s_i_BadEntries, defScope s_i_BadEntries, [], []⟩
theorem sc_i_BadEntries : FnScope ["self", "value"] ["self", "value"] (defScope s_i_BadEntries) := ⟨rfl, rfl, rfl, by decide +kernel, rfl, by decide +kernel, by decide +kernel⟩
abbrev s_i_BadKey : Stmt := clsDef (top 4)
def d_i_BadKey : He.DefD := ⟨("BadKey", some "__init__"), "__init__", "BadKey.__init__", defArgs s_i_BadKey, defBody s_i_BadKey, defScope s_i_BadKey, [], []⟩
theorem sc_i_BadKey : FnScope ["self", "value"] ["self", "value"] (defScope s_i_BadKey) := ⟨rfl, rfl, rfl, by decide +kernel, rfl, by decide +kernel, by decide +kernel⟩
abbrev s_i_NoEntry : Stmt := clsDef (top 5)
def d_i_NoEntry : He.DefD := ⟨("NoEntry", some "__init__"), "__init__", "NoEntry.__init__", defArgs s_i_NoEntry, defBody s_i_NoEntry, defScope s_i_NoEntry, [], []⟩
theorem sc_i_NoEntry : FnScope ["self", "value"] ["self", "value"] (defScope s_i_NoEntry) := ⟨rfl, rfl, rfl, by decide +kernel, rfl, by decide +kernel, by decide +kernel⟩
def fn : List He.DefD := [d_is_word, d_is_value, d_is_number, d_is_stamp, d_is_entry, d_are_entries, d_Content___init__, d_Content___contains__, d_Content___getitem__, d_Content___len__, d_Content_entries, d_Content_key_list, d_Content_shows, d_Content___eq__, d_law_pool, d_law_take, d_law_entries, d_law_refused, d_law_told, d_law, d_i_BadEntries, d_i_BadKey, d_i_NoEntry]
def fa : List He.Fa := [.glo "BadEntries", .glo "BadKey", .glo "NoEntry", .str "LETTERS" "abcdefghijklmnopqrstuvwxyz", .free "all", .free "len", .free "str", .free "isinstance", .glo "is_word", .int "MOST_VALUE" 40, .glo "is_value", .int "MOST_NUMBER" 1000000000000000, .free "bool", .free "int", .glo "is_number", .cls "Content", .noat "Content" "rows", .meth "Content" "__len__", .free "tuple", .meth "Content" "entries", .free "list", .meth "Content" "key_list", .glo "_law_pool", .glo "_law_take", .glo "TombError", .free "repr", .exm "NoEntry" "BadEntries" false, .exm "BadKey" "BadEntries" false, .exm "BadEntries" "BadEntries" true, .exm "NoEntry" "BadKey" false, .exm "BadKey" "BadKey" true, .exm "BadEntries" "BadKey" false, .free "KeyError", .exm "NoEntry" "NoEntry" true, .exm "BadKey" "NoEntry" false, .exm "BadEntries" "NoEntry" false, .glo "_law_refused", .glo "is_stamp", .meth "Content" "__contains__", .free "range", .glo "_law_entries", .glo "is_entry", .meth "Content" "__getitem__", .meth "Content" "shows", .glo "are_entries", .free "sorted", .mkr "Content", .glo "_law_told", .glo "Content", .meth "Content" "__eq__", .free "min", .free "max", .glo "law"]
def TG : List ((Str × Str) × Bool) := [(("BadEntries", "TombError"), true), (("BadKey", "TombError"), true)]
def TT : List ((Str × String) × Bool) := [(("NoEntry", "KeyError"), true)]
def xs : List Xb := [xgB TG, xtB TT, LM.tabsB TABS, x1B "BadEntries" "value", x1B "BadKey" "value", XN.xE "NoEntry" ["value"], LM.rsB "NoEntry", LM.dfB ("Content", some "__init__") 0, fun K => PySem.W.fnIn K (He.ma K (He.ga K "Content") "__getitem__"), LM.ioB "Content" [("Content", true)], LM.neB "Content", LM.nfB "Content"]
structure T0 (K : PySem.W.Frag) (mg : Str → Option Value) (base : Heap) : Prop where
  c : He.SaysD fa fn K
  x : (xs.all fun f => f K) = true
  h : ∃ h : Heap, K.In h ∧ h.Ns mainGlobals mg
  tb : ∀ c ∈ LM.tabsA K TABS, LamX.TabB base mg c.1 c.2
section
variable {K : PySem.W.Frag} {mg : Str → Option Value} {base : Heap}
theorem T0.tbn (T : T0 K mg base) (i : Nat) {c q : Str} {m : Option Str} (h : TABS[i]? = some (c, m, q) := by rfl) : LamX.TabB base mg (He.cT K (c, m)).1 (He.cT K (c, m)).2 := T.tb _ (List.mem_map.mpr ⟨(c, m, q), List.mem_of_getElem? h, rfl⟩)
theorem T0.xb (T : T0 K mg base) (i : Nat) {f : Xb} (hx : xs[i]? = some f := by rfl) : f K = true := List.all_eq_true.mp T.x f (List.mem_of_getElem? hx)
theorem T0.free (T : T0 K mg base) (i : Nat) {x : Str} (hx : fa[i]? = some (.free x) := by rfl) : mg x = none := by
  obtain ⟨h, X, G⟩ := T.h
  exact He.free_ok X G (T.c.fact i hx)
theorem T0.glo (T : T0 K mg base) (i : Nat) {x : Str} (hx : fa[i]? = some (.glo x) := by rfl) : mg x = some (.ref (He.ga K x)) := by
  obtain ⟨h, X, G⟩ := T.h
  exact He.glo_ok X G (T.c.fact i hx)
theorem T0.int (T : T0 K mg base) (i : Nat) {x : Str} {z : Int} (hx : fa[i]? = some (.int x z) := by rfl) : ∃ t, mg x = some (.int z t) := by
  obtain ⟨h, X, G⟩ := T.h
  exact He.int_ok X G (T.c.fact i hx)
theorem T0.str (T : T0 K mg base) (i : Nat) {x z : Str} (hx : fa[i]? = some (.str x z) := by rfl) : ∃ t, mg x = some (.str z t) := by
  obtain ⟨h, X, G⟩ := T.h
  exact He.str_ok X G (T.c.fact i hx)
end
section
variable {P : Program} {w : World} {K : PySem.W.Frag} {mg : Str → Option Value} {base : Heap}
theorem fc_rows (T : T0 K mg base) : ∀ c ∈ (["Content"] : List Str), Cls K (He.ga K c) ∧ NoAttr K (He.ga K c) "rows" := fun c hc => by
  rw [List.mem_singleton.mp hc]
  exact ⟨He.cls_ok (T.c.fact 15 (f := .cls "Content")), He.noat_ok (T.c.fact 16 (f := .noat "Content" "rows"))⟩
theorem err_BadEntries (T : T0 K mg base) : Err P w K mg base "BadEntries" "value" := by
  obtain ⟨fd, F⟩ := T.c.def_ 20 (d := d_i_BadEntries) rfl
  exact ⟨x1B_ok (T.xb 3 (f := x1B "BadEntries" "value")), ⟨fd, init_of F rfl sc_i_BadEntries rfl rfl, F.bindsN fun _ _ _ _ _ _ us hl => match us, hl with | [_, _], _ => rfl⟩, T.glo 0⟩
theorem err_BadKey (T : T0 K mg base) : Err P w K mg base "BadKey" "value" := by
  obtain ⟨fd, F⟩ := T.c.def_ 21 (d := d_i_BadKey) rfl
  exact ⟨x1B_ok (T.xb 4 (f := x1B "BadKey" "value")), ⟨fd, init_of F rfl sc_i_BadKey rfl rfl, F.bindsN fun _ _ _ _ _ _ us hl => match us, hl with | [_, _], _ => rfl⟩, T.glo 1⟩
theorem errG_NoEntry (T : T0 K mg base) : LM.ErrG P w K mg base "NoEntry" "value" := by
  obtain ⟨fd, F⟩ := T.c.def_ 22 (d := d_i_NoEntry) rfl
  exact ⟨XN.xE_ok (T.xb 5 (f := XN.xE "NoEntry" ["value"])), T.xb 6 (f := LM.rsB "NoEntry"), ⟨fd, XN.in1_of F rfl sc_i_NoEntry rfl rfl, F.bindsN fun _ _ _ _ _ _ us hl => match us, hl with | [_, _], _ => rfl⟩, T.glo 2⟩
def B_is_word : MS := (sSeq (sIf (dOrT (dNotT (dTest (dBlt oIsi (aCons (dVar 0) (aCons (dC (.ty "str")) aNil))))) (dNotT (dTest (dChain oLe oLe (dC (.int 1)) (dBlt oLen (aCons (dVar 0) aNil)) (dC (.int 8))))))
    (sRet (dC (.bl false)))
    sNil)
    (sRet (dBlt oAll (aCons (dLC [1] (iOf (dVar 0)) (gN 1) mYes (dBin oIn (dVar 1) (dC (.str "abcdefghijklmnopqrstuvwxyz")))) aNil))))
def F_is_word : FD := fnD 2 B_is_word
theorem sc_is_word : FnScope ["thing", "sign"] ["thing"] (defScope s_is_word) := ⟨rfl, rfl, rfl, by decide +kernel, rfl, by decide +kernel, by decide +kernel⟩
theorem ok_is_word (T : T0 K mg base) : FnG P w K mg base 1 "is_word" 1 F_is_word := by
  obtain ⟨fd, F⟩ := T.c.def_ 0 (d := d_is_word) rfl
  refine ⟨⟨fd, ["thing"], fn_dataG F sc_is_word fun cdv A outer s H E hr gd0 => ?_, F.bindsN fun _ _ _ _ _ _ us hl => match us, hl with | [_], _ => rfl⟩, T.glo 8, F.kp⟩
  exact (dss_cons (ds_if (DW.dt (dw_or (dt_not (dt_val (de_bf c_oIsi rfl (T.free 7) (by decide +kernel) (da_cons (dv 0) (da_cons (de_ty (n := "str") rfl (T.free 6) (by decide +kernel)) da_nil))))) (dw_or1 (dt_not (dt_chain op_oLe op_oLe de_int (de_bf c_oLen rfl (T.free 5) (by decide +kernel) (da_cons (dv 0) da_nil)) de_int)))))
    (dss_one (ds_ret de_bl))
    dss_nil)
    (dss_one (ds_ret (de_bf (c_oAll rfl) rfl (T.free 4) (by decide +kernel) (da_cons (de_lc rfl sc_is_word.nd (di_any (dv 0)) (blkOk_by (own := [("sign", 1)]) (by kernel_rfl)) (fun _ _ _ _ _ => (dg_name 1 sc_is_word.nd rfl (by first | exact Or.inl rfl | exact Or.inr rfl))) (fun _ _ _ _ _ => dts_nil) (fun _ _ _ _ _ => (de_rel op_oIn (dv 1) (de_gstr (T.str 3)))) (by decide)) da_nil)))))
def B_is_value : MS := (sRet (dAnd (dBlt oIsi (aCons (dVar 0) (aCons (dC (.ty "str")) aNil))) (dAnd (dBin oLe (dBlt oLen (aCons (dVar 0) aNil)) (dC (.int 40))) (dBlt oAll (aCons (dLC [1] (iOf (dVar 0)) (gN 1) mYes (dChain oLe oLe (dC (.str " ")) (dVar 1) (dC (.str "~")))) aNil)))))
def F_is_value : FD := fnD 2 B_is_value
theorem sc_is_value : FnScope ["thing", "sign"] ["thing"] (defScope s_is_value) := ⟨rfl, rfl, rfl, by decide +kernel, rfl, by decide +kernel, by decide +kernel⟩
theorem ok_is_value (T : T0 K mg base) : FnG P w K mg base 1 "is_value" 1 F_is_value := by
  obtain ⟨fd, F⟩ := T.c.def_ 1 (d := d_is_value) rfl
  refine ⟨⟨fd, ["thing"], fn_dataG F sc_is_value fun cdv A outer s H E hr gd0 => ?_, F.bindsN fun _ _ _ _ _ _ us hl => match us, hl with | [_], _ => rfl⟩, T.glo 10, F.kp⟩
  exact (dss_one (ds_ret (de_and (de_bf c_oIsi rfl (T.free 7) (by decide +kernel) (da_cons (dv 0) (da_cons (de_ty (n := "str") rfl (T.free 6) (by decide +kernel)) da_nil))) (de_and (de_rel op_oLe (de_bf c_oLen rfl (T.free 5) (by decide +kernel) (da_cons (dv 0) da_nil)) (de_gint (T.int 9))) (de_one (de_bf (c_oAll rfl) rfl (T.free 4) (by decide +kernel) (da_cons (de_lc rfl sc_is_value.nd (di_any (dv 0)) (blkOk_by (own := [("sign", 1)]) (by kernel_rfl)) (fun _ _ _ _ _ => (dg_name 1 sc_is_value.nd rfl (by first | exact Or.inl rfl | exact Or.inr rfl))) (fun _ _ _ _ _ => dts_nil) (fun _ _ _ _ _ => (de_chain op_oLe op_oLe de_str (dv 1) de_str)) (by decide)) da_nil)))))))
def B_is_number : MS := (sRet (dAnd (dBlt oIsi (aCons (dVar 0) (aCons (dC (.ty "int")) aNil))) (dAnd (dNot (dBlt oIsi (aCons (dVar 0) (aCons (dC (.ty "bool")) aNil)))) (dChain oLe oLe (dC (.int 1)) (dVar 0) (dC (.int 1000000000000000))))))
def F_is_number : FD := fnD 1 B_is_number
theorem sc_is_number : FnScope ["thing"] ["thing"] (defScope s_is_number) := ⟨rfl, rfl, rfl, by decide +kernel, rfl, by decide +kernel, by decide +kernel⟩
theorem ok_is_number (T : T0 K mg base) : FnG P w K mg base 1 "is_number" 1 F_is_number := by
  obtain ⟨fd, F⟩ := T.c.def_ 2 (d := d_is_number) rfl
  refine ⟨⟨fd, ["thing"], fn_dataG F sc_is_number fun cdv A outer s H E hr gd0 => ?_, F.bindsN fun _ _ _ _ _ _ us hl => match us, hl with | [_], _ => rfl⟩, T.glo 14, F.kp⟩
  exact (dss_one (ds_ret (de_and (de_bf c_oIsi rfl (T.free 7) (by decide +kernel) (da_cons (dv 0) (da_cons (de_ty (n := "int") rfl (T.free 13) (by decide +kernel)) da_nil))) (de_and (de_not (de_bf c_oIsi rfl (T.free 7) (by decide +kernel) (da_cons (dv 0) (da_cons (de_ty (n := "bool") rfl (T.free 12) (by decide +kernel)) da_nil)))) (de_one (de_chain op_oLe op_oLe de_int (dv 0) (de_gint (T.int 11))))))))
def B_Content___len__ : MS := (sRet (dBlt LM.oLenK (aCons (dFld "rows" ["Content"] (dVar 0)) aNil)))
def F_Content___len__ : FD := fnD 1 B_Content___len__
theorem sc_Content___len__ : FnScope ["self"] ["self"] (defScope s_Content___len__) := ⟨rfl, rfl, rfl, by decide +kernel, rfl, by decide +kernel, by decide +kernel⟩
theorem ok_Content___len__ (T : T0 K mg base) : MethA P w K mg base 1 "Content" "__len__" 1 F_Content___len__ := by
  obtain ⟨fd, F⟩ := T.c.def_ 9 (d := d_Content___len__) rfl
  refine ⟨⟨fd, ["self"], fn_dataG F sc_Content___len__ fun cdv A outer s H E hr gd0 => ?_, F.bindsN fun _ _ _ _ _ _ us hl => match us, hl with | [_], _ => rfl⟩, He.meth_ok (T.c.fact 17 (f := .meth "Content" "__len__")), He.cls_ok (T.c.fact 15 (f := .cls "Content"))⟩
  exact (dss_one (ds_ret (de_bf LM.c_oLenK rfl (T.free 5) (by decide +kernel) (da_cons (de_fld (dv 0) (fc_rows T)) da_nil))))
def B_Content_entries : MS := (sRet (dBlt oTuple (aCons (LM.dLI 0 "rows" ["Content"] [1, 2, 3] (gTL 2 (gsCons (gN 1) (gsCons (gTL 2 (gsCons (gN 2) (gsCons (gN 3) gsNil))) gsNil))) mYes (dTup (aCons (dVar 1) (aCons (dVar 2) (aCons (dVar 3) aNil))))) aNil)))
def F_Content_entries : FD := fnD 4 B_Content_entries
theorem sc_Content_entries : FnScope ["self", "key", "stamp", "value"] ["self"] (defScope s_Content_entries) := ⟨rfl, rfl, rfl, by decide +kernel, rfl, by decide +kernel, by decide +kernel⟩
theorem ok_Content_entries (T : T0 K mg base) : MethA P w K mg base 1 "Content" "entries" 1 F_Content_entries := by
  obtain ⟨fd, F⟩ := T.c.def_ 10 (d := d_Content_entries) rfl
  refine ⟨⟨fd, ["self"], fn_dataG F sc_Content_entries fun cdv A outer s H E hr gd0 => ?_, F.bindsN fun _ _ _ _ _ _ us hl => match us, hl with | [_], _ => rfl⟩, He.meth_ok (T.c.fact 19 (f := .meth "Content" "entries")), He.cls_ok (T.c.fact 15 (f := .cls "Content"))⟩
  exact (dss_one (ds_ret (de_bt c_oTuple rfl (T.free 18) (by decide +kernel) (da_cons (LM.de_lci (i := 0) rfl sc_Content_entries.nd rfl (by first | exact Or.inl rfl | exact Or.inr (Or.inl rfl) | exact Or.inr (Or.inr rfl)) (fc_rows T) (blkOk_by (own := [("key", 1), ("stamp", 2), ("value", 3)]) (by kernel_rfl)) (fun _ _ _ _ _ => (dg_tl rfl (dgs_cons (dg_name 1 sc_Content_entries.nd rfl (by first | exact Or.inl rfl | exact Or.inr rfl)) (dgs_cons (dg_tl rfl (dgs_cons (dg_name 2 sc_Content_entries.nd rfl (by first | exact Or.inl rfl | exact Or.inr rfl)) (dgs_cons (dg_name 3 sc_Content_entries.nd rfl (by first | exact Or.inl rfl | exact Or.inr rfl)) dgs_nil))) dgs_nil)))) (fun _ _ _ _ _ => dts_nil) (fun _ _ _ _ _ => (de_tup (da_cons (dv 1) (da_cons (dv 2) (da_cons (dv 3) da_nil))))) (by decide)) da_nil))))
def B_Content_key_list : MS := (sRet (dBlt LM.oListKO (aCons (dFld "rows" ["Content"] (dVar 0)) aNil)))
def F_Content_key_list : FD := fnD 1 B_Content_key_list
theorem sc_Content_key_list : FnScope ["self"] ["self"] (defScope s_Content_key_list) := ⟨rfl, rfl, rfl, by decide +kernel, rfl, by decide +kernel, by decide +kernel⟩
theorem ok_Content_key_list (T : T0 K mg base) : MethA P w K mg base 1 "Content" "key_list" 1 F_Content_key_list := by
  obtain ⟨fd, F⟩ := T.c.def_ 11 (d := d_Content_key_list) rfl
  refine ⟨⟨fd, ["self"], fn_dataG F sc_Content_key_list fun cdv A outer s H E hr gd0 => ?_, F.bindsN fun _ _ _ _ _ _ us hl => match us, hl with | [_], _ => rfl⟩, He.meth_ok (T.c.fact 21 (f := .meth "Content" "key_list")), He.cls_ok (T.c.fact 15 (f := .cls "Content"))⟩
  exact (dss_one (ds_ret (de_bt (LM.c_oListKO rfl) rfl (T.free 20) (by decide +kernel) (da_cons (de_fld (dv 0) (fc_rows T)) da_nil))))
def B_law_pool : MS := (sSeq (sAsg (dC (.int 0)) (gN 2))
    (sSeq (sIf (dTest (dBin oLt (dVar 1) (dBlt oLen (aCons (dVar 0) aNil))))
    (sAsg (dBin oIx (dVar 0) (dVar 1)) (gN 2))
    sNil)
    (sSeq (sAsg (dBin oMod (dBin oMul (dBin oAdd (dBin oAdd (dBin oMod (dVar 2) (dC (.int 2147483629))) (dBin oMul (dBin oMul (dC (.int 7919)) (dVar 1)) (dVar 1))) (dC (.int 13))) (dC (.int 48271))) (dC (.int 2147483647))) (gN 3))
    (sSeq (sIf (dTest (dBin oLt (dVar 2) (dBin oPow (dC (.int 10)) (dC (.int 18)))))
    (sAsg (dC (.int 0)) (gN 2))
    sNil)
    (sRet (dLstO (aCons (dVar 2) (aCons (dBin oAdd (dBin oMod (dBin oMul (dVar 3) (dVar 3)) (dC (.int 2147483587))) (dC (.int 1))) aNil))))))))
def F_law_pool : FD := fnD 4 B_law_pool
theorem sc_law_pool : FnScope ["_law_script", "_law_k", "_law_cell", "_law_seed"] ["_law_script", "_law_k"] (defScope s_law_pool) := ⟨rfl, rfl, rfl, by decide +kernel, rfl, by decide +kernel, by decide +kernel⟩
theorem ok_law_pool (T : T0 K mg base) : FnG P w K mg base 1 "_law_pool" 2 F_law_pool := by
  obtain ⟨fd, F⟩ := T.c.def_ 14 (d := d_law_pool) rfl
  refine ⟨⟨fd, ["_law_script", "_law_k"], fn_dataG F sc_law_pool fun cdv A outer s H E hr gd0 => ?_, F.bindsN fun _ _ _ _ _ _ us hl => match us, hl with | [_, _], _ => rfl⟩, T.glo 22, F.kp⟩
  exact (dss_cons (ds_set 2 sc_law_pool.nd rfl (by first | exact Or.inl rfl | exact Or.inr rfl) de_int)
    (dss_cons (ds_if (dt_rel op_oLt (dv 1) (de_bf c_oLen rfl (T.free 5) (by decide +kernel) (da_cons (dv 0) da_nil)))
    (dss_one (ds_set 2 sc_law_pool.nd rfl (by first | exact Or.inl rfl | exact Or.inr rfl) (de_ix (dv 0) (dv 1))))
    dss_nil)
    (dss_cons (ds_set 3 sc_law_pool.nd rfl (by first | exact Or.inl rfl | exact Or.inr rfl) (de_bin op_oMod (de_bin op_oMul (de_bin op_oAdd (de_bin op_oAdd (de_bin op_oMod (dv 2) de_int) (de_bin op_oMul (de_bin op_oMul de_int (dv 1)) (dv 1))) de_int) de_int) de_int))
    (dss_cons (ds_if (dt_rel op_oLt (dv 2) (de_bin op_oPow de_int de_int))
    (dss_one (ds_set 2 sc_law_pool.nd rfl (by first | exact Or.inl rfl | exact Or.inr rfl) de_int))
    dss_nil)
    (dss_one (ds_ret (de_lstO (da_cons (dv 2) (da_cons (de_bin op_oAdd (de_bin op_oMod (de_bin op_oMul (dv 3) (dv 3)) de_int) de_int) da_nil)))))))))
def B_law_take : MS := (sSeq (sIf (dTest (dBin oGt (dBin oIx (dVar 0) (dC (.int 0))) (dC (.int 0))))
    (sSeq (sAsg (dBin oMod (dBin oIx (dVar 0) (dC (.int 0))) (dVar 1)) (gN 2))
    (sSeq (sSetIx (dBin LM.oFDivW (dBin oIx (dVar 0) (dC (.int 0))) (dVar 1)) (dVar 0) (dC (.int 0)))
    (sRet (dVar 2))))
    sNil)
    (sSeq (sSetIx (dBin oMod (dBin oAdd (dBin oMul (dBin oIx (dVar 0) (dC (.int 1))) (dC (.int 48271))) (dC (.int 11))) (dC (.int 2147483647))) (dVar 0) (dC (.int 1)))
    (sRet (dBin oMod (dBin oFDiv (dBin oMod (dBin oMul (dBin oIx (dVar 0) (dC (.int 1))) (dBin oIx (dVar 0) (dC (.int 1)))) (dC (.int 2147483629))) (dC (.int 64))) (dVar 1)))))
def F_law_take : FD := fnD 3 B_law_take
theorem sc_law_take : FnScope ["_law_pool_here", "_law_many", "_law_found"] ["_law_pool_here", "_law_many"] (defScope s_law_take) := ⟨rfl, rfl, rfl, by decide +kernel, rfl, by decide +kernel, by decide +kernel⟩
theorem ok_law_take (T : T0 K mg base) : FnG P w K mg base 1 "_law_take" 2 F_law_take := by
  obtain ⟨fd, F⟩ := T.c.def_ 15 (d := d_law_take) rfl
  refine ⟨⟨fd, ["_law_pool_here", "_law_many"], fn_dataG F sc_law_take fun cdv A outer s H E hr gd0 => ?_, F.bindsN fun _ _ _ _ _ _ us hl => match us, hl with | [_, _], _ => rfl⟩, T.glo 23, F.kp⟩
  exact (dss_cons (ds_if (dt_rel op_oGt (de_ix (dv 0) de_int) de_int)
    (dss_cons (ds_set 2 sc_law_take.nd rfl (by first | exact Or.inl rfl | exact Or.inr rfl) (de_bin op_oMod (de_ix (dv 0) de_int) (dv 1)))
    (dss_cons (ds_setIx (de_bin LM.op_oFDivW (de_ix (dv 0) de_int) (dv 1)) (dv 0) de_int)
    (dss_one (ds_ret (dv 2)))))
    dss_nil)
    (dss_cons (ds_setIx (de_bin op_oMod (de_bin op_oAdd (de_bin op_oMul (de_ix (dv 0) de_int) de_int) de_int) de_int) (dv 0) de_int)
    (dss_one (ds_ret (de_bin op_oMod (de_bin op_oFDiv (de_bin op_oMod (de_bin op_oMul (de_ix (dv 0) de_int) (de_ix (dv 0) de_int)) de_int) de_int) (dv 1))))))
theorem sc_law_refused : FnScope ["_law_call", "_law_kept", "e"] ["_law_call"] (defScope s_law_refused) := ⟨rfl, rfl, rfl, by decide +kernel, rfl, by decide +kernel, by decide +kernel⟩
def H_law_refused_0 (xa xd : Nat) : MS := (sAsg (dLst (aCons (dC (.str "entries")) (aCons (dBlt oRepr (aCons (dXf xa xd "value" (dVar 2)) aNil)) (aCons (dBlt (oXi xa xd (ktD "BadEntries" TG TT)) (aCons (dVar 2) (aCons (dC (.glo "TombError")) aNil))) aNil)))) (gN 1))
theorem u_H_law_refused_0 (y : Exc) (a dd : Nat) (ρ : DE.Env) (S : Sto) : RS.unset 2 (H_law_refused_0 a dd (ρ.set 2 (some (.xcp a dd y.fs))) S) = RS.unset 2 (H_law_refused_0 0 0 (ρ.set 2 (some (.xcp 0 0 y.fs))) S) := by
  by_cases h : 2 < ρ.length <;> simp [H_law_refused_0, sAsg, dLst, aCons, dBlt, dXf, oXi, dC, dVar, gN, aNil, getset, unset_stm, set3 (show 2 ≠ 1 by decide), h]
  all_goals (repeat' split) <;> simp_all [set3 (show 2 ≠ 1 by decide)]
def H_law_refused_1 (xa xd : Nat) : MS := (sAsg (dLst (aCons (dC (.str "key")) (aCons (dBlt oRepr (aCons (dXf xa xd "value" (dVar 2)) aNil)) (aCons (dBlt (oXi xa xd (ktD "BadKey" TG TT)) (aCons (dVar 2) (aCons (dC (.glo "TombError")) aNil))) aNil)))) (gN 1))
theorem u_H_law_refused_1 (y : Exc) (a dd : Nat) (ρ : DE.Env) (S : Sto) : RS.unset 2 (H_law_refused_1 a dd (ρ.set 2 (some (.xcp a dd y.fs))) S) = RS.unset 2 (H_law_refused_1 0 0 (ρ.set 2 (some (.xcp 0 0 y.fs))) S) := by
  by_cases h : 2 < ρ.length <;> simp [H_law_refused_1, sAsg, dLst, aCons, dBlt, dXf, oXi, dC, dVar, gN, aNil, getset, unset_stm, set3 (show 2 ≠ 1 by decide), h]
  all_goals (repeat' split) <;> simp_all [set3 (show 2 ≠ 1 by decide)]
def H_law_refused_2 (xa xd : Nat) : MS := (sAsg (dLst (aCons (dC (.str "none")) (aCons (dBlt oRepr (aCons (dXf xa xd "value" (dVar 2)) aNil)) (aCons (dBlt (oXi xa xd (ktD "NoEntry" TG TT)) (aCons (dVar 2) (aCons (dC (.ty "KeyError")) aNil))) aNil)))) (gN 1))
theorem u_H_law_refused_2 (y : Exc) (a dd : Nat) (ρ : DE.Env) (S : Sto) : RS.unset 2 (H_law_refused_2 a dd (ρ.set 2 (some (.xcp a dd y.fs))) S) = RS.unset 2 (H_law_refused_2 0 0 (ρ.set 2 (some (.xcp 0 0 y.fs))) S) := by
  by_cases h : 2 < ρ.length <;> simp [H_law_refused_2, sAsg, dLst, aCons, dBlt, dXf, oXi, dC, dVar, gN, aNil, getset, unset_stm, set3 (show 2 ≠ 1 by decide), h]
  all_goals (repeat' split) <;> simp_all [set3 (show 2 ≠ 1 by decide)]
def HL_law_refused : List LM.Cls2 := [(LM.clT [("BadEntries", true), ("BadKey", false), ("NoEntry", false)], fun _ xa xd => H_law_refused_0 xa xd), (LM.clT [("BadEntries", false), ("BadKey", true), ("NoEntry", false)], fun _ xa xd => H_law_refused_1 xa xd), (LM.clT [("BadEntries", false), ("BadKey", false), ("NoEntry", true)], fun _ xa xd => H_law_refused_2 xa xd)]
theorem hs_law_refused (T : T0 K mg base) {cdv : Value} {A : Around} {outer : List PySem.Env} {s : Shared} {H : Hp} {k : Nat} (hr : Room (k + 1) (A.deeper (envOfC "_law_refused" (defScope s_law_refused) s.heap.objs.size (He.fAd K ("_law_refused", none)) cdv))) (gd0 : A.guards = some []) : ∃ ls, LM.HsD (XOf P w K mg base ["_law_call", "_law_kept", "e"] "_law_refused" (defScope s_law_refused) (He.fAd K ("_law_refused", none)) cdv A outer s H fun _ _ _ => False) 2 "e" (match defBody s_law_refused with | [_, .Try _ hs _ _ _, _] => hs | _ => []) HL_law_refused ls :=
  ⟨_, (LM.HsD.cons (x := "BadEntries") (cl := LM.clT [("BadEntries", true), ("BadKey", false), ("NoEntry", false)]) (hm := fun _ xa xd => H_law_refused_0 xa xd) ⟨rfl, rfl, .inl (T.glo 0)⟩ (LM.clOk_cons (He.exm_ok (T.c.fact 28 (f := .exm "BadEntries" "BadEntries" true))) (LM.clOk_cons (He.exm_ok (T.c.fact 27 (f := .exm "BadKey" "BadEntries" false))) (LM.clOk_cons (He.exm_ok (T.c.fact 26 (f := .exm "NoEntry" "BadEntries" false))) LM.clOk_nil))) (fun y xa xd xo xp hc xz xf => by
      obtain ⟨yc, yf⟩ := y
      obtain rfl := LM.clT_eq (x := "BadEntries") (by decide) hc
      exact (dss_one (ds_set 1 sc_law_refused.nd rfl (by first | exact Or.inl rfl | exact Or.inr rfl) (de_lst (da_cons de_str (da_cons (de_bf (c_oRepr gd0 hr.units) rfl (T.free 25) (by decide +kernel) (da_cons (de_xf (y := "BadEntries") (err_BadEntries T (P := P) (w := w) (base := base)).x.x (err_BadEntries T (P := P) (w := w) (base := base)).x.n xz xf (dv 2)) da_nil)) (da_cons (de_bf (c_oXi (y := "BadEntries") (err_BadEntries T (P := P) (w := w) (base := base)).x.x (err_BadEntries T (P := P) (w := w) (base := base)).x.k xz xf (ktD_ok (T.xb 0 (f := xgB TG)) (T.xb 1 (f := xtB TT)))) rfl (T.free 7) (by decide +kernel) (da_cons (dv 2) (da_cons (de_glob (d := .glo "TombError") (v := .ref (He.ga K "TombError")) rfl (T.glo 24) rfl (fun _ _ => rfl)) da_nil))) da_nil))))))) (fun y a dd ρ S _ => u_H_law_refused_0 y a dd ρ S) (LM.HsD.cons (x := "BadKey") (cl := LM.clT [("BadEntries", false), ("BadKey", true), ("NoEntry", false)]) (hm := fun _ xa xd => H_law_refused_1 xa xd) ⟨rfl, rfl, .inl (T.glo 1)⟩ (LM.clOk_cons (He.exm_ok (T.c.fact 31 (f := .exm "BadEntries" "BadKey" false))) (LM.clOk_cons (He.exm_ok (T.c.fact 30 (f := .exm "BadKey" "BadKey" true))) (LM.clOk_cons (He.exm_ok (T.c.fact 29 (f := .exm "NoEntry" "BadKey" false))) LM.clOk_nil))) (fun y xa xd xo xp hc xz xf => by
      obtain ⟨yc, yf⟩ := y
      obtain rfl := LM.clT_eq (x := "BadKey") (by decide) hc
      exact (dss_one (ds_set 1 sc_law_refused.nd rfl (by first | exact Or.inl rfl | exact Or.inr rfl) (de_lst (da_cons de_str (da_cons (de_bf (c_oRepr gd0 hr.units) rfl (T.free 25) (by decide +kernel) (da_cons (de_xf (y := "BadKey") (err_BadKey T (P := P) (w := w) (base := base)).x.x (err_BadKey T (P := P) (w := w) (base := base)).x.n xz xf (dv 2)) da_nil)) (da_cons (de_bf (c_oXi (y := "BadKey") (err_BadKey T (P := P) (w := w) (base := base)).x.x (err_BadKey T (P := P) (w := w) (base := base)).x.k xz xf (ktD_ok (T.xb 0 (f := xgB TG)) (T.xb 1 (f := xtB TT)))) rfl (T.free 7) (by decide +kernel) (da_cons (dv 2) (da_cons (de_glob (d := .glo "TombError") (v := .ref (He.ga K "TombError")) rfl (T.glo 24) rfl (fun _ _ => rfl)) da_nil))) da_nil))))))) (fun y a dd ρ S _ => u_H_law_refused_1 y a dd ρ S) (LM.HsD.cons (x := "NoEntry") (cl := LM.clT [("BadEntries", false), ("BadKey", false), ("NoEntry", true)]) (hm := fun _ xa xd => H_law_refused_2 xa xd) ⟨rfl, rfl, .inl (T.glo 2)⟩ (LM.clOk_cons (He.exm_ok (T.c.fact 35 (f := .exm "BadEntries" "NoEntry" false))) (LM.clOk_cons (He.exm_ok (T.c.fact 34 (f := .exm "BadKey" "NoEntry" false))) (LM.clOk_cons (He.exm_ok (T.c.fact 33 (f := .exm "NoEntry" "NoEntry" true))) LM.clOk_nil))) (fun y xa xd xo xp hc xz xf => by
      obtain ⟨yc, yf⟩ := y
      obtain rfl := LM.clT_eq (x := "NoEntry") (by decide) hc
      exact (dss_one (ds_set 1 sc_law_refused.nd rfl (by first | exact Or.inl rfl | exact Or.inr rfl) (de_lst (da_cons de_str (da_cons (de_bf (c_oRepr gd0 hr.units) rfl (T.free 25) (by decide +kernel) (da_cons (de_xf (y := "NoEntry") (errG_NoEntry T (P := P) (w := w) (base := base)).k.1 (errG_NoEntry T (P := P) (w := w) (base := base)).k.2.2 xz xf (dv 2)) da_nil)) (da_cons (de_bf (c_oXi (y := "NoEntry") (errG_NoEntry T (P := P) (w := w) (base := base)).k.1 (errG_NoEntry T (P := P) (w := w) (base := base)).k.2.1 xz xf (ktD_ok (T.xb 0 (f := xgB TG)) (T.xb 1 (f := xtB TT)))) rfl (T.free 7) (by decide +kernel) (da_cons (dv 2) (da_cons (de_ty (n := "KeyError") rfl (T.free 32) (by decide +kernel)) da_nil))) da_nil))))))) (fun y a dd ρ S _ => u_H_law_refused_2 y a dd ρ S) LM.HsD.nil)))⟩
theorem act_law_refused {X : Cx} {W : WX} {c q : Str} {m : Option Str} {it k : Nat} {params : Arguments} {body : Expr} {scope : Scope} {fb : ME} {p lpos pos : Pos} (T : T0 X.K X.mg X.base) (TB : LamX.TabB X.base X.mg (He.cT X.K (c, m)).1 (He.cT X.K (c, m)).2) (hr : Room (k + 2) X.A) (gd : X.A.guards = some []) (hg : Gl X "_law_refused") (L : LamX.LamS X.env.scope scope) (hdef : defaultsOf params X.env = ([], []))
    (hbind : ∀ (q : Str) (cl : List (Str × Addr)) (pm cv ctv : Value), bindArgs (PySem.W.kla_fn "<lambda>" q params body scope cl pm cv ctv) ⟨[], []⟩ = pure []) (hcode : X.env.code = .ref (He.cT X.K (c, m)).1) (hq : X.env.qual ++ "<lambda>" = q)
    (hbody : ∀ (A : Around) (outer : List PySem.Env) (s : Shared) (H : Hp) (E : XK) (f c' : Addr), A.guards = some [] → Room k (A.deeper (LamX.lamEnv X scope s.heap.objs.size f c')) → DE (LamX.lamCx X A outer s H E scope f c') (WD E) body fb) :
    DE X W (.Call (.Name "_law_refused" p) [.Lambda params body scope lpos] [] pos) (LM.dLam it c m q HL_law_refused fb) := by
  obtain ⟨fd, F⟩ := T.c.def_ 17 (d := d_law_refused) rfl
  exact LM.de_lamR (pp := ("_law_refused", none)) (a := "_law_call") (kn := "_law_kept") (en := "e") hg (T.glo 36) F rfl sc_law_refused rfl rfl rfl (F.bindsN fun _ _ _ _ _ _ us hl => match us, hl with | [_], _ => rfl) (fun cdv s H hr2 => hs_law_refused T hr2 gd) TB hcode hq hr gd L hdef hbind hbody
def B_is_stamp : MS := (sRet (dAnd (dBlt oIsi (aCons (dVar 0) (aCons (dC (.ty "tuple")) aNil))) (dAnd (dBin oEq (dBlt oLen (aCons (dVar 0) aNil)) (dC (.int 2))) (dAnd (dCall 1 F_is_number [] (aCons (dBin oIx (dVar 0) (dC (.int 0))) aNil)) (dCall 1 F_is_word [] (aCons (dBin oIx (dVar 0) (dC (.int 1))) aNil))))))
def F_is_stamp : FD := fnD 1 B_is_stamp
theorem sc_is_stamp : FnScope ["thing"] ["thing"] (defScope s_is_stamp) := ⟨rfl, rfl, rfl, by decide +kernel, rfl, by decide +kernel, by decide +kernel⟩
theorem ok_is_stamp (T : T0 K mg base) : FnG P w K mg base 2 "is_stamp" 1 F_is_stamp := by
  obtain ⟨fd, F⟩ := T.c.def_ 3 (d := d_is_stamp) rfl
  refine ⟨⟨fd, ["thing"], fn_dataG F sc_is_stamp fun cdv A outer s H E hr gd0 => ?_, F.bindsN fun _ _ _ _ _ _ us hl => match us, hl with | [_], _ => rfl⟩, T.glo 37, F.kp⟩
  exact (dss_one (ds_ret (de_and (de_bf c_oIsi rfl (T.free 7) (by decide +kernel) (da_cons (dv 0) (da_cons (de_ty (n := "tuple") rfl (T.free 18) (by decide +kernel)) da_nil))) (de_and (de_rel (op_oEq hr.units) (de_bf c_oLen rfl (T.free 5) (by decide +kernel) (da_cons (dv 0) da_nil)) de_int) (de_and (de_fnG (ok_is_number T) hr gd0 rfl (takes_of rfl rfl rfl rfl) (da_cons (de_ix (dv 0) de_int) da_nil) (by decide)) (de_one (de_fnG (ok_is_word T) hr gd0 rfl (takes_of rfl rfl rfl rfl) (da_cons (de_ix (dv 0) de_int) da_nil) (by decide))))))))
def B_Content___contains__ : MS := (sRet (dAnd (dCall 1 F_is_word [] (aCons (dVar 1) aNil)) (dBin (LM.oInKey false) (dVar 1) (dFld "rows" ["Content"] (dVar 0)))))
def F_Content___contains__ : FD := fnD 2 B_Content___contains__
theorem sc_Content___contains__ : FnScope ["self", "key"] ["self", "key"] (defScope s_Content___contains__) := ⟨rfl, rfl, rfl, by decide +kernel, rfl, by decide +kernel, by decide +kernel⟩
theorem ok_Content___contains__ (T : T0 K mg base) : MethA P w K mg base 2 "Content" "__contains__" 2 F_Content___contains__ := by
  obtain ⟨fd, F⟩ := T.c.def_ 7 (d := d_Content___contains__) rfl
  refine ⟨⟨fd, ["self", "key"], fn_dataG F sc_Content___contains__ fun cdv A outer s H E hr gd0 => ?_, F.bindsN fun _ _ _ _ _ _ us hl => match us, hl with | [_, _], _ => rfl⟩, He.meth_ok (T.c.fact 38 (f := .meth "Content" "__contains__")), He.cls_ok (T.c.fact 15 (f := .cls "Content"))⟩
  exact (dss_one (ds_ret (de_and (de_fnG (ok_is_word T) hr gd0 rfl (takes_of rfl rfl rfl rfl) (da_cons (dv 1) da_nil) (by decide)) (de_one (de_rel (LM.op_inK (LM.u1 hr)) (dv 1) (de_fld (dv 0) (fc_rows T)))))))
def L_law_entries_1 : MS := (sSeq (sAsg (dBin oIx (dVar 2) (dCall 2 F_law_take [] (aCons (dVar 0) (aCons (dBlt oLen (aCons (dVar 2) aNil)) aNil)))) (gN 4))
    (sSeq (sAsg (dLC [5] (iOf (dVar 2)) (gN 5) (dTest (dBin oNe (dVar 5) (dVar 4))) (dVar 5)) (gN 2))
    (sSeq (sAsg (dTup (aCons (dBin oAdd (dC (.int 1)) (dCall 2 F_law_take [] (aCons (dVar 0) (aCons (dBin oPow (dC (.int 10)) (dC (.int 15))) aNil)))) (aCons (dBin oIx (dLst (aCons (dC (.str "ann")) (aCons (dC (.str "bob")) aNil))) (dCall 2 F_law_take [] (aCons (dVar 0) (aCons (dC (.int 2)) aNil)))) aNil))) (gN 6))
    (sExpr (dApp (dVar 1) (aCons (dTup (aCons (dVar 4) (aCons (dVar 6) (aCons (dBin oIx (dLst (aCons (dC .non) (aCons (dC (.str "x")) (aCons (dC (.str "")) (aCons (dC (.str "a\"b")) aNil))))) (dCall 2 F_law_take [] (aCons (dVar 0) (aCons (dC (.int 4)) aNil)))) aNil)))) aNil))))))
def B_law_entries : MS := (sSeq (sPar 1 2 (aCons (dLstO aNil) (aCons (dLst (aCons (dC (.str "k")) (aCons (dC (.str "l")) (aCons (dC (.str "m")) (aCons (dC (.str "ka")) (aCons (dC (.str "zz")) (aCons (dC (.str "abcdefgh")) aNil))))))) aNil)))
    (sSeq (sFor (iR1 (aCons (dCall 2 F_law_take [] (aCons (dVar 0) (aCons (dC (.int 7)) aNil))) aNil)) (gN 3) L_law_entries_1)
    (sRet (dVar 1))))
def F_law_entries : FD := fnD 7 B_law_entries
theorem sc_law_entries : FnScope ["_law_pool_here", "_law_found", "_law_left", "_law_turn", "_law_key", "_law_one", "_law_stamp"] ["_law_pool_here"] (defScope s_law_entries) := ⟨rfl, rfl, rfl, by decide +kernel, rfl, by decide +kernel, by decide +kernel⟩
theorem ok_law_entries (T : T0 K mg base) : FnG P w K mg base 2 "_law_entries" 1 F_law_entries := by
  obtain ⟨fd, F⟩ := T.c.def_ 16 (d := d_law_entries) rfl
  refine ⟨⟨fd, ["_law_pool_here"], fn_dataG F sc_law_entries fun cdv A outer s H E hr gd0 => ?_, F.bindsN fun _ _ _ _ _ _ us hl => match us, hl with | [_], _ => rfl⟩, T.glo 40, F.kp⟩
  exact (dss_cons (ds_par 1 2 rfl sc_law_entries.nd (da_cons (de_lstO da_nil) (da_cons (de_lst (da_cons de_str (da_cons de_str (da_cons de_str (da_cons de_str (da_cons de_str (da_cons de_str da_nil))))))) da_nil)))
    (dss_cons (ds_for (passes_of rfl) rfl (di_range1 rfl (T.free 39) (da_cons (de_fnG (ok_law_take T) hr gd0 rfl (takes_of rfl rfl rfl rfl) (da_cons (dv 0) (da_cons de_int da_nil)) (by decide)) da_nil)) (dg_name 3 sc_law_entries.nd rfl (by first | exact Or.inl rfl | exact Or.inr rfl))
    (dss_cons (ds_set 4 sc_law_entries.nd rfl (by first | exact Or.inl rfl | exact Or.inr rfl) (de_ix (dv 2) (de_fnG (ok_law_take T) hr gd0 rfl (takes_of rfl rfl rfl rfl) (da_cons (dv 0) (da_cons (de_bf c_oLen rfl (T.free 5) (by decide +kernel) (da_cons (dv 2) da_nil)) da_nil)) (by decide))))
    (dss_cons (ds_setLc 2 rfl sc_law_entries.nd rfl rfl (sw_true rfl rfl rfl (by decide +kernel)) (di_any (dv 2)) (blkOk_by (own := [("_law_one", 5)]) (by kernel_rfl)) (fun _ _ _ _ _ => (dg_name 5 sc_law_entries.nd rfl (by first | exact Or.inl rfl | exact Or.inr rfl))) (fun _ _ _ _ _ => (dts_one (dt_rel (op_oNe hr.units) (dv 5) (dv 4)))) (fun _ _ _ _ _ => (dv 5)) (by decide))
    (dss_cons (ds_set 6 sc_law_entries.nd rfl (by first | exact Or.inl rfl | exact Or.inr rfl) (de_tup (da_cons (de_bin op_oAdd de_int (de_fnG (ok_law_take T) hr gd0 rfl (takes_of rfl rfl rfl rfl) (da_cons (dv 0) (da_cons (de_bin op_oPow de_int de_int) da_nil)) (by decide))) (da_cons (de_ix (de_lst (da_cons de_str (da_cons de_str da_nil))) (de_fnG (ok_law_take T) hr gd0 rfl (takes_of rfl rfl rfl rfl) (da_cons (dv 0) (da_cons de_int da_nil)) (by decide))) da_nil))))
    (dss_one (ds_expr (de_app (dv 1) (da_cons (de_tup (da_cons (dv 4) (da_cons (dv 6) (da_cons (de_ix (de_lst (da_cons de_non (da_cons de_str (da_cons de_str (da_cons de_str da_nil))))) (de_fnG (ok_law_take T) hr gd0 rfl (takes_of rfl rfl rfl rfl) (da_cons (dv 0) (da_cons de_int da_nil)) (by decide))) da_nil)))) da_nil))))))))
    (dss_one (ds_ret (dv 1)))))
theorem okR_law_entries (T : T0 K mg base) : FnG P w K mg base 2 "_law_entries" 1 (LM.relF F_law_entries) := LM.FnG_rel (ok_law_entries T)
def B_is_entry : MS := (sSeq (sIf (dOrT (dNotT (dTest (dBlt oIsi (aCons (dVar 0) (aCons (dC (.ty "tuple")) aNil))))) (dOrT (dTest (dBin oNe (dBlt oLen (aCons (dVar 0) aNil)) (dC (.int 3)))) (dOrT (dNotT (dTest (dCall 1 F_is_word [] (aCons (dBin oIx (dVar 0) (dC (.int 0))) aNil)))) (dNotT (dTest (dCall 1 F_is_stamp [] (aCons (dBin oIx (dVar 0) (dC (.int 1))) aNil)))))))
    (sRet (dC (.bl false)))
    sNil)
    (sRet (dOr (dBin oIs (dBin oIx (dVar 0) (dC (.int 2))) (dC .non)) (dCall 1 F_is_value [] (aCons (dBin oIx (dVar 0) (dC (.int 2))) aNil)))))
def F_is_entry : FD := fnD 1 B_is_entry
theorem sc_is_entry : FnScope ["thing"] ["thing"] (defScope s_is_entry) := ⟨rfl, rfl, rfl, by decide +kernel, rfl, by decide +kernel, by decide +kernel⟩
theorem ok_is_entry (T : T0 K mg base) : FnG P w K mg base 3 "is_entry" 1 F_is_entry := by
  obtain ⟨fd, F⟩ := T.c.def_ 4 (d := d_is_entry) rfl
  refine ⟨⟨fd, ["thing"], fn_dataG F sc_is_entry fun cdv A outer s H E hr gd0 => ?_, F.bindsN fun _ _ _ _ _ _ us hl => match us, hl with | [_], _ => rfl⟩, T.glo 41, F.kp⟩
  exact (dss_cons (ds_if (DW.dt (dw_or (dt_not (dt_val (de_bf c_oIsi rfl (T.free 7) (by decide +kernel) (da_cons (dv 0) (da_cons (de_ty (n := "tuple") rfl (T.free 18) (by decide +kernel)) da_nil))))) (dw_or (dt_rel (op_oNe hr.units) (de_bf c_oLen rfl (T.free 5) (by decide +kernel) (da_cons (dv 0) da_nil)) de_int) (dw_or (dt_not (dt_val (de_fnG (ok_is_word T) hr gd0 rfl (takes_of rfl rfl rfl rfl) (da_cons (de_ix (dv 0) de_int) da_nil) (by decide)))) (dw_or1 (dt_not (dt_val (de_fnG (ok_is_stamp T) hr gd0 rfl (takes_of rfl rfl rfl rfl) (da_cons (de_ix (dv 0) de_int) da_nil) (by decide)))))))))
    (dss_one (ds_ret de_bl))
    dss_nil)
    (dss_one (ds_ret (de_or (de_rel op_oIs (de_ix (dv 0) de_int) de_non) (de_one (de_fnG (ok_is_value T) hr gd0 rfl (takes_of rfl rfl rfl rfl) (da_cons (de_ix (dv 0) de_int) da_nil) (by decide)))))))
def B_Content___getitem__ : MS := (sSeq (sIf (dOrT (dNotT (dTest (dCall 1 F_is_word [] (aCons (dVar 1) aNil)))) (dTest (dBin (LM.oInKey true) (dVar 1) (dFld "rows" ["Content"] (dVar 0)))))
    (sRaise "NoEntry" "value" (dVar 1))
    sNil)
    (sRet (LM.dGetK (dFld "rows" ["Content"] (dVar 0)) (dVar 1))))
def F_Content___getitem__ : FD := fnD 2 B_Content___getitem__
theorem sc_Content___getitem__ : FnScope ["self", "key"] ["self", "key"] (defScope s_Content___getitem__) := ⟨rfl, rfl, rfl, by decide +kernel, rfl, by decide +kernel, by decide +kernel⟩
theorem ok_Content___getitem__ (T : T0 K mg base) : MethA P w K mg base 3 "Content" "__getitem__" 2 F_Content___getitem__ := by
  obtain ⟨fd, F⟩ := T.c.def_ 8 (d := d_Content___getitem__) rfl
  refine ⟨⟨fd, ["self", "key"], fn_dataG F sc_Content___getitem__ fun cdv A outer s H E hr gd0 => ?_, F.bindsN fun _ _ _ _ _ _ us hl => match us, hl with | [_, _], _ => rfl⟩, He.meth_ok (T.c.fact 42 (f := .meth "Content" "__getitem__")), He.cls_ok (T.c.fact 15 (f := .cls "Content"))⟩
  exact (dss_cons (ds_if (DW.dt (dw_or (dt_not (dt_val (de_fnG (ok_is_word T) hr gd0 rfl (takes_of rfl rfl rfl rfl) (da_cons (dv 1) da_nil) (by decide)))) (dw_or1 (dt_rel (LM.op_notInK (LM.u1 hr)) (dv 1) (de_fld (dv 0) (fc_rows T))))))
    (dss_one (LM.ds_raiseG (errG_NoEntry T) hr rfl rfl (takes_of rfl rfl rfl rfl) (dv 1)))
    dss_nil)
    (dss_one (ds_ret (LM.de_dget (LM.u1 hr) (de_fld (dv 0) (fc_rows T)) (dv 1) (fun _ _ => rfl)))))
def B_Content_shows : MS := (sSeq (sIf (dNotT (dTest (dCall 1 F_is_word [] (aCons (dVar 1) aNil))))
    (sRaise "BadKey" "value" (dVar 1))
    sNil)
    (sRet (dIfE (dTest (dBin (LM.oInKey false) (dVar 1) (dFld "rows" ["Content"] (dVar 0)))) (dBin oIx (LM.dGetK (dFld "rows" ["Content"] (dVar 0)) (dVar 1)) (dC (.int 1))) (dC .non))))
def F_Content_shows : FD := fnD 2 B_Content_shows
theorem sc_Content_shows : FnScope ["self", "key"] ["self", "key"] (defScope s_Content_shows) := ⟨rfl, rfl, rfl, by decide +kernel, rfl, by decide +kernel, by decide +kernel⟩
theorem ok_Content_shows (T : T0 K mg base) : MethA P w K mg base 3 "Content" "shows" 2 F_Content_shows := by
  obtain ⟨fd, F⟩ := T.c.def_ 12 (d := d_Content_shows) rfl
  refine ⟨⟨fd, ["self", "key"], fn_dataG F sc_Content_shows fun cdv A outer s H E hr gd0 => ?_, F.bindsN fun _ _ _ _ _ _ us hl => match us, hl with | [_, _], _ => rfl⟩, He.meth_ok (T.c.fact 43 (f := .meth "Content" "shows")), He.cls_ok (T.c.fact 15 (f := .cls "Content"))⟩
  exact (dss_cons (ds_if (dt_not (dt_val (de_fnG (ok_is_word T) hr gd0 rfl (takes_of rfl rfl rfl rfl) (da_cons (dv 1) da_nil) (by decide))))
    (dss_one (ds_raise (err_BadKey T) hr rfl rfl (takes_of rfl rfl rfl rfl) (dv 1)))
    dss_nil)
    (dss_one (ds_ret (de_if (dt_rel (LM.op_inK (LM.u1 hr)) (dv 1) (de_fld (dv 0) (fc_rows T))) (de_ix (LM.de_dget (LM.u1 hr) (de_fld (dv 0) (fc_rows T)) (dv 1) (fun _ _ => rfl)) de_int) de_non))))
def B_are_entries : MS := (sSeq (sIf (dOrT (dNotT (dTest (dBlt oIsi (aCons (dVar 0) (aCons (dTup (aCons (dC (.ty "list")) (aCons (dC (.ty "tuple")) aNil))) aNil))))) (dNotT (dTest (dBlt oAll (aCons (dLC [1] (iOf (dVar 0)) (gN 1) mYes (dCall 1 F_is_entry [] (aCons (dVar 1) aNil))) aNil)))))
    (sRet (dC (.bl false)))
    sNil)
    (sRet (dBin oEq (LM.dSetLen [1] (iOf (dVar 0)) (gN 1) mYes (dBin oIx (dVar 1) (dC (.int 0)))) (dBlt oLen (aCons (dVar 0) aNil)))))
def F_are_entries : FD := fnD 2 B_are_entries
theorem sc_are_entries : FnScope ["thing", "one"] ["thing"] (defScope s_are_entries) := ⟨rfl, rfl, rfl, by decide +kernel, rfl, by decide +kernel, by decide +kernel⟩
theorem ok_are_entries (T : T0 K mg base) : FnG P w K mg base 4 "are_entries" 1 F_are_entries := by
  obtain ⟨fd, F⟩ := T.c.def_ 5 (d := d_are_entries) rfl
  refine ⟨⟨fd, ["thing"], fn_dataG F sc_are_entries fun cdv A outer s H E hr gd0 => ?_, F.bindsN fun _ _ _ _ _ _ us hl => match us, hl with | [_], _ => rfl⟩, T.glo 44, F.kp⟩
  exact (dss_cons (ds_if (DW.dt (dw_or (dt_not (dt_val (de_bf c_oIsi rfl (T.free 7) (by decide +kernel) (da_cons (dv 0) (da_cons (de_tup (da_cons (de_ty (n := "list") rfl (T.free 20) (by decide +kernel)) (da_cons (de_ty (n := "tuple") rfl (T.free 18) (by decide +kernel)) da_nil))) da_nil))))) (dw_or1 (dt_not (dt_val (de_bf (c_oAll rfl) rfl (T.free 4) (by decide +kernel) (da_cons (de_lc rfl sc_are_entries.nd (di_any (dv 0)) (blkOk_by (own := [("one", 1)]) (by kernel_rfl)) (fun _ _ _ _ _ => (dg_name 1 sc_are_entries.nd rfl (by first | exact Or.inl rfl | exact Or.inr rfl))) (fun _ _ _ _ _ => dts_nil) (fun _ _ _ _ _ => (de_fnG (ok_is_entry T) hr gd0 rfl takes0 (da_cons (dv 1) da_nil) (by decide))) (by decide)) da_nil)))))))
    (dss_one (ds_ret de_bl))
    dss_nil)
    (dss_one (ds_ret (de_rel (op_oEq hr.units) (LM.de_slen rfl (T.free 5) rfl sc_are_entries.nd (di_any (dv 0)) (blkOk_by (own := [("one", 1)]) (by kernel_rfl)) (fun _ _ _ _ _ => (dg_name 1 sc_are_entries.nd rfl (by first | exact Or.inl rfl | exact Or.inr rfl))) (fun _ _ _ _ _ => dts_nil) (fun _ _ _ _ _ => (de_ix (dv 1) de_int)) (by decide)) (de_bf c_oLen rfl (T.free 5) (by decide +kernel) (da_cons (dv 0) da_nil))))))
def B_Content___init__ : MS := (sSeq (sIf (dNotT (dTest (LM.dFz (dCall 1 F_are_entries [] (aCons (dVar 1) aNil)))))
    (sRaise "BadEntries" "value" (dVar 1))
    sNil)
    (sFldO "rows" ["Content"] (dVar 0) (LM.dDC [2, 3, 4] (iOf (LM.dSk 0 "Content" "__init__" "Content.__init__.<locals>.<lambda>" (aCons (dVar 1) aNil))) (gTL 3 (gsCons (gN 2) (gsCons (gN 3) (gsCons (gN 4) gsNil)))) mYes (dVar 2) (dTup (aCons (dVar 3) (aCons (dVar 4) aNil))))))
def F_Content___init__ : FD := fnD 5 B_Content___init__
theorem sc_Content___init__ : FnScope ["self", "entries", "key", "stamp", "value"] ["self", "entries"] (defScope s_Content___init__) := ⟨rfl, rfl, rfl, by decide +kernel, rfl, by decide +kernel, by decide +kernel⟩
theorem mkr_Content (T : T0 K mg base) : Mk K (He.ga K "Content") (He.ma K (He.ga K "Content") "__init__") := He.mkr_ok (T.c.fact 46 (f := .mkr "Content"))
theorem ok1_Content___init__ (T : T0 K mg base) {fd : FuncData} (F : FunD K d_Content___init__.name d_Content___init__.qual d_Content___init__.params d_Content___init__.body d_Content___init__.scope (d_Content___init__.dvs K) (d_Content___init__.kws K) (He.fAd K d_Content___init__.at_) fd) : FnGd P w K mg base 5 (He.ma K (He.ga K "Content") "__init__") fd ["self", "entries"] (spD K 2 F_Content___init__) := fn_dataT F sc_Content___init__ fun cdv A outer s H E hr gd0 ec => (dss_cons (ds_if (dt_not (dt_val (LM.de_fz (de_fnG (ok_are_entries T) hr gd0 rfl (takes_of rfl rfl rfl rfl) (da_cons (dv 1) da_nil) (by decide)))))
    (dss_one (ds_raise (err_BadEntries T) hr rfl rfl (takes_of rfl rfl rfl rfl) (dv 1)))
    dss_nil)
    (dss_one (ds_fldO (dv 0) (LM.de_dc rfl sc_Content___init__.nd (di_any (LM.de_sk (i := 0) (q := "Content.__init__.<locals>.<lambda>") rfl (T.free 45) (da_cons (dv 1) da_nil) (T.tbn 0) ec rfl hr (by refine ⟨rfl, rfl, rfl, ?_, ?_, rfl⟩ <;> decide +kernel) rfl (fun _ _ _ _ _ _ => rfl))) (blkOk_by (own := [("key", 2), ("stamp", 3), ("value", 4)]) (by kernel_rfl)) (fun _ _ _ _ _ => (dg_tl rfl (dgs_cons (dg_name 2 sc_Content___init__.nd rfl (by first | exact Or.inl rfl | exact Or.inr rfl)) (dgs_cons (dg_name 3 sc_Content___init__.nd rfl (by first | exact Or.inl rfl | exact Or.inr rfl)) (dgs_cons (dg_name 4 sc_Content___init__.nd rfl (by first | exact Or.inl rfl | exact Or.inr rfl)) dgs_nil))))) (fun _ _ _ _ _ => dts_nil) (fun _ _ _ _ _ => (dv 2)) (fun _ _ _ _ _ => (de_tup (da_cons (dv 3) (da_cons (dv 4) da_nil)))) (by decide)) (fc_rows T))))
theorem ok_Content___init__ (T : T0 K mg base) : ∃ fd, FnGd P w K mg base 5 (He.ma K (He.ga K "Content") "__init__") fd ["self", "entries"] (spD K 2 F_Content___init__) ∧ KBD K fd ["self", "entries"] 2 [] fun ds _ => ds := by
  obtain ⟨fd, F⟩ := T.c.def_ 6 (d := d_Content___init__) rfl
  exact ⟨fd, ok1_Content___init__ T F, LM.kbd_all F 2 (by simp [He.DefD.dvs, d_Content___init__]) fun _ _ _ _ _ _ _ us its ws l1 l2 l3 => match us, its, ws, l1, l2, l3 with | [_, _], [_], [], _, _, _ => ⟨_, rfl, rfl⟩⟩
theorem mk_Content {X : Cx} (T : T0 X.K X.mg X.base) : CalleeX X 6 (He.ga X.K "Content") 1 [] (makeF "Content" (bindF 2 2 (fun ds _ => ds) F_Content___init__)) := by
  obtain ⟨fd, g, b⟩ := ok_Content___init__ (P := X.prog) (w := X.w) (base := X.base) T
  exact callee_mk (mkr_Content T) g b
theorem ok0_Content___init__ (T : T0 K mg base) : ∃ fd, FnGd P w K mg base 5 (He.ma K (He.ga K "Content") "__init__") fd ["self", "entries"] (spD K 2 F_Content___init__) ∧ KBD K fd ["self", "entries"] 1 [] fun ds _ => ds ++ [.tup []] := by
  obtain ⟨fd, F⟩ := T.c.def_ 6 (d := d_Content___init__) rfl
  refine ⟨fd, ok1_Content___init__ T F, LM.kbd_dfl (a := He.dflAt ("Content", some "__init__") 0 K) F 1 (LM.dfB_ok (T.xb 7 (f := LM.dfB ("Content", some "__init__") 0))) fun _ _ _ _ _ _ _ us its ws l1 l2 l3 => match us, its, ws, l1, l2, l3 with | [_], [_], [], _, _, _ => ⟨_, rfl, rfl⟩⟩
theorem mk0_Content {X : Cx} (T : T0 X.K X.mg X.base) : CalleeX X 6 (He.ga X.K "Content") 0 [] (makeF "Content" (bindF 1 2 (fun ds _ => ds ++ [.tup []]) F_Content___init__)) := by
  obtain ⟨fd, g, b⟩ := ok0_Content___init__ (P := X.prog) (w := X.w) (base := X.base) T
  exact callee_mk (mkr_Content T) g b
def L_law_told_1 : MS := (sIf (dOrT (dTest (dBin oNe (dBin (oIxO [("Content", F_Content___getitem__)]) (dVar 0) (dVar 5)) (dTup (aCons (dVar 6) (aCons (dVar 7) aNil))))) (dOrT (dTest (dBin oNe (dMeth "shows" 2 [("Content", F_Content_shows)] (dVar 0) (aCons (dVar 5) aNil)) (dVar 7))) (dTest (dBin oIsNot (dBin (oInO false [("Content", F_Content___contains__)]) (dVar 5) (dVar 0)) (dC (.bl true))))))
    (sRet (dC (.bl false)))
    sNil)
def B_law_told : MS := (sSeq (sAsg (dBlt LM.oSortedH (aCons (dVar 1) aNil)) (gN 2))
    (sSeq (sIf (dOrT (dTest (dBin oNe (dMeth "entries" 1 [("Content", F_Content_entries)] (dVar 0) aNil) (dBlt oTuple (aCons (dVar 2) aNil)))) (dTest (dBin (LM.oFz oNe) (dMeth "key_list" 1 [("Content", F_Content_key_list)] (dVar 0) aNil) (dLC [3] (iOf (dVar 2)) (gN 3) mYes (dBin oIx (dVar 3) (dC (.int 0)))))))
    (sRet (dC (.bl false)))
    sNil)
    (sSeq (sAsg (dMeth "key_list" 1 [("Content", F_Content_key_list)] (dVar 0) aNil) (gN 4))
    (sSeq (sExpr (dApp (dVar 4) (aCons (dC (.str "k")) aNil)))
    (sSeq (sIf (dOrT (dTest (dBin oNe (LM.dLenO [("Content", F_Content___len__)] (dVar 0)) (dBlt oLen (aCons (dVar 1) aNil)))) (dTest (dBin (LM.oFz oNe) (dMeth "key_list" 1 [("Content", F_Content_key_list)] (dVar 0) aNil) (dLC [3] (iOf (dVar 2)) (gN 3) mYes (dBin oIx (dVar 3) (dC (.int 0)))))))
    (sRet (dC (.bl false)))
    sNil)
    (sSeq (sFor (iOf (dVar 1)) (gTL 3 (gsCons (gN 5) (gsCons (gN 6) (gsCons (gN 7) gsNil)))) L_law_told_1)
    (sRet (dAnd (dBin (oInO true [("Content", F_Content___contains__)]) (dC (.str "other")) (dVar 0)) (dBin oIs (dMeth "shows" 2 [("Content", F_Content_shows)] (dVar 0) (aCons (dC (.str "other")) aNil)) (dC .non))))))))))
def F_law_told : FD := fnD 8 B_law_told
theorem sc_law_told : FnScope ["_law_content", "_law_entries_here", "_law_ordered", "_law_entry", "_law_keys", "_law_key", "_law_stamp", "_law_text"] ["_law_content", "_law_entries_here"] (defScope s_law_told) := ⟨rfl, rfl, rfl, by decide +kernel, rfl, by decide +kernel, by decide +kernel⟩
theorem ok_law_told (T : T0 K mg base) : FnG P w K mg base 5 "_law_told" 2 F_law_told := by
  obtain ⟨fd, F⟩ := T.c.def_ 18 (d := d_law_told) rfl
  refine ⟨⟨fd, ["_law_content", "_law_entries_here"], fn_dataG F sc_law_told fun cdv A outer s H E hr gd0 => ?_, F.bindsN fun _ _ _ _ _ _ us hl => match us, hl with | [_, _], _ => rfl⟩, T.glo 47, F.kp⟩
  exact (dss_cons (ds_set 2 sc_law_told.nd rfl (by first | exact Or.inl rfl | exact Or.inr rfl) (de_bf (LM.c_oSortedH hr) rfl (T.free 45) (by decide +kernel) (da_cons (dv 1) da_nil)))
    (dss_cons (ds_if (DW.dt (dw_or (dt_rel (op_oNe hr.units) (de_meth0 (dv 0) (mt_cons (ok_Content_entries T) mt_nil (by decide)) hr gd0 (takes_of rfl rfl rfl rfl)) (de_bt c_oTuple rfl (T.free 18) (by decide +kernel) (da_cons (dv 2) da_nil))) (dw_or1 (dt_rel (LM.op_fz (op_oNe hr.units)) (de_meth0 (dv 0) (mt_cons (ok_Content_key_list T) mt_nil (by decide)) hr gd0 (takes_of rfl rfl rfl rfl)) (de_lc rfl sc_law_told.nd (di_any (dv 2)) (blkOk_by (own := [("_law_entry", 3)]) (by kernel_rfl)) (fun _ _ _ _ _ => (dg_name 3 sc_law_told.nd rfl (by first | exact Or.inl rfl | exact Or.inr rfl))) (fun _ _ _ _ _ => dts_nil) (fun _ _ _ _ _ => (de_ix (dv 3) de_int)) (by decide))))))
    (dss_one (ds_ret de_bl))
    dss_nil)
    (dss_cons (ds_set 4 sc_law_told.nd rfl (by first | exact Or.inl rfl | exact Or.inr rfl) (de_meth0 (dv 0) (mt_cons (ok_Content_key_list T) mt_nil (by decide)) hr gd0 (takes_of rfl rfl rfl rfl)))
    (dss_cons (ds_expr (de_app (dv 4) (da_cons de_str da_nil)))
    (dss_cons (ds_if (DW.dt (dw_or (dt_rel (op_oNe hr.units) (LM.de_lenO rfl (T.free 5) (dv 0) (mt_cons (ok_Content___len__ T) mt_nil (by decide)) hr gd0 (takes_of rfl rfl rfl rfl)) (de_bf c_oLen rfl (T.free 5) (by decide +kernel) (da_cons (dv 1) da_nil))) (dw_or1 (dt_rel (LM.op_fz (op_oNe hr.units)) (de_meth0 (dv 0) (mt_cons (ok_Content_key_list T) mt_nil (by decide)) hr gd0 (takes_of rfl rfl rfl rfl)) (de_lc rfl sc_law_told.nd (di_any (dv 2)) (blkOk_by (own := [("_law_entry", 3)]) (by kernel_rfl)) (fun _ _ _ _ _ => (dg_name 3 sc_law_told.nd rfl (by first | exact Or.inl rfl | exact Or.inr rfl))) (fun _ _ _ _ _ => dts_nil) (fun _ _ _ _ _ => (de_ix (dv 3) de_int)) (by decide))))))
    (dss_one (ds_ret de_bl))
    dss_nil)
    (dss_cons (ds_for (passes_of rfl) rfl (di_any (dv 1)) (dg_tl rfl (dgs_cons (dg_name 5 sc_law_told.nd rfl (by first | exact Or.inl rfl | exact Or.inr rfl)) (dgs_cons (dg_name 6 sc_law_told.nd rfl (by first | exact Or.inl rfl | exact Or.inr rfl)) (dgs_cons (dg_name 7 sc_law_told.nd rfl (by first | exact Or.inl rfl | exact Or.inr rfl)) dgs_nil))))
    (dss_one (ds_if (DW.dt (dw_or (dt_rel (op_oNe hr.units) (de_ixO (mt_cons (ok_Content___getitem__ T) mt_nil (by decide)) (LM.fi_one (T.xb 8 (f := fun K => PySem.W.fnIn K (He.ma K (He.ga K "Content") "__getitem__")))) hr gd0 (takes_of rfl rfl rfl rfl) (dv 0) (dv 5)) (de_tup (da_cons (dv 6) (da_cons (dv 7) da_nil)))) (dw_or (dt_rel (op_oNe hr.units) (de_meth (dv 0) (mt_cons (ok_Content_shows T) mt_nil (by decide)) hr gd0 (takes_of rfl rfl rfl rfl) (da_cons (dv 5) da_nil)) (dv 7)) (dw_or1 (dt_rel op_oIsNot (de_cmpS (op_inO (mt_cons (ok_Content___contains__ T) mt_nil (by decide)) hr gd0 (takes_of rfl rfl rfl rfl)) (dv 5) (dv 0)) de_bl)))))
    (dss_one (ds_ret de_bl))
    dss_nil)))
    (dss_one (ds_ret (de_and (de_cmpS (op_notInO (mt_cons (ok_Content___contains__ T) mt_nil (by decide)) hr gd0 (takes_of rfl rfl rfl rfl)) de_str (dv 0)) (de_one (de_rel op_oIs (de_meth (dv 0) (mt_cons (ok_Content_shows T) mt_nil (by decide)) hr gd0 (takes_of rfl rfl rfl rfl) (da_cons de_str da_nil)) de_non)))))))))))
def B_Content___eq__ : MS := (sRet (dAnd (dBlt (LM.oIsO "Content" [("Content", true)]) (aCons (dVar 1) (aCons (dC (.glo "Content")) aNil))) (dBin (LM.oDictC false) (dFld "rows" ["Content"] (dVar 0)) (dFld "rows" ["Content"] (dVar 1)))))
def F_Content___eq__ : FD := fnD 2 B_Content___eq__
theorem sc_Content___eq__ : FnScope ["self", "other"] ["self", "other"] (defScope s_Content___eq__) := ⟨rfl, rfl, rfl, by decide +kernel, rfl, by decide +kernel, by decide +kernel⟩
theorem ok_Content___eq__ (T : T0 K mg base) : MethA P w K mg base 7 "Content" "__eq__" 2 F_Content___eq__ := by
  obtain ⟨fd, F⟩ := T.c.def_ 13 (d := d_Content___eq__) rfl
  refine ⟨⟨fd, ["self", "other"], fn_dataG F sc_Content___eq__ fun cdv A outer s H E hr gd0 => ?_, F.bindsN fun _ _ _ _ _ _ us hl => match us, hl with | [_, _], _ => rfl⟩, He.meth_ok (T.c.fact 49 (f := .meth "Content" "__eq__")), He.cls_ok (T.c.fact 15 (f := .cls "Content"))⟩
  exact (dss_one (ds_ret (de_and (de_bf (LM.c_oIsO (T.xb 9 (f := LM.ioB "Content" [("Content", true)])) (fun p hp => by rw [List.mem_singleton.mp hp]; exact He.cls_ok (T.c.fact 15 (f := .cls "Content")))) rfl (T.free 7) (by decide +kernel) (da_cons (dv 1) (da_cons (de_glob (d := .glo "Content") (v := .ref (He.ga K "Content")) rfl (T.glo 48) rfl (fun _ _ => rfl)) da_nil))) (de_one (de_rel (LM.op_dictEq (LM.u200 hr)) (de_fld (dv 0) (fc_rows T)) (de_fld (dv 1) (fc_rows T)))))))
def L_law_1 : MS := (sSeq (sIf (dOrT (dTest (dBin oIsNot (dBin (oInO false [("Content", F_Content___contains__)]) (dVar 12) (dVar 4)) (dC (.bl false)))) (dTest (dBin oNe (LM.dLam 1 "law" none "law.<locals>.<lambda>" HL_law_refused (dBin (oIxO [("Content", F_Content___getitem__)]) (dVar 4) (dVar 12))) (dLst (aCons (dC (.str "none")) (aCons (dBlt oRepr (aCons (dVar 12) aNil)) (aCons (dC (.bl true)) aNil)))))))
    (sRet (dC (.bl false)))
    sNil)
    (sIf (dAndT (dTest (dBin LM.oNeX (dVar 12) (dC (.str "other")))) (dTest (dBin oNe (LM.dLam 1 "law" none "law.<locals>.<lambda>" HL_law_refused (dMeth "shows" 2 [("Content", F_Content_shows)] (dVar 4) (aCons (dVar 12) aNil))) (dLst (aCons (dC (.str "key")) (aCons (dBlt oRepr (aCons (dVar 12) aNil)) (aCons (dC (.bl true)) aNil)))))))
    (sRet (dC (.bl false)))
    sNil))
def L_law_2 : MS := (sIf (dTest (dBin oNe (LM.dLam 1 "law" none "law.<locals>.<lambda>" HL_law_refused (dCC 1 (makeF "Content" (bindF 2 2 (fun ds _ => ds) F_Content___init__)) (aCons (dVar 12) aNil))) (dLst (aCons (dC (.str "entries")) (aCons (dBlt oRepr (aCons (dVar 12) aNil)) (aCons (dC (.bl true)) aNil))))))
    (sRet (dC (.bl false)))
    sNil)
def L_law_3 : MS := (sSeq (sAsg (dCall 2 F_law_pool [] (aCons (dVar 0) (aCons (dVar 1) aNil))) (gN 2))
    (sSeq (sAsg (dCall 1 (LM.relF F_law_entries) [] (aCons (dVar 2) aNil)) (gN 3))
    (sSeq (sAsg (dTup (aCons (dCC 1 (makeF "Content" (bindF 2 2 (fun ds _ => ds) F_Content___init__)) (aCons (dVar 3) aNil)) (aCons (dCC 1 (makeF "Content" (bindF 2 2 (fun ds _ => ds) F_Content___init__)) (aCons (dBlt oTuple (aCons (LM.dRevL (dVar 3)) aNil)) aNil)) aNil))) (gTL 2 (gsCons (gN 4) (gsCons (gN 5) gsNil))))
    (sSeq (sIf (dOrT (dNotT (dTest (dCall 2 F_law_told [] (aCons (dVar 4) (aCons (dVar 3) aNil))))) (dOrT (dNotT (dTest (dCall 2 F_law_told [] (aCons (dVar 5) (aCons (dVar 3) aNil))))) (dTest (dBin (LM.oEqO true [("Content", F_Content___eq__)]) (dVar 4) (dVar 5)))))
    (sRet (dC (.bl false)))
    sNil)
    (sSeq (sAsg (dBin oAdd (dVar 3) (dLst (aCons (dTup (aCons (dC (.str "q")) (aCons (dTup (aCons (dC (.int 1)) (aCons (dC (.str "ann")) aNil))) (aCons (dC .non) aNil)))) aNil))) (gN 6))
    (sSeq (sIf (dOrT (dTest (dBin (LM.oEqO false [("Content", F_Content___eq__)]) (dVar 4) (dCC 1 (makeF "Content" (bindF 2 2 (fun ds _ => ds) F_Content___init__)) (aCons (dVar 6) aNil)))) (dOrT (dTest (dBin (LM.oEqX [("Content", F_Content___eq__)]) (dVar 4) (dVar 3))) (dTest (dBin (LM.oEqX [("Content", F_Content___eq__)]) (dVar 4) (dMeth "entries" 1 [("Content", F_Content_entries)] (dVar 4) aNil)))))
    (sRet (dC (.bl false)))
    sNil)
    (sSeq (sIf (dTest (dBin oIsNot (dBin (LM.oEqO true [("Content", F_Content___eq__)]) (dVar 4) (dVar 5)) (dC (.bl false))))
    (sRet (dC (.bl false)))
    sNil)
    (sSeq (sIf (dTest (dBin oNe (dVar 3) (dLst aNil)))
    (sSeq (sAsg (dBin oIx (dVar 3) (dC (.int 0))) (gTL 3 (gsCons (gN 7) (gsCons (gN 8) (gsCons (gN 9) gsNil)))))
    (sSeq (sAsg (dLst (aCons (dCC 1 (makeF "Content" (bindF 2 2 (fun ds _ => ds) F_Content___init__)) (aCons (dBin oAdd (dLst (aCons (dTup (aCons (dVar 7) (aCons (dVar 8) (aCons (dC (.str "other")) aNil)))) aNil)) (dSl (dVar 3) (oPart (dC (.int 1))) oNoPart)) aNil)) (aCons (dCC 1 (makeF "Content" (bindF 2 2 (fun ds _ => ds) F_Content___init__)) (aCons (dBin oAdd (dLst (aCons (dTup (aCons (dVar 7) (aCons (dTup (aCons (dC (.int 7)) (aCons (dC (.str "zed")) aNil))) (aCons (dVar 9) aNil)))) aNil)) (dSl (dVar 3) (oPart (dC (.int 1))) oNoPart)) aNil)) aNil))) (gN 10))
    (sIf (dOrT (dTest (dBin (LM.oEqO false [("Content", F_Content___eq__)]) (dBin oIx (dVar 10) (dC (.int 0))) (dVar 4))) (dOrT (dTest (dBin (LM.oEqO false [("Content", F_Content___eq__)]) (dBin oIx (dVar 10) (dC (.int 1))) (dVar 4))) (dTest (dBin (LM.oEqO false [("Content", F_Content___eq__)]) (dBin oIx (dVar 10) (dC (.int 0))) (dBin oIx (dVar 10) (dC (.int 1)))))))
    (sRet (dC (.bl false)))
    sNil)))
    sNil)
    (sSeq (sIf (dOrT (dTest (dBin (LM.oEqO true [("Content", F_Content___eq__)]) (dCC 0 (makeF "Content" (bindF 1 2 (fun ds _ => ds ++ [.tup []]) F_Content___init__)) aNil) (dCC 1 (makeF "Content" (bindF 2 2 (fun ds _ => ds) F_Content___init__)) (aCons (dLst aNil) aNil)))) (dOrT (dTest (dBin oNe (LM.dLenO [("Content", F_Content___len__)] (dCC 0 (makeF "Content" (bindF 1 2 (fun ds _ => ds ++ [.tup []]) F_Content___init__)) aNil)) (dC (.int 0)))) (dTest (dBin oIsNot (dMeth "shows" 2 [("Content", F_Content_shows)] (dCC 1 (makeF "Content" (bindF 2 2 (fun ds _ => ds) F_Content___init__)) (aCons (dVar 6) aNil)) (aCons (dC (.str "q")) aNil)) (dC .non)))))
    (sRet (dC (.bl false)))
    sNil)
    (sSeq (sAsg (dLst (aCons (dBin oAdd (dVar 6) (dLst (aCons (dTup (aCons (dC (.str "q")) (aCons (dTup (aCons (dC (.int 2)) (aCons (dC (.str "bob")) aNil))) (aCons (dC (.str "x")) aNil)))) aNil))) (aCons (dBin oAdd (dVar 6) (dLst (aCons (dTup (aCons (dC (.str "r")) (aCons (dTup (aCons (dC (.int 0)) (aCons (dC (.str "ann")) aNil))) (aCons (dC (.str "x")) aNil)))) aNil))) (aCons (dBin oAdd (dVar 6) (dLst (aCons (dC (.str "r")) aNil))) (aCons (dBin oAdd (dVar 6) (dLst (aCons (dC .non) aNil))) (aCons (dLst (aCons (dVar 6) aNil)) aNil)))))) (gN 11))
    (sSeq (sFor (iOf (dBin oAdd (dVar 11) (dLst (aCons (dC .non) (aCons (dC (.int 5)) (aCons (dC (.str "k")) (aCons dDictE (aCons (dBin oIx (dVar 6) (dC (.int 0))) (aCons (dBin oMul (dSl (dVar 6) (oPart (dNeg (dC (.int 1)))) oNoPart) (dC (.int 2))) aNil))))))))) (gN 12) L_law_2)
    (sFor (iOf (dLst (aCons (dC .non) (aCons (dC (.int 5)) (aCons (dC (.str "")) (aCons (dC (.str "other")) (aCons (dC (.str "K")) (aCons (dTup aNil) (aCons (dLst aNil) (aCons dDictE (aCons (dTup (aCons (dC (.str "k")) aNil)) (aCons (dC (.bl true)) aNil)))))))))))) (gN 12) L_law_1))))))))))))
def B_law : MS := (sSeq (sFor (iR1 (aCons (dBlt oMax (aCons (dC (.int 1)) (aCons (dBlt oMin (aCons (dBlt oLen (aCons (dVar 0) aNil)) (aCons (dC (.int 6)) aNil))) aNil))) aNil)) (gN 1) L_law_3)
    (sRet (dC (.bl true))))
def F_law : FD := fnD 13 B_law
theorem sc_law : FnScope ["_law_script", "_law_k", "_law_pool_here", "_law_entries_here", "_law_content", "_law_turned", "_law_more", "_law_key", "_law_stamp", "_law_text", "_law_near", "_law_bad", "_law_odd"] ["_law_script"] (defScope s_law) := ⟨rfl, rfl, rfl, by decide +kernel, rfl, by decide +kernel, by decide +kernel⟩
theorem ok_law_at (T : T0 K mg base) {fd : FuncData} (F : FunD K "law" "law" d_law.params d_law.body d_law.scope (d_law.dvs K) (d_law.kws K) (He.fAd K d_law.at_) fd) : FnGd P w K mg base 10 (He.ga K "law") fd ["_law_script"] (spD K 1 F_law) :=
  fn_dataT F sc_law fun cdv A outer s H E hr gd0 ec => (dss_cons (ds_for (passes_of rfl) rfl (di_range1 rfl (T.free 39) (da_cons (de_bf (c_oMax rfl) rfl (T.free 51) (by decide +kernel) (da_cons de_int (da_cons (de_bf (c_oMin rfl) rfl (T.free 50) (by decide +kernel) (da_cons (de_bf c_oLen rfl (T.free 5) (by decide +kernel) (da_cons (dv 0) da_nil)) (da_cons de_int da_nil))) da_nil))) da_nil)) (dg_name 1 sc_law.nd rfl (by first | exact Or.inl rfl | exact Or.inr rfl))
    (dss_cons (ds_set 2 sc_law.nd rfl (by first | exact Or.inl rfl | exact Or.inr rfl) (de_fnG (ok_law_pool T) hr gd0 rfl (takes_of rfl rfl rfl rfl) (da_cons (dv 0) (da_cons (dv 1) da_nil)) (by decide)))
    (dss_cons (ds_set 3 sc_law.nd rfl (by first | exact Or.inl rfl | exact Or.inr rfl) (de_fnG (okR_law_entries T) hr gd0 rfl (takes_of rfl rfl rfl rfl) (da_cons (dv 2) da_nil) (by decide)))
    (dss_cons (ds_asg (de_tup (da_cons (de_cc (mk_Content T) hr gd0 rfl (T.glo 48) (mkr_Content T).kp (takes_of rfl rfl rfl rfl) (da_cons (dv 3) da_nil) (by decide)) (da_cons (de_cc (mk_Content T) hr gd0 rfl (T.glo 48) (mkr_Content T).kp (takes_of rfl rfl rfl rfl) (da_cons (de_bt c_oTuple rfl (T.free 18) (by decide +kernel) (da_cons (LM.de_revL (dv 3)) da_nil)) da_nil) (by decide)) da_nil))) (dg_tl rfl (dgs_cons (dg_name 4 sc_law.nd rfl (by first | exact Or.inl rfl | exact Or.inr rfl)) (dgs_cons (dg_name 5 sc_law.nd rfl (by first | exact Or.inl rfl | exact Or.inr rfl)) dgs_nil))))
    (dss_cons (ds_if (DW.dt (dw_or (dt_not (dt_val (de_fnG (ok_law_told T) hr gd0 rfl (takes_of rfl rfl rfl rfl) (da_cons (dv 4) (da_cons (dv 3) da_nil)) (by decide)))) (dw_or (dt_not (dt_val (de_fnG (ok_law_told T) hr gd0 rfl (takes_of rfl rfl rfl rfl) (da_cons (dv 5) (da_cons (dv 3) da_nil)) (by decide)))) (dw_or1 (dt_cmpS (LM.op_neO (mt_cons (ok_Content___eq__ T) mt_nil (by decide)) (LM.one_tab (p := fun c => LM.neB c _ = true) (T.xb 10 (f := LM.neB "Content"))) hr gd0 (takes_of rfl rfl rfl rfl)) (dv 4) (dv 5))))))
    (dss_one (ds_ret de_bl))
    dss_nil)
    (dss_cons (ds_set 6 sc_law.nd rfl (by first | exact Or.inl rfl | exact Or.inr rfl) (de_bin op_oAdd (dv 3) (de_lst (da_cons (de_tup (da_cons de_str (da_cons (de_tup (da_cons de_int (da_cons de_str da_nil))) (da_cons de_non da_nil)))) da_nil))))
    (dss_cons (ds_if (DW.dt (dw_or (dt_cmpS (LM.op_eqO (mt_cons (ok_Content___eq__ T) mt_nil (by decide)) hr gd0 (takes_of rfl rfl rfl rfl)) (dv 4) (de_cc (mk_Content T) hr gd0 rfl (T.glo 48) (mkr_Content T).kp (takes_of rfl rfl rfl rfl) (da_cons (dv 6) da_nil) (by decide))) (dw_or (dt_cmpS (LM.op_eqX (mt_cons (ok_Content___eq__ T) mt_nil (by decide)) (LM.one_tab (p := fun c => LM.nfB c _ = true) (T.xb 11 (f := LM.nfB "Content"))) hr gd0 (takes_of rfl rfl rfl rfl)) (dv 4) (dv 3)) (dw_or1 (dt_cmpS (LM.op_eqX (mt_cons (ok_Content___eq__ T) mt_nil (by decide)) (LM.one_tab (p := fun c => LM.nfB c _ = true) (T.xb 11 (f := LM.nfB "Content"))) hr gd0 (takes_of rfl rfl rfl rfl)) (dv 4) (de_meth0 (dv 4) (mt_cons (ok_Content_entries T) mt_nil (by decide)) hr gd0 (takes_of rfl rfl rfl rfl)))))))
    (dss_one (ds_ret de_bl))
    dss_nil)
    (dss_cons (ds_if (dt_rel op_oIsNot (de_cmpS (LM.op_neO (mt_cons (ok_Content___eq__ T) mt_nil (by decide)) (LM.one_tab (p := fun c => LM.neB c _ = true) (T.xb 10 (f := LM.neB "Content"))) hr gd0 (takes_of rfl rfl rfl rfl)) (dv 4) (dv 5)) de_bl)
    (dss_one (ds_ret de_bl))
    dss_nil)
    (dss_cons (ds_if (dt_rel (op_oNe hr.units) (dv 3) (de_lst da_nil))
    (dss_cons (ds_asg (de_ix (dv 3) de_int) (dg_tl rfl (dgs_cons (dg_name 7 sc_law.nd rfl (by first | exact Or.inl rfl | exact Or.inr rfl)) (dgs_cons (dg_name 8 sc_law.nd rfl (by first | exact Or.inl rfl | exact Or.inr rfl)) (dgs_cons (dg_name 9 sc_law.nd rfl (by first | exact Or.inl rfl | exact Or.inr rfl)) dgs_nil)))))
    (dss_cons (ds_set 10 sc_law.nd rfl (by first | exact Or.inl rfl | exact Or.inr rfl) (de_lst (da_cons (de_cc (mk_Content T) hr gd0 rfl (T.glo 48) (mkr_Content T).kp (takes_of rfl rfl rfl rfl) (da_cons (de_bin op_oAdd (de_lst (da_cons (de_tup (da_cons (dv 7) (da_cons (dv 8) (da_cons de_str da_nil)))) da_nil)) (de_sl (dv 3) (dpo_some de_int) dpo_none)) da_nil) (by decide)) (da_cons (de_cc (mk_Content T) hr gd0 rfl (T.glo 48) (mkr_Content T).kp (takes_of rfl rfl rfl rfl) (da_cons (de_bin op_oAdd (de_lst (da_cons (de_tup (da_cons (dv 7) (da_cons (de_tup (da_cons de_int (da_cons de_str da_nil))) (da_cons (dv 9) da_nil)))) da_nil)) (de_sl (dv 3) (dpo_some de_int) dpo_none)) da_nil) (by decide)) da_nil))))
    (dss_one (ds_if (DW.dt (dw_or (dt_cmpS (LM.op_eqO (mt_cons (ok_Content___eq__ T) mt_nil (by decide)) hr gd0 (takes_of rfl rfl rfl rfl)) (de_ix (dv 10) de_int) (dv 4)) (dw_or (dt_cmpS (LM.op_eqO (mt_cons (ok_Content___eq__ T) mt_nil (by decide)) hr gd0 (takes_of rfl rfl rfl rfl)) (de_ix (dv 10) de_int) (dv 4)) (dw_or1 (dt_cmpS (LM.op_eqO (mt_cons (ok_Content___eq__ T) mt_nil (by decide)) hr gd0 (takes_of rfl rfl rfl rfl)) (de_ix (dv 10) de_int) (de_ix (dv 10) de_int))))))
    (dss_one (ds_ret de_bl))
    dss_nil))))
    dss_nil)
    (dss_cons (ds_if (DW.dt (dw_or (dt_cmpS (LM.op_neO (mt_cons (ok_Content___eq__ T) mt_nil (by decide)) (LM.one_tab (p := fun c => LM.neB c _ = true) (T.xb 10 (f := LM.neB "Content"))) hr gd0 (takes_of rfl rfl rfl rfl)) (de_cc0 (mk0_Content T) hr gd0 rfl (T.glo 48) (mkr_Content T).kp (takes_of rfl rfl rfl rfl) (by decide)) (de_cc (mk_Content T) hr gd0 rfl (T.glo 48) (mkr_Content T).kp (takes_of rfl rfl rfl rfl) (da_cons (de_lst da_nil) da_nil) (by decide))) (dw_or (dt_rel (op_oNe hr.units) (LM.de_lenO rfl (T.free 5) (de_cc0 (mk0_Content T) hr gd0 rfl (T.glo 48) (mkr_Content T).kp (takes_of rfl rfl rfl rfl) (by decide)) (mt_cons (ok_Content___len__ T) mt_nil (by decide)) hr gd0 (takes_of rfl rfl rfl rfl)) de_int) (dw_or1 (dt_rel op_oIsNot (de_meth (de_cc (mk_Content T) hr gd0 rfl (T.glo 48) (mkr_Content T).kp (takes_of rfl rfl rfl rfl) (da_cons (dv 6) da_nil) (by decide)) (mt_cons (ok_Content_shows T) mt_nil (by decide)) hr gd0 (takes_of rfl rfl rfl rfl) (da_cons de_str da_nil)) de_non)))))
    (dss_one (ds_ret de_bl))
    dss_nil)
    (dss_cons (ds_set 11 sc_law.nd rfl (by first | exact Or.inl rfl | exact Or.inr rfl) (de_lst (da_cons (de_bin op_oAdd (dv 6) (de_lst (da_cons (de_tup (da_cons de_str (da_cons (de_tup (da_cons de_int (da_cons de_str da_nil))) (da_cons de_str da_nil)))) da_nil))) (da_cons (de_bin op_oAdd (dv 6) (de_lst (da_cons (de_tup (da_cons de_str (da_cons (de_tup (da_cons de_int (da_cons de_str da_nil))) (da_cons de_str da_nil)))) da_nil))) (da_cons (de_bin op_oAdd (dv 6) (de_lst (da_cons de_str da_nil))) (da_cons (de_bin op_oAdd (dv 6) (de_lst (da_cons de_non da_nil))) (da_cons (de_lst (da_cons (dv 6) da_nil)) da_nil)))))))
    (dss_cons (ds_for (passes_of rfl) rfl (di_any (de_bin op_oAdd (dv 11) (de_lst (da_cons de_non (da_cons de_int (da_cons de_str (da_cons de_dict0 (da_cons (de_ix (dv 6) de_int) (da_cons (de_bin op_oMul (de_sl (dv 6) (dpo_some (de_neg de_int)) dpo_none) de_int) da_nil))))))))) (dg_name 12 sc_law.nd rfl (by first | exact Or.inl rfl | exact Or.inr rfl))
    (dss_one (ds_if (dt_rel (op_oNe hr.units) (act_law_refused (it := 1) (k := 7) (c := "law") (m := none) (q := "law.<locals>.<lambda>") T (T.tbn 1) hr gd0 rfl (LamX.lamS_by (by kernel_rfl)) rfl (fun _ _ _ _ _ => rfl) ec rfl (fun A9 outer9 s9 H9 E9 f9 c9 gd0 hr => (de_cc (mk_Content T) hr gd0 rfl (T.glo 48) (mkr_Content T).kp (takes_of rfl rfl rfl rfl) (da_cons (dv 12) da_nil) (by decide)))) (de_lst (da_cons de_str (da_cons (de_bf (c_oRepr gd0 hr.units) rfl (T.free 25) (by decide +kernel) (da_cons (dv 12) da_nil)) (da_cons de_bl da_nil)))))
    (dss_one (ds_ret de_bl))
    dss_nil)))
    (dss_one (ds_for (passes_of rfl) rfl (di_any (de_lst (da_cons de_non (da_cons de_int (da_cons de_str (da_cons de_str (da_cons de_str (da_cons (de_tup da_nil) (da_cons (de_lst da_nil) (da_cons de_dict0 (da_cons (de_tup (da_cons de_str da_nil)) (da_cons de_bl da_nil)))))))))))) (dg_name 12 sc_law.nd rfl (by first | exact Or.inl rfl | exact Or.inr rfl))
    (dss_cons (ds_if (DW.dt (dw_or (dt_rel op_oIsNot (de_cmpS (op_inO (mt_cons (ok_Content___contains__ T) mt_nil (by decide)) hr gd0 (takes_of rfl rfl rfl rfl)) (dv 12) (dv 4)) de_bl) (dw_or1 (dt_rel (op_oNe hr.units) (act_law_refused (it := 1) (k := 7) (c := "law") (m := none) (q := "law.<locals>.<lambda>") T (T.tbn 1) hr gd0 rfl (LamX.lamS_by (by kernel_rfl)) rfl (fun _ _ _ _ _ => rfl) ec rfl (fun A9 outer9 s9 H9 E9 f9 c9 gd0 hr => (de_ixO (mt_cons (ok_Content___getitem__ T) mt_nil (by decide)) (LM.fi_one (T.xb 8 (f := fun K => PySem.W.fnIn K (He.ma K (He.ga K "Content") "__getitem__")))) hr gd0 (takes_of rfl rfl rfl rfl) (dv 4) (dv 12)))) (de_lst (da_cons de_str (da_cons (de_bf (c_oRepr gd0 hr.units) rfl (T.free 25) (by decide +kernel) (da_cons (dv 12) da_nil)) (da_cons de_bl da_nil))))))))
    (dss_one (ds_ret de_bl))
    dss_nil)
    (dss_one (ds_if (DW.dt (dw_and (dt_rel (LM.op_oNeX hr.units) (dv 12) de_str) (dw_and1 (dt_rel (op_oNe hr.units) (act_law_refused (it := 1) (k := 7) (c := "law") (m := none) (q := "law.<locals>.<lambda>") T (T.tbn 1) hr gd0 rfl (LamX.lamS_by (by kernel_rfl)) rfl (fun _ _ _ _ _ => rfl) ec rfl (fun A9 outer9 s9 H9 E9 f9 c9 gd0 hr => (de_meth (dv 4) (mt_cons (ok_Content_shows T) mt_nil (by decide)) hr gd0 (takes_of rfl rfl rfl rfl) (da_cons (dv 12) da_nil)))) (de_lst (da_cons de_str (da_cons (de_bf (c_oRepr gd0 hr.units) rfl (T.free 25) (by decide +kernel) (da_cons (dv 12) da_nil)) (da_cons de_bl da_nil))))))))
    (dss_one (ds_ret de_bl))
    dss_nil)))))))))))))))))
    (dss_one (ds_ret de_bl)))
end
def loose0 : List PySem.Str := ["_wall", "__name__", "TombError", "BadEntries", "BadKey", "NoEntry", "LETTERS", "MOST_NUMBER", "MOST_VALUE", "is_word", "is_value", "is_number", "is_stamp", "is_entry", "are_entries", "Content", "joined", "common", "_law_pool", "_law_take", "_law_entries", "_law_refused", "_law_told"]
def loose : List PySem.Str := loose0
abbrev R : PySem.W.OpenRow := PySem.W.OpenLaw.row PySem.Challenge.rw_tombkeeper_k05_contents_told
def ex (K : PySem.W.Frag) : Bool := xs.all fun f => f K
def TL : List He.Defn := TABS.map fun t => (t.1, t.2.1)
abbrev hk : PySem.W.Hook := He.hookX 5 fa fn [] TL ex
def ob (s : PySem.W.SharedT) : He.AlX := He.obsX 5 fa fn [] TL ex (HandSHeadRun.getT s)
theorem ob_eq (s : PySem.W.SharedT) : ob s = hk.obs s.abs := He.obsX_eq (HandSHeadRun.getT_eq s)
theorem run (w : World) : HandSHeadRun.RunEq R (PySem.W.view R.prog [26]) hk ob 20000 loose w := by
  intro os
  kernel_rfl
theorem facts {P : Program} {w : World} {K : PySem.W.Frag} {h : Heap} {mg : Str → Option Value} {f : Addr} (X : K.In h) (G : h.Ns mainGlobals mg) (hfa : mg ("law" : Str) = some (.ref f)) (c : He.SaysD fa fn K) (cx : (xs.all fun f => f K) = true) :
    ∃ fd : FuncData, (∀ (s : Shared) (v : Value), BindsTo s fd ⟨[v], []⟩ [("_law_script", v)]) ∧ ∀ base : Heap, K.In base → base.Ns mainGlobals mg → (∀ c ∈ LM.tabsA K TABS, LamX.TabB base mg c.1 c.2) → FnGd P w K mg base 10 f fd ["_law_script"] (spD K 1 F_law) := by
  obtain ⟨fd, F⟩ := c.def_ 19 (d := d_law) rfl
  have e := hfa.symm.trans (He.glo_ok X G (c.fact 52 (f := .glo "law")))
  cases e
  have b := FunD.bindsA (ps := ["_law_script"]) F fun _ _ _ _ _ _ us hl => match us, hl with | [_], _ => rfl
  exact ⟨fd, fun s v => b s [v] rfl, fun base _ _ tb => ok_law_at (T := ⟨c, cx, ⟨h, X, G⟩, tb⟩) F⟩
end G
section
open PySem PySem.W PySem.Calls PyProof.Rows
theorem G.cw (hF : ∀ ns : List Int, ns.length ≤ 63 → ∃ S', G.F_law [.scr (ns.map .int)] (LM.tabsD G.TABS) = .ok (.bl true) S') : PySem.Challenge.rw_tombkeeper_k05_contents_told.Holds := by
  w_on; o_law
  refine HandSHeadRun.head_any (r := OpenLaw.row PySem.Challenge.rw_tombkeeper_k05_contents_told) (q := view (OpenLaw.row PySem.Challenge.rw_tombkeeper_k05_contents_told).prog [26]) (H := G.hk) (ob := G.ob) (M := 20000) (loose := G.loose) (d := HandSHeadRun.topDef (OpenLaw.row PySem.Challenge.rw_tombkeeper_k05_contents_told).prog 26) (kwd := []) G.ob_eq
    (by kernel_rfl) (fun s => by kernel_rfl) G.run (by kernel_rfl) (by kernel_rfl) (by kernel_rfl) (by rfl) (by first | assumption | decide +kernel) (by decide +kernel) ⟨rfl, rfl, rfl, rfl, rfl, by decide +kernel⟩ ?hw ?hc
  case hw => w_witness2
  case hc =>
    refine LM.walk_M (l := PySem.Challenge.rw_tombkeeper_k05_contents_told) (n := 63) (k := 10) (x := "_law_script") rfl (by decide) (by kernel_rfl) ⟨rfl, by decide, by decide⟩ ?F
    case F =>
      intro w mg fa h Y Gn hmg0
      obtain ⟨K, KX, c⟩ := Y
      have hmg : mg ("law" : PySem.Str) = some (.ref fa) := by
        have e : (HandSHeadRun.topDef (OpenLaw.row PySem.Challenge.rw_tombkeeper_k05_contents_told).prog 26).name = ("law" : PySem.Str) := by kernel_rfl
        rw [← e]
        exact hmg0
      have hm : ∀ z ∈ LM.tabsA K G.TABS, ∃ p ∈ G.TL, z = He.cT K p := fun z hz => by
        obtain ⟨t, ht, rfl⟩ := List.mem_map.mp hz
        exact ⟨(t.1, t.2.1), List.mem_map.mpr ⟨t, ht, rfl⟩, rfl⟩
      have cm : (G.xs.all fun f => f K) = true := c.more
      obtain ⟨fd, hb, hF'⟩ := G.facts (P := (PySem.Challenge.rw_tombkeeper_k05_contents_told).prog) (w := w) KX Gn hmg c.t.d cm
      refine ⟨K, fd, DE.spD K 1 G.F_law, LM.tabsA K G.TABS, KX, fun z hz => ?_, fun z hz => ?_, fun z hz => ?_, hb, fun H a ns hl hT hS => LM.sp_tabs (List.all_eq_true.mp cm (LM.tabsB G.TABS) (by simp [G.xs])) (hF ns hl) hT hS, hF'⟩
      · obtain ⟨p, hp, rfl⟩ := hm z hz
        exact c.empty _ hp
      · obtain ⟨p, hp, rfl⟩ := hm z hz
        exact c.out _ hp
      · obtain ⟨p, hp, rfl⟩ := hm z hz
        exact codeHd_of_K KX (c.hd _ hp)
end

set_option maxHeartbeats 4000000
namespace DE
open PySem L2
/-! equations for simp -/
def onBl {α : Type} (d : D) (k : Bool → RE α) : RE α := match d with
  | .bl b => k b
  | _ => .bad
@[simp] theorem onBl_bl {α : Type} (b : Bool) (k : Bool → RE α) : onBl (.bl b) k = k b := id rfl
def onInt {α : Type} (d : D) (k : Int → RE α) : RE α := match d with
  | .int b => k b
  | _ => .bad
@[simp] theorem onInt_int {α : Type} (b : Int) (k : Int → RE α) : onInt (.int b) k = k b := id rfl
def onStr {α : Type} (d : D) (k : Str → RE α) : RE α := match d with
  | .str b => k b
  | _ => .bad
@[simp] theorem onStr_str {α : Type} (b : Str) (k : Str → RE α) : onStr (.str b) k = k b := id rfl
def RS.seq (r : RS) (g : MS) : RS := match r with
  | .nx ρ1 S1 => g ρ1 S1
  | r => r
@[simp] theorem seq_nx (ρ : DE.Env) (S : Sto) (g : MS) : RS.seq (.nx ρ S) g = g ρ S := id rfl
@[simp] theorem seq_rt (d : D) (S : Sto) (g : MS) : RS.seq (.rt d S) g = .rt d S := id rfl
@[simp] theorem seq_bk (ρ : DE.Env) (S : Sto) (g : MS) : RS.seq (.bk ρ S) g = .bk ρ S := id rfl
@[simp] theorem seq_ct (ρ : DE.Env) (S : Sto) (g : MS) : RS.seq (.ct ρ S) g = .ct ρ S := id rfl
@[simp] theorem seq_exc (x : Exc) (ρ : DE.Env) (S : Sto) (g : MS) : RS.seq (.exc x ρ S) g = .exc x ρ S := id rfl
@[simp] theorem seq_bad (g : MS) : RS.seq .bad g = .bad := id rfl
def RS.fin (r : RS) : RE D := match r with
  | .nx _ S' => .ok .non S'
  | .rt d S' => .ok d S'
  | .exc x _ S' => .exc x S'
  | _ => .bad
@[simp] theorem fin_nx (ρ : DE.Env) (S : Sto) : RS.fin (.nx ρ S) = .ok .non S := id rfl
@[simp] theorem fin_rt (d : D) (S : Sto) : RS.fin (.rt d S) = .ok d S := id rfl
@[simp] theorem fin_exc (x : Exc) (ρ : DE.Env) (S : Sto) : RS.fin (.exc x ρ S) = .exc x S := id rfl
@[simp] theorem fin_bad : RS.fin .bad = .bad := id rfl
section
variable {α β : Type} {c : Prop} [Decidable c]
@[simp] theorem bind_ite (a b : RE α) (f : α → Sto → RE β) : (if c then a else b).bind f = if c then a.bind f else b.bind f := by split <;> rfl
@[simp] theorem stm_ite (a b : RE α) (ρ : DE.Env) (f : α → Sto → RS) : (if c then a else b).stm ρ f = if c then a.stm ρ f else b.stm ρ f := by split <;> rfl
@[simp] theorem seq_ite (a b : RS) (g : MS) : RS.seq (if c then a else b) g = if c then RS.seq a g else RS.seq b g := by split <;> rfl
@[simp] theorem fin_ite (a b : RS) : RS.fin (if c then a else b) = if c then RS.fin a else RS.fin b := by split <;> rfl
end
section
variable {ρ : DE.Env} {S : Sto}
@[simp] theorem e_dVar (i : Nat) : dVar i ρ S = (match ρ[i]? with | some (some d) => .ok d S | _ => .bad) := id rfl
@[simp] theorem e_dC (d : D) : dC d ρ S = .ok d S := id rfl
@[simp] theorem e_dBin (o : D → D → Sto → RE D) (f g : ME) : dBin o f g ρ S = (f ρ S).bind fun d S1 => (g ρ S1).bind fun e S2 => o d e S2 := id rfl
@[simp] theorem e_dTest (f : ME) : dTest f ρ S = (f ρ S).bind fun d S1 => onBl d fun b => .ok b S1 := id rfl
@[simp] theorem e_dAndT (f g : MT) : dAndT f g ρ S = (f ρ S).bind fun d S1 => if d = true then g ρ S1 else .ok false S1 := id rfl
@[simp] theorem e_dOrT (f g : MT) : dOrT f g ρ S = (f ρ S).bind fun d S1 => if d = true then .ok true S1 else g ρ S1 := id rfl
@[simp] theorem e_dNotT (f : MT) : dNotT f ρ S = (f ρ S).bind fun d S1 => .ok (!d) S1 := id rfl
theorem bind_congr' {α β : Type} {r : RE α} {f g : α → Sto → RE β} (h : ∀ a S, f a S = g a S) : r.bind f = r.bind g := by cases r <;> simp [h]
@[simp] theorem e_dAnd (f g : ME) : dAnd f g ρ S = (f ρ S).bind fun d S1 => onBl d fun b => if b = true then g ρ S1 else .ok (.bl false) S1 := bind_congr' fun d S1 => by
  cases d <;> try rfl
  rename_i b; cases b <;> rfl
@[simp] theorem e_dOr (f g : ME) : dOr f g ρ S = (f ρ S).bind fun d S1 => onBl d fun b => if b = true then .ok (.bl true) S1 else g ρ S1 := bind_congr' fun d S1 => by
  cases d <;> try rfl
  rename_i b; cases b <;> rfl
@[simp] theorem e_dNot (f : ME) : dNot f ρ S = (f ρ S).bind fun d S1 => onBl d fun b => .ok (.bl (!b)) S1 := id rfl
@[simp] theorem e_dIfE (t : MT) (f g : ME) : dIfE t f g ρ S = (t ρ S).bind fun d S1 => if d = true then f ρ S1 else g ρ S1 := id rfl
@[simp] theorem e_dChain (o p : D → D → Sto → RE D) (f g h : ME) : dChain o p f g h ρ S = (f ρ S).bind fun x S1 => (g ρ S1).bind fun y S2 => (o x y S2).bind fun d S3 => onBl d fun b => if b = true then (h ρ S3).bind fun z S4 => p y z S4 else .ok (.bl false) S3 :=
  bind_congr' fun x S1 => bind_congr' fun y S2 => bind_congr' fun d S3 => by
    cases d <;> try rfl
    rename_i b; cases b <;> rfl
@[simp] theorem e_aNil : aNil ρ S = .ok [] S := id rfl
@[simp] theorem e_aCons (f : ME) (g : MA) : aCons f g ρ S = (f ρ S).bind fun d S1 => (g ρ S1).bind fun ds S2 => .ok (d :: ds) S2 := id rfl
@[simp] theorem e_dTup (f : MA) : dTup f ρ S = (f ρ S).bind fun ds S1 => if ds.length ≤ cap then .ok (.tup ds) S1 else .bad := id rfl
@[simp] theorem e_dLst (f : MA) : dLst f ρ S = (f ρ S).bind fun ds S1 => if ds.length ≤ cap then .ok (.lst ds) S1 else .bad := id rfl
@[simp] theorem e_dLstO (f : MA) : dLstO f ρ S = (f ρ S).bind fun ds S1 => if ds.length ≤ cap then .ok (.own S1.length) (S1 ++ [.lst ds]) else .bad := id rfl
@[simp] theorem e_sNil : sNil ρ S = .nx ρ S := id rfl
@[simp] theorem e_sSeq (f g : MS) : sSeq f g ρ S = RS.seq (f ρ S) g := id rfl
@[simp] theorem e_sExpr (f : ME) : sExpr f ρ S = (f ρ S).stm ρ fun _ S1 => .nx ρ S1 := id rfl
@[simp] theorem e_sRet (f : ME) : sRet f ρ S = (f ρ S).stm ρ fun d S1 => .rt d S1 := id rfl
@[simp] theorem e_sRetN : sRetN ρ S = .rt .non S := id rfl
@[simp] theorem e_sBreak : sBreak ρ S = .bk ρ S := id rfl
@[simp] theorem e_sCont : sCont ρ S = .ct ρ S := id rfl
@[simp] theorem e_sIf (t : MT) (f g : MS) : sIf t f g ρ S = (t ρ S).stm ρ fun b S1 => if b = true then f ρ S1 else g ρ S1 := id rfl
@[simp] theorem e_sAsg (f : ME) (g : MG) : sAsg f g ρ S = (f ρ S).stm ρ fun d S1 => match g d ρ with | some ρ1 => .nx ρ1 S1 | none => .bad := id rfl
@[simp] theorem e_gN (i : Nat) (d : D) : gN i d ρ = some (ρ.set i (some d)) := id rfl
@[simp] theorem e_sFor (i : MA) (g : MG) (b : MS) : sFor i g b ρ S = (i ρ S).stm ρ fun ds S1 => loopS g b ds ρ S1 := id rfl
@[simp] theorem e_dLC (own : List Nat) (i : MA) (g : MG) (t : MT) (e : ME) : dLC own i g t e ρ S = (i ρ S).bind fun ds S1 => if ds.length ≤ cap then (loopC own g t e ρ ds S1).bind fun vs S2 => .ok (.lst vs) S2 else .bad := id rfl
@[simp] theorem e_iOf (f : ME) : iOf f ρ S = (f ρ S).bind fun d S1 => match itemsOf d with | some ds => .ok ds S1 | none => .bad := id rfl
@[simp] theorem e_iR1 (f : MA) : iR1 f ρ S = (f ρ S).bind fun ds S1 => match ds with | [.int n] => if -(2 ^ 62) ≤ n ∧ n < 2 ^ 62 then .ok (rangeD 0 n.toNat) S1 else .bad | _ => .bad := id rfl
@[simp] theorem e_dCall (n : Nat) (F : FD) (dd : List D) (fa : MA) : dCall n F dd fa ρ S = (fa ρ S).bind fun ds S1 => if (ds ++ dd).length = n then F (ds ++ dd) S1 else .bad := id rfl
@[simp] theorem e_dBlt (op : FD) (fa : MA) : dBlt op fa ρ S = (fa ρ S).bind fun ds S1 => op ds S1 := id rfl
@[simp] theorem e_dNeg (f : ME) : dNeg f ρ S = (f ρ S).bind fun d S1 => onInt d fun i => .ok (.int (-i)) S1 := id rfl
@[simp] theorem e_dM1 (op : Str → D → Sto → RE D) (f g : ME) : dM1 op f g ρ S = (f ρ S).bind fun d S1 => onStr d fun x => (g ρ S1).bind fun e S2 => op x e S2 := id rfl
@[simp] theorem e_dSl (f : ME) (lo hi : MO) : dSl f lo hi ρ S = (f ρ S).bind fun d S1 => (lo ρ S1).bind fun l S2 => (hi ρ S2).bind fun u S3 => slD d l u S3 := id rfl
@[simp] theorem e_oNoPart : oNoPart ρ S = .ok none S := id rfl
@[simp] theorem e_oPart (f : ME) : oPart f ρ S = (f ρ S).bind fun d S1 => onInt d fun i => .ok (some i) S1 := id rfl
@[simp] theorem e_dDictE : dDictE ρ S = .ok (.dK []) S := id rfl
@[simp] theorem e_mYes : mYes ρ S = .ok true S := id rfl
theorem e_fnD (n : Nat) (B : MS) (ds : List D) : fnD n B ds S = (B (ds.map some ++ List.replicate (n - ds.length) none) S).fin := rfl
end
/-! comprehensions whose parts change nothing -/
theorem loopC_fm {own : List Nat} {g : MG} {t : MT} {e : ME} {ρ : DE.Env} {S : Sto} {r : D → DE.Env} {p : D → Bool} {v : D → D} : ∀ {ds : List D}, (∀ d ∈ ds, g d (wipeD ρ own) = some (r d) ∧ t (r d) S = .ok (p d) S ∧ (p d = true → e (r d) S = .ok (v d) S)) →
    loopC own g t e ρ ds S = .ok ((ds.filter p).map v) S
  | [], _ => rfl
  | d :: ds, h => by
    obtain ⟨h1, h2, h3⟩ := h d List.mem_cons_self
    have ih := loopC_fm (ds := ds) fun x hx => h x (List.mem_cons_of_mem _ hx)
    unfold loopC
    rw [h1]
    simp only [h2]
    cases q : p d with
    | true => simp only [h3 q, ih, RE.bind_ok, List.filter_cons, q, if_true, List.map_cons]
    | false => simp only [ih, List.filter_cons, q]; rfl
theorem loopC_map {own : List Nat} {g : MG} {t : MT} {e : ME} {ρ : DE.Env} {S : Sto} {r : D → DE.Env} {v : D → D} {ds : List D} (h : ∀ d ∈ ds, g d (wipeD ρ own) = some (r d) ∧ t (r d) S = .ok true S ∧ e (r d) S = .ok (v d) S) :
    loopC own g t e ρ ds S = .ok (ds.map v) S := by
  have := loopC_fm (p := fun _ => true) (v := v) fun d hd => let ⟨a, b, c⟩ := h d hd; ⟨a, b, fun _ => c⟩
  rw [this, List.filter_eq_self.mpr (fun _ _ => rfl)]
/-! operators at data whose kind is known -/
@[simp] theorem oEq_int (i j : Int) (S : Sto) : oEq (.int i) (.int j) S = .ok (.bl (i == j)) S := id rfl
@[simp] theorem oNe_int (i j : Int) (S : Sto) : oNe (.int i) (.int j) S = .ok (.bl (!(i == j))) S := id rfl
@[simp] theorem oLt_int (i j : Int) (S : Sto) : oLt (.int i) (.int j) S = .ok (.bl (decide (i < j))) S := id rfl
@[simp] theorem oLe_int (i j : Int) (S : Sto) : oLe (.int i) (.int j) S = .ok (.bl (decide (i ≤ j))) S := id rfl
@[simp] theorem oGt_int (i j : Int) (S : Sto) : oGt (.int i) (.int j) S = .ok (.bl (decide (j < i))) S := id rfl
@[simp] theorem oGe_int (i j : Int) (S : Sto) : oGe (.int i) (.int j) S = .ok (.bl (decide (j ≤ i))) S := id rfl
@[simp] theorem oAdd_int (i j : Int) (S : Sto) : oAdd (.int i) (.int j) S = .ok (.int (i + j)) S := id rfl
@[simp] theorem oSub_int (i j : Int) (S : Sto) : oSub (.int i) (.int j) S = .ok (.int (i - j)) S := id rfl
theorem oMul_int {i j : Int} {S : Sto} (h : (-lim64 < i ∧ i < lim64) ∨ (-lim64 < j ∧ j < lim64)) : oMul (.int i) (.int j) S = .ok (.int (i * j)) S := if_pos h
theorem oMod_int {i j : Int} {S : Sto} (h : 0 < j) : oMod (.int i) (.int j) S = .ok (.int (i % j)) S := if_pos (decide_eq_true h)
theorem oFDiv_int {i j : Int} {S : Sto} (h : 0 < j) (h2 : j < 1073741824) : oFDiv (.int i) (.int j) S = .ok (.int (i / j)) S := if_pos (decide_eq_true ⟨h, h2⟩)
@[simp] theorem oIs_non (d : D) (S : Sto) : oIs d .non S = .ok (.bl (isNon d)) S := by cases d <;> rfl
@[simp] theorem oIsNot_non (d : D) (S : Sto) : oIsNot d .non S = .ok (.bl (!isNon d)) S := by cases d <;> rfl
@[simp] theorem oIs_bl (a b : Bool) (S : Sto) : oIs (.bl a) (.bl b) S = .ok (.bl (decide (a = b))) S := id rfl
@[simp] theorem oIsNot_bl (a b : Bool) (S : Sto) : oIsNot (.bl a) (.bl b) S = .ok (.bl (!decide (a = b))) S := id rfl
theorem oEq_str {x y : Str} {S : Sto} (hx : PyData.strOk x = true) (hy : PyData.strOk y = true) : oEq (.str x) (.str y) S = .ok (.bl (x == y)) S := by
  have h1 : SeqAt.shaped (.str x) = true := by simp [SeqAt.shaped, PyData.canLay0, PyData.depth, hx]
  have h2 : SeqAt.shaped (.str y) = true := by simp [SeqAt.shaped, PyData.canLay0, PyData.depth, hy]
  unfold oEq eqD
  simp only [toPy, h1, h2, and_self, if_true, PyData.eqv]
theorem oNe_str {x y : Str} {S : Sto} (hx : PyData.strOk x = true) (hy : PyData.strOk y = true) : oNe (.str x) (.str y) S = .ok (.bl (!(x == y))) S := by
  have h1 : SeqAt.shaped (.str x) = true := by simp [SeqAt.shaped, PyData.canLay0, PyData.depth, hx]
  have h2 : SeqAt.shaped (.str y) = true := by simp [SeqAt.shaped, PyData.canLay0, PyData.depth, hy]
  unfold oNe eqD
  simp only [toPy, h1, h2, and_self, if_true, PyData.eqv]
theorem reprB_ok (b : Bool) : PyData.strOk (reprB b) = true := by cases b <;> decide +kernel
theorem oEq_repr (a b : Bool) (S : Sto) : oEq (.str (reprB a)) (.str (reprB b)) S = .ok (.bl (a == b)) S := by
  rw [oEq_str (reprB_ok a) (reprB_ok b)]
  have h1 : (reprB true == reprB false) = false := by decide +kernel
  have h2 : (reprB false == reprB true) = false := by decide +kernel
  cases a <;> cases b <;> simp [h1, h2]
theorem oNe_repr (a b : Bool) (S : Sto) : oNe (.str (reprB a)) (.str (reprB b)) S = .ok (.bl (!(a == b))) S := by
  rw [oNe_str (reprB_ok a) (reprB_ok b)]
  have h1 : (reprB true == reprB false) = false := by decide +kernel
  have h2 : (reprB false == reprB true) = false := by decide +kernel
  cases a <;> cases b <;> simp [h1, h2]
/-! loops -/
theorem loopS_inv {g : MG} {body : MS} (Inv : DE.Env → Sto → Prop) : ∀ {ds : List D} {ρ : DE.Env} {S : Sto}, (∀ d ∈ ds, ∀ ρ S, Inv ρ S → ∃ ρ1, g d ρ = some ρ1 ∧ ∃ ρ2 S2, body ρ1 S = .nx ρ2 S2 ∧ Inv ρ2 S2) → Inv ρ S → ∃ ρ' S', loopS g body ds ρ S = .nx ρ' S' ∧ Inv ρ' S'
  | [], ρ, S, _, h0 => ⟨ρ, S, rfl, h0⟩
  | d :: ds, ρ, S, h, h0 => by
    obtain ⟨ρ1, e1, ρ2, S2, e2, h2⟩ := h d List.mem_cons_self ρ S h0
    obtain ⟨ρ', S', e3, h3⟩ := loopS_inv Inv (ds := ds) (fun x hx => h x (List.mem_cons_of_mem _ hx)) h2
    refine ⟨ρ', S', ?_, h3⟩
    unfold loopS
    rw [e1]
    simp only [e2]
    exact e3
/-- a comprehension whose parts change the store, each item as told -/
theorem loopC_inv {own : List Nat} {g : MG} {t : MT} {e : ME} {ρ : DE.Env} (Inv : Sto → Prop) (P : D → Prop) : ∀ {ds : List D} {S : Sto}, (∀ d ∈ ds, ∀ S, Inv S → ∃ ρ1, g d (wipeD ρ own) = some ρ1 ∧ t ρ1 S = .ok true S ∧ ∃ v S2, e ρ1 S = .ok v S2 ∧ P v ∧ Inv S2) → Inv S →
    ∃ vs S', loopC own g t e ρ ds S = .ok vs S' ∧ (∀ v ∈ vs, P v) ∧ vs.length = ds.length ∧ Inv S'
  | [], S, _, h0 => ⟨[], S, rfl, (fun _ h => by cases h), rfl, h0⟩
  | d :: ds, S, h, h0 => by
    obtain ⟨ρ1, e1, e2, v, S2, e3, hv, h2⟩ := h d List.mem_cons_self S h0
    obtain ⟨vs, S', e4, hvs, hl, h4⟩ := loopC_inv Inv P (ds := ds) (fun x hx => h x (List.mem_cons_of_mem _ hx)) h2
    refine ⟨v :: vs, S', ?_, fun x hx => ?_, by simp [hl], h4⟩
    · unfold loopC
      rw [e1]
      simp only [e2, e3, e4, RE.bind_ok]
    · rcases List.mem_cons.mp hx with rfl | hx
      · exact hv
      · exact hvs x hx
theorem mem_rangeD {lo : Int} {n : Nat} {d : D} (h : d ∈ rangeD lo n) : ∃ i : Nat, i < n ∧ d = .int (lo + i) := by
  unfold rangeD at h
  obtain ⟨i, hi, rfl⟩ := List.mem_map.mp h
  exact ⟨i, List.mem_range.mp hi, rfl⟩
/-! the pool of draws -/
def PoolAt (k : Nat) (S : Sto) : Prop := ∃ x y, S[k]? = some (.lst [.int x, .int y])
theorem oPow_int {i j z : Int} {S : Sto} (h : decide (0 ≤ j ∧ j ≤ 1000000 ∧ i.natAbs < lim64.toNat) = true) (e : i ^ j.toNat = z) : oPow (.int i) (.int j) S = .ok (.int z) S := by
  subst e
  exact if_pos h
@[simp] theorem pow18 (S : Sto) : oPow (.int 10) (.int 18) S = .ok (.int 1000000000000000000) S := oPow_int (by decide +kernel) (by decide +kernel)
@[simp] theorem pow15 (S : Sto) : oPow (.int 10) (.int 15) S = .ok (.int 1000000000000000) S := oPow_int (by decide +kernel) (by decide +kernel)
end DE

set_option maxHeartbeats 4000000
namespace DE
open PySem L2
def onM (r : Option (Option Bd)) (a : RS) (b : Bd → RS) : RS := match r with
  | none => .bad
  | some none => a
  | some (some bs) => b bs
@[simp] theorem onM_no (a : RS) (b : Bd → RS) : onM (some none) a b = a := id rfl
@[simp] theorem onM_yes (a : RS) (b : Bd → RS) (bs : Bd) : onM (some (some bs)) a b = b bs := id rfl
@[simp] theorem onM_ite (c : Prop) [Decidable c] (x y : Option Bd) (a : RS) (b : Bd → RS) : onM (some (if c then x else y)) a b = if c then onM (some x) a b else onM (some y) a b := by split <;> rfl
section
variable {ρ : DE.Env} {S : Sto}
@[simp] theorem e_sMatch (f : ME) (cs : List (MP × MS)) : sMatch f cs ρ S = (f ρ S).stm ρ fun d S1 => mCs cs d ρ S1 := id rfl
@[simp] theorem e_mNil (d : D) : mCs [] d ρ S = .nx ρ S := id rfl
@[simp] theorem e_mCons (p : MP) (b : MS) (r : List (MP × MS)) (d : D) : mCs ((p, b) :: r) d ρ S = onM (p d) (mCs r d ρ S) (fun bs => b (bindB bs ρ) S) := by
  show (match p d with | none => RS.bad | some none => _ | some (some bs) => _) = _
  cases p d with
  | none => rfl
  | some x => cases x <;> rfl
@[simp] theorem e_sAug (i : Nat) (g : ME) : sAug i g ρ S = (match ρ[i]? with
  | some (some (.int a)) => (g ρ S).stm ρ fun e S1 => match e with
    | .int b => .nx (ρ.set i (some (.int (a + b)))) S1
    | _ => .bad
  | _ => .bad) := id rfl
@[simp] theorem e_sPar (i j : Nat) (fa : MA) : sPar i j fa ρ S = (fa ρ S).stm ρ fun ds S1 => match ds with
  | [d, e] => .nx ((ρ.set i (some d)).set j (some e)) S1
  | _ => .bad := id rfl
@[simp] theorem e_dSS (f : ME) : dSS f ρ S = (f ρ S).bind fun d S1 => match d with
  | .tup ds => (match strsOf ds with
    | some xs => if xs.length < 4000 then .ok (.lst ((sortD xs).map .str)) S1 else .bad
    | none => .bad)
  | _ => .bad := id rfl
@[simp] theorem oInt_int (i : Int) : oInt [.int i] S = .ok (.int i) S := id rfl
@[simp] theorem oInt_bl (b : Bool) : oInt [.bl b] S = .ok (.int (if b then 1 else 0)) S := id rfl
end
@[simp] theorem e_pNm (i : Nat) (d : D) : pNm i d = some (some [(i, d)]) := id rfl
@[simp] theorem e_pAny (d : D) : pAny d = some (some []) := id rfl
@[simp] theorem e_pSeq (n : Nat) (g : List D → Option (Option Bd)) (ds : List D) : pSeq n g (.tup ds) = if ds.length = n then g ds else some none := id rfl
@[simp] theorem e_psNil (ds : List D) : psNil ds = some (some []) := id rfl
def andM (x : Option (Option Bd)) (y : Option (Option Bd)) : Option (Option Bd) := x.bind fun x => match x with
  | none => some none
  | some bs => y.map fun y => match y with
    | none => none
    | some cs => some (bs ++ cs)
@[simp] theorem e_psCons (f : MP) (g : List D → Option (Option Bd)) (d : D) (r : List D) : psCons f g (d :: r) = andM (f d) (g r) := id rfl
@[simp] theorem andM_no (y : Option (Option Bd)) : andM (some none) y = some none := id rfl
@[simp] theorem andM_yes (bs cs : Bd) : andM (some (some bs)) (some (some cs)) = some (some (bs ++ cs)) := id rfl
@[simp] theorem andM_yn (bs : Bd) : andM (some (some bs)) (some none) = some none := id rfl
@[simp] theorem andM_ite (c : Prop) [Decidable c] (bs : Bd) (y : Option (Option Bd)) : andM (some (if c then some bs else none)) y = if c then andM (some (some bs)) y else some none := by split <;> rfl
@[simp] theorem onM_ite2 (c : Prop) [Decidable c] (x y : Option (Option Bd)) (a : RS) (b : Bd → RS) : onM (if c then x else y) a b = if c then onM x a b else onM y a b := by split <;> rfl
theorem pStr_str {x y : Str} (hx : PyData.strOk x = true) (hy : PyData.strOk y = true) : pStr x (.str y) = some (if y == x then some [] else none) := by
  have h1 : SeqAt.shaped (.str x) = true := by simp [SeqAt.shaped, PyData.canLay0, PyData.depth, hx]
  have h2 : SeqAt.shaped (.str y) = true := by simp [SeqAt.shaped, PyData.canLay0, PyData.depth, hy]
  unfold pStr eqD
  simp only [toPy, h1, h2, and_self, if_true, PyData.eqv, Option.map_some]
/-! data that can be compared -/
def okD : Nat → D → Bool
  | _, .non => true
  | _, .bl _ => true
  | _, .int _ => true
  | _, .str s => decide (s.length ≤ 1000) && s.cps.toList.all (fun c => decide (c < 128))
  | n + 1, .tup ds => decide (ds.length ≤ 1000) && ds.all (okD n)
  | n + 1, .lst ds => decide (ds.length ≤ 1000) && ds.all (okD n)
  | _, _ => false
theorem okD_mono : ∀ {n m : Nat} {d : D}, okD n d = true → n ≤ m → okD m d = true
  | n, m, .non, _, _ => by cases m <;> rfl
  | n, m, .bl _, _, _ => by cases m <;> rfl
  | n, m, .int _, _, _ => by cases m <;> rfl
  | n, m, .str s, h, _ => by
    cases n <;> cases m <;> exact h
  | 0, m, .tup ds, h, _ => by simp [okD] at h
  | 0, m, .lst ds, h, _ => by simp [okD] at h
  | n + 1, 0, .tup ds, _, h => by omega
  | n + 1, 0, .lst ds, _, h => by omega
  | n + 1, m + 1, .tup ds, h, hm => by
    simp only [okD, Bool.and_eq_true, List.all_eq_true] at h ⊢
    exact ⟨h.1, fun x hx => okD_mono (h.2 x hx) (by omega)⟩
  | n + 1, m + 1, .lst ds, h, hm => by
    simp only [okD, Bool.and_eq_true, List.all_eq_true] at h ⊢
    exact ⟨h.1, fun x hx => okD_mono (h.2 x hx) (by omega)⟩
  | n, m, .ty _, h, _ => by cases n <;> simp [okD] at h
  | n, m, .glo _, h, _ => by cases n <;> simp [okD] at h
  | n, m, .scr _, h, _ => by cases n <;> simp [okD] at h
  | n, m, .dK _, h, _ => by cases n <;> simp [okD] at h
  | n, m, .dT _, h, _ => by cases n <;> simp [okD] at h
  | n, m, .obj _ _, h, _ => by cases n <;> simp [okD] at h
  | n, m, .own _, h, _ => by cases n <;> simp [okD] at h
  | n, m, .xcp _ _ _, h, _ => by cases n <;> simp [okD] at h
  | n, m, .exo _ _, h, _ => by cases n <;> simp [okD] at h
  | n, m, .tab _ _ _, h, _ => by cases n <;> simp [okD] at h
theorem okS_strOk {s : Str} (h : s.cps.toList.all (fun c => decide (c < 128)) = true) : PyData.strOk s = true := by
  unfold PyData.strOk
  rw [← Array.all_toList]
  rw [List.all_eq_true] at h ⊢
  intro x hx
  have := of_decide_eq_true (h x hx)
  exact decide_eq_true (by omega)
mutual
theorem okD_py : ∀ {n : Nat} {d : D}, okD n d = true → ∃ p, toPy d = some p ∧ p.canLay0 = true ∧ p.depth ≤ n
  | _, .non, _ => ⟨_, rfl, rfl, Nat.zero_le _⟩
  | _, .bl _, _ => ⟨_, rfl, rfl, Nat.zero_le _⟩
  | _, .int _, _ => ⟨_, rfl, rfl, Nat.zero_le _⟩
  | n, .str s, h => ⟨_, rfl, by
      have h' : (decide (s.length ≤ 1000) && s.cps.toList.all (fun c => decide (c < 128))) = true := by cases n <;> exact h
      simp only [PyData.canLay0]
      exact okS_strOk (Bool.and_eq_true_iff.mp h').2, Nat.zero_le _⟩
  | n + 1, .tup ds, h => by
    simp only [okD, Bool.and_eq_true] at h
    obtain ⟨ps, e, c, d⟩ := okDs_py (n := n) (ds := ds) (List.all_eq_true.mp h.2)
    exact ⟨.tuple ps, by simp only [toPy, e, Option.map_some], by simpa only [PyData.canLay0] using c, by simp only [PyData.depth]; omega⟩
  | n + 1, .lst ds, h => by
    simp only [okD, Bool.and_eq_true] at h
    obtain ⟨ps, e, c, d⟩ := okDs_py (n := n) (ds := ds) (List.all_eq_true.mp h.2)
    exact ⟨.list ps, by simp only [toPy, e, Option.map_some], by simpa only [PyData.canLay0] using c, by simp only [PyData.depth]; omega⟩
  | 0, .tup ds, h => by simp [okD] at h
  | 0, .lst ds, h => by simp [okD] at h
  | n, .ty _, h => by cases n <;> simp [okD] at h
  | n, .glo _, h => by cases n <;> simp [okD] at h
  | n, .scr _, h => by cases n <;> simp [okD] at h
  | n, .dK _, h => by cases n <;> simp [okD] at h
  | n, .dT _, h => by cases n <;> simp [okD] at h
  | n, .obj _ _, h => by cases n <;> simp [okD] at h
  | n, .own _, h => by cases n <;> simp [okD] at h
  | n, .xcp _ _ _, h => by cases n <;> simp [okD] at h
  | n, .exo _ _, h => by cases n <;> simp [okD] at h
  | n, .tab _ _ _, h => by cases n <;> simp [okD] at h
theorem okDs_py : ∀ {n : Nat} {ds : List D}, (∀ d ∈ ds, okD n d = true) → ∃ ps, toPys ds = some ps ∧ PyData.canLayAll0 ps = true ∧ PyData.depthAll ps ≤ n
  | _, [], _ => ⟨[], rfl, rfl, Nat.zero_le _⟩
  | n, d :: ds, h => by
    obtain ⟨p, e1, c1, d1⟩ := okD_py (h d List.mem_cons_self)
    obtain ⟨ps, e2, c2, d2⟩ := okDs_py fun x hx => h x (List.mem_cons_of_mem _ hx)
    exact ⟨p :: ps, by simp only [toPys, e1, e2], by simp [PyData.canLayAll0, c1, c2], by simp only [PyData.depthAll]; omega⟩
end
def isE : D → Bool
  | .tup [] => true
  | _ => false
theorem okD_shaped {n : Nat} {d : D} (h : okD n d = true) (hn : n ≤ 64) : ∃ p, toPy d = some p ∧ SeqAt.shaped p = true := by
  obtain ⟨p, e, c, k⟩ := okD_py h
  exact ⟨p, e, by simp [SeqAt.shaped, c]; omega⟩
theorem eqv_unit {d : D} {p : PyData} (e : toPy d = some p) : PyData.eqv p (.tuple []) = isE d := by
  cases d <;> simp only [toPy] at e <;> try cases e
  case non => rfl
  case bl => rfl
  case int => rfl
  case str => rfl
  case tup ds =>
    cases ds with
    | nil => simp [toPys] at e; subst e; rfl
    | cons x r =>
      cases q : toPys (x :: r) with
      | none => rw [q] at e; cases e
      | some ps =>
        rw [q] at e
        cases e
        cases ps with
        | nil => simp only [toPys] at q; split at q <;> cases q
        | cons _ _ => simp [PyData.eqv, PyData.eqvAll, isE]
  case lst ds =>
    cases q : toPys ds with
    | none => rw [q] at e; cases e
    | some ps => rw [q] at e; cases e; rfl
theorem oEq_unit {n : Nat} {d : D} {S : Sto} (h : okD n d = true) (hn : n ≤ 64) : oEq d (.tup []) S = .ok (.bl (isE d)) S := by
  obtain ⟨p, e, s⟩ := okD_shaped h hn
  have u : SeqAt.shaped (.tuple []) = true := by decide
  unfold oEq eqD
  simp only [e, toPy, toPys, Option.map_some, s, u, and_self, if_true, eqv_unit e]
theorem oNe_unit {n : Nat} {d : D} {S : Sto} (h : okD n d = true) (hn : n ≤ 64) : oNe d (.tup []) S = .ok (.bl (!isE d)) S := by
  obtain ⟨p, e, s⟩ := okD_shaped h hn
  have u : SeqAt.shaped (.tuple []) = true := by decide
  unfold oNe eqD
  simp only [e, toPy, toPys, Option.map_some, s, u, and_self, if_true, eqv_unit e]
end DE

set_option maxHeartbeats 4000000
namespace G
open PySem L2 DE
@[simp] theorem cap_0 : (0 ≤ cap) = True := eq_true (by decide)
@[simp] theorem cap_1 : (1 ≤ cap) = True := eq_true (by decide)
@[simp] theorem cap_2 : (2 ≤ cap) = True := eq_true (by decide)
@[simp] theorem cap_3 : (3 ≤ cap) = True := eq_true (by decide)
@[simp] theorem cap_4 : (4 ≤ cap) = True := eq_true (by decide)
@[simp] theorem cap_5 : (5 ≤ cap) = True := eq_true (by decide)
@[simp] theorem cap_6 : (6 ≤ cap) = True := eq_true (by decide)
@[simp] theorem cap_7 : (7 ≤ cap) = True := eq_true (by decide)
@[simp] theorem cap_8 : (8 ≤ cap) = True := eq_true (by decide)
@[simp] theorem cap_9 : (9 ≤ cap) = True := eq_true (by decide)
@[simp] theorem cap_10 : (10 ≤ cap) = True := eq_true (by decide)
section
variable {ρ : DE.Env} {S : Sto}
@[simp] theorem e_dSetLen (own : List Nat) (i : MA) (g : MG) (t : MT) (e : ME) : LM.dSetLen own i g t e ρ S = (i ρ S).bind fun ds S1 => if ds.length ≤ 4000 then LM.loopSC own g t e ρ ds [] S1 else .bad := id rfl
@[simp] theorem e_dDC (own : List Nat) (i : MA) (g : MG) (t : MT) (ek ev : ME) : LM.dDC own i g t ek ev ρ S = (i ρ S).bind fun ds S1 => if ds.length ≤ cap then LM.loopDC own g t ek ev ρ ds [] S1 else .bad := id rfl
@[simp] theorem e_dFz (f : ME) : LM.dFz f ρ S = (match f (ρ.map (LM.frzD S)) [] with
  | .ok v _ => if LM.flatD v = true then .ok v S else .bad
  | _ => .bad) := id rfl
@[simp] theorem e_dMeth (m : Str) (n : Nat) (tb : List (Str × FD)) (fo : ME) (fa : MA) : dMeth m n tb fo fa ρ S = (fo ρ S).bind fun d S1 => (match objAt S1 d with
  | some (c, fs) => (match fs.lookup m, tb.lookup c with
    | none, some F => (fa ρ S1).bind fun ds S2 => if ds.length + 1 = n then F (d :: ds) S2 else .bad
    | _, _ => .bad)
  | none => .bad) := id rfl
@[simp] theorem e_dFld (f : Str) (cs : List Str) (g : ME) : dFld f cs g ρ S = (g ρ S).bind fun d S1 => (match objAt S1 d with
  | some (c, fs) => if c ∈ cs then (match fs.lookup f with
    | some d => .ok d S1
    | none => .bad) else .bad
  | none => .bad) := id rfl
@[simp] theorem e_dCC (n : Nat) (F : FD) (fa : MA) : dCC n F fa ρ S = (fa ρ S).bind fun ds S1 => if ds.length = n then F ds S1 else .bad := id rfl
@[simp] theorem e_sFldO (f : Str) (cs : List Str) (fo fe : ME) : sFldO f cs fo fe ρ S = (fe ρ S).stm ρ fun d S1 => (fo ρ S1).stm ρ fun ob S2 => (match ob with
  | .own k => (match S2[k]? with
    | some (.obj c fs) => if c ∈ cs ∧ fs.length < 1000 then .nx ρ (S2.set k (.obj c (putD f d fs))) else .bad
    | _ => .bad)
  | _ => .bad) := id rfl
@[simp] theorem e_gTL (n : Nat) (h : MGs) (ds : List D) : gTL n h (.tup ds) ρ = if ds.length = n then h ds ρ else none := id rfl
@[simp] theorem e_gsCons (g : MG) (h : MGs) (d : D) (r : List D) : gsCons g h (d :: r) ρ = (g d ρ).bind (h r) := id rfl
@[simp] theorem e_gsNil : gsNil [] ρ = some ρ := id rfl
@[simp] theorem e_dGetK (fo fi : ME) : LM.dGetK fo fi ρ S = (fo ρ S).bind fun o S1 => (fi ρ S1).bind fun i S2 => (match LM.dictAt S2 o, LM.keyD i with
  | some kd, some k => (match LM.findD kd k with
    | some d => .ok d S2
    | none => .bad)
  | _, _ => .bad) := id rfl
theorem e_dSk (i : Nat) (c m q : Str) (fa : MA) : LM.dSk i c m q fa ρ S = (fa ρ S).bind fun ds S1 => (match ds with
  | [d] => (match seqOf S1 d with
    | some ds => (match LM.keyed ds, S1[i]? with
      | some xs, some (.tab c' m' q') => if c' = c ∧ m' = m ∧ q' = q then .ok (.lst ((xs.mergeSort LM.keyLeD).map (·.1))) S1 else .bad
      | _, _ => .bad)
    | none => .bad)
  | _ => .bad) := id rfl
end
/-! entries as plain data -/
structure Ent where
  k : Str
  n : Int
  a : Str
  v : D
def Ent.st (e : Ent) : D := .tup [.int e.n, .str e.a]
def Ent.d (e : Ent) : D := .tup [.str e.k, e.st, e.v]
def Ent.row (e : Ent) : Key × D := (.inr e.k, .tup [e.st, e.v])
structure WdS (s : Str) : Prop where
  w : ∀ S, F_is_word [.str s] S = .ok (.bl true) S
  ok : okD 0 (.str s) = true
inductive VlD : D → Prop
  | non : VlD .non
  | str (x : Str) (h : ∀ S, F_is_value [.str x] S = .ok (.bl true) S) (ok : okD 0 (.str x) = true) : VlD (.str x)
structure GoodE (e : Ent) : Prop where
  k : WdS e.k
  n : 1 ≤ e.n ∧ e.n ≤ 1000000000000000
  a : WdS e.a
  v : VlD e.v
structure GoodL (L : List Ent) : Prop where
  all : ∀ e ∈ L, GoodE e
  nd : (L.map Ent.k).Nodup
theorem ix_tup {ds : List D} {d : D} (i : Nat) (h : ds[i]? = some d) (S : Sto) : oIx (.tup ds) (.int i) S = .ok d S := by
  have hl : (i : Int) < ds.length := by have := (List.getElem?_eq_some_iff.mp h).1; omega
  simp [oIx, seqOf, atI, ixN, hl, h]
@[simp] theorem ix3_0 (a b c : D) (S : Sto) : oIx (.tup [a, b, c]) (.int 0) S = .ok a S := ix_tup 0 rfl S
@[simp] theorem ix3_1 (a b c : D) (S : Sto) : oIx (.tup [a, b, c]) (.int 1) S = .ok b S := ix_tup 1 rfl S
@[simp] theorem ix3_2 (a b c : D) (S : Sto) : oIx (.tup [a, b, c]) (.int 2) S = .ok c S := ix_tup 2 rfl S
@[simp] theorem ix2_0 (a b : D) (S : Sto) : oIx (.tup [a, b]) (.int 0) S = .ok a S := ix_tup 0 rfl S
@[simp] theorem ix2_1 (a b : D) (S : Sto) : oIx (.tup [a, b]) (.int 1) S = .ok b S := ix_tup 1 rfl S
theorem is_number_ok {n : Int} (h : 1 ≤ n ∧ n ≤ 1000000000000000) (S : Sto) : F_is_number [.int n] S = .ok (.bl true) S := by
  simp [F_is_number, e_fnD, B_is_number, oIsi, tyName, tyList, subT, h.1, h.2]
theorem is_stamp_ok {e : Ent} (g : GoodE e) (S : Sto) : F_is_stamp [e.st] S = .ok (.bl true) S := by
  simp [F_is_stamp, e_fnD, B_is_stamp, Ent.st, oIsi, tyName, tyList, subT, oLen, seqOf, is_number_ok g.n, g.a.w]
theorem is_entry_ok {e : Ent} (g : GoodE e) (S : Sto) : F_is_entry [e.d] S = .ok (.bl true) S := by
  have s := is_stamp_ok g S
  have w := g.k.w S
  obtain ⟨k, n, a, v⟩ := e
  simp only [F_is_entry, e_fnD, B_is_entry, Ent.d] at *
  cases g.v with
  | non => simp [oIsi, tyName, tyList, subT, oLen, seqOf, w, s, DE.isNon]
  | str x h ok => simp [oIsi, tyName, tyList, subT, oLen, seqOf, w, s, DE.isNon, h]
theorem blsOf_all (ds : List D) {f : D → D} (h : ∀ d ∈ ds, f d = .bl true) : ∃ bs, blsOf (ds.map f) = some bs ∧ bs.all id = true := by
  induction ds with
  | nil => exact ⟨[], rfl, rfl⟩
  | cons d ds ih =>
    obtain ⟨bs, e, e2⟩ := ih fun x hx => h x (List.mem_cons_of_mem _ hx)
    refine ⟨true :: bs, ?_, by simpa using e2⟩
    rw [List.map_cons, h d List.mem_cons_self]
    simp [blsOf, e]
theorem oAll_true (ds : List D) {f : D → D} (h : ∀ d ∈ ds, f d = .bl true) (S : Sto) : oAll [.lst (ds.map f)] S = .ok (.bl true) S := by
  obtain ⟨bs, e, e2⟩ := blsOf_all ds h
  simp only [oAll, e, e2]
theorem loopSC_keys {own : List Nat} {g : MG} {t : MT} {e : ME} {ρ : DE.Env} {S : Sto} {r : D → DE.Env} : ∀ (L : List Ent) (acc : List Key), (∀ x ∈ L, g x.d (wipeD ρ own) = some (r x.d) ∧ t (r x.d) S = .ok true S ∧ e (r x.d) S = .ok (.str x.k) S) →
    (L.map Ent.k).Nodup → (∀ x ∈ L, Sum.inr x.k ∉ acc) → LM.loopSC own g t e ρ (L.map Ent.d) acc S = .ok (.int ((acc.length : Nat) + (L.length : Nat) : Int)) S
  | [], acc, _, _, _ => by simp [LM.loopSC]
  | x :: L, acc, h, nd, ha => by
    obtain ⟨h1, h2, h3⟩ := h x List.mem_cons_self
    rw [List.map_cons, List.nodup_cons] at nd
    have hk : LM.hasK acc (.inr x.k) = false := by
      unfold LM.hasK
      rw [List.any_eq_false]
      intro z hz
      have := ha x List.mem_cons_self
      simp only [decide_eq_true_eq]
      rintro rfl
      exact this hz
    have ih := loopSC_keys L (acc ++ [.inr x.k]) (fun y hy => h y (List.mem_cons_of_mem _ hy)) nd.2 fun y hy hm => by
      rcases List.mem_append.mp hm with hm | hm
      · exact ha y (List.mem_cons_of_mem _ hy) hm
      · have e1 : y.k = x.k := by simpa using hm
        exact nd.1 (e1 ▸ List.mem_map_of_mem hy)
    rw [List.map_cons]
    unfold LM.loopSC
    rw [h1]
    simp only [h2, h3, LM.keyD, LM.addK, hk]
    rw [if_neg (by decide), ih]
    congr 2
    simp
    omega
theorem are_entries_ok {L : List Ent} (g : GoodL L) (hl : L.length ≤ 1000) {d : D} (hd : d = .lst (L.map Ent.d) ∨ d = .tup (L.map Ent.d)) (S : Sto) : F_are_entries [d] S = .ok (.bl true) S := by
  have hc : L.length ≤ cap := Nat.le_trans hl (by decide)
  have h4 : L.length ≤ 4000 := Nat.le_trans hl (by decide)
  have lc : loopC [1] (gN 1) mYes (dCall 1 F_is_entry [] (aCons (dVar 1) aNil)) [some d, none] (L.map Ent.d) S = .ok ((L.map Ent.d).map fun _ => .bl true) S := by
    refine loopC_map (r := fun x => [some d, some x]) fun x hx => ?_
    obtain ⟨e, he, rfl⟩ := List.mem_map.mp hx
    exact ⟨by simp [wipeD], by simp, by simp [is_entry_ok (g.all e he)]⟩
  have sc := loopSC_keys (own := [1]) (g := gN 1) (t := mYes) (e := dBin oIx (dVar 1) (dC (.int 0))) (ρ := [some d, none]) (S := S) (r := fun x => [some d, some x]) L [] (fun x _ => ⟨by simp [wipeD], by simp, by simp [Ent.d]⟩) g.nd (fun x _ h => by cases h)
  have oa := oAll_true (L.map Ent.d) (f := fun _ => .bl true) (fun _ _ => rfl) S
  rcases hd with rfl | rfl
  · simp [F_are_entries, e_fnD, B_are_entries, oIsi, tyName, tyNamesOf, tyList, subT, itemsOf, hc, lc, h4, sc, oLen, seqOf]
    simp at oa
    simp [oa, itemsOf, h4, sc, oLen, seqOf]
  · simp [F_are_entries, e_fnD, B_are_entries, oIsi, tyName, tyNamesOf, tyList, subT, itemsOf, hc, lc, h4, sc, oLen, seqOf]
    simp at oa
    simp [oa, itemsOf, h4, sc, oLen, seqOf]
end G

set_option maxHeartbeats 4000000
namespace G
open PySem L2 DE
def tabD : D := .tab "Content" (some "__init__") "Content.__init__.<locals>.<lambda>"
def keyLe (a b : Ent) : Bool := decide (a.k.cps.toList ≤ b.k.cps.toList)
def sortK (L : List Ent) : List Ent := L.mergeSort keyLe
def conD (L : List Ent) : D := .obj "Content" [("rows", .dK (L.map Ent.row))]
inductive Lists (S : Sto) (ds : List D) : D → Prop
  | lst : Lists S ds (.lst ds)
  | tup : Lists S ds (.tup ds)
  | own (k : Nat) (h : S[k]? = some (.lst ds)) : Lists S ds (.own k)
theorem sortK_perm (L : List Ent) : (sortK L).Perm L := List.mergeSort_perm L keyLe
theorem GoodL.perm {L M : List Ent} (g : GoodL L) (p : M.Perm L) : GoodL M := ⟨fun e he => g.all e (p.mem_iff.mp he), (p.map Ent.k).nodup_iff.mpr g.nd⟩
theorem sortK_good {L : List Ent} (g : GoodL L) : GoodL (sortK L) := g.perm (sortK_perm L)
theorem keyed_ok : ∀ L : List Ent, LM.keyed (L.map Ent.d) = some (L.map fun e => (e.d, e.k))
  | [] => rfl
  | e :: L => by
    rw [List.map_cons]
    unfold Ent.d LM.keyed
    have := keyed_ok L
    unfold Ent.d at this
    rw [this]
    rfl
theorem sort_ok (L : List Ent) : ((L.map fun e => (e.d, e.k)).mergeSort LM.keyLeD).map (·.1) = (sortK L).map Ent.d := by
  have z := PySem.W.sort_maps (r := keyLe) (s := LM.keyLeD) (fun e : Ent => (e.d, e.k)) (l := L) (fun _ _ _ _ => rfl)
  rw [← z, List.map_map]
  rfl
theorem loopDC_rows {own : List Nat} {g : MG} {t : MT} {ek ev : ME} {ρ : DE.Env} {S : Sto} {r : Ent → DE.Env} : ∀ (L : List Ent) (acc : List (Key × D)), (∀ x ∈ L, g x.d (wipeD ρ own) = some (r x) ∧ t (r x) S = .ok true S ∧ ek (r x) S = .ok (.str x.k) S ∧ ev (r x) S = .ok x.row.2 S) →
    (L.map Ent.k).Nodup → (∀ x ∈ L, ∀ q ∈ acc, q.1 ≠ Sum.inr x.k) → LM.loopDC own g t ek ev ρ (L.map Ent.d) acc S = .ok (.dK (acc ++ L.map Ent.row)) S
  | [], acc, _, _, _ => by simp [LM.loopDC]
  | x :: L, acc, h, nd, ha => by
    obtain ⟨h1, h2, h3, h4⟩ := h x List.mem_cons_self
    rw [List.map_cons, List.nodup_cons] at nd
    have hk : (acc.any fun kv => decide (kv.1 = (Sum.inr x.k : Key))) = false := by
      rw [List.any_eq_false]
      intro z hz
      simpa using ha x List.mem_cons_self z hz
    have ih := loopDC_rows L (acc ++ [x.row]) (fun y hy => h y (List.mem_cons_of_mem _ hy)) nd.2 fun y hy q hm => by
      rcases List.mem_append.mp hm with hm | hm
      · exact ha y (List.mem_cons_of_mem _ hy) q hm
      · rw [List.mem_singleton.mp hm]
        intro e
        have e1 : x.k = y.k := by simpa [Ent.row] using e
        exact nd.1 (e1 ▸ List.mem_map_of_mem hy)
    rw [List.map_cons]
    unfold LM.loopDC
    rw [h1]
    simp only [h2, h3, h4, LM.keyD, LM.putKD, hk]
    rw [if_neg (by decide)]
    have e : acc ++ [(Sum.inr x.k, x.row.2)] = acc ++ [x.row] := rfl
    rw [e, ih]
    simp
theorem dat_v {v : D} (h : VlD v) : LM.datD v = true := by cases h <;> rfl
theorem dat_ents {L : List Ent} (h : ∀ e ∈ L, VlD e.v) : LM.datDs (L.map Ent.d) = true := by
  induction L with
  | nil => rfl
  | cons e L ih =>
    have hv := h e List.mem_cons_self
    have i2 := ih fun x hx => h x (List.mem_cons_of_mem _ hx)
    rw [List.map_cons]
    simp only [LM.datDs, Ent.d, Ent.st, LM.datD, Bool.true_and, Bool.and_true] at i2 ⊢
    rw [i2, dat_v hv] <;> rfl
theorem init_fn {L : List Ent} (g : GoodL L) (hl : L.length ≤ 1000) {d : D} {S : Sto} (hd : Lists S (L.map Ent.d) d) (h0 : S[0]? = some tabD) :
    F_Content___init__ [.own S.length, d] (S ++ [D.obj "Content" []]) = .ok .non (S ++ [conD (sortK L)]) := by
  have dt := dat_ents fun e he => (g.all e he).v
  have hc : L.length ≤ cap := Nat.le_trans hl (by decide)
  have h01 : (S ++ [D.obj "Content" []])[0]? = some tabD := by
    rw [List.getElem?_append_left (List.getElem?_eq_some_iff.mp h0).1]
    exact h0
  have fz : ∃ d', LM.frzD (S ++ [D.obj "Content" []]) (some d) = some d' ∧ (d' = .lst (L.map Ent.d) ∨ d' = .tup (L.map Ent.d)) := by
    cases hd with
    | lst => exact ⟨_, by simp [LM.frzD, LM.datD, dt], .inl rfl⟩
    | tup => exact ⟨_, by simp [LM.frzD, LM.datD, dt], .inr rfl⟩
    | own k h =>
      have h' : (S ++ [D.obj "Content" []])[k]? = some (.lst (L.map Ent.d)) := by
        rw [List.getElem?_append_left (List.getElem?_eq_some_iff.mp h).1]
        exact h
      exact ⟨_, by simp [LM.frzD, h', dt], .inl rfl⟩
  obtain ⟨d', fz, hd'⟩ := fz
  have ae := are_entries_ok g hl hd' []
  have sq : seqOf (S ++ [D.obj "Content" []]) d = some (L.map Ent.d) := by
    cases hd with
    | lst => rfl
    | tup => rfl
    | own k h =>
      have h' : (S ++ [D.obj "Content" []])[k]? = some (.lst (L.map Ent.d)) := by
        rw [List.getElem?_append_left (List.getElem?_eq_some_iff.mp h).1]
        exact h
      simp only [seqOf, h']
  have fo : LM.frzD (S ++ [D.obj "Content" []]) (some (.own S.length)) = none := by
    simp only [LM.frzD, DE.getElem?_snoc]
  have gs := sortK_good g
  have lc := loopDC_rows (own := [2, 3, 4]) (g := gTL 3 (gsCons (gN 2) (gsCons (gN 3) (gsCons (gN 4) gsNil)))) (t := mYes) (ek := dVar 2) (ev := dTup (aCons (dVar 3) (aCons (dVar 4) aNil))) (ρ := [some (D.own S.length), some d, none, none, none]) (S := S ++ [D.obj "Content" []])
    (r := fun x => [some (D.own S.length), some d, some (.str x.k), some x.st, some x.v]) (sortK L) [] (fun x hx => ⟨by simp [Ent.d, wipeD], by simp, by simp, by simp [Ent.row]⟩) gs.nd (fun x hx q hq => by cases hq)
  have hc2 : (sortK L).length ≤ cap := by rw [(sortK_perm L).length_eq]; exact hc
  have sk : LM.dSk 0 "Content" "__init__" "Content.__init__.<locals>.<lambda>" (aCons (dVar 1) aNil) [some (D.own S.length), some d, none, none, none] (S ++ [D.obj "Content" []]) = .ok (.lst ((sortK L).map Ent.d)) (S ++ [D.obj "Content" []]) := by
    rw [e_dSk]
    simp only [e_aCons, e_aNil, e_dVar, List.getElem?_cons_succ, List.getElem?_cons_zero, RE.bind_ok, sq, keyed_ok, h01, tabD, and_self, if_true, sort_ok]
  simp [F_Content___init__, e_fnD, B_Content___init__, fz, fo, ae, LM.flatD]
  rw [sk]
  simp only [itemsOf, List.length_map, hc2, if_true, RE.bind_ok, lc]
  simp [conD, putD]
theorem init_ok {L : List Ent} (g : GoodL L) (hl : L.length ≤ 1000) {d : D} {S : Sto} (hd : Lists S (L.map Ent.d) d) (h0 : S[0]? = some tabD) :
    makeF "Content" (bindF 2 2 (fun ds _ => ds) F_Content___init__) [d] S = .ok (.own S.length) (S ++ [conD (sortK L)]) := by
  have fin := init_fn g hl hd h0
  unfold makeF bindF
  simp [fin]
theorem init0_ok {S : Sto} (h0 : S[0]? = some tabD) : makeF "Content" (bindF 1 2 (fun ds _ => ds ++ [.tup []]) F_Content___init__) [] S = .ok (.own S.length) (S ++ [conD []]) := by
  have fin := init_fn (L := []) ⟨(fun e he => by cases he), List.nodup_nil⟩ (by decide) (d := .tup []) (S := S) .tup h0
  have e : sortK [] = [] := by simp [sortK]
  rw [e] at fin
  unfold makeF bindF
  simp [fin]
end G

set_option maxHeartbeats 4000000
/-! contents as functions of the key -/
namespace G
open PySem L2 DE
abbrev Srt (L : List Ent) : Prop := Asc (L.map Ent.k)
def look (L : List Ent) (k : Str) : Option Ent := L.find? fun e => decide (e.k = k)
theorem asc_nodup {l : List Str} (h : Asc l) : l.Nodup := List.Pairwise.imp (fun {a b} z e => by subst e; rw [strLt_irr] at z; cases z) h
theorem look_key {L : List Ent} {k : Str} {e : Ent} (h : look L k = some e) : e ∈ L ∧ e.k = k := ⟨List.mem_of_find?_eq_some h, by simpa using List.find?_some h⟩
theorem look_none {L : List Ent} {k : Str} : look L k = none ↔ ∀ e ∈ L, e.k ≠ k := by simp [look]
theorem look_none' {L : List Ent} {k : Str} : look L k = none ↔ k ∉ L.map Ent.k := by
  rw [look_none]
  simp
theorem look_cons (x : Ent) (L : List Ent) (k : Str) : look (x :: L) k = if x.k = k then some x else look L k := by
  unfold look
  by_cases h : x.k = k <;> simp [h]
theorem look_mem {L : List Ent} (nd : (L.map Ent.k).Nodup) {e : Ent} (h : e ∈ L) : look L e.k = some e := by
  induction L with
  | nil => cases h
  | cons x L ih =>
    rw [List.map_cons, List.nodup_cons] at nd
    rw [look_cons]
    rcases List.mem_cons.mp h with rfl | h
    · rw [if_pos rfl]
    · rw [if_neg (fun z : x.k = e.k => nd.1 (by rw [z]; exact List.mem_map_of_mem h)), ih nd.2 h]
theorem look_perm {L M : List Ent} (nd : (L.map Ent.k).Nodup) (p : M.Perm L) (k : Str) : look M k = look L k := by
  have nd2 : (M.map Ent.k).Nodup := (p.map Ent.k).nodup_iff.mpr nd
  cases q : look M k with
  | none =>
    symm
    rw [look_none] at q ⊢
    exact fun e he => q e (p.mem_iff.mpr he)
  | some e =>
    obtain ⟨h1, rfl⟩ := look_key q
    exact (look_mem nd (p.mem_iff.mp h1)).symm
theorem look_filter {L : List Ent} (nd : (L.map Ent.k).Nodup) (p : Ent → Bool) (k : Str) : look (L.filter p) k = (look L k).filter p := by
  induction L with
  | nil => rfl
  | cons x L ih =>
    rw [List.map_cons, List.nodup_cons] at nd
    rw [List.filter_cons, look_cons]
    have ih := ih nd.2
    by_cases hk : x.k = k
    · subst hk
      have n0 : look L x.k = none := look_none'.mpr nd.1
      rw [n0] at ih
      cases hp : p x with
      | true => simp [look_cons, Option.filter, hp]
      | false => simp [hp, ih, Option.filter]
    · cases hp : p x with
      | true => simp [look_cons, hk, ih]
      | false => simp [hk, ih]
theorem look_append {L M : List Ent} (k : Str) : look (L ++ M) k = (look L k).or (look M k) := by
  unfold look
  rw [List.find?_append]
theorem nodup_filter {L : List Ent} (nd : (L.map Ent.k).Nodup) (p : Ent → Bool) : ((L.filter p).map Ent.k).Nodup := nd.sublist ((List.filter_sublist (l := L) (p := p)).map Ent.k)
theorem asc_filter {L : List Ent} (a : Srt L) (p : Ent → Bool) : Srt (L.filter p) := List.Pairwise.sublist ((List.filter_sublist (l := L) (p := p)).map Ent.k) a
/-- two rising lists with the same f at each key -/
theorem ext_by {α : Type} (f : Ent → α) : ∀ {X Y : List Ent}, Srt X → Srt Y → (∀ k, (look X k).map f = (look Y k).map f) → X.map (fun e => (e.k, f e)) = Y.map fun e => (e.k, f e) := by
  intro X Y a b h
  have keys : X.map Ent.k = Y.map Ent.k := asc_ext a b fun k => by
    have hk := h k
    constructor
    · intro z
      refine Classical.byContradiction fun n => ?_
      rw [look_none'.mpr n] at hk
      cases q : look X k with
      | none => exact look_none'.mp q z
      | some e => rw [q] at hk; cases hk
    · intro z
      refine Classical.byContradiction fun n => ?_
      rw [look_none'.mpr n] at hk
      cases q : look Y k with
      | none => exact look_none'.mp q z
      | some e => rw [q] at hk; cases hk
  have nx := asc_nodup a
  have ny := asc_nodup b
  clear a b
  induction X generalizing Y with
  | nil =>
    cases Y with
    | nil => rfl
    | cons y Y => simp at keys
  | cons x X ih =>
    cases Y with
    | nil => simp at keys
    | cons y Y =>
      rw [List.map_cons, List.map_cons, List.cons.injEq] at keys
      rw [List.map_cons, List.nodup_cons] at nx ny
      have hx := h x.k
      rw [look_cons, look_cons, if_pos rfl, if_pos keys.1.symm] at hx
      have hf : f x = f y := by simpa using hx
      rw [List.map_cons, List.map_cons, keys.1, hf]
      congr 1
      refine ih (fun k => ?_) keys.2 nx.2 ny.2
      have hk := h k
      by_cases e : x.k = k
      · subst e
        rw [look_none'.mpr nx.1, look_none'.mpr (by rw [keys.1]; exact ny.1)]
      · rw [look_cons, look_cons, if_neg e, if_neg (by rw [← keys.1]; exact e)] at hk
        exact hk
theorem ext_look {X Y : List Ent} (a : Srt X) (b : Srt Y) (h : ∀ k, look X k = look Y k) : X = Y := by
  have z := ext_by id a b fun k => by rw [h k]
  have y := congrArg (fun l => l.map (·.2)) z
  simp only [List.map_map] at y
  have i : ∀ Z : List Ent, Z.map ((fun x : Str × Ent => x.2) ∘ fun e => (e.k, id e)) = Z := fun Z => by
    have : ((fun x : Str × Ent => x.2) ∘ fun e : Ent => (e.k, id e)) = id := rfl
    rw [this, List.map_id]
  rwa [i, i] at y
theorem sortK_asc {L : List Ent} (nd : (L.map Ent.k).Nodup) : Srt (sortK L) := by
  have p := sortK_perm L
  have n2 : ((sortK L).map Ent.k).Nodup := (p.map Ent.k).nodup_iff.mpr nd
  have s : (sortK L).Pairwise fun a b => keyLe a b = true := List.pairwise_mergeSort (le := keyLe) (fun a b c h1 h2 => by
    unfold keyLe at *
    simp only [decide_eq_true_eq] at *
    exact List.le_trans h1 h2) (fun a b => by
    unfold keyLe
    simp only [Bool.or_eq_true, decide_eq_true_eq]
    exact List.le_total _ _) L
  revert s n2
  generalize sortK L = M
  intro n2 s
  refine List.pairwise_map.mpr ((s.and (List.pairwise_map.mp n2)).imp fun {a b} z => ?_)
  obtain ⟨z1, z2⟩ := z
  cases q : strLt a.k b.k with
  | true => rfl
  | false =>
    refine absurd ?_ z2
    unfold strLt at q
    unfold keyLe at z1
    simp only [decide_eq_false_iff_not, decide_eq_true_eq] at q z1
    exact PySem.W.str_of_cps (List.le_antisymm z1 (List.not_lt.mp q))
theorem look_sortK {L : List Ent} (nd : (L.map Ent.k).Nodup) (k : Str) : look (sortK L) k = look L k := look_perm nd (sortK_perm L) k
theorem sortK_of {L M : List Ent} (nd : (L.map Ent.k).Nodup) (a : Srt M) (h : ∀ k, look M k = look L k) : sortK L = M := ext_look (sortK_asc nd) a fun k => by rw [look_sortK nd, h k]
end G

set_option maxHeartbeats 4000000
/-! contents, their methods (turned from k04) -/
namespace G
open PySem L2 DE
abbrev Stp : Type := Int × Str
def dSt (s : Stp) : D := .tup [.int s.1, .str s.2]
def pySt (s : Stp) : PyData := .tuple [.int s.1, .str s.2]
def sOf (e : Ent) : Stp := (e.n, e.a)
@[simp] theorem st_d (e : Ent) : e.st = dSt (sOf e) := id rfl
theorem toPy_st (s : Stp) : toPy (dSt s) = some (pySt s) := rfl
theorem alike_st (s t : Stp) : PySem.W.alike (pySt s) (pySt t) = true := by simp [pySt, PySem.W.alike, PySem.W.alikeAll]
structure Con (S : Sto) (d : D) (L : List Ent) (n : Nat) : Prop where
  at_ : ∃ k, d = .own k ∧ S[k]? = some (conD L)
  good : GoodL L
  asc : Srt L
  len : L.length ≤ n
theorem Con.app {S : Sto} {d : D} {L : List Ent} {n : Nat} (c : Con S d L n) (T : Sto) : Con (S ++ T) d L n := by
  obtain ⟨k, rfl, h⟩ := c.at_
  exact ⟨⟨k, rfl, by rw [List.getElem?_append_left (List.getElem?_eq_some_iff.mp h).1]; exact h⟩, c.good, c.asc, c.len⟩
theorem Con.obj {S : Sto} {d : D} {L : List Ent} {n : Nat} (c : Con S d L n) : objAt S d = some ((Str.ofString "Content", [(Str.ofString "rows", D.dK (L.map Ent.row))]) : Str × List (Str × D)) := by
  obtain ⟨k, rfl, h⟩ := c.at_
  simp only [objAt, h, conD]
theorem Con.nd {S : Sto} {d : D} {L : List Ent} {n : Nat} (c : Con S d L n) : (L.map Ent.k).Nodup := asc_nodup c.asc
@[simp] theorem lkC (F : FD) : List.lookup (Str.ofString "Content") [(Str.ofString "Content", F)] = some F := by simp [List.lookup_cons]
@[simp] theorem lkR (x : D) : List.lookup (Str.ofString "rows") [(Str.ofString "rows", x)] = some x := by simp [List.lookup_cons]
theorem lk_none (m : Str) (x : D) (h : (m == Str.ofString "rows") = false := by decide +kernel) : List.lookup m [(Str.ofString "rows", x)] = none := by simp only [List.lookup_cons, h, List.lookup_nil]
@[simp] theorem lk_e (x : D) : List.lookup (Str.ofString "entries") [(Str.ofString "rows", x)] = none := lk_none _ x
@[simp] theorem lk_s (x : D) : List.lookup (Str.ofString "shows") [(Str.ofString "rows", x)] = none := lk_none _ x
@[simp] theorem lk_w (x : D) : List.lookup (Str.ofString "key_list") [(Str.ofString "rows", x)] = none := lk_none _ x
/-! loops over entries -/
theorem loopC_ents {own : List Nat} {g : MG} {t : MT} {e : ME} {ρ : DE.Env} {S : Sto} {r : Ent → DE.Env} {p : Ent → Bool} {v : Ent → D} (f : Ent → D) : ∀ {L : List Ent}, (∀ x ∈ L, g (f x) (wipeD ρ own) = some (r x) ∧ t (r x) S = .ok (p x) S ∧ (p x = true → e (r x) S = .ok (v x) S)) →
    loopC own g t e ρ (L.map f) S = .ok ((L.filter p).map v) S
  | [], _ => rfl
  | x :: L, h => by
    obtain ⟨h1, h2, h3⟩ := h x List.mem_cons_self
    have ih := loopC_ents f (L := L) fun y hy => h y (List.mem_cons_of_mem _ hy)
    rw [List.map_cons]
    unfold loopC
    rw [h1]
    simp only [h2]
    cases q : p x with
    | true => simp only [h3 q, ih, RE.bind_ok, List.filter_cons, q, if_true, List.map_cons]
    | false => simp only [ih, List.filter_cons, q]; rfl
theorem loopC_entsM {own : List Nat} {g : MG} {t : MT} {e : ME} {ρ : DE.Env} {S : Sto} {r : Ent → DE.Env} {v : Ent → D} (f : Ent → D) {L : List Ent} (h : ∀ x ∈ L, g (f x) (wipeD ρ own) = some (r x) ∧ t (r x) S = .ok true S ∧ e (r x) S = .ok (v x) S) :
    loopC own g t e ρ (L.map f) S = .ok (L.map v) S := by
  have := loopC_ents (p := fun _ => true) (v := v) f fun d hd => let ⟨a, b, c⟩ := h d hd; ⟨a, b, fun _ => c⟩
  rw [this, List.filter_eq_self.mpr (fun _ _ => rfl)]
theorem blsOf_ents (f : Ent → Bool) : ∀ L : List Ent, blsOf (L.map fun x => D.bl (f x)) = some (L.map f)
  | [] => rfl
  | x :: L => by simp [blsOf, blsOf_ents f L]
theorem oAll_ents (f : Ent → Bool) (L : List Ent) (S : Sto) : oAll [.lst (L.map fun x => D.bl (f x))] S = .ok (.bl (L.all f)) S := by
  simp only [oAll, blsOf_ents]
  rw [List.all_map]
  rfl
theorem find_row (L : List Ent) (k : Str) : LM.findD (L.map Ent.row) (.inr k) = (look L k).map fun e => .tup [e.st, e.v] := by
  induction L with
  | nil => rfl
  | cons x L ih =>
    rw [look_cons]
    unfold LM.findD at ih ⊢
    rw [List.map_cons, List.find?_cons]
    by_cases h : x.k = k
    · subst h
      simp [Ent.row]
    · have : ¬ (x.row.1 = (Sum.inr k : Key)) := fun z => h (by simpa [Ent.row] using z)
      simp only [this, decide_false, if_neg h]
      exact ih
theorem dictAt_dK (S : Sto) (kd : List (Key × D)) : LM.dictAt S (.dK kd) = some kd := rfl
/-- key in rows -/
theorem inRows (L : List Ent) (k : Str) (S : Sto) : LM.oInKey false (.str k) (.dK (L.map Ent.row)) S = .ok (.bl (look L k).isSome) S := by
  simp only [LM.oInKey, dictAt_dK, LM.keyD, find_row]
  cases look L k <;> rfl
section
variable {S : Sto} {d e : D} {L M : List Ent} {n m : Nat}
theorem entries_ok (c : Con S d L n) (hn : n ≤ 1000) : F_Content_entries [d] S = .ok (.tup (L.map Ent.d)) S := by
  have ob := c.obj
  have hc : L.length ≤ cap := Nat.le_trans c.len (Nat.le_trans hn (by decide))
  have lc := loopC_entsM (own := [1, 2, 3]) (g := gTL 2 (gsCons (gN 1) (gsCons (gTL 2 (gsCons (gN 2) (gsCons (gN 3) gsNil))) gsNil))) (t := mYes) (e := dTup (aCons (dVar 1) (aCons (dVar 2) (aCons (dVar 3) aNil)))) (ρ := [some d, none, none, none]) (S := S)
    (r := fun x => [some d, some (.str x.k), some x.st, some x.v]) (v := Ent.d) (fun x => LM.itemD x.row) (L := L) fun x hx => ⟨by simp [wipeD, LM.itemD, Ent.row, LM.keyToD], by simp, by simp [Ent.d]⟩
  have ev : LM.dLI 0 "rows" ["Content"] [1, 2, 3] (gTL 2 (gsCons (gN 1) (gsCons (gTL 2 (gsCons (gN 2) (gsCons (gN 3) gsNil))) gsNil))) mYes (dTup (aCons (dVar 1) (aCons (dVar 2) (aCons (dVar 3) aNil)))) [some d, none, none, none] S = .ok (.lst (L.map Ent.d)) S := by
    simp only [LM.dLI, List.getElem?_cons_zero, ob, List.mem_singleton, if_true, lkR, List.length_map, hc, List.map_map]
    have e2 : LM.itemD ∘ Ent.row = fun x => LM.itemD x.row := rfl
    rw [e2, lc]
    rfl
  simp [F_Content_entries, e_fnD, B_Content_entries]
  rw [ev]
  simp [oTuple, listAt]
end
mutual
theorem eqv_nd : ∀ p : PyData, p.hasDict = false → PyData.eqv p p = true
  | .none, _ => rfl
  | .bool _, _ => by simp [PyData.eqv]
  | .int _, _ => by simp [PyData.eqv]
  | .str _, _ => by simp [PyData.eqv]
  | .list xs, h => by
    rw [PyData.eqv]
    exact eqvs_nd xs (by simpa [PyData.hasDict] using h)
  | .tuple xs, h => by
    rw [PyData.eqv]
    exact eqvs_nd xs (by simpa [PyData.hasDict] using h)
  | .dict _, h => by simp [PyData.hasDict] at h
theorem eqvs_nd : ∀ ps : List PyData, PyData.hasDictAll ps = false → PyData.eqvAll ps ps = true
  | [], _ => rfl
  | p :: ps, h => by
    simp only [PyData.hasDictAll, Bool.or_eq_false_iff] at h
    rw [PySem.W.eqv_all_cons, eqv_nd p h.1, eqvs_nd ps h.2] <;> rfl
end
theorem eqD_self {n : Nat} {d : D} (h : okD n d = true) (hn : n ≤ 64) : eqD d d = some true := by
  obtain ⟨p, e, s⟩ := okD_shaped h hn
  unfold eqD
  simp only [e, s, and_self, if_true, eqv_nd p (toPy_nd e)]
theorem ne_self {n : Nat} {d : D} (h : okD n d = true) (hn : n ≤ 64) (S : Sto) : oNe d d S = .ok (.bl false) S := by
  unfold oNe
  rw [eqD_self h hn] <;> rfl
theorem eq_self {n : Nat} {d : D} (h : okD n d = true) (hn : n ≤ 64) (S : Sto) : oEq d d S = .ok (.bl true) S := by
  unfold oEq
  rw [eqD_self h hn] <;> rfl
theorem ok_st {e : Ent} (g : GoodE e) : okD 1 e.st = true := by
  have h1 : okD 0 (.int e.n) = true := rfl
  rw [st_d]
  unfold dSt okD
  simp only [sOf, List.all_cons, List.all_nil, h1, g.a.ok]
  rfl
theorem ok_vl {v : D} (h : VlD v) : okD 1 v = true := by
  cases h with
  | non => rfl
  | str x h ok => exact okD_mono ok (by omega)
theorem ok_v {e : Ent} (g : GoodE e) : okD 1 e.v = true := ok_vl g.v
theorem ok_row {e : Ent} (g : GoodE e) : okD 2 (.tup [e.st, e.v]) = true := by
  have h1 := ok_st g
  have h2 := ok_v g
  unfold okD
  simp only [List.all_cons, List.all_nil, h1, h2]
  rfl
theorem ok_d {e : Ent} (g : GoodE e) : okD 2 e.d = true := by
  have h1 := ok_st g
  have h2 := ok_v g
  have h3 := okD_mono g.k.ok (show 0 ≤ 1 by omega)
  unfold Ent.d okD
  simp only [List.all_cons, List.all_nil, h1, h2, h3]
  rfl
theorem ok_tup {L : List Ent} (g : GoodL L) (hl : L.length ≤ 1000) : okD 3 (.tup (L.map Ent.d)) = true := by
  unfold okD
  simp only [List.length_map, hl, decide_true, Bool.true_and, List.all_eq_true]
  intro x hx
  obtain ⟨e, he, rfl⟩ := List.mem_map.mp hx
  exact ok_d (g.all e he)
theorem hits_self : ∀ (P L : List Ent), ((P ++ L).map Ent.k).Nodup → (∀ e ∈ L, GoodE e) → LM.hitsD ((P ++ L).map Ent.row) (L.map Ent.row) = some true
  | P, [], _, _ => rfl
  | P, x :: L, nd, g => by
    have ih := hits_self (P ++ [x]) L (by simpa using nd) fun e he => g e (List.mem_cons_of_mem _ he)
    rw [List.append_assoc, List.singleton_append] at ih
    have f : ((P ++ x :: L).map Ent.row).find? (fun p => decide (p.1 = x.row.1)) = some x.row := by
      have lk := look_mem nd (e := x) (by simp)
      unfold look at lk
      rw [List.find?_map]
      have e2 : ((fun p : Key × D => decide (p.1 = x.row.1)) ∘ Ent.row) = fun e : Ent => decide (e.k = x.k) := by
        funext e
        simp [Ent.row]
      rw [e2, lk]
      rfl
    rw [List.map_cons]
    show LM.hitsD _ ((x.row.1, x.row.2) :: _) = _
    unfold LM.hitsD
    rw [f]
    simp only [ih]
    have q : eqD x.row.2 x.row.2 = some true := eqD_self (ok_row (g x List.mem_cons_self)) (by decide)
    rw [q]
    rfl
section
variable {S : Sto} {d e : D} {L M : List Ent} {n m : Nat}
theorem obj_ty (c : Con S d L n) : tyName d = none := by
  obtain ⟨k, rfl, _⟩ := c.at_
  rfl
theorem iso_ok (c : Con S d L n) : LM.oIsO "Content" [("Content", true)] [d, .glo "Content"] S = .ok (.bl true) S := by
  have ob := c.obj
  simp [LM.oIsO, ob, List.lookup_cons]
theorem eq_ok (c : Con S d L n) (c2 : Con S e L m) : F_Content___eq__ [d, e] S = .ok (.bl true) S := by
  have ob := c.obj
  have ob2 := c2.obj
  have i2 := iso_ok c2
  have h := hits_self [] L c.nd c.good.all
  rw [List.nil_append] at h
  simp [F_Content___eq__, e_fnD, B_Content___eq__, i2, ob, ob2, LM.oDictC, h]
theorem neO_ok (c : Con S d L n) (c2 : Con S e L m) : LM.oEqO true [("Content", F_Content___eq__)] d e S = .ok (.bl false) S := by
  have ob := c.obj
  have ob2 := c2.obj
  simp [LM.oEqO, ob, ob2, eq_ok c c2]
end
theorem sok {s : Str} (h : okD 0 (.str s) = true) : PyData.strOk s = true := by
  simp only [okD, Bool.and_eq_true] at h
  exact okS_strOk h.2
theorem eqD_st {s t : Stp} (hs : PyData.strOk s.2 = true) (ht : PyData.strOk t.2 = true) : eqD (dSt s) (dSt t) = some (decide (s = t)) := by
  have h1 : ∀ u : Stp, PyData.strOk u.2 = true → SeqAt.shaped (pySt u) = true := fun u h => by
    simp [SeqAt.shaped, pySt, PyData.canLay0, PyData.canLayAll0, PyData.depth, PyData.depthAll, h]
  unfold eqD
  simp only [toPy_st, h1 s hs, h1 t ht, and_self, if_true]
  obtain ⟨n, a⟩ := s
  obtain ⟨m, b⟩ := t
  simp only [pySt, PyData.eqv, PyData.eqvAll, Bool.and_true]
  congr 1
  by_cases h1 : n = m <;> by_cases h2 : a = b <;> simp [h1, h2]
theorem eq_st {e f : Ent} (g : GoodE e) (h : GoodE f) (S : Sto) : oEq (dSt (sOf e)) (dSt (sOf f)) S = .ok (.bl (decide (sOf e = sOf f))) S := by
  unfold oEq
  rw [eqD_st (sok g.a.ok) (sok h.a.ok)] <;> rfl
def pyV (v : D) : PyData := (toPy v).getD .none
def pyE (e : Ent) : PyData := .tuple [.str e.k, pySt (sOf e), pyV e.v]
theorem toPy_v {v : D} (h : VlD v) : toPy v = some (pyV v) := by cases h <;> rfl
theorem toPy_d {e : Ent} (g : GoodE e) : toPy e.d = some (pyE e) := by
  have h := toPy_v g.v
  have h2 := toPy_st (sOf e)
  simp only [Ent.d, st_d, toPy, toPys, h, h2, Option.map_some, pyE]
theorem toPys_ents {L : List Ent} (g : ∀ e ∈ L, GoodE e) : toPys (L.map Ent.d) = some (L.map pyE) := by
  induction L with
  | nil => rfl
  | cons x L ih =>
    have i := ih fun e he => g e (List.mem_cons_of_mem _ he)
    simp only [List.map_cons, toPys, toPy_d (g x List.mem_cons_self), i]
theorem alike_v {v : D} (h : VlD v) : PySem.W.alike (pyV v) (pyV v) = true := by cases h <;> simp [pyV, toPy, PySem.W.alike]
theorem depth_e (e : Ent) (h : VlD e.v) : (pyE e).depth ≤ 60 := by
  obtain ⟨k, n, a, v⟩ := e
  have hv : (pyV v).depth = 0 := by
    cases h <;> simp [pyV, toPy, PyData.depth]
  simp [pyE, pySt, PyData.depth, PyData.depthAll, hv]
theorem ent_eq {L : List Ent} (nd : (L.map Ent.k).Nodup) {x y : Ent} (hx : x ∈ L) (hy : y ∈ L) (h : x.k = y.k) : x = y := by
  have a := look_mem nd hx
  have b := look_mem nd hy
  rw [h, b] at a
  exact (Option.some.inj a).symm
theorem alikeH_e {L : List Ent} (g : GoodL L) {x y : Ent} (hx : x ∈ L) (hy : y ∈ L) : LM.alikeH (pyE x) (pyE y) = true := by
  by_cases h : x.k = y.k
  · have e := ent_eq g.nd hx hy h
    subst e
    have a1 := alike_v (g.all x hx).v
    have a2 := alike_st (sOf x) (sOf x)
    simp [LM.alikeH, pyE, PySem.W.alike, PySem.W.alikeAll, a1, a2]
  · have : PyData.eqv (.str x.k) (.str y.k) = false := by simp [PyData.eqv, h]
    simp [LM.alikeH, pyE, PySem.W.alike, this]
theorem sorted_ok {L : List Ent} (g : GoodL L) (S : Sto) : LM.oSortedH [.lst (L.map Ent.d)] S = .ok (.lst ((sortK L).map Ent.d)) S := by
  have ok : LM.sortOkH (L.map pyE) = true := by
    unfold LM.sortOkH
    simp only [Bool.and_eq_true, List.all_eq_true, decide_eq_true_eq]
    refine ⟨fun p hp q hq => ?_, fun p hp => ?_⟩
    · obtain ⟨x, hx, rfl⟩ := List.mem_map.mp hp
      obtain ⟨y, hy, rfl⟩ := List.mem_map.mp hq
      exact alikeH_e g hx hy
    · obtain ⟨x, hx, rfl⟩ := List.mem_map.mp hp
      exact depth_e x (g.all x hx).v
  have z : (L.map Ent.d).zip (L.map pyE) = L.map fun e => (e.d, pyE e) := List.zip_map'
  have s1 := PySem.W.sort_maps (r := PySem.W.dataLe false pyE) (s := PySem.W.dataLe false (Prod.snd : D × PyData → PyData)) (fun e : Ent => (e.d, pyE e)) (l := L) fun _ _ _ _ => rfl
  have s2 : L.mergeSort (PySem.W.dataLe false pyE) = sortK L := by
    unfold sortK
    refine PySem.W.sort_congr fun x hx y hy => ?_
    have e1 : PySem.W.dataLe false pyE x y = !PySem.W.dataLt (pyE y) (pyE x) := rfl
    rw [e1]
    by_cases h : x.k = y.k
    · have e := ent_eq g.nd hx hy h
      subst e
      have i : PySem.W.dataLt (pyE x) (pyE x) = false := by
        unfold PySem.W.dataLt
        exact PyProof.Rows.lex_irrefl _
      rw [i]
      unfold keyLe
      symm
      simpa using List.le_refl _
    · have ne : PyData.eqv (.str y.k) (.str x.k) = false := by
        have : ¬ y.k = x.k := fun z => h z.symm
        simp [PyData.eqv, this]
      rw [pyE, pyE, PySem.W.dataLt_tuple, PySem.W.dataLt_all_no (by simp [PySem.W.alike]) ne, PySem.W.dataLt_str]
      unfold keyLe
      by_cases q : y.k.cps.toList < x.k.cps.toList
      · simp [q, List.not_le.mpr q]
      · simp [q, List.not_lt.mp q]
  simp only [LM.oSortedH, lstAt, toPys_ents g.all, ok, if_true, z, ← s1, s2, List.map_map]
  rfl
theorem okD_lst {ds : List D} (h : ∀ d ∈ ds, okD 2 d = true) (hl : ds.length ≤ 1000) : okD 3 (.lst ds) = true := by
  unfold okD
  simp only [hl, decide_true, Bool.true_and, List.all_eq_true]
  exact h
theorem eq_nil {ds : List D} (h : okD 3 (.lst ds) = true) (S : Sto) : oEq (.lst ds) (.lst []) S = .ok (.bl ds.isEmpty) S := by
  obtain ⟨p, e, s⟩ := okD_shaped h (by decide)
  have s0 : SeqAt.shaped (.list []) = true := by decide
  have e2 : toPy (.lst []) = some (.list []) := rfl
  unfold oEq eqD
  simp only [e, e2, s, s0, and_self, if_true]
  have e' : (toPys ds).map PyData.list = some p := e
  obtain ⟨ps, e3, rfl⟩ := Option.map_eq_some_iff.mp e'
  have l := LM.toPys_len e3
  cases ds with
  | nil => cases ps with
    | nil => simp [PyData.eqv, PyData.eqvAll]
    | cons p ps => simp at l
  | cons d ds => cases ps with
    | nil => simp at l
    | cons p ps => simp [PyData.eqv, PyData.eqvAll]
end G

namespace DE
open PySem PySem.Builtin PySem.Builtin.Str
/-! ### what repr gives is plnD -/
def Asci (x : Str) : Prop := ∀ c ∈ x.cps.toList, c < 128
theorem Asci.app {x y : Str} (hx : Asci x) (hy : Asci y) : Asci (x ++ y) := by
  intro c hc
  have e : (x ++ y).cps.toList = x.cps.toList ++ y.cps.toList := by
    show (x.cps ++ y.cps).toList = _
    simp
  rw [e] at hc
  rcases List.mem_append.mp hc with h | h
  · exact hx c h
  · exact hy c h
theorem Asci.strOk {x : Str} (h : Asci x) : PyData.strOk x = true := by
  unfold PyData.strOk
  rw [← Array.all_toList, List.all_eq_true]
  intro c hc
  have := h c hc
  simp; omega
theorem repr_tab : ((List.range 128).all fun c => (reprChar 39 c).all (fun d => decide (d < 128)) && (reprChar 34 c).all (fun d => decide (d < 128))) = true := by decide +kernel
theorem reprChar_asc {q c : Nat} (hq : q = 39 ∨ q = 34) (hc : c < 128) : ∀ d ∈ reprChar q c, d < 128 := by
  have h := List.all_eq_true.mp repr_tab c (by simpa using hc)
  rw [Bool.and_eq_true, List.all_eq_true, List.all_eq_true] at h
  rcases hq with rfl | rfl
  · exact fun d hd => of_decide_eq_true (h.1 d hd)
  · exact fun d hd => of_decide_eq_true (h.2 d hd)
theorem foldl_asc {q : Nat} (hq : q = 39 ∨ q = 34) : ∀ (l : List Nat) (acc : Array Nat), (∀ c ∈ l, c < 128) → (∀ c ∈ acc.toList, c < 128) → ∀ c ∈ (l.foldl (fun out c => out ++ (reprChar q c).toArray) acc).toList, c < 128
  | [], acc, _, h => h
  | c :: r, acc, hl, h => by
    refine foldl_asc hq r _ (fun x hx => hl x (List.mem_cons_of_mem _ hx)) fun x hx => ?_
    have e : (acc ++ (reprChar q c).toArray).toList = acc.toList ++ reprChar q c := by simp
    rw [e] at hx
    rcases List.mem_append.mp hx with z | z
    · exact h x z
    · exact reprChar_asc hq (hl c List.mem_cons_self) x z
theorem quote_or (x : Str) : reprQuote x = 39 ∨ reprQuote x = 34 := by
  unfold reprQuote
  split
  · exact .inr rfl
  · exact .inl rfl
theorem reprText_asc {x : Str} (h : Asci x) : Asci (reprText x) := by
  have q := quote_or x
  have ql : reprQuote x < 128 := by rcases q with e | e <;> rw [e] <;> decide
  intro c hc
  unfold reprText at hc
  rw [Array.toList_push] at hc
  rcases List.mem_append.mp hc with z | z
  · rw [← Array.foldl_toList] at z
    exact foldl_asc q _ _ h (fun d hd => by simp at hd; subst hd; exact ql) c z
  · simp at z; subst z; exact ql
theorem ofString_asc {z : String} (h : ∀ c ∈ z.toList, c.toNat < 128) : Asci (Str.ofString z) := by
  intro c hc
  rw [Str.ofString_eq_toList] at hc
  simp only [List.mem_map] at hc
  obtain ⟨d, hd, rfl⟩ := hc
  exact h d hd
theorem nat_asc (n : Nat) : ∀ c ∈ (Nat.repr n).toList, c.toNat < 128 := by
  intro c hc
  rw [Nat.toList_repr] at hc
  have := Nat.isDigit_of_mem_toDigits (by decide) (by decide) hc
  unfold Char.isDigit at this
  simp only [Bool.and_eq_true, decide_eq_true_eq] at this
  have h2 := this.2
  have h3 : c.val.toNat ≤ 57 := by simpa [UInt32.le_iff_toNat_le] using h2
  show c.val.toNat < 128
  omega
theorem int_asc (i : Int) : Asci (Str.ofString (toString i)) := by
  cases i with
  | ofNat m => exact ofString_asc (nat_asc m)
  | negSucc m =>
    have e : toString (Int.negSucc m) = "-" ++ Nat.repr (m + 1) := rfl
    rw [e]
    refine ofString_asc fun c hc => ?_
    rw [String.toList_append] at hc
    rcases List.mem_append.mp hc with z | z
    · have : c = '-' := by simpa using z
      subst this; decide
    · exact nat_asc _ c z
theorem str_asc (z : String) (h : z.toList.all (fun c => decide (c.toNat < 128)) = true) : Asci (Str.ofString z) := ofString_asc fun c hc => of_decide_eq_true (List.all_eq_true.mp h c hc)
theorem textFrom_asc : ∀ (ts : List Str) (k : Nat) (acc : Str), Asci acc → (∀ t ∈ ts, Asci t) → Asci (textFrom k acc ts)
  | [], _, _, h, _ => h
  | t :: r, k, acc, h, ht => by
    refine textFrom_asc r (k + 1) _ ((h.app ?_).app (ht t List.mem_cons_self)) fun x hx => ht x (List.mem_cons_of_mem _ hx)
    split
    · exact str_asc ", " (by decide +kernel)
    · exact str_asc "" (by decide +kernel)
theorem join_asc {sep : Str} (hs : Asci sep) : ∀ (ts : List Str), (∀ t ∈ ts, Asci t) → Asci (Str.join sep ts)
  | [], _ => fun c hc => by simp [Str.join, Str.empty] at hc
  | [x], h => h x List.mem_cons_self
  | x :: y :: r, h => ((h x List.mem_cons_self).app hs).app (join_asc hs (y :: r) fun t ht => h t (List.mem_cons_of_mem _ ht))
theorem listText_asc {ts : List Str} (h : ∀ t ∈ ts, Asci t) : Asci (listText ts) := (textFrom_asc ts 0 _ (str_asc "[" (by decide +kernel)) h).app (str_asc "]" (by decide +kernel))
theorem tupleText_asc {ts : List Str} (h : ∀ t ∈ ts, Asci t) : Asci (tupleText ts) := by
  unfold tupleText
  refine ((str_asc "(" (by decide +kernel)).app (join_asc (str_asc ", " (by decide +kernel)) ts h)).app ?_
  split
  · exact str_asc ",)" (by decide +kernel)
  · exact str_asc ")" (by decide +kernel)
mutual
/-- data whose repr is plnD: its texts are plnD, its ints below 10^30, no dicts -/
def plnD : PyData → Bool
  | .none => true
  | .bool _ => true
  | .int i => decide (i.natAbs < 10 ^ 30)
  | .str x => x.cps.toList.all fun c => decide (c < 128)
  | .list xs => plnDs xs
  | .tuple xs => plnDs xs
  | .dict _ => false
def plnDs : List PyData → Bool
  | [] => true
  | x :: xs => plnD x && plnDs xs
end
mutual
theorem shown_asc : ∀ d : PyData, plnD d = true → Asci d.shown
  | .none, _ => by simp only [PyData.shown]; exact str_asc "None" (by decide +kernel)
  | .bool b, _ => by
    simp only [PyData.shown]
    cases b
    · exact str_asc "False" (by decide +kernel)
    · exact str_asc "True" (by decide +kernel)
  | .int i, _ => by simp only [PyData.shown]; exact int_asc i
  | .str x, h => by
    simp only [PyData.shown]
    simp only [plnD, List.all_eq_true, decide_eq_true_eq] at h
    exact reprText_asc h
  | .list xs, h => by simp only [PyData.shown]; exact listText_asc (shownAll_asc xs (by simpa only [plnD] using h))
  | .tuple xs, h => by simp only [PyData.shown]; exact tupleText_asc (shownAll_asc xs (by simpa only [plnD] using h))
  | .dict _, h => by simp [plnD] at h
theorem shownAll_asc : ∀ ds : List PyData, plnDs ds = true → ∀ t ∈ PyData.shownAll ds, Asci t
  | [], _ => fun t ht => by simp only [PyData.shownAll] at ht; cases ht
  | x :: xs, h => fun t ht => by
    simp only [plnDs, Bool.and_eq_true] at h
    simp only [PyData.shownAll, List.mem_cons] at ht
    rcases ht with rfl | ht
    · exact shown_asc x h.1
    · exact shownAll_asc xs h.2 t ht
end
theorem log2_lt {n : Nat} (h : n < 10 ^ 30) : n.log2 < 1920 := by
  by_cases z : n = 0
  · subst z; decide
  · exact (Nat.log2_lt z).mpr (Nat.lt_trans h (by decide +kernel))
mutual
theorem plain_show : ∀ d : PyData, plnD d = true → d.showable = true ∧ d.leavesShort 40 = true
  | .none, _ => by simp [PyData.showable, PyData.leavesShort]
  | .bool _, _ => by simp [PyData.showable, PyData.leavesShort]
  | .int i, h => by
    have h' : i.natAbs < 10 ^ 30 := by simpa only [plnD, decide_eq_true_eq] using h
    have e := int_text_length_le10 (a := i) (k := 30) (by decide) h'
    have e2 : (PyData.shown (.int i)).length = (toString i).length := by
      simp only [PyData.shown]
      show (Str.ofString (toString i)).length = _
      rw [Str.ofString_eq_toList]
      simp [Str.length]
      exact String.length_toList
    refine ⟨by simpa only [PyData.showable, decide_eq_true_eq] using log2_lt h', ?_⟩
    simp only [PyData.leavesShort, decide_eq_true_eq]
    rw [e2]; omega
  | .str x, h => by
    refine ⟨by simp [PyData.showable], ?_⟩
    simp only [plnD, List.all_eq_true, decide_eq_true_eq] at h
    simp only [PyData.leavesShort, List.all_eq_true, decide_eq_true_eq]
    intro c hc
    exact Nat.lt_trans (h c hc) (by decide)
  | .list xs, h => by
    have := plain_showAll xs (by simpa only [plnD] using h)
    simpa only [PyData.showable, PyData.leavesShort] using this
  | .tuple xs, h => by
    have := plain_showAll xs (by simpa only [plnD] using h)
    simpa only [PyData.showable, PyData.leavesShort] using this
  | .dict _, h => by simp [plnD] at h
theorem plain_showAll : ∀ ds : List PyData, plnDs ds = true → PyData.showableAll ds = true ∧ PyData.leavesShortAll 40 ds = true
  | [], _ => by simp [PyData.showableAll, PyData.leavesShortAll]
  | x :: xs, h => by
    simp only [plnDs, Bool.and_eq_true] at h
    have h1 := plain_show x h.1
    have h2 := plain_showAll xs h.2
    simp only [PyData.showableAll, PyData.leavesShortAll, Bool.and_eq_true]
    exact ⟨⟨h1.1, h2.1⟩, ⟨h1.2, h2.2⟩⟩
end
theorem plain_len {d : PyData} (h : plnD d = true) : d.shown.length ≤ 42 * d.weight + 40 := PyData.shown_le 40 (by decide) d (plain_show d h).2
theorem plnDs_mem {ds : List PyData} : plnDs ds = true ↔ ∀ d ∈ ds, plnD d = true := by
  induction ds with
  | nil => simp [plnDs]
  | cons x xs ih => simp [plnDs, ih]
end DE

set_option maxHeartbeats 4000000
/-! draws -/
namespace G
open PySem L2 DE
def Upd (k : Nat) (S S' : Sto) : Prop := S'.length = S.length ∧ ∀ j, j ≠ k → S'[j]? = S[j]?
theorem Upd.refl {k : Nat} {S : Sto} : Upd k S S := ⟨rfl, fun _ _ => rfl⟩
theorem Upd.trans {k : Nat} {S S1 S2 : Sto} (a : Upd k S S1) (b : Upd k S1 S2) : Upd k S S2 := ⟨b.1.trans a.1, fun j h => (b.2 j h).trans (a.2 j h)⟩
theorem Upd.set {k : Nat} {S : Sto} {d : D} : Upd k S (S.set k d) := ⟨by simp, fun j h => by rw [List.getElem?_set_ne (Ne.symm h)]⟩
theorem take_ok {k : Nat} {S : Sto} {m : Int} (h : PoolAt k S) (h0 : 0 < m) (h1 : m < lim64) : ∃ r x y, F_law_take [.own k, .int m] S = .ok (.int r) (S.set k (.lst [.int x, .int y])) ∧ 0 ≤ r ∧ r < m := by
  obtain ⟨x, y, hk⟩ := h
  have hl : k < S.length := (List.getElem?_eq_some_iff.mp hk).1
  have i0 : oIx (.own k) (.int 0) S = .ok (.int x) S := by simp [oIx, seqOf, hk, atI, ixN]
  have i1 : oIx (.own k) (.int 1) S = .ok (.int y) S := by simp [oIx, seqOf, hk, atI, ixN]
  by_cases hx : 0 < x
  · refine ⟨x % m, x / m, y, ?_, Int.emod_nonneg _ (by omega), Int.emod_lt_of_pos _ h0⟩
    simp [F_law_take, e_fnD, B_law_take, i0, hx, oMod_int h0, LM.oFDivW_int h0 h1, sSetIx, hk, ixN]
  · have hz1 := Int.emod_nonneg (y * 48271 + 11) (show (2147483647 : Int) ≠ 0 by decide)
    have hz2 := Int.emod_lt_of_pos (y * 48271 + 11) (show (0 : Int) < 2147483647 by decide)
    generalize hz : (y * 48271 + 11) % 2147483647 = z at hz1 hz2
    refine ⟨z * z % 2147483629 / 64 % m, x, z, ?_, Int.emod_nonneg _ (by omega), Int.emod_lt_of_pos _ h0⟩
    have hk2 : (S.set k (.lst [.int x, .int z]))[k]? = some (.lst [.int x, .int z]) := by simp [hl]
    have i2 : oIx (.own k) (.int 1) (S.set k (.lst [.int x, .int z])) = .ok (.int z) (S.set k (.lst [.int x, .int z])) := by simp [oIx, seqOf, hl, atI, ixN]
    have m1 : oMul (.int y) (.int 48271) S = .ok (.int (y * 48271)) S := oMul_int (.inr (by decide))
    have m2 : oMul (.int z) (.int z) (S.set k (.lst [.int x, .int z])) = .ok (.int (z * z)) (S.set k (.lst [.int x, .int z])) := oMul_int (.inr ⟨by unfold lim64; omega, by unfold lim64; omega⟩)
    simp [F_law_take, e_fnD, B_law_take, i0, hx, oMod_int h0, sSetIx, hk, ixN, i1, m1, oMod_int (show (0 : Int) < 2147483647 by decide), hz, i2, m2, oMod_int (show (0 : Int) < 2147483629 by decide), oFDiv_int (show (0 : Int) < 64 by decide) (by decide)]
theorem tk {k : Nat} {S : Sto} (m : Int) (h : PoolAt k S) (h0 : 0 < m) (h1 : m < lim64) : ∃ r S', F_law_take [.own k, .int m] S = .ok (.int r) S' ∧ 0 ≤ r ∧ r < m ∧ PoolAt k S' ∧ Upd k S S' := by
  obtain ⟨r, x, y, e, a, b⟩ := take_ok h h0 h1
  obtain ⟨_, _, hk⟩ := h
  exact ⟨r, _, e, a, b, ⟨x, y, by simp [(List.getElem?_eq_some_iff.mp hk).1]⟩, .set⟩
/-- an item of a list at a place that is in it -/
theorem ixl (ds : List D) (r : Int) (S : Sto) (h0 : 0 ≤ r) (h1 : r < ds.length) : ∃ v, v ∈ ds ∧ oIx (.lst ds) (.int r) S = .ok v S := by
  have hl : r.toNat < ds.length := by omega
  refine ⟨ds[r.toNat], List.getElem_mem hl, ?_⟩
  simp [oIx, seqOf, atI, ixN, h0, h1, hl]
theorem pool_ok {ns : List Int} {k : Nat} (S : Sto) (hk : k < 64) : ∃ x y, F_law_pool [.scr (ns.map .int), .int k] S = .ok (.own S.length) (S ++ [.lst [.int x, .int y]]) := by
  have hln : oLen [.scr (ns.map D.int)] S = .ok (.int ns.length) S := by simp [oLen, seqOf]
  have a1 : oMul (.int 7919) (.int k) S = .ok (.int (7919 * k)) S := oMul_int (.inl (by decide))
  have a2 : oMul (.int (7919 * k)) (.int k) S = .ok (.int (7919 * k * k)) S := oMul_int (.inr ⟨by unfold lim64; omega, by unfold lim64; omega⟩)
  have a3 : ∀ i : Int, oMul (.int i) (.int 48271) S = .ok (.int (i * 48271)) S := fun i => oMul_int (.inr (by decide))
  have b1 : ∀ i : Int, oMod (.int i) (.int 2147483629) S = .ok (.int (i % 2147483629)) S := fun i => oMod_int (by decide)
  have b2 : ∀ i : Int, oMod (.int i) (.int 2147483647) S = .ok (.int (i % 2147483647)) S := fun i => oMod_int (by decide)
  have a4 : ∀ i : Int, oMul (.int (i % 2147483647)) (.int (i % 2147483647)) S = .ok (.int (i % 2147483647 * (i % 2147483647))) S := fun i => oMul_int (.inr ⟨by have := Int.emod_nonneg i (show (2147483647 : Int) ≠ 0 by decide); unfold lim64; omega, by have := Int.emod_lt_of_pos i (show (0 : Int) < 2147483647 by decide); unfold lim64; omega⟩)
  have b3 : ∀ i : Int, oMod (.int i) (.int 2147483587) S = .ok (.int (i % 2147483587)) S := fun i => oMod_int (by decide)
  have pw : oPow (.int 10) (.int 18) S = .ok (.int 1000000000000000000) S := rfl
  have hc2 : 2 ≤ cap := by decide
  by_cases h : k < ns.length
  · have h' : (k : Int) < ns.length := by omega
    have hi : oIx (.scr (ns.map D.int)) (.int k) S = .ok (.int ns[k]) S := by simp [oIx, seqOf, atI, ixN, h]
    by_cases z : 1000000000000000000 ≤ ns[k]
    · have z1 : (ns[k] < 1000000000000000000) = False := eq_false (by omega)
      exact ⟨_, _, by simp [F_law_pool, e_fnD, B_law_pool, hln, h, hi, a1, a2, a3, a4, b1, b2, b3, z1, hc2]; exact ⟨rfl, rfl⟩⟩
    · have z1 : (ns[k] < 1000000000000000000) = True := eq_true (by omega)
      exact ⟨_, _, by simp [F_law_pool, e_fnD, B_law_pool, hln, h, hi, a1, a2, a3, a4, b1, b2, b3, z1, hc2]; exact ⟨rfl, rfl⟩⟩
  · have h' : ¬ (k : Int) < ns.length := by omega
    exact ⟨_, _, by simp [F_law_pool, e_fnD, B_law_pool, hln, h, a1, a2, a3, a4, b1, b2, b3, hc2]; exact ⟨rfl, rfl⟩⟩
theorem wd (s : Str) (h : ∀ S, F_is_word [.str s] S = .ok (.bl true) S) (o : okD 0 (.str s) = true) : WdS s := ⟨h, o⟩
theorem wd_k : WdS "k" := wd _ (fun S => by kernel_rfl) (by decide +kernel)
theorem wd_l : WdS "l" := wd _ (fun S => by kernel_rfl) (by decide +kernel)
theorem wd_m : WdS "m" := wd _ (fun S => by kernel_rfl) (by decide +kernel)
theorem wd_ka : WdS "ka" := wd _ (fun S => by kernel_rfl) (by decide +kernel)
theorem wd_zz : WdS "zz" := wd _ (fun S => by kernel_rfl) (by decide +kernel)
theorem wd_ann : WdS "ann" := wd _ (fun S => by kernel_rfl) (by decide +kernel)
theorem wd_bob : WdS "bob" := wd _ (fun S => by kernel_rfl) (by decide +kernel)
theorem wd_l9 : WdS "abcdefgh" := wd _ (fun S => by kernel_rfl) (by decide +kernel)
theorem vl_q : VlD (.str "a\"b") := .str _ (fun S => by kernel_rfl) (by decide +kernel)
theorem vl_x : VlD (.str "x") := .str _ (fun S => by kernel_rfl) (by decide +kernel)
theorem vl_e : VlD (.str "") := .str _ (fun S => by kernel_rfl) (by decide +kernel)
structure Small (e : Ent) : Prop where
  k : e.k.cps.size ≤ 8
  a : e.a.cps.size ≤ 8
  v : (pyV e.v).weight ≤ 8
  ko : e.k ≠ "other" ∧ e.k ≠ "q"
  az : e.a ≠ "zed"
  vo : PyData.eqv (.str "other") (pyV e.v) = false
structure Drawn (L : List Ent) : Prop where
  good : GoodL L
  sm : ∀ e ∈ L, Small e
/-- what stays: all but the pool -/
def Kept (k : Nat) (S S' : Sto) : Prop := S.length ≤ S'.length ∧ ∀ j, j < S.length → j ≠ k → S'[j]? = S[j]?
theorem Kept.trans {k : Nat} {S S1 S2 : Sto} (a : Kept k S S1) (b : Kept k S1 S2) : Kept k S S2 := ⟨Nat.le_trans a.1 b.1, fun j h n => (b.2 j (Nat.lt_of_lt_of_le h a.1) n).trans (a.2 j h n)⟩
theorem Upd.kept {k : Nat} {S S' : Sto} (u : Upd k S S') : Kept k S S' := ⟨Nat.le_of_eq u.1.symm, fun j _ n => u.2 j n⟩
theorem pool_lt {k : Nat} {S : Sto} (h : PoolAt k S) : k < S.length := by
  obtain ⟨x, y, e⟩ := h
  exact (List.getElem?_eq_some_iff.mp e).1
theorem pool_app {k : Nat} {S : Sto} (h : PoolAt k S) (T : Sto) : PoolAt k (S ++ T) := by
  obtain ⟨x, y, e⟩ := h
  exact ⟨x, y, by rw [List.getElem?_append_left (List.getElem?_eq_some_iff.mp e).1]; exact e⟩
theorem pool_set {k j : Nat} {S : Sto} (h : PoolAt k S) (n : j ≠ k) (d : D) : PoolAt k (S.set j d) := by
  obtain ⟨x, y, e⟩ := h
  exact ⟨x, y, by rw [List.getElem?_set_ne n]; exact e⟩
end G

set_option maxHeartbeats 4000000
/-! == of two contents -/
namespace G
open PySem L2 DE
def rowEq (x y : Ent) : Bool := PyData.eqv (.tuple [pySt (sOf x), pyV x.v]) (.tuple [pySt (sOf y), pyV y.v])
def hitB (M : List Ent) : List Ent → Bool
  | [] => true
  | x :: L => (match look M x.k with
    | none => false
    | some y => rowEq x y && hitB M L)
theorem eqD_row {x y : Ent} (g : GoodE x) (h : GoodE y) : eqD (.tup [x.st, x.v]) (.tup [y.st, y.v]) = some (rowEq x y) := by
  have e : ∀ z : Ent, GoodE z → toPy (.tup [z.st, z.v]) = some (.tuple [pySt (sOf z), pyV z.v]) := fun z gz => by
    have h := toPy_v gz.v
    have h2 := toPy_st (sOf z)
    simp only [st_d, toPy, toPys, h, h2, Option.map_some]
  obtain ⟨p, e1, s1⟩ := okD_shaped (ok_row g) (by decide)
  obtain ⟨q, e2, s2⟩ := okD_shaped (ok_row h) (by decide)
  have e3 := e x g
  have e4 := e y h
  rw [e1] at e3
  rw [e2] at e4
  cases e3
  cases e4
  unfold eqD
  simp only [e1, e2, s1, s2, and_self, if_true, rowEq]
theorem hits_gen {M : List Ent} (gM : ∀ e ∈ M, GoodE e) : ∀ L : List Ent, (∀ e ∈ L, GoodE e) → LM.hitsD (M.map Ent.row) (L.map Ent.row) = some (hitB M L)
  | [], _ => rfl
  | x :: L, g => by
    have ih := hits_gen gM L fun e he => g e (List.mem_cons_of_mem _ he)
    have f : (M.map Ent.row).find? (fun p => decide (p.1 = x.row.1)) = (look M x.k).map Ent.row := by
      rw [List.find?_map]
      have e2 : ((fun p : Key × D => decide (p.1 = x.row.1)) ∘ Ent.row) = fun e : Ent => decide (e.k = x.k) := by
        funext e
        simp [Ent.row]
      rw [e2]
      rfl
    rw [List.map_cons]
    show LM.hitsD _ ((x.row.1, x.row.2) :: _) = _
    unfold LM.hitsD hitB
    rw [f]
    cases q : look M x.k with
    | none => rfl
    | some y =>
      have gy := gM y (look_key q).1
      have e := eqD_row (g x List.mem_cons_self) gy
      simp only [Option.map_some]
      show (match eqD (.tup [x.st, x.v]) (.tup [y.st, y.v]), LM.hitsD (M.map Ent.row) (L.map Ent.row) with | some e, some b => some (e && b) | _, _ => none) = _
      rw [e, ih]
theorem hit_false {M : List Ent} {x y : Ent} (hy : look M x.k = some y) (hr : rowEq x y = false) : ∀ {L : List Ent}, x ∈ L → hitB M L = false
  | z :: L, h => by
    unfold hitB
    rcases List.mem_cons.mp h with rfl | h
    · rw [hy]
      simp [hr]
    · cases look M z.k with
      | none => rfl
      | some w => simp [hit_false hy hr h]
section
variable {S : Sto} {d e : D} {L M : List Ent} {n m : Nat}
theorem eq_gen (c : Con S d L n) (c2 : Con S e M m) : F_Content___eq__ [d, e] S = .ok (.bl (L.length == M.length && hitB M L)) S := by
  have ob := c.obj
  have ob2 := c2.obj
  have i2 := iso_ok c2
  have h := hits_gen c2.good.all L c.good.all
  simp [F_Content___eq__, e_fnD, B_Content___eq__, i2, ob, ob2, LM.oDictC, h]
theorem eqO_gen (c : Con S d L n) (c2 : Con S e M m) : LM.oEqO false [("Content", F_Content___eq__)] d e S = .ok (.bl (L.length == M.length && hitB M L)) S := by
  have ob := c.obj
  have ob2 := c2.obj
  simp [LM.oEqO, ob, ob2, eq_gen c c2]
theorem eqX_no (c : Con S d L n) (ds : List D) : LM.oEqX [("Content", F_Content___eq__)] d (.lst ds) S = .ok (.bl false) S ∧ LM.oEqX [("Content", F_Content___eq__)] d (.tup ds) S = .ok (.bl false) S := by
  have ob := c.obj
  have o1 : objAt S (.lst ds) = none := rfl
  have o2 : objAt S (.tup ds) = none := rfl
  have f : ∀ x, objAt S x = none → (tyName x).isSome = true → F_Content___eq__ [d, x] S = .ok (.bl false) S := fun x h1 h2 => by
    simp [F_Content___eq__, e_fnD, B_Content___eq__, LM.oIsO, h1, h2]
  constructor
  · simp [LM.oEqX, ob, o1, tyName, f _ o1 rfl]
  · simp [LM.oEqX, ob, o2, tyName, f _ o2 rfl]
end
end G

set_option maxHeartbeats 4000000
/-! the entries that are drawn -/
namespace G
open PySem L2 DE
abbrev Fr (S : Sto) : Prop := S.all LM.freeC = true
theorem Fr.app {S T : Sto} (a : Fr S) (b : Fr T) : Fr (S ++ T) := by
  show (S ++ T).all LM.freeC = true
  rw [List.all_append, a, b] <;> rfl
theorem Fr.one {d : D} (h : LM.freeC d = true) : Fr [d] := by
  show [d].all LM.freeC = true
  simp [h]
def ALLK : List Str := ["k", "l", "m", "ka", "zz", "abcdefgh"]
theorem all_ok {s : Str} (h : s ∈ ALLK) : WdS s ∧ s.cps.size ≤ 8 ∧ s ≠ "other" ∧ s ≠ "q" := by
  simp only [ALLK, List.mem_cons, List.not_mem_nil, or_false] at h
  rcases h with rfl | rfl | rfl | rfl | rfl | rfl
  · exact ⟨wd_k, by decide +kernel, by decide +kernel, by decide +kernel⟩
  · exact ⟨wd_l, by decide +kernel, by decide +kernel, by decide +kernel⟩
  · exact ⟨wd_m, by decide +kernel, by decide +kernel, by decide +kernel⟩
  · exact ⟨wd_ka, by decide +kernel, by decide +kernel, by decide +kernel⟩
  · exact ⟨wd_zz, by decide +kernel, by decide +kernel, by decide +kernel⟩
  · exact ⟨wd_l9, by decide +kernel, by decide +kernel, by decide +kernel⟩
structure TurnI (k q : Nat) (S : Sto) (L : List Ent) (R : List Str) : Prop where
  pool : PoolAt k S
  at_ : S[q]? = some (.lst (L.map Ent.d))
  dr : Drawn L
  sub : ∀ s ∈ R, s ∈ ALLK
  nd : R.Nodup
  out : ∀ e ∈ L, e.k ∉ R
  cnt : L.length + R.length = 6
theorem loopC_strs {own : List Nat} {g : MG} {t : MT} {e : ME} {ρ : DE.Env} {S : Sto} {r : Str → DE.Env} {p : Str → Bool} : ∀ {R : List Str}, (∀ x ∈ R, g (.str x) (wipeD ρ own) = some (r x) ∧ t (r x) S = .ok (p x) S ∧ e (r x) S = .ok (.str x) S) →
    loopC own g t e ρ (R.map D.str) S = .ok ((R.filter p).map D.str) S
  | [], _ => rfl
  | x :: R, h => by
    obtain ⟨h1, h2, h3⟩ := h x List.mem_cons_self
    have ih := loopC_strs (R := R) fun y hy => h y (List.mem_cons_of_mem _ hy)
    rw [List.map_cons]
    unfold loopC
    rw [h1]
    simp only [h2]
    cases q : p x with
    | true => simp only [h3, ih, RE.bind_ok, List.filter_cons, q, if_true, List.map_cons]
    | false => simp only [ih, List.filter_cons, q]; rfl
theorem filter_ne_len {R : List Str} (nd : R.Nodup) {s : Str} (h : s ∈ R) : (R.filter fun x => !(x == s)).length + 1 = R.length := by
  induction R with
  | nil => cases h
  | cons x R ih =>
    rw [List.nodup_cons] at nd
    rw [List.filter_cons]
    by_cases e : x = s
    · subst e
      have : R.filter (fun y => !(y == x)) = R := List.filter_eq_self.mpr fun y hy => by
        have : y ≠ x := fun z => nd.1 (z ▸ hy)
        simpa using this
      simp [this]
    · rcases List.mem_cons.mp h with h | h
      · exact absurd h.symm e
      · have b : (x == s) = false := by simpa using e
        simp only [b, Bool.not_false, if_true, List.length_cons]
        have := ih nd.2 h
        omega
theorem turn_ok {k q : Nat} {S : Sto} {L : List Ent} {R : List Str} (hq : q ≠ k) (t : TurnI k q S L R) (hR : R ≠ []) (o3 o4 o5 o6 : Option D) :
    ∃ u4 u6 S' L' R', L_law_entries_1 [some (.own k), some (.own q), some (.lst (R.map .str)), o3, o4, o5, o6] S = .nx [some (.own k), some (.own q), some (.lst (R'.map .str)), o3, u4, o5, u6] S' ∧ TurnI k q S' L' R' ∧ L'.length = L.length + 1 ∧ S'.length = S.length ∧ ∀ j, j ≠ k → j ≠ q → S'[j]? = S[j]? := by
  have hl : 0 < R.length := List.length_pos_iff.mpr hR
  have h6 : R.length ≤ 6 := by have := t.cnt; omega
  obtain ⟨r1, S1, e1, x1, y1, p1, v1⟩ := tk R.length t.pool (by omega) (by unfold lim64; omega)
  obtain ⟨w1, m1, i1⟩ := ixl (R.map D.str) r1 S1 x1 (by simpa using y1)
  obtain ⟨s, hs, rfl⟩ := List.mem_map.mp m1
  obtain ⟨r2, S2, e2, x2, y2, p2, v2⟩ := tk 1000000000000000 p1 (by decide) (by decide)
  obtain ⟨r3, S3, e3, x3, y3, p3, v3⟩ := tk 2 p2 (by decide) (by decide)
  obtain ⟨w3, m3, i3⟩ := ixl [.str "ann", .str "bob"] r3 S3 x3 y3
  obtain ⟨r4, S4, e4, x4, y4, p4, v4⟩ := tk 4 p3 (by decide) (by decide)
  obtain ⟨w4, m4, i4⟩ := ixl [.non, .str "x", .str "", .str "a\"b"] r4 S4 x4 y4
  have ha : ∃ a : Str, w3 = .str a ∧ WdS a ∧ a.cps.size ≤ 8 ∧ a ≠ "zed" := by
    simp only [List.mem_cons, List.not_mem_nil, or_false] at m3
    rcases m3 with rfl | rfl
    · exact ⟨_, rfl, wd_ann, by decide +kernel, by decide +kernel⟩
    · exact ⟨_, rfl, wd_bob, by decide +kernel, by decide +kernel⟩
  obtain ⟨a, rfl, ga, sa, za⟩ := ha
  have hv : VlD w4 ∧ (pyV w4).weight ≤ 8 ∧ PyData.eqv (.str "other") (pyV w4) = false := by
    simp only [List.mem_cons, List.not_mem_nil, or_false] at m4
    rcases m4 with rfl | rfl | rfl | rfl
    · exact ⟨.non, by decide +kernel, by decide +kernel⟩
    · exact ⟨vl_x, by decide +kernel, by decide +kernel⟩
    · exact ⟨vl_e, by decide +kernel, by decide +kernel⟩
    · exact ⟨vl_q, by decide +kernel, by decide +kernel⟩
  obtain ⟨gv, sv, ov⟩ := hv
  have al := t.sub s hs
  obtain ⟨gs, ss, so⟩ := all_ok al
  have u4 : Upd k S S4 := ((v1.trans v2).trans v3).trans v4
  have hq4 : S4[q]? = some (.lst (L.map Ent.d)) := by rw [u4.2 q hq]; exact t.at_
  have hlq : q < S4.length := (List.getElem?_eq_some_iff.mp hq4).1
  have hq3 : S3[q]? = some (.lst (L.map Ent.d)) := by rw [((v1.trans v2).trans v3).2 q hq]; exact t.at_
  have hl2 : L.length < cap := Nat.lt_of_le_of_lt (show L.length ≤ 6 by have := t.cnt; omega) (by decide)
  have sk := fun x hx => sok (all_ok (t.sub x hx)).1.ok
  have lc := loopC_strs (own := [5]) (g := gN 5) (t := dTest (dBin oNe (dVar 5) (dVar 4))) (e := dVar 5) (ρ := [some (.own k), some (.own q), some (.lst (R.map .str)), o3, some (.str s), o5, o6]) (S := S1)
    (r := fun x => [some (.own k), some (.own q), some (.lst (R.map .str)), o3, some (.str s), some (.str x), o6]) (p := fun x => !(x == s)) (R := R) fun x hx => ⟨by simp [wipeD], by simp [oNe_str (sk x hx) (sk s hs)], by simp⟩
  have hcR : R.length ≤ cap := Nat.le_trans h6 (by decide)
  have pw : ∀ S, oPow (.int 10) (.int 15) S = .ok (.int 1000000000000000) S := fun S => rfl
  have hln : oLen [.lst (R.map D.str)] S = .ok (.int R.length) S := by simp [oLen, seqOf]
  have ge : GoodE (Ent.mk s (1 + r2) a w4) := ⟨gs, by show 1 ≤ 1 + r2 ∧ 1 + r2 ≤ _; omega, ga, gv⟩
  have se : Small (Ent.mk s (1 + r2) a w4) := ⟨ss, sa, sv, so, za, ov⟩
  refine ⟨some (.str s), some (.tup [.int (1 + r2), .str a]), S4.set q (.lst ((L ++ [(Ent.mk s (1 + r2) a w4)]).map Ent.d)), L ++ [(Ent.mk s (1 + r2) a w4)], R.filter (fun x => !(x == s)), ?_, ⟨pool_set p4 hq _, by simp [hlq], ⟨⟨fun x hx => ?_, ?_⟩, fun x hx => ?_⟩, fun x hx => t.sub x (List.mem_filter.mp hx).1, t.nd.sublist List.filter_sublist, fun x hx => ?_, ?_⟩, by simp, ?_, fun j n1 n2 => ?_⟩
  · unfold L_law_entries_1
    simp [hln, e1, i1, itemsOf, hcR, lc, pw, e2, e3, i3, e4, i4, dApp, hq3, hq4, hl2, Ent.d, dSt, sOf]
  · rcases List.mem_append.mp hx with hx | hx
    · exact t.dr.good.all x hx
    · rw [List.mem_singleton.mp hx]; exact ge
  · rw [List.map_append, List.nodup_append]
    refine ⟨t.dr.good.nd, by simp, fun b hb c hc z => ?_⟩
    subst z
    rw [List.map_singleton, List.mem_singleton] at hc
    obtain ⟨y, hy, e5⟩ := List.mem_map.mp hb
    exact t.out y hy (by rw [e5, hc]; exact hs)
  · rcases List.mem_append.mp hx with hx | hx
    · exact t.dr.sm x hx
    · rw [List.mem_singleton.mp hx]; exact se
  · intro hm
    obtain ⟨hm, ne⟩ := List.mem_filter.mp hm
    rcases List.mem_append.mp hx with hx | hx
    · exact t.out x hx hm
    · rw [List.mem_singleton.mp hx] at ne
      simp at ne
  · have := filter_ne_len t.nd hs
    have := t.cnt
    simp only [List.length_append, List.length_singleton]
    omega
  · rw [List.length_set]; exact u4.1
  · rw [List.getElem?_set_ne (Ne.symm n2)]
    exact u4.2 j n1
theorem turns_ok {k q : Nat} (hq : q ≠ k) (o5 : Option D) : ∀ (m i : Nat) {S : Sto} {L : List Ent} {R : List Str} (o3 o4 o6 : Option D), TurnI k q S L R → L.length + m ≤ 6 →
    ∃ u2 u3 u4 u6 S' L' R', loopS (gN 3) L_law_entries_1 ((List.range' i m).map fun j : Nat => D.int (0 + (j : Int))) [some (.own k), some (.own q), some (.lst (R.map .str)), o3, o4, o5, o6] S = .nx [some (.own k), some (.own q), u2, u3, u4, o5, u6] S' ∧ TurnI k q S' L' R' ∧ S'.length = S.length ∧ ∀ j, j ≠ k → j ≠ q → S'[j]? = S[j]?
  | 0, i, S, L, R, o3, o4, o6, t, hl => ⟨_, o3, o4, o6, S, L, R, rfl, t, rfl, fun _ _ _ => rfl⟩
  | m + 1, i, S, L, R, o3, o4, o6, t, hl => by
    have hR : R ≠ [] := fun e => by
      have := t.cnt
      rw [e] at this
      simp at this
      omega
    obtain ⟨u4, u6, S1, L1, R1, e1, t1, l1, ln1, k1⟩ := turn_ok hq t hR (some (.int (0 + (i : Int)))) o4 o5 o6
    obtain ⟨w2, w3, w4, w6, S2, L2, R2, e2, t2, ln2, k2⟩ := turns_ok hq o5 m (i + 1) (some (.int (0 + (i : Int)))) u4 u6 t1 (by omega)
    refine ⟨w2, w3, w4, w6, S2, L2, R2, ?_, t2, ln2.trans ln1, fun j n1 n2 => (k2 j n1 n2).trans (k1 j n1 n2)⟩
    rw [List.range'_succ, List.map_cons]
    unfold loopS
    simp only [e_gN, List.set_cons_succ, List.set_cons_zero, e1]
    exact e2
theorem nown_ents {L : List Ent} (h : ∀ e ∈ L, VlD e.v) : nowns (L.map Ent.d) = true := by
  induction L with
  | nil => rfl
  | cons e L ih =>
    have fv : nown e.v = true := by
      have := h e List.mem_cons_self
      revert this
      generalize e.v = v
      intro hv
      cases hv <;> rfl
    simp only [List.map_cons, nowns, Ent.d, Ent.st, nown, fv, Bool.and_self, Bool.true_and]
    exact ih fun x hx => h x (List.mem_cons_of_mem _ hx)
theorem nown_rows {L : List Ent} (h : ∀ e ∈ L, VlD e.v) : nownK (L.map Ent.row) = true := by
  induction L with
  | nil => rfl
  | cons e L ih =>
    have fv : nown e.v = true := by
      have := h e List.mem_cons_self
      revert this
      generalize e.v = v
      intro hv
      cases hv <;> rfl
    simp only [List.map_cons, nownK, nowns, Ent.row, Ent.st, nown, fv, Bool.and_self, Bool.true_and]
    exact ih fun x hx => h x (List.mem_cons_of_mem _ hx)
theorem free_con {L : List Ent} (g : GoodL L) : LM.freeC (conD L) = true := by
  simp only [LM.freeC, conD, nown, nownF, nown_rows fun e he => (g.all e he).v, Bool.and_self]
theorem entries_drawn {k : Nat} {S : Sto} (h : PoolAt k S) (fr : Fr S) : ∃ L S', LM.relF F_law_entries [.own k] S = .ok (.lst (L.map Ent.d)) S' ∧ Drawn L ∧ L.length ≤ 6 ∧ PoolAt k S' ∧ Fr S' ∧ S'.length = S.length ∧ ∀ j, j ≠ k → S'[j]? = S[j]? := by
  obtain ⟨r, S1, e1, x1, y1, p1, v1⟩ := tk 7 (pool_app h [.lst []]) (by decide) (by decide)
  have hk := pool_lt h
  have hq : S.length ≠ k := by omega
  have hd : S1[S.length]? = some (.lst (([] : List Ent).map Ent.d)) := by
    rw [v1.2 _ hq]
    exact DE.getElem?_snoc _ _
  obtain ⟨u2, u3, u4, u6, S2, L, R, e2, t2, ln, kp⟩ := turns_ok (k := k) (q := S.length) hq none r.toNat 0 none none none (R := ALLK) ⟨p1, hd, ⟨⟨(fun e he => by cases he), List.nodup_nil⟩, (fun e he => by cases he)⟩, fun s hs => hs, by decide +kernel, (fun e he => by cases he), rfl⟩ (by simp; omega)
  have hr : rangeD 0 r.toNat = (List.range' 0 r.toNat).map fun j : Nat => D.int (0 + (j : Int)) := by
    unfold rangeD
    rw [List.range_eq_range']
  have hL : L.length ≤ 6 := by have := t2.cnt; omega
  have ln2 : S2.length = S.length + 1 := by rw [ln, v1.1]; simp
  have ev : F_law_entries [.own k] S = .ok (.own S.length) S2 := by
    have r0 : -(2 ^ 62) ≤ r ∧ r < 2 ^ 62 := by constructor <;> omega
    simp only [ALLK, List.map_cons, List.map_nil] at e2
    simp only [F_law_entries, e_fnD, B_law_entries]
    simp only [List.map_cons, List.map_nil, List.length_cons, List.length_nil, Nat.reduceAdd, Nat.reduceSub, List.replicate, List.cons_append, List.nil_append]
    simp only [e_sSeq, e_sPar, e_dLstO, e_dLst, cap_0, if_true, e_aCons, e_aNil, e_dC, RE.bind_ok, RE.stm_ok, List.set_cons_succ, List.set_cons_zero, seq_nx, e_sFor, e_iR1, e_dCall, e_dVar, List.getElem?_cons_succ, List.getElem?_cons_zero, List.length_cons, List.length_nil, List.append_nil, Nat.reduceAdd, cap_6, e1, r0, and_self, hr]
    rw [e2]
    simp only [seq_nx, e_sRet, e_dVar, List.getElem?_cons_succ, List.getElem?_cons_zero, RE.stm_ok, fin_rt]
  have cells : ∀ j, j ≠ k → (S2.take S.length)[j]? = S[j]? := fun j n => by
    by_cases hj : j < S.length
    · rw [List.getElem?_take_of_lt hj, kp j n (by omega), v1.2 j n, List.getElem?_append_left hj]
    · rw [List.getElem?_eq_none (by simp; omega), List.getElem?_eq_none (by omega)]
  have pk : PoolAt k (S2.take S.length) := by
    obtain ⟨x, y, e⟩ := t2.pool
    exact ⟨x, y, by rw [List.getElem?_take_of_lt hk]; exact e⟩
  have fr2 : Fr (S2.take S.length) := by
    refine List.all_eq_true.mpr fun d hd => ?_
    obtain ⟨j, hj⟩ := List.mem_iff_getElem?.mp hd
    by_cases e : j = k
    · subst e
      obtain ⟨x, y, e⟩ := pk
      rw [e] at hj
      cases hj
      rfl
    · rw [cells j e] at hj
      exact List.all_eq_true.mp fr d (List.mem_of_getElem? hj)
  refine ⟨L, S2.take S.length, ?_, t2.dr, hL, pk, fr2, by rw [List.length_take]; omega, cells⟩
  unfold LM.relF
  rw [ev]
  simp only
  rw [if_pos ⟨Nat.le_refl _, ln2.symm, fr2⟩, t2.at_]
  simp only [nown_ents fun e he => (t2.dr.good.all e he).v, if_true]
end G

set_option maxHeartbeats 4000000
/-! what a content tells -/
namespace G
open PySem L2 DE
@[simp] theorem e_sRaise (c f : Str) (g : ME) (ρ : DE.Env) (S : Sto) : sRaise c f g ρ S = (g ρ S).stm ρ fun d S1 => .exc ⟨c, [(f, d)]⟩ ρ S1 := id rfl
theorem inRowsN (L : List Ent) (k : Str) (S : Sto) : LM.oInKey true (.str k) (.dK (L.map Ent.row)) S = .ok (.bl (!(look L k).isSome)) S := by
  simp only [LM.oInKey, dictAt_dK, LM.keyD, find_row]
  cases look L k <;> rfl
def NoE (o : D) : Exc := ⟨"NoEntry", [("value", o)]⟩
def BadK (o : D) : Exc := ⟨"BadKey", [("value", o)]⟩
def BadEs (o : D) : Exc := ⟨"BadEntries", [("value", o)]⟩
section
variable {S : Sto} {d o : D} {L : List Ent} {n : Nat} {k : Str}
theorem contains_no (w : F_is_word [o] S = .ok (.bl false) S) : F_Content___contains__ [d, o] S = .ok (.bl false) S := by
  simp [F_Content___contains__, e_fnD, B_Content___contains__, w]
theorem contains_ok (c : Con S d L n) (w : WdS k) : F_Content___contains__ [d, .str k] S = .ok (.bl (look L k).isSome) S := by
  have ob := c.obj
  have h1 := inRows L k S
  simp [F_Content___contains__, e_fnD, B_Content___contains__, w.w, ob, h1]
theorem getitem_no (w : F_is_word [o] S = .ok (.bl false) S) : F_Content___getitem__ [d, o] S = .exc (NoE o) S := by
  simp [F_Content___getitem__, e_fnD, B_Content___getitem__, w, NoE]
theorem getitem_none (c : Con S d L n) (w : WdS k) (h : look L k = none) : F_Content___getitem__ [d, .str k] S = .exc (NoE (.str k)) S := by
  have ob := c.obj
  have h1 := inRowsN L k S
  rw [h] at h1
  simp [F_Content___getitem__, e_fnD, B_Content___getitem__, w.w, ob, h1, NoE]
theorem getitem_ok (c : Con S d L n) (w : WdS k) {e : Ent} (h : look L k = some e) : F_Content___getitem__ [d, .str k] S = .ok (.tup [e.st, e.v]) S := by
  have ob := c.obj
  have h1 := inRowsN L k S
  rw [h] at h1
  simp [F_Content___getitem__, e_fnD, B_Content___getitem__, w.w, ob, h1, dictAt_dK, LM.keyD, find_row, h]
theorem shows_no (w : F_is_word [o] S = .ok (.bl false) S) : F_Content_shows [d, o] S = .exc (BadK o) S := by
  simp [F_Content_shows, e_fnD, B_Content_shows, w, BadK]
theorem shows_none (c : Con S d L n) (w : WdS k) (h : look L k = none) : F_Content_shows [d, .str k] S = .ok .non S := by
  have ob := c.obj
  have h1 := inRows L k S
  rw [h] at h1
  simp [F_Content_shows, e_fnD, B_Content_shows, w.w, ob, h1]
theorem shows_ok (c : Con S d L n) (w : WdS k) {e : Ent} (h : look L k = some e) : F_Content_shows [d, .str k] S = .ok e.v S := by
  have ob := c.obj
  have h1 := inRows L k S
  rw [h] at h1
  simp [F_Content_shows, e_fnD, B_Content_shows, w.w, ob, h1, dictAt_dK, LM.keyD, find_row, h]
theorem len_ok (c : Con S d L n) : F_Content___len__ [d] S = .ok (.int L.length) S := by
  have ob := c.obj
  simp [F_Content___len__, e_fnD, B_Content___len__, ob, LM.oLenK, dictAt_dK]
def ks (L : List Ent) : List D := L.map fun e => D.str e.k
theorem keys_ok (c : Con S d L n) (hn : n ≤ 1000) : F_Content_key_list [d] S = .ok (.own S.length) (S ++ [.lst (ks L)]) := by
  have ob := c.obj
  have hc : L.length ≤ cap := Nat.le_trans c.len (Nat.le_trans hn (by decide))
  simp [F_Content_key_list, e_fnD, B_Content_key_list, ob, LM.oListKO, dictAt_dK, hc, ks]
  intro a _
  rfl
theorem dLen_ok (c : Con S d L n) (hn : n ≤ 1000) {ρ : DE.Env} {i : Nat} (hi : ρ[i]? = some (some d)) : LM.dLenO [("Content", F_Content___len__)] (dVar i) ρ S = .ok (.int L.length) S := by
  have ob := c.obj
  have l := len_ok c
  have := c.len
  have h : (0 : Int) ≤ L.length ∧ (L.length : Int) < 2 ^ 63 := by constructor <;> omega
  unfold LM.dLenO
  simp only [e_dVar, hi, RE.bind_ok, ob, lkC, l]
  rw [if_pos h]
theorem dat_ks : ∀ L : List Ent, LM.datDs (ks L) = true
  | [] => rfl
  | e :: L => by
    have := dat_ks L
    unfold ks at this ⊢
    simp only [List.map_cons, LM.datDs, LM.datD, this, Bool.and_self]
theorem free_ks (L : List Ent) (x : List D) (h : nowns x = true) : LM.freeC (.lst (ks L ++ x)) = true := by
  have : nowns (ks L ++ x) = true := by
    induction L with
    | nil => exact h
    | cons e L ih =>
      unfold ks at ih ⊢
      simp only [List.map_cons, List.cons_append, nowns, nown, ih, Bool.and_self]
  simp only [LM.freeC, nown, this]
theorem ok_ks (g : GoodL L) (hl : L.length ≤ 1000) : okD 1 (.lst (ks L)) = true := by
  unfold okD ks
  simp only [List.length_map, hl, decide_true, Bool.true_and, List.all_eq_true]
  intro x hx
  obtain ⟨e, he, rfl⟩ := List.mem_map.mp hx
  exact (g.all e he).k.ok
theorem fz_ne (g : GoodL L) (hl : L.length ≤ 1000) {i : Nat} (h : S[i]? = some (.lst (ks L))) : LM.oFz oNe (.own i) (.lst (ks L)) S = .ok (.bl false) S := by
  have n := ne_self (ok_ks g hl) (by decide) []
  simp [LM.oFz, LM.frzD, h, dat_ks, LM.datD, n, LM.flatD]
end
theorem wd_other : WdS "other" := wd _ (fun S => by kernel_rfl) (by decide +kernel)
@[simp] theorem e_oInO (neg : Bool) (d : D) (e : D) (S : Sto) : oInO neg [("Content", F_Content___contains__)] d e S = (match objAt S e with
  | some (c, _) => (match ([("Content", F_Content___contains__)] : List (Str × FD)).lookup c with
    | some F => (F [e, d] S).bind fun r S1 => (match r with
      | .bl b => .ok (.bl (b != neg)) S1
      | _ => .bad)
    | none => .bad)
  | none => .bad) := id rfl
@[simp] theorem e_oIxO (d : D) (e : D) (S : Sto) : oIxO [("Content", F_Content___getitem__)] e d S = (match objAt S e with
  | some (c, _) => (match ([("Content", F_Content___getitem__)] : List (Str × FD)).lookup c with
    | some F => F [e, d] S
    | none => .bad)
  | none => .bad) := id rfl
section
variable {S : Sto} {d o : D} {L : List Ent} {n : Nat} {k : Str}
theorem told_loop (c : Con S d L n) (a1 a2 a3 a4 : Option D) : ∀ (M : List Ent), (∀ x ∈ M, x ∈ L) → ∀ (o5 o6 o7 : Option D), ∃ u5 u6 u7, loopS (gTL 3 (gsCons (gN 5) (gsCons (gN 6) (gsCons (gN 7) gsNil)))) L_law_told_1 (M.map Ent.d) [some d, a1, a2, a3, a4, o5, o6, o7] S = .nx [some d, a1, a2, a3, a4, u5, u6, u7] S
  | [], _, o5, o6, o7 => ⟨o5, o6, o7, rfl⟩
  | x :: M, hm, o5, o6, o7 => by
    obtain ⟨u5, u6, u7, ih⟩ := told_loop c a1 a2 a3 a4 M (fun y hy => hm y (List.mem_cons_of_mem _ hy)) (some (.str x.k)) (some x.st) (some x.v)
    refine ⟨u5, u6, u7, ?_⟩
    have hx := hm x List.mem_cons_self
    have gx := c.good.all x hx
    have lk := look_mem c.nd hx
    have ob := c.obj
    have g1 := getitem_ok c gx.k lk
    have s1 := shows_ok c gx.k lk
    have c1 := contains_ok c gx.k
    rw [lk] at c1
    have n1 := ne_self (ok_row gx) (by decide) S
    have n2 := ne_self (ok_v gx) (by decide) S
    rw [List.map_cons]
    unfold loopS
    have b : L_law_told_1 [some d, a1, a2, a3, a4, some (.str x.k), some x.st, some x.v] S = .nx [some d, a1, a2, a3, a4, some (.str x.k), some x.st, some x.v] S := by
      unfold L_law_told_1
      simp only [st_d] at g1 n1 ⊢
      simp [ob, g1, s1, c1, n1, n2]
    have gt : gTL 3 (gsCons (gN 5) (gsCons (gN 6) (gsCons (gN 7) gsNil))) x.d [some d, a1, a2, a3, a4, o5, o6, o7] = some [some d, a1, a2, a3, a4, some (.str x.k), some x.st, some x.v] := by simp [Ent.d]
    rw [gt]
    simp only [b]
    exact ih
end
end G

set_option maxHeartbeats 4000000
/-! _law_told -/
namespace G
open PySem L2 DE
section
variable {S : Sto} {d : D} {L : List Ent} {n : Nat}
theorem srt_lst (g : GoodL L) : GoodL (sortK L) := sortK_good g
theorem dLC_keys (g : GoodL L) (hl : L.length ≤ 1000) (S : Sto) (d0 d1 : Option D) (o4 o5 o6 o7 : Option D) (o3 : Option D) : dLC [3] (iOf (dVar 2)) (gN 3) mYes (dBin oIx (dVar 3) (dC (.int 0))) [d0, d1, some (.lst (L.map Ent.d)), o3, o4, o5, o6, o7] S = .ok (.lst (ks L)) S := by
  have hc : L.length ≤ cap := Nat.le_trans hl (by decide)
  have lc := loopC_entsM (own := [3]) (g := gN 3) (t := mYes) (e := dBin oIx (dVar 3) (dC (.int 0))) (ρ := [d0, d1, some (.lst (L.map Ent.d)), o3, o4, o5, o6, o7]) (S := S)
    (r := fun x => [d0, d1, some (.lst (L.map Ent.d)), some x.d, o4, o5, o6, o7]) (v := fun x => .str x.k) Ent.d (L := L) fun x hx => ⟨by simp [wipeD], by simp, by simp [Ent.d]⟩
  simp [itemsOf, hc, lc, ks]
def told1 : MS := (sIf (dOrT (dTest (dBin oNe (dMeth "entries" 1 [("Content", F_Content_entries)] (dVar 0) aNil) (dBlt oTuple (aCons (dVar 2) aNil)))) (dTest (dBin (LM.oFz oNe) (dMeth "key_list" 1 [("Content", F_Content_key_list)] (dVar 0) aNil) (dLC [3] (iOf (dVar 2)) (gN 3) mYes (dBin oIx (dVar 3) (dC (.int 0)))))))
    (sRet (dC (.bl false)))
    sNil)
def told2 : MS := (sIf (dOrT (dTest (dBin oNe (LM.dLenO [("Content", F_Content___len__)] (dVar 0)) (dBlt oLen (aCons (dVar 1) aNil)))) (dTest (dBin (LM.oFz oNe) (dMeth "key_list" 1 [("Content", F_Content_key_list)] (dVar 0) aNil) (dLC [3] (iOf (dVar 2)) (gN 3) mYes (dBin oIx (dVar 3) (dC (.int 0)))))))
    (sRet (dC (.bl false)))
    sNil)
def told3 : MS := (sRet (dAnd (dBin (oInO true [("Content", F_Content___contains__)]) (dC (.str "other")) (dVar 0)) (dBin oIs (dMeth "shows" 2 [("Content", F_Content_shows)] (dVar 0) (aCons (dC (.str "other")) aNil)) (dC .non))))
theorem told_split : B_law_told = (sSeq (sAsg (dBlt LM.oSortedH (aCons (dVar 1) aNil)) (gN 2)) (sSeq told1 (sSeq (sAsg (dMeth "key_list" 1 [("Content", F_Content_key_list)] (dVar 0) aNil) (gN 4)) (sSeq (sExpr (dApp (dVar 4) (aCons (dC (.str "k")) aNil))) (sSeq told2
    (sSeq (sFor (iOf (dVar 1)) (gTL 3 (gsCons (gN 5) (gsCons (gN 6) (gsCons (gN 7) gsNil)))) L_law_told_1) told3)))))) := rfl
theorem key_meth (c : Con S d L n) (hn : n ≤ 1000) {ρ : DE.Env} (h : ρ[0]? = some (some d)) : dMeth "key_list" 1 [("Content", F_Content_key_list)] (dVar 0) aNil ρ S = .ok (.own S.length) (S ++ [.lst (ks L)]) := by
  have ob := c.obj
  have k := keys_ok c hn
  simp [h, ob, k]
theorem told1_ok (c : Con S d L n) (hn : n ≤ 1000) (o1 o3 o4 o5 o6 o7 : Option D) : told1 [some d, o1, some (.lst (L.map Ent.d)), o3, o4, o5, o6, o7] S = .nx [some d, o1, some (.lst (L.map Ent.d)), o3, o4, o5, o6, o7] (S ++ [.lst (ks L)]) := by
  have ob := c.obj
  have hl : L.length ≤ 1000 := Nat.le_trans c.len hn
  have e1 := entries_ok c hn
  have n1 := ne_self (ok_tup c.good hl) (by decide) S
  have km := key_meth c hn (ρ := [some d, o1, some (.lst (L.map Ent.d)), o3, o4, o5, o6, o7]) rfl
  have lc := dLC_keys c.good hl (S ++ [.lst (ks L)]) (some d) o1 o4 o5 o6 o7 o3
  have fz := fz_ne (S := S ++ [.lst (ks L)]) c.good hl (i := S.length) (DE.getElem?_snoc _ _)
  have m1 : dMeth "entries" 1 [("Content", F_Content_entries)] (dVar 0) aNil [some d, o1, some (.lst (L.map Ent.d)), o3, o4, o5, o6, o7] S = .ok (.tup (L.map Ent.d)) S := by simp [ob, e1]
  have m2 : dBlt oTuple (aCons (dVar 2) aNil) [some d, o1, some (.lst (L.map Ent.d)), o3, o4, o5, o6, o7] S = .ok (.tup (L.map Ent.d)) S := by simp [oTuple, listAt]
  unfold told1
  simp only [e_sIf, e_dOrT, e_dTest, e_dBin, m1, m2, RE.bind_ok, n1, onBl_bl, Bool.false_eq_true, if_false, km, lc, fz, RE.stm_ok, e_sNil]
theorem told2_ok (c : Con S d (sortK L) n) (hn : n ≤ 1000) (hl : L.length ≤ 1000) (o3 o4 o5 o6 o7 : Option D) : told2 [some d, some (.lst (L.map Ent.d)), some (.lst ((sortK L).map Ent.d)), o3, o4, o5, o6, o7] S = .nx [some d, some (.lst (L.map Ent.d)), some (.lst ((sortK L).map Ent.d)), o3, o4, o5, o6, o7] (S ++ [.lst (ks (sortK L))]) := by
  have ob := c.obj
  have hl2 : (sortK L).length ≤ 1000 := Nat.le_trans c.len hn
  have l1 := dLen_ok c hn (ρ := [some d, some (.lst (L.map Ent.d)), some (.lst ((sortK L).map Ent.d)), o3, o4, o5, o6, o7]) (i := 0) rfl
  rw [(sortK_perm L).length_eq] at l1
  have l2 : dBlt oLen (aCons (dVar 1) aNil) [some d, some (.lst (L.map Ent.d)), some (.lst ((sortK L).map Ent.d)), o3, o4, o5, o6, o7] S = .ok (.int L.length) S := by simp [oLen, seqOf]
  have n1 : oNe (.int L.length) (.int L.length) S = .ok (.bl false) S := ne_self (n := 0) rfl (by decide) S
  have km := key_meth c hn (ρ := [some d, some (.lst (L.map Ent.d)), some (.lst ((sortK L).map Ent.d)), o3, o4, o5, o6, o7]) rfl
  have lc := dLC_keys c.good hl2 (S ++ [.lst (ks (sortK L))]) (some d) (some (.lst (L.map Ent.d))) o4 o5 o6 o7 o3
  have fz := fz_ne (S := S ++ [.lst (ks (sortK L))]) c.good hl2 (i := S.length) (DE.getElem?_snoc _ _)
  unfold told2
  simp only [e_sIf, e_dOrT, e_dTest, e_dBin, l1, l2, RE.bind_ok, n1, onBl_bl, Bool.false_eq_true, if_false, km, lc, fz, RE.stm_ok, e_sNil]
theorem told3_ok (c : Con S d L n) (ho : look L "other" = none) (o1 o2 o3 o4 o5 o6 o7 : Option D) : told3 [some d, o1, o2, o3, o4, o5, o6, o7] S = .rt (.bl true) S := by
  have ob := c.obj
  have c1 := contains_ok c wd_other
  rw [ho] at c1
  have s1 := shows_none c wd_other ho
  unfold told3
  simp [ob, c1, s1, DE.isNon]
theorem look_other (dr : Drawn L) : look (sortK L) "other" = none := by
  rw [look_sortK dr.good.nd, look_none]
  exact fun e he => (dr.sm e he).ko.1
theorem told_ok (c : Con S d (sortK L) n) (hn : n ≤ 1000) (dr : Drawn L) (hl : L.length ≤ 100) : ∃ T, F_law_told [d, .lst (L.map Ent.d)] S = .ok (.bl true) (S ++ T) ∧ Fr T := by
  have hl2 : (sortK L).length ≤ 1000 := Nat.le_trans c.len hn
  have hl3 : L.length ≤ 1000 := by omega
  have hcL : L.length ≤ cap := Nat.le_trans hl (by decide)
  have so := sorted_ok dr.good S
  generalize hK : sortK L = K at *
  have c1 := c.app [.lst (ks K)]
  have c2 := c1.app [.lst (ks K ++ [.str "k"])]
  have c3 := c2.app [.lst (ks K)]
  have t1 := told1_ok c hn (some (.lst (L.map Ent.d))) none none none none none
  have km := key_meth c1 hn (ρ := [some d, some (.lst (L.map Ent.d)), some (.lst (K.map Ent.d)), none, none, none, none, none]) rfl
  subst hK
  have t2 := told2_ok c2 hn hl3 none (some (.own (S ++ [D.lst (ks (sortK L))]).length)) none none none
  obtain ⟨u5, u6, u7, lp⟩ := told_loop c3 (some (.lst (L.map Ent.d))) (some (.lst ((sortK L).map Ent.d))) none (some (.own (S ++ [D.lst (ks (sortK L))]).length)) L (fun x hx => (sortK_perm L).mem_iff.mpr hx) none none none
  have t3 := told3_ok c3 (look_other dr) (some (.lst (L.map Ent.d))) (some (.lst ((sortK L).map Ent.d))) none (some (.own (S ++ [D.lst (ks (sortK L))]).length)) u5 u6 u7
  have kl : (ks (sortK L)).length < cap := by
    unfold ks
    rw [List.length_map]
    exact Nat.lt_of_le_of_lt hl2 (by decide)
  have g1 : (S ++ [D.lst (ks (sortK L))] ++ [D.lst (ks (sortK L))])[(S ++ [D.lst (ks (sortK L))]).length]? = some (.lst (ks (sortK L))) := DE.getElem?_snoc _ _
  have st : (S ++ [D.lst (ks (sortK L))] ++ [D.lst (ks (sortK L))]).set (S ++ [D.lst (ks (sortK L))]).length (D.lst (ks (sortK L) ++ [D.str "k"])) = S ++ [D.lst (ks (sortK L))] ++ [D.lst (ks (sortK L) ++ [D.str "k"])] := by
    rw [List.set_append]
    simp
  refine ⟨[.lst (ks (sortK L)), .lst (ks (sortK L) ++ [.str "k"]), .lst (ks (sortK L))], ?_, ?_⟩
  · have ap : dApp (dVar 4) (aCons (dC (.str "k")) aNil) [some d, some (.lst (L.map Ent.d)), some (.lst ((sortK L).map Ent.d)), none, some (.own (S ++ [D.lst (ks (sortK L))]).length), none, none, none] (S ++ [D.lst (ks (sortK L))] ++ [.lst (ks (sortK L))]) = .ok .non (S ++ [D.lst (ks (sortK L))] ++ [D.lst (ks (sortK L) ++ [D.str "k"])]) := by
      simp only [dApp, e_dVar, List.getElem?_cons_succ, List.getElem?_cons_zero, RE.bind_ok, g1, e_aCons, e_aNil, e_dC, kl, if_true, st]
    have it : iOf (dVar 1) [some d, some (.lst (L.map Ent.d)), some (.lst ((sortK L).map Ent.d)), none, some (.own (S ++ [D.lst (ks (sortK L))]).length), none, none, none] (S ++ [D.lst (ks (sortK L))] ++ [D.lst (ks (sortK L) ++ [D.str "k"])] ++ [.lst (ks (sortK L))]) = .ok (L.map Ent.d) (S ++ [D.lst (ks (sortK L))] ++ [D.lst (ks (sortK L) ++ [D.str "k"])] ++ [.lst (ks (sortK L))]) := by
      simp [itemsOf, hcL]
    have a1 : sAsg (dBlt LM.oSortedH (aCons (dVar 1) aNil)) (gN 2) [some d, some (.lst (L.map Ent.d)), none, none, none, none, none, none] S = .nx [some d, some (.lst (L.map Ent.d)), some (.lst ((sortK L).map Ent.d)), none, none, none, none, none] S := by simp [so]
    have a2 : sAsg (dMeth "key_list" 1 [("Content", F_Content_key_list)] (dVar 0) aNil) (gN 4) [some d, some (.lst (L.map Ent.d)), some (.lst ((sortK L).map Ent.d)), none, none, none, none, none] (S ++ [.lst (ks (sortK L))]) = .nx [some d, some (.lst (L.map Ent.d)), some (.lst ((sortK L).map Ent.d)), none, some (.own (S ++ [D.lst (ks (sortK L))]).length), none, none, none] (S ++ [D.lst (ks (sortK L))] ++ [.lst (ks (sortK L))]) := by
      simp only [e_sAsg, km, RE.stm_ok, e_gN, List.set_cons_succ, List.set_cons_zero]
    simp only [F_law_told, e_fnD, told_split]
    simp only [List.map_cons, List.map_nil, List.length_cons, List.length_nil, Nat.reduceAdd, Nat.reduceSub, List.replicate, List.cons_append, List.nil_append]
    simp only [e_sSeq, a1, seq_nx, t1, a2, e_sExpr, ap, RE.stm_ok, t2, e_sFor, it, lp, t3, fin_rt]
    simp
  · have f1 := free_ks (sortK L) [] rfl
    have f2 := free_ks (sortK L) [.str "k"] rfl
    rw [List.append_nil] at f1
    show List.all [_, _, _] LM.freeC = true
    simp [f1, f2]
end
end G

set_option maxHeartbeats 4000000
/-! what is refused, and how it is told -/
namespace G
open PySem L2 DE
def tabL : D := .tab "law" none "law.<locals>.<lambda>"
structure Shown (o : D) : Prop where
  ex : ∃ x, (∀ S, oRepr [o] S = .ok (.str x) S) ∧ PyData.strOk x = true
theorem shown_of {o : D} {p : PyData} {x : Str} (tp : toPy o = some p) (r : reprOf p = some x) (ok : PyData.strOk x = true) : Shown o :=
  ⟨x, fun S => by
    cases o <;> first
      | (cases tp; done)
      | simp only [oRepr, tp, Option.bind_some, r], ok⟩
theorem rep_py {o : D} {p : PyData} (tp : toPy o = some p) (pl : plnD p = true) (w : p.weight ≤ 1300) (dp : p.depth ≤ 60) : Shown o := by
  have sl := plain_len pl
  have r : reprOf p = some p.shown := by
    unfold reprOf
    rw [if_pos ⟨(plain_show p pl).1, dp, by unfold cap; omega⟩]
  exact shown_of tp r (shown_asc p pl).strOk
theorem ne_rep {t x : Str} (ht : PyData.strOk t = true) (hx : PyData.strOk x = true) (S : Sto) : oNe (.lst [.str t, .str x, .bl true]) (.lst [.str t, .str x, .bl true]) S = .ok (.bl false) S := by
  have s : SeqAt.shaped (.list [.str t, .str x, .bool true]) = true := by
    simp [SeqAt.shaped, PyData.canLay0, PyData.canLayAll0, PyData.depth, PyData.depthAll, ht, hx]
  have e : toPy (.lst [.str t, .str x, .bl true]) = some (.list [.str t, .str x, .bool true]) := rfl
  have q : PyData.eqv (.list [.str t, .str x, .bool true]) (.list [.str t, .str x, .bool true]) = true := eqv_nd _ (toPy_nd e)
  unfold oNe eqD
  simp only [e, s, and_self, if_true, q]
  rfl
section
variable {fb : ME} {ρ : DE.Env} {S S1 : Sto} {o : D} {x : Str}
theorem cl_0a : LM.clT [("BadEntries", true), ("BadKey", false), ("NoEntry", false)] "BadEntries" = some true := by decide +kernel
theorem cl_0b : LM.clT [("BadEntries", true), ("BadKey", false), ("NoEntry", false)] "BadKey" = some false := by decide +kernel
theorem cl_0c : LM.clT [("BadEntries", true), ("BadKey", false), ("NoEntry", false)] "NoEntry" = some false := by decide +kernel
theorem cl_1b : LM.clT [("BadEntries", false), ("BadKey", true), ("NoEntry", false)] "BadKey" = some true := by decide +kernel
theorem cl_1c : LM.clT [("BadEntries", false), ("BadKey", true), ("NoEntry", false)] "NoEntry" = some false := by decide +kernel
theorem cl_2c : LM.clT [("BadEntries", false), ("BadKey", false), ("NoEntry", true)] "NoEntry" = some true := by decide +kernel
theorem kt_0 : ktD "BadEntries" TG TT (.glo "TombError") = some true := by decide +kernel
theorem kt_1 : ktD "BadKey" TG TT (.glo "TombError") = some true := by decide +kernel
theorem kt_2 : ktD "NoEntry" TG TT (.ty "KeyError") = some true := by decide +kernel
theorem lk_val (d : D) : List.lookup (Str.ofString "value") [(Str.ofString "value", d)] = some d := by simp [List.lookup_cons]
theorem lam_es (h1 : S[1]? = some tabL) (hr : ∀ S, oRepr [o] S = .ok (.str x) S) (e : fb ρ S = .exc (BadEs o) S1) : LM.dLam 1 "law" none "law.<locals>.<lambda>" HL_law_refused fb ρ S = .ok (.lst [.str "entries", .str x, .bl true]) S1 := by
  unfold LM.dLam
  rw [h1]
  simp only [tabL, and_self, if_true, e, LM.lamR, HL_law_refused, BadEs, LM.goH, cl_0a]
  simp [LM.env3, H_law_refused_0, dXf, oXi, kt_0, hr, lk_val]
theorem lam_key (h1 : S[1]? = some tabL) (hr : ∀ S, oRepr [o] S = .ok (.str x) S) (e : fb ρ S = .exc (BadK o) S1) : LM.dLam 1 "law" none "law.<locals>.<lambda>" HL_law_refused fb ρ S = .ok (.lst [.str "key", .str x, .bl true]) S1 := by
  unfold LM.dLam
  rw [h1]
  simp only [tabL, and_self, if_true, e, LM.lamR, HL_law_refused, BadK, LM.goH, cl_0b, cl_1b]
  simp [LM.env3, H_law_refused_1, dXf, oXi, kt_1, hr, lk_val]
theorem lam_none (h1 : S[1]? = some tabL) (hr : ∀ S, oRepr [o] S = .ok (.str x) S) (e : fb ρ S = .exc (NoE o) S1) : LM.dLam 1 "law" none "law.<locals>.<lambda>" HL_law_refused fb ρ S = .ok (.lst [.str "none", .str x, .bl true]) S1 := by
  unfold LM.dLam
  rw [h1]
  simp only [tabL, and_self, if_true, e, LM.lamR, HL_law_refused, NoE, LM.goH, cl_0c, cl_1c, cl_2c]
  simp [LM.env3, H_law_refused_2, dXf, oXi, kt_2, hr, lk_val]
end
/-! no entries -/
theorem init_bad {o : D} (fz : ∀ S, LM.frzD S (some o) = some o) (ha : F_are_entries [o] [] = .ok (.bl false) []) (S : Sto) :
    makeF "Content" (bindF 2 2 (fun ds _ => ds) F_Content___init__) [o] S = .exc (BadEs o) (S ++ [.obj "Content" []]) := by
  have fo : LM.frzD (S ++ [D.obj "Content" []]) (some (.own S.length)) = none := by
    simp only [LM.frzD, DE.getElem?_snoc]
  have fin : F_Content___init__ [.own S.length, o] (S ++ [D.obj "Content" []]) = .exc (BadEs o) (S ++ [.obj "Content" []]) := by
    simp [F_Content___init__, e_fnD, B_Content___init__, fz, fo, ha, LM.flatD, BadEs]
  unfold makeF bindF
  simp [fin]
theorem blsOf_map (b : D → Bool) : ∀ ds : List D, blsOf (ds.map fun x => D.bl (b x)) = some (ds.map b)
  | [] => rfl
  | x :: L => by simp [blsOf, blsOf_map b L]
theorem oAll_map (b : D → Bool) (ds : List D) (S : Sto) : oAll [.lst (ds.map fun x => D.bl (b x))] S = .ok (.bl (ds.all b)) S := by
  simp only [oAll, blsOf_map]
  rw [List.all_map]
  rfl
theorem are_no {ds : List D} {b : D → Bool} {d : D} {S : Sto} (hd : d = .lst ds ∨ d = .tup ds) (h : ∀ x ∈ ds, F_is_entry [x] S = .ok (.bl (b x)) S) (hb : ds.all b = false) (hl : ds.length ≤ 1000) : F_are_entries [d] S = .ok (.bl false) S := by
  have hc : ds.length ≤ cap := Nat.le_trans hl (by decide)
  have lc : loopC [1] (gN 1) mYes (dCall 1 F_is_entry [] (aCons (dVar 1) aNil)) [some d, none] ds S = .ok (ds.map fun x => .bl (b x)) S :=
    loopC_map (r := fun x => [some d, some x]) (v := fun x => .bl (b x)) fun x hx => ⟨by simp [wipeD], by simp, by simp [h x hx]⟩
  have oa := oAll_map b ds S
  rw [hb] at oa
  rcases hd with rfl | rfl
  · simp [F_are_entries, e_fnD, B_are_entries, oIsi, tyName, tyNamesOf, tyList, subT, itemsOf, hc, lc, oa]
  · simp [F_are_entries, e_fnD, B_are_entries, oIsi, tyName, tyNamesOf, tyList, subT, itemsOf, hc, lc, oa]
theorem loopSC_dup {own : List Nat} {g : MG} {t : MT} {e : ME} {ρ : DE.Env} {S : Sto} {r : D → DE.Env} {z : Ent} : ∀ (L : List Ent) (acc : List Key), (∀ x, x ∈ L ∨ x = z → g x.d (wipeD ρ own) = some (r x.d) ∧ t (r x.d) S = .ok true S ∧ e (r x.d) S = .ok (.str x.k) S) →
    (L.map Ent.k).Nodup → (∀ x ∈ L, Sum.inr x.k ∉ acc) → (Sum.inr z.k ∈ acc ∨ z.k ∈ L.map Ent.k) → LM.loopSC own g t e ρ (L.map Ent.d ++ [z.d]) acc S = .ok (.int ((acc.length : Nat) + (L.length : Nat) : Int)) S
  | [], acc, h, _, _, hz => by
    obtain ⟨h1, h2, h3⟩ := h z (.inr rfl)
    have hz : Sum.inr z.k ∈ acc := hz.elim id fun y => by simp at y
    have hk : LM.hasK acc (.inr z.k) = true := by
      unfold LM.hasK
      exact List.any_eq_true.mpr ⟨_, hz, by simp⟩
    rw [List.map_nil, List.nil_append]
    unfold LM.loopSC
    rw [h1]
    simp only [h2, h3, LM.keyD, LM.addK, hk]
    rw [if_pos trivial]
    simp [LM.loopSC]
  | x :: L, acc, h, nd, ha, hz => by
    obtain ⟨h1, h2, h3⟩ := h x (.inl List.mem_cons_self)
    rw [List.map_cons, List.nodup_cons] at nd
    have hk : LM.hasK acc (.inr x.k) = false := by
      unfold LM.hasK
      rw [List.any_eq_false]
      intro y hy
      have := ha x List.mem_cons_self
      simp only [decide_eq_true_eq]
      rintro rfl
      exact this hy
    have ih := loopSC_dup (z := z) L (acc ++ [.inr x.k]) (fun y hy => h y (hy.imp (List.mem_cons_of_mem _) id)) nd.2 (fun y hy hm => by
      rcases List.mem_append.mp hm with hm | hm
      · exact ha y (List.mem_cons_of_mem _ hy) hm
      · have e1 : y.k = x.k := by simpa using hm
        exact nd.1 (e1 ▸ List.mem_map_of_mem hy)) (by
      rcases hz with hz | hz
      · exact .inl (List.mem_append_left _ hz)
      · rcases List.mem_cons.mp hz with hz | hz
        · exact .inl (List.mem_append_right _ (by rw [hz]; exact List.mem_singleton.mpr rfl))
        · exact .inr hz)
    rw [List.map_cons, List.cons_append]
    unfold LM.loopSC
    rw [h1]
    simp only [h2, h3, LM.keyD, LM.addK, hk]
    rw [if_neg (by decide), ih]
    congr 2
    simp
    omega
theorem are_dup {L : List Ent} {z : Ent} (g : GoodL L) (gz : GoodE z) (hz : z.k ∈ L.map Ent.k) (hl : L.length ≤ 900) (S : Sto) : F_are_entries [.lst (L.map Ent.d ++ [z.d])] S = .ok (.bl false) S := by
  have hl2 : (L.map Ent.d ++ [z.d]).length ≤ 1000 := by simp; omega
  have hc : L.length + 1 ≤ cap := Nat.le_trans (show L.length + 1 ≤ 1000 by omega) (by decide)
  have h4 : L.length + 1 ≤ 4000 := by omega
  have ent : ∀ x ∈ L.map Ent.d ++ [z.d], F_is_entry [x] S = .ok (.bl true) S := fun x hx => by
    rcases List.mem_append.mp hx with hx | hx
    · obtain ⟨e, he, rfl⟩ := List.mem_map.mp hx
      exact is_entry_ok (g.all e he) S
    · rw [List.mem_singleton.mp hx]
      exact is_entry_ok gz S
  generalize hd : D.lst (L.map Ent.d ++ [z.d]) = d
  have lc : loopC [1] (gN 1) mYes (dCall 1 F_is_entry [] (aCons (dVar 1) aNil)) [some d, none] (L.map Ent.d ++ [z.d]) S = .ok ((L.map Ent.d ++ [z.d]).map fun _ => .bl true) S :=
    loopC_map (r := fun x => [some d, some x]) (v := fun _ => .bl true) fun x hx => ⟨by simp [wipeD], by simp, by simp [ent x hx]⟩
  have sc := loopSC_dup (own := [1]) (g := gN 1) (t := mYes) (e := dBin oIx (dVar 1) (dC (.int 0))) (ρ := [some d, none]) (S := S) (r := fun x => [some d, some x]) (z := z) L [] (fun x _ => ⟨by simp [wipeD], by simp, by simp [Ent.d]⟩) g.nd (fun x _ h => by cases h) (.inr hz)
  have oa := oAll_map (fun _ => true) (L.map Ent.d ++ [z.d]) S
  have al : (L.map Ent.d ++ [z.d]).all (fun _ => true) = true := by simp
  rw [al] at oa
  subst hd
  generalize hds : L.map Ent.d ++ [z.d] = ds at *
  have len : ds.length = L.length + 1 := by rw [← hds]; simp
  have hcd : ds.length ≤ cap := by rw [len]; exact hc
  have h4d : ds.length ≤ 4000 := by rw [len]; exact h4
  simp [F_are_entries, e_fnD, B_are_entries, oIsi, tyName, tyNamesOf, tyList, subT, itemsOf, hcd, h4d, lc, sc, oa, oLen, seqOf]
  omega
end G

set_option maxHeartbeats 4000000
/-! the odd values; the two loops over them -/
namespace G
open PySem L2 DE
def qE : Ent := ⟨"q", 1, "ann", .non⟩
def q2E : Ent := ⟨"q", 2, "bob", .str "x"⟩
def r0D : D := .tup [.str "r", .tup [.int 0, .str "ann"], .str "x"]
theorem wd_q : WdS "q" := wd _ (fun S => by kernel_rfl) (by decide +kernel)
theorem good_q : GoodE qE := ⟨wd_q, by decide, wd_ann, .non⟩
theorem good_q2 : GoodE q2E := ⟨wd_q, by decide, wd_bob, vl_x⟩
abbrev more (L : List Ent) : List Ent := L ++ [qE]
theorem more_good {L : List Ent} (dr : Drawn L) : GoodL (more L) := ⟨fun x hx => by
  rcases List.mem_append.mp hx with hx | hx
  · exact dr.good.all x hx
  · rw [List.mem_singleton.mp hx]; exact good_q, by
  rw [List.map_append, List.nodup_append]
  refine ⟨dr.good.nd, by simp, fun b hb c hc z => ?_⟩
  subst z
  rw [List.map_singleton, List.mem_singleton] at hc
  obtain ⟨y, hy, e5⟩ := List.mem_map.mp hb
  exact (dr.sm y hy).ko.2 (by rw [e5, hc]; rfl)⟩
/-! texts of lists -/
theorem toPys_app : ∀ {xs ys : List D} {ps qs : List PyData}, toPys xs = some ps → toPys ys = some qs → toPys (xs ++ ys) = some (ps ++ qs)
  | [], ys, ps, qs, h, h2 => by
    cases h
    exact h2
  | x :: xs, ys, ps, qs, h, h2 => by
    simp only [toPys] at h
    cases e1 : toPy x with
    | none => simp only [e1] at h; cases h
    | some p =>
      cases e2 : toPys xs with
      | none => simp only [e1, e2] at h; cases h
      | some r =>
        simp only [e1, e2] at h
        cases h
        have i := toPys_app e2 h2
        simp only [List.cons_append, toPys, e1, i]
theorem weight_app (qs : List PyData) : ∀ ps : List PyData, PyData.weightAll (ps ++ qs) = PyData.weightAll ps + PyData.weightAll qs
  | [] => by simp [PyData.weightAll]
  | p :: ps => by
    have := weight_app qs ps
    simp only [List.cons_append, PyData.weightAll, this]
    omega
theorem depth_app (qs : List PyData) : ∀ ps : List PyData, PyData.depthAll (ps ++ qs) = max (PyData.depthAll ps) (PyData.depthAll qs)
  | [] => by simp [PyData.depthAll]
  | p :: ps => by
    have := depth_app qs ps
    simp only [List.cons_append, PyData.depthAll, this]
    omega
theorem plnD_e {e : Ent} (g : GoodE e) : plnD (pyE e) = true := by
  have s : ∀ x : Str, okD 0 (.str x) = true → plnD (.str x) = true := fun x h => by
    simp only [okD, Bool.and_eq_true] at h
    exact h.2
  have n : plnD (.int e.n) = true := by
    have := g.n
    simp only [plnD, decide_eq_true_eq]
    omega
  have v : ∀ v, VlD v → plnD (pyV v) = true := fun v h => by
    cases h with
    | non => rfl
    | str x h o => exact s x o
  have a := s _ g.a.ok
  have k := s _ g.k.ok
  have w := v _ g.v
  simp only [pyE, pySt, sOf, plnD, plnDs] at a k n ⊢
  simp only [a, k, n, w, Bool.and_self]
theorem weight_e {e : Ent} (g : GoodE e) (s : Small e) : (pyE e).weight ≤ 90 := by
  have hn := g.n
  have i : (PyData.int e.n).weight ≤ 50 := by
    have ne : e.n ≠ 0 := by omega
    have nz : e.n.natAbs ≠ 0 := by omega
    have : e.n.natAbs.log2 < 50 := (Nat.log2_lt nz).mpr (by omega)
    have b : (e.n == 0) = false := by simpa using ne
    simp only [PyData.weight, b]
    simp
    omega
  have k := s.k
  have a := s.a
  have v := s.v
  simp only [PyData.weight] at i
  simp only [pyE, pySt, sOf, PyData.weight, PyData.weightAll]
  omega
theorem weight_l {L : List Ent} (d : Drawn L) : PyData.weightAll (L.map pyE) ≤ 91 * L.length := by
  obtain ⟨g, s⟩ := d
  have h := g.all
  clear g
  induction L with
  | nil => simp [PyData.weightAll]
  | cons x L ih =>
    have i := ih (fun e he => s e (List.mem_cons_of_mem _ he)) fun e he => h e (List.mem_cons_of_mem _ he)
    have w := weight_e (h x List.mem_cons_self) (s x List.mem_cons_self)
    simp only [List.map_cons, PyData.weightAll, List.length_cons]
    omega
theorem depth_l {L : List Ent} (h : ∀ e ∈ L, VlD e.v) : PyData.depthAll (L.map pyE) ≤ 2 := by
  induction L with
  | nil => simp [PyData.depthAll]
  | cons x L ih =>
    have i := ih fun e he => h e (List.mem_cons_of_mem _ he)
    have d : (pyE x).depth ≤ 2 := by
      have hv : ∀ v, VlD v → (pyV v).depth = 0 := fun v h => by cases h <;> simp [pyV, toPy, PyData.depth]
      have := hv _ (h x List.mem_cons_self)
      simp [pyE, pySt, PyData.depth, PyData.depthAll, this]
    simp only [List.map_cons, PyData.depthAll]
    omega
theorem rep_tail {L : List Ent} (dr : Drawn L) (hl : L.length ≤ 6) {tail : List D} {tp : List PyData} (e : toPys tail = some tp) (p : plnDs tp = true) (w : PyData.weightAll tp ≤ 300) (dp : PyData.depthAll tp ≤ 3) :
    Shown (.lst (L.map Ent.d ++ tail)) ∧ Shown (.lst [.lst (L.map Ent.d ++ tail)]) := by
  have t := toPys_app (toPys_ents dr.good.all) e
  have pl : plnDs (L.map pyE ++ tp) = true := plnDs_mem.mpr fun x hx => by
    rcases List.mem_append.mp hx with hx | hx
    · obtain ⟨z, hz, rfl⟩ := List.mem_map.mp hx
      exact plnD_e (dr.good.all z hz)
    · exact plnDs_mem.mp p x hx
  have wl := weight_l dr
  have dl := depth_l fun x hx => (dr.good.all x hx).v
  have wa := weight_app tp (L.map pyE)
  have da := depth_app tp (L.map pyE)
  constructor
  · refine rep_py (p := .list (L.map pyE ++ tp)) (by simp only [toPy, t, Option.map_some]) (by simpa only [plnD] using pl) ?_ ?_
    · simp only [PyData.weight]
      omega
    · simp only [PyData.depth]
      omega
  · refine rep_py (p := .list [.list (L.map pyE ++ tp)]) (by simp only [toPy, toPys, t, Option.map_some]) (by simp only [plnD, plnDs, pl, Bool.and_self]) ?_ ?_
    · simp only [PyData.weight, PyData.weightAll]
      omega
    · simp only [PyData.depth, PyData.depthAll]
      omega
/-! the first loop -/
structure Odd1 (o : D) : Prop where
  fz : ∀ S, LM.frzD S (some o) = some o
  no : F_are_entries [o] [] = .ok (.bl false) []
  sh : Shown o
def firstD (L : List Ent) : D := match L with
  | [] => qE.d
  | e :: _ => e.d
def ODD1 (L : List Ent) : List D := [.lst ((more L).map Ent.d ++ [q2E.d]), .lst ((more L).map Ent.d ++ [r0D]), .lst ((more L).map Ent.d ++ [.str "r"]), .lst ((more L).map Ent.d ++ [.non]), .lst [.lst ((more L).map Ent.d)], .non, .int 5, .str "k", .dK [], firstD L, .lst [qE.d, qE.d]]
theorem more_d (L : List Ent) (t : List D) : (more L).map Ent.d ++ t = L.map Ent.d ++ (qE.d :: t) := by simp
theorem dat_app {xs ys : List D} (a : LM.datDs xs = true) (b : LM.datDs ys = true) : LM.datDs (xs ++ ys) = true := by
  induction xs with
  | nil => exact b
  | cons x xs ih =>
    simp only [LM.datDs, Bool.and_eq_true] at a
    simp only [List.cons_append, LM.datDs, a.1, ih a.2, Bool.and_self]
theorem fz_lst {ds : List D} (h : LM.datDs ds = true) (S : Sto) : LM.frzD S (some (.lst ds)) = some (.lst ds) := by
  simp only [LM.frzD, LM.datD, h, if_true]
theorem dat_more {L : List Ent} (dr : Drawn L) : LM.datDs ((more L).map Ent.d) = true := dat_ents fun e he => ((more_good dr).all e he).v
open Classical in
theorem are_no2 {ds : List D} {d : D} {S : Sto} (hd : d = .lst ds ∨ d = .tup ds) (h : ∀ x ∈ ds, F_is_entry [x] S = .ok (.bl true) S ∨ F_is_entry [x] S = .ok (.bl false) S) (hb : ∃ x ∈ ds, F_is_entry [x] S = .ok (.bl false) S) (hl : ds.length ≤ 1000) : F_are_entries [d] S = .ok (.bl false) S := by
  refine are_no hd (b := fun x => decide (F_is_entry [x] S = .ok (.bl true) S)) (fun x hx => ?_) ?_ hl
  · rcases h x hx with h | h
    · rw [decide_eq_true h]
      exact h
    · rw [decide_eq_false (by rw [h]; intro z; cases z)]
      exact h
  · obtain ⟨x, hx, h⟩ := hb
    rw [List.all_eq_false]
    exact ⟨x, hx, by rw [h]; simp⟩
theorem ent_more {L : List Ent} (dr : Drawn L) (hl : L.length ≤ 6) {t : D} (ht : F_is_entry [t] [] = .ok (.bl false) []) : F_are_entries [.lst ((more L).map Ent.d ++ [t])] [] = .ok (.bl false) [] := by
  refine are_no2 (.inl rfl) (fun x hx => ?_) ⟨t, by simp, ht⟩ (by simp; omega)
  rcases List.mem_append.mp hx with hx | hx
  · obtain ⟨e, he, rfl⟩ := List.mem_map.mp hx
    exact .inl (is_entry_ok ((more_good dr).all e he) [])
  · rw [List.mem_singleton.mp hx]
    exact .inr ht
theorem ent_lst (ds : List D) : F_is_entry [.lst ds] [] = .ok (.bl false) [] := by
  simp [F_is_entry, e_fnD, B_is_entry, oIsi, tyName, tyList, subT]
theorem ent_str (x : Str) : F_is_entry [.str x] [] = .ok (.bl false) [] := by
  simp [F_is_entry, e_fnD, B_is_entry, oIsi, tyName, tyList, subT]
theorem ent_non : F_is_entry [.non] [] = .ok (.bl false) [] := by
  simp [F_is_entry, e_fnD, B_is_entry, oIsi, tyName, tyList, subT]
theorem ent_st (s : Stp) : F_is_entry [dSt s] [] = .ok (.bl false) [] := by
  simp [F_is_entry, e_fnD, B_is_entry, oIsi, tyName, tyList, subT, dSt, oLen, seqOf]
theorem ent_v {v : D} (h : VlD v) : F_is_entry [v] [] = .ok (.bl false) [] := by
  cases h with
  | non => exact ent_non
  | str x _ _ => exact ent_str x
theorem first_no (e : Ent) (g : GoodE e) : F_are_entries [e.d] [] = .ok (.bl false) [] := by
  refine are_no2 (ds := [.str e.k, e.st, e.v]) (.inr rfl) (fun x hx => ?_) ⟨.str e.k, by simp, ent_str e.k⟩ (by simp)
  simp only [List.mem_cons, List.not_mem_nil, or_false] at hx
  rcases hx with rfl | rfl | rfl
  · exact .inr (ent_str _)
  · exact .inr (ent_st (sOf e))
  · exact .inr (ent_v g.v)
theorem small_q : Small qE → True := fun _ => trivial
theorem first_sh (e : Ent) (g : GoodE e) (w : (pyE e).weight ≤ 1300) : Shown e.d := rep_py (toPy_d g) (plnD_e g) w (depth_e e g.v)
theorem first_odd {L : List Ent} (dr : Drawn L) : Odd1 (firstD L) := by
  cases L with
  | nil =>
    refine ⟨fun S => ?_, first_no qE good_q, first_sh qE good_q (by decide +kernel)⟩
    simp [firstD, qE, Ent.d, Ent.st, dSt, sOf, LM.frzD, LM.datD, LM.datDs]
  | cons e L =>
    have ge := dr.good.all e List.mem_cons_self
    refine ⟨fun S => ?_, first_no e ge, first_sh e ge (by have := weight_e ge (dr.sm e List.mem_cons_self); omega)⟩
    have dv := dat_v ge.v
    simp [firstD, Ent.d, Ent.st, dSt, sOf, LM.frzD, LM.datD, LM.datDs, dv]
theorem odd1_ok {L : List Ent} (dr : Drawn L) (hl : L.length ≤ 6) : ∀ o ∈ ODD1 L, Odd1 o := by
  have gm := more_good dr
  have dm := dat_more dr
  have hm : (more L).length ≤ 900 := by simp; omega
  intro o ho
  simp only [ODD1, List.mem_cons, List.not_mem_nil, or_false] at ho
  rcases ho with rfl | rfl | rfl | rfl | rfl | rfl | rfl | rfl | rfl | rfl | rfl
  · exact ⟨fz_lst (dat_app dm rfl), are_dup gm good_q2 (by simp [qE, q2E]) hm [], by rw [more_d]; exact (rep_tail dr hl (tail := [qE.d, q2E.d]) rfl (by decide +kernel) (by decide +kernel) (by decide +kernel)).1⟩
  · exact ⟨fz_lst (dat_app dm rfl), ent_more dr hl (by kernel_rfl), by rw [more_d]; exact (rep_tail dr hl (tail := [qE.d, r0D]) rfl (by decide +kernel) (by decide +kernel) (by decide +kernel)).1⟩
  · exact ⟨fz_lst (dat_app dm rfl), ent_more dr hl (ent_str _), by rw [more_d]; exact (rep_tail dr hl (tail := [qE.d, .str "r"]) rfl (by decide +kernel) (by decide +kernel) (by decide +kernel)).1⟩
  · exact ⟨fz_lst (dat_app dm rfl), ent_more dr hl ent_non, by rw [more_d]; exact (rep_tail dr hl (tail := [qE.d, .non]) rfl (by decide +kernel) (by decide +kernel) (by decide +kernel)).1⟩
  · refine ⟨fz_lst (by simp only [LM.datDs, LM.datD, dm, Bool.and_self]), are_no2 (.inl rfl) (fun x hx => .inr ?_) ⟨_, List.mem_singleton.mpr rfl, ent_lst _⟩ (by simp), ?_⟩
    · rw [List.mem_singleton.mp hx]
      exact ent_lst _
    · have := more_d L []
      rw [List.append_nil] at this
      rw [this]
      exact (rep_tail dr hl (tail := [qE.d]) rfl (by decide +kernel) (by decide +kernel) (by decide +kernel)).2
  · exact ⟨fun S => rfl, by kernel_rfl, rep_py (p := .none) rfl (by decide +kernel) (by decide +kernel) (by decide +kernel)⟩
  · exact ⟨fun S => rfl, by kernel_rfl, rep_py (p := .int 5) rfl (by decide +kernel) (by decide +kernel) (by decide +kernel)⟩
  · exact ⟨fun S => rfl, by kernel_rfl, rep_py (p := .str "k") rfl (by decide +kernel) (by decide +kernel) (by decide +kernel)⟩
  · exact ⟨fun S => rfl, by kernel_rfl, ⟨"{}", fun S => rfl, by decide +kernel⟩⟩
  · exact first_odd dr
  · exact ⟨fun S => rfl, by kernel_rfl, rep_py (p := .list [pyE qE, pyE qE]) rfl (by decide +kernel) (by decide +kernel) (by decide +kernel)⟩
theorem one_odd {o : D} (h : Odd1 o) {S : Sto} (h1 : S[1]? = some tabL) (o0 o1 o2 o3 o4 o5 o6 o7 o8 o9 o10 o11 : Option D) :
    L_law_2 [o0, o1, o2, o3, o4, o5, o6, o7, o8, o9, o10, o11, some o] S = .nx [o0, o1, o2, o3, o4, o5, o6, o7, o8, o9, o10, o11, some o] (S ++ [.obj "Content" []]) := by
  obtain ⟨x, hr, hx⟩ := h.sh.ex
  have ib := init_bad h.fz h.no S
  have lm := lam_es (fb := dCC 1 (makeF "Content" (bindF 2 2 (fun ds _ => ds) F_Content___init__)) (aCons (dVar 12) aNil)) (ρ := [o0, o1, o2, o3, o4, o5, o6, o7, o8, o9, o10, o11, some o]) h1 hr (S1 := S ++ [.obj "Content" []]) (by simp [ib])
  have ne := ne_rep (t := "entries") (by decide +kernel) hx (S ++ [.obj "Content" []])
  unfold L_law_2
  simp only [e_sIf, e_dTest, e_dBin, lm, RE.bind_ok]
  simp [hr, ne]
structure Odd2 (o : D) : Prop where
  sh : Shown o
  wd : (∀ S, F_is_word [o] S = .ok (.bl false) S) ∧ (∀ S, LM.oNeX o (.str "other") S = .ok (.bl true) S) ∨ o = .str "other"
def ODD2 : List D := [.non, .int 5, .str "", .str "other", .str "K", .tup [], .lst [], .dK [], .tup [.str "k"], .bl true]
theorem odd2_ok : ∀ o ∈ ODD2, Odd2 o := by
  intro o ho
  simp only [ODD2, List.mem_cons, List.not_mem_nil, or_false] at ho
  rcases ho with rfl | rfl | rfl | rfl | rfl | rfl | rfl | rfl | rfl | rfl
  · exact ⟨rep_py (p := .none) rfl (by decide +kernel) (by decide +kernel) (by decide +kernel), .inl ⟨fun S => by kernel_rfl, fun S => by kernel_rfl⟩⟩
  · exact ⟨rep_py (p := .int 5) rfl (by decide +kernel) (by decide +kernel) (by decide +kernel), .inl ⟨fun S => by kernel_rfl, fun S => by kernel_rfl⟩⟩
  · exact ⟨rep_py (p := .str "") rfl (by decide +kernel) (by decide +kernel) (by decide +kernel), .inl ⟨fun S => by kernel_rfl, fun S => by kernel_rfl⟩⟩
  · exact ⟨rep_py (p := .str "other") rfl (by decide +kernel) (by decide +kernel) (by decide +kernel), .inr rfl⟩
  · exact ⟨rep_py (p := .str "K") rfl (by decide +kernel) (by decide +kernel) (by decide +kernel), .inl ⟨fun S => by kernel_rfl, fun S => by kernel_rfl⟩⟩
  · exact ⟨rep_py (p := .tuple []) rfl (by decide +kernel) (by decide +kernel) (by decide +kernel), .inl ⟨fun S => by kernel_rfl, fun S => by kernel_rfl⟩⟩
  · exact ⟨rep_py (p := .list []) rfl (by decide +kernel) (by decide +kernel) (by decide +kernel), .inl ⟨fun S => by kernel_rfl, fun S => by kernel_rfl⟩⟩
  · exact ⟨⟨"{}", fun S => rfl, by decide +kernel⟩, .inl ⟨fun S => by kernel_rfl, fun S => by kernel_rfl⟩⟩
  · exact ⟨rep_py (p := .tuple [.str "k"]) rfl (by decide +kernel) (by decide +kernel) (by decide +kernel), .inl ⟨fun S => by kernel_rfl, fun S => by kernel_rfl⟩⟩
  · exact ⟨rep_py (p := .bool true) rfl (by decide +kernel) (by decide +kernel) (by decide +kernel), .inl ⟨fun S => by kernel_rfl, fun S => by kernel_rfl⟩⟩
theorem two_odd {o : D} (h : Odd2 o) {S : Sto} {c : D} {L : List Ent} {n : Nat} (hc : Con S c L n) (ho : look L "other" = none) (h1 : S[1]? = some tabL) (o0 o1 o2 o3 o5 o6 o7 o8 o9 o10 o11 : Option D) :
    L_law_1 [o0, o1, o2, o3, some c, o5, o6, o7, o8, o9, o10, o11, some o] S = .nx [o0, o1, o2, o3, some c, o5, o6, o7, o8, o9, o10, o11, some o] S := by
  obtain ⟨x, hr, hx⟩ := h.sh.ex
  have ob := hc.obj
  have ne1 := ne_rep (t := "none") (by decide +kernel) hx S
  have ne2 := ne_rep (t := "key") (by decide +kernel) hx S
  have ct : F_Content___contains__ [c, o] S = .ok (.bl false) S := by
    rcases h.wd with ⟨w, _⟩ | rfl
    · exact contains_no (w S)
    · have := contains_ok hc wd_other
      rw [ho] at this
      exact this
  have gi : F_Content___getitem__ [c, o] S = .exc (NoE o) S := by
    rcases h.wd with ⟨w, _⟩ | rfl
    · exact getitem_no (w S)
    · exact getitem_none hc wd_other ho
  have l1 := lam_none (fb := dBin (oIxO [("Content", F_Content___getitem__)]) (dVar 4) (dVar 12)) (ρ := [o0, o1, o2, o3, some c, o5, o6, o7, o8, o9, o10, o11, some o]) h1 hr (S1 := S) (by simp [ob, gi])
  unfold L_law_1
  rcases h.wd with ⟨w, nx⟩ | rfl
  · have sh : F_Content_shows [c, o] S = .exc (BadK o) S := shows_no (w S)
    have l2 := lam_key (fb := dMeth "shows" 2 [("Content", F_Content_shows)] (dVar 4) (aCons (dVar 12) aNil)) (ρ := [o0, o1, o2, o3, some c, o5, o6, o7, o8, o9, o10, o11, some o]) h1 hr (S1 := S) (by simp [ob, sh])
    simp [ob, ct, hr, ne1, ne2, nx, l1, l2]
  · have nx : LM.oNeX (.str "other") (.str "other") S = .ok (.bl false) S := by kernel_rfl
    simp [ob, ct, hr, ne1, nx, l1]
end G

set_option maxHeartbeats 4000000
/-! one cell of the law -/
namespace G
open PySem L2 DE
def Z1 : MS := (sAsg (dCall 2 F_law_pool [] (aCons (dVar 0) (aCons (dVar 1) aNil))) (gN 2))
def Z2 : MS := (sAsg (dCall 1 (LM.relF F_law_entries) [] (aCons (dVar 2) aNil)) (gN 3))
def Z3 : MS := (sAsg (dTup (aCons (dCC 1 (makeF "Content" (bindF 2 2 (fun ds _ => ds) F_Content___init__)) (aCons (dVar 3) aNil)) (aCons (dCC 1 (makeF "Content" (bindF 2 2 (fun ds _ => ds) F_Content___init__)) (aCons (dBlt oTuple (aCons (LM.dRevL (dVar 3)) aNil)) aNil)) aNil))) (gTL 2 (gsCons (gN 4) (gsCons (gN 5) gsNil))))
def Z4 : MS := (sIf (dOrT (dNotT (dTest (dCall 2 F_law_told [] (aCons (dVar 4) (aCons (dVar 3) aNil))))) (dOrT (dNotT (dTest (dCall 2 F_law_told [] (aCons (dVar 5) (aCons (dVar 3) aNil))))) (dTest (dBin (LM.oEqO true [("Content", F_Content___eq__)]) (dVar 4) (dVar 5)))))
    (sRet (dC (.bl false)))
    sNil)
def Z5 : MS := (sAsg (dBin oAdd (dVar 3) (dLst (aCons (dTup (aCons (dC (.str "q")) (aCons (dTup (aCons (dC (.int 1)) (aCons (dC (.str "ann")) aNil))) (aCons (dC .non) aNil)))) aNil))) (gN 6))
def Z6 : MS := (sIf (dOrT (dTest (dBin (LM.oEqO false [("Content", F_Content___eq__)]) (dVar 4) (dCC 1 (makeF "Content" (bindF 2 2 (fun ds _ => ds) F_Content___init__)) (aCons (dVar 6) aNil)))) (dOrT (dTest (dBin (LM.oEqX [("Content", F_Content___eq__)]) (dVar 4) (dVar 3))) (dTest (dBin (LM.oEqX [("Content", F_Content___eq__)]) (dVar 4) (dMeth "entries" 1 [("Content", F_Content_entries)] (dVar 4) aNil)))))
    (sRet (dC (.bl false)))
    sNil)
def Z7 : MS := (sIf (dTest (dBin oIsNot (dBin (LM.oEqO true [("Content", F_Content___eq__)]) (dVar 4) (dVar 5)) (dC (.bl false))))
    (sRet (dC (.bl false)))
    sNil)
def Z8 : MS := (sIf (dTest (dBin oNe (dVar 3) (dLst aNil)))
    (sSeq (sAsg (dBin oIx (dVar 3) (dC (.int 0))) (gTL 3 (gsCons (gN 7) (gsCons (gN 8) (gsCons (gN 9) gsNil)))))
    (sSeq (sAsg (dLst (aCons (dCC 1 (makeF "Content" (bindF 2 2 (fun ds _ => ds) F_Content___init__)) (aCons (dBin oAdd (dLst (aCons (dTup (aCons (dVar 7) (aCons (dVar 8) (aCons (dC (.str "other")) aNil)))) aNil)) (dSl (dVar 3) (oPart (dC (.int 1))) oNoPart)) aNil)) (aCons (dCC 1 (makeF "Content" (bindF 2 2 (fun ds _ => ds) F_Content___init__)) (aCons (dBin oAdd (dLst (aCons (dTup (aCons (dVar 7) (aCons (dTup (aCons (dC (.int 7)) (aCons (dC (.str "zed")) aNil))) (aCons (dVar 9) aNil)))) aNil)) (dSl (dVar 3) (oPart (dC (.int 1))) oNoPart)) aNil)) aNil))) (gN 10))
    (sIf (dOrT (dTest (dBin (LM.oEqO false [("Content", F_Content___eq__)]) (dBin oIx (dVar 10) (dC (.int 0))) (dVar 4))) (dOrT (dTest (dBin (LM.oEqO false [("Content", F_Content___eq__)]) (dBin oIx (dVar 10) (dC (.int 1))) (dVar 4))) (dTest (dBin (LM.oEqO false [("Content", F_Content___eq__)]) (dBin oIx (dVar 10) (dC (.int 0))) (dBin oIx (dVar 10) (dC (.int 1)))))))
    (sRet (dC (.bl false)))
    sNil)))
    sNil)
def Z9 : MS := (sIf (dOrT (dTest (dBin (LM.oEqO true [("Content", F_Content___eq__)]) (dCC 0 (makeF "Content" (bindF 1 2 (fun ds _ => ds ++ [.tup []]) F_Content___init__)) aNil) (dCC 1 (makeF "Content" (bindF 2 2 (fun ds _ => ds) F_Content___init__)) (aCons (dLst aNil) aNil)))) (dOrT (dTest (dBin oNe (LM.dLenO [("Content", F_Content___len__)] (dCC 0 (makeF "Content" (bindF 1 2 (fun ds _ => ds ++ [.tup []]) F_Content___init__)) aNil)) (dC (.int 0)))) (dTest (dBin oIsNot (dMeth "shows" 2 [("Content", F_Content_shows)] (dCC 1 (makeF "Content" (bindF 2 2 (fun ds _ => ds) F_Content___init__)) (aCons (dVar 6) aNil)) (aCons (dC (.str "q")) aNil)) (dC .non)))))
    (sRet (dC (.bl false)))
    sNil)
def Z10 : MS := (sAsg (dLst (aCons (dBin oAdd (dVar 6) (dLst (aCons (dTup (aCons (dC (.str "q")) (aCons (dTup (aCons (dC (.int 2)) (aCons (dC (.str "bob")) aNil))) (aCons (dC (.str "x")) aNil)))) aNil))) (aCons (dBin oAdd (dVar 6) (dLst (aCons (dTup (aCons (dC (.str "r")) (aCons (dTup (aCons (dC (.int 0)) (aCons (dC (.str "ann")) aNil))) (aCons (dC (.str "x")) aNil)))) aNil))) (aCons (dBin oAdd (dVar 6) (dLst (aCons (dC (.str "r")) aNil))) (aCons (dBin oAdd (dVar 6) (dLst (aCons (dC .non) aNil))) (aCons (dLst (aCons (dVar 6) aNil)) aNil)))))) (gN 11))
def Z11 : MS := (sFor (iOf (dBin oAdd (dVar 11) (dLst (aCons (dC .non) (aCons (dC (.int 5)) (aCons (dC (.str "k")) (aCons dDictE (aCons (dBin oIx (dVar 6) (dC (.int 0))) (aCons (dBin oMul (dSl (dVar 6) (oPart (dNeg (dC (.int 1)))) oNoPart) (dC (.int 2))) aNil))))))))) (gN 12) L_law_2)
def Z12 : MS := (sFor (iOf (dLst (aCons (dC .non) (aCons (dC (.int 5)) (aCons (dC (.str "")) (aCons (dC (.str "other")) (aCons (dC (.str "K")) (aCons (dTup aNil) (aCons (dLst aNil) (aCons dDictE (aCons (dTup (aCons (dC (.str "k")) aNil)) (aCons (dC (.bl true)) aNil)))))))))))) (gN 12) L_law_1)
theorem Z_split : L_law_3 = (sSeq Z1 (sSeq Z2 (sSeq Z3 (sSeq Z4 (sSeq Z5 (sSeq Z6 (sSeq Z7 (sSeq Z8 (sSeq Z9 (sSeq Z10 (sSeq Z11 Z12))))))))))) := rfl

structure St (S : Sto) : Prop where
  h0 : S[0]? = some tabD
  h1 : S[1]? = some tabL
  fr : Fr S
theorem get_app {S : Sto} {i : Nat} {d : D} (h : S[i]? = some d) (T : Sto) : (S ++ T)[i]? = some d := by
  rw [List.getElem?_append_left (List.getElem?_eq_some_iff.mp h).1]
  exact h
theorem St.app {S : Sto} (s : St S) {T : Sto} (f : Fr T) : St (S ++ T) := ⟨get_app s.h0 T, get_app s.h1 T, s.fr.app f⟩
structure Sit (S : Sto) (a b : D) (L : List Ent) : Prop where
  st : St S
  ca : Con S a (sortK L) 100
  cb : Con S b (sortK L) 100
theorem Sit.app {S : Sto} {a b : D} {L : List Ent} (s : Sit S a b L) {T : Sto} (f : Fr T) : Sit (S ++ T) a b L := ⟨s.st.app f, s.ca.app T, s.cb.app T⟩
abbrev Mk1 : FD := makeF "Content" (bindF 2 2 (fun ds _ => ds) F_Content___init__)
abbrev Mk0 : FD := makeF "Content" (bindF 1 2 (fun ds _ => ds ++ [.tup []]) F_Content___init__)
/-- a new content -/
theorem mk_ok {S : Sto} (s : St S) {L : List Ent} (g : GoodL L) (hl : L.length ≤ 100) {d : D} (hd : d = .lst (L.map Ent.d) ∨ d = .tup (L.map Ent.d)) : ∃ x T, Mk1 [d] S = .ok x (S ++ T) ∧ Fr T ∧ Con (S ++ T) x (sortK L) 100 := by
  refine ⟨_, _, init_ok g (by omega) (hd.elim (fun e => e ▸ .lst) (fun e => e ▸ .tup)) s.h0, Fr.one (free_con (sortK_good g)), ?_⟩
  exact ⟨⟨_, rfl, DE.getElem?_snoc _ _⟩, sortK_good g, sortK_asc g.nd, by rw [(sortK_perm L).length_eq]; exact hl⟩
theorem mk0_ok {S : Sto} (s : St S) : ∃ x T, Mk0 [] S = .ok x (S ++ T) ∧ Fr T ∧ Con (S ++ T) x [] 100 :=
  ⟨_, _, init0_ok s.h0, Fr.one (by decide +kernel), ⟨⟨_, rfl, DE.getElem?_snoc _ _⟩, ⟨(fun e he => by cases he), List.nodup_nil⟩, List.Pairwise.nil, by decide⟩⟩
theorem sort_rev {L : List Ent} (nd : (L.map Ent.k).Nodup) : sortK L.reverse = sortK L := by
  have p : L.reverse.Perm L := L.reverse_perm
  have nd2 : (L.reverse.map Ent.k).Nodup := (p.map Ent.k).nodup_iff.mpr nd
  exact sortK_of nd2 (sortK_asc nd) fun k => by rw [look_sortK nd, look_perm nd p]
section
variable {S : Sto} {a b : D} {L : List Ent} {o0 o1 o2 o4 o5 o6 o7 o8 o9 o10 o11 o12 : Option D}
theorem Z3_ok (s : St S) (dr : Drawn L) (hl : L.length ≤ 6) : ∃ a b T, Z3 [o0, o1, o2, some (.lst (L.map Ent.d)), o4, o5, o6, o7, o8, o9, o10, o11, o12] S = .nx [o0, o1, o2, some (.lst (L.map Ent.d)), some a, some b, o6, o7, o8, o9, o10, o11, o12] (S ++ T) ∧ Sit (S ++ T) a b L := by
  obtain ⟨a, T, e1, f1, c1⟩ := mk_ok s dr.good (by omega) (.inl rfl)
  have gr : GoodL L.reverse := dr.good.perm L.reverse_perm
  obtain ⟨b, U, e2, f2, c2⟩ := mk_ok (s.app f1) gr (by simp; omega) (d := .tup (L.reverse.map Ent.d)) (.inr rfl)
  rw [sort_rev dr.good.nd] at c2
  rw [List.map_reverse] at e2
  refine ⟨a, b, T ++ U, ?_, ?_⟩
  · have rv : ∀ S, dBlt oTuple (aCons (LM.dRevL (dVar 3)) aNil) [o0, o1, o2, some (.lst (L.map Ent.d)), o4, o5, o6, o7, o8, o9, o10, o11, o12] S = .ok (.tup (L.map Ent.d).reverse) S := fun S => by simp [LM.dRevL, oTuple, listAt]
    unfold Z3
    simp only [e_sAsg, e_dTup, e_aCons, e_aNil, e_dCC, e_dVar, List.getElem?_cons_succ, List.getElem?_cons_zero, RE.bind_ok, List.length_cons, List.length_nil, Nat.reduceAdd, if_true, e1, rv, e2]
    simp
  · rw [← List.append_assoc]
    exact ⟨(s.app f1).app f2, c1.app U, c2⟩
theorem Z4_ok (s : Sit S a b L) (dr : Drawn L) (hl : L.length ≤ 6) : ∃ T, Z4 [o0, o1, o2, some (.lst (L.map Ent.d)), some a, some b, o6, o7, o8, o9, o10, o11, o12] S = .nx [o0, o1, o2, some (.lst (L.map Ent.d)), some a, some b, o6, o7, o8, o9, o10, o11, o12] (S ++ T) ∧ Fr T := by
  obtain ⟨T, e1, f1⟩ := told_ok s.ca (by decide) dr (by omega)
  have s1 := s.app f1
  obtain ⟨U, e2, f2⟩ := told_ok s1.cb (by decide) dr (by omega)
  have s2 := s1.app f2
  have n := neO_ok s2.ca s2.cb
  refine ⟨T ++ U, ?_, f1.app f2⟩
  rw [← List.append_assoc]
  unfold Z4
  simp only [e_sIf, e_dOrT, e_dNotT, e_dTest, e_dCall, e_aCons, e_aNil, e_dVar, List.getElem?_cons_succ, List.getElem?_cons_zero, RE.bind_ok, List.length_cons, List.length_nil, List.append_nil, Nat.reduceAdd, if_true, e1, onBl_bl, Bool.not_true, Bool.false_eq_true, if_false, e2, e_dBin, n, RE.stm_ok, e_sNil]
theorem Z5_ok (hl : L.length ≤ 6) : Z5 [o0, o1, o2, some (.lst (L.map Ent.d)), o4, o5, o6, o7, o8, o9, o10, o11, o12] S = .nx [o0, o1, o2, some (.lst (L.map Ent.d)), o4, o5, some (.lst ((more L).map Ent.d)), o7, o8, o9, o10, o11, o12] S := by
  have hc : L.length + 1 ≤ cap := Nat.le_trans (show L.length + 1 ≤ 7 by omega) (by decide)
  unfold Z5
  simp [oAdd, hc, qE, Ent.d, Ent.st, dSt, sOf]
theorem Z6_ok (s : Sit S a b L) (dr : Drawn L) (hl : L.length ≤ 6) : ∃ T, Z6 [o0, o1, o2, some (.lst (L.map Ent.d)), some a, some b, some (.lst ((more L).map Ent.d)), o7, o8, o9, o10, o11, o12] S = .nx [o0, o1, o2, some (.lst (L.map Ent.d)), some a, some b, some (.lst ((more L).map Ent.d)), o7, o8, o9, o10, o11, o12] (S ++ T) ∧ Fr T := by
  obtain ⟨x, T, e1, f1, c1⟩ := mk_ok s.st (more_good dr) (by simp; omega) (.inl rfl)
  have s1 := s.app f1
  have q := eqO_gen s1.ca c1
  have hb : ((sortK L).length == (sortK (more L)).length) = false := by
    rw [(sortK_perm L).length_eq, (sortK_perm _).length_eq]
    simp
  rw [hb, Bool.false_and] at q
  have x1 := (eqX_no s1.ca (L.map Ent.d)).1
  have x2 := (eqX_no s1.ca ((sortK L).map Ent.d)).2
  have en := entries_ok s1.ca (by decide)
  have ob := s1.ca.obj
  have m1 : ∀ ρ : DE.Env, ρ[4]? = some (some a) → dMeth "entries" 1 [("Content", F_Content_entries)] (dVar 4) aNil ρ (S ++ T) = .ok (.tup ((sortK L).map Ent.d)) (S ++ T) := fun ρ h => by simp [h, ob, en]
  refine ⟨T, ?_, f1⟩
  unfold Z6
  simp only [e_sIf, e_dOrT, e_dTest, e_dBin, e_dCC, e_aCons, e_aNil, e_dVar, List.getElem?_cons_succ, List.getElem?_cons_zero, RE.bind_ok, List.length_cons, List.length_nil, Nat.reduceAdd, if_true, e1, q, onBl_bl, Bool.false_eq_true, if_false, x1, m1, x2, RE.stm_ok, e_sNil]
theorem Z7_ok (s : Sit S a b L) (o3 : Option D) : Z7 [o0, o1, o2, o3, some a, some b, o6, o7, o8, o9, o10, o11, o12] S = .nx [o0, o1, o2, o3, some a, some b, o6, o7, o8, o9, o10, o11, o12] S := by
  have n := neO_ok s.ca s.cb
  unfold Z7
  simp [n]
end
end G

set_option maxHeartbeats 4000000
/-! one cell of the law, further -/
namespace G
open PySem L2 DE
theorem ne_nil {ds : List D} (h : okD 3 (.lst ds) = true) (S : Sto) : oNe (.lst ds) (.lst []) S = .ok (.bl (!ds.isEmpty)) S := by
  have e := eq_nil h S
  unfold oEq at e
  unfold oNe
  cases q : eqD (.lst ds) (.lst []) with
  | none => rw [q] at e; cases e
  | some b =>
    rw [q] at e
    simp only [RE.ok.injEq, D.bl.injEq, and_true] at e
    rw [e]
theorem cut1 {α : Type} (x : α) (xs : List α) : cutD (x :: xs) (some 1) none = xs := by
  have h : HT.sIx (x :: xs).length 0 (some 1) = 1 := by
    simp [HT.sIx]
    try omega
  have h2 : HT.sIx (x :: xs).length (x :: xs).length none = (x :: xs).length := by simp [HT.sIx]
  unfold cutD
  rw [h, h2]
  simp
theorem cutLast {α : Type} (xs : List α) (x : α) : cutD (xs ++ [x]) (some (-1)) none = [x] := by
  have h : HT.sIx (xs ++ [x]).length 0 (some (-1)) = xs.length := by
    simp [HT.sIx]
    try omega
  have h2 : HT.sIx (xs ++ [x]).length (xs ++ [x]).length none = (xs ++ [x]).length := by simp [HT.sIx]
  unfold cutD
  rw [h, h2]
  simp
theorem wd_zed : WdS "zed" := wd _ (fun S => by kernel_rfl) (by decide +kernel)
theorem vl_other : VlD (.str "other") := .str _ (fun S => by kernel_rfl) (by decide +kernel)
def near0 (e : Ent) : Ent := ⟨e.k, e.n, e.a, .str "other"⟩
def near1 (e : Ent) : Ent := ⟨e.k, 7, "zed", e.v⟩
theorem good_n0 {e : Ent} (g : GoodE e) : GoodE (near0 e) := ⟨g.k, g.n, g.a, vl_other⟩
theorem good_n1 {e : Ent} (g : GoodE e) : GoodE (near1 e) := ⟨g.k, by show (1 : Int) ≤ 7 ∧ (7 : Int) ≤ 1000000000000000; omega, wd_zed, g.v⟩
theorem good_head {e f : Ent} {L : List Ent} (g : GoodL (e :: L)) (h : GoodE f) (hk : f.k = e.k) : GoodL (f :: L) := ⟨fun x hx => by
  rcases List.mem_cons.mp hx with rfl | hx
  · exact h
  · exact g.all x (List.mem_cons_of_mem _ hx), by
  have := g.nd
  rw [List.map_cons] at this ⊢
  rw [hk]
  exact this⟩
theorem row_n0 {e : Ent} (s : Small e) : rowEq (near0 e) e = false := by
  have h := s.vo
  have p : pyV (.str "other") = .str "other" := rfl
  simp only [rowEq, near0, p, PyData.eqv, PyData.eqvAll, h, Bool.and_false, Bool.false_and]
theorem row_n1 {e : Ent} (s : Small e) : rowEq (near1 e) e = false := by
  have h : ("zed" : Str) ≠ e.a := fun z => s.az z.symm
  have b : PyData.eqv (.str "zed") (.str e.a) = false := by
    simp only [PyData.eqv]
    exact beq_eq_false_iff_ne.mpr h
  simp only [rowEq, near1, pySt, sOf, PyData.eqvAll, b, PySem.W.eqv_all_cons, Bool.and_false, Bool.false_and, PyData.eqv.eq_def (.tuple _), PyData.eqv.eq_def (.int _)]
theorem row_n01 {e : Ent} (s : Small e) : rowEq (near0 e) (near1 e) = false := by
  have h := s.az
  simp [rowEq, near0, near1, pySt, sOf, PyData.eqv, PyData.eqvAll, h]
theorem sort_mem {L : List Ent} {x : Ent} (h : x ∈ L) : x ∈ sortK L := (sortK_perm L).mem_iff.mpr h
section
variable {S : Sto} {a b : D} {L : List Ent} {o0 o1 o2 o4 o5 o6 o7 o8 o9 o10 o11 o12 : Option D}
theorem eq_diff {x y : D} {X Y : List Ent} {n m : Nat} (cx : Con S x (sortK X) n) (cy : Con S y (sortK Y) m) {e f : Ent} (he : e ∈ X) (hf : f ∈ Y) (nd : (Y.map Ent.k).Nodup) (hk : f.k = e.k) (hr : rowEq e f = false) : LM.oEqO false [("Content", F_Content___eq__)] x y S = .ok (.bl false) S := by
  have q := eqO_gen cx cy
  have lk : look (sortK Y) e.k = some f := by rw [look_sortK nd, ← hk]; exact look_mem nd hf
  rw [hit_false lk hr (sort_mem he), Bool.and_false] at q
  exact q
theorem Z8_ok (s : Sit S a b L) (dr : Drawn L) (hl : L.length ≤ 6) : ∃ u7 u8 u9 u10 T, Z8 [o0, o1, o2, some (.lst (L.map Ent.d)), some a, o5, o6, o7, o8, o9, o10, o11, o12] S = .nx [o0, o1, o2, some (.lst (L.map Ent.d)), some a, o5, o6, u7, u8, u9, u10, o11, o12] (S ++ T) ∧ Fr T := by
  have nn := fun S => ne_nil (okD_lst (ds := L.map Ent.d) (fun d hd => by
    obtain ⟨e, he, rfl⟩ := List.mem_map.mp hd
    exact ok_d (dr.good.all e he)) (by simp; omega)) S
  cases L with
  | nil =>
    refine ⟨o7, o8, o9, o10, [], ?_, rfl⟩
    have n0 := nn S
    simp only [List.map_nil, List.isEmpty_nil, Bool.not_true] at n0
    unfold Z8
    simp [n0]
  | cons e L =>
    have ge := dr.good.all e List.mem_cons_self
    have se := dr.sm e List.mem_cons_self
    have g0 := good_head dr.good (good_n0 ge) rfl
    have g1 := good_head dr.good (good_n1 ge) rfl
    have hl1 : L.length + 1 ≤ 6 := by simpa using hl
    obtain ⟨x0, T0, e0, f0, c0⟩ := mk_ok s.st g0 (by simp; omega) (.inl rfl)
    have s0 := s.app f0
    obtain ⟨x1, T1, e1, f1, c1⟩ := mk_ok s0.st g1 (by simp; omega) (.inl rfl)
    have s1 := s0.app f1
    have c0' := c0.app T1
    have q0 := eq_diff c0' s1.ca (e := near0 e) (f := e) List.mem_cons_self List.mem_cons_self dr.good.nd rfl (row_n0 se)
    have q1 := eq_diff c1 s1.ca (e := near1 e) (f := e) List.mem_cons_self List.mem_cons_self dr.good.nd rfl (row_n1 se)
    have q2 := eq_diff c0' c1 (e := near0 e) (f := near1 e) List.mem_cons_self List.mem_cons_self g1.nd rfl (row_n01 se)
    have hc : 1 + L.length ≤ cap := Nat.le_trans (show 1 + L.length ≤ 6 by omega) (by decide)
    have n0 := nn S
    simp only [List.map_cons, List.isEmpty_cons, Bool.not_false] at n0
    have ix0 : ∀ (ds : List D) (x : D) (S : Sto), oIx (.lst (x :: ds)) (.int 0) S = .ok x S := fun ds x S => by
      simp [oIx, seqOf, atI, ixN]
    have ix1 : ∀ (x y : D) (S : Sto), oIx (.lst [x, y]) (.int 1) S = .ok y S := fun x y S => by simp [oIx, seqOf, atI, ixN]
    refine ⟨some (.str e.k), some e.st, some e.v, some (.lst [x0, x1]), T0 ++ T1, ?_, f0.app f1⟩
    rw [← List.append_assoc]
    simp only [List.map_cons] at e0 e1
    have a0 : ∀ S, oAdd (.lst [.tup [.str e.k, e.st, .str "other"]]) (.lst (L.map Ent.d)) S = .ok (.lst ((near0 e).d :: L.map Ent.d)) S := fun S => by simp [oAdd, hc, near0, Ent.d, Ent.st, dSt, sOf]
    have a1 : ∀ S, oAdd (.lst [.tup [.str e.k, .tup [.int 7, .str "zed"], e.v]]) (.lst (L.map Ent.d)) S = .ok (.lst ((near1 e).d :: L.map Ent.d)) S := fun S => by simp [oAdd, hc, near1, Ent.d, Ent.st, dSt, sOf]
    unfold Z8
    simp only [List.map_cons, e_sIf, e_dTest, e_dBin, e_dVar, List.getElem?_cons_succ, List.getElem?_cons_zero, RE.bind_ok, e_dLst, e_aNil, e_aCons, List.length_nil, cap_0, if_true, n0, onBl_bl, RE.stm_ok, e_sSeq, e_sAsg, e_dC, ix0]
    have gt : gTL 3 (gsCons (gN 7) (gsCons (gN 8) (gsCons (gN 9) gsNil))) e.d [o0, o1, o2, some (.lst (e.d :: L.map Ent.d)), some a, o5, o6, o7, o8, o9, o10, o11, o12] = some [o0, o1, o2, some (.lst (e.d :: L.map Ent.d)), some a, o5, o6, some (.str e.k), some e.st, some e.v, o10, o11, o12] := by simp [Ent.d]
    rw [gt]
    simp only [RE.stm_ok, seq_nx, e_sSeq, e_sAsg, e_dLst, e_aCons, e_aNil, e_dCC, e_dBin, e_dTup, e_dVar, e_dC, e_dSl, e_oPart, e_oNoPart, onInt_int, List.getElem?_cons_succ, List.getElem?_cons_zero, RE.bind_ok, List.length_cons, List.length_nil, Nat.reduceAdd, cap_1, cap_2, cap_3, if_true, slD, cut1, a0, e0, a1, e1, e_gN, List.set_cons_succ, List.set_cons_zero, e_sIf, e_dOrT, e_dTest, ix0, ix1, q0, q1, q2, onBl_bl, Bool.false_eq_true, if_false, e_sNil]
end
end G

set_option maxHeartbeats 4000000
/-! the law -/
namespace G
open PySem L2 DE
theorem lenO_of {S S1 : Sto} {ρ : DE.Env} {f : ME} {x : D} {L : List Ent} {n : Nat} (e : f ρ S = .ok x S1) (c : Con S1 x L n) (hn : n ≤ 1000) : LM.dLenO [("Content", F_Content___len__)] f ρ S = .ok (.int L.length) S1 := by
  have ob := c.obj
  have l := len_ok c
  have := c.len
  have h : (0 : Int) ≤ L.length ∧ (L.length : Int) < 2 ^ 63 := by constructor <;> omega
  unfold LM.dLenO
  simp only [e, RE.bind_ok, ob, lkC, l]
  rw [if_pos h]
theorem good_nil : GoodL [] := ⟨(fun e he => by cases he), List.nodup_nil⟩
section
variable {S : Sto} {a b : D} {L : List Ent} {o0 o1 o2 o3 o4 o5 o6 o7 o8 o9 o10 o11 o12 : Option D}
theorem Z9_ok (s : Sit S a b L) (dr : Drawn L) (hl : L.length ≤ 6) : ∃ T, Z9 [o0, o1, o2, o3, o4, o5, some (.lst ((more L).map Ent.d)), o7, o8, o9, o10, o11, o12] S = .nx [o0, o1, o2, o3, o4, o5, some (.lst ((more L).map Ent.d)), o7, o8, o9, o10, o11, o12] (S ++ T) ∧ Fr T := by
  obtain ⟨x0, T0, e0, f0, c0⟩ := mk0_ok s.st
  have s0 := s.app f0
  obtain ⟨x1, T1, e1, f1, c1⟩ := mk_ok s0.st good_nil (by decide) (d := .lst []) (.inl rfl)
  have sn : sortK [] = [] := by simp [sortK]
  rw [sn] at c1
  have s1 := s0.app f1
  have n1 := neO_ok (c0.app T1) c1
  obtain ⟨x2, T2, e2, f2, c2⟩ := mk0_ok s1.st
  have s2 := s1.app f2
  obtain ⟨x3, T3, e3, f3, c3⟩ := mk_ok s2.st (more_good dr) (by simp; omega) (.inl rfl)
  have lk : look (sortK (more L)) "q" = some qE := by
    rw [look_sortK (more_good dr).nd]
    exact look_mem (more_good dr).nd (e := qE) (by simp)
  have sh := shows_ok c3 wd_q lk
  have ob := c3.obj
  refine ⟨T0 ++ T1 ++ T2 ++ T3, ?_, ((f0.app f1).app f2).app f3⟩
  have l2 := lenO_of (f := dCC 0 Mk0 aNil) (ρ := [o0, o1, o2, o3, o4, o5, some (.lst ((more L).map Ent.d)), o7, o8, o9, o10, o11, o12]) (S := S ++ T0 ++ T1) (S1 := S ++ T0 ++ T1 ++ T2) (by simp only [e_dCC, e_aNil, RE.bind_ok, List.length_nil, if_true, e2]) c2 (by decide)
  have sq : dMeth "shows" 2 [("Content", F_Content_shows)] (dCC 1 Mk1 (aCons (dVar 6) aNil)) (aCons (dC (.str "q")) aNil) [o0, o1, o2, o3, o4, o5, some (.lst ((more L).map Ent.d)), o7, o8, o9, o10, o11, o12] (S ++ T0 ++ T1 ++ T2) = .ok .non (S ++ T0 ++ T1 ++ T2 ++ T3) := by
    rw [e_dMeth]
    simp only [e_dCC, e_aCons, e_aNil, e_dVar, List.getElem?_cons_succ, List.getElem?_cons_zero, RE.bind_ok, List.length_cons, List.length_nil, Nat.reduceAdd, if_true, e3, ob, lk_s, lkC, e_dC, sh]
    rfl
  have ni : ∀ S, oNe (.int ((([] : List Ent).length : Nat) : Int)) (.int 0) S = .ok (.bl false) S := fun S => ne_self (d := .int 0) (n := 0) rfl (by decide) S
  have nis : ∀ S, oIsNot .non .non S = .ok (.bl false) S := fun S => rfl
  have ap : S ++ (T0 ++ T1 ++ T2 ++ T3) = S ++ T0 ++ T1 ++ T2 ++ T3 := by simp
  rw [ap]
  unfold Z9
  simp only [e_sIf, e_dOrT, e_dTest, e_dBin, l2, sq, e_dCC, e_aNil, e_aCons, e_dLst, RE.bind_ok, List.length_nil, List.length_cons, Nat.reduceAdd, cap_0, if_true, e0, e1, n1, onBl_bl, Bool.false_eq_true, if_false, e_dC, ni, nis, RE.stm_ok, e_sNil]
  have e1' : Mk1 [.lst []] (S ++ T0) = .ok x1 (S ++ T0 ++ T1) := e1
  have ni0 : ∀ S, oNe (.int ((0 : Nat) : Int)) (.int 0) S = .ok (.bl false) S := ni
  simp only [ni0, RE.bind_ok, onBl_bl, Bool.false_eq_true, if_false, sq, nis, RE.stm_ok]
def BADS (L : List Ent) : List D := [.lst ((more L).map Ent.d ++ [q2E.d]), .lst ((more L).map Ent.d ++ [r0D]), .lst ((more L).map Ent.d ++ [.str "r"]), .lst ((more L).map Ent.d ++ [.non]), .lst [.lst ((more L).map Ent.d)]]
theorem Z10_ok (hl : L.length ≤ 6) : Z10 [o0, o1, o2, o3, o4, o5, some (.lst ((more L).map Ent.d)), o7, o8, o9, o10, o11, o12] S = .nx [o0, o1, o2, o3, o4, o5, some (.lst ((more L).map Ent.d)), o7, o8, o9, o10, some (.lst (BADS L)), o12] S := by
  have hm : (more L).length ≤ 7 := by simp; omega
  have ad : ∀ t S, oAdd (.lst ((more L).map Ent.d)) (.lst [t]) S = .ok (.lst ((more L).map Ent.d ++ [t])) S := fun t S => by
    have hc : ((more L).map Ent.d).length + [t].length ≤ cap := Nat.le_trans (show _ ≤ 8 by rw [List.length_map]; simp only [List.length_singleton]; omega) (by decide)
    show (if _ then _ else _) = _
    rw [if_pos hc]
  unfold Z10
  simp only [e_sAsg, e_dLst, e_aCons, e_aNil, e_dBin, e_dVar, e_dTup, e_dC, List.getElem?_cons_succ, List.getElem?_cons_zero, RE.bind_ok, List.length_cons, List.length_nil, Nat.reduceAdd, cap_1, cap_2, cap_3, cap_5, if_true, ad, RE.stm_ok, e_gN, List.set_cons_succ, List.set_cons_zero]
  rfl
theorem loop1_ok (L : List Ent) : ∀ (os : List D), (∀ o ∈ os, Odd1 o) → ∀ {S : Sto} (o12 : Option D), Sit S a b L → ∃ u12 S', loopS (gN 12) L_law_2 os [o0, o1, o2, o3, o4, o5, o6, o7, o8, o9, o10, o11, o12] S = .nx [o0, o1, o2, o3, o4, o5, o6, o7, o8, o9, o10, o11, u12] S' ∧ Sit S' a b L
  | [], _, S, o12, s => ⟨o12, S, rfl, s⟩
  | o :: os, h, S, o12, s => by
    have e1 := one_odd (h o List.mem_cons_self) s.st.h1 o0 o1 o2 o3 o4 o5 o6 o7 o8 o9 o10 o11
    have s1 := s.app (T := [.obj "Content" []]) (Fr.one (by decide +kernel))
    obtain ⟨u12, S', e2, s2⟩ := loop1_ok L os (fun x hx => h x (List.mem_cons_of_mem _ hx)) (some o) s1
    refine ⟨u12, S', ?_, s2⟩
    unfold loopS
    simp only [e_gN, List.set_cons_succ, List.set_cons_zero, e1]
    exact e2
theorem loop2_ok (L : List Ent) (dr : Drawn L) (s : Sit S a b L) : ∀ (os : List D), (∀ o ∈ os, Odd2 o) → ∀ (o12 : Option D), ∃ u12, loopS (gN 12) L_law_1 os [o0, o1, o2, o3, some a, o5, o6, o7, o8, o9, o10, o11, o12] S = .nx [o0, o1, o2, o3, some a, o5, o6, o7, o8, o9, o10, o11, u12] S
  | [], _, o12 => ⟨o12, rfl⟩
  | o :: os, h, o12 => by
    have e1 := two_odd (h o List.mem_cons_self) s.ca (look_other dr) s.st.h1 o0 o1 o2 o3 o5 o6 o7 o8 o9 o10 o11
    obtain ⟨u12, e2⟩ := loop2_ok L dr s os (fun x hx => h x (List.mem_cons_of_mem _ hx)) (some o)
    refine ⟨u12, ?_⟩
    unfold loopS
    simp only [e_gN, List.set_cons_succ, List.set_cons_zero, e1]
    exact e2
theorem first_ix (L : List Ent) (S : Sto) : oIx (.lst ((more L).map Ent.d)) (.int 0) S = .ok (firstD L) S := by
  cases L with
  | nil => simp [oIx, seqOf, atI, ixN, firstD]
  | cons e L =>
    have h : (0 : Int) < L.length + 1 + 1 := by omega
    simp [oIx, seqOf, atI, ixN, firstD, h]
theorem Z11_ok (s : Sit S a b L) (dr : Drawn L) (hl : L.length ≤ 6) : ∃ u12 S', Z11 [o0, o1, o2, o3, o4, o5, some (.lst ((more L).map Ent.d)), o7, o8, o9, o10, some (.lst (BADS L)), o12] S = .nx [o0, o1, o2, o3, o4, o5, some (.lst ((more L).map Ent.d)), o7, o8, o9, o10, some (.lst (BADS L)), u12] S' ∧ Sit S' a b L := by
  obtain ⟨u12, S', e, s'⟩ := loop1_ok (o0 := o0) (o1 := o1) (o2 := o2) (o3 := o3) (o4 := o4) (o5 := o5) (o6 := some (.lst ((more L).map Ent.d))) (o7 := o7) (o8 := o8) (o9 := o9) (o10 := o10) (o11 := some (.lst (BADS L))) L (ODD1 L) (odd1_ok dr hl) o12 s
  refine ⟨u12, S', ?_, s'⟩
  have cu : slD (.lst ((more L).map Ent.d)) (some (-1)) none S = .ok (.lst [qE.d]) S := by
    show RE.ok (D.lst (cutD _ _ _)) S = _
    rw [List.map_append, List.map_singleton, cutLast]
  have mu : oMul (.lst [qE.d]) (.int 2) S = .ok (.lst [qE.d, qE.d]) S := by
    have h : -100000 ≤ (2 : Int) ∧ (2 : Int) ≤ 100000 ∧ [qE.d].length * (2 : Int).toNat ≤ cap := ⟨by decide, by decide, by decide⟩
    have e : oMul (.lst [qE.d]) (.int 2) S = if -100000 ≤ (2 : Int) ∧ (2 : Int) ≤ 100000 ∧ [qE.d].length * (2 : Int).toNat ≤ cap then .ok (.lst (List.replicate (2 : Int).toNat [qE.d]).flatten) S else .bad := rfl
    rw [e, if_pos h]
    rfl
  have ad : ∀ xs : List D, xs.length = 6 → oAdd (.lst (BADS L)) (.lst xs) S = .ok (.lst (BADS L ++ xs)) S := fun xs hx => by
    have hc : (BADS L).length + xs.length ≤ cap := by rw [hx]; exact (by decide : 5 + 6 ≤ cap)
    show (if _ then _ else _) = _
    rw [if_pos hc]
  have fi := first_ix L S
  unfold Z11
  simp only [e_sFor, e_iOf, e_dBin, e_dVar, e_dLst, e_aCons, e_aNil, e_dC, e_dDictE, e_dSl, e_oPart, e_oNoPart, e_dNeg, onInt_int, List.getElem?_cons_succ, List.getElem?_cons_zero, RE.bind_ok, fi, cu, mu, List.length_cons, List.length_nil, Nat.reduceAdd, cap_6, if_true]
  rw [ad _ rfl]
  simp only [RE.bind_ok, itemsOf, RE.stm_ok]
  exact e
theorem Z12_ok (s : Sit S a b L) (dr : Drawn L) : ∃ u12, Z12 [o0, o1, o2, o3, some a, o5, o6, o7, o8, o9, o10, o11, o12] S = .nx [o0, o1, o2, o3, some a, o5, o6, o7, o8, o9, o10, o11, u12] S := by
  obtain ⟨u12, e⟩ := loop2_ok (o0 := o0) (o1 := o1) (o2 := o2) (o3 := o3) (o5 := o5) (o6 := o6) (o7 := o7) (o8 := o8) (o9 := o9) (o10 := o10) (o11 := o11) L dr s ODD2 odd2_ok o12
  refine ⟨u12, ?_⟩
  have h1 : (1 ≤ cap) := by decide
  unfold Z12
  simp only [e_sFor, e_iOf, e_dLst, e_dTup, e_aCons, e_aNil, e_dC, e_dDictE, RE.bind_ok, List.length_cons, List.length_nil, Nat.reduceAdd, cap_0, cap_10, h1, if_true, itemsOf, RE.stm_ok]
  exact e
end
theorem cell_ok {ns : List Int} {k : Nat} (hk : k < 64) (o2 o3 o4 o5 o6 o7 o8 o9 o10 o11 o12 : Option D) {S : Sto} (st : St S) :
    ∃ u2 u3 u4 u5 u6 u7 u8 u9 u10 u11 u12 S', L_law_3 [some (.scr (ns.map .int)), some (.int k), o2, o3, o4, o5, o6, o7, o8, o9, o10, o11, o12] S = .nx [some (.scr (ns.map .int)), some (.int k), u2, u3, u4, u5, u6, u7, u8, u9, u10, u11, u12] S' ∧ St S' := by
  obtain ⟨x, y, e1⟩ := pool_ok (ns := ns) S hk
  have lS : 1 < S.length := (List.getElem?_eq_some_iff.mp st.h1).1
  have p : PoolAt S.length (S ++ [.lst [.int x, .int y]]) := ⟨x, y, DE.getElem?_snoc _ _⟩
  have st1 := st.app (T := [.lst [.int x, .int y]]) (Fr.one rfl)
  obtain ⟨L, S2, e2, dr, hl, p2, fr2, ln2, kp⟩ := entries_drawn p st1.fr
  have st2 : St S2 := ⟨by rw [kp 0 (by omega)]; exact st1.h0, by rw [kp 1 (by omega)]; exact st1.h1, fr2⟩
  have w1 : Z1 [some (.scr (ns.map .int)), some (.int k), o2, o3, o4, o5, o6, o7, o8, o9, o10, o11, o12] S = .nx [some (.scr (ns.map .int)), some (.int k), some (.own S.length), o3, o4, o5, o6, o7, o8, o9, o10, o11, o12] (S ++ [.lst [.int x, .int y]]) := by simp [Z1, e1]
  have w2 : Z2 [some (.scr (ns.map .int)), some (.int k), some (.own S.length), o3, o4, o5, o6, o7, o8, o9, o10, o11, o12] (S ++ [.lst [.int x, .int y]]) = .nx [some (.scr (ns.map .int)), some (.int k), some (.own S.length), some (.lst (L.map Ent.d)), o4, o5, o6, o7, o8, o9, o10, o11, o12] S2 := by simp [Z2, e2]
  obtain ⟨a, b, T3, w3, s3⟩ := Z3_ok (o0 := some (.scr (ns.map .int))) (o1 := some (.int k)) (o2 := some (.own S.length)) (o4 := o4) (o5 := o5) (o6 := o6) (o7 := o7) (o8 := o8) (o9 := o9) (o10 := o10) (o11 := o11) (o12 := o12) st2 dr hl
  obtain ⟨T4, w4, f4⟩ := Z4_ok (o0 := some (.scr (ns.map .int))) (o1 := some (.int k)) (o2 := some (.own S.length)) (o6 := o6) (o7 := o7) (o8 := o8) (o9 := o9) (o10 := o10) (o11 := o11) (o12 := o12) s3 dr hl
  have s4 := s3.app f4
  have w5 := Z5_ok (S := S2 ++ T3 ++ T4) (L := L) (o0 := some (.scr (ns.map .int))) (o1 := some (.int k)) (o2 := some (.own S.length)) (o4 := some a) (o5 := some b) (o6 := o6) (o7 := o7) (o8 := o8) (o9 := o9) (o10 := o10) (o11 := o11) (o12 := o12) hl
  obtain ⟨T6, w6, f6⟩ := Z6_ok (o0 := some (.scr (ns.map .int))) (o1 := some (.int k)) (o2 := some (.own S.length)) (o7 := o7) (o8 := o8) (o9 := o9) (o10 := o10) (o11 := o11) (o12 := o12) s4 dr hl
  have s6 := s4.app f6
  have w7 := Z7_ok (o0 := some (.scr (ns.map .int))) (o1 := some (.int k)) (o2 := some (.own S.length)) (o6 := some (.lst ((more L).map Ent.d))) (o7 := o7) (o8 := o8) (o9 := o9) (o10 := o10) (o11 := o11) (o12 := o12) s6 (some (.lst (L.map Ent.d)))
  obtain ⟨u7, u8, u9, u10, T8, w8, f8⟩ := Z8_ok (o0 := some (.scr (ns.map .int))) (o1 := some (.int k)) (o2 := some (.own S.length)) (o5 := some b) (o6 := some (.lst ((more L).map Ent.d))) (o7 := o7) (o8 := o8) (o9 := o9) (o10 := o10) (o11 := o11) (o12 := o12) s6 dr hl
  have s8 := s6.app f8
  obtain ⟨T9, w9, f9⟩ := Z9_ok (o0 := some (.scr (ns.map .int))) (o1 := some (.int k)) (o2 := some (.own S.length)) (o3 := some (.lst (L.map Ent.d))) (o4 := some a) (o5 := some b) (o7 := u7) (o8 := u8) (o9 := u9) (o10 := u10) (o11 := o11) (o12 := o12) s8 dr hl
  have s9 := s8.app f9
  have w10 := Z10_ok (S := S2 ++ T3 ++ T4 ++ T6 ++ T8 ++ T9) (L := L) (o0 := some (.scr (ns.map .int))) (o1 := some (.int k)) (o2 := some (.own S.length)) (o3 := some (.lst (L.map Ent.d))) (o4 := some a) (o5 := some b) (o7 := u7) (o8 := u8) (o9 := u9) (o10 := u10) (o11 := o11) (o12 := o12) hl
  obtain ⟨u12, S11, w11, s11⟩ := Z11_ok (o0 := some (.scr (ns.map .int))) (o1 := some (.int k)) (o2 := some (.own S.length)) (o3 := some (.lst (L.map Ent.d))) (o4 := some a) (o5 := some b) (o7 := u7) (o8 := u8) (o9 := u9) (o10 := u10) (o12 := o12) s9 dr hl
  obtain ⟨v12, w12⟩ := Z12_ok (o0 := some (.scr (ns.map .int))) (o1 := some (.int k)) (o2 := some (.own S.length)) (o3 := some (.lst (L.map Ent.d))) (o5 := some b) (o6 := some (.lst ((more L).map Ent.d))) (o7 := u7) (o8 := u8) (o9 := u9) (o10 := u10) (o11 := some (.lst (BADS L))) (o12 := u12) s11 dr
  refine ⟨some (.own S.length), some (.lst (L.map Ent.d)), some a, some b, some (.lst ((more L).map Ent.d)), u7, u8, u9, u10, some (.lst (BADS L)), v12, S11, ?_, s11.st⟩
  rw [Z_split]
  simp only [e_sSeq, w1, w2, w3, w4, w5, w6, w7, w8, w9, w10, w11, w12, seq_nx]
theorem cells_ok {ns : List Int} (n : Nat) (hn : n ≤ 64) {S : Sto} (h0 : St S) : ∃ ρ S', loopS (gN 1) L_law_3 (rangeD 0 n) [some (.scr (ns.map .int)), none, none, none, none, none, none, none, none, none, none, none, none] S = .nx ρ S' := by
  obtain ⟨ρ', S', e, _⟩ := loopS_inv (g := gN 1) (body := L_law_3) (fun ρ S => (∃ o1 o2 o3 o4 o5 o6 o7 o8 o9 o10 o11 o12, ρ = [some (.scr (ns.map .int)), o1, o2, o3, o4, o5, o6, o7, o8, o9, o10, o11, o12]) ∧ St S) (ds := rangeD 0 n) (ρ := [some (.scr (ns.map .int)), none, none, none, none, none, none, none, none, none, none, none, none]) (S := S)
    (fun d hd ρ S ⟨⟨o1, o2, o3, o4, o5, o6, o7, o8, o9, o10, o11, o12, e⟩, h⟩ => by
      subst e
      obtain ⟨i, hi, rfl⟩ := mem_rangeD hd
      rw [Int.zero_add]
      obtain ⟨u2, u3, u4, u5, u6, u7, u8, u9, u10, u11, u12, S', e, h'⟩ := cell_ok (ns := ns) (k := i) (by omega) o2 o3 o4 o5 o6 o7 o8 o9 o10 o11 o12 h
      exact ⟨_, rfl, _, S', e, ⟨_, _, _, _, _, _, _, _, _, _, _, _, rfl⟩, h'⟩) ⟨⟨_, _, _, _, _, _, _, _, _, _, _, _, rfl⟩, h0⟩
  exact ⟨ρ', S', e⟩
theorem law_ok (ns : List Int) (hn : ns.length ≤ 63) : ∃ S', F_law [.scr (ns.map .int)] (LM.tabsD TABS) = .ok (.bl true) S' := by
  have tb : LM.tabsD TABS = [tabD, tabL] := rfl
  rw [tb]
  have hln : oLen [.scr (ns.map D.int)] [tabD, tabL] = .ok (.int ns.length) [tabD, tabL] := by simp [oLen, seqOf]
  obtain ⟨m, hm, hm8⟩ : ∃ m : Nat, (if (if (6 : Int) < ns.length then (6 : Int) else ns.length) > 1 then (if (6 : Int) < ns.length then (6 : Int) else ns.length) else 1) = (m : Int) ∧ m ≤ 6 := by
    by_cases h8 : (6 : Int) < ns.length
    · exact ⟨6, by simp [h8], by omega⟩
    · by_cases h1 : (ns.length : Int) > 1
      · exact ⟨ns.length, by simp [h8, h1], by omega⟩
      · exact ⟨1, by simp [h8, h1], by omega⟩
  obtain ⟨ρ, S1, e1⟩ := cells_ok (ns := ns) m (by omega) (S := [tabD, tabL]) ⟨rfl, rfl, rfl⟩
  have c1 : (-4611686018427387904 : Int) ≤ m ∧ (m : Int) < 4611686018427387904 := by omega
  refine ⟨S1, ?_⟩
  simp [F_law, e_fnD, B_law, hln, oMin, oMax, hm, c1, e1]
end G

theorem PySem.Challenge.cw_tombkeeper_k05_contents_told_holds : PySem.Challenge.rw_tombkeeper_k05_contents_told.Holds := by
  exact G.cw G.law_ok
