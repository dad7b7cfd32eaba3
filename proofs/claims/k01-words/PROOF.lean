import PyProof.Rows.All
import Wide.All
import OpenK.AllK
import Wide.FinOn
import KE.KStateDown
import HandS.Base
import HandS.Call
import HandS.List
import HandS.Comp
import HandS.Exc
import HandS.Dict
import HandS.HeadHook1
import HandS.HeadHook2
import HandS.Head0
import HandS.Head1
import HandS.Head2
import HandS.HeadEnd
import HandS.Words
import HandS.WordsList
import HandS.WordsDict
import HandS.WordsExc
import HandS.Ends
import HandS.Iter
import HandS.Text
import HandS.CallSlots
import HandS.ExcOwn
import HandS.Defaults
import HandS.IsInst
import HandS.TupAny
import HandS.TupMul
import HandS.Style
import HandS.RaiseMore
import PySem.Challenge.RW_tombkeeper_k01_words_values_entries
set_option Elab.async false
set_option linter.all false
set_option maxRecDepth 100000
set_option maxHeartbeats 4000000
namespace DE
open PySem L2

inductive D where
  | non | bl (b : Bool) | int (i : Int) | str (s : Str) | ty (n : String) | glo (x : Str)
  | tup (xs : List D) | lst (xs : List D) | scr (xs : List D)
  | dK (kvs : List (Key × D)) | dT (kvs : List (List Key × D))
  | obj (c : Str) (fs : List (Str × D))
  | own (k : Nat)

/-- what is owned (by its number), what is hidden -/
structure Ow where
  l : List Addr
  u : List Addr
def Ow.no (O : Ow) (a : Addr) : Prop := a ∉ O.l ∧ a ∉ O.u
def Ow.add (O : Ow) (p : Addr) : Ow := ⟨O.l ++ [p], O.u⟩
/-- a list written by the top -/
def WrL (K : PySem.W.Frag) (a : Addr) (xs : List V) : Prop := SqL K (fun _ => none) a xs
def WrT (K : PySem.W.Frag) (a : Addr) (xs : List V) : Prop := SqT K (fun _ => none) a xs
theorem sqT_of {K : PySem.W.Frag} {H : Hp} {a : Addr} {xs : List V} (h : H a = some (.tup xs) ∨ WrT K a xs) : SqT K H a xs := by
  rcases h with h | (h | ⟨_, h⟩) | h
  · exact .inl (.inl h)
  · cases h
  · cases h
  · exact .inr h
theorem sqL_of {K : PySem.W.Frag} {H : Hp} {a : Addr} {xs : List V} (h : Rd H a (.lst xs) ∨ WrL K a xs) : SqL K H a xs := by
  rcases h with h | (h | ⟨_, h⟩) | h
  · exact .inl h
  · cases h
  · cases h
  · exact .inr h

mutual
def Rep (K : PySem.W.Frag) (O : Ow) (H : Hp) : D → V → Prop
  | .non, v => v = .non
  | .bl b, v => v = .bl b
  | .int i, v => v = .int i
  | .str s, v => v = .str s
  | .ty n, v => v = .ty n
  | .glo x, v => v = .ref (He.ga K x)
  | .tup ds, v => ∃ a xs, v = .ref a ∧ (H a = some (.tup xs) ∨ WrT K a xs) ∧ Reps K O H ds xs
  | .lst ds, v => ∃ a xs, v = .ref a ∧ O.no a ∧ H a = some (.lst xs) ∧ Reps K O H ds xs
  | .scr ds, v => ∃ a xs, v = .ref a ∧ ((O.no a ∧ Rd H a (.lst xs)) ∨ WrL K a xs) ∧ Reps K O H ds xs
  | .dK kvs, v => ∃ a vs, v = .ref a ∧ O.no a ∧ Rd H a (.dK vs) ∧ RepK K O H kvs vs
  | .dT kvs, v => ∃ a vs, v = .ref a ∧ O.no a ∧ Rd H a (.dT vs) ∧ RepT K O H kvs vs
  | .obj c fs, v => ∃ a dx vs, v = .ref a ∧ O.no a ∧ H a = some (.ins (He.ga K c) dx vs) ∧ RepF K O H fs vs
  | .own k, v => ∃ a, O.l[k]? = some a ∧ v = .ref a
def Reps (K : PySem.W.Frag) (O : Ow) (H : Hp) : List D → List V → Prop
  | [], vs => vs = []
  | d :: ds, vs => ∃ v r, vs = v :: r ∧ Rep K O H d v ∧ Reps K O H ds r
def RepK (K : PySem.W.Frag) (O : Ow) (H : Hp) : List (Key × D) → List (Key × V) → Prop
  | [], vs => vs = []
  | (k, d) :: ds, vs => ∃ v r, vs = (k, v) :: r ∧ Rep K O H d v ∧ RepK K O H ds r
def RepT (K : PySem.W.Frag) (O : Ow) (H : Hp) : List (List Key × D) → List (List Key × V) → Prop
  | [], vs => vs = []
  | (k, d) :: ds, vs => ∃ v r, vs = (k, v) :: r ∧ Rep K O H d v ∧ RepT K O H ds r
def RepF (K : PySem.W.Frag) (O : Ow) (H : Hp) : List (Str × D) → List (Str × V) → Prop
  | [], vs => vs = []
  | (k, d) :: ds, vs => ∃ v r, vs = (k, v) :: r ∧ Rep K O H d v ∧ RepF K O H ds r
end

/-- what stands in the store: the object at a is d's top -/
def Cell (K : PySem.W.Frag) (O : Ow) (H : Hp) (a : Addr) : D → Prop
  | .lst ds => ∃ xs, H a = some (.lst xs) ∧ Reps K O H ds xs
  | .dK kvs => ∃ vs, H a = some (.dK vs) ∧ RepK K O H kvs vs
  | .dT kvs => ∃ vs, H a = some (.dT vs) ∧ RepT K O H kvs vs
  | .obj c fs => ∃ dx vs, H a = some (.ins (He.ga K c) dx vs) ∧ RepF K O H fs vs
  | _ => False
abbrev Sto := List D
structure WF (K : PySem.W.Frag) (O : Ow) (H : Hp) (S : Sto) : Prop where
  nd : O.l.Nodup
  len : S.length = O.l.length
  cell : ∀ (k : Nat) a d, O.l[k]? = some a → S[k]? = some d → Cell K O H a d
  hid : ∀ a ∈ O.u, a ∉ O.l ∧ ∃ xs, H a = some (.lst xs)
/-- H' goes on from H: all but what is owned stands; what is newly owned or hidden was not there -/
structure Ext (O : Ow) (H : Hp) (O' : Ow) (H' : Hp) : Prop where
  pre : ∃ m, O'.l = O.l ++ m ∧ ∀ a ∈ m, H a = none
  preu : ∃ m, O'.u = m ++ O.u ∧ ∀ a ∈ m, H a = none
  keep : ∀ a o, a ∉ O.l → H a = some o → H' a = some o
  tups : ∀ a xs, H a = some (.tup xs) → H' a = some (.tup xs)
  there : ∀ a, H a ≠ none → H' a ≠ none
/-- .. what is hidden may have changed, too -/
structure ExtW (O : Ow) (H : Hp) (O' : Ow) (H' : Hp) : Prop where
  at_ : ∀ (k : Nat) a, O.l[k]? = some a → O'.l[k]? = some a
  notin : ∀ a o, O.no a → H a = some o → O'.no a
  keep : ∀ a o, O.no a → H a = some o → H' a = some o
  tups : ∀ a xs, H a = some (.tup xs) → H' a = some (.tup xs)
  frzs : ∀ a o u, H a = some (.frz o u) → H' a = some (.frz o u)
theorem Ext.refl {O H} : Ext O H O H := ⟨⟨[], by simp, fun _ h => by cases h⟩, ⟨[], by simp, fun _ h => by cases h⟩, fun _ _ _ h => h, fun _ _ h => h, fun _ h => h⟩
theorem Ext.trans {O H O1 H1 O2 H2} (e : Ext O H O1 H1) (f : Ext O1 H1 O2 H2) : Ext O H O2 H2 := by
  obtain ⟨m, q1, hm⟩ := e.pre
  obtain ⟨m2, q2, hm2⟩ := f.pre
  obtain ⟨n, p1, hn⟩ := e.preu
  obtain ⟨n2, p2, hn2⟩ := f.preu
  have back : ∀ a, H1 a = none → H a = none := fun a h => by
    cases q : H a with
    | none => rfl
    | some o => exact absurd h (e.there a (by rw [q]; exact fun z => nomatch z))
  refine ⟨⟨m ++ m2, by rw [q2, q1]; simp, fun a ha => ?_⟩, ⟨n2 ++ n, by rw [p2, p1]; simp, fun a ha => ?_⟩, fun a o na h => ?_, fun a xs h => f.tups a xs (e.tups a xs h), fun a h => f.there a (e.there a h)⟩
  · rcases List.mem_append.mp ha with h | h
    · exact hm a h
    · exact back a (hm2 a h)
  · rcases List.mem_append.mp ha with h | h
    · exact back a (hn2 a h)
    · exact hn a h
  · refine f.keep a o (fun z => ?_) (e.keep a o na h)
    rw [q1] at z
    rcases List.mem_append.mp z with z | z
    · exact na z
    · rw [hm a z] at h; cases h
theorem Ext.at {O H O' H'} (e : Ext O H O' H') {k : Nat} {a} (h : O.l[k]? = some a) : O'.l[k]? = some a := by
  obtain ⟨m, q, hm⟩ := e.pre
  rw [q, List.getElem?_append_left (List.getElem?_eq_some_iff.mp h).1]; exact h
theorem Ext.notin {O H O' H' a o} (e : Ext O H O' H') (na : O.no a) (h : H a = some o) : O'.no a := by
  obtain ⟨m, q, hm⟩ := e.pre
  obtain ⟨n, p, hn⟩ := e.preu
  refine ⟨fun z => ?_, fun z => ?_⟩
  · rw [q] at z
    rcases List.mem_append.mp z with z | z
    · exact na.1 z
    · rw [hm a z] at h; cases h
  · rw [p] at z
    rcases List.mem_append.mp z with z | z
    · rw [hn a z] at h; cases h
    · exact na.2 z
theorem WF.cases {K O H S} (w : WF K O H S) {a : Addr} (ha : a ∈ O.l ∨ a ∈ O.u) : ∃ o, H a = some o ∧ (∀ xs, o ≠ .tup xs) ∧ ∀ ob u, o ≠ .frz ob u := by
  rcases ha with ha | ha
  · obtain ⟨k, hk⟩ := List.mem_iff_getElem?.mp ha
    have hl : k < S.length := by rw [w.len]; exact (List.getElem?_eq_some_iff.mp hk).1
    have c := w.cell k a S[k] hk (by simp [hl])
    cases q : S[k] <;> rw [q] at c <;> simp only [Cell] at c
    all_goals first
      | exact c.elim
      | (obtain ⟨xs, c, _⟩ := c; exact ⟨_, c, (fun _ z => by cases z), (fun _ _ z => by cases z)⟩)
      | (obtain ⟨dx, xs, c, _⟩ := c; exact ⟨_, c, (fun _ z => by cases z), (fun _ _ z => by cases z)⟩)
  · obtain ⟨_, xs, c⟩ := w.hid a ha
    exact ⟨_, c, (fun _ z => by cases z), (fun _ _ z => by cases z)⟩
theorem WF.nofrz {K O H S} (w : WF K O H S) : ∀ a, a ∈ O.l ∨ a ∈ O.u → ∀ o u, H a ≠ some (.frz o u) := fun a ha o u h => by
  obtain ⟨o', h', _, n⟩ := w.cases ha
  rw [h] at h'; exact n o u (Option.some.inj h').symm
theorem WF.there {K O H S} (w : WF K O H S) : ∀ a, a ∈ O.l ∨ a ∈ O.u → H a ≠ none := fun a ha h => by
  obtain ⟨o', h', _, n⟩ := w.cases ha
  rw [h] at h'; cases h'
theorem WF.notup {K O H S} (w : WF K O H S) : ∀ a, a ∈ O.l ∨ a ∈ O.u → ∀ xs, H a ≠ some (.tup xs) := fun a ha u h => by
  obtain ⟨o', h', n, _⟩ := w.cases ha
  rw [h] at h'; exact n u (Option.some.inj h').symm
theorem Ext.w {K O H O' H' S} (e : Ext O H O' H') (w : WF K O H S) : ExtW O H O' H' :=
  ⟨fun _ _ h => e.at h, fun _ _ n h => e.notin n h, fun a o n h => e.keep a o n.1 h, e.tups, fun a o u h => e.keep a _ (fun z => w.nofrz a (.inl z) o u h) h⟩
theorem ExtW.rd {O H O' H' a u} (e : ExtW O H O' H') (na : O.no a) (h : Rd H a u) : O'.no a ∧ Rd H' a u := by
  rcases h with h | ⟨o, h⟩
  · exact ⟨e.notin _ _ na h, .inl (e.keep _ _ na h)⟩
  · exact ⟨e.notin _ _ na h, .inr ⟨o, e.keep _ _ na h⟩⟩
theorem ExtW.sqT {K O H O' H' a xs} (e : ExtW O H O' H') (h : SqT K H a xs) : SqT K H' a xs := by
  rcases h with (h | ⟨o, h⟩) | h
  · exact .inl (.inl (e.tups _ _ h))
  · exact .inl (.inr ⟨o, e.frzs _ _ _ h⟩)
  · exact .inr h
section
variable {K : PySem.W.Frag} {O O' : Ow} {H H' : Hp}
mutual
theorem Rep.mono (e : ExtW O H O' H') : ∀ {d : D} {v : V}, Rep K O H d v → Rep K O' H' d v
  | .non, _, h => h
  | .bl _, _, h => h
  | .int _, _, h => h
  | .str _, _, h => h
  | .ty _, _, h => h
  | .glo _, _, h => h
  | .tup _, _, h => by
    obtain ⟨a, xs, rfl, h1, h2⟩ := h
    exact ⟨a, xs, rfl, h1.imp (e.tups _ _) id, Reps.mono e h2⟩
  | .lst _, _, h => by
    obtain ⟨a, xs, rfl, n, h1, h2⟩ := h
    exact ⟨a, xs, rfl, e.notin _ _ n h1, e.keep _ _ n h1, Reps.mono e h2⟩
  | .scr _, _, h => by
    obtain ⟨a, xs, rfl, h1, h2⟩ := h
    refine ⟨a, xs, rfl, ?_, Reps.mono e h2⟩
    rcases h1 with ⟨n, h1⟩ | h1
    · exact .inl (e.rd n h1)
    · exact .inr h1
  | .dK _, _, h => by
    obtain ⟨a, xs, rfl, n, h1, h2⟩ := h
    exact ⟨a, xs, rfl, (e.rd n h1).1, (e.rd n h1).2, RepK.mono e h2⟩
  | .dT _, _, h => by
    obtain ⟨a, xs, rfl, n, h1, h2⟩ := h
    exact ⟨a, xs, rfl, (e.rd n h1).1, (e.rd n h1).2, RepT.mono e h2⟩
  | .obj _ _, _, h => by
    obtain ⟨a, dx, xs, rfl, n, h1, h2⟩ := h
    exact ⟨a, dx, xs, rfl, e.notin _ _ n h1, e.keep _ _ n h1, RepF.mono e h2⟩
  | .own _, _, h => by
    obtain ⟨a, h1, rfl⟩ := h
    exact ⟨a, e.at_ _ _ h1, rfl⟩
theorem Reps.mono (e : ExtW O H O' H') : ∀ {d : List D} {v : List V}, Reps K O H d v → Reps K O' H' d v
  | [], _, h => h
  | _ :: _, _, h => by
    obtain ⟨v, r, rfl, h1, h2⟩ := h
    exact ⟨v, r, rfl, Rep.mono e h1, Reps.mono e h2⟩
theorem RepK.mono (e : ExtW O H O' H') : ∀ {d : List (Key × D)} {v : List (Key × V)}, RepK K O H d v → RepK K O' H' d v
  | [], _, h => h
  | (_, _) :: _, _, h => by
    obtain ⟨v, r, rfl, h1, h2⟩ := h
    exact ⟨v, r, rfl, Rep.mono e h1, RepK.mono e h2⟩
theorem RepT.mono (e : ExtW O H O' H') : ∀ {d : List (List Key × D)} {v : List (List Key × V)}, RepT K O H d v → RepT K O' H' d v
  | [], _, h => h
  | (_, _) :: _, _, h => by
    obtain ⟨v, r, rfl, h1, h2⟩ := h
    exact ⟨v, r, rfl, Rep.mono e h1, RepT.mono e h2⟩
theorem RepF.mono (e : ExtW O H O' H') : ∀ {d : List (Str × D)} {v : List (Str × V)}, RepF K O H d v → RepF K O' H' d v
  | [], _, h => h
  | (_, _) :: _, _, h => by
    obtain ⟨v, r, rfl, h1, h2⟩ := h
    exact ⟨v, r, rfl, Rep.mono e h1, RepF.mono e h2⟩
end
theorem Cell.mono {a : Addr} {d : D} (e : ExtW O H O' H') (h : Cell K O H a d) (k : H' a = H a) : Cell K O' H' a d := by
  cases d <;> simp only [Cell] at h ⊢
  case lst => obtain ⟨xs, h1, h2⟩ := h; exact ⟨xs, k.trans h1, h2.mono e⟩
  case dK => obtain ⟨xs, h1, h2⟩ := h; exact ⟨xs, k.trans h1, h2.mono e⟩
  case dT => obtain ⟨xs, h1, h2⟩ := h; exact ⟨xs, k.trans h1, h2.mono e⟩
  case obj => obtain ⟨dx, xs, h1, h2⟩ := h; exact ⟨dx, xs, k.trans h1, h2.mono e⟩
theorem Reps.length : ∀ {ds : List D} {vs : List V}, Reps K O H ds vs → ds.length = vs.length
  | [], _, h => by cases h; rfl
  | _ :: _, _, h => by
    obtain ⟨v, r, rfl, _, h2⟩ := h
    simp [Reps.length h2]
theorem Reps.append : ∀ {ds es : List D} {vs us : List V}, Reps K O H ds vs → Reps K O H es us → Reps K O H (ds ++ es) (vs ++ us)
  | [], _, _, _, h, h' => by cases h; exact h'
  | _ :: _, _, _, _, h, h' => by
    obtain ⟨v, r, rfl, h1, h2⟩ := h
    exact ⟨v, r ++ _, rfl, h1, Reps.append h2 h'⟩
theorem Reps.get : ∀ {ds : List D} {vs : List V} {i : Nat} {d : D}, Reps K O H ds vs → ds[i]? = some d → ∃ v, vs[i]? = some v ∧ Rep K O H d v
  | [], _, _, _, _, e => by simp at e
  | _ :: _, _, 0, _, h, e => by
    obtain ⟨v, r, rfl, h1, h2⟩ := h
    simp at e; subst e; exact ⟨v, rfl, h1⟩
  | _ :: _, _, i + 1, _, h, e => by
    obtain ⟨v, r, rfl, h1, h2⟩ := h
    exact Reps.get (i := i) h2 (by simpa using e)
theorem Reps.get' : ∀ {ds : List D} {vs : List V} {i : Nat} {v : V}, Reps K O H ds vs → vs[i]? = some v → ∃ d, ds[i]? = some d ∧ Rep K O H d v
  | [], _, _, _, h, e => by cases h; simp at e
  | _ :: _, _, 0, _, h, e => by
    obtain ⟨v, r, rfl, h1, h2⟩ := h
    simp at e; subst e; exact ⟨_, rfl, h1⟩
  | _ :: _, _, i + 1, _, h, e => by
    obtain ⟨v, r, rfl, h1, h2⟩ := h
    exact Reps.get' (i := i) h2 (by simpa using e)
theorem Reps.set {d : D} {v : V} (hr : Rep K O H d v) : ∀ {ds : List D} {vs : List V} (i : Nat), Reps K O H ds vs → Reps K O H (ds.set i d) (vs.set i v)
  | [], _, _, h => by cases h; exact rfl
  | _ :: _, _, 0, h => by
    obtain ⟨u, r, rfl, h1, h2⟩ := h
    exact ⟨v, r, rfl, hr, h2⟩
  | _ :: _, _, i + 1, h => by
    obtain ⟨u, r, rfl, h1, h2⟩ := h
    exact ⟨u, _, rfl, h1, Reps.set hr i h2⟩
theorem Reps.take : ∀ {ds : List D} {vs : List V} (n : Nat), Reps K O H ds vs → Reps K O H (ds.take n) (vs.take n)
  | _, _, 0, _ => by simp [Reps]
  | [], _, _ + 1, h => by cases h; exact rfl
  | _ :: _, _, n + 1, h => by
    obtain ⟨u, r, rfl, h1, h2⟩ := h
    exact ⟨u, _, rfl, h1, Reps.take n h2⟩
theorem Reps.drop : ∀ {ds : List D} {vs : List V} (n : Nat), Reps K O H ds vs → Reps K O H (ds.drop n) (vs.drop n)
  | _, _, 0, h => by simpa using h
  | [], _, _ + 1, h => by cases h; exact rfl
  | _ :: _, _, n + 1, h => by
    obtain ⟨u, r, rfl, h1, h2⟩ := h
    exact Reps.drop n h2
end

/-! ### environments -/
abbrev Env := List (Option D)
def RepO (K : PySem.W.Frag) (O : Ow) (H : Hp) : Option D → Option V → Prop
  | none, _ => True
  | some d, u => ∃ v, u = some v ∧ Rep K O H d v
inductive REnv (K : PySem.W.Frag) (O : Ow) (H : Hp) : Env → St → Prop where
  | nil : REnv K O H [] []
  | cons {d v ρ σ} : RepO K O H d v → REnv K O H ρ σ → REnv K O H (d :: ρ) (v :: σ)
section
variable {K : PySem.W.Frag} {O O' : Ow} {H H' : Hp}
theorem REnv.mono (e : ExtW O H O' H') : ∀ {ρ : Env} {σ : St}, REnv K O H ρ σ → REnv K O' H' ρ σ
  | _, _, .nil => .nil
  | _, _, .cons (d := none) h t => .cons trivial (t.mono e)
  | _, _, .cons (d := some _) ⟨v, e1, h⟩ t => .cons ⟨v, e1, h.mono e⟩ (t.mono e)
theorem REnv.get : ∀ {ρ : Env} {σ : St} {i : Nat} {d : D}, REnv K O H ρ σ → ρ[i]? = some (some d) → ∃ v, σ[i]? = some (some v) ∧ Rep K O H d v
  | _, _, _, _, .nil, e => by simp at e
  | _, _, 0, _, .cons h t, e => by
    simp at e; subst e
    obtain ⟨v, rfl, h⟩ := h
    exact ⟨v, rfl, h⟩
  | _, _, i + 1, _, .cons h t, e => by
    simpa using REnv.get (i := i) t (by simpa using e)
theorem REnv.set {d : D} {v : V} (hr : Rep K O H d v) : ∀ {ρ : Env} {σ : St} (i : Nat), REnv K O H ρ σ → REnv K O H (ρ.set i (some d)) (σ.set i (some v))
  | _, _, _, .nil => .nil
  | _, _, 0, .cons h t => .cons ⟨v, rfl, hr⟩ t
  | _, _, i + 1, .cons h t => .cons h (REnv.set hr i t)
theorem REnv.unset {u : Option V} : ∀ {ρ : Env} {σ : St} (i : Nat), REnv K O H ρ σ → REnv K O H (ρ.set i none) (σ.set i u)
  | _, _, _, .nil => .nil
  | _, _, 0, .cons h t => .cons trivial t
  | _, _, i + 1, .cons h t => .cons h (REnv.unset i t)
theorem REnv.app : ∀ {ρ : Env} {σ : St}, REnv K O H ρ σ → ∀ n, REnv K O H (ρ ++ List.replicate n none) (σ ++ List.replicate n none)
  | _, _, .nil, 0 => .nil
  | _, _, .nil, n + 1 => .cons trivial (REnv.app .nil n)
  | _, _, .cons h t, n => .cons h (t.app n)
theorem REnv.of : ∀ {ds : List D} {vs : List V}, Reps K O H ds vs → REnv K O H (ds.map some) (vs.map some)
  | [], _, h => by cases h; exact .nil
  | _ :: _, _, h => by
    obtain ⟨u, r, rfl, h1, h2⟩ := h
    exact .cons ⟨u, rfl, h1⟩ (REnv.of h2)
end
structure Stt (K : PySem.W.Frag) (O : Ow) (H : Hp) (ρ : Env) (σ : St) (S : Sto) : Prop where
  wf : WF K O H S
  env : REnv K O H ρ σ

/-! ### results -/
/-- an exception of the program's own: its class, its fields -/
structure Exc where
  c : Str
  fs : List (Str × D)
inductive RE (α : Type) where
  | ok (a : α) (S : Sto) | exc (x : Exc) (S : Sto) | bad
def RE.bind {α β : Type} (r : RE α) (f : α → Sto → RE β) : RE β := match r with
  | .ok a S => f a S
  | .exc x S => .exc x S
  | .bad => .bad
@[simp] theorem RE.bind_ok {α β : Type} (a : α) (S : Sto) (f : α → Sto → RE β) : (RE.ok a S).bind f = f a S := id rfl
@[simp] theorem RE.bind_exc {α β : Type} (x : Exc) (S : Sto) (f : α → Sto → RE β) : (RE.exc x S).bind f = .exc x S := id rfl
@[simp] theorem RE.bind_bad {α β : Type} (f : α → Sto → RE β) : (RE.bad : RE α).bind f = .bad := id rfl
abbrev ME := Env → Sto → RE D
abbrev MT := Env → Sto → RE Bool
abbrev MA := Env → Sto → RE (List D)
inductive RS where
  | nx (ρ : Env) (S : Sto) | rt (d : D) (S : Sto) | bk (ρ : Env) (S : Sto) | ct (ρ : Env) (S : Sto) | exc (x : Exc) (ρ : Env) (S : Sto) | bad
abbrev MS := Env → Sto → RS
def RepX (K : PySem.W.Frag) (O : Ow) (H : Hp) (x : Exc) (cls : Value) (dx : Option Addr) : Prop :=
  cls = .ref (He.ga K x.c) ∧ ∃ a vs, dx = some a ∧ H a = some (.xd vs) ∧ RepF K O H x.fs vs

/-- what is wanted behind an expression: Rl says how the datum shows -/
def After {α β : Type} (K : PySem.W.Frag) (W : WX) (Rl : Ow → Hp → α → β → Prop) (ρ : Env) (σ : St) (O : Ow) (H : Hp) (Q : β → Hp → Prop) : RE α → Prop
  | .ok d S' => ∀ O' H' v, Ext O H O' H' → Stt K O' H' ρ σ S' → Rl O' H' d v → Q v H'
  | .exc x S' => ∀ O' H' cls dx, Ext O H O' H' → Stt K O' H' ρ σ S' → RepX K O' H' x cls dx → W cls dx σ H'
  | .bad => False
section
variable {K : PySem.W.Frag} {W : WX} {ρ : Env} {σ : St} {O O' : Ow} {H H' : Hp} {S : Sto} {α β γ δ : Type}
theorem After.mono {Rl : Ow → Hp → α → β → Prop} {Q : β → Hp → Prop} {r : RE α} (h : After K W Rl ρ σ O H Q r) (e : Ext O H O' H') : After K W Rl ρ σ O' H' Q r := by
  cases r with
  | ok d S' => exact fun O2 H2 v e2 st rl => h O2 H2 v (e.trans e2) st rl
  | exc x S' => exact fun O2 H2 cls dx e2 st rl => h O2 H2 cls dx (e.trans e2) st rl
  | bad => exact h
theorem After.seq {Rl : Ow → Hp → α → β → Prop} {Rm : Ow → Hp → γ → δ → Prop} {Q : δ → Hp → Prop} {Q1 : β → Hp → Prop} {r : RE α} {g : α → Sto → RE γ} (h : After K W Rm ρ σ O H Q (r.bind g))
    (k : ∀ d S1 O1 H1 v, Ext O H O1 H1 → Stt K O1 H1 ρ σ S1 → Rl O1 H1 d v → After K W Rm ρ σ O1 H1 Q (g d S1) → Q1 v H1) : After K W Rl ρ σ O H Q1 r := by
  cases r with
  | ok d S' => exact fun O1 H1 v e st rl => k d S' O1 H1 v e st rl (After.mono h e)
  | exc x S' => exact fun O2 H2 cls dx e2 st rl => h O2 H2 cls dx e2 st rl
  | bad => exact h.elim
theorem After.ok {Rl : Ow → Hp → α → β → Prop} {Q : β → Hp → Prop} {d : α} {v : β} (h : After K W Rl ρ σ O H Q (.ok d S)) (st : Stt K O H ρ σ S) (r : Rl O H d v) : Q v H := h O H v .refl st r
end
/-- readings of data -/
def tE (K : PySem.W.Frag) (W : WX) (f : ME) : TE := fun σ H Q => ∃ O ρ S, Stt K O H ρ σ S ∧ After K W (Rep K) ρ σ O H Q (f ρ S)
def tT (K : PySem.W.Frag) (W : WX) (f : MT) : TT := fun σ H Q => ∃ O ρ S, Stt K O H ρ σ S ∧ After K W (fun _ _ a b => a = b) ρ σ O H Q (f ρ S)
def tA (K : PySem.W.Frag) (W : WX) (f : MA) : TA := fun σ H Q => ∃ O ρ S, Stt K O H ρ σ S ∧ After K W (Reps K) ρ σ O H Q (f ρ S)
structure DE (X : Cx) (W : WX) (e : Expr) (f : ME) : Prop where
  pe : PE X e (tE X.K W f)
structure DT (X : Cx) (W : WX) (e : Expr) (f : MT) : Prop where
  pt : PT X e (tT X.K W f)
structure DW (X : Cx) (W : WX) (e : Expr) (f : MT) : Prop where
  pw : PW X e (tT X.K W f)
structure DA (X : Cx) (W : WX) (es : List Expr) (f : MA) : Prop where
  pa : PA X es (tA X.K W f)
theorem PE.imp {X : Cx} {e : Expr} {t t' : TE} (h : PE X e t) (k : ∀ σ H Q, t' σ H Q → t σ H Q) : PE X e t' := ⟨fun pins s σ H Q I q => h.run pins s σ H Q I (k σ H Q q)⟩
theorem PT.imp {X : Cx} {e : Expr} {t t' : TT} (h : PT X e t) (k : ∀ σ H Q, t' σ H Q → t σ H Q) : PT X e t' := ⟨fun pins s σ H Q I q => h.run pins s σ H Q I (k σ H Q q)⟩
theorem PW.imp {X : Cx} {e : Expr} {t t' : TT} (h : PW X e t) (k : ∀ σ H Q, t' σ H Q → t σ H Q) : PW X e t' := ⟨fun wh pins s σ H Q I q => h.run wh pins s σ H Q I (k σ H Q q)⟩
theorem PA.imp {X : Cx} {e : List Expr} {t t' : TA} (h : PA X e t) (k : ∀ σ H Q, t' σ H Q → t σ H Q) : PA X e t' := ⟨fun p pins s σ H Q I q => h.run p pins s σ H Q I (k σ H Q q)⟩
theorem PS.imp {X : Cx} {e : Stmt} {t t' : TS} (h : PS X e t) (k : ∀ D σ H, t' D σ H → t D σ H) : PS X e t' := ⟨fun pins s σ H D I q => h.run pins s σ H D I (k D σ H q)⟩
theorem PSs.imp {X : Cx} {e : List Stmt} {t t' : TS} (h : PSs X e t) (k : ∀ D σ H, t' D σ H → t D σ H) : PSs X e t' := ⟨fun pins s σ H D I q => h.run pins s σ H D I (k D σ H q)⟩

section
variable {X : Cx} {W : WX} {a b c : Expr} {f g h : ME} {pos : Pos}
/-! ### names, constants -/
def dVar (i : Nat) : ME := fun ρ S => match ρ[i]? with
  | some (some d) => .ok d S
  | _ => .bad
def dC (d : D) : ME := fun _ S => .ok d S
theorem de_var (i : Nat) {x : Str} (hN : X.N[i]? = some x) (hv : Vis X.env.scope x) (hd : (x == ("__debug__" : Str)) = false := by decide) (hcd : (x == ("__classdict__" : Str)) = false := by decide) : DE X W (.Name x pos) (dVar i) := ⟨PE.imp (pe_var hN hv hd hcd) fun σ H Q ⟨O, ρ, S, st, h⟩ => by
  unfold dVar at h
  split at h
  · rename_i d q
    obtain ⟨v, e, r⟩ := st.env.get q
    exact ⟨v, e, h.ok st r⟩
  · exact h.elim⟩
theorem de_const {d : D} {v : V} (hp : PE X a (tC v)) (r : ∀ O H, Rep X.K O H d v) : DE X W a (dC d) := ⟨PE.imp hp fun σ H Q ⟨O, ρ, S, st, h⟩ => After.ok h st (r O H)⟩
theorem de_int {i j} : DE X W (.Constant (.int i) j pos) (dC (.int i)) := de_const pe_int fun _ _ => rfl
theorem de_bl {i j} : DE X W (.Constant (.bool i) j pos) (dC (.bl i)) := de_const pe_bl fun _ _ => rfl
theorem de_non {j} : DE X W (.Constant .none j pos) (dC .non) := de_const pe_non fun _ _ => rfl
theorem de_str {i j} : DE X W (.Constant (.str i) j pos) (dC (.str i)) := de_const pe_str fun _ _ => rfl
/-! ### operators -/
/-- a rule of the layer for values, seen by data -/
def OpD (X : Cx) (r : R2) (op : D → D → Sto → RE D) : Prop :=
  ∀ (W : WX) (ρ : Env) (σ : St) (O : Ow) (H : Hp) (S : Sto) (x y : V) (d e : D) (Q : VK), Stt X.K O H ρ σ S → Rep X.K O H d x → Rep X.K O H e y → After X.K W (Rep X.K) ρ σ O H Q (op d e S) → r x y H Q
def dBin (op : D → D → Sto → RE D) (f g : ME) : ME := fun ρ S => (f ρ S).bind fun d S1 => (g ρ S1).bind fun e S2 => op d e S2
theorem bin_imp {r : R2} {op : D → D → Sto → RE D} (ho : OpD X r op) {σ : St} {H : Hp} {Q : VK} (h : tE X.K W (dBin op f g) σ H Q) : tOp r (tE X.K W f) (tE X.K W g) σ H Q := by
  obtain ⟨O, ρ, S, st, h⟩ := h
  refine ⟨O, ρ, S, st, After.seq h fun d S1 O1 H1 v e1 st1 r1 h1 => ⟨O1, ρ, S1, st1, After.seq h1 fun d2 S2 O2 H2 u e2 st2 r2 h2 => ?_⟩⟩
  exact ho W ρ σ O2 H2 S2 v u d d2 Q st2 (r1.mono (e2.w st1.wf)) r2 h2
theorem de_op {op : Operator} {r : R2} {o : D → D → Sto → RE D} (hr : OpR X (binaryOp op) r) (ho : OpD X r o) (ha : DE X W a f) (hb : DE X W b g) : DE X W (.BinOp a op b pos) (dBin o f g) :=
  ⟨PE.imp (pe_op hr ha.pe hb.pe) fun _ _ _ h => bin_imp ho h⟩
theorem de_cmp {op : CmpOp} {r : R2} {o : D → D → Sto → RE D} (hr : OpR X (compareOp op) r) (ho : OpD X r o) (ha : DE X W a f) (hb : DE X W b g) (hm : behindInMarks op b = false) : DE X W (.Compare a [op] [b] pos) (dBin o f g) :=
  ⟨PE.imp (pe_cmpR hr ha.pe hb.pe hm) fun _ _ _ h => bin_imp ho h⟩
/-- a value that is a bool, as a test -/
def dTest (f : ME) : MT := fun ρ S => (f ρ S).bind fun d S1 => match d with
  | .bl b => .ok b S1
  | _ => .bad
theorem test_imp {t : TE} {σ : St} {H : Hp} {Q : Bool → Hp → Prop} (ht : ∀ σ H Q, tE X.K W f σ H Q → t σ H Q) (h : tT X.K W (dTest f) σ H Q) : tTest t σ H Q := by
  obtain ⟨O, ρ, S, st, h⟩ := h
  refine ht σ H _ ⟨O, ρ, S, st, After.seq h fun d S1 O1 H1 v e1 st1 r1 h1 => ?_⟩
  cases d with
  | bl b => exact ⟨b, r1, After.ok h1 st1 rfl⟩
  | _ => exact h1.elim
theorem dt_cmp {op : CmpOp} {r : R2} {o : D → D → Sto → RE D} (hr : OpR X (compareOp op) r) (ho : OpD X r o) (ha : DE X W a f) (hb : DE X W b g) (hm : behindInMarks op b = false) : DT X W (.Compare a [op] [b] pos) (dTest (dBin o f g)) :=
  ⟨PT.imp (pt_cmpR hr ha.pe hb.pe hm) fun _ _ _ h => test_imp (fun _ _ _ q => bin_imp ho q) h⟩
theorem dt_val (ha : DE X W a f) (he : ∀ whole, isTrue a X.env whole = (do let v ← whole; standAt a.pos; holding [v] (truthy v)) := by intro _; rfl) : DT X W a (dTest f) :=
  ⟨PT.imp (pt_val ha.pe he) fun _ _ _ h => test_imp (fun _ _ _ q => q) h⟩
/-! ### and, or, not -/
variable {tf tg : MT} {rest : List Expr}
def dAndT (f g : MT) : MT := fun ρ S => (f ρ S).bind fun d S1 => if d = true then g ρ S1 else .ok false S1
def dOrT (f g : MT) : MT := fun ρ S => (f ρ S).bind fun d S1 => if d = true then .ok true S1 else g ρ S1
def dNotT (f : MT) : MT := fun ρ S => (f ρ S).bind fun d S1 => .ok (!d) S1
theorem dw_and1 (ha : DT X W a tf) : DW X W (.BoolOp .And [a] pos) tf := ⟨pw_and1 ha.pt⟩
theorem dw_or1 (ha : DT X W a tf) : DW X W (.BoolOp .Or [a] pos) tf := ⟨pw_or1 ha.pt⟩
theorem dw_and (ha : DT X W a tf) (hb : DW X W (.BoolOp .And (b :: rest) pos) tg) : DW X W (.BoolOp .And (a :: b :: rest) pos) (dAndT tf tg) :=
  ⟨PW.imp (pw_and ha.pt hb.pw) fun σ H Q ⟨O, ρ, S, st, h⟩ => ⟨O, ρ, S, st, After.seq h fun d S1 O1 H1 v e1 st1 r1 h1 => by
    subst r1
    cases d with
    | true => exact iteT ⟨O1, ρ, S1, st1, h1⟩
    | false => exact iteF (After.ok h1 st1 rfl)⟩⟩
theorem dw_or (ha : DT X W a tf) (hb : DW X W (.BoolOp .Or (b :: rest) pos) tg) : DW X W (.BoolOp .Or (a :: b :: rest) pos) (dOrT tf tg) :=
  ⟨PW.imp (pw_or ha.pt hb.pw) fun σ H Q ⟨O, ρ, S, st, h⟩ => ⟨O, ρ, S, st, After.seq h fun d S1 O1 H1 v e1 st1 r1 h1 => by
    subst r1
    cases d with
    | true => exact iteT (After.ok h1 st1 rfl)
    | false => exact iteF ⟨O1, ρ, S1, st1, h1⟩⟩⟩
theorem DW.dt (h : DW X W a tf) : DT X W a tf := ⟨PW.pt h.pw⟩
theorem dt_not (ha : DT X W a tf) : DT X W (.UnaryOp .Not a pos) (dNotT tf) :=
  ⟨PT.imp (pt_not ha.pt) fun σ H Q ⟨O, ρ, S, st, h⟩ => ⟨O, ρ, S, st, After.seq h fun d S1 O1 H1 v e1 st1 r1 h1 => by
    subst r1
    exact After.ok h1 st1 rfl⟩⟩
def dAnd (f g : ME) : ME := fun ρ S => (f ρ S).bind fun d S1 => match d with
  | .bl true => g ρ S1
  | .bl false => .ok (.bl false) S1
  | _ => .bad
def dOr (f g : ME) : ME := fun ρ S => (f ρ S).bind fun d S1 => match d with
  | .bl false => g ρ S1
  | .bl true => .ok (.bl true) S1
  | _ => .bad
def dNot (f : ME) : ME := fun ρ S => (f ρ S).bind fun d S1 => match d with
  | .bl b => .ok (.bl (!b)) S1
  | _ => .bad
theorem de_one {op} (h : DE X W a f) : DE X W (.BoolOp op [a] pos) f := ⟨pe_one h.pe⟩
theorem de_and (ha : DE X W a f) (hb : DE X W (.BoolOp .And (b :: rest) pos) g) : DE X W (.BoolOp .And (a :: b :: rest) pos) (dAnd f g) :=
  ⟨PE.imp (pe_and ha.pe hb.pe) fun σ H Q ⟨O, ρ, S, st, h⟩ => ⟨O, ρ, S, st, After.seq h fun d S1 O1 H1 v e1 st1 r1 h1 => by
    cases d with
    | bl k =>
      cases k with
      | true => exact ⟨true, r1, iteT ⟨O1, ρ, S1, st1, h1⟩⟩
      | false => exact ⟨false, r1, iteF (After.ok h1 st1 rfl)⟩
    | _ => exact h1.elim⟩⟩
theorem de_or (ha : DE X W a f) (hb : DE X W (.BoolOp .Or (b :: rest) pos) g) : DE X W (.BoolOp .Or (a :: b :: rest) pos) (dOr f g) :=
  ⟨PE.imp (pe_or ha.pe hb.pe) fun σ H Q ⟨O, ρ, S, st, h⟩ => ⟨O, ρ, S, st, After.seq h fun d S1 O1 H1 v e1 st1 r1 h1 => by
    cases d with
    | bl k =>
      cases k with
      | true => exact ⟨true, r1, iteT (After.ok h1 st1 rfl)⟩
      | false => exact ⟨false, r1, iteF ⟨O1, ρ, S1, st1, h1⟩⟩
    | _ => exact h1.elim⟩⟩
theorem de_not (ha : DE X W a f) : DE X W (.UnaryOp .Not a pos) (dNot f) :=
  ⟨PE.imp (pe_not ha.pe) fun σ H Q ⟨O, ρ, S, st, h⟩ => ⟨O, ρ, S, st, After.seq h fun d S1 O1 H1 v e1 st1 r1 h1 => by
    cases d with
    | bl k => exact ⟨k, r1, After.ok h1 st1 rfl⟩
    | _ => exact h1.elim⟩⟩
def dIfE (t : MT) (f g : ME) : ME := fun ρ S => (t ρ S).bind fun d S1 => if d = true then f ρ S1 else g ρ S1
theorem de_if (hc : DT X W c tf) (ha : DE X W a f) (hb : DE X W b g) : DE X W (.IfExp c a b pos) (dIfE tf f g) :=
  ⟨PE.imp (pe_ifExp hc.pt ha.pe hb.pe) fun σ H Q ⟨O, ρ, S, st, h⟩ => ⟨O, ρ, S, st, After.seq h fun d S1 O1 H1 v e1 st1 r1 h1 => by
    subst r1
    cases d with
    | true => exact iteT ⟨O1, ρ, S1, st1, h1⟩
    | false => exact iteF ⟨O1, ρ, S1, st1, h1⟩⟩⟩
/-- a < b < c -/
def dChain (o p : D → D → Sto → RE D) (f g h : ME) : ME := fun ρ S => (f ρ S).bind fun x S1 => (g ρ S1).bind fun y S2 => (o x y S2).bind fun d S3 => match d with
  | .bl true => (h ρ S3).bind fun z S4 => p y z S4
  | .bl false => .ok (.bl false) S3
  | _ => .bad
/-! ### arguments -/
variable {es : List Expr} {ta : MA}
def aNil : MA := fun _ S => .ok [] S
def aCons (f : ME) (g : MA) : MA := fun ρ S => (f ρ S).bind fun d S1 => (g ρ S1).bind fun ds S2 => .ok (d :: ds) S2
theorem da_nil : DA X W [] aNil := ⟨PA.imp pa_nil fun σ H Q ⟨O, ρ, S, st, h⟩ => After.ok h st rfl⟩
theorem da_cons (ha : DE X W a f) (hr : DA X W es ta) (hs : starEach (a :: es) X.env = (false, eval a X.env) :: starEach es X.env := by rfl) : DA X W (a :: es) (aCons f ta) :=
  ⟨PA.imp (pa_cons ha.pe hr.pa hs) fun σ H Q ⟨O, ρ, S, st, h⟩ => ⟨O, ρ, S, st, After.seq h fun d S1 O1 H1 v e1 st1 r1 h1 => ⟨O1, ρ, S1, st1, After.seq h1 fun d2 S2 O2 H2 u e2 st2 r2 h2 =>
    After.ok h2 st2 ⟨v, u, rfl, r1.mono (e2.w st1.wf), r2⟩⟩⟩⟩
end
end DE

namespace DE
open PySem L2

/-! ### new objects, objects changed -/
section
variable {K : PySem.W.Frag} {O : Ow} {H : Hp} {ρ : DE.Env} {σ : St} {S : Sto}
theorem upd_there {H : Hp} {p : Addr} {o : HO} (a : Addr) (h : H a ≠ none) : upd H p o a ≠ none := by
  by_cases z : a = p
  · subst z; rw [upd_same]; exact fun z => nomatch z
  · rw [upd_ne z]; exact h
theorem ext_new {p : Addr} {o : HO} (hp : H p = none) : Ext O H O (upd H p o) :=
  ⟨⟨[], by simp, fun _ h => by cases h⟩, ⟨[], by simp, fun _ h => by cases h⟩, fun a u _ h => by rw [upd_ne (ne_of_none h hp)]; exact h, fun a u h => by rw [upd_ne (ne_of_none h hp)]; exact h, upd_there⟩
theorem Stt.no (st : Stt K O H ρ σ S) {p : Addr} (hp : H p = none) : O.no p := ⟨fun z => st.wf.there p (.inl z) hp, fun z => st.wf.there p (.inr z) hp⟩
theorem Stt.new (st : Stt K O H ρ σ S) {p : Addr} {o : HO} (hp : H p = none) : Ext O H O (upd H p o) ∧ Stt K O (upd H p o) ρ σ S := by
  have e : Ext O H O (upd H p o) := ext_new hp
  have nw : ∀ a, a ∈ O.l ∨ a ∈ O.u → a ≠ p := fun a ha z => st.wf.there a ha (z ▸ hp)
  refine ⟨e, ⟨st.wf.nd, st.wf.len, fun k a d h1 h2 => (st.wf.cell k a d h1 h2).mono (e.w st.wf) (upd_ne (nw a (.inl (List.mem_of_getElem? h1)))), fun a ha => ?_⟩, st.env.mono (e.w st.wf)⟩
  rw [upd_ne (nw a (.inr ha))]
  exact st.wf.hid a ha
theorem Stt.newO (st : Stt K O H ρ σ S) {p : Addr} {o : HO} {d : D} (hp : H p = none) (c : Ext O H (O.add p) (upd H p o) → Cell K (O.add p) (upd H p o) p d) : Ext O H (O.add p) (upd H p o) ∧ Stt K (O.add p) (upd H p o) ρ σ (S ++ [d]) := by
  have e0 : Ext O H O (upd H p o) := ext_new hp
  have nw : ∀ a, a ∈ O.l ∨ a ∈ O.u → a ≠ p := fun a ha z => st.wf.there a ha (z ▸ hp)
  have e : Ext O H (O.add p) (upd H p o) := ⟨⟨[p], rfl, fun a h => by rw [List.mem_singleton.mp h]; exact hp⟩, ⟨[], by simp [Ow.add], fun _ h => by cases h⟩, e0.keep, e0.tups, e0.there⟩
  refine ⟨e, ⟨?_, by simp [Ow.add, st.wf.len], fun k a d' h1 h2 => ?_, fun a ha => ?_⟩, st.env.mono (e.w st.wf)⟩
  · show (O.l ++ [p]).Nodup
    rw [List.nodup_append]
    exact ⟨st.wf.nd, by simp, fun a ha b hb => by rw [List.mem_singleton.mp hb]; exact nw a (.inl ha)⟩
  · have h1 : (O.l ++ [p])[k]? = some a := h1
    by_cases hk : k < O.l.length
    · rw [List.getElem?_append_left hk] at h1
      rw [List.getElem?_append_left (by rw [st.wf.len]; exact hk)] at h2
      exact (st.wf.cell k a d' h1 h2).mono (e.w st.wf) (upd_ne (nw a (.inl (List.mem_of_getElem? h1))))
    · have hk' : k = O.l.length := by
        have := (List.getElem?_eq_some_iff.mp h1).1
        simp at this; omega
      subst hk'
      rw [List.getElem?_append_right (Nat.le_refl _)] at h1
      rw [List.getElem?_append_right (Nat.le_of_eq st.wf.len), st.wf.len] at h2
      simp at h1 h2
      subst h1 h2
      exact c e
  · have ha : a ∈ O.u := ha
    rw [upd_ne (nw a (.inr ha))]
    refine ⟨fun z => ?_, (st.wf.hid a ha).2⟩
    rcases List.mem_append.mp (show a ∈ O.l ++ [p] from z) with z | z
    · exact (st.wf.hid a ha).1 z
    · exact nw a (.inr ha) (List.mem_singleton.mp z)
theorem Stt.mut (st : Stt K O H ρ σ S) {k : Nat} {a : Addr} {o : HO} {d : D} (hk : O.l[k]? = some a) (c : Ext O H O (upd H a o) → Cell K O (upd H a o) a d) : Ext O H O (upd H a o) ∧ Stt K O (upd H a o) ρ σ (S.set k d) := by
  have ha := List.mem_of_getElem? hk
  have e : Ext O H O (upd H a o) := ⟨⟨[], by simp, fun _ h => by cases h⟩, ⟨[], by simp, fun _ h => by cases h⟩, fun b u nb h => by rw [upd_ne (show b ≠ a from fun z => nb (z ▸ ha))]; exact h, fun b u h => by rw [upd_ne (show b ≠ a from fun z => st.wf.notup a (.inl ha) u (z ▸ h))]; exact h, upd_there⟩
  refine ⟨e, ⟨st.wf.nd, by simp [st.wf.len], fun j b d' h1 h2 => ?_, fun b hb => ?_⟩, st.env.mono (e.w st.wf)⟩
  · by_cases hj : k = j
    · subst hj
      rw [h1] at hk; cases hk
      rw [List.getElem?_set_self (by rw [st.wf.len]; exact (List.getElem?_eq_some_iff.mp h1).1)] at h2
      cases h2
      exact c e
    · rw [List.getElem?_set_ne hj] at h2
      refine (st.wf.cell j b d' h1 h2).mono (e.w st.wf) (upd_ne fun z => hj ?_)
      subst z
      exact ((List.getElem_inj st.wf.nd).mp ((List.getElem?_eq_some_iff.mp hk).2.trans (List.getElem?_eq_some_iff.mp h1).2.symm))
  · rw [upd_ne (show b ≠ a from fun z => (st.wf.hid b hb).1 (z ▸ ha))]
    exact st.wf.hid b hb
theorem Stt.own (st : Stt K O H ρ σ S) {k : Nat} {d : D} (hs : S[k]? = some d) : ∃ a, O.l[k]? = some a ∧ Cell K O H a d := by
  have hl : k < O.l.length := by rw [← st.wf.len]; exact (List.getElem?_eq_some_iff.mp hs).1
  exact ⟨O.l[k], by simp [hl], st.wf.cell k _ d (by simp [hl]) hs⟩
/-! ### hidden lists -/
def Ow.hide (O : Ow) (p : Addr) : Ow := ⟨O.l, p :: O.u⟩
/-- a new hidden list -/
theorem Stt.hide (st : Stt K O H ρ σ S) {p : Addr} {xs : List V} (hp : H p = none) : Ext O H (O.hide p) (upd H p (.lst xs)) ∧ Stt K (O.hide p) (upd H p (.lst xs)) ρ σ S := by
  have e0 : Ext O H O (upd H p (.lst xs)) := ext_new hp
  have nw : ∀ a, a ∈ O.l ∨ a ∈ O.u → a ≠ p := fun a ha z => st.wf.there a ha (z ▸ hp)
  have e : Ext O H (O.hide p) (upd H p (.lst xs)) := ⟨⟨[], by simp [Ow.hide], fun _ h => by cases h⟩, ⟨[p], rfl, fun a h => by rw [List.mem_singleton.mp h]; exact hp⟩, e0.keep, e0.tups, e0.there⟩
  refine ⟨e, ⟨st.wf.nd, st.wf.len, fun k a d h1 h2 => (st.wf.cell k a d h1 h2).mono (e.w st.wf) (upd_ne (nw a (.inl (List.mem_of_getElem? h1)))), fun a ha => ?_⟩, st.env.mono (e.w st.wf)⟩
  rcases List.mem_cons.mp (show a ∈ p :: O.u from ha) with z | z
  · subst z
    exact ⟨fun z => nw a (.inl z) rfl, xs, upd_same⟩
  · rw [upd_ne (nw a (.inr z))]; exact st.wf.hid a z
/-- a hidden list changes -/
theorem extW_hid (w : WF K O H S) {p : Addr} {xs : List V} (hp : p ∈ O.u) : ExtW O H O (upd H p (.lst xs)) :=
  ⟨fun _ _ h => h, fun _ _ n _ => n, fun a o n h => by rw [upd_ne (show a ≠ p from fun z => n.2 (z ▸ hp))]; exact h, fun a u h => by rw [upd_ne (show a ≠ p from fun z => w.notup p (.inr hp) u (z ▸ h))]; exact h, fun a o u h => by rw [upd_ne (show a ≠ p from fun z => w.nofrz p (.inr hp) o u (z ▸ h))]; exact h⟩
theorem Stt.hid (st : Stt K O H ρ σ S) {p : Addr} {xs : List V} (hp : p ∈ O.u) : Stt K O (upd H p (.lst xs)) ρ σ S := by
  have e := extW_hid (xs := xs) st.wf hp
  refine ⟨⟨st.wf.nd, st.wf.len, fun k a d h1 h2 => (st.wf.cell k a d h1 h2).mono e (upd_ne fun z => (st.wf.hid p hp).1 (z ▸ List.mem_of_getElem? h1)), fun a ha => ?_⟩, st.env.mono e⟩
  by_cases z : a = p
  · subst z; exact ⟨(st.wf.hid a ha).1, xs, upd_same⟩
  · rw [upd_ne z]; exact st.wf.hid a ha
/-- nothing is hidden any more -/
theorem extW_bare {u : List Addr} (hu : ∀ a ∈ u, a ∈ O.u) : ExtW O H ⟨O.l, u⟩ H := ⟨fun _ _ h => h, fun _ _ n _ => ⟨n.1, fun z => n.2 (hu _ z)⟩, fun _ _ _ h => h, fun _ _ h => h, fun _ _ _ h => h⟩
theorem Stt.bare (st : Stt K O H ρ σ S) {u : List Addr} (hu : ∀ a ∈ u, a ∈ O.u) : Stt K ⟨O.l, u⟩ H ρ σ S :=
  ⟨⟨st.wf.nd, st.wf.len, fun k a d h1 h2 => (st.wf.cell k a d h1 h2).mono (extW_bare hu) rfl, fun a ha => st.wf.hid a (hu a ha)⟩, st.env.mono (extW_bare hu)⟩
end

def cap : Nat := 100000
theorem cap_line {n : Nat} (h : n ≤ cap) : n ≤ sizeLine := Nat.le_trans h (by decide)
theorem cap_lt {n : Nat} (h : n < cap) : n < sizeLine := Nat.lt_of_lt_of_le h (by decide)

section
variable {X : Cx} {W : WX} {a b c : Expr} {f g h : ME} {pos : Pos} {es : List Expr} {fa : MA}
/-! ### displays -/
def dTup (f : MA) : ME := fun ρ S => (f ρ S).bind fun ds S1 => if ds.length ≤ cap then .ok (.tup ds) S1 else .bad
def dLst (f : MA) : ME := fun ρ S => (f ρ S).bind fun ds S1 => if ds.length ≤ cap then .ok (.lst ds) S1 else .bad
/-- a new list that will change -/
def dLstO (f : MA) : ME := fun ρ S => (f ρ S).bind fun ds S1 => if ds.length ≤ cap then .ok (.own S1.length) (S1 ++ [.lst ds]) else .bad
theorem de_tup {x1} (h : DA X W es fa) : DE X W (.Tuple es x1 pos) (dTup fa) := ⟨PE.imp (pe_tup h.pa) fun σ H Q ⟨O, ρ, S, st, h⟩ => ⟨O, ρ, S, st, After.seq h fun ds S1 O1 H1 vs e1 st1 r1 h1 => by
  by_cases hl : ds.length ≤ cap
  · simp only [hl, if_true] at h1
    refine ⟨by rw [← r1.length]; exact cap_line hl, fun p hp => ?_⟩
    obtain ⟨e2, st2⟩ := st1.new (o := .tup vs) hp
    exact h1 O1 _ _ e2 st2 ⟨p, vs, rfl, .inl upd_same, r1.mono (e2.w st1.wf)⟩
  · simp only [hl, if_false] at h1; exact h1.elim⟩⟩
theorem de_lst (h : DA X W es fa) : DE X W (.List es pos) (dLst fa) := ⟨PE.imp (pe_lst h.pa) fun σ H Q ⟨O, ρ, S, st, h⟩ => ⟨O, ρ, S, st, After.seq h fun ds S1 O1 H1 vs e1 st1 r1 h1 => by
  by_cases hl : ds.length ≤ cap
  · simp only [hl, if_true] at h1
    refine ⟨by rw [← r1.length]; exact cap_line hl, fun p hp => ?_⟩
    obtain ⟨e2, st2⟩ := st1.new (o := .lst vs) hp
    exact h1 O1 _ _ e2 st2 ⟨p, vs, rfl, st1.no hp, upd_same, r1.mono (e2.w st1.wf)⟩
  · simp only [hl, if_false] at h1; exact h1.elim⟩⟩
theorem getElem?_snoc {α : Type} (l : List α) (x : α) : (l ++ [x])[l.length]? = some x := by simp
theorem de_lstO (h : DA X W es fa) : DE X W (.List es pos) (dLstO fa) := ⟨PE.imp (pe_lst h.pa) fun σ H Q ⟨O, ρ, S, st, h⟩ => ⟨O, ρ, S, st, After.seq h fun ds S1 O1 H1 vs e1 st1 r1 h1 => by
  by_cases hl : ds.length ≤ cap
  · simp only [hl, if_true] at h1
    refine ⟨by rw [← r1.length]; exact cap_line hl, fun p hp => ?_⟩
    obtain ⟨e2, st2⟩ := st1.newO (o := .lst vs) (d := .lst ds) hp fun e => ⟨vs, upd_same, r1.mono (e.w st1.wf)⟩
    exact h1 _ _ _ e2 st2 ⟨p, by rw [st1.wf.len]; exact getElem?_snoc _ _, rfl⟩
  · simp only [hl, if_false] at h1; exact h1.elim⟩⟩
end

/-! ### statements -/
def AfterS (K : PySem.W.Frag) (W : WX) (D' : Ends) (O : Ow) (H : Hp) : RS → Prop
  | .nx ρ' S' => ∀ O' H' σ', Ext O H O' H' → Stt K O' H' ρ' σ' S' → D'.nx σ' H'
  | .bk ρ' S' => ∀ O' H' σ', Ext O H O' H' → Stt K O' H' ρ' σ' S' → D'.bk σ' H'
  | .ct ρ' S' => ∀ O' H' σ', Ext O H O' H' → Stt K O' H' ρ' σ' S' → D'.ct σ' H'
  | .rt d S' => ∀ O' H' v, Ext O H O' H' → WF K O' H' S' → Rep K O' H' d v → D'.rt v H'
  | .exc x ρ' S' => ∀ O' H' σ' cls dx, Ext O H O' H' → Stt K O' H' ρ' σ' S' → RepX K O' H' x cls dx → W cls dx σ' H'
  | .bad => False
def RE.stm {α : Type} (r : RE α) (ρ : DE.Env) (k : α → Sto → RS) : RS := match r with
  | .ok a S => k a S
  | .exc x S => .exc x ρ S
  | .bad => .bad
@[simp] theorem RE.stm_ok {α : Type} (a : α) (S : Sto) (ρ : DE.Env) (k : α → Sto → RS) : (RE.ok a S).stm ρ k = k a S := id rfl
@[simp] theorem RE.stm_exc {α : Type} (x : Exc) (S : Sto) (ρ : DE.Env) (k : α → Sto → RS) : (RE.exc x S).stm ρ k = .exc x ρ S := id rfl
@[simp] theorem RE.stm_bad {α : Type} (ρ : DE.Env) (k : α → Sto → RS) : (RE.bad : RE α).stm ρ k = .bad := id rfl
section
variable {K : PySem.W.Frag} {W : WX} {D' : Ends} {ρ : DE.Env} {σ : St} {O O' : Ow} {H H' : Hp} {S : Sto} {α β : Type}
theorem AfterS.mono {r : RS} (h : AfterS K W D' O H r) (e : Ext O H O' H') : AfterS K W D' O' H' r := by
  cases r with
  | nx ρ' S' => exact fun O2 H2 σ' e2 st => h O2 H2 σ' (e.trans e2) st
  | bk ρ' S' => exact fun O2 H2 σ' e2 st => h O2 H2 σ' (e.trans e2) st
  | ct ρ' S' => exact fun O2 H2 σ' e2 st => h O2 H2 σ' (e.trans e2) st
  | rt d S' => exact fun O2 H2 v e2 w r => h O2 H2 v (e.trans e2) w r
  | exc x ρ' S' => exact fun O2 H2 σ' cls dx e2 st rl => h O2 H2 σ' cls dx (e.trans e2) st rl
  | bad => exact h
theorem AfterS.seqE {Rl : Ow → Hp → α → β → Prop} {Q1 : β → Hp → Prop} {r : RE α} {k : α → Sto → RS} (h : AfterS K W D' O H (r.stm ρ k))
    (kk : ∀ d S1 O1 H1 v, Ext O H O1 H1 → Stt K O1 H1 ρ σ S1 → Rl O1 H1 d v → AfterS K W D' O1 H1 (k d S1) → Q1 v H1) : After K W Rl ρ σ O H Q1 r := by
  cases r with
  | ok d S' => exact fun O1 H1 v e st rl => kk d S' O1 H1 v e st rl (AfterS.mono h e)
  | exc x S' => exact fun O2 H2 cls dx e2 st rl => h O2 H2 σ cls dx e2 st rl
  | bad => exact h.elim
end
def tS (K : PySem.W.Frag) (W : WX) (f : MS) : TS := fun D' σ H => ∃ O ρ S, Stt K O H ρ σ S ∧ AfterS K W D' O H (f ρ S)
structure DS (X : Cx) (W : WX) (s : Stmt) (f : MS) : Prop where
  ps : PS X s (tS X.K W f)
structure DSs (X : Cx) (W : WX) (s : List Stmt) (f : MS) : Prop where
  pss : PSs X s (tS X.K W f)
section
variable {X : Cx} {W : WX} {a b c : Expr} {f g h : ME} {pos : Pos} {s : Stmt} {ss : List Stmt} {F G : MS} {tf : MT}
def sNil : MS := fun ρ S => .nx ρ S
def sSeq (f g : MS) : MS := fun ρ S => match f ρ S with
  | .nx ρ1 S1 => g ρ1 S1
  | r => r
theorem AfterS.of_seq {K : PySem.W.Frag} {D' : Ends} {O : Ow} {H : Hp} {r : RS} {g : MS} (h : AfterS K W D' O H (match r with | .nx ρ1 S1 => g ρ1 S1 | r => r)) : AfterS K W { D' with nx := tS K W g D' } O H r := by
  cases r with
  | nx ρ1 S1 => exact fun O' H' σ' e st => ⟨O', ρ1, S1, st, AfterS.mono h e⟩
  | bk ρ1 S1 => exact h
  | ct ρ1 S1 => exact h
  | rt d S1 => exact h
  | exc x ρ1 S1 => exact h
  | bad => exact h
theorem dss_nil : DSs X W [] sNil := ⟨PSs.imp pss_nil fun D' σ H ⟨O, ρ, S, st, h⟩ => h O H σ .refl st⟩
theorem dss_one (h : DS X W s F) : DSs X W [s] F := ⟨pss_one h.ps⟩
theorem dss_cons (h1 : DS X W s F) (h2 : DSs X W ss G) : DSs X W (s :: ss) (sSeq F G) := ⟨PSs.imp (pss_cons h1.ps h2.pss) fun D' σ H ⟨O, ρ, S, st, h⟩ => ⟨O, ρ, S, st, AfterS.of_seq h⟩⟩
theorem ds_pass : DS X W (.Pass pos) sNil := ⟨PS.imp ps_pass fun D' σ H ⟨O, ρ, S, st, h⟩ => h O H σ .refl st⟩
def sBreak : MS := fun ρ S => .bk ρ S
def sCont : MS := fun ρ S => .ct ρ S
theorem ds_break : DS X W (.Break pos) sBreak := ⟨PS.imp ps_break fun D' σ H ⟨O, ρ, S, st, h⟩ => h O H σ .refl st⟩
theorem ds_continue : DS X W (.Continue pos) sCont := ⟨PS.imp ps_continue fun D' σ H ⟨O, ρ, S, st, h⟩ => h O H σ .refl st⟩
theorem ds_doc {x j pos'} : DS X W (.Expr (.Constant (.str x) j pos) pos') sNil := ⟨PS.imp ps_doc fun D' σ H ⟨O, ρ, S, st, h⟩ => h O H σ .refl st⟩
def sExpr (f : ME) : MS := fun ρ S => (f ρ S).stm ρ fun _ S1 => .nx ρ S1
theorem ds_expr (h : DE X W a f) (hs : swapsWith a none pos.line X.env = pure false := by rfl) : DS X W (.Expr a pos) (sExpr f) :=
  ⟨PS.imp (ps_expr h.pe hs) fun D' σ H ⟨O, ρ, S, st, h⟩ => ⟨O, ρ, S, st, AfterS.seqE h fun d S1 O1 H1 v e1 st1 r1 h1 => h1 O1 H1 σ .refl st1⟩⟩
def sRet (f : ME) : MS := fun ρ S => (f ρ S).stm ρ fun d S1 => .rt d S1
theorem ds_ret (h : DE X W a f) : DS X W (.Return (some a) pos) (sRet f) :=
  ⟨PS.imp (ps_ret h.pe) fun D' σ H ⟨O, ρ, S, st, h⟩ => ⟨O, ρ, S, st, AfterS.seqE h fun d S1 O1 H1 v e1 st1 r1 h1 => h1 O1 H1 v .refl st1.wf r1⟩⟩
def sRetN : MS := fun _ S => .rt .non S
theorem ds_retN : DS X W (.Return none pos) sRetN := ⟨PS.imp ps_retN fun D' σ H ⟨O, ρ, S, st, h⟩ => h O H .non .refl st.wf rfl⟩
def sIf (t : MT) (f g : MS) : MS := fun ρ S => (t ρ S).stm ρ fun b S1 => if b = true then f ρ S1 else g ρ S1
theorem ds_if {xs ys : List Stmt} (hc : DT X W c tf) (ha : DSs X W xs F) (hb : DSs X W ys G) : DS X W (.If c xs ys pos) (sIf tf F G) :=
  ⟨PS.imp (ps_if hc.pt ha.pss hb.pss) fun D' σ H ⟨O, ρ, S, st, h⟩ => ⟨O, ρ, S, st, AfterS.seqE h fun d S1 O1 H1 v e1 st1 r1 h1 => by
    subst r1
    cases d with
    | true => exact iteT ⟨O1, ρ, S1, st1, h1⟩
    | false => exact iteF ⟨O1, ρ, S1, st1, h1⟩⟩⟩
/-! ### targets -/
abbrev MG := D → DE.Env → Option DE.Env
abbrev MGs := List D → DE.Env → Option DE.Env
theorem wipe_set {σ : St} {i : Nat} {x : Option V} : ∀ {vs : List Nat}, i ∈ vs → wipe (σ.set i x) vs = wipe σ vs
  | v :: vs, h => by
    unfold wipe
    by_cases e : i = v
    · subst e
      by_cases hi : i ∈ vs
      · rw [wipe_set hi]
      · have : ∀ vs : List Nat, wipe (σ.set i x) vs = (wipe σ vs).set i (if i ∈ vs then none else x) ∨ wipe (σ.set i x) vs = wipe σ vs := by
          intro vs
          induction vs with
          | nil => left; simp [wipe]
          | cons u us ih =>
            unfold wipe
            rcases ih with ih | ih
            · rw [ih]
              by_cases e : i = u
              · subst e; right; rw [List.set_set]
              · left
                rw [List.set_comm _ _ e]
                congr 1
                simp [e]
            · right; rw [ih]
        rcases this vs with q | q
        · rw [q, List.set_set]
        · rw [q]
    · have hi : i ∈ vs := by
        rcases List.mem_cons.mp h with z | z
        · exact absurd z e
        · exact z
      rw [wipe_set hi]
/-- is: the slots that the target stores -/
def Only1 (is : List Nat) (σ σ' : St) : Prop := ∀ vs : List Nat, (∀ i ∈ is, i ∈ vs) → wipe σ' vs = wipe σ vs
def tG (K : PySem.W.Frag) (is : List Nat) (g : MG) : TG := fun v σ H Q => ∃ O ρ S d ρ', Stt K O H ρ σ S ∧ Rep K O H d v ∧ g d ρ = some ρ' ∧ ∀ σ', Stt K O H ρ' σ' S → Only1 is σ σ' → Q σ' H
def tGs (K : PySem.W.Frag) (is : List Nat) (g : MGs) : TGs := fun v σ H Q => ∃ O ρ S d ρ', Stt K O H ρ σ S ∧ Reps K O H d v ∧ g d ρ = some ρ' ∧ ∀ σ', Stt K O H ρ' σ' S → Only1 is σ σ' → Q σ' H
structure DG (X : Cx) (t : Expr) (is : List Nat) (g : MG) : Prop where
  pg : PG X t (tG X.K is g)
structure DGs (X : Cx) (t : List Expr) (is : List Nat) (g : MGs) : Prop where
  pgs : PGs X t (tGs X.K is g)
theorem PG.imp {X : Cx} {e : Expr} {t t' : TG} (h : PG X e t) (k : ∀ v σ H Q, t' v σ H Q → t v σ H Q) : PG X e t' := ⟨fun pins s σ H v u Q I r q => h.run pins s σ H v u Q I r (k _ _ _ _ q)⟩
theorem PGs.imp {X : Cx} {e : List Expr} {t t' : TGs} (h : PGs X e t) (k : ∀ v σ H Q, t' v σ H Q → t v σ H Q) : PGs X e t' := ⟨fun pins s σ H v u Q I r q => h.run pins s σ H v u Q I r (k _ _ _ _ q)⟩
def gN (i : Nat) : MG := fun d ρ => some (ρ.set i (some d))
theorem dg_name (i : Nat) {x : Str} (hN : X.N.Nodup) (hi : X.N[i]? = some x) (hx : Loc X.env.scope x) (hf : X.fn x = true ∨ X.env.scope.names.lookup x = some .local := by first | exact .inl rfl | exact .inr rfl | assumption) : DG X (.Name x pos) [i] (gN i) :=
  ⟨PG.imp (pg_name hN hi hx hf) fun v σ H Q ⟨O, ρ, S, d, ρ', st, r, e, k⟩ => by
    cases e
    exact k _ ⟨st.wf, st.env.set r i⟩ fun vs hv => wipe_set (hv i (by simp))⟩
def gsNil : MGs := fun ds ρ => match ds with
  | [] => some ρ
  | _ => none
def gsCons (g : MG) (h : MGs) : MGs := fun ds ρ => match ds with
  | d :: r => (g d ρ).bind (h r)
  | _ => none
end
end DE

namespace DE
open PySem PySem.Spec PyProof.Rows L2
section
variable {X : Cx} {W : WX} {a b c : Expr} {f g h : ME} {pos : Pos} {s : Stmt} {ss : List Stmt} {F G : MS} {tf : MT}
theorem dgs_nil : DGs X [] [] gsNil := ⟨PGs.imp pgs_nil fun v σ H Q ⟨O, ρ, S, d, ρ', st, r, e, k⟩ => by
  cases d with
  | nil =>
    cases r
    cases e
    exact ⟨rfl, k _ st fun _ _ => rfl⟩
  | cons _ _ => cases e⟩
theorem dgs_cons {e : Expr} {es : List Expr} {is js : List Nat} {g1 : MG} {g2 : MGs} (h1 : DG X e is g1) (h2 : DGs X es js g2)
    (hs : (assignEach (e :: es) X.env).map (·.2) = assign e X.env :: (assignEach es X.env).map (·.2) := by rfl) : DGs X (e :: es) (is ++ js) (gsCons g1 g2) :=
  ⟨PGs.imp (pgs_cons h1.pg h2.pgs hs) fun v σ H Q ⟨O, ρ, S, d, ρ', st, r, e, k⟩ => by
    cases d with
    | nil => cases e
    | cons d ds =>
      obtain ⟨v, vr, rfl, r1, r2⟩ := r
      have e' : (g1 d ρ).bind (g2 ds) = some ρ' := e
      cases q : g1 d ρ with
      | none => rw [q] at e'; cases e'
      | some ρ1 =>
        rw [q] at e'
        exact ⟨v, vr, rfl, O, ρ, S, d, ρ1, st, r1, q, fun σ1 st1 w1 => ⟨O, ρ1, S, ds, ρ', st1, r2, e', fun σ2 st2 w2 => k σ2 st2 fun vs hv => (w2 vs fun i hi => hv i (List.mem_append_right _ hi)).trans (w1 vs fun i hi => hv i (List.mem_append_left _ hi))⟩⟩⟩
def gT (n : Nat) (g : MGs) : MG := fun d ρ => match d with
  | .tup ds => if ds.length = n then g ds ρ else none
  | _ => none
theorem dg_tup {es : List Expr} {k : Nat} {is : List Nat} {g1 : MGs} {n : Nat} (hc : X.calm = true) (h : DGs X es is g1)
    (hn : (assignEach es X.env).length = n := by rfl) (hst : (assignEach es X.env).findIdx? (·.1) = none := by rfl) : DG X (.Tuple es k pos) is (gT n g1) :=
  ⟨PG.imp (pg_tup hc h.pgs hn hst) fun v σ H Q ⟨O, ρ, S, d, ρ', st, r, e, k⟩ => by
    cases d with
    | tup ds =>
      obtain ⟨a, xs, rfl, h1, h2⟩ := r
      by_cases hl : ds.length = n
      · have e' : (if ds.length = n then g1 ds ρ else none) = some ρ' := e
        rw [if_pos hl] at e'
        exact ⟨a, xs, rfl, sqT_of h1, h2.length ▸ hl, O, ρ, S, ds, ρ', st, h2, e', k⟩
      · have e' : (if ds.length = n then g1 ds ρ else none) = some ρ' := e
        rw [if_neg hl] at e'; cases e'
    | _ => cases e⟩
def sAsg (f : ME) (g : MG) : MS := fun ρ S => (f ρ S).stm ρ fun d S1 => match g d ρ with
  | some ρ1 => .nx ρ1 S1
  | none => .bad
theorem asg_imp {is : List Nat} {g1 : MG} {D' : Ends} {σ : L2.St} {H : Hp} (h : tS X.K W (sAsg f g1) D' σ H) : tAsg (tE X.K W f) (tG X.K is g1) D' σ H := by
  obtain ⟨O, ρ, S, st, h⟩ := h
  refine ⟨O, ρ, S, st, AfterS.seqE h fun d S1 O1 H1 v e1 st1 r1 h1 => ?_⟩
  cases q : g1 d ρ with
  | none => rw [q] at h1; exact h1.elim
  | some ρ1 =>
    rw [q] at h1
    exact ⟨O1, ρ, S1, d, ρ1, st1, r1, q, fun σ' st' _ => h1 O1 H1 σ' .refl st'⟩
theorem ds_asg {tg : Expr} {is : List Nat} {g1 : MG} (he : DE X W a f) (hg : DG X tg is g1) (hs : swapsWithSole [tg] a pos.line X.env = pure false := by rfl) (hw : swappedStores [tg] a X.env = pure none := by rfl) (h1 : (assignEach [tg] X.env).map (·.2) = [assign tg X.env] := by rfl) : DS X W (.Assign [tg] a pos) (sAsg f g1) :=
  ⟨PS.imp (ps_asg he.pe hg.pg hs hw h1) fun _ _ _ h => asg_imp h⟩
theorem ds_set (i : Nat) {x : Str} {pos' : Pos} (hN : X.N.Nodup) (hi : X.N[i]? = some x) (hx : Loc X.env.scope x) (he : DE X W a f) (hs : swapsWith a (some (.Name x pos')) pos.line X.env = pure false := by rfl) (hf : X.fn x = true ∨ X.env.scope.names.lookup x = some .local := by first | exact .inl rfl | exact .inr rfl | assumption) :
    DS X W (.Assign [.Name x pos'] a pos) (sAsg f (gN i)) :=
  ⟨PS.imp (ps_set hN hi hx he.pe hs hf) fun D' σ H ⟨O, ρ, S, st, h⟩ => ⟨O, ρ, S, st, AfterS.seqE h fun d S1 O1 H1 v e1 st1 r1 h1 => h1 O1 H1 _ .refl ⟨st1.wf, st1.env.set r1 i⟩⟩⟩
/-! ### what is walked -/
def Walks (K : PySem.W.Frag) (O : Ow) (H : Hp) (ds : List D) (J : It) : Prop :=
  ∀ O' H' S ρ σ, Ext O H O' H' → Stt K O' H' ρ σ S → ∀ i, (∀ d, ds[i]? = some d → J.go i H' ∧ ∀ x H'', J.yld i H' x H'' → Ext O' H' O' H'' ∧ (∀ ρ' σ' S', Stt K O' H' ρ' σ' S' → Stt K O' H'' ρ' σ' S') ∧ Rep K O' H'' d x) ∧ (i = ds.length → J.stop i H')
def tI (K : PySem.W.Frag) (W : WX) (f : MA) : TI := fun σ H R => ∃ O ρ S, Stt K O H ρ σ S ∧ After K W (Walks K) ρ σ O H R (f ρ S)
structure DI (X : Cx) (W : WX) (tg e : Expr) (f : MA) : Prop where
  pi : PI X tg e (tI X.K W f)
theorem PI.imp {X : Cx} {tg e : Expr} {t t' : TI} (h : PI X tg e t) (k : ∀ σ H Q, t' σ H Q → t σ H Q) : PI X tg e t' := ⟨fun pins s σ H Q I q => h.run pins s σ H Q I (k σ H Q q)⟩
theorem Walks.same {K : PySem.W.Frag} {O : Ow} {H H' : Hp} (e : H' = H) : Ext O H O H' ∧ (∀ ρ' σ' S', Stt K O H ρ' σ' S' → Stt K O H' ρ' σ' S') := by
  subst e; exact ⟨.refl, fun _ _ _ h => h⟩
theorem walks_list {K : PySem.W.Frag} {O : Ow} {H : Hp} {ds : List D} {xs : List V} {a : Addr} (h1 : (O.no a ∧ Rd H a (.lst xs)) ∨ WrL K a xs) (h2 : Reps K O H ds xs) {S0 : Sto} (w0 : WF K O H S0)
    : Walks K O H ds (Itl K a) := by
  intro O' H' S ρ σ e st i
  have hs : SqL K H' a xs := by
    rcases h1 with ⟨n, h1⟩ | h1
    · exact .inl ((e.w w0).rd n h1).2
    · rcases h1 with h1 | h1
      · rcases h1 with h1 | ⟨_, h1⟩ <;> cases h1
      · exact .inr h1
  have r := h2.mono (e.w w0)
  refine ⟨fun d hd => ?_, fun hi => ?_⟩
  · obtain ⟨v, hv, rv⟩ := r.get hd
    refine ⟨⟨xs, v, hs, hv⟩, fun x H'' y => ?_⟩
    obtain ⟨eH, y⟩ := y
    obtain ⟨e1, e2⟩ := Walks.same (K := K) (O := O') eH
    subst eH
    have := y xs hs
    rw [hv] at this
    cases this
    exact ⟨e1, e2, rv⟩
  · exact ⟨xs, hs, by rw [hi, r.length]; exact Nat.le_refl _⟩

theorem walks_tup {K : PySem.W.Frag} {O : Ow} {H : Hp} {ds : List D} {xs : List V} {a : Addr} (h1 : SqT K H a xs) (h2 : Reps K O H ds xs) {S0 : Sto} (w0 : WF K O H S0) : Walks K O H ds (Itt K a) := by
  intro O' H' S ρ σ e st i
  have hs : SqT K H' a xs := (e.w w0).sqT h1
  have r := h2.mono (e.w w0)
  refine ⟨fun d hd => ?_, fun hi => ?_⟩
  · obtain ⟨v, hv, rv⟩ := r.get hd
    refine ⟨⟨xs, v, hs, hv⟩, fun x H'' y => ?_⟩
    obtain ⟨eH, y⟩ := y
    obtain ⟨e1, e2⟩ := Walks.same (K := K) (O := O') eH
    subst eH
    have := y xs hs
    rw [hv] at this
    cases this
    exact ⟨e1, e2, rv⟩
  · exact ⟨xs, hs, by rw [hi, r.length]; exact Nat.le_refl _⟩
def dSigns (s : Str) : List D := s.cps.toList.map fun c => .str ⟨#[c]⟩
theorem walks_str {K : PySem.W.Frag} {O : Ow} {H : Hp} {s : Str} : Walks K O H (dSigns s) (Its s) := by
  intro O' H' S ρ σ e st i
  refine ⟨fun d hd => ?_, fun hi => ?_⟩
  · have hl : i < s.cps.size := by
      have := (List.getElem?_eq_some_iff.mp hd).1
      simpa [dSigns] using this
    refine ⟨hl, fun x H'' y => ?_⟩
    obtain ⟨eH, c, hc, rfl⟩ := y
    obtain ⟨e1, e2⟩ := Walks.same (K := K) (O := O') eH
    refine ⟨e1, e2, ?_⟩
    unfold dSigns at hd
    rw [List.getElem?_map, Array.getElem?_toList, hc] at hd
    cases hd
    rfl
  · show s.cps.size ≤ i
    rw [hi]; simp [dSigns]
def rangeD (lo : Int) (n : Nat) : List D := (List.range n).map fun (i : Nat) => .int (lo + (i : Int))
theorem walks_range {K : PySem.W.Frag} {O : Ow} {H : Hp} {lo : Int} {n : Nat} : Walks K O H (rangeD lo n) (Itr lo n) := by
  intro O' H' S ρ σ e st i
  refine ⟨fun d hd => ?_, fun hi => ?_⟩
  · have hl : i < n := by
      have := (List.getElem?_eq_some_iff.mp hd).1
      simpa [rangeD] using this
    refine ⟨hl, fun x H'' y => ?_⟩
    obtain ⟨eH, rfl⟩ := y
    obtain ⟨e1, e2⟩ := Walks.same (K := K) (O := O') eH
    refine ⟨e1, e2, ?_⟩
    unfold rangeD at hd
    rw [List.getElem?_map, List.getElem?_range hl] at hd
    cases hd
    rfl
  · show n ≤ i
    rw [hi]; simp [rangeD]
/-- a list, a tuple, a text: by what the value turns out to be -/
def iAny (K : PySem.W.Frag) (te : TE) : TI := fun σ H R => te σ H fun v H1 => (∃ a, v = .ref a ∧ (∃ xs, SqL K H1 a xs) ∧ R (Itl K a) H1) ∨ (∃ a, v = .ref a ∧ (∃ xs, SqT K H1 a xs) ∧ R (Itt K a) H1) ∨ ∃ x, v = .str x ∧ R (Its x) H1
theorem pi_any {tg e : Expr} {te : TE} (he : PE X e te) : PI X tg e (iAny X.K te) := by
  refine ⟨fun pins s σ H R I h => ?_⟩
  refine thn (he.run pins s σ H _ I h) fun v s1 ⟨x, H1, I1, r1, q1⟩ => ?_
  rcases q1 with q1 | q1 | q1
  · obtain ⟨a, e, ⟨xs, hq⟩, q⟩ := q1
    subst e
    cases r1
    obtain ⟨its, rv, p, hz⟩ := I1.list hq
    refine wpAny_pyIter_list p.isList ?_
    refine ⟨s1.heap.objs.size, [s1.heap.objs.size], _, _, H1, rfl, I1.kept (t' := s1.toks) fun b o e => Heap.get?_push_of_some _ e, turn_list a _, ⟨_, Heap.get?_push_size _ rfl, rfl, rfl⟩, fun b hb => ?_, q⟩
    have e : b = s1.heap.objs.size := by simpa using hb
    subst e
    exact I1.fpOk (Nat.le_refl _) (I1.hok.fresh (Nat.le_refl _))
  · obtain ⟨a, e, ⟨xs, hq⟩, q⟩ := q1
    subst e
    cases r1
    obtain ⟨its, rv, p, hz⟩ := I1.tuple hq
    refine wpAny_pyIter_tuple (show s1.heap.IsTuple a its.toArray from p) ?_
    refine ⟨s1.heap.objs.size, [s1.heap.objs.size], _, _, H1, rfl, I1.kept (t' := s1.toks) fun b o e => Heap.get?_push_of_some _ e, turn_tuple a _, ⟨_, Heap.get?_push_size _ rfl, rfl, rfl⟩, fun b hb => ?_, q⟩
    have e : b = s1.heap.objs.size := by simpa using hb
    subst e
    exact I1.fpOk (Nat.le_refl _) (I1.hok.fresh (Nat.le_refl _))
  · obtain ⟨y, ex, q⟩ := q1
    subst ex
    obtain ⟨t, rfl⟩ := r1
    cases ha : y.cps.all (· < 128)
    · exact wpAny_pyIter_wide ha (pi_one (tk := s1.toks) I1 _ (turn_str _ y t "str_iterator" (.inr rfl)) ⟨_, Heap.get?_push_size _ rfl, rfl, rfl⟩ q)
    · exact wpAny_pyIter_ascii ha (pi_one (tk := s1.toks) I1 _ (turn_str _ y t "str_ascii_iterator" (.inl rfl)) ⟨_, Heap.get?_push_size _ rfl, rfl, rfl⟩ q)
def itemsOf : D → Option (List D)
  | .lst ds => some ds
  | .scr ds => some ds
  | .tup ds => some ds
  | .str s => some (dSigns s)
  | _ => none
def iOf (f : ME) : MA := fun ρ S => (f ρ S).bind fun d S1 => match itemsOf d with
  | some ds => .ok ds S1
  | none => .bad
theorem di_any {tg : Expr} (ha : DE X W a f) : DI X W tg a (iOf f) := ⟨PI.imp (pi_any ha.pe) fun σ H R ⟨O, ρ, S, st, h⟩ => ⟨O, ρ, S, st, After.seq h fun d S1 O1 H1 v e1 st1 r1 h1 => by
  cases d with
  | lst ds =>
    obtain ⟨p, xs, rfl, h1', h2, h3⟩ := r1
    exact .inl ⟨p, rfl, ⟨xs, .inl (.inl h2)⟩, After.ok h1 st1 (walks_list (.inl ⟨h1', .inl h2⟩) h3 st1.wf)⟩
  | scr ds =>
    obtain ⟨p, xs, rfl, h2, h3⟩ := r1
    refine .inl ⟨p, rfl, ⟨xs, ?_⟩, After.ok h1 st1 (walks_list h2 h3 st1.wf)⟩
    rcases h2 with ⟨_, h2⟩ | h2
    · exact .inl h2
    · rcases h2 with h2 | h2
      · rcases h2 with h2 | ⟨_, h2⟩ <;> cases h2
      · exact .inr h2
  | tup ds =>
    obtain ⟨p, xs, rfl, h2, h3⟩ := r1
    exact .inr (.inl ⟨p, rfl, ⟨xs, sqT_of h2⟩, After.ok h1 st1 (walks_tup (sqT_of h2) h3 st1.wf)⟩)
  | str s => exact .inr (.inr ⟨s, r1, After.ok h1 st1 walks_str⟩)
  | _ => exact h1.elim⟩⟩
def iR1 (f : MA) : MA := fun ρ S => (f ρ S).bind fun ds S1 => match ds with
  | [.int n] => if -(2 ^ 62) ≤ n ∧ n < 2 ^ 62 then .ok (rangeD 0 n.toNat) S1 else .bad
  | _ => .bad
def iR2 (f : MA) : MA := fun ρ S => (f ρ S).bind fun ds S1 => match ds with
  | [.int m, .int n] => if -(2 ^ 62) ≤ m ∧ m < 2 ^ 62 ∧ -(2 ^ 62) ≤ n ∧ n < 2 ^ 62 then .ok (rangeD m (n - m).toNat) S1 else .bad
  | _ => .bad
theorem Reps.one {K : PySem.W.Frag} {O H} {d : D} {vs : List V} (h : Reps K O H [d] vs) : ∃ v, vs = [v] ∧ Rep K O H d v := by
  obtain ⟨v, r, rfl, h1, h2⟩ := h
  cases h2
  exact ⟨v, rfl, h1⟩
theorem Reps.two {K : PySem.W.Frag} {O H} {d e : D} {vs : List V} (h : Reps K O H [d, e] vs) : ∃ v u, vs = [v, u] ∧ Rep K O H d v ∧ Rep K O H e u := by
  obtain ⟨v, r, rfl, h1, h2⟩ := h
  obtain ⟨u, rfl, h3⟩ := h2.one
  exact ⟨v, u, rfl, h1, h3⟩
theorem di_range1 {tg : Expr} {p : Pos} {fa : MA} (hg : Gl X "range") (hm : X.mg "range" = none) (ha : DA X W [a] fa) (hs : starEach [a] X.env = [(false, eval a X.env)] := by rfl) : DI X W tg (.Call (.Name "range" p) [a] [] pos) (iR1 fa) :=
  ⟨PI.imp (pi_range1 hg hm ha.pa hs) fun σ H R ⟨O, ρ, S, st, h⟩ => ⟨O, ρ, S, st, After.seq h fun d S1 O1 H1 v e1 st1 r1 h1 => by
    rcases d with _ | ⟨d, _ | ⟨d2, ds⟩⟩
    · exact h1.elim
    · cases d with
      | int n =>
        obtain ⟨u, rfl, r⟩ := r1.one
        have h1' : After X.K W (Walks X.K) ρ σ O1 H1 R (if -(2 ^ 62) ≤ n ∧ n < 2 ^ 62 then RE.ok (rangeD 0 n.toNat) S1 else .bad) := h1
        split at h1'
        · rename_i hn
          exact ⟨n, by rw [show u = V.int n from r], hn.1, hn.2, After.ok h1' st1 walks_range⟩
        · exact h1'.elim
      | _ => exact h1.elim
    · cases d <;> exact h1.elim⟩⟩
theorem di_range2 {tg : Expr} {p : Pos} {fa : MA} (hg : Gl X "range") (hm : X.mg "range" = none) (ha : DA X W [a, b] fa) (hs : starEach [a, b] X.env = [(false, eval a X.env), (false, eval b X.env)] := by rfl) (hs2 : starEach [b] X.env = [(false, eval b X.env)] := by rfl) : DI X W tg (.Call (.Name "range" p) [a, b] [] pos) (iR2 fa) :=
  ⟨PI.imp (pi_range2 hg hm ha.pa hs hs2) fun σ H R ⟨O, ρ, S, st, h⟩ => ⟨O, ρ, S, st, After.seq h fun d S1 O1 H1 v e1 st1 r1 h1 => by
    rcases d with _ | ⟨d, _ | ⟨d2, _ | ⟨d3, ds⟩⟩⟩
    · exact h1.elim
    · cases d <;> exact h1.elim
    · cases d with
      | int m => cases d2 with
        | int n =>
          obtain ⟨u, w, rfl, r, r'⟩ := r1.two
          have h1' : After X.K W (Walks X.K) ρ σ O1 H1 R (if -(2 ^ 62) ≤ m ∧ m < 2 ^ 62 ∧ -(2 ^ 62) ≤ n ∧ n < 2 ^ 62 then RE.ok (rangeD m (n - m).toNat) S1 else .bad) := h1
          split at h1'
          · rename_i hn
            exact ⟨m, n, by rw [show u = V.int m from r, show w = V.int n from r'], hn, After.ok h1' st1 walks_range⟩
          · exact h1'.elim
        | _ => exact h1.elim
      | _ => exact h1.elim
    · cases d <;> first | exact h1.elim | (cases d2 <;> exact h1.elim)⟩⟩
/-! ### for -/
def loopS (g : MG) (body : MS) : List D → MS
  | [], ρ, S => .nx ρ S
  | d :: ds, ρ, S => match g d ρ with
    | none => .bad
    | some ρ1 => match body ρ1 S with
      | .nx ρ2 S2 => loopS g body ds ρ2 S2
      | .ct ρ2 S2 => loopS g body ds ρ2 S2
      | .bk ρ2 S2 => .nx ρ2 S2
      | r => r
def sFor (i : MA) (g : MG) (body : MS) : MS := fun ρ S => (i ρ S).stm ρ fun ds S1 => loopS g body ds ρ S1
theorem drop_of {α : Type} {l : List α} {i : Nat} {d : α} (h : l[i]? = some d) : l.drop i = d :: l.drop (i + 1) := by
  obtain ⟨hl, e⟩ := List.getElem?_eq_some_iff.mp h
  rw [← e]; exact List.drop_eq_getElem_cons hl
theorem ds_for {tg iter : Expr} {body : List Stmt} {fi : MA} {is : List Nat} {g1 : MG} (hp : PassesOwn (model X.prog X.w) X.A X.env X.xe) (hc : X.calm = true) (hi : DI X W tg iter fi) (hg : DG X tg is g1) (hb : DSs X W body F) (hs : ∀ x, foldedSetIterable iter X.env x = pure x := by intro _; rfl) : DS X W (.For tg iter body [] pos) (sFor fi g1 F) :=
  ⟨PS.imp (ps_for hp hc hi.pi hg.pg hb.pss hs) fun D' σ H ⟨O, ρ, S, st, h⟩ => ⟨O, ρ, S, st, AfterS.seqE h fun ds S1 O1 H1 J e1 st1 w1 h1 => by
    refine ⟨fun i m σ2 H2 => m = ds.length - i ∧ i ≤ ds.length ∧ ∃ O2 ρ2 S2, Ext O1 H1 O2 H2 ∧ Stt X.K O2 H2 ρ2 σ2 S2 ∧ AfterS X.K W D' O2 H2 (loopS g1 F (ds.drop i) ρ2 S2), ⟨_, rfl, Nat.zero_le _, O1, ρ, S1, .refl, st1, h1⟩, ?_⟩
    rintro i m σ2 H2 ⟨rfl, hi, O2, ρ2, S2, e2, st2, h2⟩
    have ww := w1 O2 H2 S2 ρ2 σ2 e2 st2 i
    by_cases hlt : i < ds.length
    · have hd : ds[i]? = some ds[i] := by simp [hlt]
      obtain ⟨go, yl⟩ := ww.1 _ hd
      rw [drop_of hd] at h2
      refine .inr ⟨go, fun σ' H' => ∃ O3 ρ3 S3, Ext O1 H1 O3 H' ∧ Stt X.K O3 H' ρ3 σ' S3 ∧ AfterS X.K W D' O3 H' (loopS g1 F (ds.drop (i + 1)) ρ3 S3), fun σ' H' hn => ⟨_, by omega, rfl, hlt, hn⟩, fun x H' y => ?_⟩
      obtain ⟨e3, st3, r3⟩ := yl x H' y
      have h3 : AfterS X.K W D' O2 H2 (match g1 ds[i] ρ2 with | none => .bad | some ρ1 => match F ρ1 S2 with | .nx ρ2 S2 => loopS g1 F (ds.drop (i + 1)) ρ2 S2 | .ct ρ2 S2 => loopS g1 F (ds.drop (i + 1)) ρ2 S2 | .bk ρ2 S2 => .nx ρ2 S2 | r => r) := h2
      cases q : g1 ds[i] ρ2 with
      | none => rw [q] at h3; exact h3.elim
      | some ρ4 =>
        rw [q] at h3
        refine ⟨O2, ρ2, S2, _, ρ4, st3 _ _ _ st2, r3, q, fun σ4 st4 _ => ⟨O2, ρ4, S2, st4, ?_⟩⟩
        have h4 : AfterS X.K W D' O2 H' (match F ρ4 S2 with | .nx ρ2 S2 => loopS g1 F (ds.drop (i + 1)) ρ2 S2 | .ct ρ2 S2 => loopS g1 F (ds.drop (i + 1)) ρ2 S2 | .bk ρ2 S2 => .nx ρ2 S2 | r => r) := AfterS.mono h3 e3
        cases qf : F ρ4 S2 with
        | nx ρ5 S5 => rw [qf] at h4; exact fun O' H5 σ5 e5 st5 => ⟨O', ρ5, S5, (e2.trans e3).trans e5, st5, AfterS.mono h4 e5⟩
        | ct ρ5 S5 => rw [qf] at h4; exact fun O' H5 σ5 e5 st5 => ⟨O', ρ5, S5, (e2.trans e3).trans e5, st5, AfterS.mono h4 e5⟩
        | bk ρ5 S5 => rw [qf] at h4; exact fun O' H5 σ5 e5 st5 => h4 O' H5 σ5 e5 st5
        | rt d5 S5 => rw [qf] at h4; exact h4
        | exc x5 ρ5 S5 => rw [qf] at h4; exact h4
        | bad => rw [qf] at h4; exact h4
    · have e : i = ds.length := by omega
      have h3 : AfterS X.K W D' O2 H2 (.nx ρ2 S2) := by
        have : ds.drop i = [] := by rw [e]; simp
        rw [this] at h2; exact h2
      exact .inl ⟨ww.2 e, h3 O2 H2 σ2 .refl st2⟩⟩⟩
end
end DE

namespace DE
open PySem PySem.Spec PyProof.Rows L2
section
variable {X : Cx} {W : WX} {a b c : Expr} {f g h : ME} {pos : Pos} {s : Stmt} {ss : List Stmt} {F G : MS} {tf : MT}
/-! ### list comprehensions -/
def wipeD (ρ : DE.Env) : List Nat → DE.Env
  | [] => ρ
  | v :: vs => (wipeD ρ vs).set v none
theorem wipe_env {K : PySem.W.Frag} {O : Ow} {H : Hp} {ρ : DE.Env} {σ : L2.St} (r : REnv K O H ρ σ) : ∀ vs, REnv K O H (wipeD ρ vs) (wipe σ vs)
  | [] => r
  | v :: vs => (wipe_env r vs).unset v
def loopC (own : List Nat) (g : MG) (t : MT) (e : ME) (ρ : DE.Env) : List D → Sto → RE (List D)
  | [], S => .ok [] S
  | d :: ds, S => match g d (wipeD ρ own) with
    | none => .bad
    | some ρ1 => match t ρ1 S with
      | .ok true S1 => (match e ρ1 S1 with
        | .ok v S2 => (loopC own g t e ρ ds S2).bind fun vs S3 => .ok (v :: vs) S3
        | _ => .bad)
      | .ok false S1 => loopC own g t e ρ ds S1
      | _ => .bad
def dLC (own : List Nat) (i : MA) (g : MG) (t : MT) (e : ME) : ME := fun ρ S => (i ρ S).bind fun ds S1 => if ds.length ≤ cap then (loopC own g t e ρ ds S1).bind fun vs S2 => .ok (.lst vs) S2 else .bad
abbrev W0 : WX := fun _ _ _ _ => False
structure DTs (X : Cx) (W : WX) (es : List Expr) (f : MT) : Prop where
  pts : PTs X es (tT X.K W f)
def mYes : MT := fun _ S => .ok true S
theorem dts_nil : DTs X W [] mYes := ⟨⟨fun pins s σ H Q I ⟨O, ρ, S, st, h⟩ => pts_nil.run pins s σ H Q I (After.ok h st rfl)⟩⟩
theorem dts_one (h : DT X W c tf) : DTs X W [c] tf := ⟨pts_one h.pt⟩

theorem wipe_wipe (σ : L2.St) : ∀ vs : List Nat, wipe (wipe σ vs) vs = wipe σ vs := fun vs => by
  apply List.ext_getElem?
  intro i
  by_cases hi : i ∈ vs
  · have : ∀ (τ : L2.St) , (wipe τ vs)[i]? = if i < τ.length then some none else none := fun τ => by
      split
      · rename_i hl
        cases q : (wipe τ vs)[i]? with
        | none => rw [List.getElem?_eq_none_iff, wipe_length] at q; omega
        | some o =>
          cases o with
          | none => rfl
          | some v => exact absurd hi (wipe_some q).2
      · rename_i hl
        rw [List.getElem?_eq_none_iff, wipe_length]; omega
    rw [this, this, wipe_length]
  · rw [wipe_out hi]
theorem lc_imp {own : List (Str × Nat)} {fi : MA} {is : List Nat} {g1 : MG} {ft : MT} (hv : ∀ i ∈ is, i ∈ own.map (·.2)) : ∀ σ H Q, tE X.K W (dLC (own.map (·.2)) fi g1 ft f) σ H Q → tLc (tI X.K W fi) (tG X.K is g1) (tT X.K W0 ft) (tE X.K W0 f) (own.map (·.2)) σ H Q :=
  fun σ H Q ⟨O, ρ, S, st, h⟩ => ⟨O, ρ, S, st, After.seq h fun ds S1 O1 H1 J e1 st1 w1 h1 => by
    intro p hp
    have hl : ds.length ≤ cap := by
      by_cases hl : ds.length ≤ cap
      · exact hl
      · simp only [hl, if_false] at h1; exact h1.elim
    simp only [hl, if_true] at h1
    obtain ⟨eh, sth⟩ := st1.hide (xs := []) hp
    refine ⟨fun i m H2 => m = ds.length - i ∧ i ≤ ds.length ∧ ∃ O2 S2 acc accV, p ∈ O2.u ∧ Ext O1 H1 O2 H2 ∧ Stt X.K O2 H2 ρ σ S2 ∧ H2 p = some (.lst accV) ∧ acc.length ≤ i ∧ Reps X.K O2 H2 acc accV ∧
        After X.K W (Rep X.K) ρ σ O1 H1 Q ((loopC (own.map (·.2)) g1 ft f ρ (ds.drop i) S2).bind fun vs S3 => .ok (.lst (acc ++ vs)) S3), ⟨_, rfl, Nat.zero_le _, _, S1, [], [], List.mem_cons_self, eh, sth, upd_same, Nat.le_refl _, rfl, h1⟩, ?_⟩
    rintro i m H2 ⟨rfl, hi, O2, S2, acc, accV, hu, e2, st2, hp2, ha, r2, h2⟩
    have ww := w1 O2 H2 S2 ρ σ e2 st2 i
    by_cases hlt : i < ds.length
    · have hd : ds[i]? = some ds[i] := by simp [hlt]
      obtain ⟨go, yl⟩ := ww.1 _ hd
      rw [drop_of hd] at h2
      refine .inr ⟨go, fun H' => ∃ O3 S3 acc3 accV3, p ∈ O3.u ∧ Ext O1 H1 O3 H' ∧ Stt X.K O3 H' ρ σ S3 ∧ H' p = some (.lst accV3) ∧ acc3.length ≤ i + 1 ∧ Reps X.K O3 H' acc3 accV3 ∧
        After X.K W (Rep X.K) ρ σ O1 H1 Q ((loopC (own.map (·.2)) g1 ft f ρ (ds.drop (i + 1)) S3).bind fun vs S3 => .ok (.lst (acc3 ++ vs)) S3), fun H' hn => ⟨_, by omega, rfl, hlt, hn⟩, fun x H' y => ?_⟩
      obtain ⟨e3, st3, r3⟩ := yl x H' y
      have st2' := st3 _ _ _ st2
      have hp' : ∀ {O4 H4}, Ext O2 H' O4 H4 → H4 p = some (.lst accV) := fun e4 => (e3.trans e4).keep p _ (st2.wf.hid p hu).1 hp2
      have hu' : ∀ {O4 H4}, Ext O2 H' O4 H4 → p ∈ O4.u := fun e4 => by
        obtain ⟨m, q, _⟩ := e4.preu
        rw [q]; exact List.mem_append_right _ hu
      cases q : g1 ds[i] (wipeD ρ (own.map (·.2))) with
      | none => simp only [loopC, q] at h2; exact h2.elim
      | some ρ1 =>
        refine ⟨O2, wipeD ρ (own.map (·.2)), S2, _, ρ1, ⟨st2'.wf, wipe_env st2'.env _⟩, r3, q, fun σ4 st4 only => ⟨(only _ hv).trans (wipe_wipe _ _), O2, ρ1, S2, st4, ?_⟩⟩
        cases qt : ft ρ1 S2 with
        | bad => simp only [loopC, q, qt] at h2; exact h2.elim
        | exc _ _ => simp only [loopC, q, qt] at h2; exact h2.elim
        | ok bt S5 =>
          intro O5 H5 bb e5 st5 rb
          subst rb
          cases bt with
          | false =>
            refine iteF ⟨O5, S5, acc, accV, hu' e5, e2.trans (e3.trans e5), ⟨st5.wf, st2'.env.mono (e5.w st2'.wf)⟩, hp' e5, by omega, r2.mono ((e3.trans e5).w st2.wf), ?_⟩
            simp only [loopC, q, qt] at h2
            exact h2
          | true =>
            refine iteT ⟨O5, ρ1, S5, st5, ?_⟩
            cases qf : f ρ1 S5 with
            | bad => simp only [loopC, q, qt, qf] at h2; exact h2.elim
            | exc _ _ => simp only [loopC, q, qt, qf] at h2; exact h2.elim
            | ok v6 S6 =>
              intro O6 H6 y6 e6 st6 r6
              have e56 := e5.trans e6
              have st6' : Stt X.K O6 H6 ρ σ S6 := ⟨st6.wf, st2'.env.mono (e56.w st2'.wf)⟩
              have ra : Reps X.K O6 H6 acc accV := r2.mono ((e3.trans e56).w st2.wf)
              have ew := extW_hid (xs := accV ++ [y6]) st6.wf (hu' e56)
              refine ⟨accV, hp' e56, ?_, O6, S6, acc ++ [v6], accV ++ [y6], hu' e56, ?_, st6'.hid (hu' e56), upd_same, by simp; omega, Reps.append (ra.mono ew) ⟨y6, [], rfl, r6.mono ew, rfl⟩, ?_⟩
              · rw [← ra.length]
                exact cap_lt (by omega)
              · have e7 := e2.trans (e3.trans e56)
                refine ⟨e7.pre, e7.preu, fun a o na ho => ?_, fun a u ho => ?_, fun a ho => upd_there a (e7.there a ho)⟩
                · rw [upd_ne (ne_of_none ho hp)]; exact e7.keep a o na ho
                · rw [upd_ne (ne_of_none ho hp)]; exact e7.tups a u ho
              · simp only [loopC, q, qt, qf] at h2
                have e8 : ∀ vs : List D, acc ++ [v6] ++ vs = acc ++ v6 :: vs := fun vs => by simp
                simp only [e8]
                cases ql : loopC (own.map (·.2)) g1 ft f ρ (ds.drop (i + 1)) S6 with
                | ok vs S7 => rw [ql] at h2; exact h2
                | exc _ _ => rw [ql] at h2; exact h2
                | bad => rw [ql] at h2; exact h2
    · have e : i = ds.length := by omega
      refine .inl ⟨ww.2 e, ?_⟩
      have hd : ds.drop i = [] := by rw [e]; simp
      rw [hd] at h2
      have h3 : After X.K W (Rep X.K) ρ σ O1 H1 Q (.ok (.lst (acc ++ [])) S2) := h2
      rw [List.append_nil] at h3
      have hsub : ∀ a ∈ O1.u, a ∈ O2.u := fun a ha => by
        obtain ⟨m, q, _⟩ := e2.preu
        rw [q]; exact List.mem_append_right _ ha
      refine h3 ⟨O2.l, O1.u⟩ H2 _ ⟨e2.pre, ⟨[], rfl, fun _ h => by cases h⟩, e2.keep, e2.tups, e2.there⟩ (st2.bare hsub) ⟨p, accV, rfl, ⟨(st2.wf.hid p hu).1, fun z => st1.wf.there p (.inr z) hp⟩, hp2, r2.mono (extW_bare hsub)⟩⟩
theorem de_lc {elt tg iter : Expr} {ifs : List Expr} {scope : Scope} {own : List (Str × Nat)} {vs : List Nat} {fi : MA} {is : List Nat} {g1 : MG} {ft : MT} (hc : X.calm = true) (hN : X.N.Nodup) (hi : DI X W tg iter fi) (ok : BlkOk X.N X.env.scope scope own)
    (hg : ∀ (s : Shared) (H : Hp) (C : Addr) (cl : List (Str × Addr)) (fp : List Addr), DG (X.blk s H scope (compEnvC scope cl C X.env) fp) tg is g1) (ht : ∀ (s : Shared) (H : Hp) (C : Addr) (cl : List (Str × Addr)) (fp : List Addr), DTs (X.blk s H scope (compEnvC scope cl C X.env) fp) W0 ifs ft)
    (he : ∀ (s : Shared) (H : Hp) (C : Addr) (cl : List (Str × Addr)) (fp : List Addr), DE (X.blk s H scope (compEnvC scope cl C X.env) fp) W0 elt f) (hv : ∀ i ∈ is, i ∈ vs) (hvs : vs = own.map (·.2) := by rfl) (hs : ∀ x, foldedSetIterable iter X.env x = pure x := by intro _; rfl) :
    DE X W (.ListComp elt [⟨tg, iter, ifs, 0⟩] scope pos) (dLC vs fi g1 ft f) := by
  subst hvs
  exact ⟨PE.imp (pe_lc (g := tG X.K is g1) (tt := tT X.K W0 ft) (te := tE X.K W0 f) hc hN hi.pi ok (fun s H C cl fp => (hg s H C cl fp).pg) (fun s H C cl fp => (ht s H C cl fp).pts) (fun s H C cl fp => (he s H C cl fp).pe) hs) fun σ H Q h => lc_imp hv σ H Q h⟩
theorem ds_setLc (i : Nat) {y : Str} {py spos : Pos} {elt tg iter : Expr} {ifs : List Expr} {scope : Scope} {own : List (Str × Nat)} {vs : List Nat} {fi : MA} {is : List Nat} {g1 : MG} {ft : MT} (hc : X.calm = true) (hN : X.N.Nodup) (hy : X.N[i]? = some y) (hyl : X.env.scope.names.lookup y = some .local)
    (hsw : swapsWith (.ListComp elt [⟨tg, iter, ifs, 0⟩] scope pos) (some (.Name y py)) spos.line X.env = pure true) (hi : DI X W tg iter fi) (ok : BlkOk X.N X.env.scope scope own)
    (hg : ∀ (s : Shared) (H : Hp) (C : Addr) (cl : List (Str × Addr)) (fp : List Addr), DG (X.blk s H scope (compEnvC scope cl C X.env) fp) tg is g1) (ht : ∀ (s : Shared) (H : Hp) (C : Addr) (cl : List (Str × Addr)) (fp : List Addr), DTs (X.blk s H scope (compEnvC scope cl C X.env) fp) W0 ifs ft)
    (he : ∀ (s : Shared) (H : Hp) (C : Addr) (cl : List (Str × Addr)) (fp : List Addr), DE (X.blk s H scope (compEnvC scope cl C X.env) fp) W0 elt f) (hv : ∀ i ∈ is, i ∈ vs) (hvs : vs = own.map (·.2) := by rfl) (hs : ∀ x, foldedSetIterable iter X.env x = pure x := by intro _; rfl) :
    DS X W (.Assign [.Name y py] (.ListComp elt [⟨tg, iter, ifs, 0⟩] scope pos) spos) (sAsg (dLC vs fi g1 ft f) (gN i)) := by
  subst hvs
  exact ⟨PS.imp (ps_setLc (g := tG X.K is g1) (tt := tT X.K W0 ft) (te := tE X.K W0 f) hc hN hy hyl hsw hi.pi ok (fun s H C cl fp => (hg s H C cl fp).pg) (fun s H C cl fp => (ht s H C cl fp).pts) (fun s H C cl fp => (he s H C cl fp).pe) hs) fun D' σ H ⟨O, ρ, S, st, h⟩ =>
    lc_imp hv σ H _ ⟨O, ρ, S, st, AfterS.seqE h fun d S1 O1 H1 v e1 st1 r1 h1 => h1 O1 H1 _ .refl ⟨st1.wf, st1.env.set r1 i⟩⟩⟩
end
/-! ### defs and their calls -/
def AfterF (K : PySem.W.Frag) (O : Ow) (H : Hp) (Q : VK) (E : XK) : RE D → Prop
  | .ok d S' => ∀ O' H' v, Ext O H O' H' → WF K O' H' S' → Rep K O' H' d v → Q v H'
  | .exc x S' => ∀ O' H' cls dx, Ext O H O' H' → WF K O' H' S' → RepX K O' H' x cls dx → E cls dx H'
  | .bad => False
abbrev FD := List D → Sto → RE D
def spD (K : PySem.W.Frag) (n : Nat) (F : FD) : Sp := fun vs H Q E => ∃ O S ds, WF K O H S ∧ Reps K O H ds vs ∧ ds.length = n ∧ AfterF K O H Q E (F ds S)
def fnD (n : Nat) (B : MS) : FD := fun ds S => match B (ds.map some ++ List.replicate (n - ds.length) none) S with
  | .nx _ S' => .ok .non S'
  | .rt d S' => .ok d S'
  | .exc x _ S' => .exc x S'
  | _ => .bad
abbrev WD (E : XK) : WX := fun cls d _ H => E cls d H
section
variable {P : Program} {w : World} {K : PySem.W.Frag} {mg : Str → Option Value} {base : Heap} {x qual : Str} {params : Arguments} {body : List Stmt} {scope : Scope} {dvs : List V} {kws : List (Str × V)} {f : Addr} {fd : FuncData} {N ps : List Str} {k : Nat} {B : MS}
/-- a def's context -/
abbrev XOf (P : Program) (w : World) (K : PySem.W.Frag) (mg : Str → Option Value) (base : Heap) (N : List Str) (qual : Str) (scope : Scope) (f : Addr) (cdv : Value) (A : Around) (outer : List PySem.Env) (s : Shared) (H : Hp) (E : XK) : Cx :=
  cxOf (L2.CX P w) P w K mg base N qual scope f cdv A outer s H E
theorem fn_data (F : FunD K x qual params body scope dvs kws f fd) (S : FnScope N ps scope)
    (hbody : ∀ (cdv : Value) (A : Around) (outer : List PySem.Env) (s : Shared) (H : Hp) (E : XK), Room k (A.deeper (envOfC qual scope s.heap.objs.size f cdv)) → DSs (XOf P w K mg base N qual scope f cdv A outer s H E) (WD E) body B) :
    FnOk P w K mg base (L2.CX P w) (k + 1) f fd ps (spD K ps.length (fnD N.length B)) := by
  refine F.ok S (fun vs H Q E h => ?_) (fun cdv A outer s H vs Q E hr h => ?_)
  · obtain ⟨O, S', ds, _, r, hl, _⟩ := h
    rw [← r.length]; exact hl
  · obtain ⟨O, S', ds, wf, r, hl, h⟩ := h
    refine ⟨_, (hbody cdv A outer s H E hr).pss, O, _, S', ⟨wf, by rw [L2.start, ← r.length]; exact (REnv.of r).app (N.length - ds.length)⟩, ?_⟩
    · unfold fnD at h
      cases q : B (ds.map some ++ List.replicate (N.length - ds.length) none) S' with
      | nx ρ1 S1 => rw [q] at h; exact fun O' H' σ' e st => h O' H' .non e st.wf rfl
      | rt d S1 => rw [q] at h; exact fun O' H' v e st rd => h O' H' v e st rd
      | exc x ρ1 S1 => rw [q] at h; exact fun O' H' σ' cls dx e st rx => h O' H' cls dx e st.wf rx
      | bk _ _ => rw [q] at h; exact h.elim
      | ct _ _ => rw [q] at h; exact h.elim
      | bad => rw [q] at h; exact h.elim
end
section
variable {X : Cx} {W : WX} {x : Str} {p pos : Pos} {e : Expr} {es : List Expr} {k n : Nat} {f : Addr} {fd : FuncData} {ps : List Str} {dvs : List V} {dsv : List Value} {F : FD} {fa : MA}
/-- a call; dd: what the defaults are -/
def dCall (n : Nat) (F : FD) (dd : List D) (fa : MA) : ME := fun ρ S => (fa ρ S).bind fun ds S1 => if (ds ++ dd).length = n then F (ds ++ dd) S1 else .bad
theorem call_imp {E : L2.St → XK} {dd : List D} (hE : ∀ σ cls dx H, W cls dx σ H → E σ cls dx H) (hdd : ∀ O H, Reps X.K O H dd dvs) {σ : L2.St} {H : Hp} {Q : VK} (h : tE X.K W (dCall n F dd fa) σ H Q) : tCallSD (spD X.K n F) dvs E (tA X.K W fa) σ H Q := by
  obtain ⟨O, ρ, S, st, h⟩ := h
  refine ⟨O, ρ, S, st, After.seq h fun ds S1 O1 H1 vs e1 st1 r1 h1 => ?_⟩
  by_cases hl : (ds ++ dd).length = n
  · simp only [hl, if_true] at h1
    refine ⟨O1, S1, ds ++ dd, st1.wf, r1.append (hdd O1 H1), hl, ?_⟩
    cases q : F (ds ++ dd) S1 with
    | ok d S' => rw [q] at h1; exact fun O' H' v e wf r => h1 O' H' v e ⟨wf, st1.env.mono (e.w st1.wf)⟩ r
    | exc y S' => rw [q] at h1; exact fun O' H' cls dx e wf r => hE _ _ _ _ (h1 O' H' cls dx e ⟨wf, st1.env.mono (e.w st1.wf)⟩ r)
    | bad => rw [q] at h1; exact h1
  · simp only [hl, if_false] at h1; exact h1.elim
theorem de_call {dd : List D} (G : FnOk X.prog X.w X.K X.mg X.base (L2.CX X.prog X.w) k f fd ps (spD X.K n F)) (hr : Room k X.A) (hg : Gl X x) (hm : X.mg x = some (.ref f)) (hk : PySem.W.keepIn X.K (.ref f) = true) (hb : Binds X.K fd ps dsv) (hd : Vals dvs dsv)
    (hdd : ∀ O H, Reps X.K O H dd dvs) (tk : Takes X W) (ha : DA X W (e :: es) fa) (hdb : (x == ("__debug__" : Str)) = false := by decide) (he : starEach (e :: es) X.env = (false, eval e X.env) :: starEach es X.env := by rfl) (hpl : (backTo pos (starEach es X.env)).any (·.1) = false := by rfl) :
    DE X W (.Call (.Name x p) (e :: es) [] pos) (dCall n F dd fa) :=
  ⟨PE.imp (pe_callSD G hr hg hm hk hb hd (fun σ => passAt tk σ) ha.pa hdb he hpl) fun _ _ _ h => call_imp (fun _ _ _ _ q => q) hdd h⟩
/-- built-ins -/
def CaD (X : Cx) (r : List V → Hp → VK → Prop) (op : FD) : Prop :=
  ∀ (W : WX) (ρ : DE.Env) (σ : L2.St) (O : Ow) (H : Hp) (S : Sto) (vs : List V) (ds : List D) (Q : VK), Stt X.K O H ρ σ S → Reps X.K O H ds vs → After X.K W (Rep X.K) ρ σ O H Q (op ds S) → r vs H Q
def dBlt (op : FD) (fa : MA) : ME := fun ρ S => (fa ρ S).bind fun ds S1 => op ds S1
theorem blt_imp {r : List V → Hp → VK → Prop} {op : FD} (ho : CaD X r op) {σ : L2.St} {H : Hp} {Q : VK} (h : tE X.K W (dBlt op fa) σ H Q) : tCB r (tA X.K W fa) σ H Q := by
  obtain ⟨O, ρ, S, st, h⟩ := h
  exact ⟨O, ρ, S, st, After.seq h fun ds S1 O1 H1 vs e1 st1 r1 h1 => ho W ρ σ O1 H1 S1 vs ds Q st1 r1 h1⟩
theorem de_blt {id : String} {r : List V → Hp → VK → Prop} {op : FD} (hc : CallR X (.builtin id) r) (ho : CaD X r op) (hg : Gl X x) (hm : X.mg x = none) (hv : bootBuiltins x = some (.builtin id)) (ha : DA X W (e :: es) fa) (hn : x ≠ "__name__" := by decide) (hdb : (x == ("__debug__" : Str)) = false := by decide)
    (he : starEach (e :: es) X.env = (false, eval e X.env) :: starEach es X.env := by rfl) (hpl : (backTo pos (starEach es X.env)).any (·.1) = false := by rfl) : DE X W (.Call (.Name x p) (e :: es) [] pos) (dBlt op fa) :=
  ⟨PE.imp (pe_callB hc hg hm hv ha.pa hn hdb he hpl) fun _ _ _ h => blt_imp ho h⟩
theorem de_bty {T : String} {r : List V → Hp → VK → Prop} {op : FD} (hc : CallR X (.type T) r) (ho : CaD X r op) (hg : Gl X x) (hm : X.mg x = none) (hv : bootBuiltins x = some (.type T)) (ha : DA X W (e :: es) fa) (hn : x ≠ "__name__" := by decide) (hdb : (x == ("__debug__" : Str)) = false := by decide)
    (he : starEach (e :: es) X.env = (false, eval e X.env) :: starEach es X.env := by rfl) (hpl : (backTo pos (starEach es X.env)).any (·.1) = false := by rfl) : DE X W (.Call (.Name x p) (e :: es) [] pos) (dBlt op fa) :=
  ⟨PE.imp (pe_callTy hc hg hm hv ha.pa hn hdb he hpl) fun _ _ _ h => blt_imp ho h⟩
end
end DE

set_option maxHeartbeats 4000000
namespace DE
open PySem PySem.Spec PyProof.Rows L2
def RD (K : PySem.W.Frag) (op : D → D → Sto → RE D) : R2 := fun x y H Q => ∃ W ρ σ O S d e, Stt K O H ρ σ S ∧ Rep K O H d x ∧ Rep K O H e y ∧ After K W (Rep K) ρ σ O H Q (op d e S)
theorem opD_RD {X : Cx} {op : D → D → Sto → RE D} : OpD X (RD X.K op) op := fun W ρ σ O H S x y d e Q st r1 r2 h => ⟨W, ρ, σ, O, S, d, e, st, r1, r2, h⟩
section
variable {X : Cx} {W : WX} {a b c : Expr} {f g h : ME} {pos : Pos}
theorem de_bin {op : Operator} {o : D → D → Sto → RE D} (hr : OpR X (binaryOp op) (RD X.K o)) (ha : DE X W a f) (hb : DE X W b g) : DE X W (.BinOp a op b pos) (dBin o f g) := de_op hr opD_RD ha hb
theorem de_rel {op : CmpOp} {o : D → D → Sto → RE D} (hr : OpR X (compareOp op) (RD X.K o)) (ha : DE X W a f) (hb : DE X W b g) (hm : behindInMarks op b = false := by first | exact nomark _ | rfl) : DE X W (.Compare a [op] [b] pos) (dBin o f g) := de_cmp hr opD_RD ha hb hm
theorem dt_rel {op : CmpOp} {o : D → D → Sto → RE D} (hr : OpR X (compareOp op) (RD X.K o)) (ha : DE X W a f) (hb : DE X W b g) (hm : behindInMarks op b = false := by first | exact nomark _ | rfl) : DT X W (.Compare a [op] [b] pos) (dTest (dBin o f g)) := dt_cmp hr opD_RD ha hb hm
/-! ### arithmetic -/
def oAdd : D → D → Sto → RE D
  | .int i, .int j, S => .ok (.int (i + j)) S
  | .str x, .str y, S => if x.length + y.length ≤ cap then .ok (.str (x ++ y)) S else .bad
  | .lst xs, .lst ys, S => if xs.length + ys.length ≤ cap then .ok (.lst (xs ++ ys)) S else .bad
  | .tup xs, .tup ys, S => if xs.length + ys.length ≤ cap then .ok (.tup (xs ++ ys)) S else .bad
  | _, _, _ => .bad
theorem ite_ok {α : Type} {c : Prop} [Decidable c] {r : RE α} {P : RE α → Prop} (h : P (if c then r else .bad)) (nb : ¬ P .bad) : c ∧ P r := by
  by_cases hc : c
  · rw [if_pos hc] at h; exact ⟨hc, h⟩
  · rw [if_neg hc] at h; exact absurd h nb
theorem After.ite {α β : Type} {K : PySem.W.Frag} {W : WX} {ρ : DE.Env} {σ : L2.St} {O : Ow} {H : Hp} {Rl : Ow → Hp → α → β → Prop} {Q : β → Hp → Prop} {c : Prop} [Decidable c] {r : RE α} (h : After K W Rl ρ σ O H Q (if c then r else .bad)) : c ∧ After K W Rl ρ σ O H Q r :=
  ite_ok (P := fun r => After K W Rl ρ σ O H Q r) h fun z => z
theorem op_oAdd : OpR X (binaryOp .Add) (RD X.K oAdd) := by
  intro pins s σ H x y v u Q I rx ry ⟨W, ρ, σ', O, S, d, e, st, r1, r2, h⟩
  cases d <;> cases e <;> try exact h.elim
  · rename_i i j
    exact op_add pins s σ H x y v u Q I rx ry ⟨i, j, r1, r2, After.ok h st rfl⟩
  · rename_i i j
    obtain ⟨hc, h⟩ := After.ite h
    exact op_add_str pins s σ H x y v u Q I rx ry ⟨i, j, r1, r2, cap_line hc, After.ok h st rfl⟩
  · rename_i ds es
    obtain ⟨hc, h⟩ := After.ite h
    obtain ⟨p, xs, rfl, h1, q1⟩ := r1
    obtain ⟨q, ys, rfl, h2, q2⟩ := r2
    refine op_catA pins s σ H _ _ v u Q I rx ry ⟨p, q, xs, ys, rfl, rfl, sqT_of h1, sqT_of h2, by rw [← q1.length, ← q2.length]; exact cap_line hc, fun e => ?_, fun _ e => ?_, fun _ _ t ht => ?_⟩
    · subst e
      cases ds with
      | nil => exact After.ok h st ⟨q, ys, rfl, h2, q2⟩
      | cons _ _ => obtain ⟨_, _, e, _⟩ := q1; cases e
    · subst e
      cases es with
      | nil => exact After.ok h st ⟨p, xs, rfl, h1, by rw [List.append_nil]; exact q1⟩
      | cons _ _ => obtain ⟨_, _, e, _⟩ := q2; cases e
    · obtain ⟨e2, st2⟩ := st.new (o := .tup (xs ++ ys)) ht
      exact h O _ _ e2 st2 ⟨t, _, rfl, .inl upd_same, (q1.mono (e2.w st.wf)).append (q2.mono (e2.w st.wf))⟩
  · rename_i ds es
    obtain ⟨hc, h⟩ := After.ite h
    obtain ⟨p, xs, rfl, n1, h1, q1⟩ := r1
    obtain ⟨q, ys, rfl, n2, h2, q2⟩ := r2
    refine op_cat pins s σ H _ _ v u Q I rx ry ⟨p, q, xs, ys, rfl, rfl, h1, h2, by rw [← q1.length, ← q2.length]; exact cap_line hc, fun t ht => ?_⟩
    obtain ⟨e2, st2⟩ := st.new (o := .lst (xs ++ ys)) ht
    exact h O _ _ e2 st2 ⟨t, _, rfl, st.no ht, upd_same, (q1.mono (e2.w st.wf)).append (q2.mono (e2.w st.wf))⟩
/-- ints -/
def oI (C : Int → Int → Bool) (g : Int → Int → D) : D → D → Sto → RE D
  | .int i, .int j, S => if C i j = true then .ok (g i j) S else .bad
  | _, _, _ => .bad
theorem op_I {f : Value → Value → Sem Value} {P : Int → Int → Prop} {gv : Int → Int → V} {C : Int → Int → Bool} {gd : Int → Int → D} (hr : OpR X f (rI P gv)) (hC : ∀ i j, C i j = true → P i j) (hg : ∀ O H i j, Rep X.K O H (gd i j) (gv i j)) : OpR X f (RD X.K (oI C gd)) := by
  intro pins s σ H x y v u Q I rx ry ⟨W, ρ, σ', O, S, d, e, st, r1, r2, h⟩
  cases d <;> cases e <;> try exact h.elim
  rename_i i j
  obtain ⟨hc, h⟩ := After.ite h
  exact hr pins s σ H x y v u Q I rx ry ⟨i, j, r1, r2, hC i j hc, After.ok h st (hg _ _ _ _)⟩
theorem op_I0 {f : Value → Value → Sem Value} {gv : Int → Int → V} {gd : Int → Int → D} (hr : OpR X f (rI0 gv)) (hg : ∀ O H i j, Rep X.K O H (gd i j) (gv i j)) : OpR X f (RD X.K (oI (fun _ _ => true) gd)) := by
  intro pins s σ H x y v u Q I rx ry ⟨W, ρ, σ', O, S, d, e, st, r1, r2, h⟩
  cases d <;> cases e <;> try exact h.elim
  rename_i i j
  have h' : After X.K W (Rep X.K) ρ σ' O H Q (.ok (gd i j) S) := h
  exact hr pins s σ H x y v u Q I rx ry ⟨i, j, r1, r2, After.ok h' st (hg _ _ _ _)⟩
def oSub := oI (fun _ _ => true) fun i j => .int (i - j)
theorem op_oSub : OpR X (binaryOp .Sub) (RD X.K oSub) := op_I0 op_sub fun _ _ _ _ => rfl
def lim64 : Int := 18446744073709551616
def oFDiv := oI (fun i j => decide (0 < j ∧ j < 1073741824)) fun i j => .int (i / j)
theorem op_oFDiv : OpR X (binaryOp .FloorDiv) (RD X.K oFDiv) := op_I op_fdiv (fun i j h => by unfold CDiv; simpa using h) fun _ _ _ _ => rfl
def oMod := oI (fun i j => decide (0 < j)) fun i j => .int (i % j)
theorem op_oMod : OpR X (binaryOp .Mod) (RD X.K oMod) := op_I op_mod (fun i j h => of_decide_eq_true h) fun _ _ _ _ => rfl
def oPow := oI (fun i j => decide (0 ≤ j ∧ j ≤ 1000000 ∧ i.natAbs < lim64.toNat)) fun i j => .int (i ^ j.toNat)
theorem op_oPow : OpR X (binaryOp .Pow) (RD X.K oPow) := op_I op_pow (fun i j h => by have := of_decide_eq_true h; refine ⟨this.1, this.2.1, ?_⟩; simpa [lim64] using this.2.2) fun _ _ _ _ => rfl
/-- a text so many times -/
def mulS (x : Str) (n : Int) : Str := ⟨(List.replicate n.toNat x.cps.toList).flatten.toArray⟩
theorem fold_app (x : Array Nat) : ∀ (n : Nat) (acc : Array Nat), (List.replicate n x).foldl (· ++ ·) acc = acc ++ (List.replicate n x.toList).flatten.toArray
  | 0, acc => by simp
  | n + 1, acc => by
    rw [List.replicate_succ, List.foldl_cons, fold_app x n, List.replicate_succ, List.flatten_cons, Array.append_assoc]
    congr 1
    apply Array.ext'
    simp
theorem mulS_eq (x : Str) (n : Int) : (⟨(List.replicate n.toNat x.cps).foldl (· ++ ·) #[]⟩ : Str) = mulS x n := by
  unfold mulS
  rw [fold_app]
  simp
theorem mulS_len (x : Str) (n : Int) : (mulS x n).length = n.toNat * x.length := by
  show (((List.replicate n.toNat x.cps.toList).flatten.toArray)).size = n.toNat * x.cps.size
  rw [List.size_toArray]
  generalize n.toNat = m
  induction m with
  | zero => simp
  | succ m ih => rw [List.replicate_succ, List.flatten_cons, List.length_append, ih, Array.length_toList]; rw [Nat.succ_mul]; omega
theorem str_ext {x y : Str} (h : x.cps.toList = y.cps.toList) : x = y := by
  obtain ⟨a⟩ := x
  obtain ⟨b⟩ := y
  have : a = b := Array.ext' h
  rw [this]
theorem mul_text {prog : Program} {w : World} {A : Around} {E : Value → Shared → Prop} {s : Shared} {x : Str} {n : Int} {t u : Tok} {Q : Value → Shared → Prop} (h2 : n ≤ 100000) (h0 : -100000 ≤ n) (h3 : n.toNat * x.length ≤ 100000) (h4 : x.length ≤ 100000)
    (h : ∀ tk tk', Q (.str (mulS x n) tk) { s with toks := tk' }) : wpAny (model prog w) A (binaryOp .Mult (.str x t) (.int n u)) Q E s := by
  refine PySem.P.mul_str (by
      have a : ¬ n < -(2 ^ 63 : Int) := by omega
      have b : ¬ n ≥ 2 ^ 63 := by omega
      rw [decide_eq_false a, decide_eq_false b]; rfl) (fun h1 _ => ?_) (fun _ _ => ?_) ?_
  · have h5 : (x.length : Int) * n ≤ 100000 := by
      have : ((n.toNat * x.length : Nat) : Int) ≤ 100000 := by omega
      rw [Int.natCast_mul, Int.toNat_of_nonneg (by omega)] at this
      rw [Int.mul_comm]; exact this
    intro hgt
    have : (x.length : Int) ≤ (2 ^ 63 - 1) / n := by
      rw [Int.le_ediv_iff_mul_le (by omega)]
      omega
    omega
  · show decide (x.length * n.toNat > sizeLine) = false
    rw [Nat.mul_comm]
    exact decide_eq_false (Nat.not_lt.mpr (Nat.le_trans h3 (by decide)))
  · by_cases hn : n < 1
    · rw [if_pos hn]
      have e : mulS x n = Str.empty := by
        have : n.toNat = 0 := by omega
        unfold mulS; rw [this]; rfl
      have := h s.toks (s.toks + 1)
      rw [e] at this
      exact ⟨by decide, this⟩
    · rw [if_neg hn]
      by_cases hq : (n == 1 || x.length == 0) = true
      · rw [if_pos hq]
        have e : mulS x n = x := by
          rcases Bool.or_eq_true _ _ ▸ hq with z | z
          · have : n = 1 := by simpa using z
            subst this
            apply str_ext
            simp [mulS]
          · have z : x.cps.size = 0 := (show x.length = 0 by simpa using z)
            have z' : x.cps = #[] := by simpa using z
            apply str_ext
            unfold mulS
            rw [z']
            simp
        have := h t s.toks
        rw [e] at this
        exact this
      · rw [if_neg hq, mulS_eq]
        exact ⟨by rw [mulS_len]; exact Nat.le_trans h3 (by decide), h _ _⟩
def oMul : D → D → Sto → RE D
  | .int i, .int j, S => if (-lim64 < i ∧ i < lim64) ∨ (-lim64 < j ∧ j < lim64) then .ok (.int (i * j)) S else .bad
  | .str x, .int n, S => if n ≤ 100000 ∧ -100000 ≤ n ∧ n.toNat * x.length ≤ 100000 ∧ x.length ≤ 100000 then .ok (.str (mulS x n)) S else .bad
  | .lst xs, .int n, S => if -100000 ≤ n ∧ n ≤ 100000 ∧ xs.length * n.toNat ≤ cap then .ok (.lst (List.replicate n.toNat xs).flatten) S else .bad
  | _, _, _ => .bad
theorem Reps.rep {K : PySem.W.Frag} {O : Ow} {H : Hp} {ds : List D} {vs : List V} (r : Reps K O H ds vs) : ∀ n, Reps K O H (List.replicate n ds).flatten (List.replicate n vs).flatten
  | 0 => rfl
  | n + 1 => by
    rw [List.replicate_succ, List.flatten_cons, List.replicate_succ, List.flatten_cons]
    exact r.append (Reps.rep r n)
theorem op_oMul : OpR X (binaryOp .Mult) (RD X.K oMul) := by
  intro pins s σ H x y v u Q I rx ry ⟨W, ρ, σ', O, S, d, e, st, r1, r2, h⟩
  cases d <;> cases e <;> try exact h.elim
  · rename_i i j
    obtain ⟨hc, h⟩ := After.ite h
    exact op_mul pins s σ H x y v u Q I rx ry ⟨i, j, r1, r2, hc, After.ok h st rfl⟩
  · rename_i z n
    obtain ⟨hc, h⟩ := After.ite h
    cases (show x = V.str z from r1)
    cases (show y = V.int n from r2)
    obtain ⟨t, rfl⟩ := rx
    obtain ⟨t', rfl⟩ := ry
    exact mul_text hc.1 hc.2.1 hc.2.2.1 hc.2.2.2 fun tk tk' => ⟨.str _, H, I.tok tk', ⟨_, rfl⟩, After.ok h st rfl⟩
  · rename_i ds n
    obtain ⟨hc, h⟩ := After.ite h
    obtain ⟨p, xs, rfl, n1, h1, q1⟩ := r1
    refine op_rep pins s σ H _ _ v u Q I rx ry ⟨p, n, xs, rfl, r2, h1, by omega, by omega, by rw [← q1.length]; exact cap_line hc.2.2, fun t ht => ?_⟩
    obtain ⟨e2, st2⟩ := st.new (o := .lst (List.replicate n.toNat xs).flatten) ht
    exact h O _ _ e2 st2 ⟨t, _, rfl, st.no ht, upd_same, (q1.mono (e2.w st.wf)).rep _⟩
/-! ### comparisons -/
def strLt (x y : Str) : Bool := decide (x.cps.toList < y.cps.toList)
def oLt : D → D → Sto → RE D
  | .int i, .int j, S => .ok (.bl (decide (i < j))) S
  | .str x, .str y, S => .ok (.bl (strLt x y)) S
  | _, _, _ => .bad
theorem op_oLt : OpR X (compareOp .Lt) (RD X.K oLt) := by
  intro pins s σ H x y v u Q I rx ry ⟨W, ρ, σ', O, S, d, e, st, r1, r2, h⟩
  cases d <;> cases e <;> try exact h.elim
  · rename_i i j
    exact op_lt pins s σ H x y v u Q I rx ry ⟨i, j, r1, r2, After.ok h st rfl⟩
  · rename_i i j
    exact op_lt_str pins s σ H x y v u Q I rx ry ⟨i, j, r1, r2, After.ok h st rfl⟩
def oGt : D → D → Sto → RE D
  | .int i, .int j, S => .ok (.bl (decide (j < i))) S
  | .str x, .str y, S => .ok (.bl (strLt y x)) S
  | _, _, _ => .bad
def oLe : D → D → Sto → RE D
  | .int i, .int j, S => .ok (.bl (decide (i ≤ j))) S
  | .str x, .str y, S => .ok (.bl (!strLt y x)) S
  | _, _, _ => .bad
def oGe : D → D → Sto → RE D
  | .int i, .int j, S => .ok (.bl (decide (j ≤ i))) S
  | .str x, .str y, S => .ok (.bl (!strLt x y)) S
  | _, _, _ => .bad
theorem op_oGt : OpR X (compareOp .Gt) (RD X.K oGt) := by
  intro pins s σ H x y v u Q I rx ry ⟨W, ρ, σ', O, S, d, e, st, r1, r2, h⟩
  cases d <;> cases e <;> try exact h.elim
  · rename_i i j
    exact op_gt pins s σ H x y v u Q I rx ry ⟨i, j, r1, r2, After.ok h st rfl⟩
  · rename_i i j
    exact op_gt_str pins s σ H x y v u Q I rx ry ⟨i, j, r1, r2, After.ok h st rfl⟩
theorem dec_not {a b : List Nat} : decide (a ≤ b) = !decide (b < a) := by
  by_cases h : b < a
  · rw [decide_eq_true h, decide_eq_false (fun z => z h)]; rfl
  · rw [decide_eq_false h, decide_eq_true (show a ≤ b from h)]; rfl
theorem op_oLe : OpR X (compareOp .LtE) (RD X.K oLe) := by
  intro pins s σ H x y v u Q I rx ry ⟨W, ρ, σ', O, S, d, e, st, r1, r2, h⟩
  cases d <;> cases e <;> try exact h.elim
  · rename_i i j
    exact op_le pins s σ H x y v u Q I rx ry ⟨i, j, r1, r2, After.ok h st rfl⟩
  · rename_i i j
    exact op_le_str pins s σ H x y v u Q I rx ry ⟨i, j, r1, r2, by first | exact After.ok h st rfl | (have := After.ok h st (v := .bl _) rfl; simpa [strLt, dec_not] using this)⟩
theorem op_oGe : OpR X (compareOp .GtE) (RD X.K oGe) := by
  intro pins s σ H x y v u Q I rx ry ⟨W, ρ, σ', O, S, d, e, st, r1, r2, h⟩
  cases d <;> cases e <;> try exact h.elim
  · rename_i i j
    exact op_ge pins s σ H x y v u Q I rx ry ⟨i, j, r1, r2, After.ok h st rfl⟩
  · rename_i i j
    exact op_ge_str pins s σ H x y v u Q I rx ry ⟨i, j, r1, r2, by first | exact After.ok h st rfl | (have := After.ok h st (v := .bl _) rfl; simpa [strLt, dec_not] using this)⟩
/-! equality of data -/
mutual
def toPy : D → Option PyData
  | .non => some .none
  | .bl b => some (.bool b)
  | .int i => some (.int i)
  | .str x => some (.str x)
  | .tup ds => (toPys ds).map .tuple
  | .lst ds => (toPys ds).map .list
  | _ => none
def toPys : List D → Option (List PyData)
  | [] => some []
  | d :: ds => match toPy d, toPys ds with
    | some p, some ps => some (p :: ps)
    | _, _ => none
end
mutual
theorem dp_of {K : PySem.W.Frag} {O : Ow} {H : Hp} : ∀ {d : D} {p : PyData} {v : V}, toPy d = some p → Rep K O H d v → Dp K H v p
  | .non, _, _, e, r => by cases e; cases r; exact .non
  | .bl _, _, _, e, r => by cases e; cases r; exact .bl _
  | .int _, _, _, e, r => by cases e; cases r; exact .int _
  | .str _, _, _, e, r => by cases e; cases r; exact .str _
  | .tup ds, _, _, e, r => by
    obtain ⟨a, xs, rfl, h1, h2⟩ := r
    simp only [toPy] at e
    cases q : toPys ds with
    | none => rw [q] at e; cases e
    | some ps => rw [q] at e; cases e; exact .tup (sqT_of h1) (dps_of q h2)
  | .lst ds, _, _, e, r => by
    obtain ⟨a, xs, rfl, n, h1, h2⟩ := r
    simp only [toPy] at e
    cases q : toPys ds with
    | none => rw [q] at e; cases e
    | some ps => rw [q] at e; cases e; exact .lst (SqL.of h1) (dps_of q h2)
  | .ty _, _, _, e, _ => by cases e
  | .glo _, _, _, e, _ => by cases e
  | .scr _, _, _, e, _ => by cases e
  | .dK _, _, _, e, _ => by cases e
  | .dT _, _, _, e, _ => by cases e
  | .obj _ _, _, _, e, _ => by cases e
  | .own _, _, _, e, _ => by cases e
theorem dps_of {K : PySem.W.Frag} {O : Ow} {H : Hp} : ∀ {ds : List D} {ps : List PyData} {vs : List V}, toPys ds = some ps → Reps K O H ds vs → DpAll K H vs ps
  | [], _, _, e, r => by cases e; cases r; exact .nil
  | d :: ds, _, _, e, r => by
    obtain ⟨v, vr, rfl, r1, r2⟩ := r
    simp only [toPys] at e
    cases q : toPy d with
    | none => rw [q] at e; cases e
    | some p =>
      cases q2 : toPys ds with
      | none => rw [q, q2] at e; cases e
      | some ps => rw [q, q2] at e; cases e; exact .cons (dp_of q r1) (dps_of q2 r2)
end
def eqD (d e : D) : Option Bool := match toPy d, toPy e with
  | some p, some q => if SeqAt.shaped p = true ∧ SeqAt.shaped q = true then some (PyData.eqv p q) else none
  | _, _ => none
def oEq (d e : D) (S : Sto) : RE D := match eqD d e with
  | some b => .ok (.bl b) S
  | none => .bad
def oNe (d e : D) (S : Sto) : RE D := match eqD d e with
  | some b => .ok (.bl (!b)) S
  | none => .bad
theorem eqD_some {d e : D} {b : Bool} (h : eqD d e = some b) : ∃ p q, toPy d = some p ∧ toPy e = some q ∧ SeqAt.shaped p = true ∧ SeqAt.shaped q = true ∧ b = PyData.eqv p q := by
  unfold eqD at h
  split at h
  · rename_i p q h1 h2
    split at h
    · rename_i hs
      cases h
      exact ⟨p, q, h1, h2, hs.1, hs.2, rfl⟩
    · cases h
  · cases h
theorem op_oEq (hu : X.A.units + 64 < cLine) : OpR X (compareOp .Eq) (RD X.K oEq) := by
  intro pins s σ H x y v u Q I rx ry ⟨W, ρ, σ', O, S, d, e, st, r1, r2, h⟩
  unfold oEq at h
  split at h
  · rename_i b hb
    obtain ⟨p, q, e1, e2, s1, s2, rfl⟩ := eqD_some hb
    exact op_eqD hu pins s σ H x y v u Q I rx ry ⟨p, q, dp_of e1 r1, dp_of e2 r2, s1, s2, After.ok h st rfl⟩
  · exact h.elim
theorem op_oNe (hu : X.A.units + 64 < cLine) : OpR X (compareOp .NotEq) (RD X.K oNe) := by
  intro pins s σ H x y v u Q I rx ry ⟨W, ρ, σ', O, S, d, e, st, r1, r2, h⟩
  unfold oNe at h
  split at h
  · rename_i b hb
    obtain ⟨p, q, e1, e2, s1, s2, rfl⟩ := eqD_some hb
    exact op_neD hu pins s σ H x y v u Q I rx ry ⟨p, q, dp_of e1 r1, dp_of e2 r2, s1, s2, After.ok h st rfl⟩
  · exact h.elim
/-! is -/
def isNon : D → Bool
  | .non => true
  | _ => false
def oIs : D → D → Sto → RE D
  | d, .non, S => .ok (.bl (isNon d)) S
  | .bl a, .bl b, S => .ok (.bl (decide (a = b))) S
  | _, _, _ => .bad
def oIsNot : D → D → Sto → RE D
  | d, .non, S => .ok (.bl (!isNon d)) S
  | .bl a, .bl b, S => .ok (.bl (!decide (a = b))) S
  | _, _, _ => .bad
theorem isNon_rep {K : PySem.W.Frag} {O : Ow} {H : Hp} {d : D} {v : V} (r : Rep K O H d v) : decide (v = V.non) = isNon d := by
  cases d <;> simp only [isNon, decide_eq_true_eq, decide_eq_false_iff_not]
  case non => exact r
  case bl => cases (show v = _ from r); exact fun z => nomatch z
  case int => cases (show v = _ from r); exact fun z => nomatch z
  case str => cases (show v = _ from r); exact fun z => nomatch z
  case ty => cases (show v = _ from r); exact fun z => nomatch z
  case glo => cases (show v = _ from r); exact fun z => nomatch z
  case tup => obtain ⟨a, xs, rfl, _⟩ := r; exact fun z => nomatch z
  case lst => obtain ⟨a, xs, rfl, _⟩ := r; exact fun z => nomatch z
  case scr => obtain ⟨a, xs, rfl, _⟩ := r; exact fun z => nomatch z
  case dK => obtain ⟨a, xs, rfl, _⟩ := r; exact fun z => nomatch z
  case dT => obtain ⟨a, xs, rfl, _⟩ := r; exact fun z => nomatch z
  case obj => obtain ⟨a, dx, xs, rfl, _⟩ := r; exact fun z => nomatch z
  case own => obtain ⟨a, _, rfl⟩ := r; exact fun z => nomatch z
theorem op_oIs : OpR X (compareOp .Is) (RD X.K oIs) := by
  intro pins s σ H x y v u Q I rx ry ⟨W, ρ, σ', O, S, d, e, st, r1, r2, h⟩
  cases e
  case non =>
    have h' : After X.K W (Rep X.K) ρ σ' O H Q (.ok (.bl (isNon d)) S) := by cases d <;> exact h
    refine op_isN pins s σ H x y v u Q I rx ry ⟨r2, ?_⟩
    rw [isNon_rep r1]
    exact After.ok h' st rfl
  case bl b =>
    cases d <;> try exact h.elim
    rename_i a
    exact op_isBl pins s σ H x y v u Q I rx ry ⟨a, b, r1, r2, After.ok h st rfl⟩
  all_goals (cases d <;> exact h.elim)
theorem op_oIsNot : OpR X (compareOp .IsNot) (RD X.K oIsNot) := by
  intro pins s σ H x y v u Q I rx ry ⟨W, ρ, σ', O, S, d, e, st, r1, r2, h⟩
  cases e
  case non =>
    have h' : After X.K W (Rep X.K) ρ σ' O H Q (.ok (.bl (!isNon d)) S) := by cases d <;> exact h
    refine op_notN pins s σ H x y v u Q I rx ry ⟨r2, ?_⟩
    rw [isNon_rep r1]
    exact After.ok h' st rfl
  case bl b =>
    cases d <;> try exact h.elim
    rename_i a
    exact op_notBl pins s σ H x y v u Q I rx ry ⟨a, b, r1, r2, After.ok h st rfl⟩
  all_goals (cases d <;> exact h.elim)
end
end DE

set_option maxHeartbeats 4000000
namespace DE
open PySem PySem.Spec PyProof.Rows L2
section
variable {X : Cx} {W : WX} {a b c : Expr} {f g h : ME} {pos : Pos} {es : List Expr} {fa : MA}
/-! ### globals -/
theorem de_glob {x : Str} {d : D} {v : V} {u : Value} (hg : Gl X x) (hm : X.mg x = some u) (r : RelV v u) (rd : ∀ O H, Rep X.K O H d v) (hd : (x == ("__debug__" : Str)) = false := by decide) : DE X W (.Name x pos) (dC d) := de_const (pe_glob hg hm r hd) rd
theorem de_ty {x : Str} {n : String} (hg : Gl X x) (hm : X.mg x = none) (hv : bootBuiltins x = some (.type n)) (hn : x ≠ "__name__" := by decide) (hd : (x == ("__debug__" : Str)) = false := by decide) : DE X W (.Name x pos) (dC (.ty n)) := de_const (pe_bltn (v := .ty n) hg hm hv rfl hn hd) fun _ _ => rfl
/-! ### in -/
def toV : D → Option V
  | .non => some .non
  | .bl b => some (.bl b)
  | .int i => some (.int i)
  | .str x => some (.str x)
  | _ => none
def toVs : List D → Option (List V)
  | [] => some []
  | d :: ds => match toV d, toVs ds with
    | some p, some ps => some (p :: ps)
    | _, _ => none
theorem toV_rep {K : PySem.W.Frag} {O : Ow} {H : Hp} {d : D} {v w : V} (e : toV d = some w) (r : Rep K O H d v) : v = w ∧ flatV v = true := by
  cases d <;> simp only [toV] at e <;> cases e
  all_goals (cases (show v = _ from r); exact ⟨rfl, rfl⟩)
theorem toVs_rep {K : PySem.W.Frag} {O : Ow} {H : Hp} : ∀ {ds : List D} {vs ws : List V}, toVs ds = some ws → Reps K O H ds vs → vs = ws ∧ vs.all flatV = true
  | [], _, _, e, r => by cases e; cases r; exact ⟨rfl, rfl⟩
  | d :: ds, _, _, e, r => by
    obtain ⟨v, vr, rfl, r1, r2⟩ := r
    simp only [toVs] at e
    cases q : toV d with
    | none => rw [q] at e; cases e
    | some p =>
      cases q2 : toVs ds with
      | none => rw [q, q2] at e; cases e
      | some ps =>
        rw [q, q2] at e; cases e
        obtain ⟨e1, f1⟩ := toV_rep q r1
        obtain ⟨e2, f2⟩ := toVs_rep q2 r2
        exact ⟨by rw [e1, e2], by simp [f1, f2]⟩
def inS (x y : Str) : Bool := if x.cps.size = 1 then decide (x.cps.getD 0 0 ∈ y.cps.toList) else !(Builtin.Str.occurrences y x 0 y.length 1).isEmpty
/-- x in y, where it is told -/
def inD (d e : D) : Option Bool := match d, e with
  | .str x, .str y => some (inS x y)
  | d, .lst ds => match toV d, toVs ds with
    | some v, some vs => some (inV v vs)
    | _, _ => none
  | d, .tup ds => match toV d, toVs ds with
    | some v, some vs => some (inV v vs)
    | _, _ => none
  | _, _ => none
def oIn (d e : D) (S : Sto) : RE D := match inD d e with
  | some b => .ok (.bl b) S
  | none => .bad
def oNotIn (d e : D) (S : Sto) : RE D := match inD d e with
  | some b => .ok (.bl (!b)) S
  | none => .bad
theorem str1 {x : Str} (h : x.cps.size = 1) : x = ⟨#[x.cps.getD 0 0]⟩ := by
  obtain ⟨⟨l⟩⟩ := x
  match l, h with
  | [c], _ => rfl
theorem op_oIn : OpR X (compareOp .In) (RD X.K oIn) := by
  intro pins s σ H x y v u Q I rx ry ⟨W, ρ, σ', O, S, d, e, st, r1, r2, h⟩
  unfold oIn at h
  split at h
  case h_2 => exact h.elim
  rename_i b hb
  unfold inD at hb
  split at hb
  · rename_i z y'
    cases hb
    unfold inS at h
    split at h
    · rename_i h1
      refine op_in_sign pins s σ H x y v u Q I rx ry ⟨z.cps.getD 0 0, y', ?_, r2, After.ok h st rfl⟩
      rw [← str1 h1]; exact r1
    · exact op_in_str pins s σ H x y v u Q I rx ry ⟨z, y', r1, r2, After.ok h st rfl⟩
  · rename_i ds
    split at hb
    · rename_i w ws q1 q2
      cases hb
      obtain ⟨p, xs, rfl, n1, h1, q⟩ := r2
      obtain ⟨e1, f1⟩ := toV_rep q1 r1
      obtain ⟨e2, f2⟩ := toVs_rep q2 q
      subst e1 e2
      exact op_in_seq pins s σ H _ _ v u Q I rx ry ⟨p, xs, rfl, .inl (SqL.of h1), f1, f2, After.ok h st rfl⟩
    · cases hb
  · rename_i ds
    split at hb
    · rename_i w ws q1 q2
      cases hb
      obtain ⟨p, xs, rfl, h1, q⟩ := r2
      obtain ⟨e1, f1⟩ := toV_rep q1 r1
      obtain ⟨e2, f2⟩ := toVs_rep q2 q
      subst e1 e2
      exact op_in_seq pins s σ H _ _ v u Q I rx ry ⟨p, xs, rfl, .inr (sqT_of h1), f1, f2, After.ok h st rfl⟩
    · cases hb
  · cases hb
theorem op_oNotIn : OpR X (compareOp .NotIn) (RD X.K oNotIn) := by
  intro pins s σ H x y v u Q I rx ry ⟨W, ρ, σ', O, S, d, e, st, r1, r2, h⟩
  unfold oNotIn at h
  split at h
  case h_2 => exact h.elim
  rename_i b hb
  unfold inD at hb
  split at hb
  · rename_i z y'
    cases hb
    unfold inS at h
    split at h
    · rename_i h1
      refine op_notIn_sign pins s σ H x y v u Q I rx ry ⟨z.cps.getD 0 0, y', ?_, r2, After.ok h st rfl⟩
      rw [← str1 h1]; exact r1
    · exact op_notIn_str pins s σ H x y v u Q I rx ry ⟨z, y', r1, r2, After.ok h st rfl⟩
  · rename_i ds
    split at hb
    · rename_i w ws q1 q2
      cases hb
      obtain ⟨p, xs, rfl, n1, h1, q⟩ := r2
      obtain ⟨e1, f1⟩ := toV_rep q1 r1
      obtain ⟨e2, f2⟩ := toVs_rep q2 q
      subst e1 e2
      exact op_notIn_seq pins s σ H _ _ v u Q I rx ry ⟨p, xs, rfl, .inl (SqL.of h1), f1, f2, After.ok h st rfl⟩
    · cases hb
  · rename_i ds
    split at hb
    · rename_i w ws q1 q2
      cases hb
      obtain ⟨p, xs, rfl, h1, q⟩ := r2
      obtain ⟨e1, f1⟩ := toV_rep q1 r1
      obtain ⟨e2, f2⟩ := toVs_rep q2 q
      subst e1 e2
      exact op_notIn_seq pins s σ H _ _ v u Q I rx ry ⟨p, xs, rfl, .inr (sqT_of h1), f1, f2, After.ok h st rfl⟩
    · cases hb
  · cases hb
/-! ### subscripts -/
/-- the list or tuple at a datum -/
def seqOf (S : Sto) : D → Option (List D)
  | .lst ds => some ds
  | .tup ds => some ds
  | .scr ds => some ds
  | .own k => match S[k]? with
    | some (.lst ds) => some ds
    | _ => none
  | _ => none
theorem seq_rep {K : PySem.W.Frag} {O : Ow} {H : Hp} {ρ : DE.Env} {σ : L2.St} {S : Sto} {d : D} {v : V} {ds : List D} (st : Stt K O H ρ σ S) (e : seqOf S d = some ds) (r : Rep K O H d v) : ∃ p xs, v = .ref p ∧ (SqL K H p xs ∨ SqT K H p xs) ∧ Reps K O H ds xs := by
  cases d <;> simp only [seqOf] at e <;> try cases e
  case tup => obtain ⟨p, xs, rfl, h, q⟩ := r; exact ⟨p, xs, rfl, .inr (sqT_of h), q⟩
  case lst => obtain ⟨p, xs, rfl, _, h, q⟩ := r; exact ⟨p, xs, rfl, .inl (SqL.of h), q⟩
  case scr =>
    obtain ⟨p, xs, rfl, h, q⟩ := r
    refine ⟨p, xs, rfl, .inl ?_, q⟩
    rcases h with ⟨_, h⟩ | h
    · exact .inl h
    · rcases h with h | h
      · rcases h with h | ⟨_, h⟩ <;> cases h
      · exact .inr h
  case own k =>
    obtain ⟨p, h, rfl⟩ := r
    split at e
    · rename_i ds' hk
      cases e
      obtain ⟨xs, h1, q⟩ := st.wf.cell k p _ h hk
      exact ⟨p, xs, rfl, .inl (SqL.of h1), q⟩
    · cases e
def oIx (d e : D) (S : Sto) : RE D := match e with
  | .int i => (match d with
    | .str x => if x.length ≤ cap then (match atI x.cps.toList i with
      | some c => .ok (.str ⟨#[c]⟩) S
      | none => .bad) else .bad
    | d => match seqOf S d with
      | some ds => (match atI ds i with
        | some z => .ok z S
        | none => .bad)
      | none => .bad)
  | _ => .bad
theorem atI_len {α β : Type} {xs : List α} {ys : List β} {i : Int} {z : α} (hl : xs.length = ys.length) (h : atI xs i = some z) : ∃ j : Nat, ixN ys.length i = some j ∧ xs[j]? = some z := by
  unfold atI at h
  rw [hl] at h
  cases q : ixN ys.length i with
  | none => rw [q] at h; cases h
  | some j => rw [q] at h; exact ⟨j, rfl, h⟩
theorem ix_oIx : IxR X (RD X.K oIx) := by
  intro value slice pins s σ H x y v u Q I rx ry ⟨W, ρ, σ', O, S, d, e, st, r1, r2, h⟩ hs
  cases e <;> try exact h.elim
  rename_i i
  have seqc : ∀ ds, seqOf S d = some ds → (∀ z, atI ds i = some z → After X.K W (Rep X.K) ρ σ' O H Q (.ok z S)) → atI ds i ≠ none → wpAny (model X.prog X.w) X.A (subscriptTail value slice v u) (EP X pins σ Q) X.xe s := fun ds e1 hz nn => by
    cases q : atI ds i with
    | none => exact absurd q nn
    | some z =>
      obtain ⟨p, xs, rfl, hs', rs⟩ := seq_rep st e1 r1
      obtain ⟨j, hj, hz'⟩ := atI_len (ys := xs) rs.length q
      obtain ⟨vz, hv, rz⟩ := rs.get hz'
      have ha : atI xs i = some vz := by unfold atI; rw [hj]; exact hv
      have fin := After.ok (hz z q) st rz
      rcases hs' with hs' | hs'
      · exact ix_list value slice pins s σ H _ y v u Q I rx ry ⟨p, xs, i, vz, rfl, r2, hs', ha, fin⟩ hs
      · exact ix_tup value slice pins s σ H _ y v u Q I rx ry ⟨p, xs, i, vz, rfl, r2, hs', ha, fin⟩ hs
  have seqd : (∀ S' , oIx d (.int i) S' = match seqOf S' d with | some ds => (match atI ds i with | some z => .ok z S' | none => .bad) | none => .bad) → wpAny (model X.prog X.w) X.A (subscriptTail value slice v u) (EP X pins σ Q) X.xe s := fun he => by
    rw [he] at h
    cases q : seqOf S d with
    | none => rw [q] at h; exact h.elim
    | some ds =>
      rw [q] at h
      refine seqc ds q (fun z hz => ?_) fun hn => ?_
      · simp only [hz] at h; exact h
      · simp only [hn] at h; exact h.elim
  cases d
  case str z =>
    obtain ⟨hc, h⟩ := After.ite (show After X.K W (Rep X.K) ρ σ' O H Q (if z.length ≤ cap then (match atI z.cps.toList i with | some c => .ok (.str ⟨#[c]⟩) S | none => .bad) else .bad) from h)
    cases q : atI z.cps.toList i with
    | none => rw [q] at h; exact h.elim
    | some c =>
      rw [q] at h
      exact ix_str value slice pins s σ H x y v u Q I rx ry ⟨z, i, c, r1, r2, cap_line hc, q, After.ok h st rfl⟩ hs
  all_goals exact seqd fun _ => rfl
theorem de_ix (ha : DE X W a f) (hb : DE X W b g) (hs : PlainIx b := by exact fun _ _ => rfl) : DE X W (.Subscript a b pos) (dBin oIx f g) := ⟨PE.imp (pe_ix ix_oIx ha.pe hb.pe hs) fun _ _ _ h => bin_imp opD_RD h⟩
/-! ### slices -/
def cutD {α : Type} (xs : List α) (lo hi : Option Int) : List α := (xs.drop (HT.sIx xs.length 0 lo)).take (HT.sIx xs.length xs.length hi - HT.sIx xs.length 0 lo)
def slD (d : D) (lo hi : Option Int) (S : Sto) : RE D := match d with
  | .str x => if x.length ≤ cap then .ok (.str (cutS x lo hi)) S else .bad
  | .tup ds => .ok (.tup (cutD ds lo hi)) S
  | .lst ds => .ok (.lst (cutD ds lo hi)) S
  | _ => .bad
abbrev MO := DE.Env → Sto → RE (Option Int)
def oNoPart : MO := fun _ S => .ok none S
def oPart (f : ME) : MO := fun ρ S => (f ρ S).bind fun d S1 => match d with
  | .int i => .ok (some i) S1
  | _ => .bad
def tO (K : PySem.W.Frag) (W : WX) (f : MO) : TO := fun σ H Q => ∃ O ρ S, Stt K O H ρ σ S ∧ After K W (fun _ _ a b => a = b) ρ σ O H Q (f ρ S)
structure DPo (X : Cx) (W : WX) (e : Option Expr) (f : MO) : Prop where
  po : PO X e (tO X.K W f)
theorem PO.imp {X : Cx} {e : Option Expr} {t t' : TO} (h : PO X e t) (k : ∀ σ H Q, t' σ H Q → t σ H Q) : PO X e t' := ⟨fun pins s σ H Q I q => h.run pins s σ H Q I (k σ H Q q)⟩
theorem dpo_none : DPo X W none oNoPart := ⟨PO.imp po_none fun σ H Q ⟨O, ρ, S, st, h⟩ => After.ok h st rfl⟩
theorem dpo_some (ha : DE X W a f) : DPo X W (some a) (oPart f) := ⟨PO.imp (po_some ha.pe) fun σ H Q ⟨O, ρ, S, st, h⟩ => ⟨O, ρ, S, st, After.seq h fun d S1 O1 H1 v e1 st1 r1 h1 => by
  cases d with
  | int i => exact ⟨i, r1, After.ok h1 st1 rfl⟩
  | _ => exact h1.elim⟩⟩
def dSl (f : ME) (lo hi : MO) : ME := fun ρ S => (f ρ S).bind fun d S1 => (lo ρ S1).bind fun l S2 => (hi ρ S2).bind fun u S3 => slD d l u S3
theorem Reps.cut {K : PySem.W.Frag} {O : Ow} {H : Hp} {ds : List D} {vs : List V} (r : Reps K O H ds vs) (lo hi : Option Int) : Reps K O H (cutD ds lo hi) (cutV vs lo hi) := by
  unfold cutD cutV
  rw [r.length]
  exact (r.drop _).take _
def rSlD (K : PySem.W.Frag) : V → Option Int → Option Int → Hp → VK → Prop := fun x lo hi H Q => ∃ W ρ σ O S d, Stt K O H ρ σ S ∧ Rep K O H d x ∧ After K W (Rep K) ρ σ O H Q (slD d lo hi S)
theorem sl_slD : SlR X (rSlD X.K) := by
  intro pins s σ H x v vl vu lo hi sl Q I rx hsl pl pu ⟨W, ρ, σ', O, S, d, st, r1, h⟩
  cases d <;> try exact h.elim
  case str z =>
    obtain ⟨hc, h⟩ := After.ite (show After X.K W (Rep X.K) ρ σ' O H Q (if z.length ≤ cap then .ok (.str (cutS z lo hi)) S else .bad) from h)
    exact sl_str pins s σ H x v vl vu lo hi sl Q I rx hsl pl pu ⟨z, r1, cap_line hc, After.ok h st rfl⟩
  case tup ds =>
    obtain ⟨p, xs, rfl, h1, q1⟩ := r1
    refine sl_tupA pins s σ H _ v vl vu lo hi sl Q I rx hsl pl pu ⟨p, xs, rfl, sqT_of h1, fun hw => ?_, fun hw t ht => ?_⟩
    · have e : cutD ds lo hi = ds := by
        unfold cutD
        rw [q1.length, hw.1, hw.2]
        simp [← q1.length]
      have h' : After X.K W (Rep X.K) ρ σ' O H Q (.ok (.tup (cutD ds lo hi)) S) := h
      rw [e] at h'
      exact After.ok h' st ⟨p, xs, rfl, h1, q1⟩
    · obtain ⟨e2, st2⟩ := st.new (o := .tup (cutV xs lo hi)) ht
      exact h O _ _ e2 st2 ⟨t, _, rfl, .inl upd_same, (q1.mono (e2.w st.wf)).cut lo hi⟩
  case lst ds =>
    obtain ⟨p, xs, rfl, n1, h1, q1⟩ := r1
    refine sl_list pins s σ H _ v vl vu lo hi sl Q I rx hsl pl pu ⟨p, xs, rfl, SqL.of h1, fun t ht => ?_⟩
    obtain ⟨e2, st2⟩ := st.new (o := .lst (cutV xs lo hi)) ht
    exact h O _ _ e2 st2 ⟨t, _, rfl, st.no ht, upd_same, (q1.mono (e2.w st.wf)).cut lo hi⟩
theorem de_sl {lo hi : Option Expr} {p2 : Pos} {fl fh : MO} (ha : DE X W a f) (hl : DPo X W lo fl) (hh : DPo X W hi fh) : DE X W (.Subscript a (.Slice lo hi none p2) pos) (dSl f fl fh) :=
  ⟨PE.imp (pe_slice sl_slD ha.pe hl.po hh.po) fun σ H Q ⟨O, ρ, S, st, h⟩ => ⟨O, ρ, S, st, After.seq h fun d S1 O1 H1 v e1 st1 r1 h1 => ⟨O1, ρ, S1, st1, After.seq h1 fun l S2 O2 H2 v2 e2 st2 r2 h2 => ⟨O2, ρ, S2, st2, After.seq h2 fun u S3 O3 H3 v3 e3 st3 r3 h3 => by
    subst r2 r3
    exact ⟨W, ρ, σ, O3, S3, d, st3, r1.mono ((e2.trans e3).w st1.wf), h3⟩⟩⟩⟩⟩
end
end DE

set_option maxHeartbeats 4000000
namespace DE
open PySem PySem.Spec PyProof.Rows L2
def RC (K : PySem.W.Frag) (op : FD) : List V → Hp → VK → Prop := fun vs H Q => ∃ W ρ σ O S ds, Stt K O H ρ σ S ∧ Reps K O H ds vs ∧ After K W (Rep K) ρ σ O H Q (op ds S)
theorem caD_RC {X : Cx} {op : FD} : CaD X (RC X.K op) op := fun W ρ σ O H S vs ds Q st r h => ⟨W, ρ, σ, O, S, ds, st, r, h⟩
section
variable {X : Cx} {W : WX} {a b c : Expr} {f g h : ME} {pos : Pos} {es : List Expr} {fa : MA} {e : Expr} {x : Str} {p : Pos}
theorem de_bf {id : String} {op : FD} (hc : CallR X (.builtin id) (RC X.K op)) (hg : Gl X x) (hm : X.mg x = none) (hv : bootBuiltins x = some (.builtin id)) (ha : DA X W (e :: es) fa) (hn : x ≠ "__name__" := by decide) (hdb : (x == ("__debug__" : Str)) = false := by decide)
    (he : starEach (e :: es) X.env = (false, eval e X.env) :: starEach es X.env := by rfl) (hpl : (backTo pos (starEach es X.env)).any (·.1) = false := by rfl) : DE X W (.Call (.Name x p) (e :: es) [] pos) (dBlt op fa) := de_blt hc caD_RC hg hm hv ha hn hdb he hpl
theorem de_bt {T : String} {op : FD} (hc : CallR X (.type T) (RC X.K op)) (hg : Gl X x) (hm : X.mg x = none) (hv : bootBuiltins x = some (.type T)) (ha : DA X W (e :: es) fa) (hn : x ≠ "__name__" := by decide) (hdb : (x == ("__debug__" : Str)) = false := by decide)
    (he : starEach (e :: es) X.env = (false, eval e X.env) :: starEach es X.env := by rfl) (hpl : (backTo pos (starEach es X.env)).any (·.1) = false := by rfl) : DE X W (.Call (.Name x p) (e :: es) [] pos) (dBlt op fa) := de_bty hc caD_RC hg hm hv ha hn hdb he hpl
/-! ### len -/
def oLen : FD := fun ds S => match ds with
  | [d] => (match d with
    | .str z => if z.length ≤ cap then .ok (.int z.length) S else .bad
    | d => match seqOf S d with
      | some ds => .ok (.int ds.length) S
      | none => .bad)
  | _ => .bad
theorem RepK.length {K : PySem.W.Frag} {O : Ow} {H : Hp} : ∀ {ds : List (Key × D)} {vs : List (Key × V)}, RepK K O H ds vs → ds.length = vs.length
  | [], _, h => by cases h; rfl
  | (_, _) :: _, _, h => by
    obtain ⟨v, r, rfl, _, h2⟩ := h
    simp [RepK.length h2]
theorem c_oLen : CallR X (.builtin "len") (RC X.K oLen) := by
  intro pins s σ H vs us Q I rv ⟨W, ρ, σ', O, S, ds, st, r, h⟩
  rcases ds with _ | ⟨d, _ | ⟨_, _⟩⟩
  · exact h.elim
  · obtain ⟨v, rfl, r1⟩ := r.one
    have seqc : oLen [d] S = (match seqOf S d with | some ds => .ok (.int ds.length) S | none => .bad) → wpAny (model X.prog X.w) X.A (call (.builtin "len") us) (EP X pins σ Q) X.xe s := fun he => by
      rw [he] at h
      cases q : seqOf S d with
      | none => rw [q] at h; exact h.elim
      | some es =>
        rw [q] at h
        obtain ⟨p, xs, rfl, hs', rs⟩ := seq_rep st q r1
        exact call_len_seq pins s σ H _ us Q I rv ⟨p, xs, rfl, hs', by rw [← rs.length]; exact After.ok h st rfl⟩
    cases d
    case str z =>
      obtain ⟨hc, h⟩ := After.ite (show After X.K W (Rep X.K) ρ σ' O H Q (if z.length ≤ cap then .ok (.int z.length) S else .bad) from h)
      exact call_len pins s σ H _ us Q I rv ⟨v, z.length, rfl, by cases (show v = V.str z from r1); exact ⟨cap_line hc, rfl⟩, After.ok h st rfl⟩
    all_goals exact seqc rfl
  · exact h.elim
/-! ### isinstance -/
def tyName : D → Option String
  | .non => some "NoneType"
  | .bl _ => some "bool"
  | .int _ => some "int"
  | .str _ => some "str"
  | .tup _ => some "tuple"
  | .lst _ => some "list"
  | .dK _ => some "dict"
  | _ => none
def tyList : List String := ["NoneType", "bool", "int", "str", "tuple", "list", "dict"]
def subT (a n : String) : Bool := a == n || (a == "bool" && n == "int")
theorem kit_sub : ∀ a ∈ tyList, ∀ n ∈ tyList, kitB a n = some (subT a n) := by decide +kernel
def tyNamesOf : List D → Option (List String)
  | [] => some []
  | .ty n :: ds => if n ∈ tyList then (tyNamesOf ds).map (n :: ·) else none
  | _ => none
def oIsi : FD := fun ds S => match ds with
  | [d, .ty n] => (match tyName d with
    | some a => if n ∈ tyList then .ok (.bl (subT a n)) S else .bad
    | none => .bad)
  | [d, .tup ts] => (match tyName d, tyNamesOf ts with
    | some a, some ns => .ok (.bl (ns.any (subT a))) S
    | _, _ => .bad)
  | _ => .bad
theorem tyName_in {d : D} {a : String} (h : tyName d = some a) : a ∈ tyList := by
  cases d <;> simp only [tyName] at h <;> cases h <;> decide
theorem tyName_rep {K : PySem.W.Frag} {O : Ow} {H : Hp} {d : D} {v : V} {a : String} (h : tyName d = some a) (r : Rep K O H d v) : TyX K H v (.type a) := by
  cases d <;> simp only [tyName] at h <;> cases h
  case non => cases (show v = _ from r); exact .base .non
  case bl => cases (show v = _ from r); exact .base (.bl _)
  case int => cases (show v = _ from r); exact .base (.int _)
  case str => cases (show v = _ from r); exact .base (.str _)
  case tup =>
    obtain ⟨p, xs, rfl, h1, _⟩ := r
    rcases h1 with h1 | (h1 | ⟨o, h1⟩) | ⟨o, its, n, h1, h2, _⟩
    · exact .base (.tup h1)
    · cases h1
    · cases h1
    · exact .kTuple h1 h2
  case lst => obtain ⟨p, xs, rfl, _, h1, _⟩ := r; exact .base (.lst h1)
  case dK =>
    obtain ⟨p, xs, rfl, _, h1, _⟩ := r
    rcases h1 with h1 | ⟨o, h1⟩
    · exact .base (.dK h1)
    · exact .fDict h1
theorem tyNames_v {K : PySem.W.Frag} {O : Ow} {H : Hp} : ∀ {ts : List D} {ns : List String} {vs : List V}, tyNamesOf ts = some ns → Reps K O H ts vs → Paired ClsV vs (ns.map Value.type) ∧ ∀ n ∈ ns, n ∈ tyList
  | [], _, _, e, r => by cases e; cases r; exact ⟨.nil, fun _ h => by cases h⟩
  | t :: ts, _, _, e, r => by
    obtain ⟨v, vr, rfl, r1, r2⟩ := r
    cases t <;> simp only [tyNamesOf] at e <;> try cases e
    rename_i n
    split at e
    · rename_i hn
      cases q : tyNamesOf ts with
      | none => rw [q] at e; cases e
      | some ns =>
        rw [q] at e; cases e
        obtain ⟨h1, h2⟩ := tyNames_v q r2
        cases (show v = _ from r1)
        exact ⟨.cons (.ty n) h1, fun m hm => by
          rcases List.mem_cons.mp (show m ∈ n :: ns from hm) with e | hm
          · rw [e]; exact hn
          · exact h2 m hm⟩
    · cases e
theorem kitAny_sub {K : PySem.W.Frag} {a : String} (ha : a ∈ tyList) : ∀ {ns : List String}, (∀ n ∈ ns, n ∈ tyList) → PySem.W.kitAny K (.type a) (ns.map Value.type) = some (ns.any (subT a))
  | [], _ => rfl
  | n :: ns, h => by
    have h1 := kit_ty (K := K) (kit_sub a ha n (h n List.mem_cons_self))
    refine kitAny_cons h1 (fun hb => ?_) fun hb => ?_
    · rw [List.any_cons, hb, Bool.false_or]
      exact kitAny_sub ha fun m hm => h m (List.mem_cons_of_mem _ hm)
    · rw [List.any_cons, hb, Bool.true_or]
theorem c_oIsi : CallR X (.builtin "isinstance") (RC X.K oIsi) := by
  intro pins s σ H vs us Q I rv ⟨W, ρ, σ', O, S, ds, st, r, h⟩
  rcases ds with _ | ⟨d, _ | ⟨d2, _ | ⟨d3, ds⟩⟩⟩
  · exact h.elim
  · exact h.elim
  · obtain ⟨v, u, rfl, r1, r2⟩ := r.two
    cases d2 <;> try exact h.elim
    case ty n =>
      have h' : After X.K W (Rep X.K) ρ σ' O H Q (match tyName d with | some a => if n ∈ tyList then .ok (.bl (subT a n)) S else .bad | none => .bad) := h
      cases q : tyName d with
      | none => rw [q] at h'; exact h'.elim
      | some a =>
        rw [q] at h'
        obtain ⟨hn, h'⟩ := After.ite h'
        exact call_isi pins s σ H _ us Q I rv ⟨v, u, _, _, _, rfl, by cases (show u = _ from r2); exact .ty n, tyName_rep q r1, kit_ty (kit_sub a (tyName_in q) n hn), After.ok h' st rfl⟩
    case tup ts =>
      have h' : After X.K W (Rep X.K) ρ σ' O H Q (match tyName d, tyNamesOf ts with | some a, some ns => .ok (.bl (ns.any (subT a))) S | _, _ => .bad) := h
      cases q : tyName d with
      | none => rw [q] at h'; exact h'.elim
      | some a =>
        cases q2 : tyNamesOf ts with
        | none => rw [q, q2] at h'; exact h'.elim
        | some ns =>
          rw [q, q2] at h'
          obtain ⟨p, xs, rfl, h1, h2⟩ := r2
          obtain ⟨k1, k2⟩ := tyNames_v q2 h2
          rcases h1 with h1 | (h1 | ⟨o, h1⟩) | ⟨o, its, n, h1, h2, h3, h4, h5⟩
          · exact call_isiT pins s σ H _ us Q I rv ⟨v, p, xs, _, _, _, rfl, h1, k1, tyName_rep q r1, kitAny_sub (tyName_in q) k2, After.ok h' st rfl⟩
          · cases h1
          · cases h1
          · obtain ⟨oc, od, dt, sl⟩ := o
            simp only at h2 h3
            subst h2 h3
            have e3 := ClsV.all k1 h5
            have e4 : its = (ns.map Value.type).toArray := by rw [← e3]
            subst e4
            exact call_isiK pins s σ H _ us Q I rv ⟨v, p, od, ns.map Value.type, n, sl, _, _, rfl, h1, tyName_rep q r1, kitAny_sub (tyName_in q) k2, After.ok h' st rfl⟩
  · cases d2 <;> exact h.elim
/-! ### all, any, min, max -/
def blsOf : List D → Option (List Bool)
  | [] => some []
  | .bl b :: ds => (blsOf ds).map (b :: ·)
  | _ => none
def oAll : FD := fun ds S => match ds with
  | [.lst xs] => (match blsOf xs with
    | some bs => .ok (.bl (bs.all id)) S
    | none => .bad)
  | _ => .bad
def oAny : FD := fun ds S => match ds with
  | [.lst xs] => (match blsOf xs with
    | some bs => .ok (.bl (bs.any id)) S
    | none => .bad)
  | _ => .bad
theorem bls_rep {K : PySem.W.Frag} {O : Ow} {H : Hp} : ∀ {ds : List D} {bs : List Bool} {vs : List V}, blsOf ds = some bs → Reps K O H ds vs → vs = bs.map V.bl
  | [], _, _, e, r => by cases e; cases r; rfl
  | d :: ds, _, _, e, r => by
    obtain ⟨v, vr, rfl, r1, r2⟩ := r
    cases d <;> simp only [blsOf] at e <;> try cases e
    cases q : blsOf ds with
    | none => rw [q] at e; cases e
    | some bs => rw [q] at e; cases e; rw [show v = _ from r1, bls_rep q r2]; rfl
theorem c_oAll (hc : X.calm = true) : CallR X (.builtin "all") (RC X.K oAll) := by
  intro pins s σ H vs us Q I rv ⟨W, ρ, σ', O, S, ds, st, r, h⟩
  unfold oAll at h
  split at h
  · rename_i xs
    obtain ⟨v, rfl, r1⟩ := r.one
    split at h
    · rename_i bs hb
      obtain ⟨p, ys, rfl, n, h1, h2⟩ := r1
      have e := bls_rep hb h2
      subst e
      exact cr_all hc pins s σ H _ us Q I rv ⟨p, bs, rfl, SqL.of h1, After.ok h st rfl⟩
    · exact h.elim
  · exact h.elim
theorem c_oAny (hc : X.calm = true) : CallR X (.builtin "any") (RC X.K oAny) := by
  intro pins s σ H vs us Q I rv ⟨W, ρ, σ', O, S, ds, st, r, h⟩
  unfold oAny at h
  split at h
  · rename_i xs
    obtain ⟨v, rfl, r1⟩ := r.one
    split at h
    · rename_i bs hb
      obtain ⟨p, ys, rfl, n, h1, h2⟩ := r1
      have e := bls_rep hb h2
      subst e
      exact cr_any hc pins s σ H _ us Q I rv ⟨p, bs, rfl, SqL.of h1, After.ok h st rfl⟩
    · exact h.elim
  · exact h.elim
def oMax : FD := fun ds S => match ds with
  | [.int i, .int j] => .ok (.int (if j > i then j else i)) S
  | _ => .bad
def oMin : FD := fun ds S => match ds with
  | [.int i, .int j] => .ok (.int (if j < i then j else i)) S
  | _ => .bad
theorem c_oMax (hc : X.calm = true) : CallR X (.builtin "max") (RC X.K oMax) := by
  intro pins s σ H vs us Q I rv ⟨W, ρ, σ', O, S, ds, st, r, h⟩
  unfold oMax at h
  split at h
  · rename_i i j
    obtain ⟨v, u, rfl, r1, r2⟩ := r.two
    exact call_max2 hc pins s σ H _ us Q I rv ⟨i, j, by rw [show v = _ from r1, show u = _ from r2], After.ok h st rfl⟩
  · exact h.elim
theorem c_oMin (hc : X.calm = true) : CallR X (.builtin "min") (RC X.K oMin) := by
  intro pins s σ H vs us Q I rv ⟨W, ρ, σ', O, S, ds, st, r, h⟩
  unfold oMin at h
  split at h
  · rename_i i j
    obtain ⟨v, u, rfl, r1, r2⟩ := r.two
    exact call_min2 hc pins s σ H _ us Q I rv ⟨i, j, by rw [show v = _ from r1, show u = _ from r2], After.ok h st rfl⟩
  · exact h.elim
/-! ### repr of a truth value, list(..), tuple(..) -/
def reprB (b : Bool) : Str := if b then "True" else "False"
def oReprB : FD := fun ds S => match ds with
  | [.bl b] => .ok (.str (reprB b)) S
  | _ => .bad
theorem c_oReprB : CallR X (.builtin "repr") (RC X.K oReprB) := by
  intro pins s σ H vs us Q I rv ⟨W, ρ, σ', O, S, ds, st, r, h⟩
  unfold oReprB at h
  split at h
  · rename_i b
    obtain ⟨v, rfl, r1⟩ := r.one
    obtain ⟨u, rfl, ru⟩ := vals1 rv
    cases (show v = _ from r1)
    cases (show u = _ from ru)
    exact PySem.P.repr_of_bool ⟨.str _, H, I.tok _, ⟨_, rfl⟩, After.ok h st rfl⟩
  · exact h.elim
def oList : FD := fun ds S => match ds with
  | [d] => (match seqOf S d with
    | some xs => .ok (.lst xs) S
    | none => .bad)
  | _ => .bad
theorem c_oList : CallR X (.type "list") (RC X.K oList) := by
  intro pins s σ H vs us Q I rv ⟨W, ρ, σ', O, S, ds, st, r, h⟩
  unfold oList at h
  split at h
  · rename_i d
    obtain ⟨v, rfl, r1⟩ := r.one
    split at h
    · rename_i xs hx
      obtain ⟨p, ys, rfl, hs, rs⟩ := seq_rep st hx r1
      refine call_list_of pins s σ H _ us Q I rv ⟨p, ys, rfl, hs, fun l hl => ?_⟩
      obtain ⟨e2, st2⟩ := st.new (o := .lst ys) hl
      exact h O _ _ e2 st2 ⟨l, _, rfl, st.no hl, upd_same, rs.mono (e2.w st.wf)⟩
    · exact h.elim
  · exact h.elim
def listAt (S : Sto) : D → Option (List D)
  | .lst ds => some ds
  | .scr ds => some ds
  | .own k => match S[k]? with
    | some (.lst ds) => some ds
    | _ => none
  | _ => none
theorem list_rep {K : PySem.W.Frag} {O : Ow} {H : Hp} {ρ : DE.Env} {σ : L2.St} {S : Sto} {d : D} {v : V} {ds : List D} (st : Stt K O H ρ σ S) (e : listAt S d = some ds) (r : Rep K O H d v) : ∃ p xs, v = .ref p ∧ SqL K H p xs ∧ Reps K O H ds xs := by
  cases d
  case lst => cases e; obtain ⟨p, xs, rfl, _, h, q⟩ := r; exact ⟨p, xs, rfl, SqL.of h, q⟩
  case scr =>
    cases e
    obtain ⟨p, xs, rfl, h, q⟩ := r
    exact ⟨p, xs, rfl, sqL_of (h.imp (fun z => z.2) id), q⟩
  case own k =>
    obtain ⟨p, h, rfl⟩ := r
    simp only [listAt] at e
    split at e
    · rename_i ds' hk
      cases e
      obtain ⟨xs, h1, q⟩ := st.wf.cell k p _ h hk
      exact ⟨p, xs, rfl, SqL.of h1, q⟩
    · cases e
  all_goals (simp only [listAt] at e; cases e)
def oTuple : FD := fun ds S => match ds with
  | [.tup xs] => .ok (.tup xs) S
  | [d] => (match listAt S d with
    | some xs => .ok (.tup xs) S
    | none => .bad)
  | _ => .bad
theorem c_oTuple : CallR X (.type "tuple") (RC X.K oTuple) := by
  intro pins s σ H vs us Q I rv ⟨W, ρ, σ', O, S, ds, st, r, h⟩
  unfold oTuple at h
  split at h
  · obtain ⟨v, rfl, r1⟩ := r.one
    obtain ⟨p, ys, rfl, h1, q⟩ := r1
    exact call_tuple_of pins s σ H _ us Q I rv ⟨p, ys, rfl, .inr ⟨sqT_of h1, After.ok h st ⟨p, ys, rfl, h1, q⟩⟩⟩
  · obtain ⟨v, rfl, r1⟩ := r.one
    split at h
    · rename_i xs hx
      obtain ⟨p, ys, rfl, hs, rs⟩ := list_rep st hx r1
      refine call_tuple_of pins s σ H _ us Q I rv ⟨p, ys, rfl, .inl ⟨hs, fun l hl => ?_⟩⟩
      obtain ⟨e2, st2⟩ := st.new (o := .tup ys) hl
      exact h O _ _ e2 st2 ⟨l, _, rfl, .inl upd_same, rs.mono (e2.w st.wf)⟩
    · exact h.elim
  · exact h.elim
end
/-! ### methods of texts -/
section
variable {X : Cx} {W : WX} {o e : Expr} {f g : ME} {apos pos : Pos}
/-- a method of one argument of a text -/
def dM1 (op : Str → D → Sto → RE D) (f g : ME) : ME := fun ρ S => (f ρ S).bind fun d S1 => match d with
  | .str x => (g ρ S1).bind fun e S2 => op x e S2
  | _ => .bad
def M1D (K : PySem.W.Frag) (r : V → List V → Hp → VK → Prop) (op : Str → D → Sto → RE D) : Prop :=
  ∀ (W : WX) (ρ : DE.Env) (σ : L2.St) (O : Ow) (H : Hp) (S : Sto) (x : Str) (y : V) (e : D) (Q : VK), Stt K O H ρ σ S → Rep K O H e y → After K W (Rep K) ρ σ O H Q (op x e S) → r (.str x) [y] H Q
theorem m1_imp {r : V → List V → Hp → VK → Prop} {op : Str → D → Sto → RE D} (ho : M1D X.K r op) {σ : L2.St} {H : Hp} {Q : VK} (h : tE X.K W (dM1 op f g) σ H Q) : tM1 r (tE X.K W f) (tE X.K W g) σ H Q := by
  obtain ⟨O, ρ, S, st, h⟩ := h
  refine ⟨O, ρ, S, st, After.seq h fun d S1 O1 H1 v e1 st1 r1 h1 => ?_⟩
  cases d <;> try exact h1.elim
  cases (show v = _ from r1)
  exact ⟨⟨_, rfl⟩, O1, ρ, S1, st1, After.seq h1 fun e S2 O2 H2 y e2 st2 r2 h2 => ho W ρ σ O2 H2 S2 _ y e Q st2 r2 h2⟩
def strsOf : List D → Option (List Str)
  | [] => some []
  | .str x :: ds => (strsOf ds).map (x :: ·)
  | _ => none
theorem strs_rep {K : PySem.W.Frag} {O : Ow} {H : Hp} : ∀ {ds : List D} {bs : List Str} {vs : List V}, strsOf ds = some bs → Reps K O H ds vs → vs = bs.map V.str
  | [], _, _, e, r => by cases e; cases r; rfl
  | d :: ds, _, _, e, r => by
    obtain ⟨v, vr, rfl, r1, r2⟩ := r
    cases d <;> simp only [strsOf] at e <;> try cases e
    cases q : strsOf ds with
    | none => rw [q] at e; cases e
    | some bs => rw [q] at e; cases e; rw [show v = _ from r1, strs_rep q r2]; rfl
def oJoin (x : Str) (d : D) (S : Sto) : RE D := match seqOf S d with
  | some ds => (match strsOf ds with
    | some ys => if (ys.map (·.length)).sum + ys.length * x.length ≤ cap then .ok (.str (Txt.join x ys)) S else .bad
    | none => .bad)
  | none => .bad
theorem de_join (ho : DE X W o f) (he : DE X W e g) (hs : starEach [e] X.env = [(false, eval e X.env)] := by rfl) (hbase : attributeBase o "join" X.env (eval o X.env) = eval o X.env := by rfl) (hline : (apos.endLine == pos.line) = true := by rfl) :
    DE X W (.Call (.Attribute o "join" apos) [e] [] pos) (dM1 oJoin f g) :=
  ⟨PE.imp (pe_join ho.pe he.pe hs hbase hline) fun _ _ _ h => m1_imp (fun W ρ σ O H S x y e Q st r h => by
    unfold oJoin at h
    split at h
    · rename_i ds hd
      split at h
      · rename_i ys hy
        obtain ⟨hc, h⟩ := After.ite h
        obtain ⟨p, xs, rfl, hs, rs⟩ := seq_rep st hd r
        have e := strs_rep hy rs
        subst e
        exact ⟨x, p, ys, rfl, rfl, hs, Nat.le_trans hc (by decide), After.ok h st rfl⟩
      · exact h.elim
    · exact h.elim) h⟩
end
end DE

set_option maxHeartbeats 4000000
namespace DE
open PySem PySem.Spec PyProof.Rows L2
section
variable {X : Cx} {W : WX} {o e i : Expr} {es : List Expr} {f g h : ME} {fa : MA} {apos pos p2 : Pos}
/-- xs.append(e), xs a list that changes -/
def dApp (f : ME) (g : MA) : ME := fun ρ S => (f ρ S).bind fun d S1 => match d with
  | .own k => (match S1[k]? with
    | some (.lst _) => (g ρ S1).bind fun es S2 => (match es, S2[k]? with
      | [e], some (.lst ds) => if ds.length < cap then .ok .non (S2.set k (.lst (ds ++ [e]))) else .bad
      | _, _ => .bad)
    | _ => .bad)
  | _ => .bad
theorem de_app (ho : DE X W o f) (ha : DA X W (e :: es) fa)
    (hbase : attributeBase o "append" X.env (eval o X.env) = eval o X.env := by rfl)
    (hfew : ((backTo pos (starEach (e :: es) X.env)).all (fun x => !x.1) && (backToKw pos (keywordEach [] X.env)).all (fun x => x.1.isSome)
      && decide ((e :: es).length + ([] : List Keyword).length + (if ([] : List Keyword).isEmpty then 0 else 1) < 30)) = true := by rfl)
    (hline : (apos.endLine == pos.line) = true := by rfl) (hs : starEach (e :: es) X.env = (false, eval e X.env) :: starEach es X.env := by rfl) (hplain : (backTo pos (starEach es X.env)).any (·.1) = false := by rfl) :
    DE X W (.Call (.Attribute o "append" apos) (e :: es) [] pos) (dApp f fa) :=
  ⟨PE.imp (pe_bm PySem.F.plainAttrs_list PySem.F.slot_list_append PySem.F.type_list_append mt_append ho.pe ha.pa hbase hfew hline hs hplain) fun σ H Q ⟨O, ρ, S, st, h⟩ => ⟨O, ρ, S, st, After.seq h fun d S1 O1 H1 v e1 st1 r1 h1 => by
    cases d <;> try exact h1.elim
    rename_i k
    obtain ⟨a, ha, rfl⟩ := r1
    have h1' : After X.K W (Rep X.K) ρ σ O1 H1 Q (match S1[k]? with
      | some (.lst _) => (fa ρ S1).bind fun es S2 => (match es, S2[k]? with
        | [e], some (.lst ds) => if ds.length < cap then .ok .non (S2.set k (.lst (ds ++ [e]))) else .bad
        | _, _ => .bad)
      | _ => .bad) := h1
    split at h1'
    · rename_i ds hk
      obtain ⟨xs, hx, rx⟩ := st1.wf.cell k a _ ha hk
      refine ⟨.inl ⟨rfl, xs, SqL.of hx⟩, O1, ρ, S1, st1, After.seq h1' fun es S2 O2 H2 vs e2 st2 r2 h2 => ?_⟩
      split at h2
      · rename_i z ds2 hk2
        obtain ⟨v, rfl, rv⟩ := r2.one
        obtain ⟨hc, h2⟩ := After.ite h2
        have ha2 := e2.at ha
        obtain ⟨ys, hy, ry⟩ := st2.wf.cell k a _ ha2 hk2
        refine ⟨a, ys, v, rfl, rfl, hy, by rw [← ry.length]; exact cap_lt hc, ?_⟩
        obtain ⟨e3, st3⟩ := st2.mut (o := .lst (ys ++ [v])) (d := .lst (ds2 ++ [z])) ha2 fun e3 => ⟨_, upd_same, (ry.mono (e3.w st2.wf)).append ⟨v, [], rfl, rv.mono (e3.w st2.wf), rfl⟩⟩
        exact h2 O2 _ _ e3 st3 rfl
      · exact h2.elim
    · exact h1'.elim⟩⟩
/-- xs[i] = e, xs a list that changes -/
def sSetIx (f fo fi : ME) : MS := fun ρ S => (f ρ S).stm ρ fun d S1 => (fo ρ S1).stm ρ fun o S2 => (fi ρ S2).stm ρ fun i S3 => match o, i with
  | .own k, .int n => (match S3[k]? with
    | some (.lst ds) => (match ixN ds.length n with
      | some j => .nx ρ (S3.set k (.lst (ds.set j d)))
      | none => .bad)
    | _ => .bad)
  | _, _ => .bad
theorem ds_setIx (he : DE X W e f) (ho : DE X W o g) (hi : DE X W i h) (hs : swapsWithSole [.Subscript o i p2] e pos.line X.env = pure false := by rfl) (hw : swappedStores [.Subscript o i p2] e X.env = pure none := by rfl) (h1 : (assignEach [.Subscript o i p2] X.env).map (·.2) = [assign (.Subscript o i p2) X.env] := by rfl)
    (harm : ∀ v, assign (.Subscript o i p2) X.env v = (do let ov ← holding [v] (eval o X.env); let iv ← holding [v, ov] (eval i X.env); standAt p2; holding [v, ov, iv] (setItem ov iv v); release [v, ov, iv] []) := by intro _; rfl) :
    DS X W (.Assign [.Subscript o i p2] e pos) (sSetIx f g h) :=
  ⟨PS.imp (ps_asg he.pe (pg_sub ho.pe hi.pe set_list harm) hs hw h1) fun D' σ H ⟨O, ρ, S, st, h⟩ => ⟨O, ρ, S, st, AfterS.seqE h fun d S1 O1 H1 v e1 st1 r1 h1 => ⟨O1, ρ, S1, st1, AfterS.seqE h1 fun od S2 O2 H2 vo e2 st2 r2 h2 => ⟨O2, ρ, S2, st2, AfterS.seqE h2 fun idt S3 O3 H3 vi e3 st3 r3 h3 => by
    cases od <;> try exact h3.elim
    cases idt <;> try exact h3.elim
    rename_i k n
    have h4 : AfterS X.K W D' O3 H3 (match S3[k]? with | some (.lst ds) => (match ixN ds.length n with | some j => .nx ρ (S3.set k (.lst (ds.set j d))) | none => .bad) | _ => .bad) := h3
    obtain ⟨a, ha, rfl⟩ := r2
    split at h4
    · rename_i ds hk
      split at h4
      · rename_i j hj
        have ha3 := e3.at ha
        obtain ⟨ys, hy, ry⟩ := st3.wf.cell k a _ ha3 hk
        refine ⟨a, ys, n, j, rfl, r3, hy, by rw [← ry.length]; exact hj, ?_⟩
        have r1' := r1.mono ((e2.trans e3).w st1.wf)
        obtain ⟨e5, st5⟩ := st3.mut (o := .lst (ys.set j v)) (d := .lst (ds.set j d)) ha3 fun e5 => ⟨_, upd_same, Reps.set (r1'.mono (e5.w st3.wf)) j (ry.mono (e5.w st3.wf))⟩
        exact h4 O3 _ σ e5 st5
      · exact h4.elim
    · exact h4.elim⟩⟩⟩⟩
theorem chain_imp {o1 o2 : D → D → Sto → RE D} {σ : L2.St} {H : Hp} {Q : VK} (hq : tE X.K W (dChain o1 o2 f g h) σ H Q) :
    tE X.K W f σ H fun x H1 => tE X.K W g σ H1 fun y H2 => RD X.K o1 x y H2 fun z H3 => ∃ k, z = .bl k ∧ if k = true then tE X.K W h σ H3 fun w H4 => RD X.K o2 y w H4 Q else Q (.bl false) H3 := by
  obtain ⟨O, ρ, S, st, hq⟩ := hq
  refine ⟨O, ρ, S, st, After.seq hq fun x S1 O1 H1 v1 e1 st1 r1 h1 => ⟨O1, ρ, S1, st1, After.seq h1 fun y S2 O2 H2 v2 e2 st2 r2 h2 => ?_⟩⟩
  refine ⟨W, ρ, σ, O2, S2, x, y, st2, r1.mono (e2.w st1.wf), r2, After.seq h2 fun d S3 O3 H3 v3 e3 st3 r3 h3 => ?_⟩
  cases d <;> try exact h3.elim
  rename_i k
  refine ⟨k, r3, ?_⟩
  cases k with
  | true => exact iteT ⟨O3, ρ, S3, st3, After.seq h3 fun z S4 O4 H4 v4 e4 st4 r4 h4 => ⟨W, ρ, σ, O4, S4, y, z, st4, r2.mono ((e3.trans e4).w st2.wf), r4, h4⟩⟩
  | false => exact iteF (After.ok h3 st3 rfl)
theorem de_chain {a b c : Expr} {op op' : CmpOp} {o1 o2 : D → D → Sto → RE D} (h1 : OpR X (compareOp op) (RD X.K o1)) (h2 : OpR X (compareOp op') (RD X.K o2)) (ha : DE X W a f) (hb : DE X W b g) (hc : DE X W c h)
    (hm : lastMarks [op, op'] [b, c] = false := by with_unfolding_all rfl) : DE X W (.Compare a [op, op'] [b, c] pos) (dChain o1 o2 f g h) := ⟨PE.imp (pe_chain h1 h2 ha.pe hb.pe hc.pe hm) fun _ _ _ q => chain_imp q⟩
theorem dt_chain {a b c : Expr} {op op' : CmpOp} {o1 o2 : D → D → Sto → RE D} (h1 : OpR X (compareOp op) (RD X.K o1)) (h2 : OpR X (compareOp op') (RD X.K o2)) (ha : DE X W a f) (hb : DE X W b g) (hc : DE X W c h)
    (hm : lastMarks [op, op'] [b, c] = false := by with_unfolding_all rfl) : DT X W (.Compare a [op, op'] [b, c] pos) (dTest (dChain o1 o2 f g h)) := ⟨PT.imp (pt_chain h1 h2 ha.pe hb.pe hc.pe hm) fun _ _ _ q => test_imp (fun _ _ _ z => chain_imp z) q⟩
/-! ### -e -/
def dNeg (f : ME) : ME := fun ρ S => (f ρ S).bind fun d S1 => match d with
  | .int i => .ok (.int (-i)) S1
  | _ => .bad
theorem de_neg (ha : DE X W e f) : DE X W (.UnaryOp .USub e pos) (dNeg f) := ⟨PE.imp (pe_un un_neg ha.pe) fun σ H Q ⟨O, ρ, S, st, h⟩ => ⟨O, ρ, S, st, After.seq h fun d S1 O1 H1 v e1 st1 r1 h1 => by
  cases d <;> try exact h1.elim
  exact ⟨_, r1, After.ok h1 st1 rfl⟩⟩⟩
/-- an empty dict -/
def dDictE : ME := fun _ S => .ok (.dK []) S
theorem de_dict0 : DE X W (.Dict [] [] pos) dDictE := ⟨PE.imp pe_dnewK fun σ H Q ⟨O, ρ, S, st, h⟩ => fun p hp => by
  obtain ⟨e2, st2⟩ := st.new (o := .dK []) hp
  exact h O _ _ e2 st2 ⟨p, [], rfl, st.no hp, .inl upd_same, rfl⟩⟩
end
/-! ### short words -/
section
variable {X : Cx} {W : WX} {x : Str} {pos : Pos}
theorem dv (i : Nat) (hN : X.N[i]? = some x := by rfl) (hv : Vis X.env.scope x := by first | exact Or.inl rfl | exact Or.inr (Or.inl rfl) | exact Or.inr (Or.inr rfl)) (hd : (x == ("__debug__" : Str)) = false := by decide) (hcd : (x == ("__classdict__" : Str)) = false := by decide) : DE X W (.Name x pos) (dVar i) := de_var i hN hv hd hcd
theorem de_gstr {z : Str} (h : ∃ t, X.mg x = some (.str z t)) (hg : Gl X x := by rfl) (hd : (x == ("__debug__" : Str)) = false := by decide) : DE X W (.Name x pos) (dC (.str z)) := by
  obtain ⟨t, h⟩ := h
  exact de_glob (v := .str z) hg h ⟨t, rfl⟩ (fun _ _ => rfl) hd
theorem de_gint {z : Int} (h : ∃ t, X.mg x = some (.int z t)) (hg : Gl X x := by rfl) (hd : (x == ("__debug__" : Str)) = false := by decide) : DE X W (.Name x pos) (dC (.int z)) := by
  obtain ⟨t, h⟩ := h
  exact de_glob (v := .int z) hg h ⟨t, rfl⟩ (fun _ _ => rfl) hd
end
/-! ### defs by their names -/
section
variable {P : Program} {w : World} {K : PySem.W.Frag} {mg : Str → Option Value} {base : Heap}
structure Fn (P : Program) (w : World) (K : PySem.W.Frag) (mg : Str → Option Value) (base : Heap) (k : Nat) (x : Str) (n : Nat) (F : FD) : Prop where
  ok : ∃ fd ps, FnOk P w K mg base (L2.CX P w) k (He.ga K x) fd ps (spD K n F) ∧ Binds K fd ps []
  gl : mg x = some (.ref (He.ga K x))
  kp : PySem.W.keepIn K (.ref (He.ga K x)) = true
theorem Fn.imp {k n : Nat} {x : Str} {F G : FD} (h : Fn P w K mg base k x n F) (hk : ∀ ds S, G ds S ≠ .bad → F ds S = G ds S) : Fn P w K mg base k x n G := by
  obtain ⟨⟨fd, ps, h1, h2⟩, h3, h4⟩ := h
  refine ⟨⟨fd, ps, h1.imp (fun vs H Q E hh => ?_), h2⟩, h3, h4⟩
  obtain ⟨O, S, ds, wf, r, hl, h⟩ := hh
  refine ⟨O, S, ds, wf, r, hl, ?_⟩
  rw [hk ds S fun z => by rw [z] at h; exact h]
  exact h
end
section
variable {X : Cx} {W : WX} {e : Expr} {es : List Expr} {x : Str} {k j n : Nat} {F : FD} {fa : MA} {p pos : Pos}
theorem de_fn (G : Fn X.prog X.w X.K X.mg X.base k x n F) (hr : Room j X.A) (hg : Gl X x) (tk : Takes X W) (ha : DA X W (e :: es) fa) (hk : k ≤ j := by decide) (hdb : (x == ("__debug__" : Str)) = false := by decide) (he : starEach (e :: es) X.env = (false, eval e X.env) :: starEach es X.env := by rfl) (hpl : (backTo pos (starEach es X.env)).any (·.1) = false := by rfl) :
    DE X W (.Call (.Name x p) (e :: es) [] pos) (dCall n F [] fa) := by
  obtain ⟨fd, ps, h1, h2⟩ := G.ok
  exact de_call h1 (hr.mono hk) hg G.gl G.kp h2 .nil (fun _ _ => rfl) tk ha hdb he hpl
end
/-- what may leave, whatever the world -/
def CXA : CXT := fun outer H s E u s' => ∃ P w, L2.CX P w outer H s E u s'
theorem fn_any {P : Program} {w : World} {K : PySem.W.Frag} {mg : Str → Option Value} {base : Heap} {k : Nat} {f : Addr} {fd : FuncData} {ps : List Str} {sp : Sp} (F : FnOk P w K mg base (L2.CX P w) k f fd ps sp) : FnOk P w K mg base CXA k f fd ps sp :=
  ⟨F.len, fun A outer s H args us vs Q E hr he hb hv hs => codeAny_mono (F.run A outer s H args us vs Q E hr he hb hv hs) fun r s' h => by
    cases r with
    | error e => exact ⟨P, w, h⟩
    | ok f => cases f <;> exact h⟩
theorem CXA.no {H : Hp} {s : Shared} {e : Value} {s' : Shared} (h : CXA [] H s (fun _ _ _ => False) e s') : False := by
  obtain ⟨P, w, _, _, _, _, _, _, _, _, _, _, _, _, z⟩ := h
  exact z
end DE

set_option maxHeartbeats 4000000
namespace DE
open PySem L2
/-! equations for simp -/
def onBl {α : Type} (d : D) (k : Bool → RE α) : RE α := match d with
  | .bl b => k b
  | _ => .bad
@[simp] theorem onBl_bl {α : Type} (b : Bool) (k : Bool → RE α) : onBl (.bl b) k = k b := id rfl
def onInt {α : Type} (d : D) (k : Int → RE α) : RE α := match d with
  | .int b => k b
  | _ => .bad
@[simp] theorem onInt_int {α : Type} (b : Int) (k : Int → RE α) : onInt (.int b) k = k b := id rfl
def onStr {α : Type} (d : D) (k : Str → RE α) : RE α := match d with
  | .str b => k b
  | _ => .bad
@[simp] theorem onStr_str {α : Type} (b : Str) (k : Str → RE α) : onStr (.str b) k = k b := id rfl
def RS.seq (r : RS) (g : MS) : RS := match r with
  | .nx ρ1 S1 => g ρ1 S1
  | r => r
@[simp] theorem seq_nx (ρ : DE.Env) (S : Sto) (g : MS) : RS.seq (.nx ρ S) g = g ρ S := id rfl
@[simp] theorem seq_rt (d : D) (S : Sto) (g : MS) : RS.seq (.rt d S) g = .rt d S := id rfl
@[simp] theorem seq_bk (ρ : DE.Env) (S : Sto) (g : MS) : RS.seq (.bk ρ S) g = .bk ρ S := id rfl
@[simp] theorem seq_ct (ρ : DE.Env) (S : Sto) (g : MS) : RS.seq (.ct ρ S) g = .ct ρ S := id rfl
@[simp] theorem seq_exc (x : Exc) (ρ : DE.Env) (S : Sto) (g : MS) : RS.seq (.exc x ρ S) g = .exc x ρ S := id rfl
@[simp] theorem seq_bad (g : MS) : RS.seq .bad g = .bad := id rfl
def RS.fin (r : RS) : RE D := match r with
  | .nx _ S' => .ok .non S'
  | .rt d S' => .ok d S'
  | .exc x _ S' => .exc x S'
  | _ => .bad
@[simp] theorem fin_nx (ρ : DE.Env) (S : Sto) : RS.fin (.nx ρ S) = .ok .non S := id rfl
@[simp] theorem fin_rt (d : D) (S : Sto) : RS.fin (.rt d S) = .ok d S := id rfl
@[simp] theorem fin_exc (x : Exc) (ρ : DE.Env) (S : Sto) : RS.fin (.exc x ρ S) = .exc x S := id rfl
@[simp] theorem fin_bad : RS.fin .bad = .bad := id rfl
section
variable {α β : Type} {c : Prop} [Decidable c]
@[simp] theorem bind_ite (a b : RE α) (f : α → Sto → RE β) : (if c then a else b).bind f = if c then a.bind f else b.bind f := by split <;> rfl
@[simp] theorem stm_ite (a b : RE α) (ρ : DE.Env) (f : α → Sto → RS) : (if c then a else b).stm ρ f = if c then a.stm ρ f else b.stm ρ f := by split <;> rfl
@[simp] theorem seq_ite (a b : RS) (g : MS) : RS.seq (if c then a else b) g = if c then RS.seq a g else RS.seq b g := by split <;> rfl
@[simp] theorem fin_ite (a b : RS) : RS.fin (if c then a else b) = if c then RS.fin a else RS.fin b := by split <;> rfl
end
section
variable {ρ : DE.Env} {S : Sto}
@[simp] theorem e_dVar (i : Nat) : dVar i ρ S = (match ρ[i]? with | some (some d) => .ok d S | _ => .bad) := id rfl
@[simp] theorem e_dC (d : D) : dC d ρ S = .ok d S := id rfl
@[simp] theorem e_dBin (o : D → D → Sto → RE D) (f g : ME) : dBin o f g ρ S = (f ρ S).bind fun d S1 => (g ρ S1).bind fun e S2 => o d e S2 := id rfl
@[simp] theorem e_dTest (f : ME) : dTest f ρ S = (f ρ S).bind fun d S1 => onBl d fun b => .ok b S1 := id rfl
@[simp] theorem e_dAndT (f g : MT) : dAndT f g ρ S = (f ρ S).bind fun d S1 => if d = true then g ρ S1 else .ok false S1 := id rfl
@[simp] theorem e_dOrT (f g : MT) : dOrT f g ρ S = (f ρ S).bind fun d S1 => if d = true then .ok true S1 else g ρ S1 := id rfl
@[simp] theorem e_dNotT (f : MT) : dNotT f ρ S = (f ρ S).bind fun d S1 => .ok (!d) S1 := id rfl
theorem bind_congr' {α β : Type} {r : RE α} {f g : α → Sto → RE β} (h : ∀ a S, f a S = g a S) : r.bind f = r.bind g := by cases r <;> simp [h]
@[simp] theorem e_dAnd (f g : ME) : dAnd f g ρ S = (f ρ S).bind fun d S1 => onBl d fun b => if b = true then g ρ S1 else .ok (.bl false) S1 := bind_congr' fun d S1 => by
  cases d <;> try rfl
  rename_i b; cases b <;> rfl
@[simp] theorem e_dOr (f g : ME) : dOr f g ρ S = (f ρ S).bind fun d S1 => onBl d fun b => if b = true then .ok (.bl true) S1 else g ρ S1 := bind_congr' fun d S1 => by
  cases d <;> try rfl
  rename_i b; cases b <;> rfl
@[simp] theorem e_dNot (f : ME) : dNot f ρ S = (f ρ S).bind fun d S1 => onBl d fun b => .ok (.bl (!b)) S1 := id rfl
@[simp] theorem e_dIfE (t : MT) (f g : ME) : dIfE t f g ρ S = (t ρ S).bind fun d S1 => if d = true then f ρ S1 else g ρ S1 := id rfl
@[simp] theorem e_dChain (o p : D → D → Sto → RE D) (f g h : ME) : dChain o p f g h ρ S = (f ρ S).bind fun x S1 => (g ρ S1).bind fun y S2 => (o x y S2).bind fun d S3 => onBl d fun b => if b = true then (h ρ S3).bind fun z S4 => p y z S4 else .ok (.bl false) S3 :=
  bind_congr' fun x S1 => bind_congr' fun y S2 => bind_congr' fun d S3 => by
    cases d <;> try rfl
    rename_i b; cases b <;> rfl
@[simp] theorem e_aNil : aNil ρ S = .ok [] S := id rfl
@[simp] theorem e_aCons (f : ME) (g : MA) : aCons f g ρ S = (f ρ S).bind fun d S1 => (g ρ S1).bind fun ds S2 => .ok (d :: ds) S2 := id rfl
@[simp] theorem e_dTup (f : MA) : dTup f ρ S = (f ρ S).bind fun ds S1 => if ds.length ≤ cap then .ok (.tup ds) S1 else .bad := id rfl
@[simp] theorem e_dLst (f : MA) : dLst f ρ S = (f ρ S).bind fun ds S1 => if ds.length ≤ cap then .ok (.lst ds) S1 else .bad := id rfl
@[simp] theorem e_dLstO (f : MA) : dLstO f ρ S = (f ρ S).bind fun ds S1 => if ds.length ≤ cap then .ok (.own S1.length) (S1 ++ [.lst ds]) else .bad := id rfl
@[simp] theorem e_sNil : sNil ρ S = .nx ρ S := id rfl
@[simp] theorem e_sSeq (f g : MS) : sSeq f g ρ S = RS.seq (f ρ S) g := id rfl
@[simp] theorem e_sExpr (f : ME) : sExpr f ρ S = (f ρ S).stm ρ fun _ S1 => .nx ρ S1 := id rfl
@[simp] theorem e_sRet (f : ME) : sRet f ρ S = (f ρ S).stm ρ fun d S1 => .rt d S1 := id rfl
@[simp] theorem e_sRetN : sRetN ρ S = .rt .non S := id rfl
@[simp] theorem e_sBreak : sBreak ρ S = .bk ρ S := id rfl
@[simp] theorem e_sCont : sCont ρ S = .ct ρ S := id rfl
@[simp] theorem e_sIf (t : MT) (f g : MS) : sIf t f g ρ S = (t ρ S).stm ρ fun b S1 => if b = true then f ρ S1 else g ρ S1 := id rfl
@[simp] theorem e_sAsg (f : ME) (g : MG) : sAsg f g ρ S = (f ρ S).stm ρ fun d S1 => match g d ρ with | some ρ1 => .nx ρ1 S1 | none => .bad := id rfl
@[simp] theorem e_gN (i : Nat) (d : D) : gN i d ρ = some (ρ.set i (some d)) := id rfl
@[simp] theorem e_sFor (i : MA) (g : MG) (b : MS) : sFor i g b ρ S = (i ρ S).stm ρ fun ds S1 => loopS g b ds ρ S1 := id rfl
@[simp] theorem e_dLC (own : List Nat) (i : MA) (g : MG) (t : MT) (e : ME) : dLC own i g t e ρ S = (i ρ S).bind fun ds S1 => if ds.length ≤ cap then (loopC own g t e ρ ds S1).bind fun vs S2 => .ok (.lst vs) S2 else .bad := id rfl
@[simp] theorem e_iOf (f : ME) : iOf f ρ S = (f ρ S).bind fun d S1 => match itemsOf d with | some ds => .ok ds S1 | none => .bad := id rfl
@[simp] theorem e_iR1 (f : MA) : iR1 f ρ S = (f ρ S).bind fun ds S1 => match ds with | [.int n] => if -(2 ^ 62) ≤ n ∧ n < 2 ^ 62 then .ok (rangeD 0 n.toNat) S1 else .bad | _ => .bad := id rfl
@[simp] theorem e_dCall (n : Nat) (F : FD) (dd : List D) (fa : MA) : dCall n F dd fa ρ S = (fa ρ S).bind fun ds S1 => if (ds ++ dd).length = n then F (ds ++ dd) S1 else .bad := id rfl
@[simp] theorem e_dBlt (op : FD) (fa : MA) : dBlt op fa ρ S = (fa ρ S).bind fun ds S1 => op ds S1 := id rfl
@[simp] theorem e_dNeg (f : ME) : dNeg f ρ S = (f ρ S).bind fun d S1 => onInt d fun i => .ok (.int (-i)) S1 := id rfl
@[simp] theorem e_dM1 (op : Str → D → Sto → RE D) (f g : ME) : dM1 op f g ρ S = (f ρ S).bind fun d S1 => onStr d fun x => (g ρ S1).bind fun e S2 => op x e S2 := id rfl
@[simp] theorem e_dSl (f : ME) (lo hi : MO) : dSl f lo hi ρ S = (f ρ S).bind fun d S1 => (lo ρ S1).bind fun l S2 => (hi ρ S2).bind fun u S3 => slD d l u S3 := id rfl
@[simp] theorem e_oNoPart : oNoPart ρ S = .ok none S := id rfl
@[simp] theorem e_oPart (f : ME) : oPart f ρ S = (f ρ S).bind fun d S1 => onInt d fun i => .ok (some i) S1 := id rfl
@[simp] theorem e_dDictE : dDictE ρ S = .ok (.dK []) S := id rfl
@[simp] theorem e_mYes : mYes ρ S = .ok true S := id rfl
theorem e_fnD (n : Nat) (B : MS) (ds : List D) : fnD n B ds S = (B (ds.map some ++ List.replicate (n - ds.length) none) S).fin := rfl
end
/-! comprehensions whose parts change nothing -/
theorem loopC_fm {own : List Nat} {g : MG} {t : MT} {e : ME} {ρ : DE.Env} {S : Sto} {r : D → DE.Env} {p : D → Bool} {v : D → D} : ∀ {ds : List D}, (∀ d ∈ ds, g d (wipeD ρ own) = some (r d) ∧ t (r d) S = .ok (p d) S ∧ (p d = true → e (r d) S = .ok (v d) S)) →
    loopC own g t e ρ ds S = .ok ((ds.filter p).map v) S
  | [], _ => rfl
  | d :: ds, h => by
    obtain ⟨h1, h2, h3⟩ := h d List.mem_cons_self
    have ih := loopC_fm (ds := ds) fun x hx => h x (List.mem_cons_of_mem _ hx)
    unfold loopC
    rw [h1]
    simp only [h2]
    cases q : p d with
    | true => simp only [h3 q, ih, RE.bind_ok, List.filter_cons, q, if_true, List.map_cons]
    | false => simp only [ih, List.filter_cons, q]; rfl
theorem loopC_map {own : List Nat} {g : MG} {t : MT} {e : ME} {ρ : DE.Env} {S : Sto} {r : D → DE.Env} {v : D → D} {ds : List D} (h : ∀ d ∈ ds, g d (wipeD ρ own) = some (r d) ∧ t (r d) S = .ok true S ∧ e (r d) S = .ok (v d) S) :
    loopC own g t e ρ ds S = .ok (ds.map v) S := by
  have := loopC_fm (p := fun _ => true) (v := v) fun d hd => let ⟨a, b, c⟩ := h d hd; ⟨a, b, fun _ => c⟩
  rw [this, List.filter_eq_self.mpr (fun _ _ => rfl)]
/-! operators at data whose kind is known -/
@[simp] theorem oEq_int (i j : Int) (S : Sto) : oEq (.int i) (.int j) S = .ok (.bl (i == j)) S := id rfl
@[simp] theorem oNe_int (i j : Int) (S : Sto) : oNe (.int i) (.int j) S = .ok (.bl (!(i == j))) S := id rfl
@[simp] theorem oLt_int (i j : Int) (S : Sto) : oLt (.int i) (.int j) S = .ok (.bl (decide (i < j))) S := id rfl
@[simp] theorem oLe_int (i j : Int) (S : Sto) : oLe (.int i) (.int j) S = .ok (.bl (decide (i ≤ j))) S := id rfl
@[simp] theorem oGt_int (i j : Int) (S : Sto) : oGt (.int i) (.int j) S = .ok (.bl (decide (j < i))) S := id rfl
@[simp] theorem oGe_int (i j : Int) (S : Sto) : oGe (.int i) (.int j) S = .ok (.bl (decide (j ≤ i))) S := id rfl
@[simp] theorem oAdd_int (i j : Int) (S : Sto) : oAdd (.int i) (.int j) S = .ok (.int (i + j)) S := id rfl
@[simp] theorem oSub_int (i j : Int) (S : Sto) : oSub (.int i) (.int j) S = .ok (.int (i - j)) S := id rfl
theorem oMul_int {i j : Int} {S : Sto} (h : (-lim64 < i ∧ i < lim64) ∨ (-lim64 < j ∧ j < lim64)) : oMul (.int i) (.int j) S = .ok (.int (i * j)) S := if_pos h
theorem oMod_int {i j : Int} {S : Sto} (h : 0 < j) : oMod (.int i) (.int j) S = .ok (.int (i % j)) S := if_pos (decide_eq_true h)
theorem oFDiv_int {i j : Int} {S : Sto} (h : 0 < j) (h2 : j < 1073741824) : oFDiv (.int i) (.int j) S = .ok (.int (i / j)) S := if_pos (decide_eq_true ⟨h, h2⟩)
@[simp] theorem oIs_non (d : D) (S : Sto) : oIs d .non S = .ok (.bl (isNon d)) S := by cases d <;> rfl
@[simp] theorem oIsNot_non (d : D) (S : Sto) : oIsNot d .non S = .ok (.bl (!isNon d)) S := by cases d <;> rfl
@[simp] theorem oIs_bl (a b : Bool) (S : Sto) : oIs (.bl a) (.bl b) S = .ok (.bl (decide (a = b))) S := id rfl
@[simp] theorem oIsNot_bl (a b : Bool) (S : Sto) : oIsNot (.bl a) (.bl b) S = .ok (.bl (!decide (a = b))) S := id rfl
theorem oEq_str {x y : Str} {S : Sto} (hx : PyData.strOk x = true) (hy : PyData.strOk y = true) : oEq (.str x) (.str y) S = .ok (.bl (x == y)) S := by
  have h1 : SeqAt.shaped (.str x) = true := by simp [SeqAt.shaped, PyData.canLay0, PyData.depth, hx]
  have h2 : SeqAt.shaped (.str y) = true := by simp [SeqAt.shaped, PyData.canLay0, PyData.depth, hy]
  unfold oEq eqD
  simp only [toPy, h1, h2, and_self, if_true, PyData.eqv]
theorem oNe_str {x y : Str} {S : Sto} (hx : PyData.strOk x = true) (hy : PyData.strOk y = true) : oNe (.str x) (.str y) S = .ok (.bl (!(x == y))) S := by
  have h1 : SeqAt.shaped (.str x) = true := by simp [SeqAt.shaped, PyData.canLay0, PyData.depth, hx]
  have h2 : SeqAt.shaped (.str y) = true := by simp [SeqAt.shaped, PyData.canLay0, PyData.depth, hy]
  unfold oNe eqD
  simp only [toPy, h1, h2, and_self, if_true, PyData.eqv]
theorem reprB_ok (b : Bool) : PyData.strOk (reprB b) = true := by cases b <;> decide +kernel
theorem oEq_repr (a b : Bool) (S : Sto) : oEq (.str (reprB a)) (.str (reprB b)) S = .ok (.bl (a == b)) S := by
  rw [oEq_str (reprB_ok a) (reprB_ok b)]
  have h1 : (reprB true == reprB false) = false := by decide +kernel
  have h2 : (reprB false == reprB true) = false := by decide +kernel
  cases a <;> cases b <;> simp [h1, h2]
theorem oNe_repr (a b : Bool) (S : Sto) : oNe (.str (reprB a)) (.str (reprB b)) S = .ok (.bl (!(a == b))) S := by
  rw [oNe_str (reprB_ok a) (reprB_ok b)]
  have h1 : (reprB true == reprB false) = false := by decide +kernel
  have h2 : (reprB false == reprB true) = false := by decide +kernel
  cases a <;> cases b <;> simp [h1, h2]
/-! loops -/
theorem loopS_inv {g : MG} {body : MS} (Inv : DE.Env → Sto → Prop) : ∀ {ds : List D} {ρ : DE.Env} {S : Sto}, (∀ d ∈ ds, ∀ ρ S, Inv ρ S → ∃ ρ1, g d ρ = some ρ1 ∧ ∃ ρ2 S2, body ρ1 S = .nx ρ2 S2 ∧ Inv ρ2 S2) → Inv ρ S → ∃ ρ' S', loopS g body ds ρ S = .nx ρ' S' ∧ Inv ρ' S'
  | [], ρ, S, _, h0 => ⟨ρ, S, rfl, h0⟩
  | d :: ds, ρ, S, h, h0 => by
    obtain ⟨ρ1, e1, ρ2, S2, e2, h2⟩ := h d List.mem_cons_self ρ S h0
    obtain ⟨ρ', S', e3, h3⟩ := loopS_inv Inv (ds := ds) (fun x hx => h x (List.mem_cons_of_mem _ hx)) h2
    refine ⟨ρ', S', ?_, h3⟩
    unfold loopS
    rw [e1]
    simp only [e2]
    exact e3
/-- a comprehension whose parts change the store, each item as told -/
theorem loopC_inv {own : List Nat} {g : MG} {t : MT} {e : ME} {ρ : DE.Env} (Inv : Sto → Prop) (P : D → Prop) : ∀ {ds : List D} {S : Sto}, (∀ d ∈ ds, ∀ S, Inv S → ∃ ρ1, g d (wipeD ρ own) = some ρ1 ∧ t ρ1 S = .ok true S ∧ ∃ v S2, e ρ1 S = .ok v S2 ∧ P v ∧ Inv S2) → Inv S →
    ∃ vs S', loopC own g t e ρ ds S = .ok vs S' ∧ (∀ v ∈ vs, P v) ∧ vs.length = ds.length ∧ Inv S'
  | [], S, _, h0 => ⟨[], S, rfl, (fun _ h => by cases h), rfl, h0⟩
  | d :: ds, S, h, h0 => by
    obtain ⟨ρ1, e1, e2, v, S2, e3, hv, h2⟩ := h d List.mem_cons_self S h0
    obtain ⟨vs, S', e4, hvs, hl, h4⟩ := loopC_inv Inv P (ds := ds) (fun x hx => h x (List.mem_cons_of_mem _ hx)) h2
    refine ⟨v :: vs, S', ?_, fun x hx => ?_, by simp [hl], h4⟩
    · unfold loopC
      rw [e1]
      simp only [e2, e3, e4, RE.bind_ok]
    · rcases List.mem_cons.mp hx with rfl | hx
      · exact hv
      · exact hvs x hx
theorem mem_rangeD {lo : Int} {n : Nat} {d : D} (h : d ∈ rangeD lo n) : ∃ i : Nat, i < n ∧ d = .int (lo + i) := by
  unfold rangeD at h
  obtain ⟨i, hi, rfl⟩ := List.mem_map.mp h
  exact ⟨i, List.mem_range.mp hi, rfl⟩
/-! the pool of draws -/
def PoolAt (k : Nat) (S : Sto) : Prop := ∃ x y, S[k]? = some (.lst [.int x, .int y])
theorem oPow_int {i j z : Int} {S : Sto} (h : decide (0 ≤ j ∧ j ≤ 1000000 ∧ i.natAbs < lim64.toNat) = true) (e : i ^ j.toNat = z) : oPow (.int i) (.int j) S = .ok (.int z) S := by
  subst e
  exact if_pos h
@[simp] theorem pow18 (S : Sto) : oPow (.int 10) (.int 18) S = .ok (.int 1000000000000000000) S := oPow_int (by decide +kernel) (by decide +kernel)
@[simp] theorem pow15 (S : Sto) : oPow (.int 10) (.int 15) S = .ok (.int 1000000000000000) S := oPow_int (by decide +kernel) (by decide +kernel)
end DE

set_option maxHeartbeats 4000000
namespace G
open PySem PySem.Spec PyProof.Rows L2 DE
def top (i : Nat) : Stmt := PySem.Challenge.pw_tombkeeper_k01_words_values_entries.main.body.getD i (.Pass ⟨0, 0, 0, 0⟩)
abbrev s_is_word : Stmt := top 4
abbrev s_is_value : Stmt := top 5
abbrev s_is_number : Stmt := top 6
abbrev s_is_stamp : Stmt := top 7
abbrev s_is_entry : Stmt := top 8
abbrev s_law_pool : Stmt := top 10
abbrev s_law_take : Stmt := top 11
abbrev s_law_word : Stmt := top 12
abbrev s_law_text : Stmt := top 13
abbrev s_law_is_word : Stmt := top 14
abbrev s_law_is_value : Stmt := top 15
abbrev s_law_is_stamp : Stmt := top 16
abbrev s_law_is_entry : Stmt := top 17
abbrev s_law_right : Stmt := top 18
abbrev s_law : Stmt := top 19
def d_is_word : He.DefD := ⟨("is_word", none), "is_word", "is_word", defArgs s_is_word, defBody s_is_word, defScope s_is_word, [], []⟩
def d_is_value : He.DefD := ⟨("is_value", none), "is_value", "is_value", defArgs s_is_value, defBody s_is_value, defScope s_is_value, [], []⟩
def d_is_number : He.DefD := ⟨("is_number", none), "is_number", "is_number", defArgs s_is_number, defBody s_is_number, defScope s_is_number, [], []⟩
def d_is_stamp : He.DefD := ⟨("is_stamp", none), "is_stamp", "is_stamp", defArgs s_is_stamp, defBody s_is_stamp, defScope s_is_stamp, [], []⟩
def d_is_entry : He.DefD := ⟨("is_entry", none), "is_entry", "is_entry", defArgs s_is_entry, defBody s_is_entry, defScope s_is_entry, [], []⟩
def d_law_pool : He.DefD := ⟨("_law_pool", none), "_law_pool", "_law_pool", defArgs s_law_pool, defBody s_law_pool, defScope s_law_pool, [], []⟩
def d_law_take : He.DefD := ⟨("_law_take", none), "_law_take", "_law_take", defArgs s_law_take, defBody s_law_take, defScope s_law_take, [], []⟩
def d_law_word : He.DefD := ⟨("_law_word", none), "_law_word", "_law_word", defArgs s_law_word, defBody s_law_word, defScope s_law_word, [], []⟩
def d_law_text : He.DefD := ⟨("_law_text", none), "_law_text", "_law_text", defArgs s_law_text, defBody s_law_text, defScope s_law_text, [], []⟩
def d_law_is_word : He.DefD := ⟨("_law_is_word", none), "_law_is_word", "_law_is_word", defArgs s_law_is_word, defBody s_law_is_word, defScope s_law_is_word, [], []⟩
def d_law_is_value : He.DefD := ⟨("_law_is_value", none), "_law_is_value", "_law_is_value", defArgs s_law_is_value, defBody s_law_is_value, defScope s_law_is_value, [], []⟩
def d_law_is_stamp : He.DefD := ⟨("_law_is_stamp", none), "_law_is_stamp", "_law_is_stamp", defArgs s_law_is_stamp, defBody s_law_is_stamp, defScope s_law_is_stamp, [], []⟩
def d_law_is_entry : He.DefD := ⟨("_law_is_entry", none), "_law_is_entry", "_law_is_entry", defArgs s_law_is_entry, defBody s_law_is_entry, defScope s_law_is_entry, [], []⟩
def d_law_right : He.DefD := ⟨("_law_right", none), "_law_right", "_law_right", defArgs s_law_right, defBody s_law_right, defScope s_law_right, [], []⟩
def d_law : He.DefD := ⟨("law", none), "law", "law", defArgs s_law, defBody s_law, defScope s_law, [], []⟩
def fn : List He.DefD := [d_is_word, d_is_value, d_is_number, d_is_stamp, d_is_entry, d_law_pool, d_law_take, d_law_word, d_law_text, d_law_is_word, d_law_is_value, d_law_is_stamp, d_law_is_entry, d_law_right, d_law]
def fa : List He.Fa := [.str "LETTERS" "abcdefghijklmnopqrstuvwxyz", .free "all", .free "len", .free "str", .free "isinstance", .glo "is_word", .int "MOST_VALUE" 40, .glo "is_value", .int "MOST_NUMBER" 1000000000000000, .free "bool", .free "int", .glo "is_number", .glo "_law_pool", .glo "_law_take", .glo "_law_is_word", .glo "_law_is_value", .free "tuple", .glo "is_stamp", .free "range", .glo "_law_word", .glo "_law_text", .glo "_law_is_stamp", .glo "is_entry", .glo "_law_is_entry", .free "repr", .glo "_law_right", .free "min", .free "max", .free "list", .glo "law"]
structure T0 (K : PySem.W.Frag) (mg : Str → Option Value) : Prop where
  c : He.SaysD fa fn K
  h : ∃ h : Heap, K.In h ∧ h.Ns mainGlobals mg
section
variable {K : PySem.W.Frag} {mg : Str → Option Value}
theorem T0.free (T : T0 K mg) (i : Nat) {x : Str} (hx : fa[i]? = some (.free x) := by rfl) : mg x = none := by
  obtain ⟨h, X, G⟩ := T.h
  exact He.free_ok X G (T.c.fact i hx)
theorem T0.glo (T : T0 K mg) (i : Nat) {x : Str} (hx : fa[i]? = some (.glo x) := by rfl) : mg x = some (.ref (He.ga K x)) := by
  obtain ⟨h, X, G⟩ := T.h
  exact He.glo_ok X G (T.c.fact i hx)
theorem T0.int (T : T0 K mg) (i : Nat) {x : Str} {z : Int} (hx : fa[i]? = some (.int x z) := by rfl) : ∃ t, mg x = some (.int z t) := by
  obtain ⟨h, X, G⟩ := T.h
  exact He.int_ok X G (T.c.fact i hx)
theorem T0.str (T : T0 K mg) (i : Nat) {x z : Str} (hx : fa[i]? = some (.str x z) := by rfl) : ∃ t, mg x = some (.str z t) := by
  obtain ⟨h, X, G⟩ := T.h
  exact He.str_ok X G (T.c.fact i hx)
end
section
variable {P : Program} {w : World} {K : PySem.W.Frag} {mg : Str → Option Value} {base : Heap}
def B_is_word : MS := (sSeq (sIf (dOrT (dNotT (dTest (dBlt oIsi (aCons (dVar 0) (aCons (dC (.ty "str")) aNil))))) (dNotT (dTest (dChain oLe oLe (dC (.int 1)) (dBlt oLen (aCons (dVar 0) aNil)) (dC (.int 8))))))
    (sRet (dC (.bl false)))
    sNil)
    (sRet (dBlt oAll (aCons (dLC [1] (iOf (dVar 0)) (gN 1) mYes (dBin oIn (dVar 1) (dC (.str "abcdefghijklmnopqrstuvwxyz")))) aNil))))
def F_is_word : FD := fnD 2 B_is_word
theorem sc_is_word : FnScope ["thing", "sign"] ["thing"] (defScope s_is_word) := ⟨rfl, rfl, rfl, by decide +kernel, rfl, by decide +kernel, by decide +kernel⟩
theorem ok_is_word (T : T0 K mg) : Fn P w K mg base 1 "is_word" 1 F_is_word := by
  obtain ⟨fd, F⟩ := T.c.def_ 0 (d := d_is_word) rfl
  refine ⟨⟨fd, ["thing"], fn_data F sc_is_word fun cdv A outer s H E hr => ?_, F.bindsN fun _ _ _ _ _ _ us hl => match us, hl with | [_], _ => rfl⟩, T.glo 5, F.kp⟩
  exact (dss_cons (ds_if (DW.dt (dw_or (dt_not (dt_val (de_bf c_oIsi rfl (T.free 4) (by decide +kernel) (da_cons (dv 0) (da_cons (de_ty (n := "str") rfl (T.free 3) (by decide +kernel)) da_nil))))) (dw_or1 (dt_not (dt_chain op_oLe op_oLe de_int (de_bf c_oLen rfl (T.free 2) (by decide +kernel) (da_cons (dv 0) da_nil)) de_int)))))
    (dss_one (ds_ret de_bl))
    dss_nil)
    (dss_one (ds_ret (de_bf (c_oAll rfl) rfl (T.free 1) (by decide +kernel) (da_cons (de_lc rfl sc_is_word.nd (di_any (dv 0)) (blkOk_by (own := [("sign", 1)]) (by kernel_rfl)) (fun _ _ _ _ _ => (dg_name 1 sc_is_word.nd rfl (by first | exact Or.inl rfl | exact Or.inr rfl))) (fun _ _ _ _ _ => dts_nil) (fun _ _ _ _ _ => (de_rel op_oIn (dv 1) (de_gstr (T.str 0)))) (by decide)) da_nil)))))
def B_is_value : MS := (sRet (dAnd (dBlt oIsi (aCons (dVar 0) (aCons (dC (.ty "str")) aNil))) (dAnd (dBin oLe (dBlt oLen (aCons (dVar 0) aNil)) (dC (.int 40))) (dBlt oAll (aCons (dLC [1] (iOf (dVar 0)) (gN 1) mYes (dChain oLe oLe (dC (.str " ")) (dVar 1) (dC (.str "~")))) aNil)))))
def F_is_value : FD := fnD 2 B_is_value
theorem sc_is_value : FnScope ["thing", "sign"] ["thing"] (defScope s_is_value) := ⟨rfl, rfl, rfl, by decide +kernel, rfl, by decide +kernel, by decide +kernel⟩
theorem ok_is_value (T : T0 K mg) : Fn P w K mg base 1 "is_value" 1 F_is_value := by
  obtain ⟨fd, F⟩ := T.c.def_ 1 (d := d_is_value) rfl
  refine ⟨⟨fd, ["thing"], fn_data F sc_is_value fun cdv A outer s H E hr => ?_, F.bindsN fun _ _ _ _ _ _ us hl => match us, hl with | [_], _ => rfl⟩, T.glo 7, F.kp⟩
  exact (dss_one (ds_ret (de_and (de_bf c_oIsi rfl (T.free 4) (by decide +kernel) (da_cons (dv 0) (da_cons (de_ty (n := "str") rfl (T.free 3) (by decide +kernel)) da_nil))) (de_and (de_rel op_oLe (de_bf c_oLen rfl (T.free 2) (by decide +kernel) (da_cons (dv 0) da_nil)) (de_gint (T.int 6))) (de_one (de_bf (c_oAll rfl) rfl (T.free 1) (by decide +kernel) (da_cons (de_lc rfl sc_is_value.nd (di_any (dv 0)) (blkOk_by (own := [("sign", 1)]) (by kernel_rfl)) (fun _ _ _ _ _ => (dg_name 1 sc_is_value.nd rfl (by first | exact Or.inl rfl | exact Or.inr rfl))) (fun _ _ _ _ _ => dts_nil) (fun _ _ _ _ _ => (de_chain op_oLe op_oLe de_str (dv 1) de_str)) (by decide)) da_nil)))))))
def B_is_number : MS := (sRet (dAnd (dBlt oIsi (aCons (dVar 0) (aCons (dC (.ty "int")) aNil))) (dAnd (dNot (dBlt oIsi (aCons (dVar 0) (aCons (dC (.ty "bool")) aNil)))) (dChain oLe oLe (dC (.int 1)) (dVar 0) (dC (.int 1000000000000000))))))
def F_is_number : FD := fnD 1 B_is_number
theorem sc_is_number : FnScope ["thing"] ["thing"] (defScope s_is_number) := ⟨rfl, rfl, rfl, by decide +kernel, rfl, by decide +kernel, by decide +kernel⟩
theorem ok_is_number (T : T0 K mg) : Fn P w K mg base 1 "is_number" 1 F_is_number := by
  obtain ⟨fd, F⟩ := T.c.def_ 2 (d := d_is_number) rfl
  refine ⟨⟨fd, ["thing"], fn_data F sc_is_number fun cdv A outer s H E hr => ?_, F.bindsN fun _ _ _ _ _ _ us hl => match us, hl with | [_], _ => rfl⟩, T.glo 11, F.kp⟩
  exact (dss_one (ds_ret (de_and (de_bf c_oIsi rfl (T.free 4) (by decide +kernel) (da_cons (dv 0) (da_cons (de_ty (n := "int") rfl (T.free 10) (by decide +kernel)) da_nil))) (de_and (de_not (de_bf c_oIsi rfl (T.free 4) (by decide +kernel) (da_cons (dv 0) (da_cons (de_ty (n := "bool") rfl (T.free 9) (by decide +kernel)) da_nil)))) (de_one (de_chain op_oLe op_oLe de_int (dv 0) (de_gint (T.int 8))))))))
def B_law_pool : MS := (sSeq (sAsg (dC (.int 0)) (gN 2))
    (sSeq (sIf (dTest (dBin oLt (dVar 1) (dBlt oLen (aCons (dVar 0) aNil))))
    (sAsg (dBin oIx (dVar 0) (dVar 1)) (gN 2))
    sNil)
    (sSeq (sAsg (dBin oMod (dBin oMul (dBin oAdd (dBin oAdd (dBin oMod (dVar 2) (dC (.int 2147483629))) (dBin oMul (dBin oMul (dC (.int 7919)) (dVar 1)) (dVar 1))) (dC (.int 13))) (dC (.int 48271))) (dC (.int 2147483647))) (gN 3))
    (sSeq (sIf (dTest (dBin oLt (dVar 2) (dBin oPow (dC (.int 10)) (dC (.int 18)))))
    (sAsg (dC (.int 0)) (gN 2))
    sNil)
    (sRet (dLstO (aCons (dVar 2) (aCons (dBin oAdd (dBin oMod (dBin oMul (dVar 3) (dVar 3)) (dC (.int 2147483587))) (dC (.int 1))) aNil))))))))
def F_law_pool : FD := fnD 4 B_law_pool
theorem sc_law_pool : FnScope ["_law_script", "_law_k", "_law_cell", "_law_seed"] ["_law_script", "_law_k"] (defScope s_law_pool) := ⟨rfl, rfl, rfl, by decide +kernel, rfl, by decide +kernel, by decide +kernel⟩
theorem ok_law_pool (T : T0 K mg) : Fn P w K mg base 1 "_law_pool" 2 F_law_pool := by
  obtain ⟨fd, F⟩ := T.c.def_ 5 (d := d_law_pool) rfl
  refine ⟨⟨fd, ["_law_script", "_law_k"], fn_data F sc_law_pool fun cdv A outer s H E hr => ?_, F.bindsN fun _ _ _ _ _ _ us hl => match us, hl with | [_, _], _ => rfl⟩, T.glo 12, F.kp⟩
  exact (dss_cons (ds_set 2 sc_law_pool.nd rfl (by first | exact Or.inl rfl | exact Or.inr rfl) de_int)
    (dss_cons (ds_if (dt_rel op_oLt (dv 1) (de_bf c_oLen rfl (T.free 2) (by decide +kernel) (da_cons (dv 0) da_nil)))
    (dss_one (ds_set 2 sc_law_pool.nd rfl (by first | exact Or.inl rfl | exact Or.inr rfl) (de_ix (dv 0) (dv 1))))
    dss_nil)
    (dss_cons (ds_set 3 sc_law_pool.nd rfl (by first | exact Or.inl rfl | exact Or.inr rfl) (de_bin op_oMod (de_bin op_oMul (de_bin op_oAdd (de_bin op_oAdd (de_bin op_oMod (dv 2) de_int) (de_bin op_oMul (de_bin op_oMul de_int (dv 1)) (dv 1))) de_int) de_int) de_int))
    (dss_cons (ds_if (dt_rel op_oLt (dv 2) (de_bin op_oPow de_int de_int))
    (dss_one (ds_set 2 sc_law_pool.nd rfl (by first | exact Or.inl rfl | exact Or.inr rfl) de_int))
    dss_nil)
    (dss_one (ds_ret (de_lstO (da_cons (dv 2) (da_cons (de_bin op_oAdd (de_bin op_oMod (de_bin op_oMul (dv 3) (dv 3)) de_int) de_int) da_nil)))))))))
def B_law_take : MS := (sSeq (sIf (dTest (dBin oGt (dBin oIx (dVar 0) (dC (.int 0))) (dC (.int 0))))
    (sSeq (sAsg (dBin oMod (dBin oIx (dVar 0) (dC (.int 0))) (dVar 1)) (gN 2))
    (sSeq (sSetIx (dBin oFDiv (dBin oIx (dVar 0) (dC (.int 0))) (dVar 1)) (dVar 0) (dC (.int 0)))
    (sRet (dVar 2))))
    sNil)
    (sSeq (sSetIx (dBin oMod (dBin oAdd (dBin oMul (dBin oIx (dVar 0) (dC (.int 1))) (dC (.int 48271))) (dC (.int 11))) (dC (.int 2147483647))) (dVar 0) (dC (.int 1)))
    (sRet (dBin oMod (dBin oFDiv (dBin oMod (dBin oMul (dBin oIx (dVar 0) (dC (.int 1))) (dBin oIx (dVar 0) (dC (.int 1)))) (dC (.int 2147483629))) (dC (.int 64))) (dVar 1)))))
def F_law_take : FD := fnD 3 B_law_take
theorem sc_law_take : FnScope ["_law_pool_here", "_law_many", "_law_found"] ["_law_pool_here", "_law_many"] (defScope s_law_take) := ⟨rfl, rfl, rfl, by decide +kernel, rfl, by decide +kernel, by decide +kernel⟩
theorem ok_law_take (T : T0 K mg) : Fn P w K mg base 1 "_law_take" 2 F_law_take := by
  obtain ⟨fd, F⟩ := T.c.def_ 6 (d := d_law_take) rfl
  refine ⟨⟨fd, ["_law_pool_here", "_law_many"], fn_data F sc_law_take fun cdv A outer s H E hr => ?_, F.bindsN fun _ _ _ _ _ _ us hl => match us, hl with | [_, _], _ => rfl⟩, T.glo 13, F.kp⟩
  exact (dss_cons (ds_if (dt_rel op_oGt (de_ix (dv 0) de_int) de_int)
    (dss_cons (ds_set 2 sc_law_take.nd rfl (by first | exact Or.inl rfl | exact Or.inr rfl) (de_bin op_oMod (de_ix (dv 0) de_int) (dv 1)))
    (dss_cons (ds_setIx (de_bin op_oFDiv (de_ix (dv 0) de_int) (dv 1)) (dv 0) de_int)
    (dss_one (ds_ret (dv 2)))))
    dss_nil)
    (dss_cons (ds_setIx (de_bin op_oMod (de_bin op_oAdd (de_bin op_oMul (de_ix (dv 0) de_int) de_int) de_int) de_int) (dv 0) de_int)
    (dss_one (ds_ret (de_bin op_oMod (de_bin op_oFDiv (de_bin op_oMod (de_bin op_oMul (de_ix (dv 0) de_int) (de_ix (dv 0) de_int)) de_int) de_int) (dv 1))))))
def B_law_is_word : MS := (sSeq (sIf (dNotT (dTest (dBlt oIsi (aCons (dVar 0) (aCons (dC (.ty "str")) aNil)))))
    (sRet (dC (.bl false)))
    sNil)
    (sRet (dAnd (dChain oLt oLt (dC (.int 0)) (dBlt oLen (aCons (dVar 0) aNil)) (dC (.int 9))) (dBin oEq (dLC [1] (iOf (dVar 0)) (gN 1) (dNotT (dTest (dChain oLe oLe (dC (.str "a")) (dVar 1) (dC (.str "z"))))) (dVar 1)) (dLst aNil)))))
def F_law_is_word : FD := fnD 2 B_law_is_word
theorem sc_law_is_word : FnScope ["_law_thing", "_law_sign"] ["_law_thing"] (defScope s_law_is_word) := ⟨rfl, rfl, rfl, by decide +kernel, rfl, by decide +kernel, by decide +kernel⟩
theorem ok_law_is_word (T : T0 K mg) : Fn P w K mg base 1 "_law_is_word" 1 F_law_is_word := by
  obtain ⟨fd, F⟩ := T.c.def_ 9 (d := d_law_is_word) rfl
  refine ⟨⟨fd, ["_law_thing"], fn_data F sc_law_is_word fun cdv A outer s H E hr => ?_, F.bindsN fun _ _ _ _ _ _ us hl => match us, hl with | [_], _ => rfl⟩, T.glo 14, F.kp⟩
  exact (dss_cons (ds_if (dt_not (dt_val (de_bf c_oIsi rfl (T.free 4) (by decide +kernel) (da_cons (dv 0) (da_cons (de_ty (n := "str") rfl (T.free 3) (by decide +kernel)) da_nil)))))
    (dss_one (ds_ret de_bl))
    dss_nil)
    (dss_one (ds_ret (de_and (de_chain op_oLt op_oLt de_int (de_bf c_oLen rfl (T.free 2) (by decide +kernel) (da_cons (dv 0) da_nil)) de_int) (de_one (de_rel (op_oEq hr.units) (de_lc rfl sc_law_is_word.nd (di_any (dv 0)) (blkOk_by (own := [("_law_sign", 1)]) (by kernel_rfl)) (fun _ _ _ _ _ => (dg_name 1 sc_law_is_word.nd rfl (by first | exact Or.inl rfl | exact Or.inr rfl))) (fun _ _ _ _ _ => (dts_one (dt_not (dt_chain op_oLe op_oLe de_str (dv 1) de_str)))) (fun _ _ _ _ _ => (dv 1)) (by decide)) (de_lst da_nil)))))))
def B_law_is_value : MS := (sRet (dAnd (dBlt oIsi (aCons (dVar 0) (aCons (dC (.ty "str")) aNil))) (dAnd (dBin oLt (dBlt oLen (aCons (dVar 0) aNil)) (dC (.int 41))) (dBin oEq (dLC [1] (iOf (dVar 0)) (gN 1) (dNotT (dTest (dChain oLe oLe (dC (.str " ")) (dVar 1) (dC (.str "~"))))) (dVar 1)) (dLst aNil)))))
def F_law_is_value : FD := fnD 2 B_law_is_value
theorem sc_law_is_value : FnScope ["_law_thing", "_law_sign"] ["_law_thing"] (defScope s_law_is_value) := ⟨rfl, rfl, rfl, by decide +kernel, rfl, by decide +kernel, by decide +kernel⟩
theorem ok_law_is_value (T : T0 K mg) : Fn P w K mg base 1 "_law_is_value" 1 F_law_is_value := by
  obtain ⟨fd, F⟩ := T.c.def_ 10 (d := d_law_is_value) rfl
  refine ⟨⟨fd, ["_law_thing"], fn_data F sc_law_is_value fun cdv A outer s H E hr => ?_, F.bindsN fun _ _ _ _ _ _ us hl => match us, hl with | [_], _ => rfl⟩, T.glo 15, F.kp⟩
  exact (dss_one (ds_ret (de_and (de_bf c_oIsi rfl (T.free 4) (by decide +kernel) (da_cons (dv 0) (da_cons (de_ty (n := "str") rfl (T.free 3) (by decide +kernel)) da_nil))) (de_and (de_rel op_oLt (de_bf c_oLen rfl (T.free 2) (by decide +kernel) (da_cons (dv 0) da_nil)) de_int) (de_one (de_rel (op_oEq hr.units) (de_lc rfl sc_law_is_value.nd (di_any (dv 0)) (blkOk_by (own := [("_law_sign", 1)]) (by kernel_rfl)) (fun _ _ _ _ _ => (dg_name 1 sc_law_is_value.nd rfl (by first | exact Or.inl rfl | exact Or.inr rfl))) (fun _ _ _ _ _ => (dts_one (dt_not (dt_chain op_oLe op_oLe de_str (dv 1) de_str)))) (fun _ _ _ _ _ => (dv 1)) (by decide)) (de_lst da_nil)))))))
def B_is_stamp : MS := (sRet (dAnd (dBlt oIsi (aCons (dVar 0) (aCons (dC (.ty "tuple")) aNil))) (dAnd (dBin oEq (dBlt oLen (aCons (dVar 0) aNil)) (dC (.int 2))) (dAnd (dCall 1 F_is_number [] (aCons (dBin oIx (dVar 0) (dC (.int 0))) aNil)) (dCall 1 F_is_word [] (aCons (dBin oIx (dVar 0) (dC (.int 1))) aNil))))))
def F_is_stamp : FD := fnD 1 B_is_stamp
theorem sc_is_stamp : FnScope ["thing"] ["thing"] (defScope s_is_stamp) := ⟨rfl, rfl, rfl, by decide +kernel, rfl, by decide +kernel, by decide +kernel⟩
theorem ok_is_stamp (T : T0 K mg) : Fn P w K mg base 2 "is_stamp" 1 F_is_stamp := by
  obtain ⟨fd, F⟩ := T.c.def_ 3 (d := d_is_stamp) rfl
  refine ⟨⟨fd, ["thing"], fn_data F sc_is_stamp fun cdv A outer s H E hr => ?_, F.bindsN fun _ _ _ _ _ _ us hl => match us, hl with | [_], _ => rfl⟩, T.glo 17, F.kp⟩
  exact (dss_one (ds_ret (de_and (de_bf c_oIsi rfl (T.free 4) (by decide +kernel) (da_cons (dv 0) (da_cons (de_ty (n := "tuple") rfl (T.free 16) (by decide +kernel)) da_nil))) (de_and (de_rel (op_oEq hr.units) (de_bf c_oLen rfl (T.free 2) (by decide +kernel) (da_cons (dv 0) da_nil)) de_int) (de_and (de_fn (ok_is_number T) hr rfl (takes_of rfl rfl rfl rfl) (da_cons (de_ix (dv 0) de_int) da_nil)) (de_one (de_fn (ok_is_word T) hr rfl (takes_of rfl rfl rfl rfl) (da_cons (de_ix (dv 0) de_int) da_nil))))))))
def B_law_word : MS := (sRet (dM1 oJoin (dC (.str "")) (dLC [1] (iR1 (aCons (dCall 2 F_law_take [] (aCons (dVar 0) (aCons (dC (.int 10)) aNil))) aNil)) (gN 1) mYes (dBin oIx (dLst (aCons (dC (.str "a")) (aCons (dC (.str "b")) (aCons (dC (.str "z")) (aCons (dC (.str "A")) (aCons (dC (.str "1")) (aCons (dC (.str " ")) (aCons (dC (.str "-")) (aCons (dC (.str "q")) aNil))))))))) (dCall 2 F_law_take [] (aCons (dVar 0) (aCons (dBin oIx (dLst (aCons (dC (.int 3)) (aCons (dC (.int 8)) aNil))) (dBin oFDiv (dVar 1) (dC (.int 7)))) aNil)))))))
def F_law_word : FD := fnD 2 B_law_word
theorem sc_law_word : FnScope ["_law_pool_here", "_law_turn"] ["_law_pool_here"] (defScope s_law_word) := ⟨rfl, rfl, rfl, by decide +kernel, rfl, by decide +kernel, by decide +kernel⟩
theorem ok_law_word (T : T0 K mg) : Fn P w K mg base 2 "_law_word" 1 F_law_word := by
  obtain ⟨fd, F⟩ := T.c.def_ 7 (d := d_law_word) rfl
  refine ⟨⟨fd, ["_law_pool_here"], fn_data F sc_law_word fun cdv A outer s H E hr => ?_, F.bindsN fun _ _ _ _ _ _ us hl => match us, hl with | [_], _ => rfl⟩, T.glo 19, F.kp⟩
  exact (dss_one (ds_ret (de_join de_str (de_lc rfl sc_law_word.nd (di_range1 rfl (T.free 18) (da_cons (de_fn (ok_law_take T) hr rfl (takes_of rfl rfl rfl rfl) (da_cons (dv 0) (da_cons de_int da_nil))) da_nil)) (blkOk_by (own := [("_law_turn", 1)]) (by kernel_rfl)) (fun _ _ _ _ _ => (dg_name 1 sc_law_word.nd rfl (by first | exact Or.inl rfl | exact Or.inr rfl))) (fun _ _ _ _ _ => dts_nil) (fun _ _ _ _ _ => (de_ix (de_lst (da_cons de_str (da_cons de_str (da_cons de_str (da_cons de_str (da_cons de_str (da_cons de_str (da_cons de_str (da_cons de_str da_nil))))))))) (de_fn (ok_law_take T) hr rfl takes0 (da_cons (dv 0) (da_cons (de_ix (de_lst (da_cons de_int (da_cons de_int da_nil))) (de_bin op_oFDiv (dv 1) de_int)) da_nil))))) (by decide)))))
def B_law_text : MS := (sSeq (sAsg (dBin oIx (dLst (aCons (dC (.str "")) (aCons (dBin oMul (dC (.str "x")) (dC (.int 39))) (aCons (dBin oMul (dC (.str "~")) (dC (.int 40))) (aCons (dBin oMul (dC (.str "x")) (dC (.int 41))) aNil))))) (dCall 2 F_law_take [] (aCons (dVar 0) (aCons (dC (.int 4)) aNil)))) (gN 1))
    (sRet (dBin oIx (dLst (aCons (dVar 1) (aCons (dBin oAdd (dC (.str " ")) (dSl (dVar 1) oNoPart (oPart (dC (.int 9))))) (aCons (dC (.str "a\"\\")) (aCons (dC (.str "a\tb")) (aCons (dC (.str "a\nb")) (aCons (dSl (dVar 1) oNoPart (oPart (dC (.int 3)))) aNil))))))) (dCall 2 F_law_take [] (aCons (dVar 0) (aCons (dC (.int 6)) aNil))))))
def F_law_text : FD := fnD 2 B_law_text
theorem sc_law_text : FnScope ["_law_pool_here", "_law_long"] ["_law_pool_here"] (defScope s_law_text) := ⟨rfl, rfl, rfl, by decide +kernel, rfl, by decide +kernel, by decide +kernel⟩
theorem ok_law_text (T : T0 K mg) : Fn P w K mg base 2 "_law_text" 1 F_law_text := by
  obtain ⟨fd, F⟩ := T.c.def_ 8 (d := d_law_text) rfl
  refine ⟨⟨fd, ["_law_pool_here"], fn_data F sc_law_text fun cdv A outer s H E hr => ?_, F.bindsN fun _ _ _ _ _ _ us hl => match us, hl with | [_], _ => rfl⟩, T.glo 20, F.kp⟩
  exact (dss_cons (ds_set 1 sc_law_text.nd rfl (by first | exact Or.inl rfl | exact Or.inr rfl) (de_ix (de_lst (da_cons de_str (da_cons (de_bin op_oMul de_str de_int) (da_cons (de_bin op_oMul de_str de_int) (da_cons (de_bin op_oMul de_str de_int) da_nil))))) (de_fn (ok_law_take T) hr rfl (takes_of rfl rfl rfl rfl) (da_cons (dv 0) (da_cons de_int da_nil)))))
    (dss_one (ds_ret (de_ix (de_lst (da_cons (dv 1) (da_cons (de_bin op_oAdd de_str (de_sl (dv 1) dpo_none (dpo_some de_int))) (da_cons de_str (da_cons de_str (da_cons de_str (da_cons (de_sl (dv 1) dpo_none (dpo_some de_int)) da_nil))))))) (de_fn (ok_law_take T) hr rfl (takes_of rfl rfl rfl rfl) (da_cons (dv 0) (da_cons de_int da_nil)))))))
def B_law_is_stamp : MS := (sSeq (sIf (dOrT (dNotT (dTest (dBlt oIsi (aCons (dVar 0) (aCons (dC (.ty "tuple")) aNil))))) (dOrT (dTest (dBin oNe (dBlt oLen (aCons (dVar 0) aNil)) (dC (.int 2)))) (dNotT (dTest (dCall 1 F_law_is_word [] (aCons (dBin oIx (dVar 0) (dC (.int 1))) aNil))))))
    (sRet (dC (.bl false)))
    sNil)
    (sRet (dAnd (dBlt oIsi (aCons (dBin oIx (dVar 0) (dC (.int 0))) (aCons (dC (.ty "int")) aNil))) (dAnd (dNot (dBlt oIsi (aCons (dBin oIx (dVar 0) (dC (.int 0))) (aCons (dC (.ty "bool")) aNil)))) (dChain oLt oLt (dC (.int 0)) (dBin oIx (dVar 0) (dC (.int 0))) (dBin oAdd (dBin oPow (dC (.int 10)) (dC (.int 15))) (dC (.int 1))))))))
def F_law_is_stamp : FD := fnD 1 B_law_is_stamp
theorem sc_law_is_stamp : FnScope ["_law_thing"] ["_law_thing"] (defScope s_law_is_stamp) := ⟨rfl, rfl, rfl, by decide +kernel, rfl, by decide +kernel, by decide +kernel⟩
theorem ok_law_is_stamp (T : T0 K mg) : Fn P w K mg base 2 "_law_is_stamp" 1 F_law_is_stamp := by
  obtain ⟨fd, F⟩ := T.c.def_ 11 (d := d_law_is_stamp) rfl
  refine ⟨⟨fd, ["_law_thing"], fn_data F sc_law_is_stamp fun cdv A outer s H E hr => ?_, F.bindsN fun _ _ _ _ _ _ us hl => match us, hl with | [_], _ => rfl⟩, T.glo 21, F.kp⟩
  exact (dss_cons (ds_if (DW.dt (dw_or (dt_not (dt_val (de_bf c_oIsi rfl (T.free 4) (by decide +kernel) (da_cons (dv 0) (da_cons (de_ty (n := "tuple") rfl (T.free 16) (by decide +kernel)) da_nil))))) (dw_or (dt_rel (op_oNe hr.units) (de_bf c_oLen rfl (T.free 2) (by decide +kernel) (da_cons (dv 0) da_nil)) de_int) (dw_or1 (dt_not (dt_val (de_fn (ok_law_is_word T) hr rfl (takes_of rfl rfl rfl rfl) (da_cons (de_ix (dv 0) de_int) da_nil))))))))
    (dss_one (ds_ret de_bl))
    dss_nil)
    (dss_one (ds_ret (de_and (de_bf c_oIsi rfl (T.free 4) (by decide +kernel) (da_cons (de_ix (dv 0) de_int) (da_cons (de_ty (n := "int") rfl (T.free 10) (by decide +kernel)) da_nil))) (de_and (de_not (de_bf c_oIsi rfl (T.free 4) (by decide +kernel) (da_cons (de_ix (dv 0) de_int) (da_cons (de_ty (n := "bool") rfl (T.free 9) (by decide +kernel)) da_nil)))) (de_one (de_chain op_oLt op_oLt de_int (de_ix (dv 0) de_int) (de_bin op_oAdd (de_bin op_oPow de_int de_int) de_int))))))))
def B_is_entry : MS := (sSeq (sIf (dOrT (dNotT (dTest (dBlt oIsi (aCons (dVar 0) (aCons (dC (.ty "tuple")) aNil))))) (dOrT (dTest (dBin oNe (dBlt oLen (aCons (dVar 0) aNil)) (dC (.int 3)))) (dOrT (dNotT (dTest (dCall 1 F_is_word [] (aCons (dBin oIx (dVar 0) (dC (.int 0))) aNil)))) (dNotT (dTest (dCall 1 F_is_stamp [] (aCons (dBin oIx (dVar 0) (dC (.int 1))) aNil)))))))
    (sRet (dC (.bl false)))
    sNil)
    (sRet (dOr (dBin oIs (dBin oIx (dVar 0) (dC (.int 2))) (dC .non)) (dCall 1 F_is_value [] (aCons (dBin oIx (dVar 0) (dC (.int 2))) aNil)))))
def F_is_entry : FD := fnD 1 B_is_entry
theorem sc_is_entry : FnScope ["thing"] ["thing"] (defScope s_is_entry) := ⟨rfl, rfl, rfl, by decide +kernel, rfl, by decide +kernel, by decide +kernel⟩
theorem ok_is_entry (T : T0 K mg) : Fn P w K mg base 3 "is_entry" 1 F_is_entry := by
  obtain ⟨fd, F⟩ := T.c.def_ 4 (d := d_is_entry) rfl
  refine ⟨⟨fd, ["thing"], fn_data F sc_is_entry fun cdv A outer s H E hr => ?_, F.bindsN fun _ _ _ _ _ _ us hl => match us, hl with | [_], _ => rfl⟩, T.glo 22, F.kp⟩
  exact (dss_cons (ds_if (DW.dt (dw_or (dt_not (dt_val (de_bf c_oIsi rfl (T.free 4) (by decide +kernel) (da_cons (dv 0) (da_cons (de_ty (n := "tuple") rfl (T.free 16) (by decide +kernel)) da_nil))))) (dw_or (dt_rel (op_oNe hr.units) (de_bf c_oLen rfl (T.free 2) (by decide +kernel) (da_cons (dv 0) da_nil)) de_int) (dw_or (dt_not (dt_val (de_fn (ok_is_word T) hr rfl (takes_of rfl rfl rfl rfl) (da_cons (de_ix (dv 0) de_int) da_nil)))) (dw_or1 (dt_not (dt_val (de_fn (ok_is_stamp T) hr rfl (takes_of rfl rfl rfl rfl) (da_cons (de_ix (dv 0) de_int) da_nil)))))))))
    (dss_one (ds_ret de_bl))
    dss_nil)
    (dss_one (ds_ret (de_or (de_rel op_oIs (de_ix (dv 0) de_int) de_non) (de_one (de_fn (ok_is_value T) hr rfl (takes_of rfl rfl rfl rfl) (da_cons (de_ix (dv 0) de_int) da_nil)))))))
def B_law_is_entry : MS := (sSeq (sIf (dOrT (dNotT (dTest (dBlt oIsi (aCons (dVar 0) (aCons (dC (.ty "tuple")) aNil))))) (dOrT (dTest (dBin oNe (dBlt oLen (aCons (dVar 0) aNil)) (dC (.int 3)))) (dOrT (dNotT (dTest (dCall 1 F_law_is_word [] (aCons (dBin oIx (dVar 0) (dC (.int 0))) aNil)))) (dNotT (dTest (dCall 1 F_law_is_stamp [] (aCons (dBin oIx (dVar 0) (dC (.int 1))) aNil)))))))
    (sRet (dC (.bl false)))
    sNil)
    (sRet (dOr (dBin oIs (dBin oIx (dVar 0) (dC (.int 2))) (dC .non)) (dCall 1 F_law_is_value [] (aCons (dBin oIx (dVar 0) (dC (.int 2))) aNil)))))
def F_law_is_entry : FD := fnD 1 B_law_is_entry
theorem sc_law_is_entry : FnScope ["_law_thing"] ["_law_thing"] (defScope s_law_is_entry) := ⟨rfl, rfl, rfl, by decide +kernel, rfl, by decide +kernel, by decide +kernel⟩
theorem ok_law_is_entry (T : T0 K mg) : Fn P w K mg base 3 "_law_is_entry" 1 F_law_is_entry := by
  obtain ⟨fd, F⟩ := T.c.def_ 12 (d := d_law_is_entry) rfl
  refine ⟨⟨fd, ["_law_thing"], fn_data F sc_law_is_entry fun cdv A outer s H E hr => ?_, F.bindsN fun _ _ _ _ _ _ us hl => match us, hl with | [_], _ => rfl⟩, T.glo 23, F.kp⟩
  exact (dss_cons (ds_if (DW.dt (dw_or (dt_not (dt_val (de_bf c_oIsi rfl (T.free 4) (by decide +kernel) (da_cons (dv 0) (da_cons (de_ty (n := "tuple") rfl (T.free 16) (by decide +kernel)) da_nil))))) (dw_or (dt_rel (op_oNe hr.units) (de_bf c_oLen rfl (T.free 2) (by decide +kernel) (da_cons (dv 0) da_nil)) de_int) (dw_or (dt_not (dt_val (de_fn (ok_law_is_word T) hr rfl (takes_of rfl rfl rfl rfl) (da_cons (de_ix (dv 0) de_int) da_nil)))) (dw_or1 (dt_not (dt_val (de_fn (ok_law_is_stamp T) hr rfl (takes_of rfl rfl rfl rfl) (da_cons (de_ix (dv 0) de_int) da_nil)))))))))
    (dss_one (ds_ret de_bl))
    dss_nil)
    (dss_one (ds_ret (de_or (de_rel op_oIs (de_ix (dv 0) de_int) de_non) (de_one (de_fn (ok_law_is_value T) hr rfl (takes_of rfl rfl rfl rfl) (da_cons (de_ix (dv 0) de_int) da_nil)))))))
def B_law_right : MS := (sSeq (sIf (dOrT (dTest (dBin oNe (dBlt oReprB (aCons (dCall 1 F_is_word [] (aCons (dVar 0) aNil)) aNil)) (dBlt oReprB (aCons (dCall 1 F_law_is_word [] (aCons (dVar 0) aNil)) aNil)))) (dTest (dBin oNe (dBlt oReprB (aCons (dCall 1 F_is_value [] (aCons (dVar 0) aNil)) aNil)) (dBlt oReprB (aCons (dCall 1 F_law_is_value [] (aCons (dVar 0) aNil)) aNil)))))
    (sRet (dC (.bl false)))
    sNil)
    (sRet (dAnd (dBin oEq (dBlt oReprB (aCons (dCall 1 F_is_stamp [] (aCons (dVar 0) aNil)) aNil)) (dBlt oReprB (aCons (dCall 1 F_law_is_stamp [] (aCons (dVar 0) aNil)) aNil))) (dBin oEq (dBlt oReprB (aCons (dCall 1 F_is_entry [] (aCons (dVar 0) aNil)) aNil)) (dBlt oReprB (aCons (dCall 1 F_law_is_entry [] (aCons (dVar 0) aNil)) aNil))))))
def F_law_right : FD := fnD 1 B_law_right
theorem sc_law_right : FnScope ["_law_thing"] ["_law_thing"] (defScope s_law_right) := ⟨rfl, rfl, rfl, by decide +kernel, rfl, by decide +kernel, by decide +kernel⟩
theorem ok_law_right (T : T0 K mg) : Fn P w K mg base 4 "_law_right" 1 F_law_right := by
  obtain ⟨fd, F⟩ := T.c.def_ 13 (d := d_law_right) rfl
  refine ⟨⟨fd, ["_law_thing"], fn_data F sc_law_right fun cdv A outer s H E hr => ?_, F.bindsN fun _ _ _ _ _ _ us hl => match us, hl with | [_], _ => rfl⟩, T.glo 25, F.kp⟩
  exact (dss_cons (ds_if (DW.dt (dw_or (dt_rel (op_oNe hr.units) (de_bf c_oReprB rfl (T.free 24) (by decide +kernel) (da_cons (de_fn (ok_is_word T) hr rfl (takes_of rfl rfl rfl rfl) (da_cons (dv 0) da_nil)) da_nil)) (de_bf c_oReprB rfl (T.free 24) (by decide +kernel) (da_cons (de_fn (ok_law_is_word T) hr rfl (takes_of rfl rfl rfl rfl) (da_cons (dv 0) da_nil)) da_nil))) (dw_or1 (dt_rel (op_oNe hr.units) (de_bf c_oReprB rfl (T.free 24) (by decide +kernel) (da_cons (de_fn (ok_is_value T) hr rfl (takes_of rfl rfl rfl rfl) (da_cons (dv 0) da_nil)) da_nil)) (de_bf c_oReprB rfl (T.free 24) (by decide +kernel) (da_cons (de_fn (ok_law_is_value T) hr rfl (takes_of rfl rfl rfl rfl) (da_cons (dv 0) da_nil)) da_nil))))))
    (dss_one (ds_ret de_bl))
    dss_nil)
    (dss_one (ds_ret (de_and (de_rel (op_oEq hr.units) (de_bf c_oReprB rfl (T.free 24) (by decide +kernel) (da_cons (de_fn (ok_is_stamp T) hr rfl (takes_of rfl rfl rfl rfl) (da_cons (dv 0) da_nil)) da_nil)) (de_bf c_oReprB rfl (T.free 24) (by decide +kernel) (da_cons (de_fn (ok_law_is_stamp T) hr rfl (takes_of rfl rfl rfl rfl) (da_cons (dv 0) da_nil)) da_nil))) (de_one (de_rel (op_oEq hr.units) (de_bf c_oReprB rfl (T.free 24) (by decide +kernel) (da_cons (de_fn (ok_is_entry T) hr rfl (takes_of rfl rfl rfl rfl) (da_cons (dv 0) da_nil)) da_nil)) (de_bf c_oReprB rfl (T.free 24) (by decide +kernel) (da_cons (de_fn (ok_law_is_entry T) hr rfl (takes_of rfl rfl rfl rfl) (da_cons (dv 0) da_nil)) da_nil))))))))
def L_law_1 : MS := (sIf (dNotT (dTest (dCall 1 F_law_right [] (aCons (dVar 7) aNil))))
    (sRet (dC (.bl false)))
    sNil)
def L_law_2 : MS := (sSeq (sAsg (dBin oIx (dLst (aCons (dCall 2 F_law_take [] (aCons (dVar 2) (aCons (dC (.int 9)) aNil))) (aCons (dBin oAdd (dBin oSub (dBin oPow (dC (.int 10)) (dC (.int 15))) (dC (.int 1))) (dCall 2 F_law_take [] (aCons (dVar 2) (aCons (dC (.int 3)) aNil)))) (aCons (dC (.bl true)) (aCons (dC (.str "1")) (aCons (dNeg (dC (.int 1))) aNil)))))) (dCall 2 F_law_take [] (aCons (dVar 2) (aCons (dC (.int 5)) aNil)))) (gN 4))
    (sSeq (sAsg (dTup (aCons (dVar 4) (aCons (dCall 1 F_law_word [] (aCons (dVar 2) aNil)) aNil))) (gN 5))
    (sSeq (sAsg (dTup (aCons (dCall 1 F_law_word [] (aCons (dVar 2) aNil)) (aCons (dVar 5) (aCons (dBin oIx (dLst (aCons (dC .non) (aCons (dCall 1 F_law_text [] (aCons (dVar 2) aNil)) (aCons (dC (.int 5)) aNil)))) (dCall 2 F_law_take [] (aCons (dVar 2) (aCons (dC (.int 3)) aNil)))) aNil)))) (gN 6))
    (sFor (iOf (dLst (aCons (dCall 1 F_law_word [] (aCons (dVar 2) aNil)) (aCons (dCall 1 F_law_text [] (aCons (dVar 2) aNil)) (aCons (dVar 5) (aCons (dVar 6) (aCons (dBlt oList (aCons (dVar 6) aNil)) (aCons (dSl (dVar 6) oNoPart (oPart (dC (.int 2)))) (aCons (dTup (aCons (dC (.int 1)) (aCons (dC (.str "ann")) aNil))) aNil))))))))) (gN 7) L_law_1))))
def L_law_3 : MS := (sSeq (sAsg (dCall 2 F_law_pool [] (aCons (dVar 0) (aCons (dVar 1) aNil))) (gN 2))
    (sFor (iR1 (aCons (dC (.int 8)) aNil)) (gN 3) L_law_2))
def B_law : MS := (sSeq (sFor (iR1 (aCons (dBlt oMax (aCons (dC (.int 1)) (aCons (dBlt oMin (aCons (dBlt oLen (aCons (dVar 0) aNil)) (aCons (dC (.int 8)) aNil))) aNil))) aNil)) (gN 1) L_law_3)
    (sSeq (sAsg (dLst (aCons (dC .non) (aCons (dC (.bl true)) (aCons (dC (.int 0)) (aCons (dC (.int 5)) (aCons (dC (.str "")) (aCons (dC (.str "ann")) (aCons (dTup aNil) (aCons (dLst aNil) (aCons dDictE (aCons (dTup (aCons (dC (.str "k")) aNil)) (aCons (dTup (aCons (dC (.str "k")) (aCons (dTup (aCons (dC (.int 1)) (aCons (dC (.str "ann")) aNil))) (aCons (dC .non) aNil)))) (aCons (dTup (aCons (dC (.str "k")) (aCons (dTup (aCons (dC (.int 1)) (aCons (dC (.str "ann")) aNil))) (aCons (dC (.str "x")) aNil)))) (aCons (dTup (aCons (dC (.int 1)) (aCons (dC (.str "ann")) aNil))) aNil)))))))))))))) (gN 8))
    (sSeq (sAsg (dBin oAdd (dVar 8) (dLst (aCons (dTup (aCons (dC (.int 1)) (aCons (dC (.str "ann")) (aCons (dC (.int 2)) aNil)))) (aCons (dTup (aCons (dC (.str "k")) (aCons (dTup (aCons (dC (.int 1)) (aCons (dC (.str "ann")) aNil))) (aCons (dC .non) (aCons (dC (.int 0)) aNil))))) (aCons (dTup (aCons (dC (.str "k")) (aCons (dLst (aCons (dC (.int 1)) (aCons (dC (.str "ann")) aNil))) (aCons (dC .non) aNil)))) (aCons (dLst (aCons (dC (.str "k")) (aCons (dTup (aCons (dC (.int 1)) (aCons (dC (.str "ann")) aNil))) (aCons (dC .non) aNil)))) (aCons (dTup (aCons (dC (.str "k")) (aCons (dC .non) (aCons (dC (.str "x")) aNil)))) aNil))))))) (gN 8))
    (sSeq (sAsg (dBin oAdd (dVar 8) (dLst (aCons (dTup (aCons (dC (.str "K")) (aCons (dTup (aCons (dC (.int 1)) (aCons (dC (.str "ann")) aNil))) (aCons (dC (.str "x")) aNil)))) (aCons (dTup (aCons (dC (.str "k")) (aCons (dTup (aCons (dC (.int 1)) (aCons (dC (.str "Ann")) aNil))) (aCons (dC (.str "x")) aNil)))) (aCons (dTup (aCons (dC (.str "k")) (aCons (dTup (aCons (dC (.int 0)) (aCons (dC (.str "ann")) aNil))) (aCons (dC (.str "x")) aNil)))) (aCons (dTup (aCons (dC (.str "k")) (aCons (dTup (aCons (dC (.bl true)) (aCons (dC (.str "ann")) aNil))) (aCons (dC (.str "x")) aNil)))) (aCons (dTup (aCons (dC (.int 1)) (aCons (dC .non) aNil))) aNil))))))) (gN 8))
    (sRet (dBin oEq (dLC [7] (iOf (dVar 8)) (gN 7) (dNotT (dTest (dCall 1 F_law_right [] (aCons (dVar 7) aNil)))) (dVar 7)) (dLst aNil)))))))
def F_law : FD := fnD 9 B_law
theorem sc_law : FnScope ["_law_script", "_law_k", "_law_pool_here", "_law_turn", "_law_number", "_law_stamp", "_law_entry", "_law_thing", "_law_some"] ["_law_script"] (defScope s_law) := ⟨rfl, rfl, rfl, by decide +kernel, rfl, by decide +kernel, by decide +kernel⟩
theorem ok_law_at (T : T0 K mg) {fd : FuncData} (F : FunD K "law" "law" d_law.params d_law.body d_law.scope (d_law.dvs K) (d_law.kws K) (He.fAd K d_law.at_) fd) : FnOk P w K mg base (L2.CX P w) 5 (He.ga K "law") fd ["_law_script"] (spD K 1 F_law) :=
  fn_data F sc_law fun cdv A outer s H E hr => (dss_cons (ds_for (passes_of rfl) rfl (di_range1 rfl (T.free 18) (da_cons (de_bf (c_oMax rfl) rfl (T.free 27) (by decide +kernel) (da_cons de_int (da_cons (de_bf (c_oMin rfl) rfl (T.free 26) (by decide +kernel) (da_cons (de_bf c_oLen rfl (T.free 2) (by decide +kernel) (da_cons (dv 0) da_nil)) (da_cons de_int da_nil))) da_nil))) da_nil)) (dg_name 1 sc_law.nd rfl (by first | exact Or.inl rfl | exact Or.inr rfl))
    (dss_cons (ds_set 2 sc_law.nd rfl (by first | exact Or.inl rfl | exact Or.inr rfl) (de_fn (ok_law_pool T) hr rfl (takes_of rfl rfl rfl rfl) (da_cons (dv 0) (da_cons (dv 1) da_nil))))
    (dss_one (ds_for (passes_of rfl) rfl (di_range1 rfl (T.free 18) (da_cons de_int da_nil)) (dg_name 3 sc_law.nd rfl (by first | exact Or.inl rfl | exact Or.inr rfl))
    (dss_cons (ds_set 4 sc_law.nd rfl (by first | exact Or.inl rfl | exact Or.inr rfl) (de_ix (de_lst (da_cons (de_fn (ok_law_take T) hr rfl (takes_of rfl rfl rfl rfl) (da_cons (dv 2) (da_cons de_int da_nil))) (da_cons (de_bin op_oAdd (de_bin op_oSub (de_bin op_oPow de_int de_int) de_int) (de_fn (ok_law_take T) hr rfl (takes_of rfl rfl rfl rfl) (da_cons (dv 2) (da_cons de_int da_nil)))) (da_cons de_bl (da_cons de_str (da_cons (de_neg de_int) da_nil)))))) (de_fn (ok_law_take T) hr rfl (takes_of rfl rfl rfl rfl) (da_cons (dv 2) (da_cons de_int da_nil)))))
    (dss_cons (ds_set 5 sc_law.nd rfl (by first | exact Or.inl rfl | exact Or.inr rfl) (de_tup (da_cons (dv 4) (da_cons (de_fn (ok_law_word T) hr rfl (takes_of rfl rfl rfl rfl) (da_cons (dv 2) da_nil)) da_nil))))
    (dss_cons (ds_set 6 sc_law.nd rfl (by first | exact Or.inl rfl | exact Or.inr rfl) (de_tup (da_cons (de_fn (ok_law_word T) hr rfl (takes_of rfl rfl rfl rfl) (da_cons (dv 2) da_nil)) (da_cons (dv 5) (da_cons (de_ix (de_lst (da_cons de_non (da_cons (de_fn (ok_law_text T) hr rfl (takes_of rfl rfl rfl rfl) (da_cons (dv 2) da_nil)) (da_cons de_int da_nil)))) (de_fn (ok_law_take T) hr rfl (takes_of rfl rfl rfl rfl) (da_cons (dv 2) (da_cons de_int da_nil)))) da_nil)))))
    (dss_one (ds_for (passes_of rfl) rfl (di_any (de_lst (da_cons (de_fn (ok_law_word T) hr rfl (takes_of rfl rfl rfl rfl) (da_cons (dv 2) da_nil)) (da_cons (de_fn (ok_law_text T) hr rfl (takes_of rfl rfl rfl rfl) (da_cons (dv 2) da_nil)) (da_cons (dv 5) (da_cons (dv 6) (da_cons (de_bt c_oList rfl (T.free 28) (by decide +kernel) (da_cons (dv 6) da_nil)) (da_cons (de_sl (dv 6) dpo_none (dpo_some de_int)) (da_cons (de_tup (da_cons de_int (da_cons de_str da_nil))) da_nil))))))))) (dg_name 7 sc_law.nd rfl (by first | exact Or.inl rfl | exact Or.inr rfl))
    (dss_one (ds_if (dt_not (dt_val (de_fn (ok_law_right T) hr rfl (takes_of rfl rfl rfl rfl) (da_cons (dv 7) da_nil))))
    (dss_one (ds_ret de_bl))
    dss_nil)))))))))))
    (dss_cons (ds_set 8 sc_law.nd rfl (by first | exact Or.inl rfl | exact Or.inr rfl) (de_lst (da_cons de_non (da_cons de_bl (da_cons de_int (da_cons de_int (da_cons de_str (da_cons de_str (da_cons (de_tup da_nil) (da_cons (de_lst da_nil) (da_cons de_dict0 (da_cons (de_tup (da_cons de_str da_nil)) (da_cons (de_tup (da_cons de_str (da_cons (de_tup (da_cons de_int (da_cons de_str da_nil))) (da_cons de_non da_nil)))) (da_cons (de_tup (da_cons de_str (da_cons (de_tup (da_cons de_int (da_cons de_str da_nil))) (da_cons de_str da_nil)))) (da_cons (de_tup (da_cons de_int (da_cons de_str da_nil))) da_nil)))))))))))))))
    (dss_cons (ds_set 8 sc_law.nd rfl (by first | exact Or.inl rfl | exact Or.inr rfl) (de_bin op_oAdd (dv 8) (de_lst (da_cons (de_tup (da_cons de_int (da_cons de_str (da_cons de_int da_nil)))) (da_cons (de_tup (da_cons de_str (da_cons (de_tup (da_cons de_int (da_cons de_str da_nil))) (da_cons de_non (da_cons de_int da_nil))))) (da_cons (de_tup (da_cons de_str (da_cons (de_lst (da_cons de_int (da_cons de_str da_nil))) (da_cons de_non da_nil)))) (da_cons (de_lst (da_cons de_str (da_cons (de_tup (da_cons de_int (da_cons de_str da_nil))) (da_cons de_non da_nil)))) (da_cons (de_tup (da_cons de_str (da_cons de_non (da_cons de_str da_nil)))) da_nil))))))))
    (dss_cons (ds_set 8 sc_law.nd rfl (by first | exact Or.inl rfl | exact Or.inr rfl) (de_bin op_oAdd (dv 8) (de_lst (da_cons (de_tup (da_cons de_str (da_cons (de_tup (da_cons de_int (da_cons de_str da_nil))) (da_cons de_str da_nil)))) (da_cons (de_tup (da_cons de_str (da_cons (de_tup (da_cons de_int (da_cons de_str da_nil))) (da_cons de_str da_nil)))) (da_cons (de_tup (da_cons de_str (da_cons (de_tup (da_cons de_int (da_cons de_str da_nil))) (da_cons de_str da_nil)))) (da_cons (de_tup (da_cons de_str (da_cons (de_tup (da_cons de_bl (da_cons de_str da_nil))) (da_cons de_str da_nil)))) (da_cons (de_tup (da_cons de_int (da_cons de_non da_nil))) da_nil))))))))
    (dss_one (ds_ret (de_rel (op_oEq hr.units) (de_lc rfl sc_law.nd (di_any (dv 8)) (blkOk_by (own := [("_law_thing", 7)]) (by kernel_rfl)) (fun _ _ _ _ _ => (dg_name 7 sc_law.nd rfl (by first | exact Or.inl rfl | exact Or.inr rfl))) (fun _ _ _ _ _ => (dts_one (dt_not (dt_val (de_fn (ok_law_right T) hr rfl takes0 (da_cons (dv 7) da_nil)))))) (fun _ _ _ _ _ => (dv 7)) (by decide)) (de_lst da_nil))))))))
end
def loose0 : List PySem.Str := ["__name__", "LETTERS", "MOST_NUMBER", "MOST_VALUE", "is_word", "is_value", "is_number", "is_stamp", "is_entry", "_law_pool", "_law_take", "_law_word", "_law_text", "_law_is_word", "_law_is_value", "_law_is_stamp", "_law_is_entry", "_law_right"]
def loose : List PySem.Str := loose0
abbrev R : PySem.W.OpenRow := PySem.W.OpenLaw.row PySem.Challenge.rw_tombkeeper_k01_words_values_entries
abbrev hk : PySem.W.Hook := He.hookD 4 fa fn
def ob (s : PySem.W.SharedT) : He.AlD := He.obsDG 4 fa fn (HandSHeadRun.getT s)
theorem ob_eq (s : PySem.W.SharedT) : ob s = hk.obs s.abs := He.obsDG_eq (HandSHeadRun.getT_eq s)
theorem run (w : World) : HandSHeadRun.RunEq R (PySem.W.view R.prog [19]) hk ob 4000 loose w := by
  intro os
  kernel_rfl
theorem law_sp (hF : ∀ ns : List Int, ns.length ≤ 63 → ∃ S', F_law [.scr (ns.map .int)] [] = .ok (.bl true) S') (K : PySem.W.Frag) (H : Hp) (a : Addr) (ns : List Int) (hl : ns.length ≤ 63) (hS : SqL K H a (ns.map V.int)) :
    spD K 1 F_law [.ref a] H (fun v _ => v = .bl true) fun _ _ _ => False := by
  obtain ⟨S', e⟩ := hF ns hl
  refine ⟨⟨[], []⟩, [], [.scr (ns.map .int)], ⟨.nil, rfl, fun k a d h => by simp at h, fun a h => by cases h⟩, ⟨.ref a, [], rfl, ⟨a, ns.map V.int, rfl, ?_, ?_⟩, rfl⟩, rfl, ?_⟩
  · rcases hS with h | h
    · exact .inl ⟨⟨by simp, by simp⟩, h⟩
    · exact .inr (.inr h)
  · clear hS e hl
    induction ns with
    | nil => rfl
    | cons n r ih => exact ⟨.int n, r.map V.int, rfl, rfl, ih⟩
  · rw [e]
    exact fun O' H' v _ _ r => r
theorem facts {P : Program} {w : World} {K : PySem.W.Frag} {h : Heap} {mg : Str → Option Value} {f : Addr} (X : K.In h) (G : h.Ns mainGlobals mg) (hfa : mg ("law" : Str) = some (.ref f)) (c : He.SaysD fa fn K) :
    ∃ fd : FuncData, (∀ (s : Shared) (v : Value), BindsTo s fd ⟨[v], []⟩ [("_law_script", v)]) ∧ ∀ base : Heap, K.In base → base.Ns mainGlobals mg → FnOk P w K mg base CXA 5 f fd ["_law_script"] (spD K 1 F_law) := by
  have T : T0 K mg := ⟨c, h, X, G⟩
  obtain ⟨fd, F⟩ := c.def_ 14 (d := d_law) rfl
  have e := hfa.symm.trans (T.glo 29)
  cases e
  have b := FunD.bindsA (ps := ["_law_script"]) F fun _ _ _ _ _ _ us hl => match us, hl with | [_], _ => rfl
  exact ⟨fd, fun s v => b s [v] rfl, fun base _ _ => fn_any (ok_law_at T F)⟩
end G
open PySem PySem.W PySem.Calls PyProof.Rows
theorem G.cw (hF : ∀ ns : List Int, ns.length ≤ 63 → ∃ S', G.F_law [.scr (ns.map .int)] [] = .ok (.bl true) S') : PySem.Challenge.rw_tombkeeper_k01_words_values_entries.Holds := by
  w_on; o_law
  refine HandSHeadRun.head_any (r := OpenLaw.row PySem.Challenge.rw_tombkeeper_k01_words_values_entries) (q := view (OpenLaw.row PySem.Challenge.rw_tombkeeper_k01_words_values_entries).prog [19]) (H := G.hk) (ob := G.ob) (M := 4000) (loose := G.loose) (d := HandSHeadRun.topDef (OpenLaw.row PySem.Challenge.rw_tombkeeper_k01_words_values_entries).prog 19) (kwd := []) G.ob_eq
    (by kernel_rfl) (fun s => by kernel_rfl) G.run (by kernel_rfl) (by kernel_rfl) (by kernel_rfl) (by rfl) (by first | assumption | decide +kernel) (by decide +kernel) ⟨rfl, rfl, rfl, rfl, rfl, by decide +kernel⟩ ?hw ?hc
  case hw => w_witness2
  case hc =>
    refine L2.walk_ofE (l := PySem.Challenge.rw_tombkeeper_k01_words_values_entries) (n := 63) (k := 5) (x := "_law_script") (CX := DE.CXA) rfl (by decide) (by kernel_rfl) ⟨rfl, by decide, by decide⟩ ?F (fun _ _ _ _ z => DE.CXA.no z)
    case F =>
      intro w mg fa h Y Gn hmg0
      obtain ⟨K, KX, c⟩ := Y
      have hmg : mg ("law" : PySem.Str) = some (.ref fa) := by
        have e : (HandSHeadRun.topDef (OpenLaw.row PySem.Challenge.rw_tombkeeper_k01_words_values_entries).prog 19).name = ("law" : PySem.Str) := by kernel_rfl
        rw [← e]
        exact hmg0
      obtain ⟨fd, hb, hF'⟩ := G.facts (P := (PySem.Challenge.rw_tombkeeper_k01_words_values_entries).prog) (w := w) KX Gn hmg c
      exact ⟨K, fd, DE.spD K 1 G.F_law, KX, hb, fun H a ns hl _ hS => G.law_sp hF K H a ns hl hS, hF'⟩

set_option maxHeartbeats 4000000
namespace G
open PySem L2 DE
def low (c : Nat) : Bool := decide (97 ≤ c) && decide (c ≤ 122)
def prn (c : Nat) : Bool := decide (32 ≤ c) && decide (c ≤ 126)
def wS (s : Str) : Bool := decide (1 ≤ s.length) && (decide (s.length ≤ 8) && s.cps.toList.all low)
def vS (s : Str) : Bool := decide (s.length ≤ 40) && s.cps.toList.all prn
def GoodS (s : Str) : Prop := s.length ≤ 1000 ∧ ∀ c ∈ s.cps.toList, c < 128
theorem letters : (Str.ofString "abcdefghijklmnopqrstuvwxyz").cps.toList = [97, 98, 99, 100, 101, 102, 103, 104, 105, 106, 107, 108, 109, 110, 111, 112, 113, 114, 115, 116, 117, 118, 119, 120, 121, 122] := by decide +kernel
theorem in_letters (c : Nat) : inS ⟨#[c]⟩ (Str.ofString "abcdefghijklmnopqrstuvwxyz") = low c := by
  unfold inS
  rw [if_pos (show (⟨#[c]⟩ : Str).cps.size = 1 from rfl), letters]
  show decide (c ∈ _) = low c
  unfold low
  rw [Bool.eq_iff_iff]
  simp
  omega
theorem strLt_l {c k : Nat} {z : Str} (hz : z.cps.toList = [k]) : strLt ⟨#[c]⟩ z = decide (c < k) := by
  unfold strLt
  rw [hz]
  simp [List.cons_lt_cons_iff]
theorem strLt_r {c k : Nat} {z : Str} (hz : z.cps.toList = [k]) : strLt z ⟨#[c]⟩ = decide (k < c) := by
  unfold strLt
  rw [hz]
  simp [List.cons_lt_cons_iff]
theorem q_a : (Str.ofString "a").cps.toList = [97] := by decide +kernel
theorem q_z : (Str.ofString "z").cps.toList = [122] := by decide +kernel
theorem q_sp : (Str.ofString " ").cps.toList = [32] := by decide +kernel
theorem q_ti : (Str.ofString "~").cps.toList = [126] := by decide +kernel
theorem le_low (c : Nat) : (if c < 97 then false else !decide (122 < c)) = low c := by
  unfold low
  rw [Bool.eq_iff_iff]
  simp
theorem blsOf_map {α : Type} (p : α → Bool) : ∀ l : List α, blsOf (l.map fun x => D.bl (p x)) = some (l.map p)
  | [] => rfl
  | x :: l => by simp [blsOf, blsOf_map p l]
theorem dSigns_len (s : Str) : (dSigns s).length = s.length := by simp [dSigns]; rfl
/-! a comprehension over the dSigns of a text -/
theorem lc_signs {ρ : DE.Env} {S : Sto} {own : List Nat} {g : MG} {t : MT} {e : ME} {s : Str} {r : Nat → DE.Env} {p : Nat → Bool} {v : Nat → D} (h : ∀ c ∈ s.cps.toList, g (.str ⟨#[c]⟩) (wipeD ρ own) = some (r c) ∧ t (r c) S = .ok (p c) S ∧ (p c = true → e (r c) S = .ok (v c) S)) :
    loopC own g t e ρ (dSigns s) S = .ok ((s.cps.toList.filter p).map v) S := by
  unfold dSigns
  generalize s.cps.toList = l at h ⊢
  induction l with
  | nil => rfl
  | cons c l ih =>
    obtain ⟨h1, h2, h3⟩ := h c List.mem_cons_self
    have ih := ih fun x hx => h x (List.mem_cons_of_mem _ hx)
    rw [List.map_cons]
    unfold loopC
    rw [h1]
    simp only [h2]
    cases q : p c with
    | true => simp only [h3 q, ih, RE.bind_ok, List.filter_cons, q, if_true, List.map_cons]
    | false => simp only [ih, List.filter_cons, q]; rfl
theorem filt_all {α : Type} (l : List α) : l.filter (fun _ => true) = l := List.filter_eq_self.mpr fun _ _ => rfl
theorem toPys_signs (l : List Nat) : toPys (l.map fun c => D.str ⟨#[c]⟩) = some (l.map fun c => PyData.str ⟨#[c]⟩) := by
  induction l with
  | nil => rfl
  | cons c l ih => simp only [List.map_cons, toPys, toPy, ih]
theorem shaped_signs (l : List Nat) (h : ∀ c ∈ l, c < 128) : SeqAt.shaped (.list (l.map fun c => PyData.str ⟨#[c]⟩)) = true := by
  unfold SeqAt.shaped
  have h1 : PyData.canLayAll0 (l.map fun c => PyData.str ⟨#[c]⟩) = true := by
    induction l with
    | nil => rfl
    | cons c l ih =>
      simp only [List.map_cons, PyData.canLayAll0, PyData.canLay0, PyData.strOk]
      have := h c List.mem_cons_self
      simp [ih fun x hx => h x (List.mem_cons_of_mem _ hx)]
      omega
  have h2 : PyData.depthAll (l.map fun c => PyData.str ⟨#[c]⟩) = 0 := by
    clear h h1
    induction l with
    | nil => rfl
    | cons c l ih => simp [PyData.depthAll, PyData.depth, ih]
  simp [PyData.canLay0, PyData.depth, h1, h2]
theorem eq_nil (l : List Nat) (S : Sto) (h : ∀ c ∈ l, c < 128) : oEq (.lst (l.map fun c => D.str ⟨#[c]⟩)) (.lst []) S = .ok (.bl l.isEmpty) S := by
  have hs := shaped_signs l h
  have hn : SeqAt.shaped (.list []) = true := by decide
  unfold oEq eqD
  simp only [toPy, toPys_signs, Option.map_some, toPys]
  simp only [hs, hn, and_self, if_true]
  cases l <;> rfl
theorem isEmpty_filt {α : Type} (p : α → Bool) (l : List α) : (l.filter fun c => !p c).isEmpty = l.all p := by
  induction l with
  | nil => rfl
  | cons c l ih => cases h : p c <;> simp [List.filter_cons, h, ih]
/-! ### words, values -/
theorem is_word_str (s : Str) (S : Sto) (h : s.length ≤ cap) : F_is_word [.str s] S = .ok (.bl (wS s)) S := by
  have hl : loopC [1] (gN 1) mYes (dBin oIn (dVar 1) (dC (D.str (Str.ofString "abcdefghijklmnopqrstuvwxyz")))) [some (D.str s), none] (dSigns s) S = .ok ((s.cps.toList.map fun c => D.bl (low c))) S := by
    rw [lc_signs (r := fun c => [some (D.str s), some (.str ⟨#[c]⟩)]) (p := fun _ => true) (v := fun c => .bl (low c)) fun c hc => ⟨by simp [wipeD], by simp, fun _ => by simp [oIn, inD, in_letters]⟩, filt_all]
  simp [F_is_word, e_fnD, B_is_word, oIsi, tyName, tyList, subT, oLen, h, oLe, itemsOf, dSigns_len, hl]
  by_cases h1 : 1 ≤ s.length
  · by_cases h8 : s.length ≤ 8
    · have e1 : (1 : Int) ≤ s.length := by omega
      have e2 : ¬ (8 : Int) < s.length := by omega
      simp [e1, e2, oAll, blsOf_map, wS, h1, h8]
    · have e1 : (1 : Int) ≤ s.length := by omega
      have e2 : (8 : Int) < s.length := by omega
      simp [e1, e2, wS, h8]
  · have e1 : ¬ (1 : Int) ≤ s.length := by omega
    simp [e1, wS, h1]
theorem law_is_word_str (s : Str) (S : Sto) (h : s.length ≤ cap) (hg : ∀ c ∈ s.cps.toList, c < 128) : F_law_is_word [.str s] S = .ok (.bl (wS s)) S := by
  have hl : loopC [1] (gN 1) (dNotT (dTest (dChain oLe oLe (dC (.str (Str.ofString "a"))) (dVar 1) (dC (.str (Str.ofString "z")))))) (dVar 1) [some (D.str s), none] (dSigns s) S = .ok ((s.cps.toList.filter fun c => !low c).map fun c => D.str ⟨#[c]⟩) S := by
    refine lc_signs (r := fun c => [some (D.str s), some (.str ⟨#[c]⟩)]) fun c hc => ⟨by simp [wipeD], ?_, fun _ => by simp⟩
    simp [oLe, strLt_l q_a, strLt_r q_z]
    rw [← le_low c]
    by_cases h : c < 97 <;> simp [h] <;> omega
  have hf := eq_nil (s.cps.toList.filter fun c => !low c) S fun c hc => hg c (List.mem_filter.mp hc).1
  simp [F_law_is_word, e_fnD, B_law_is_word, oIsi, tyName, tyList, subT, oLen, h, oLt, itemsOf, dSigns_len, hl, hf, isEmpty_filt]
  by_cases h1 : 1 ≤ s.length
  · by_cases h8 : s.length ≤ 8
    · have e1 : (0 : Int) < s.length := by omega
      have e2 : (s.length : Int) < 9 := by omega
      have e3 : 0 < s.length := by omega
      simp [e1, e2, e3, wS, h1, h8, isEmpty_filt]
    · have e1 : (0 : Int) < s.length := by omega
      have e2 : ¬ (s.length : Int) < 9 := by omega
      have e3 : 0 < s.length := by omega
      simp [e1, e2, e3, wS, h8]
  · have e1 : ¬ (0 : Int) < s.length := by omega
    have e3 : ¬ 0 < s.length := by omega
    simp [e1, e3, wS, h1]
theorem ge_prn (c : Nat) : (if c < 32 then false else !decide (126 < c)) = prn c := by
  unfold prn
  rw [Bool.eq_iff_iff]
  simp
theorem is_value_str (s : Str) (S : Sto) (h : s.length ≤ cap) : F_is_value [.str s] S = .ok (.bl (vS s)) S := by
  have hl : loopC [1] (gN 1) mYes (dChain oLe oLe (dC (.str (Str.ofString " "))) (dVar 1) (dC (.str (Str.ofString "~")))) [some (D.str s), none] (dSigns s) S = .ok ((s.cps.toList.map fun c => D.bl (prn c))) S := by
    rw [lc_signs (r := fun c => [some (D.str s), some (.str ⟨#[c]⟩)]) (p := fun _ => true) (v := fun c => .bl (prn c)) fun c hc => ⟨by simp [wipeD], by simp, fun _ => ?_⟩, filt_all]
    simp [oLe, strLt_l q_sp, strLt_r q_ti]
    rw [← ge_prn c]
    by_cases h : c < 32 <;> simp [h] <;> omega
  simp [F_is_value, e_fnD, B_is_value, oIsi, tyName, tyList, subT, oLen, h, oLe, itemsOf, dSigns_len, hl]
  by_cases h1 : s.length ≤ 40
  · have e1 : ¬ (40 : Int) < s.length := by omega
    simp [e1, oAll, blsOf_map, vS, h1]
  · have e1 : (40 : Int) < s.length := by omega
    have e2 : ¬ (s.length : Int) ≤ 40 := by omega
    simp [e1, e2, vS, h1]
theorem law_is_value_str (s : Str) (S : Sto) (h : s.length ≤ cap) (hg : ∀ c ∈ s.cps.toList, c < 128) : F_law_is_value [.str s] S = .ok (.bl (vS s)) S := by
  have hl : loopC [1] (gN 1) (dNotT (dTest (dChain oLe oLe (dC (.str (Str.ofString " "))) (dVar 1) (dC (.str (Str.ofString "~")))))) (dVar 1) [some (D.str s), none] (dSigns s) S = .ok ((s.cps.toList.filter fun c => !prn c).map fun c => D.str ⟨#[c]⟩) S := by
    refine lc_signs (r := fun c => [some (D.str s), some (.str ⟨#[c]⟩)]) fun c hc => ⟨by simp [wipeD], ?_, fun _ => by simp⟩
    simp [oLe, strLt_l q_sp, strLt_r q_ti]
    rw [← ge_prn c]
    by_cases h : c < 32 <;> simp [h] <;> omega
  have hf := eq_nil (s.cps.toList.filter fun c => !prn c) S fun c hc => hg c (List.mem_filter.mp hc).1
  simp [F_law_is_value, e_fnD, B_law_is_value, oIsi, tyName, tyList, subT, oLen, h, oLt, itemsOf, dSigns_len, hl, hf, isEmpty_filt]
  by_cases h1 : s.length ≤ 40
  · have e2 : (s.length : Int) < 41 := by omega
    simp [e2, vS, h1, isEmpty_filt]
  · have e2 : ¬ (s.length : Int) < 41 := by omega
    simp [e2, vS, h1]
/-! ### any datum -/
def wD : D → Bool
  | .str s => wS s
  | _ => false
def vD : D → Bool
  | .str s => vS s
  | _ => false
/-- the data of this law -/
inductive Good : D → Prop where
  | non : Good .non
  | bl (b : Bool) : Good (.bl b)
  | int (i : Int) : Good (.int i)
  | str (s : Str) : GoodS s → Good (.str s)
  | tup (ds : List D) : (∀ d ∈ ds, Good d) → ds.length ≤ 1000 → Good (.tup ds)
  | lst (ds : List D) : Good (.lst ds)
  | dK : Good (.dK [])
theorem is_word_eq {d : D} (S : Sto) (h : Good d) : F_is_word [d] S = .ok (.bl (wD d)) S := by
  cases h with
  | str s hs => exact is_word_str s S (Nat.le_trans hs.1 (by decide))
  | _ => simp [F_is_word, e_fnD, B_is_word, oIsi, tyName, tyList, subT, wD]
theorem law_is_word_eq {d : D} (S : Sto) (h : Good d) : F_law_is_word [d] S = .ok (.bl (wD d)) S := by
  cases h with
  | str s hs => exact law_is_word_str s S (Nat.le_trans hs.1 (by decide)) hs.2
  | _ => simp [F_law_is_word, e_fnD, B_law_is_word, oIsi, tyName, tyList, subT, wD]
theorem is_value_eq {d : D} (S : Sto) (h : Good d) : F_is_value [d] S = .ok (.bl (vD d)) S := by
  cases h with
  | str s hs => exact is_value_str s S (Nat.le_trans hs.1 (by decide))
  | _ => simp [F_is_value, e_fnD, B_is_value, oIsi, tyName, tyList, subT, vD]
theorem law_is_value_eq {d : D} (S : Sto) (h : Good d) : F_law_is_value [d] S = .ok (.bl (vD d)) S := by
  cases h with
  | str s hs => exact law_is_value_str s S (Nat.le_trans hs.1 (by decide)) hs.2
  | _ => simp [F_law_is_value, e_fnD, B_law_is_value, oIsi, tyName, tyList, subT, vD]
def nD : D → Bool
  | .int i => decide (1 ≤ i) && decide (i ≤ 1000000000000000)
  | _ => false
theorem is_number_eq {d : D} (S : Sto) (h : Good d) : F_is_number [d] S = .ok (.bl (nD d)) S := by
  cases h with
  | int i =>
    simp [F_is_number, e_fnD, B_is_number, oIsi, tyName, tyList, subT, nD, oLe]
    by_cases h1 : 1 ≤ i <;> simp [h1]
  | _ => simp [F_is_number, e_fnD, B_is_number, oIsi, tyName, tyList, subT, nD]
def sD : D → Bool
  | .tup [n, w] => nD n && wD w
  | _ => false
theorem two_cases (ds : List D) : (∃ a b, ds = [a, b]) ∨ ds.length ≠ 2 := by
  rcases ds with _ | ⟨a, _ | ⟨b, _ | ⟨c, r⟩⟩⟩ <;> simp
theorem three_cases (ds : List D) : (∃ a b c, ds = [a, b, c]) ∨ ds.length ≠ 3 := by
  rcases ds with _ | ⟨a, _ | ⟨b, _ | ⟨c, _ | ⟨d, r⟩⟩⟩⟩ <;> simp
theorem sD_no {ds : List D} (h : ds.length ≠ 2) : sD (.tup ds) = false := by
  unfold sD
  split
  · rename_i q; cases q; exact absurd rfl h
  · rfl
theorem ix0_2 (a b : D) (S : Sto) : oIx (.tup [a, b]) (.int 0) S = .ok a S := rfl
theorem ix1_2 (a b : D) (S : Sto) : oIx (.tup [a, b]) (.int 1) S = .ok b S := rfl
theorem ix0_3 (a b c : D) (S : Sto) : oIx (.tup [a, b, c]) (.int 0) S = .ok a S := rfl
theorem ix1_3 (a b c : D) (S : Sto) : oIx (.tup [a, b, c]) (.int 1) S = .ok b S := rfl
theorem ix2_3 (a b c : D) (S : Sto) : oIx (.tup [a, b, c]) (.int 2) S = .ok c S := rfl
theorem is_stamp_eq {d : D} (S : Sto) (h : Good d) : F_is_stamp [d] S = .ok (.bl (sD d)) S := by
  cases h with
  | tup ds hg hl =>
    rcases two_cases ds with ⟨a, b, rfl⟩ | hn
    · have ga := hg a (by simp)
      have gb := hg b (by simp)
      simp [F_is_stamp, e_fnD, B_is_stamp, oIsi, tyName, tyList, subT, oLen, seqOf, ix0_2, ix1_2, is_number_eq _ ga, is_word_eq _ gb, sD]
      cases nD a <;> rfl
    · have e : ¬ (ds.length : Int) = 2 := by omega
      simp [F_is_stamp, e_fnD, B_is_stamp, oIsi, tyName, tyList, subT, oLen, seqOf, e, sD_no hn]
  | _ => simp [F_is_stamp, e_fnD, B_is_stamp, oIsi, tyName, tyList, subT, sD]
theorem law_is_stamp_eq {d : D} (S : Sto) (h : Good d) : F_law_is_stamp [d] S = .ok (.bl (sD d)) S := by
  cases h with
  | tup ds hg hl =>
    rcases two_cases ds with ⟨a, b, rfl⟩ | hn
    · have ga := hg a (by simp)
      have gb := hg b (by simp)
      simp [F_law_is_stamp, e_fnD, B_law_is_stamp, oIsi, tyName, tyList, subT, oLen, seqOf, ix0_2, ix1_2, law_is_word_eq _ gb, sD]
      cases hw : wD b
      · simp
      · simp only [Bool.not_true, Bool.false_eq_true, if_false, RS.seq, Bool.and_true]
        cases ga with
        | int i =>
          simp [tyName, subT, nD]
          by_cases h1 : 0 < i
          · have h1' : 1 ≤ i := by omega
            simp [h1, h1']
            by_cases h2 : i ≤ 1000000000000000
            · have : i < 1000000000000001 := by omega
              simp [h2, this]
            · have : ¬ i < 1000000000000001 := by omega
              simp [h2, this]
          · have h1' : ¬ 1 ≤ i := by omega
            simp [h1, h1']
        | _ => simp [tyName, subT, nD]
    · have e : ¬ (ds.length : Int) = 2 := by omega
      simp [F_law_is_stamp, e_fnD, B_law_is_stamp, oIsi, tyName, tyList, subT, oLen, seqOf, e, sD_no hn]
  | _ => simp [F_law_is_stamp, e_fnD, B_law_is_stamp, oIsi, tyName, tyList, subT, sD]
def eD : D → Bool
  | .tup [k, s, v] => wD k && sD s && (isNon v || vD v)
  | _ => false
theorem eD_no {ds : List D} (h : ds.length ≠ 3) : eD (.tup ds) = false := by
  unfold eD
  split
  · rename_i q; cases q; exact absurd rfl h
  · rfl
theorem is_entry_eq {d : D} (S : Sto) (h : Good d) : F_is_entry [d] S = .ok (.bl (eD d)) S := by
  cases h with
  | tup ds hg hl =>
    rcases three_cases ds with ⟨a, b, c, rfl⟩ | hn
    · have ga := hg a (by simp)
      have gb := hg b (by simp)
      have gc := hg c (by simp)
      simp [F_is_entry, e_fnD, B_is_entry, oIsi, tyName, tyList, subT, oLen, seqOf, ix0_3, ix1_3, ix2_3, is_word_eq _ ga, is_stamp_eq _ gb, is_value_eq _ gc, eD]
      cases wD a <;> cases sD b <;> cases isNon c <;> simp
    · have e : ¬ (ds.length : Int) = 3 := by omega
      simp [F_is_entry, e_fnD, B_is_entry, oIsi, tyName, tyList, subT, oLen, seqOf, e, eD_no hn]
  | _ => simp [F_is_entry, e_fnD, B_is_entry, oIsi, tyName, tyList, subT, eD]
theorem law_is_entry_eq {d : D} (S : Sto) (h : Good d) : F_law_is_entry [d] S = .ok (.bl (eD d)) S := by
  cases h with
  | tup ds hg hl =>
    rcases three_cases ds with ⟨a, b, c, rfl⟩ | hn
    · have ga := hg a (by simp)
      have gb := hg b (by simp)
      have gc := hg c (by simp)
      simp [F_law_is_entry, e_fnD, B_law_is_entry, oIsi, tyName, tyList, subT, oLen, seqOf, ix0_3, ix1_3, ix2_3, law_is_word_eq _ ga, law_is_stamp_eq _ gb, law_is_value_eq _ gc, eD]
      cases wD a <;> cases sD b <;> cases isNon c <;> simp
    · have e : ¬ (ds.length : Int) = 3 := by omega
      simp [F_law_is_entry, e_fnD, B_law_is_entry, oIsi, tyName, tyList, subT, oLen, seqOf, e, eD_no hn]
  | _ => simp [F_law_is_entry, e_fnD, B_law_is_entry, oIsi, tyName, tyList, subT, eD]
theorem right_eq {d : D} (S : Sto) (h : Good d) : F_law_right [d] S = .ok (.bl true) S := by
  simp [F_law_right, e_fnD, B_law_right, is_word_eq _ h, law_is_word_eq _ h, is_value_eq _ h, law_is_value_eq _ h, is_stamp_eq _ h, law_is_stamp_eq _ h, is_entry_eq _ h, law_is_entry_eq _ h, oReprB, oNe_repr, oEq_repr]
end G

set_option maxHeartbeats 4000000
namespace G
open PySem L2 DE
theorem take_ok {k : Nat} {S : Sto} {m : Int} (h : PoolAt k S) (h0 : 0 < m) (h1 : m < 1073741824) : ∃ r x y, F_law_take [.own k, .int m] S = .ok (.int r) (S.set k (.lst [.int x, .int y])) ∧ 0 ≤ r ∧ r < m := by
  obtain ⟨x, y, hk⟩ := h
  have hl : k < S.length := (List.getElem?_eq_some_iff.mp hk).1
  have i0 : oIx (.own k) (.int 0) S = .ok (.int x) S := by simp [oIx, seqOf, hk, atI, ixN]
  have i1 : oIx (.own k) (.int 1) S = .ok (.int y) S := by simp [oIx, seqOf, hk, atI, ixN]
  by_cases hx : 0 < x
  · refine ⟨x % m, x / m, y, ?_, Int.emod_nonneg _ (by omega), Int.emod_lt_of_pos _ h0⟩
    simp [F_law_take, e_fnD, B_law_take, i0, hx, oMod_int h0, oFDiv_int h0 h1, sSetIx, hk, ixN]
  · have hz1 := Int.emod_nonneg (y * 48271 + 11) (show (2147483647 : Int) ≠ 0 by decide)
    have hz2 := Int.emod_lt_of_pos (y * 48271 + 11) (show (0 : Int) < 2147483647 by decide)
    generalize hz : (y * 48271 + 11) % 2147483647 = z at hz1 hz2
    refine ⟨z * z % 2147483629 / 64 % m, x, z, ?_, Int.emod_nonneg _ (by omega), Int.emod_lt_of_pos _ h0⟩
    have hk2 : (S.set k (.lst [.int x, .int z]))[k]? = some (.lst [.int x, .int z]) := by simp [hl]
    have i2 : oIx (.own k) (.int 1) (S.set k (.lst [.int x, .int z])) = .ok (.int z) (S.set k (.lst [.int x, .int z])) := by simp [oIx, seqOf, hl, atI, ixN]
    have m1 : oMul (.int y) (.int 48271) S = .ok (.int (y * 48271)) S := oMul_int (.inr (by decide))
    have m2 : oMul (.int z) (.int z) (S.set k (.lst [.int x, .int z])) = .ok (.int (z * z)) (S.set k (.lst [.int x, .int z])) := oMul_int (.inr ⟨by unfold lim64; omega, by unfold lim64; omega⟩)
    simp [F_law_take, e_fnD, B_law_take, i0, hx, oMod_int h0, sSetIx, hk, ixN, i1, m1, oMod_int (show (0 : Int) < 2147483647 by decide), hz, i2, m2, oMod_int (show (0 : Int) < 2147483629 by decide), oFDiv_int (show (0 : Int) < 64 by decide) (by decide)]
def poolTail : MS := sSeq (sAsg (dBin oMod (dBin oMul (dBin oAdd (dBin oAdd (dBin oMod (dVar 2) (dC (.int 2147483629))) (dBin oMul (dBin oMul (dC (.int 7919)) (dVar 1)) (dVar 1))) (dC (.int 13))) (dC (.int 48271))) (dC (.int 2147483647))) (gN 3))
    (sSeq (sIf (dTest (dBin oLt (dVar 2) (dBin oPow (dC (.int 10)) (dC (.int 18)))))
    (sAsg (dC (.int 0)) (gN 2))
    sNil)
    (sRet (dLstO (aCons (dVar 2) (aCons (dBin oAdd (dBin oMod (dBin oMul (dVar 3) (dVar 3)) (dC (.int 2147483587))) (dC (.int 1))) aNil)))))
theorem poolTail_ok (d : D) (k : Nat) (hk : k < 64) (c : Int) (S : Sto) : ∃ x y, poolTail [some d, some (.int k), some (.int c), none] S = .rt (.own S.length) (S ++ [.lst [.int x, .int y]]) := by
  have a1 : oMul (.int 7919) (.int k) S = .ok (.int (7919 * k)) S := oMul_int (.inl (by decide))
  have a2 : oMul (.int (7919 * k)) (.int k) S = .ok (.int (7919 * k * k)) S := oMul_int (.inr ⟨by unfold lim64; omega, by unfold lim64; omega⟩)
  have hz1 := Int.emod_nonneg ((c % 2147483629 + 7919 * k * k + 13) * 48271) (show (2147483647 : Int) ≠ 0 by decide)
  have hz2 := Int.emod_lt_of_pos ((c % 2147483629 + 7919 * k * k + 13) * 48271) (show (0 : Int) < 2147483647 by decide)
  have a3 : oMul (.int (c % 2147483629 + 7919 * k * k + 13)) (.int 48271) S = .ok (.int ((c % 2147483629 + 7919 * k * k + 13) * 48271)) S := oMul_int (.inr (by decide))
  generalize hz : (c % 2147483629 + 7919 * k * k + 13) * 48271 % 2147483647 = z at hz1 hz2
  have a4 : oMul (.int z) (.int z) S = .ok (.int (z * z)) S := oMul_int (.inr ⟨by unfold lim64; omega, by unfold lim64; omega⟩)
  have b1 : ∀ i : Int, oMod (.int i) (.int 2147483629) S = .ok (.int (i % 2147483629)) S := fun i => oMod_int (by decide)
  have b2 : ∀ i : Int, oMod (.int i) (.int 2147483647) S = .ok (.int (i % 2147483647)) S := fun i => oMod_int (by decide)
  have b3 : ∀ i : Int, oMod (.int i) (.int 2147483587) S = .ok (.int (i % 2147483587)) S := fun i => oMod_int (by decide)
  have hc2 : 2 ≤ cap := by decide
  unfold poolTail
  by_cases hc : c < 1000000000000000000
  · refine ⟨0, z * z % 2147483587 + 1, ?_⟩
    simp [a1, a2, a3, b1, b2, hz, hc]
    simp [a4, b3, hc2]
  · refine ⟨c, z * z % 2147483587 + 1, ?_⟩
    simp [a1, a2, a3, b1, b2, hz, hc]
    simp [a4, b3, hc2]
theorem pool_ok {ns : List Int} {k : Nat} (S : Sto) (hk : k < 64) : ∃ x y, F_law_pool [.scr (ns.map .int), .int k] S = .ok (.own S.length) (S ++ [.lst [.int x, .int y]]) := by
  have hln : oLen [.scr (ns.map D.int)] S = .ok (.int ns.length) S := by simp [oLen, seqOf]
  have e0 : B_law_pool = sSeq (sAsg (dC (.int 0)) (gN 2)) (sSeq (sIf (dTest (dBin oLt (dVar 1) (dBlt oLen (aCons (dVar 0) aNil)))) (sAsg (dBin oIx (dVar 0) (dVar 1)) (gN 2)) sNil) poolTail) := rfl
  by_cases h : k < ns.length
  · obtain ⟨x, y, e⟩ := poolTail_ok (.scr (ns.map .int)) k hk ns[k] S
    refine ⟨x, y, ?_⟩
    have hi : oIx (.scr (ns.map D.int)) (.int k) S = .ok (.int ns[k]) S := by simp [oIx, seqOf, atI, ixN, h]
    have h' : (k : Int) < ns.length := by omega
    simp [F_law_pool, e_fnD, e0, hln, h', hi, e]
  · obtain ⟨x, y, e⟩ := poolTail_ok (.scr (ns.map .int)) k hk 0 S
    refine ⟨x, y, ?_⟩
    have h' : ¬ (k : Int) < ns.length := by omega
    simp [F_law_pool, e_fnD, e0, hln, h', e]
end G

set_option maxHeartbeats 4000000
namespace G
open PySem L2 DE
theorem tk {k : Nat} {S : Sto} (m : Int) (h : PoolAt k S) (h0 : 0 < m) (h1 : m < 1073741824) : ∃ r S', F_law_take [.own k, .int m] S = .ok (.int r) S' ∧ 0 ≤ r ∧ r < m ∧ PoolAt k S' := by
  obtain ⟨r, x, y, e, a, b⟩ := take_ok h h0 h1
  obtain ⟨_, _, hk⟩ := h
  exact ⟨r, _, e, a, b, x, y, by simp [(List.getElem?_eq_some_iff.mp hk).1]⟩
theorem app_toList (x y : Str) : (x ++ y).cps.toList = x.cps.toList ++ y.cps.toList := by
  show (x.cps ++ y.cps).toList = _
  simp
theorem join0 : ∀ ys : List Str, (Txt.join (Str.ofString "") ys).cps.toList = (ys.map fun y => y.cps.toList).flatten := fun ys => by
  have he : (Str.ofString "").cps.toList = [] := by decide +kernel
  rw [show Txt.join (Str.ofString "") ys = Str.join (Str.ofString "") ys from PySem.StrLaws.glued_eq_join _ ys]
  induction ys with
  | nil => decide +kernel
  | cons x r ih =>
    cases r with
    | nil => simp [Str.join]
    | cons z r => rw [Str.join, app_toList, app_toList, ih, he]; simp; exact fun h => nomatch h
/-- a text of one sign below 128 -/
def One (d : D) : Prop := ∃ c, c < 128 ∧ d = .str ⟨#[c]⟩
theorem join_ones : ∀ vs : List D, (∀ v ∈ vs, One v) → ∃ ys, strsOf vs = some ys ∧ ys.length = vs.length ∧ ∀ y ∈ ys, ∃ c, c < 128 ∧ y = ⟨#[c]⟩
  | [], _ => ⟨[], rfl, rfl, fun _ h => by cases h⟩
  | v :: vs, h => by
    obtain ⟨ys, e, hl, hy⟩ := join_ones vs fun x hx => h x (List.mem_cons_of_mem _ hx)
    obtain ⟨c, hc, rfl⟩ := h v List.mem_cons_self
    refine ⟨⟨#[c]⟩ :: ys, by simp [strsOf, e], by simp [hl], fun y hy' => ?_⟩
    rcases List.mem_cons.mp hy' with rfl | hy'
    · exact ⟨c, hc, rfl⟩
    · exact hy y hy'
theorem flat_ones : ∀ ys : List Str, (∀ y ∈ ys, ∃ c, c < 128 ∧ y = (⟨#[c]⟩ : Str)) → ((ys.map fun y => y.cps.toList).flatten).length = ys.length ∧ (∀ c ∈ (ys.map fun y => y.cps.toList).flatten, c < 128) ∧ (ys.map (·.length)).sum = ys.length
  | [], _ => by simp
  | y :: ys, h => by
    obtain ⟨a, b, c⟩ := flat_ones ys fun x hx => h x (List.mem_cons_of_mem _ hx)
    obtain ⟨k, hk, rfl⟩ := h y List.mem_cons_self
    refine ⟨by simp [a], fun x hx => ?_, ?_⟩
    · simp at hx
      rcases hx with rfl | hx
      · exact hk
      · exact b x (by simpa using hx)
    · rw [List.map_cons, List.sum_cons, c, List.length_cons]
      show 1 + ys.length = ys.length + 1
      omega
theorem chars : ∀ r : Nat, r < 8 → ∃ v, [D.str (Str.ofString "a"), .str (Str.ofString "b"), .str (Str.ofString "z"), .str (Str.ofString "A"), .str (Str.ofString "1"), .str (Str.ofString " "), .str (Str.ofString "-"), .str (Str.ofString "q")][r]? = some v ∧ One v := by
  have h : ∀ s : Str, (s.cps.size = 1 ∧ s.cps.getD 0 0 < 128) → One (.str s) := fun s hs => ⟨s.cps.getD 0 0, hs.2, by rw [← str1 hs.1]⟩
  intro r hr
  match r, hr with
  | 0, _ => exact ⟨_, rfl, h _ (by decide +kernel)⟩
  | 1, _ => exact ⟨_, rfl, h _ (by decide +kernel)⟩
  | 2, _ => exact ⟨_, rfl, h _ (by decide +kernel)⟩
  | 3, _ => exact ⟨_, rfl, h _ (by decide +kernel)⟩
  | 4, _ => exact ⟨_, rfl, h _ (by decide +kernel)⟩
  | 5, _ => exact ⟨_, rfl, h _ (by decide +kernel)⟩
  | 6, _ => exact ⟨_, rfl, h _ (by decide +kernel)⟩
  | 7, _ => exact ⟨_, rfl, h _ (by decide +kernel)⟩
/-- an item of a list at a place that is in it -/
theorem ix_lst (ds : List D) (r : Int) (S : Sto) (v : D) (h0 : 0 ≤ r) (h : ds[r.toNat]? = some v) : oIx (.lst ds) (.int r) S = .ok v S := by
  have hl := (List.getElem?_eq_some_iff.mp h).1
  have h1 : r < ds.length := by omega
  have h2 := (List.getElem?_eq_some_iff.mp h).2
  simp [oIx, seqOf, atI, ixN, h0, h1, h2]
theorem word_ok {k : Nat} {S : Sto} (h : PoolAt k S) : ∃ s S', F_law_word [.own k] S = .ok (.str s) S' ∧ GoodS s ∧ PoolAt k S' := by
  obtain ⟨n, S1, e1, n0, n1, p1⟩ := tk 10 h (by decide) (by decide)
  have hl : (rangeD 0 n.toNat).length = n.toNat := by simp [rangeD]
  obtain ⟨vs, S2, e2, hv, hvl, p2⟩ := loopC_inv (own := [1]) (g := gN 1) (t := mYes) (e := dBin oIx (dLst (aCons (dC (.str "a")) (aCons (dC (.str "b")) (aCons (dC (.str "z")) (aCons (dC (.str "A")) (aCons (dC (.str "1")) (aCons (dC (.str " ")) (aCons (dC (.str "-")) (aCons (dC (.str "q")) aNil))))))))) (dCall 2 F_law_take [] (aCons (dVar 0) (aCons (dBin oIx (dLst (aCons (dC (.int 3)) (aCons (dC (.int 8)) aNil))) (dBin oFDiv (dVar 1) (dC (.int 7)))) aNil)))) (ρ := [some (.own k), none]) (PoolAt k) One (ds := rangeD 0 n.toNat) (fun d hd S hS => by
    obtain ⟨i, hi, rfl⟩ := mem_rangeD hd
    have hi9 : i < 10 := by omega
    refine ⟨_, rfl, rfl, ?_⟩
    have d7 : oFDiv (.int (0 + i)) (.int 7) S = .ok (.int ((0 + i) / 7)) S := oFDiv_int (by decide) (by decide)
    obtain ⟨m, hm, hm0, hm8⟩ : ∃ m : Int, oIx (.lst [.int 3, .int 8]) (.int ((0 + i) / 7)) S = .ok (.int m) S ∧ 0 < m ∧ m ≤ 8 := by
      by_cases h7 : i < 7
      · have : ((0 : Int) + i) / 7 = 0 := by omega
        rw [this]
        exact ⟨3, rfl, by decide, by decide⟩
      · have : ((0 : Int) + i) / 7 = 1 := by omega
        rw [this]
        exact ⟨8, rfl, by decide, by decide⟩
    obtain ⟨r, S3, e3, r0, r1, p3⟩ := tk m hS hm0 (by omega)
    obtain ⟨v, hv, ho⟩ := chars r.toNat (by omega)
    refine ⟨v, S3, ?_, ho, p3⟩
    have := ix_lst _ r S3 v r0 hv
    simp at d7 hm
    simp [wipeD, cap, d7, hm, e3, this]) p1
  obtain ⟨ys, hy, hyl, hy1⟩ := join_ones vs hv
  obtain ⟨f1, f2, f3⟩ := flat_ones ys hy1
  have hle : ys.length ≤ 10 := by rw [hyl, hvl, hl]; omega
  have he : (Str.ofString "").length = 0 := by decide +kernel
  refine ⟨Txt.join (Str.ofString "") ys, S2, ?_, ⟨?_, ?_⟩, p2⟩
  · have c1 : (-4611686018427387904 : Int) ≤ n ∧ n < 4611686018427387904 := by omega
    have c2 : (rangeD 0 n.toNat).length ≤ cap := by rw [hl]; unfold cap; omega
    have c3 : (ys.map (·.length)).sum + ys.length * (Str.ofString "").length ≤ cap := by rw [f3, he]; unfold cap; omega
    simp only [F_law_word, e_fnD, B_law_word]
    simp [e1, c1, c2, e2, oJoin, seqOf, hy]
    exact c3
  · show (Txt.join (Str.ofString "") ys).cps.size ≤ 1000
    rw [← Array.length_toList, join0, f1]; omega
  · rw [join0]; exact f2
def GoodN (n : Nat) (s : Str) : Prop := s.length ≤ n ∧ ∀ c ∈ s.cps.toList, c < 128
instance (n : Nat) (s : Str) : Decidable (GoodN n s) := by unfold GoodN; exact inferInstance
theorem GoodN.good {n : Nat} {s : Str} (h : GoodN n s) (hn : n ≤ 1000) : GoodS s := ⟨Nat.le_trans h.1 hn, h.2⟩
theorem GoodN.cut {n : Nat} {s : Str} (h : GoodN n s) (lo hi : Option Int) : GoodN n (cutS s lo hi) := by
  refine ⟨Nat.le_trans (cutS_length s lo hi) h.1, fun c hc => h.2 c ?_⟩
  have hc : c ∈ ((s.cps.toList.drop (HT.sIx s.length 0 lo)).take (HT.sIx s.length s.length hi - HT.sIx s.length 0 lo)) := by simpa [cutS] using hc
  exact List.mem_of_mem_drop (List.mem_of_mem_take hc)
theorem GoodN.app {n m : Nat} {s t : Str} (h : GoodN n s) (h' : GoodN m t) : GoodN (n + m) (s ++ t) := by
  have hl : (s ++ t).length = s.length + t.length := by
    show (s ++ t).cps.size = s.cps.size + t.cps.size
    rw [← Array.length_toList, app_toList, List.length_append, Array.length_toList, Array.length_toList]
  refine ⟨by rw [hl]; exact Nat.add_le_add h.1 h'.1, fun c hc => ?_⟩
  rw [app_toList] at hc
  rcases List.mem_append.mp hc with z | z
  · exact h.2 c z
  · exact h'.2 c z
theorem longs : ∀ r : Nat, r < 4 → ∃ L, [D.str (Str.ofString ""), .str (mulS (Str.ofString "x") 39), .str (mulS (Str.ofString "~") 40), .str (mulS (Str.ofString "x") 41)][r]? = some (.str L) ∧ GoodN 41 L := by
  intro r hr
  match r, hr with
  | 0, _ => exact ⟨_, rfl, by decide +kernel⟩
  | 1, _ => exact ⟨_, rfl, by decide +kernel⟩
  | 2, _ => exact ⟨_, rfl, by decide +kernel⟩
  | 3, _ => exact ⟨_, rfl, by decide +kernel⟩
theorem texts {L : Str} (hL : GoodN 41 L) : ∀ r : Nat, r < 6 → ∃ s, [D.str L, .str (Str.ofString " " ++ cutS L none (some 9)), .str (Str.ofString "a\"\\"), .str (Str.ofString "a\tb"), .str (Str.ofString "a\nb"), .str (cutS L none (some 3))][r]? = some (.str s) ∧ GoodS s := by
  intro r hr
  match r, hr with
  | 0, _ => exact ⟨_, rfl, hL.good (by decide)⟩
  | 1, _ => exact ⟨_, rfl, (GoodN.app (n := 1) (by decide +kernel) (hL.cut none (some 9))).good (by decide)⟩
  | 2, _ => exact ⟨_, rfl, GoodN.good (n := 9) (by decide +kernel) (by decide)⟩
  | 3, _ => exact ⟨_, rfl, GoodN.good (n := 9) (by decide +kernel) (by decide)⟩
  | 4, _ => exact ⟨_, rfl, GoodN.good (n := 9) (by decide +kernel) (by decide)⟩
  | 5, _ => exact ⟨_, rfl, (hL.cut none (some 3)).good (by decide)⟩
theorem oMul_str {x : Str} {n : Int} {S : Sto} (h : n ≤ 100000 ∧ -100000 ≤ n ∧ n.toNat * x.length ≤ 100000 ∧ x.length ≤ 100000) : oMul (.str x) (.int n) S = .ok (.str (mulS x n)) S := if_pos h
theorem text_ok {k : Nat} {S : Sto} (h : PoolAt k S) : ∃ s S', F_law_text [.own k] S = .ok (.str s) S' ∧ GoodS s ∧ PoolAt k S' := by
  obtain ⟨r1, S1, e1, n0, n1, p1⟩ := tk 4 h (by decide) (by decide)
  obtain ⟨L, hL, gL⟩ := longs r1.toNat (by omega)
  obtain ⟨r2, S2, e2, m0, m1, p2⟩ := tk 6 p1 (by decide) (by decide)
  obtain ⟨s, hs, gs⟩ := texts gL r2.toNat (by omega)
  refine ⟨s, S2, ?_, gs, p2⟩
  have a1 := oMul_str (x := Str.ofString "x") (n := 39) (S := S) (by decide +kernel)
  have a2 := oMul_str (x := Str.ofString "~") (n := 40) (S := S) (by decide +kernel)
  have a3 := oMul_str (x := Str.ofString "x") (n := 41) (S := S) (by decide +kernel)
  have i1 := ix_lst _ r1 S1 _ n0 hL
  have i2 := ix_lst _ r2 S2 _ m0 hs
  have hlc : L.length ≤ cap := Nat.le_trans gL.1 (by decide)
  have hsp : (Str.ofString " ").length = 1 := by decide +kernel
  have hadd : oAdd (.str (Str.ofString " ")) (.str (cutS L none (some 9))) S1 = .ok (.str (Str.ofString " " ++ cutS L none (some 9))) S1 := if_pos (by
    have := (gL.cut none (some 9)).1
    rw [hsp]; unfold cap; omega)
  simp only [F_law_text, e_fnD, B_law_text]
  simp [a1, a2, a3, e1, i1, cap, slD]
  simp [show L.length ≤ 100000 from hlc, hadd, e2, i2]
end G

set_option maxHeartbeats 4000000
namespace G
open PySem L2 DE
mutual
def goodB : D → Bool
  | .non => true
  | .bl _ => true
  | .int _ => true
  | .str s => decide (GoodN 1000 s)
  | .tup ds => goodsB ds && decide (ds.length ≤ 1000)
  | .lst _ => true
  | .dK kvs => kvs.isEmpty
  | _ => false
def goodsB : List D → Bool
  | [] => true
  | d :: ds => goodB d && goodsB ds
end
mutual
theorem goodB_ok : ∀ d : D, goodB d = true → Good d
  | .non, _ => .non
  | .bl b, _ => .bl b
  | .int i, _ => .int i
  | .str s, h => .str s (GoodN.good (n := 1000) (of_decide_eq_true (by simpa [goodB] using h)) (by decide))
  | .tup ds, h => by
    simp only [goodB, Bool.and_eq_true, decide_eq_true_eq] at h
    exact .tup ds (goodsB_ok ds h.1) h.2
  | .lst ds, _ => .lst ds
  | .dK kvs, h => by
    simp only [goodB] at h
    cases kvs with
    | nil => exact .dK
    | cons _ _ => cases h
  | .ty _, h => by cases h
  | .glo _, h => by cases h
  | .scr _, h => by cases h
  | .dT _, h => by cases h
  | .obj _ _, h => by cases h
  | .own _, h => by cases h
theorem goodsB_ok : ∀ ds : List D, goodsB ds = true → ∀ d ∈ ds, Good d
  | [], _, _, h => by cases h
  | d :: ds, h, x, hx => by
    simp only [goodsB, Bool.and_eq_true] at h
    rcases List.mem_cons.mp hx with e | hx
    · rw [e]; exact goodB_ok d h.1
    · exact goodsB_ok ds h.2 x hx
end
/-- the inner loop over things -/
theorem things_ok {ds : List D} (hg : ∀ d ∈ ds, Good d) (o0 o1 o2 o3 o4 o5 o6 o7 o8 : Option D) (S : Sto) :
    ∃ o7', loopS (gN 7) (sIf (dNotT (dTest (dCall 1 F_law_right [] (aCons (dVar 7) aNil)))) (sRet (dC (.bl false))) sNil) ds [o0, o1, o2, o3, o4, o5, o6, o7, o8] S = .nx [o0, o1, o2, o3, o4, o5, o6, o7', o8] S := by
  induction ds generalizing o7 with
  | nil => exact ⟨o7, rfl⟩
  | cons d ds ih =>
    obtain ⟨o, e⟩ := ih (fun x hx => hg x (List.mem_cons_of_mem _ hx)) (some d)
    refine ⟨o, ?_⟩
    have hr := right_eq S (hg d List.mem_cons_self)
    unfold loopS
    simp [hr, e]
end G

set_option maxHeartbeats 4000000
namespace G
open PySem L2 DE
theorem good_int_bl (r q : Int) : ∀ j : Nat, j < 5 → ∃ v, [D.int r, .int q, .bl true, .str (Str.ofString "1"), .int (-1)][j]? = some v ∧ Good v := by
  intro j hj
  match j, hj with
  | 0, _ => exact ⟨_, rfl, .int _⟩
  | 1, _ => exact ⟨_, rfl, .int _⟩
  | 2, _ => exact ⟨_, rfl, .bl _⟩
  | 3, _ => exact ⟨_, rfl, goodB_ok _ (by decide +kernel)⟩
  | 4, _ => exact ⟨_, rfl, .int _⟩
theorem good_vals {s : Str} (h : GoodS s) : ∀ j : Nat, j < 3 → ∃ v, [D.non, .str s, .int 5][j]? = some v ∧ Good v := by
  intro j hj
  match j, hj with
  | 0, _ => exact ⟨_, rfl, .non⟩
  | 1, _ => exact ⟨_, rfl, .str _ h⟩
  | 2, _ => exact ⟨_, rfl, .int _⟩
theorem good2 {a b : D} (ha : Good a) (hb : Good b) : Good (.tup [a, b]) := .tup _ (fun d hd => by
  simp at hd
  rcases hd with rfl | rfl
  · exact ha
  · exact hb) (by simp)
theorem good3 {a b c : D} (ha : Good a) (hb : Good b) (hc : Good c) : Good (.tup [a, b, c]) := .tup _ (fun d hd => by
  simp at hd
  rcases hd with rfl | rfl | rfl
  · exact ha
  · exact hb
  · exact hc) (by simp)
theorem turn_ok (o0 o1 o3 o4 o5 o6 o7 o8 : Option D) {k : Nat} {S : Sto} (h : PoolAt k S) : ∃ o4' o5' o6' o7' S', L_law_2 [o0, o1, some (.own k), o3, o4, o5, o6, o7, o8] S = .nx [o0, o1, some (.own k), o3, o4', o5', o6', o7', o8] S' ∧ PoolAt k S' := by
  obtain ⟨r1, S1, e1, a1, b1, p1⟩ := tk 9 h (by decide) (by decide)
  obtain ⟨r2, S2, e2, a2, b2, p2⟩ := tk 3 p1 (by decide) (by decide)
  obtain ⟨r3, S3, e3, a3, b3, p3⟩ := tk 5 p2 (by decide) (by decide)
  obtain ⟨v, hv, gv⟩ := good_int_bl r1 (999999999999999 + r2) r3.toNat (by omega)
  have i3 := ix_lst _ r3 S3 _ a3 hv
  obtain ⟨s4, S4, e4, g4, p4⟩ := word_ok p3
  obtain ⟨s5, S5, e5, g5, p5⟩ := word_ok p4
  obtain ⟨s6, S6, e6, g6, p6⟩ := text_ok p5
  obtain ⟨r7, S7, e7, a7, b7, p7⟩ := tk 3 p6 (by decide) (by decide)
  obtain ⟨v7, hv7, gv7⟩ := good_vals g6 r7.toNat (by omega)
  have i7 := ix_lst _ r7 S7 _ a7 hv7
  obtain ⟨s8, S8, e8, g8, p8⟩ := word_ok p7
  obtain ⟨s9, S9, e9, g9, p9⟩ := text_ok p8
  have gs : Good (.tup [v, .str s4]) := good2 gv (.str _ g4)
  have ge : Good (.tup [.str s5, .tup [v, .str s4], v7]) := good3 (.str _ g5) gs gv7
  have gl : ∀ d ∈ [D.str s8, .str s9, .tup [v, .str s4], .tup [.str s5, .tup [v, .str s4], v7], .lst [.str s5, .tup [v, .str s4], v7], .tup [.str s5, .tup [v, .str s4]], .tup [.int 1, .str (Str.ofString "ann")]], Good d := fun d hd => by
    simp at hd
    rcases hd with rfl | rfl | rfl | rfl | rfl | rfl | rfl
    · exact .str _ g8
    · exact .str _ g9
    · exact gs
    · exact ge
    · exact .lst _
    · exact good2 (.str _ g5) gs
    · exact goodB_ok _ (by decide +kernel)
  obtain ⟨o7', e10⟩ := things_ok gl o0 o1 (some (.own k)) o3 (some v) (some (.tup [v, .str s4])) (some (.tup [.str s5, .tup [v, .str s4], v7])) o7 o8 S9
  refine ⟨some v, some (.tup [v, .str s4]), some (.tup [.str s5, .tup [v, .str s4], v7]), o7', S9, ?_, p9⟩
  have hc : cutD [D.str s5, .tup [v, .str s4], v7] none (some 2) = [.str s5, .tup [v, .str s4]] := rfl
  simp [L_law_2, e1, e2, e3, cap, i3, e4, e5, e6, e7, i7, e8, e9, oList, seqOf, slD, hc, itemsOf, L_law_1]
  exact e10
theorem turns_ok (o0 o1 o3 o4 o5 o6 o7 o8 : Option D) {k : Nat} {S : Sto} (h : PoolAt k S) (n : Nat) : ∃ o3' o4' o5' o6' o7' S', loopS (gN 3) L_law_2 (rangeD 0 n) [o0, o1, some (.own k), o3, o4, o5, o6, o7, o8] S = .nx [o0, o1, some (.own k), o3', o4', o5', o6', o7', o8] S' := by
  obtain ⟨ρ', S', e, ⟨o3', o4', o5', o6', o7', rfl⟩, _⟩ := loopS_inv (g := gN 3) (body := L_law_2) (fun ρ S => (∃ o3 o4 o5 o6 o7, ρ = [o0, o1, some (.own k), o3, o4, o5, o6, o7, o8]) ∧ PoolAt k S) (ds := rangeD 0 n) (ρ := [o0, o1, some (.own k), o3, o4, o5, o6, o7, o8]) (S := S)
    (fun d hd ρ S ⟨⟨o3, o4, o5, o6, o7, e⟩, p⟩ => by
      subst e
      obtain ⟨o4', o5', o6', o7', S', e, p'⟩ := turn_ok o0 o1 (some d) o4 o5 o6 o7 o8 p
      exact ⟨_, rfl, _, S', e, ⟨_, _, _, _, _, rfl⟩, p'⟩) ⟨⟨_, _, _, _, _, rfl⟩, h⟩
  exact ⟨o3', o4', o5', o6', o7', S', e⟩
theorem cell_ok {ns : List Int} {k : Nat} (hk : k < 64) (o2 o3 o4 o5 o6 o7 o8 : Option D) (S : Sto) : ∃ o2' o3' o4' o5' o6' o7' S', L_law_3 [some (.scr (ns.map .int)), some (.int k), o2, o3, o4, o5, o6, o7, o8] S = .nx [some (.scr (ns.map .int)), some (.int k), o2', o3', o4', o5', o6', o7', o8] S' := by
  obtain ⟨x, y, e⟩ := pool_ok (ns := ns) (k := k) S hk
  obtain ⟨o3', o4', o5', o6', o7', S', e2⟩ := turns_ok (some (.scr (ns.map .int))) (some (.int k)) o3 o4 o5 o6 o7 o8 (k := S.length) (S := S ++ [.lst [.int x, .int y]]) ⟨x, y, by simp⟩ 8
  refine ⟨some (.own S.length), o3', o4', o5', o6', o7', S', ?_⟩
  simp [L_law_3, e]
  exact e2
theorem cells_ok {ns : List Int} (o1 o2 o3 o4 o5 o6 o7 o8 : Option D) (S : Sto) (n : Nat) (hn : n ≤ 64) : ∃ o1' o2' o3' o4' o5' o6' o7' S', loopS (gN 1) L_law_3 (rangeD 0 n) [some (.scr (ns.map .int)), o1, o2, o3, o4, o5, o6, o7, o8] S = .nx [some (.scr (ns.map .int)), o1', o2', o3', o4', o5', o6', o7', o8] S' := by
  obtain ⟨ρ', S', e, ⟨o1', o2', o3', o4', o5', o6', o7', rfl⟩⟩ := loopS_inv (g := gN 1) (body := L_law_3) (fun ρ S => (∃ o1 o2 o3 o4 o5 o6 o7, ρ = [some (.scr (ns.map .int)), o1, o2, o3, o4, o5, o6, o7, o8])) (ds := rangeD 0 n) (ρ := [some (.scr (ns.map .int)), o1, o2, o3, o4, o5, o6, o7, o8]) (S := S)
    (fun d hd ρ S ⟨o1, o2, o3, o4, o5, o6, o7, e⟩ => by
      subst e
      obtain ⟨i, hi, rfl⟩ := mem_rangeD hd
      rw [Int.zero_add]
      obtain ⟨o2', o3', o4', o5', o6', o7', S', e⟩ := cell_ok (ns := ns) (k := i) (by omega) o2 o3 o4 o5 o6 o7 o8 S
      exact ⟨_, rfl, _, S', e, ⟨_, _, _, _, _, _, _, rfl⟩⟩) ⟨_, _, _, _, _, _, _, rfl⟩
  exact ⟨o1', o2', o3', o4', o5', o6', o7', S', e⟩
theorem none_left {ds : List D} (hg : ∀ d ∈ ds, Good d) (ρ : DE.Env) (hρ : ρ.length = 9) (S : Sto) : loopC [7] (gN 7) (dNotT (dTest (dCall 1 F_law_right [] (aCons (dVar 7) aNil)))) (dVar 7) ρ ds S = .ok [] S := by
  have := loopC_fm (own := [7]) (g := gN 7) (t := dNotT (dTest (dCall 1 F_law_right [] (aCons (dVar 7) aNil)))) (e := dVar 7) (ρ := ρ) (S := S) (r := fun d => (wipeD ρ [7]).set 7 (some d)) (p := fun _ => false) (v := fun d => d) (ds := ds) (fun d hd => ⟨rfl, by simp [wipeD, hρ, right_eq S (hg d hd)], fun h => by cases h⟩)
  rw [this, List.filter_eq_nil_iff.mpr (fun _ _ => by simp)]
  rfl
theorem law_ok (ns : List Int) (hn : ns.length ≤ 63) : ∃ S', F_law [.scr (ns.map .int)] [] = .ok (.bl true) S' := by
  have hln : oLen [.scr (ns.map D.int)] [] = .ok (.int ns.length) [] := by simp [oLen, seqOf]
  obtain ⟨m, hm, hm8⟩ : ∃ m : Nat, (if (if (8 : Int) < ns.length then (8 : Int) else ns.length) > 1 then (if (8 : Int) < ns.length then (8 : Int) else ns.length) else 1) = (m : Int) ∧ m ≤ 8 := by
    by_cases h8 : (8 : Int) < ns.length
    · exact ⟨8, by simp [h8], by omega⟩
    · by_cases h1 : (ns.length : Int) > 1
      · exact ⟨ns.length, by simp [h8, h1], by omega⟩
      · exact ⟨1, by simp [h8, h1], by omega⟩
  obtain ⟨o1, o2, o3, o4, o5, o6, o7, S1, e1⟩ := cells_ok (ns := ns) none none none none none none none none [] m (by omega)
  have c1 : (-4611686018427387904 : Int) ≤ m ∧ (m : Int) < 4611686018427387904 := by omega
  refine ⟨S1, ?_⟩
  simp [F_law, e_fnD, B_law, hln, oMin, oMax, hm, c1, e1, cap, oAdd, itemsOf]
  rw [none_left (goodsB_ok _ (by decide +kernel)) _ rfl]
  simp [cap]
  rfl
end G

theorem PySem.Challenge.cw_tombkeeper_k01_words_values_entries_holds : PySem.Challenge.rw_tombkeeper_k01_words_values_entries.Holds := by
  exact G.cw G.law_ok
