import PyProof.Rows.All
import Wide.All
import OpenK.AllK
import Wide.FinOn
import HandS.ForMost
import HandS.Exc
import HandS.ExcOwn
import HandS.TryOnly
import HandS.TryMany
import HandS.ExcCtx
import HandS.HotCalls
import HandS.ExcInit
import HandS.WordsExc
import HandS.Walk
import HandS.IsInst
import HandS.Flow
import HandS.Lambda
import HandS.HeadHook1
import HandS.TupAny
import HandS.Style
import HandS.Wide
import HandS.Property
import HandS.Deep
import HandS.SortKw
import KE.SortKeyHeap
import HandS.Keys
import PyProof.P3In
import HandS.SetTxt0
import HandS.SetBool
import HandS.SetKeys
import HandS.More
import HandS.Small
import HandS.Head0
import HandS.Head1
import HandS.Head2
import HandS.ClsMeth
import HandS.ExcField
import HandS.Zip0
import PyProof.TupleOfGen
import HandS.DictComp
import PyProof.Rows.MinMaxN
import HandS.SetFor
import KE.KEqNest
import PyProof.NeKinds
import HandS.Star
import HandS.Zip
import HandS.NoneIn
import HandS.TupSets
import HandS.TupLen
import HandS.Sort
import HandS.Conv
import HandS.DictEq
import PyProof.WalkInts
import PySem.Challenge.RW_twochoosers_k41_longest
set_option Elab.async false
set_option linter.all false
set_option maxRecDepth 100000
set_option maxHeartbeats 4000000
/-! Deep data over the hand layer: values as trees, mutable objects as cells, and readings that speak of no heap. -/
namespace DV
open PySem L2
inductive D where
  | non | bl (b : Bool) | int (i : Int) | str (x : Str) | ref (l : Nat) | cls (C : Addr)
  | scr (ns : List Int) | lst (xs : List D) | tup (xs : List D) | dct (kvs : List (Key × D)) | ins (C : Addr) (fs : List (Str × D))
abbrev Gam := List (Option D)
inductive Cell where
  | gone | lst (xs : List D) | dct (kvs : List (Key × D)) | ins (C : Addr) (fs : List (Str × D)) | orc (n : Nat × Bool) | exc (dd : Addr) (fs : List (Str × D))
  | dtp (kvs : List (List Key × D))
abbrev Mu := List Cell
/-- the heap as it is looked at: Hb what is fixed for ever, H all, al the cells' addresses, ph the oracle's inner ones -/
structure Now where
  Hb : Hp
  H : Hp
  al : List Addr
  ph : List Addr
mutual
inductive Rep (K : PySem.W.Frag) (Hb : Hp) (al : List Addr) : V → D → Prop
  | non : Rep K Hb al .non .non
  | bl (b) : Rep K Hb al (.bl b) (.bl b)
  | int (i) : Rep K Hb al (.int i) (.int i)
  | str (x) : Rep K Hb al (.str x) (.str x)
  | ref {l a} : al[l]? = some a → Rep K Hb al (.ref a) (.ref l)
  | cls (C) : Rep K Hb al (.ref C) (.cls C)
  | scr {a ns} : SqL K Hb a (ns.map V.int) → Rep K Hb al (.ref a) (.scr ns)
  | lst {a vs ds} : Hb a = some (.lst vs) → Reps K Hb al vs ds → Rep K Hb al (.ref a) (.lst ds)
  | tup {a vs ds} : Hb a = some (.tup vs) → Reps K Hb al vs ds → Rep K Hb al (.ref a) (.tup ds)
  | dct {a us ks ds} : Rd Hb a (.dK us) → ks = us.map (·.1) → Reps K Hb al (us.map (·.2)) ds → Rep K Hb al (.ref a) (.dct (ks.zip ds))
  | ins {a C dx us ks ds} : Hb a = some (.ins C dx us) → ks = us.map (·.1) → Reps K Hb al (us.map (·.2)) ds → Rep K Hb al (.ref a) (.ins C (ks.zip ds))
inductive Reps (K : PySem.W.Frag) (Hb : Hp) (al : List Addr) : List V → List D → Prop
  | nil : Reps K Hb al [] []
  | cons {v d vs ds} : Rep K Hb al v d → Reps K Hb al vs ds → Reps K Hb al (v :: vs) (d :: ds)
end
theorem nn {α : Type} {x : Option α} {o : α} (h : x = some o) : x ≠ none := by rw [h]; simp
theorem same_rd {H H' : Hp} {a : Addr} {u : HO} (e : Same H H') (h : Rd H a u) : Rd H' a u := h.imp (fun h => e _ _ h) fun ⟨o, h⟩ => ⟨o, e _ _ h⟩
theorem pre_get {α : Type} {l l' : List α} (p : l <+: l') {i : Nat} {a : α} (h : l[i]? = some a) : l'[i]? = some a := by
  obtain ⟨t, rfl⟩ := p
  have hi : i < l.length := (List.getElem?_eq_some_iff.mp h).1
  rw [List.getElem?_append_left hi]
  exact h
section
variable {K : PySem.W.Frag} {Hb Hb' : Hp} {al al' : List Addr}
/-- what was fixed stays; a dict may have been locked -/
def SameL (H H' : Hp) : Prop := ∀ b o, H b = some o → H' b = some o ∨ ∃ us od, o = .dK us ∧ H' b = some (.frz od (.dK us))
theorem Same.l {H H' : Hp} (s : Same H H') : SameL H H' := fun b o h => .inl (s b o h)
theorem SameL.refl (H : Hp) : SameL H H := fun b o h => .inl h
theorem SameL.ne {H H' : Hp} (s : SameL H H') {b : Addr} {o : HO} (h : H b = some o) (hn : ∀ us, o ≠ .dK us) : H' b = some o := (s b o h).elim id fun ⟨us, _, e, _⟩ => absurd e (hn us)
theorem SameL.trans {H H' H'' : Hp} (s : SameL H H') (t : SameL H' H'') : SameL H H'' := fun b o h => by
  rcases s b o h with h1 | ⟨us, od, e1, h1⟩
  · exact t b o h1
  · exact .inr ⟨us, od, e1, t.ne h1 (fun _ z => nomatch z)⟩
theorem SameL.lst {H H' : Hp} (s : SameL H H') {b : Addr} {vs : List V} (h : H b = some (.lst vs)) : H' b = some (.lst vs) := s.ne h (fun _ z => nomatch z)
theorem SameL.tup {H H' : Hp} (s : SameL H H') {b : Addr} {vs : List V} (h : H b = some (.tup vs)) : H' b = some (.tup vs) := s.ne h (fun _ z => nomatch z)
theorem SameL.rd {H H' : Hp} {a : Addr} {us : List (Key × V)} (s : SameL H H') (h : Rd H a (.dK us)) : Rd H' a (.dK us) := by
  rcases h with h | ⟨o, h⟩
  · rcases s _ _ h with h | ⟨vs, od, e, h⟩
    · exact .inl h
    · cases e; exact .inr ⟨od, h⟩
  · exact .inr ⟨o, s.ne h (fun _ z => nomatch z)⟩
theorem SameL.seq {K : PySem.W.Frag} {H H' : Hp} (s : SameL H H') {a : Addr} {vs : List V} (h : SqL K H a vs) : SqL K H' a vs := by
  rcases h with (h | ⟨o, h⟩) | h
  · exact .inl (.inl (s.lst h))
  · exact .inl (.inr ⟨o, s.ne h (fun _ z => nomatch z)⟩)
  · exact .inr h
mutual
theorem Rep.monoL (s : SameL Hb Hb') (p : al <+: al') : ∀ {v : V} {d : D}, Rep K Hb al v d → Rep K Hb' al' v d
  | _, _, .non => .non
  | _, _, .bl b => .bl b
  | _, _, .int i => .int i
  | _, _, .str x => .str x
  | _, _, .ref h => .ref (pre_get p h)
  | _, _, .cls C => .cls C
  | _, _, .scr h => .scr (s.seq h)
  | _, _, .lst h r => .lst (s.lst h) (Reps.monoL s p r)
  | _, _, .tup h r => .tup (s.tup h) (Reps.monoL s p r)
  | _, _, .dct h e r => .dct (s.rd h) e (Reps.monoL s p r)
  | _, _, .ins h e r => .ins (s.ne h (fun _ z => nomatch z)) e (Reps.monoL s p r)
theorem Reps.monoL (s : SameL Hb Hb') (p : al <+: al') : ∀ {vs : List V} {ds : List D}, Reps K Hb al vs ds → Reps K Hb' al' vs ds
  | _, _, .nil => .nil
  | _, _, .cons h r => .cons (Rep.monoL s p h) (Reps.monoL s p r)
end
theorem Rep.mono (s : Same Hb Hb') (p : al <+: al') {v : V} {d : D} (h : Rep K Hb al v d) : Rep K Hb' al' v d := h.monoL (Same.l s) p
theorem Reps.mono (s : Same Hb Hb') (p : al <+: al') {vs : List V} {ds : List D} (h : Reps K Hb al vs ds) : Reps K Hb' al' vs ds := h.monoL (Same.l s) p
theorem Reps.length : ∀ {vs : List V} {ds : List D}, Reps K Hb al vs ds → vs.length = ds.length
  | _, _, .nil => rfl
  | _, _, .cons _ r => by simp [Reps.length r]
theorem Reps.get : ∀ {vs : List V} {ds : List D} {i : Nat} {d : D}, Reps K Hb al vs ds → ds[i]? = some d → ∃ v, vs[i]? = some v ∧ Rep K Hb al v d
  | _, _, _, _, .nil, e => by simp at e
  | _, _, 0, _, .cons h _, e => by simp at e; subst e; exact ⟨_, rfl, h⟩
  | _, _, i + 1, d, .cons _ t, e => by
    obtain ⟨u, h1, h2⟩ := Reps.get (i := i) (d := d) t (by simpa using e)
    exact ⟨u, by simpa using h1, h2⟩
theorem Reps.append : ∀ {vs us : List V} {ds es : List D}, Reps K Hb al vs ds → Reps K Hb al us es → Reps K Hb al (vs ++ us) (ds ++ es)
  | _, _, _, _, .nil, s => s
  | _, _, _, _, .cons h t, s => .cons h (Reps.append t s)
theorem Reps.set {v : V} {d : D} (h : Rep K Hb al v d) : ∀ {vs : List V} {ds : List D} (i : Nat), Reps K Hb al vs ds → Reps K Hb al (vs.set i v) (ds.set i d)
  | _, _, _, .nil => .nil
  | _, _, 0, .cons _ t => .cons h t
  | _, _, i + 1, .cons q t => .cons q (Reps.set h i t)
theorem Reps.take : ∀ {vs : List V} {ds : List D} (n : Nat), Reps K Hb al vs ds → Reps K Hb al (vs.take n) (ds.take n)
  | _, _, 0, _ => .nil
  | _, _, _ + 1, .nil => .nil
  | _, _, n + 1, .cons r t => .cons r (Reps.take n t)
theorem Reps.drop : ∀ {vs : List V} {ds : List D} (n : Nat), Reps K Hb al vs ds → Reps K Hb al (vs.drop n) (ds.drop n)
  | _, _, 0, r => r
  | _, _, _ + 1, .nil => .nil
  | _, _, n + 1, .cons _ t => Reps.drop n t
theorem Reps.reverse : ∀ {vs : List V} {ds : List D}, Reps K Hb al vs ds → Reps K Hb al vs.reverse ds.reverse
  | _, _, .nil => .nil
  | _, _, .cons h t => by
    rw [List.reverse_cons, List.reverse_cons]
    exact (Reps.reverse t).append (.cons h .nil)
theorem Reps.dropLast : ∀ {vs : List V} {ds : List D}, Reps K Hb al vs ds → Reps K Hb al vs.dropLast ds.dropLast := fun {vs ds} r => by
  rw [List.dropLast_eq_take, List.dropLast_eq_take, r.length]
  exact r.take _
theorem Reps.eraseIdx : ∀ {vs : List V} {ds : List D} (n : Nat), Reps K Hb al vs ds → Reps K Hb al (vs.eraseIdx n) (ds.eraseIdx n)
  | _, _, _, .nil => .nil
  | _, _, 0, .cons _ t => t
  | _, _, n + 1, .cons r t => .cons r (Reps.eraseIdx n t)
theorem Reps.ints : ∀ {vs : List V} (ns : List Int), Reps K Hb al vs (ns.map D.int) → vs = ns.map V.int
  | _, [], .nil => rfl
  | _, _ :: ns, .cons (.int _) t => by rw [List.map_cons, Reps.ints ns t]
theorem reps_ints (ns : List Int) : Reps K Hb al (ns.map V.int) (ns.map D.int) := by
  induction ns with
  | nil => exact .nil
  | cons n ns ih => exact .cons (.int _) ih
theorem reps_strs (ns : List Str) : Reps K Hb al (ns.map V.str) (ns.map D.str) := by
  induction ns with
  | nil => exact .nil
  | cons n ns ih => exact .cons (.str _) ih
end
/-- the oracle of a law: a list of three, the first a list of ints, the second a list of ints or a place, the third a count -/
def OrcAt (H : Hp) (a : Addr) (ph : List Addr) (n : Nat × Bool) : Prop :=
  ∃ (a0 : Addr) (xs : List Int) (y : V) (k : Int), H a = some (.lst [.ref a0, y, .int k]) ∧ H a0 = some (.lst (xs.map .int)) ∧ xs.length ≤ 100 ∧ 0 ≤ k ∧ k + n.1 ≤ 1099511627776 ∧
    ((n.2 = true ∧ ∃ a1 ys, y = .ref a1 ∧ ph = [a0, a1] ∧ a1 ≠ a0 ∧ (∀ x ∈ xs, 0 ≤ x) ∧ H a1 = some (.lst (ys.map V.int)) ∧ ys ≠ [] ∧ ys.length ≤ 100) ∨
     (n.2 = false ∧ ∃ j : Int, y = .int j ∧ ph = [a0] ∧ 0 ≤ j ∧ j + n.1 ≤ 1099511627776))
def CellAt (K : PySem.W.Frag) (n : Now) (a : Addr) : Cell → Prop
  | .gone => True
  | .lst ds => n.Hb a = none ∧ ∃ vs, n.H a = some (.lst vs) ∧ Reps K n.Hb n.al vs ds
  | .dct kvs => n.Hb a = none ∧ ∃ us, n.H a = some (.dK us) ∧ kvs.map (·.1) = us.map (·.1) ∧ Reps K n.Hb n.al (us.map (·.2)) (kvs.map (·.2))
  | .ins C fs => n.Hb a = none ∧ ∃ dx us, n.H a = some (.ins C dx us) ∧ fs.map (·.1) = us.map (·.1) ∧ Reps K n.Hb n.al (us.map (·.2)) (fs.map (·.2))
  | .orc k => n.Hb a = none ∧ OrcAt n.H a n.ph k
  | .dtp kvs => n.Hb a = none ∧ ∃ us, n.H a = some (.dT us) ∧ kvs.map (·.1) = us.map (·.1) ∧ Reps K n.Hb n.al (us.map (·.2)) (kvs.map (·.2))
  | .exc dd fs => n.Hb a = none ∧ a = dd ∧ ∃ us, n.H a = some (.xd us) ∧ (∀ f, us.lookup f = none ↔ fs.lookup f = none) ∧ ∀ f v, us.lookup f = some v → ∃ d, fs.lookup f = some d ∧ Rep K n.Hb n.al v d
structure SR0 (K : PySem.W.Frag) (n : Now) (μ : Mu) : Prop where
  same : Same n.Hb n.H
  len : n.al.length = μ.length
  nd : n.al.Nodup
  cell : ∀ (i : Nat) a c, n.al[i]? = some a → μ[i]? = some c → CellAt K n a c
  alh : ∀ a ∈ n.al, n.H a ≠ none
  orc1 : ∀ (i j : Nat) a b, μ[i]? = some (.orc a) → μ[j]? = some (.orc b) → i = j
  phb : ∀ b ∈ n.ph, n.Hb b = none ∧ b ∉ n.al ∧ n.H b ≠ none
structure Step (n n' : Now) : Prop where
  same : SameL n.Hb n'.Hb
  pre : n.al <+: n'.al
  newb : ∀ b o, n'.Hb b = some o → n.Hb b ≠ none ∨ n.H b = none ∨ b ∈ n.al ∨ ∃ vs, o = .tup vs ∧ (n.H b = some (.tup vs) ∨ b ∈ n.ph)
  newa : ∀ b ∈ n'.al, b ∈ n.al ∨ n.H b = none
  newp : ∀ b ∈ n'.ph, b ∈ n.ph ∨ n.H b = none
  keep : ∀ b o, n.H b = some o → n.Hb b = none → b ∉ n.al → b ∉ n.ph → n'.H b = some o
  dom : ∀ b, n'.H b = none → n.H b = none
  fixd : ∀ b vs, n.Hb b = some (.tup vs) → n.H b = some (.tup vs) → n'.H b = some (.tup vs)
theorem Step.refl (n : Now) : Step n n := ⟨SameL.refl _, List.prefix_refl _, fun _ _ h => .inl (by rw [h]; simp), fun _ h => .inl h, fun _ h => .inl h, fun _ _ h _ _ _ => h, fun _ h => h, fun _ _ _ h => h⟩
theorem Step.trans {n n1 n2 : Now} (a : Step n n1) (b : Step n1 n2) : Step n n2 where
  same := a.same.trans b.same
  pre := a.pre.trans b.pre
  newb := fun c o h => by
    have old : n1.H c = none → n.H c = none := a.dom c
    rcases b.newb c o h with h3 | h3 | h3 | ⟨vs, rfl, h3⟩
    · cases e : n1.Hb c with
      | none => exact absurd e h3
      | some o' =>
        rcases a.newb c o' e with z | z | z | ⟨vs, rfl, z⟩
        · exact .inl z
        · exact .inr (.inl z)
        · exact .inr (.inr (.inl z))
        · have := b.same.tup e
          rw [h] at this; cases this
          exact .inr (.inr (.inr ⟨vs, rfl, z⟩))
    · exact .inr (.inl (old h3))
    · rcases a.newa c h3 with h | h
      · exact .inr (.inr (.inl h))
      · exact .inr (.inl h)
    · by_cases h0 : n.Hb c = none
      · by_cases ha : c ∈ n.al
        · exact .inr (.inr (.inl ha))
        · by_cases hp : c ∈ n.ph
          · exact .inr (.inr (.inr ⟨vs, rfl, .inr hp⟩))
          · cases e : n.H c with
            | none => exact .inr (.inl rfl)
            | some o =>
              have k := a.keep c o e h0 ha hp
              rcases h3 with h3 | h3
              · rw [k] at h3; cases h3
                exact .inr (.inr (.inr ⟨vs, rfl, .inl rfl⟩))
              · rcases a.newp c h3 with z | z
                · exact absurd z hp
                · rw [e] at z; cases z
      · exact .inl h0
  newa := fun c h => by
    rcases b.newa c h with h | h
    · exact a.newa c h
    · exact .inr (a.dom c h)
  newp := fun c h => by
    rcases b.newp c h with h | h
    · exact a.newp c h
    · exact .inr (a.dom c h)
  keep := fun c o h h0 h1 h2 => by
    have k := a.keep c o h h0 h1 h2
    cases e : n1.Hb c with
    | none =>
      refine b.keep c o k e (fun z => ?_) (fun z => ?_)
      · rcases a.newa c z with z | z
        · exact h1 z
        · rw [z] at h; cases h
      · rcases a.newp c z with z | z
        · exact h2 z
        · rw [z] at h; cases h
    | some o' =>
      rcases a.newb c o' e with z | z | z | ⟨vs, rfl, z | z⟩
      · exact absurd h0 z
      · rw [z] at h; cases h
      · exact absurd z h1
      · rw [z] at h; cases h
        exact b.fixd c vs e k
      · exact absurd z h2
  dom := fun c h => a.dom c (b.dom c h)
  fixd := fun c vs h1 h2 => b.fixd c vs (a.same.tup h1) (a.fixd c vs h1 h2)
theorem Step.rep {K : PySem.W.Frag} {n n' : Now} (s : Step n n') {v : V} {d : D} (h : Rep K n.Hb n.al v d) : Rep K n'.Hb n'.al v d := h.monoL s.same s.pre
theorem Step.reps {K : PySem.W.Frag} {n n' : Now} (s : Step n n') {v : List V} {d : List D} (h : Reps K n.Hb n.al v d) : Reps K n'.Hb n'.al v d := h.monoL s.same s.pre
/-- the slots -/
structure GR (K : PySem.W.Frag) (n : Now) (Γ : Gam) (σ : St) : Prop where
  len : Γ.length = σ.length
  at_ : ∀ (i : Nat) d, Γ[i]? = some (some d) → ∃ v, σ[i]? = some (some v) ∧ Rep K n.Hb n.al v d
theorem GR.step {K : PySem.W.Frag} {n n' : Now} {Γ : Gam} {σ : St} (g : GR K n Γ σ) (s : Step n n') : GR K n' Γ σ :=
  ⟨g.len, fun i d h => let ⟨v, h1, h2⟩ := g.at_ i d h; ⟨v, h1, s.rep h2⟩⟩
theorem GR.set {K : PySem.W.Frag} {n : Now} {Γ : Gam} {σ : St} (g : GR K n Γ σ) {v : V} {d : D} (r : Rep K n.Hb n.al v d) (i : Nat) : GR K n (Γ.set i (some d)) (σ.set i (some v)) := by
  refine ⟨by simp [g.len], fun j e h => ?_⟩
  by_cases hj : i = j
  · subst hj
    by_cases hl : i < Γ.length
    · rw [List.getElem?_set_self hl] at h
      cases h
      exact ⟨v, by rw [List.getElem?_set_self (by rw [← g.len]; exact hl)], r⟩
    · rw [List.getElem?_eq_none (by simp; omega)] at h; cases h
  · rw [List.getElem?_set_ne hj] at h ⊢
    exact g.at_ j e h
/-- the program's errors -/
inductive EK where
  | BadName | DuplicateName | UnknownName | BadCount | BadText | BadSet | BadCell | BadSide | BadLine | BadWish | UnlikeOutcomes | IsFirm | IsSmooth | NotFirm | NothingToUndo
  deriving DecidableEq
def EK.nm : EK → Str
  | .BadName => "BadName"
  | .DuplicateName => "DuplicateName"
  | .UnknownName => "UnknownName"
  | .BadCount => "BadCount"
  | .BadText => "BadText"
  | .BadSet => "BadSet"
  | .BadCell => "BadCell"
  | .BadSide => "BadSide"
  | .BadLine => "BadLine"
  | .BadWish => "BadWish"
  | .UnlikeOutcomes => "UnlikeOutcomes"
  | .IsFirm => "IsFirm"
  | .IsSmooth => "IsSmooth"
  | .NotFirm => "NotFirm"
  | .NothingToUndo => "NothingToUndo"
/-- an exception: its class and its own fields -/
structure Exn where
  k : EK
  fs : List (Str × D)
def ExR (K : PySem.W.Frag) (A n : Now) (cls : Value) (dd : Option Addr) (x : Exn) : Prop :=
  cls = .ref (He.ga K x.k.nm) ∧ ((dd = none ∧ x.fs = []) ∨ ∃ a us, dd = some a ∧ A.H a = none ∧ (n.Hb a = none ∧ a ∉ n.al ∧ a ∉ n.ph) ∧ n.H a = some (.xd us) ∧ (∀ f, us.lookup f = none ↔ x.fs.lookup f = none) ∧ ∀ f v, us.lookup f = some v → ∃ d, x.fs.lookup f = some d ∧ Rep K n.Hb n.al v d)
theorem ExR.anchor {K : PySem.W.Frag} {A A' n : Now} {cls : Value} {dd : Option Addr} {x : Exn} (h : ExR K A' n cls dd x) (s : Step A A') : ExR K A n cls dd x :=
  ⟨h.1, h.2.imp id fun ⟨a, us, h1, h2, h3⟩ => ⟨a, us, h1, s.dom a h2, h3⟩⟩
abbrev DTE := Gam → Mu → (D → Mu → Prop) → (Exn → Mu → Prop) → Prop
abbrev DTT := Gam → Mu → (Bool → Mu → Prop) → (Exn → Mu → Prop) → Prop
abbrev DTA := Gam → Mu → (List D → Mu → Prop) → (Exn → Mu → Prop) → Prop
structure DEnds where
  nx : Gam → Mu → Prop
  rt : D → Mu → Prop
  bk : Gam → Mu → Prop := fun _ _ => False
  ct : Gam → Mu → Prop := fun _ _ => False
  ex : Exn → Gam → Mu → Prop
abbrev DTS := DEnds → Gam → Mu → Prop
abbrev DSp := List D → Mu → (D → Mu → Prop) → (Exn → Mu → Prop) → Prop
section
variable (K : PySem.W.Frag) (W : WX)
/-- how what is wanted of an exception at the deep level reaches the layer's wish -/
def XLink (n : Now) (Γ : Gam) (σ : St) (Ed : Exn → Mu → Prop) : Prop := ∀ n' cls dd x μ', Step n n' → SR0 K n' μ' → ExR K n n' cls dd x → Ed x μ' → W cls dd σ n'.H
def lift (f : DTE) : TE := fun σ H Q => ∃ n Γ μ Qd Ed, n.H = H ∧ SR0 K n μ ∧ GR K n Γ σ ∧ f Γ μ Qd Ed ∧
  (∀ n' v d μ', Step n n' → SR0 K n' μ' → Rep K n'.Hb n'.al v d → Qd d μ' → Q v n'.H) ∧ XLink K W n Γ σ Ed
def liftT (f : DTT) : TT := fun σ H Q => ∃ n Γ μ Qd Ed, n.H = H ∧ SR0 K n μ ∧ GR K n Γ σ ∧ f Γ μ Qd Ed ∧
  (∀ n' b μ', Step n n' → SR0 K n' μ' → Qd b μ' → Q b n'.H) ∧ XLink K W n Γ σ Ed
def liftA (f : DTA) : TA := fun σ H Q => ∃ n Γ μ Qd Ed, n.H = H ∧ SR0 K n μ ∧ GR K n Γ σ ∧ f Γ μ Qd Ed ∧
  (∀ n' v d μ', Step n n' → SR0 K n' μ' → Reps K n'.Hb n'.al v d → Qd d μ' → Q v n'.H) ∧ XLink K W n Γ σ Ed
structure Links (A : Now) (Dd : DEnds) (Dn : Ends) : Prop where
  nx : ∀ n Γ σ μ, Step A n → SR0 K n μ → GR K n Γ σ → Dd.nx Γ μ → Dn.nx σ n.H
  bk : ∀ n Γ σ μ, Step A n → SR0 K n μ → GR K n Γ σ → Dd.bk Γ μ → Dn.bk σ n.H
  ct : ∀ n Γ σ μ, Step A n → SR0 K n μ → GR K n Γ σ → Dd.ct Γ μ → Dn.ct σ n.H
  rt : ∀ n v d μ, Step A n → SR0 K n μ → Rep K n.Hb n.al v d → Dd.rt d μ → Dn.rt v n.H
  ex : ∀ n Γ σ μ cls dd x, Step A n → SR0 K n μ → GR K n Γ σ → ExR K A n cls dd x → Dd.ex x Γ μ → W cls dd σ n.H
def liftS (T : DTS) : TS := fun Dn σ H => ∃ A n Γ μ Dd, n.H = H ∧ Step A n ∧ SR0 K n μ ∧ GR K n Γ σ ∧ T Dd Γ μ ∧ Links K W A Dd Dn
end
abbrev DE (X : Cx) (W : WX) (e : Expr) (f : DTE) : Prop := PE X e (lift X.K W f)
abbrev DT (X : Cx) (W : WX) (e : Expr) (f : DTT) : Prop := PT X e (liftT X.K W f)
abbrev DA (X : Cx) (W : WX) (es : List Expr) (f : DTA) : Prop := PA X es (liftA X.K W f)
abbrev DS (X : Cx) (W : WX) (st : Stmt) (T : DTS) : Prop := PS X st (liftS X.K W T)
abbrev DSs (X : Cx) (W : WX) (st : List Stmt) (T : DTS) : Prop := PSs X st (liftS X.K W T)
section
variable {X : Cx} {e : Expr} {es : List Expr} {st : Stmt} {sts : List Stmt}
theorem PE.imp {t t' : TE} (h : PE X e t) (hi : ∀ σ H Q, t' σ H Q → t σ H Q) : PE X e t' := ⟨fun pins s σ H Q I q => h.run pins s σ H Q I (hi _ _ _ q)⟩
theorem PT.imp {t t' : TT} (h : PT X e t) (hi : ∀ σ H Q, t' σ H Q → t σ H Q) : PT X e t' := ⟨fun pins s σ H Q I q => h.run pins s σ H Q I (hi _ _ _ q)⟩
theorem PA.imp {t t' : TA} (h : PA X es t) (hi : ∀ σ H Q, t' σ H Q → t σ H Q) : PA X es t' := ⟨fun pos pins s σ H Q I q => h.run pos pins s σ H Q I (hi _ _ _ q)⟩
theorem PS.imp {t t' : TS} (h : PS X st t) (hi : ∀ Dn σ H, t' Dn σ H → t Dn σ H) : PS X st t' := ⟨fun pins s σ H Q I q => h.run pins s σ H Q I (hi _ _ _ q)⟩
theorem PSs.imp {t t' : TS} (h : PSs X sts t) (hi : ∀ Dn σ H, t' Dn σ H → t Dn σ H) : PSs X sts t' := ⟨fun pins s σ H Q I q => h.run pins s σ H Q I (hi _ _ _ q)⟩
end
theorem XLink.step {K : PySem.W.Frag} {W : WX} {n n' : Now} {Γ : Gam} {σ : St} {Ed : Exn → Mu → Prop} (x : XLink K W n Γ σ Ed) (s : Step n n') : XLink K W n' Γ σ Ed :=
  fun n2 cls dd y μ s2 h1 h2 h3 => x n2 cls dd y μ (s.trans s2) h1 (h2.anchor s) h3
end DV
namespace DV
open PySem L2
section
variable {K : PySem.W.Frag} {n n' : Now} {μ : Mu} {a p : Addr} {o : HO}
theorem OrcAt.grow {H H' : Hp} {a : Addr} {ph : List Addr} {k : Nat × Bool} (h : OrcAt H a ph k) (ha : H' a = H a) (hp : ∀ b ∈ ph, H' b = H b) : OrcAt H' a ph k := by
  obtain ⟨a0, xs, y, j, h1, h2, hl, hj, hk, hc⟩ := h
  rcases hc with ⟨hv, a1, ys, e1, e2, e3, e4, e5, e6, e7⟩ | ⟨hv, i, e1, e2, e3, e4⟩
  · subst e2
    exact ⟨a0, xs, y, j, ha.trans h1, (hp a0 (by simp)).trans h2, hl, hj, hk, .inl ⟨hv, a1, ys, e1, rfl, e3, e4, (hp a1 (by simp)).trans e5, e6, e7⟩⟩
  · subst e2
    exact ⟨a0, xs, y, j, ha.trans h1, (hp a0 (by simp)).trans h2, hl, hj, hk, .inr ⟨hv, i, e1, rfl, e3, e4⟩⟩
theorem CellAt.grow {c : Cell} (h : CellAt K n a c) (ha : n'.H a = n.H a) (hb : n.Hb a = none → n'.Hb a = none) (s : Same n.Hb n'.Hb) (pr : n.al <+: n'.al) (hph : n'.ph = n.ph) (hp : ∀ b ∈ n.ph, n'.H b = n.H b) : CellAt K n' a c := by
  cases c with
  | gone => trivial
  | lst ds => obtain ⟨h0, vs, h1, h2⟩ := h; exact ⟨hb h0, vs, ha.trans h1, h2.mono s pr⟩
  | dct kvs => obtain ⟨h0, vs, h1, h2, h3⟩ := h; exact ⟨hb h0, vs, ha.trans h1, h2, h3.mono s pr⟩
  | dtp kvs => obtain ⟨h0, vs, h1, h2, h3⟩ := h; exact ⟨hb h0, vs, ha.trans h1, h2, h3.mono s pr⟩
  | ins C fs => obtain ⟨h0, dx, vs, h1, h2, h3⟩ := h; exact ⟨hb h0, dx, vs, ha.trans h1, h2, h3.mono s pr⟩
  | orc k => obtain ⟨h0, h1⟩ := h; exact ⟨hb h0, by rw [hph]; exact h1.grow ha hp⟩
  | exc dd fs => obtain ⟨h0, he, us, h1, h2, h3⟩ := h; exact ⟨hb h0, he, us, ha.trans h1, h2, fun f v e => let ⟨d, e1, e2⟩ := h3 f v e; ⟨d, e1, e2.mono s pr⟩⟩
theorem SR0.hb (s : SR0 K n μ) (h : n.H p = none) : n.Hb p = none := s.same.free h
theorem SR0.nal (s : SR0 K n μ) (h : n.H p = none) : p ∉ n.al := fun z => s.alh p z h
theorem SR0.nph (s : SR0 K n μ) (h : n.H p = none) : p ∉ n.ph := fun z => (s.phb p z).2.2 h
/-- a new object, fixed for ever -/
def Now.fix (n : Now) (p : Addr) (o : HO) : Now := ⟨upd n.Hb p o, upd n.H p o, n.al, n.ph⟩
/-- a new object beside -/
def Now.more (n : Now) (p : Addr) (o : HO) : Now := ⟨n.Hb, upd n.H p o, n.al, n.ph⟩
/-- a new cell -/
def Now.cell (n : Now) (p : Addr) (o : HO) : Now := ⟨n.Hb, upd n.H p o, n.al ++ [p], n.ph⟩
theorem same_upd {H : Hp} (h : H p = none) : Same H (upd H p o) := fun b u e => by rw [upd_ne (ne_of_none e h)]; exact e
theorem same_upd2 {H H' : Hp} (s : Same H H') : Same (upd H p o) (upd H' p o) := fun b u e => by
  by_cases hb : b = p
  · subst hb; rw [upd_same] at e ⊢; exact e
  · rw [upd_ne hb] at e ⊢; exact s _ _ e
theorem SR0.fix (s : SR0 K n μ) (h : n.H p = none) : SR0 K (n.fix p o) μ := by
  have hb := s.hb h
  refine ⟨same_upd2 s.same, s.len, s.nd, fun i a c e1 e2 => ?_, fun a ha => ?_, s.orc1, fun b hb' => ?_⟩
  · have hne : a ≠ p := fun z => s.nal h (z ▸ List.mem_of_getElem? e1)
    exact (s.cell i a c e1 e2).grow (n' := n.fix p o) (upd_ne hne) (fun z => (upd_ne hne).trans z) (same_upd hb) (List.prefix_refl _) rfl fun b hb' => upd_ne fun z => s.nph h (z ▸ hb')
  · have hne : a ≠ p := fun z => s.nal h (z ▸ ha)
    show upd n.H p o a ≠ none
    rw [upd_ne hne]; exact s.alh a ha
  · have hne : b ≠ p := fun z => s.nph h (z ▸ hb')
    obtain ⟨h1, h2, h3⟩ := s.phb b hb'
    exact ⟨(upd_ne hne).trans h1, h2, by show upd n.H p o b ≠ none; rw [upd_ne hne]; exact h3⟩
theorem Step.fix (s : SR0 K n μ) (h : n.H p = none) : Step n (n.fix p o) where
  same := Same.l (same_upd (s.hb h))
  pre := List.prefix_refl _
  newb := fun b u e => by
    by_cases hb : b = p
    · subst hb; exact .inr (.inl h)
    · exact .inl (nn (o := u) (by rw [← e]; exact (upd_ne hb).symm))
  newa := fun b h => .inl h
  newp := fun b h => .inl h
  keep := fun b u e _ _ _ => by show upd n.H p o b = _; rw [upd_ne (ne_of_none e h)]; exact e
  dom := fun b e => by
    by_cases hb : b = p
    · subst hb; exact h
    · rw [← e]; exact (upd_ne hb).symm
  fixd := fun b vs _ e => by show upd n.H p o b = _; rw [upd_ne (ne_of_none e h)]; exact e
theorem SR0.more (s : SR0 K n μ) (h : n.H p = none) : SR0 K (n.more p o) μ := by
  refine ⟨s.same.trans (same_upd h), s.len, s.nd, fun i a c e1 e2 => ?_, fun a ha => ?_, s.orc1, fun b hb' => ?_⟩
  · have hne : a ≠ p := fun z => s.nal h (z ▸ List.mem_of_getElem? e1)
    exact (s.cell i a c e1 e2).grow (n' := n.more p o) (upd_ne hne) (fun z => z) (Same.refl _) (List.prefix_refl _) rfl fun b hb' => upd_ne fun z => s.nph h (z ▸ hb')
  · have hne : a ≠ p := fun z => s.nal h (z ▸ ha)
    show upd n.H p o a ≠ none
    rw [upd_ne hne]; exact s.alh a ha
  · have hne : b ≠ p := fun z => s.nph h (z ▸ hb')
    obtain ⟨h1, h2, h3⟩ := s.phb b hb'
    exact ⟨h1, h2, by show upd n.H p o b ≠ none; rw [upd_ne hne]; exact h3⟩
theorem Step.more (h : n.H p = none) : Step n (n.more p o) where
  same := SameL.refl _
  pre := List.prefix_refl _
  newb := fun b u e => .inl (nn e)
  newa := fun b h => .inl h
  newp := fun b h => .inl h
  keep := fun b u e _ _ _ => by show upd n.H p o b = _; rw [upd_ne (ne_of_none e h)]; exact e
  dom := fun b e => by
    by_cases hb : b = p
    · subst hb; exact h
    · rw [← e]; exact (upd_ne hb).symm
  fixd := fun b vs _ e => by show upd n.H p o b = _; rw [upd_ne (ne_of_none e h)]; exact e
theorem Step.cell (h : n.H p = none) : Step n (n.cell p o) where
  same := SameL.refl _
  pre := List.prefix_append _ _
  newb := fun b u e => .inl (nn e)
  newa := fun b hb => by
    rcases List.mem_append.mp hb with z | z
    · exact .inl z
    · rw [List.mem_singleton.mp z]; exact .inr h
  newp := fun b h => .inl h
  keep := fun b u e _ _ _ => by show upd n.H p o b = _; rw [upd_ne (ne_of_none e h)]; exact e
  dom := fun b e => by
    by_cases hb : b = p
    · subst hb; exact h
    · rw [← e]; exact (upd_ne hb).symm
  fixd := fun b vs _ e => by show upd n.H p o b = _; rw [upd_ne (ne_of_none e h)]; exact e
theorem SR0.cellN (s : SR0 K n μ) (h : n.H p = none) {c : Cell} (hc : CellAt K (n.cell p o) p c) (ho : ∀ k, c ≠ .orc k) : SR0 K (n.cell p o) (μ ++ [c]) := by
  refine ⟨s.same.trans (same_upd h), by show (n.al ++ [p]).length = _; simp [s.len], ?_, fun i a d e1 e2 => ?_, fun a ha => ?_, fun i j x y e1 e2 => ?_, fun b hb' => ?_⟩
  · show (n.al ++ [p]).Nodup
    rw [List.nodup_append]
    exact ⟨s.nd, by simp, fun a ha b hb z => by rw [List.mem_singleton.mp hb] at z; exact s.nal h (z ▸ ha)⟩
  · have e1' : (n.al ++ [p])[i]? = some a := e1
    by_cases hi : i < n.al.length
    · rw [List.getElem?_append_left hi] at e1'
      rw [List.getElem?_append_left (by rw [← s.len]; exact hi)] at e2
      have hne : a ≠ p := fun z => s.nal h (z ▸ List.mem_of_getElem? e1')
      exact (s.cell i a d e1' e2).grow (n' := n.cell p o) (upd_ne hne) (fun z => z) (Same.refl _) (List.prefix_append _ _) rfl fun b hb' => upd_ne fun z => s.nph h (z ▸ hb')
    · rw [List.getElem?_append_right (by omega)] at e1'
      rw [List.getElem?_append_right (by rw [← s.len]; omega), ← s.len] at e2
      have hz : i - n.al.length = 0 := by
        have := (List.getElem?_eq_some_iff.mp e1').1
        simp at this; omega
      rw [hz] at e1' e2
      simp at e1' e2
      subst e1'; subst e2
      exact hc
  · rcases List.mem_append.mp ha with z | z
    · have hne : a ≠ p := fun y => s.nal h (y ▸ z)
      show upd n.H p o a ≠ none
      rw [upd_ne hne]; exact s.alh a z
    · rw [List.mem_singleton.mp z]
      show upd n.H p o p ≠ none
      rw [upd_same]; simp
  · have q : ∀ (i : Nat) x, (μ ++ [c])[i]? = some (.orc x) → μ[i]? = some (.orc x) := fun i x e => by
      by_cases hi : i < μ.length
      · rw [List.getElem?_append_left hi] at e; exact e
      · rw [List.getElem?_append_right (by omega)] at e
        have hz : i - μ.length = 0 := by
          have := (List.getElem?_eq_some_iff.mp e).1
          simp at this; omega
        rw [hz] at e; simp at e
        exact absurd e (ho x)
    exact s.orc1 i j x y (q i x e1) (q j y e2)
  · have hne : b ≠ p := fun z => s.nph h (z ▸ hb')
    obtain ⟨h1, h2, h3⟩ := s.phb b hb'
    refine ⟨h1, fun z => ?_, by show upd n.H p o b ≠ none; rw [upd_ne hne]; exact h3⟩
    rcases List.mem_append.mp z with z | z
    · exact h2 z
    · exact hne (List.mem_singleton.mp z)
theorem nodup_get {l : List Addr} (h : l.Nodup) {i j : Nat} {a : Addr} (h1 : l[i]? = some a) (h2 : l[j]? = some a) : i = j := by
  obtain ⟨p1, q1⟩ := List.getElem?_eq_some_iff.mp h1
  obtain ⟨p2, q2⟩ := List.getElem?_eq_some_iff.mp h2
  exact (List.getElem_inj h).mp (q1.trans q2.symm)
/-- a cell is written -/
theorem SR0.write (s : SR0 K n μ) {i : Nat} (hi : n.al[i]? = some a) (hb : n.Hb a = none) {c : Cell} (hc : CellAt K (n.more a o) a c) (ho : ∀ k, c ≠ .orc k) : SR0 K (n.more a o) (μ.set i c) := by
  refine ⟨fun b u e => ?_, by rw [List.length_set]; exact s.len, s.nd, fun j b d e1 e2 => ?_, fun b ha => ?_, fun j k x y e1 e2 => ?_, fun b hb' => ?_⟩
  · show upd n.H a o b = _
    rw [upd_ne (ne_of_none e hb)]; exact s.same _ _ e
  · have e1' : n.al[j]? = some b := e1
    by_cases hj : i = j
    · subst hj
      rw [hi] at e1'; cases e1'
      have hl : i < μ.length := by rw [← s.len]; exact (List.getElem?_eq_some_iff.mp hi).1
      rw [List.getElem?_set_self hl] at e2; cases e2
      exact hc
    · rw [List.getElem?_set_ne hj] at e2
      have hne : b ≠ a := fun z => hj (nodup_get s.nd hi (z ▸ e1'))
      exact (s.cell j b d e1' e2).grow (n' := n.more a o) (upd_ne hne) (fun z => z) (Same.refl _) (List.prefix_refl _) rfl fun b hb' => upd_ne fun z => (s.phb b hb').2.1 (z ▸ List.mem_of_getElem? hi)
  · show upd n.H a o b ≠ none
    by_cases hne : b = a
    · subst hne; rw [upd_same]; simp
    · rw [upd_ne hne]; exact s.alh b ha
  · have q : ∀ (j : Nat) x, (μ.set i c)[j]? = some (.orc x) → μ[j]? = some (.orc x) := fun j x e => by
      by_cases hj : i = j
      · subst hj
        have hl : i < μ.length := by rw [← s.len]; exact (List.getElem?_eq_some_iff.mp hi).1
        rw [List.getElem?_set_self hl] at e; cases e
        exact absurd rfl (ho x)
      · rw [List.getElem?_set_ne hj] at e; exact e
    exact s.orc1 j k x y (q j x e1) (q k y e2)
  · obtain ⟨h1, h2, h3⟩ := s.phb b hb'
    have hne : b ≠ a := fun z => h2 (z ▸ List.mem_of_getElem? hi)
    exact ⟨h1, h2, by show upd n.H a o b ≠ none; rw [upd_ne hne]; exact h3⟩
theorem Step.write {i : Nat} (hi : n.al[i]? = some a) (hb : n.Hb a = none) : Step n (n.more a o) where
  same := SameL.refl _
  pre := List.prefix_refl _
  newb := fun b u e => .inl (nn e)
  newa := fun b h => .inl h
  newp := fun b h => .inl h
  keep := fun b u e _ h1 _ => by
    show upd n.H a o b = _
    rw [upd_ne (show b ≠ a from fun z => h1 (z ▸ List.mem_of_getElem? hi))]; exact e
  dom := fun b e => by
    by_cases hb : b = a
    · subst hb; rw [show (n.more b o).H b = some o from upd_same] at e; cases e
    · rw [← e]; exact (upd_ne hb).symm
  fixd := fun b vs e1 e => by
    show upd n.H a o b = _
    rw [upd_ne (show b ≠ a from fun z => by rw [z, hb] at e1; cases e1)]; exact e
end
/-! ### what is seen of a value: fixed, or the cell as it stands -/
def lk (μ : Mu) : D → D
  | .ref l => match μ[l]? with
    | some (.lst xs) => .lst xs
    | some (.dct k) => .dct k
    | some (.ins C fs) => .ins C fs
    | _ => .ref l
  | d => d
section
variable {K : PySem.W.Frag} {n : Now} {μ : Mu} {v : V} {d : D}
theorem lk_ref {l : Nat} {e : D} (h : lk μ (.ref l) = e) (hne : e ≠ .ref l) : (∃ xs, μ[l]? = some (.lst xs) ∧ e = .lst xs) ∨ (∃ xs, μ[l]? = some (.dct xs) ∧ e = .dct xs) ∨ ∃ C fs, μ[l]? = some (.ins C fs) ∧ e = .ins C fs := by
  unfold lk at h
  dsimp only at h
  split at h
  · exact .inl ⟨_, by assumption, h.symm⟩
  · exact .inr (.inl ⟨_, by assumption, h.symm⟩)
  · exact .inr (.inr ⟨_, _, by assumption, h.symm⟩)
  · exact absurd h.symm hne
theorem see_lst {ds : List D} (s : SR0 K n μ) (r : Rep K n.Hb n.al v d) (h : lk μ d = .lst ds) : ∃ a vs, v = .ref a ∧ n.H a = some (.lst vs) ∧ Reps K n.Hb n.al vs ds := by
  cases r with
  | ref hl =>
    rcases lk_ref h (by simp) with ⟨xs, e, q⟩ | ⟨xs, e, q⟩ | ⟨C, fs, e, q⟩
    · cases q
      obtain ⟨_, vs, h1, h2⟩ := s.cell _ _ _ hl e
      exact ⟨_, vs, rfl, h1, h2⟩
    · cases q
    · cases q
  | lst hq hr => cases h; exact ⟨_, _, rfl, s.same _ _ hq, hr⟩
  | _ => cases h
theorem see_tup {ds : List D} (s : SR0 K n μ) (r : Rep K n.Hb n.al v d) (h : lk μ d = .tup ds) : ∃ a vs, v = .ref a ∧ n.H a = some (.tup vs) ∧ n.Hb a = some (.tup vs) ∧ Reps K n.Hb n.al vs ds := by
  cases r with
  | ref hl => rcases lk_ref h (by simp) with ⟨xs, e, q⟩ | ⟨xs, e, q⟩ | ⟨C, fs, e, q⟩ <;> cases q
  | tup hq hr => cases h; exact ⟨_, _, rfl, s.same _ _ hq, hq, hr⟩
  | _ => cases h
theorem see_dct {kvs : List (Key × D)} (s : SR0 K n μ) (r : Rep K n.Hb n.al v d) (h : lk μ d = .dct kvs) : ∃ a us, v = .ref a ∧ Rd n.H a (.dK us) ∧ kvs.map (·.1) = us.map (·.1) ∧ Reps K n.Hb n.al (us.map (·.2)) (kvs.map (·.2)) := by
  cases r with
  | ref hl =>
    rcases lk_ref h (by simp) with ⟨xs, e, q⟩ | ⟨xs, e, q⟩ | ⟨C, fs, e, q⟩
    · cases q
    · cases q
      obtain ⟨_, vs, h1, h2, h3⟩ := s.cell _ _ _ hl e
      exact ⟨_, vs, rfl, .inl h1, h2, h3⟩
    · cases q
  | dct hq hk hr =>
    cases h
    subst hk
    have hl := hr.length
    rw [List.length_map] at hl
    rw [List.map_fst_zip (by rw [List.length_map]; omega), List.map_snd_zip (by rw [List.length_map]; omega)]
    exact ⟨_, _, rfl, same_rd s.same hq, rfl, hr⟩
  | _ => cases h
theorem see_ins {C : Addr} {fs : List (Str × D)} (s : SR0 K n μ) (r : Rep K n.Hb n.al v d) (h : lk μ d = .ins C fs) : ∃ a dx us, v = .ref a ∧ n.H a = some (.ins C dx us) ∧ fs.map (·.1) = us.map (·.1) ∧ Reps K n.Hb n.al (us.map (·.2)) (fs.map (·.2)) := by
  cases r with
  | ref hl =>
    rcases lk_ref h (by simp) with ⟨xs, e, q⟩ | ⟨xs, e, q⟩ | ⟨C, fs, e, q⟩
    · cases q
    · cases q
    · cases q
      obtain ⟨_, dx, vs, h1, h2, h3⟩ := s.cell _ _ _ hl e
      exact ⟨_, dx, vs, rfl, h1, h2, h3⟩
  | ins hq hk hr =>
    cases h
    subst hk
    have hl := hr.length
    rw [List.length_map] at hl
    rw [List.map_fst_zip (by rw [List.length_map]; omega), List.map_snd_zip (by rw [List.length_map]; omega)]
    exact ⟨_, _, _, rfl, s.same _ _ hq, rfl, hr⟩
  | _ => cases h
end
end DV
namespace DV
open PySem L2
def dVar (i : Nat) : DTE := fun Γ μ Q _ => match Γ[i]? with
  | some (some d) => Q d μ
  | _ => False
def dC (d : D) : DTE := fun _ μ Q _ => Q d μ
def LV (K : PySem.W.Frag) (n : Now) (Qd : D → Mu → Prop) (Q : VK) : Prop := ∀ n' v d μ', Step n n' → SR0 K n' μ' → Rep K n'.Hb n'.al v d → Qd d μ' → Q v n'.H
theorem LV.now {K : PySem.W.Frag} {n : Now} {Qd : D → Mu → Prop} {Q : VK} (l : LV K n Qd Q) {μ : Mu} (s : SR0 K n μ) {v : V} {d : D} (r : Rep K n.Hb n.al v d) (q : Qd d μ) : Q v n.H := l n v d μ (Step.refl n) s r q
theorem LV.step {K : PySem.W.Frag} {n n' : Now} {Qd : D → Mu → Prop} {Q : VK} (l : LV K n Qd Q) (s : Step n n') : LV K n' Qd Q := fun n2 v d μ s2 => l n2 v d μ (s.trans s2)
/-- a new object, fixed -/
theorem LV.fixed {K : PySem.W.Frag} {n : Now} {Qd : D → Mu → Prop} {Q : VK} (l : LV K n Qd Q) {μ : Mu} (s : SR0 K n μ) {p : Addr} {o : HO} {d : D} (hp : n.H p = none) (r : Rep K (upd n.Hb p o) n.al (.ref p) d) (q : Qd d μ) : Q (.ref p) (upd n.H p o) :=
  l (n.fix p o) _ d μ (Step.fix s hp) (s.fix hp) r q
abbrev G2 := D → D → Mu → (D → Mu → Prop) → Prop
abbrev G1 := D → Mu → (D → Mu → Prop) → Prop
abbrev GN := List D → Mu → (D → Mu → Prop) → Prop
def Op2 (K : PySem.W.Frag) (r : R2) (g : G2) : Prop := ∀ n μ x y dx dy Qd (Q : VK), SR0 K n μ → Rep K n.Hb n.al x dx → Rep K n.Hb n.al y dy → g dx dy μ Qd → LV K n Qd Q → r x y n.H Q
def OpN (K : PySem.W.Frag) (r : List V → Hp → VK → Prop) (g : GN) : Prop := ∀ n μ xs ds Qd (Q : VK), SR0 K n μ → Reps K n.Hb n.al xs ds → g ds μ Qd → LV K n Qd Q → r xs n.H Q
def dBin (g : G2) (fa fb : DTE) : DTE := fun Γ μ Q E => fa Γ μ (fun x μ1 => fb Γ μ1 (fun y μ2 => g x y μ2 Q) E) E
def dUn (g : G1) (fa : DTE) : DTE := fun Γ μ Q E => fa Γ μ (fun x μ1 => g x μ1 Q) E
def dNil : DTA := fun _ μ Q _ => Q [] μ
def dCons (fa : DTE) (fr : DTA) : DTA := fun Γ μ Q E => fa Γ μ (fun x μ1 => fr Γ μ1 (fun xs μ2 => Q (x :: xs) μ2) E) E
def dCall (g : GN) (fa : DTA) : DTE := fun Γ μ Q E => fa Γ μ (fun xs μ1 => g xs μ1 Q) E
def dTest (fa : DTE) : DTT := fun Γ μ Q E => fa Γ μ (fun x μ1 => match x with | .bl b => Q b μ1 | _ => False) E
def dOp (sp : DSp) (fa : DTA) : DTE := fun Γ μ Q E => fa Γ μ (fun xs μ1 => sp xs μ1 Q E) E
section
variable {X : Cx} {W : WX} {e a b c : Expr} {es : List Expr} {pos : Pos} {fa fb fc : DTE} {ft : DTT} {fr : DTA}
theorem de_var {i : Nat} (h : PE X e (tVar i)) : DE X W e (dVar i) := PE.imp h fun σ H Q ⟨n, Γ, μ, Qd, Ed, hH, sr, gr, h, hq, hx⟩ => by
  subst hH
  unfold dVar at h
  split at h
  · rename_i d e
    obtain ⟨v, h1, h2⟩ := gr.at_ i d e
    exact ⟨v, h1, hq n v d μ (Step.refl n) sr h2 h⟩
  · exact h.elim
theorem de_c {v : V} {d : D} (r : ∀ K Hb al, Rep K Hb al v d) (h : PE X e (tC v)) : DE X W e (dC d) := PE.imp h fun σ H Q ⟨n, Γ, μ, Qd, Ed, hH, sr, gr, h, hq, hx⟩ => by
  subst hH
  exact hq n v d μ (Step.refl n) sr (r _ _ _) h
theorem de_int {i : Int} (h : PE X e (tC (.int i))) : DE X W e (dC (.int i)) := de_c (fun _ _ _ => .int i) h
theorem de_bl {i : Bool} (h : PE X e (tC (.bl i))) : DE X W e (dC (.bl i)) := de_c (fun _ _ _ => .bl i) h
theorem de_str {i : Str} (h : PE X e (tC (.str i))) : DE X W e (dC (.str i)) := de_c (fun _ _ _ => .str i) h
theorem de_non (h : PE X e (tC .non)) : DE X W e (dC .non) := de_c (fun _ _ _ => .non) h
/-- from a part's reading to what follows -/
theorem lift_go {K : PySem.W.Frag} {n : Now} {Γ : Gam} {μ : Mu} {σ : St} {Qd : D → Mu → Prop} {Ed : Exn → Mu → Prop} {Q : VK} (sr : SR0 K n μ) (gr : GR K n Γ σ) (h : fa Γ μ Qd Ed) (hq : LV K n Qd Q) (hx : XLink K W n Γ σ Ed) : lift K W fa σ n.H Q :=
  ⟨n, Γ, μ, Qd, Ed, rfl, sr, gr, h, hq, hx⟩
theorem liftA_go {K : PySem.W.Frag} {n : Now} {Γ : Gam} {μ : Mu} {σ : St} {Qd : List D → Mu → Prop} {Ed : Exn → Mu → Prop} {Q : List V → Hp → Prop} (sr : SR0 K n μ) (gr : GR K n Γ σ) (h : fr Γ μ Qd Ed)
    (hq : ∀ n' v d μ', Step n n' → SR0 K n' μ' → Reps K n'.Hb n'.al v d → Qd d μ' → Q v n'.H) (hx : XLink K W n Γ σ Ed) : liftA K W fr σ n.H Q :=
  ⟨n, Γ, μ, Qd, Ed, rfl, sr, gr, h, hq, hx⟩
theorem liftT_go {K : PySem.W.Frag} {n : Now} {Γ : Gam} {μ : Mu} {σ : St} {Qd : Bool → Mu → Prop} {Ed : Exn → Mu → Prop} {Q : Bool → Hp → Prop} (sr : SR0 K n μ) (gr : GR K n Γ σ) (h : ft Γ μ Qd Ed)
    (hq : ∀ n' b μ', Step n n' → SR0 K n' μ' → Qd b μ' → Q b n'.H) (hx : XLink K W n Γ σ Ed) : liftT K W ft σ n.H Q :=
  ⟨n, Γ, μ, Qd, Ed, rfl, sr, gr, h, hq, hx⟩
theorem two {K : PySem.W.Frag} {r : R2} {g : G2} (hg : Op2 K r g) (σ : St) (H : Hp) (Q : VK) (h : lift K W (dBin g fa fb) σ H Q) : tOp r (lift K W fa) (lift K W fb) σ H Q := by
  obtain ⟨n, Γ, μ, Qd, Ed, hH, sr, gr, h, hq, hx⟩ := h
  subst hH
  refine lift_go sr gr h (fun n1 x dx μ1 s1 r1 p1 q1 => lift_go r1 (gr.step s1) q1 (fun n2 y dy μ2 s2 r2 p2 q2 => ?_) (hx.step s1)) hx
  exact hg n2 μ2 x y dx dy Qd Q r2 (s2.rep p1) p2 q2 (LV.step hq (s1.trans s2))
theorem de_op {op : Operator} {r : R2} {g : G2} (ho : OpR X (binaryOp op) r) (hg : Op2 X.K r g) (ha : DE X W a fa) (hb : DE X W b fb) : DE X W (.BinOp a op b pos) (dBin g fa fb) := PE.imp (pe_op ho ha hb) (two hg)
theorem de_cmp {op : CmpOp} {r : R2} {g : G2} (ho : OpR X (compareOp op) r) (hg : Op2 X.K r g) (ha : DE X W a fa) (hb : DE X W b fb) (hm : behindInMarks op b = false := by rfl) : DE X W (.Compare a [op] [b] pos) (dBin g fa fb) := PE.imp (pe_cmpR ho ha hb hm) (two hg)
theorem de_ix {r : R2} {g : G2} (ho : IxR X r) (hg : Op2 X.K r g) (ha : DE X W a fa) (hb : DE X W b fb) (hs : PlainIx b := by exact fun _ _ => rfl) : DE X W (.Subscript a b pos) (dBin g fa fb) := PE.imp (pe_ix ho ha hb hs) (two hg)
/-! arguments -/
theorem da_nil : DA X W [] dNil := PA.imp pa_nil fun σ H Q ⟨n, Γ, μ, Qd, Ed, hH, sr, gr, h, hq, hx⟩ => by
  subst hH
  exact hq n [] [] μ (Step.refl n) sr .nil h
theorem da_cons (ha : DE X W e fa) (hr : DA X W es fr) (hs : starEach (e :: es) X.env = (false, eval e X.env) :: starEach es X.env := by rfl) : DA X W (e :: es) (dCons fa fr) := PA.imp (pa_cons ha hr hs) fun σ H Q ⟨n, Γ, μ, Qd, Ed, hH, sr, gr, h, hq, hx⟩ => by
  subst hH
  refine lift_go sr gr h (fun n1 x dx μ1 s1 r1 p1 q1 => liftA_go r1 (gr.step s1) q1 (fun n2 y dy μ2 s2 r2 p2 q2 => ?_) (hx.step s1)) hx
  exact hq n2 _ _ μ2 (s1.trans s2) r2 (.cons (s2.rep p1) p2) q2
/-! displays -/
def gLst : GN := fun ds μ Q => ds.length ≤ sizeLine ∧ Q (.lst ds) μ
def gTup : GN := fun ds μ Q => ds.length ≤ sizeLine ∧ Q (.tup ds) μ
/-- a list that will change: a cell -/
def gLstM : GN := fun ds μ Q => ds.length ≤ sizeLine ∧ Q (.ref μ.length) (μ ++ [.lst ds])
theorem nN {K : PySem.W.Frag} {r : List V → Hp → VK → Prop} {g : GN} (hg : OpN K r g) (σ : St) (H : Hp) (Q : VK) (h : lift K W (dCall g fr) σ H Q) : liftA K W fr σ H fun xs H1 => r xs H1 Q := by
  obtain ⟨n, Γ, μ, Qd, Ed, hH, sr, gr, h, hq, hx⟩ := h
  subst hH
  exact liftA_go sr gr h (fun n1 x dx μ1 s1 r1 p1 q1 => hg n1 μ1 x dx Qd Q r1 p1 q1 (LV.step hq s1)) hx
theorem rep_lst {K : PySem.W.Frag} {Hb : Hp} {al : List Addr} {p : Addr} {vs : List V} {ds : List D} (hp : Hb p = none) (r : Reps K Hb al vs ds) : Rep K (upd Hb p (.lst vs)) al (.ref p) (.lst ds) := .lst upd_same (r.mono (same_upd hp) (List.prefix_refl _))
theorem rep_tup {K : PySem.W.Frag} {Hb : Hp} {al : List Addr} {p : Addr} {vs : List V} {ds : List D} (hp : Hb p = none) (r : Reps K Hb al vs ds) : Rep K (upd Hb p (.tup vs)) al (.ref p) (.tup ds) := .tup upd_same (r.mono (same_upd hp) (List.prefix_refl _))
/-- a new list, as data or as a cell -/
theorem new_lst {K : PySem.W.Frag} {n : Now} {Qd : D → Mu → Prop} {Q : VK} (l : LV K n Qd Q) {μ : Mu} (s : SR0 K n μ) {p : Addr} {vs : List V} {ds : List D} (hp : n.H p = none) (r : Reps K n.Hb n.al vs ds) (q : Qd (.lst ds) μ) : Q (.ref p) (upd n.H p (.lst vs)) :=
  l.fixed s hp (rep_lst (s.hb hp) r) q
theorem new_tup {K : PySem.W.Frag} {n : Now} {Qd : D → Mu → Prop} {Q : VK} (l : LV K n Qd Q) {μ : Mu} (s : SR0 K n μ) {p : Addr} {vs : List V} {ds : List D} (hp : n.H p = none) (r : Reps K n.Hb n.al vs ds) (q : Qd (.tup ds) μ) : Q (.ref p) (upd n.H p (.tup vs)) :=
  l.fixed s hp (rep_tup (s.hb hp) r) q
theorem new_cell {K : PySem.W.Frag} {n : Now} {Qd : D → Mu → Prop} {Q : VK} (l : LV K n Qd Q) {μ : Mu} (s : SR0 K n μ) {p : Addr} {vs : List V} {ds : List D} (hp : n.H p = none) (r : Reps K n.Hb n.al vs ds) (q : Qd (.ref μ.length) (μ ++ [.lst ds])) : Q (.ref p) (upd n.H p (.lst vs)) := by
  refine l (n.cell p (.lst vs)) _ (.ref μ.length) (μ ++ [.lst ds]) (Step.cell hp) (s.cellN (c := .lst ds) hp ⟨s.hb hp, vs, upd_same, r.mono (Same.refl _) (List.prefix_append _ _)⟩ (fun k z => by cases z)) (.ref ?_) q
  show (n.al ++ [p])[μ.length]? = some p
  rw [← s.len]
  simp
theorem opn_lst {K : PySem.W.Frag} : OpN K (fun xs H Q => xs.length ≤ sizeLine ∧ ∀ p, H p = none → Q (.ref p) (upd H p (.lst xs))) gLst := fun n μ xs ds Qd Q s r h l => ⟨r.length ▸ h.1, fun p hp => new_lst l s hp r h.2⟩
theorem opn_lstM {K : PySem.W.Frag} : OpN K (fun xs H Q => xs.length ≤ sizeLine ∧ ∀ p, H p = none → Q (.ref p) (upd H p (.lst xs))) gLstM := fun n μ xs ds Qd Q s r h l => ⟨r.length ▸ h.1, fun p hp => new_cell l s hp r h.2⟩
theorem opn_tup {K : PySem.W.Frag} : OpN K (fun xs H Q => xs.length ≤ sizeLine ∧ ∀ p, H p = none → Q (.ref p) (upd H p (.tup xs))) gTup := fun n μ xs ds Qd Q s r h l => ⟨r.length ▸ h.1, fun p hp => new_tup l s hp r h.2⟩
theorem de_lst (h : DA X W es fr) : DE X W (.List es pos) (dCall gLst fr) := PE.imp (pe_lst h) fun σ H Q q => by
  have z := nN (opn_lst (K := X.K)) σ H Q q
  exact z
theorem de_lstM (h : DA X W es fr) : DE X W (.List es pos) (dCall gLstM fr) := PE.imp (pe_lst h) fun σ H Q q => by
  have z := nN (opn_lstM (K := X.K)) σ H Q q
  exact z
theorem de_tup {x1} (h : DA X W es fr) : DE X W (.Tuple es x1 pos) (dCall gTup fr) := PE.imp (pe_tup h) fun σ H Q q => by
  have z := nN (opn_tup (K := X.K)) σ H Q q
  exact z
/-! builtins by name -/
section
variable {x : Str} {id : String} {T : String} {r : List V → Hp → VK → Prop} {g : GN} {p : Pos}
theorem de_callB (hc : CallR X (.builtin id) r) (hg : OpN X.K r g) (hgl : Gl X x) (hm : X.mg x = none) (hv : bootBuiltins x = some (.builtin id)) (ha : DA X W (e :: es) fr) (hn : x ≠ "__name__" := by decide) (hdb : (x == ("__debug__" : Str)) = false := by decide)
    (he : starEach (e :: es) X.env = (false, eval e X.env) :: starEach es X.env := by rfl) (hpl : (backTo pos (starEach es X.env)).any (·.1) = false := by rfl) : DE X W (.Call (.Name x p) (e :: es) [] pos) (dCall g fr) :=
  PE.imp (pe_callB hc hgl hm hv ha hn hdb he hpl) fun σ H Q q => nN hg σ H Q q
theorem de_callTy (hc : CallR X (.type T) r) (hg : OpN X.K r g) (hgl : Gl X x) (hm : X.mg x = none) (hv : bootBuiltins x = some (.type T)) (ha : DA X W (e :: es) fr) (hn : x ≠ "__name__" := by decide) (hdb : (x == ("__debug__" : Str)) = false := by decide)
    (he : starEach (e :: es) X.env = (false, eval e X.env) :: starEach es X.env := by rfl) (hpl : (backTo pos (starEach es X.env)).any (·.1) = false := by rfl) : DE X W (.Call (.Name x p) (e :: es) [] pos) (dCall g fr) :=
  PE.imp (pe_callTy hc hgl hm hv ha hn hdb he hpl) fun σ H Q q => nN hg σ H Q q
end
/-! tests -/
theorem dt_val (h : DE X W e fa) (he : ∀ whole, isTrue e X.env whole = (do let v ← whole; standAt e.pos; holding [v] (truthy v)) := by intro _; rfl) : DT X W e (dTest fa) := PT.imp (pt_val h he) fun σ H Q ⟨n, Γ, μ, Qd, Ed, hH, sr, gr, h, hq, hx⟩ => by
  subst hH
  refine lift_go sr gr h (fun n1 x dx μ1 s1 r1 p1 q1 => ?_) hx
  cases p1 with
  | bl b => exact ⟨b, rfl, hq n1 b μ1 s1 r1 q1⟩
  | _ => exact q1.elim
def dAndT (ta tb : DTT) : DTT := fun Γ μ Q E => ta Γ μ (fun c μ1 => cond c (tb Γ μ1 Q E) (Q false μ1)) E
def dOrT (ta tb : DTT) : DTT := fun Γ μ Q E => ta Γ μ (fun c μ1 => cond c (Q true μ1) (tb Γ μ1 Q E)) E
def dNotT (ta : DTT) : DTT := fun Γ μ Q E => ta Γ μ (fun c μ1 => Q (!c) μ1) E
/-- and, or of values all but the last of which are True or False -/
def dAnd (ta tb : DTE) : DTE := fun Γ μ Q E => ta Γ μ (fun x μ1 => match x with | .bl c => cond c (tb Γ μ1 Q E) (Q (.bl false) μ1) | _ => False) E
def dOr (ta tb : DTE) : DTE := fun Γ μ Q E => ta Γ μ (fun x μ1 => match x with | .bl c => cond c (Q (.bl true) μ1) (tb Γ μ1 Q E) | _ => False) E
def dNot (ta : DTE) : DTE := fun Γ μ Q E => ta Γ μ (fun x μ1 => match x with | .bl c => Q (.bl (!c)) μ1 | _ => False) E
def dIfE (t : DTT) (ta tb : DTE) : DTE := fun Γ μ Q E => t Γ μ (fun c μ1 => cond c (ta Γ μ1 Q E) (tb Γ μ1 Q E)) E
theorem de_one {op} (h : DE X W a fa) : DE X W (.BoolOp op [a] pos) fa := pe_one h
theorem de_and {rest : List Expr} (ha : DE X W a fa) (hb : DE X W (.BoolOp .And (b :: rest) pos) fb) : DE X W (.BoolOp .And (a :: b :: rest) pos) (dAnd fa fb) := PE.imp (pe_and ha hb) fun σ H Q ⟨n, Γ, μ, Qd, Ed, hH, sr, gr, h, hq, hx⟩ => by
  subst hH
  refine lift_go sr gr h (fun n1 x dx μ1 s1 r1 p1 q1 => ?_) hx
  cases p1 with
  | bl c =>
    refine ⟨c, rfl, ?_⟩
    cases c with
    | true => exact iteT (lift_go r1 (gr.step s1) q1 (LV.step hq s1) (hx.step s1))
    | false => exact iteF (hq n1 _ _ μ1 s1 r1 (.bl false) q1)
  | _ => exact q1.elim
theorem de_not (ha : DE X W a fa) : DE X W (.UnaryOp .Not a pos) (dNot fa) := PE.imp (pe_not ha) fun σ H Q ⟨n, Γ, μ, Qd, Ed, hH, sr, gr, h, hq, hx⟩ => by
  subst hH
  refine lift_go sr gr h (fun n1 x dx μ1 s1 r1 p1 q1 => ?_) hx
  cases p1 with
  | bl c => exact ⟨c, rfl, hq n1 _ _ μ1 s1 r1 (.bl _) q1⟩
  | _ => exact q1.elim
theorem pw_and' {rest : List Expr} {ta tb : DTT} (ha : DT X W a ta) (hb : PW X (.BoolOp .And (b :: rest) pos) (liftT X.K W tb)) : PW X (.BoolOp .And (a :: b :: rest) pos) (liftT X.K W (dAndT ta tb)) := by
  have z := pw_and (pos := pos) ha hb
  refine ⟨fun whole pins s σ H Q I h => z.run whole pins s σ H Q I ?_⟩
  obtain ⟨n, Γ, μ, Qd, Ed, hH, sr, gr, h, hq, hx⟩ := h
  subst hH
  refine liftT_go sr gr h (fun n1 x μ1 s1 r1 q1 => ?_) hx
  cases x with
  | true => exact iteT (liftT_go r1 (gr.step s1) q1 (fun n2 b μ2 s2 => hq n2 b μ2 (s1.trans s2)) (hx.step s1))
  | false => exact iteF (hq n1 _ μ1 s1 r1 q1)
theorem pw_or' {rest : List Expr} {ta tb : DTT} (ha : DT X W a ta) (hb : PW X (.BoolOp .Or (b :: rest) pos) (liftT X.K W tb)) : PW X (.BoolOp .Or (a :: b :: rest) pos) (liftT X.K W (dOrT ta tb)) := by
  have z := pw_or (pos := pos) ha hb
  refine ⟨fun whole pins s σ H Q I h => z.run whole pins s σ H Q I ?_⟩
  obtain ⟨n, Γ, μ, Qd, Ed, hH, sr, gr, h, hq, hx⟩ := h
  subst hH
  refine liftT_go sr gr h (fun n1 x μ1 s1 r1 q1 => ?_) hx
  cases x with
  | true => exact iteT (hq n1 _ μ1 s1 r1 q1)
  | false => exact iteF (liftT_go r1 (gr.step s1) q1 (fun n2 b μ2 s2 => hq n2 b μ2 (s1.trans s2)) (hx.step s1))
theorem dt_not {ta : DTT} (ha : DT X W a ta) : DT X W (.UnaryOp .Not a pos) (dNotT ta) := PT.imp (pt_not ha) fun σ H Q ⟨n, Γ, μ, Qd, Ed, hH, sr, gr, h, hq, hx⟩ => by
  subst hH
  exact liftT_go sr gr h (fun n1 x μ1 s1 r1 q1 => hq n1 _ μ1 s1 r1 q1) hx
end
end DV
namespace DV
open PySem L2
/-! ### what has no reference in it -/
mutual
def D.pu : D → Bool
  | .ref _ => false
  | .lst xs => D.puL xs
  | .tup xs => D.puL xs
  | .dct kvs => D.puK kvs
  | .ins _ fs => D.puF fs
  | _ => true
def D.puL : List D → Bool
  | [] => true
  | x :: xs => x.pu && D.puL xs
def D.puK : List (Key × D) → Bool
  | [] => true
  | (_, x) :: xs => x.pu && D.puK xs
def D.puF : List (Str × D) → Bool
  | [] => true
  | (_, x) :: xs => x.pu && D.puF xs
end
theorem puL_iff : ∀ {xs : List D}, D.puL xs = true ↔ ∀ x ∈ xs, x.pu = true
  | [] => by simp [D.puL]
  | x :: xs => by simp [D.puL, puL_iff (xs := xs)]
theorem puK_eq : ∀ (xs : List (Key × D)), D.puK xs = D.puL (xs.map (·.2))
  | [] => rfl
  | (k, x) :: xs => by simp [D.puK, D.puL, puK_eq xs]
theorem puF_eq : ∀ (xs : List (Str × D)), D.puF xs = D.puL (xs.map (·.2))
  | [] => rfl
  | (k, x) :: xs => by simp [D.puF, D.puL, puF_eq xs]
def Cell.pu : Cell → Bool
  | .lst xs => D.puL xs
  | .dct kvs => D.puK kvs
  | .ins _ fs => D.puF fs
  | .exc _ fs => D.puF fs
  | .dtp kvs => D.puL (kvs.map (·.2))
  | _ => true
theorem puF_mem {fs : List (Str × D)} {f : Str} {d : D} (hp : D.puF fs = true) (h : fs.lookup f = some d) : d.pu = true := by
  induction fs with
  | nil => cases h
  | cons p l ih =>
    obtain ⟨g, y⟩ := p
    simp only [D.puF, Bool.and_eq_true] at hp
    rw [List.lookup_cons] at h
    split at h
    · cases h; exact hp.1
    · exact ih hp.2 h
section
variable {K : PySem.W.Frag} {Hb : Hp} {al al' : List Addr}
mutual
theorem Rep.any : ∀ {v : V} {d : D}, Rep K Hb al v d → d.pu = true → Rep K Hb al' v d
  | _, _, .non, _ => .non
  | _, _, .bl b, _ => .bl b
  | _, _, .int i, _ => .int i
  | _, _, .str x, _ => .str x
  | _, _, .ref h, q => by simp [D.pu] at q
  | _, _, .cls C, _ => .cls C
  | _, _, .scr h, _ => .scr h
  | _, _, .lst h r, q => .lst h (Reps.any r (by simpa [D.pu] using q))
  | _, _, .tup h r, q => .tup h (Reps.any r (by simpa [D.pu] using q))
  | _, _, .dct (us := us) (ks := ks) (ds := ds) h e r, q => .dct h e (Reps.any r (by
      have hl := r.length
      rw [List.length_map] at hl
      rw [D.pu, puK_eq, List.map_snd_zip (by rw [e, List.length_map]; omega)] at q
      exact q))
  | _, _, .ins (us := us) (ks := ks) (ds := ds) h e r, q => .ins h e (Reps.any r (by
      have hl := r.length
      rw [List.length_map] at hl
      rw [D.pu, puF_eq, List.map_snd_zip (by rw [e, List.length_map]; omega)] at q
      exact q))
theorem Reps.any : ∀ {vs : List V} {ds : List D}, Reps K Hb al vs ds → D.puL ds = true → Reps K Hb al' vs ds
  | _, _, .nil, _ => .nil
  | _, _, .cons h r, q => by
    simp [D.puL] at q
    exact .cons (Rep.any h q.1) (Reps.any r q.2)
end
mutual
/-- data that stood over a shorter list of cells -/
theorem Rep.back {K' : PySem.W.Frag} {Hb' : Hp} (p : al <+: al') : ∀ {v : V} {d : D} {v' : V}, Rep K Hb al v d → Rep K' Hb' al' v' d → Rep K' Hb' al v' d
  | _, _, _, .non, h => by cases h; exact .non
  | _, _, _, .bl b, h => by cases h; exact .bl b
  | _, _, _, .int b, h => by cases h; exact .int b
  | _, _, _, .str b, h => by cases h; exact .str b
  | _, _, _, .cls b, h => by cases h; exact .cls b
  | _, _, _, .scr b, h => by
    cases h with
    | scr h2 => exact .scr h2
  | _, _, _, .ref h1, h => by
    cases h with
    | ref h2 =>
      have := pre_get p h1
      rw [h2] at this; cases this
      exact .ref h1
  | _, _, _, .lst h1 r, h => by
    cases h with
    | lst h2 r2 => exact .lst h2 (Reps.back p r r2)
  | _, _, _, .tup h1 r, h => by
    cases h with
    | tup h2 r2 => exact .tup h2 (Reps.back p r r2)
  | _, _, _, .dct (us := us) (ks := ks) (ds := ds) h1 e1 r, h => by
    generalize hq : ks.zip ds = zs at h
    cases h with
    | dct h2 e2 r2 =>
      rename_i us2 ks2 ds2
      have l1 := r.length
      have l2 := r2.length
      rw [List.length_map] at l1 l2
      have e : ds = ds2 := by
        have z := congrArg (List.map Prod.snd) hq
        rw [List.map_snd_zip (by rw [e1, List.length_map]; omega), List.map_snd_zip (by rw [e2, List.length_map]; omega)] at z
        exact z
      exact .dct h2 e2 (Reps.back p r (e ▸ r2) |> fun q => e ▸ q)
  | _, _, _, .ins (us := us) (ks := ks) (ds := ds) h1 e1 r, h => by
    generalize hq : ks.zip ds = zs at h
    cases h with
    | ins h2 e2 r2 =>
      rename_i us2 ks2 ds2
      have l1 := r.length
      have l2 := r2.length
      rw [List.length_map] at l1 l2
      have e : ds = ds2 := by
        have z := congrArg (List.map Prod.snd) hq
        rw [List.map_snd_zip (by rw [e1, List.length_map]; omega), List.map_snd_zip (by rw [e2, List.length_map]; omega)] at z
        exact z
      exact .ins h2 e2 (Reps.back p r (e ▸ r2) |> fun q => e ▸ q)
theorem Reps.back {K' : PySem.W.Frag} {Hb' : Hp} (p : al <+: al') : ∀ {v : List V} {d : List D} {v' : List V}, Reps K Hb al v d → Reps K' Hb' al' v' d → Reps K' Hb' al v' d
  | _, _, _, .nil, h => by cases h; exact .nil
  | _, _, _, .cons h r, q => by
    cases q with
    | cons h2 r2 => exact .cons (Rep.back p h h2) (Reps.back p r r2)
end
end
/-! ### statements -/
def dNext : DTS := fun D Γ μ => D.nx Γ μ
def dSeq (t u : DTS) : DTS := fun D Γ μ => t { D with nx := u D } Γ μ
def dDrop (f : DTE) : DTS := fun D Γ μ => f Γ μ (fun _ μ1 => D.nx Γ μ1) (fun x μ1 => D.ex x Γ μ1)
def dRet (f : DTE) : DTS := fun D Γ μ => f Γ μ D.rt (fun x μ1 => D.ex x Γ μ1)
def dRetN : DTS := fun D Γ μ => D.rt .non μ
def dIf (t : DTT) (a b : DTS) : DTS := fun D Γ μ => t Γ μ (fun c μ1 => cond c (a D Γ μ1) (b D Γ μ1)) (fun x μ1 => D.ex x Γ μ1)
def dBreak : DTS := fun D Γ μ => D.bk Γ μ
def dCont : DTS := fun D Γ μ => D.ct Γ μ
abbrev DTG := D → Gam → Mu → (Gam → Mu → Prop) → (Exn → Mu → Prop) → Prop
def dName (i : Nat) : DTG := fun d Γ μ Q _ => Q (Γ.set i (some d)) μ
def dAsg (f : DTE) (g : DTG) : DTS := fun D Γ μ => f Γ μ (fun d μ1 => g d Γ μ1 D.nx (fun x μ2 => D.ex x Γ μ2)) (fun x μ1 => D.ex x Γ μ1)
section
variable (K : PySem.W.Frag) (W : WX)
def liftG (g : DTG) : TG := fun v σ H Q => ∃ n d Γ μ Qd Ed, n.H = H ∧ SR0 K n μ ∧ GR K n Γ σ ∧ Rep K n.Hb n.al v d ∧ g d Γ μ Qd Ed ∧
  (∀ n' Γ' σ' μ', Step n n' → SR0 K n' μ' → GR K n' Γ' σ' → Qd Γ' μ' → Q σ' n'.H) ∧ XLink K W n Γ σ Ed
end
abbrev DG (X : Cx) (W : WX) (tg : Expr) (g : DTG) : Prop := PG X tg (liftG X.K W g)
section
variable {X : Cx} {W : WX} {e c tg : Expr} {st : Stmt} {rest sa sb : List Stmt} {pos : Pos} {f : DTE} {t : DTT} {T U : DTS} {g : DTG}
theorem PG.imp {g g' : TG} (h : PG X tg g) (hi : ∀ v σ H Q, g' v σ H Q → g v σ H Q) : PG X tg g' :=
  ⟨fun u v pins s σ H Q I r q => h.run u v pins s σ H Q I r (hi _ _ _ _ q)⟩
theorem liftS_go {K : PySem.W.Frag} {A n : Now} {Γ : Gam} {μ : Mu} {σ : St} {Dd : DEnds} {Dn : Ends} (sa : Step A n) (sr : SR0 K n μ) (gr : GR K n Γ σ) (h : T Dd Γ μ) (l : Links K W A Dd Dn) : liftS K W T Dn σ n.H :=
  ⟨A, n, Γ, μ, Dd, rfl, sa, sr, gr, h, l⟩
theorem Links.x {K : PySem.W.Frag} {A n : Now} {Γ : Gam} {σ : St} {Dd : DEnds} {Dn : Ends} (l : Links K W A Dd Dn) (s : Step A n) (gr : GR K n Γ σ) : XLink K W n Γ σ (fun x μ1 => Dd.ex x Γ μ1) :=
  fun n' cls dd x μ' s' r' e q => l.ex n' Γ σ μ' cls dd x (s.trans s') r' (gr.step s') (e.anchor s) q
theorem dss_nil : DSs X W [] dNext := PSs.imp pss_nil fun Dn σ H ⟨A, n, Γ, μ, Dd, hH, sa, sr, gr, h, l⟩ => by
  subst hH; exact l.nx n Γ σ μ sa sr gr h
theorem dss_cons (h1 : DS X W st T) (h2 : DSs X W rest U) : DSs X W (st :: rest) (dSeq T U) := PSs.imp (pss_cons h1 h2) fun Dn σ H ⟨A, n, Γ, μ, Dd, hH, sa, sr, gr, h, l⟩ => by
  subst hH
  refine liftS_go sa sr gr h ⟨fun n' Γ' σ' μ' s' r' g' q => liftS_go s' r' g' q l, l.bk, l.ct, l.rt, l.ex⟩
theorem dss_one (h1 : DS X W st T) : DSs X W [st] T := pss_one h1
theorem ds_drop (h : DE X W e f) (hs : swapsWith e none pos.line X.env = pure false := by rfl) : DS X W (.Expr e pos) (dDrop f) := PS.imp (ps_expr h hs) fun Dn σ H ⟨A, n, Γ, μ, Dd, hH, sa, sr, gr, h, l⟩ => by
  subst hH
  exact lift_go sr gr h (fun n' v d μ' s' r' _ q => l.nx n' Γ σ μ' (sa.trans s') r' (gr.step s') q) (l.x sa gr)
theorem ds_ret (h : DE X W e f) : DS X W (.Return (some e) pos) (dRet f) := PS.imp (ps_ret h) fun Dn σ H ⟨A, n, Γ, μ, Dd, hH, sa, sr, gr, h, l⟩ => by
  subst hH
  exact lift_go sr gr h (fun n' v d μ' s' r' p q => l.rt n' v d μ' (sa.trans s') r' p q) (l.x sa gr)
theorem ds_if (hc : DT X W c t) (ha : DSs X W sa T) (hb : DSs X W sb U) : DS X W (.If c sa sb pos) (dIf t T U) := PS.imp (ps_if hc ha hb) fun Dn σ H ⟨A, n, Γ, μ, Dd, hH, sa, sr, gr, h, l⟩ => by
  subst hH
  refine liftT_go sr gr h (fun n' b μ' s' r' q => ?_) (l.x sa gr)
  cases b with
  | true => exact iteT (liftS_go (sa.trans s') r' (gr.step s') q l)
  | false => exact iteF (liftS_go (sa.trans s') r' (gr.step s') q l)
theorem dg_name {i : Nat} (h : PG X tg (gName i)) : DG X W tg (dName i) := PG.imp h fun v σ H Q ⟨n, d, Γ, μ, Qd, Ed, hH, sr, gr, rp, h, hq, hx⟩ => by
  subst hH
  exact hq n (Γ.set i (some d)) (σ.set i (some v)) μ (Step.refl n) sr (gr.set rp i) h
theorem ds_asg (he : DE X W e f) (hg : DG X W tg g) (hs : swapsWithSole [tg] e pos.line X.env = pure false := by rfl) (hw : swappedStores [tg] e X.env = pure none := by rfl)
    (h1 : (assignEach [tg] X.env).map (·.2) = [assign tg X.env] := by rfl) : DS X W (.Assign [tg] e pos) (dAsg f g) := PS.imp (ps_asg he hg hs hw h1) fun Dn σ H ⟨A, n, Γ, μ, Dd, hH, sa, sr, gr, h, l⟩ => by
  subst hH
  refine lift_go sr gr h (fun n' v d μ' s' r' p q => ?_) (l.x sa gr)
  exact ⟨n', d, Γ, μ', _, _, rfl, r', gr.step s', p, q, fun n2 Γ2 σ2 μ2 s2 r2 g2 q2 => l.nx n2 Γ2 σ2 μ2 ((sa.trans s').trans s2) r2 g2 q2, l.x (sa.trans s') (gr.step s')⟩
theorem ds_set {i : Nat} {x : Str} {pos' : Pos} (he : DE X W e f) (hN : X.N.Nodup) (hi : X.N[i]? = some x := by rfl) (hx : Loc X.env.scope x := by first | exact Or.inl rfl | exact Or.inr rfl) (hs : swapsWith e (some (.Name x pos')) pos.line X.env = pure false := by rfl) (hf : X.fn x = true ∨ X.env.scope.names.lookup x = some .local := by first | exact .inl rfl | exact .inr rfl | assumption) :
    DS X W (.Assign [.Name x pos'] e pos) (dAsg f (dName i)) := PS.imp (ps_set (i := i) (pos := pos) (pos' := pos') hN hi hx he hs hf) fun Dn σ H ⟨A, n, Γ, μ, Dd, hH, sa, sr, gr, h, l⟩ => by
  subst hH
  refine lift_go sr gr h (fun n' v d μ' s' r' p q => ?_) (l.x sa gr)
  exact l.nx n' (Γ.set i (some d)) (σ.set i (some v)) μ' (sa.trans s') r' ((gr.step s').set p i) q
end
end DV
namespace DV
open PySem L2
def spOf (K : PySem.W.Frag) (S : DSp) : Sp := fun vs H Q E => ∃ n ds μ Qd Ed, n.H = H ∧ SR0 K n μ ∧ Reps K n.Hb n.al vs ds ∧ S ds μ Qd Ed ∧ LV K n Qd Q ∧
  (∀ n' cls dd x μ', Step n n' → SR0 K n' μ' → ExR K n n' cls dd x → Ed x μ' → E cls dd n'.H)
section
variable {X : Cx} {W : WX} {k : Nat} {f : Addr} {fd : FuncData} {ps : List Str} {S : DSp} {x : Str} {p pos : Pos} {e : Expr} {es : List Expr} {fr : DTA}
theorem call_go {K : PySem.W.Frag} (σ : St) (H : Hp) (Q : VK) (h : lift K W (dOp S fr) σ H Q) : liftA K W fr σ H fun vs H1 => spOf K S vs H1 Q (WE W σ) := by
  obtain ⟨n, Γ, μ, Qd, Ed, hH, sr, gr, h, hq, hx⟩ := h
  subst hH
  exact liftA_go sr gr h (fun n1 x dx μ1 s1 r1 p1 q1 => ⟨n1, dx, μ1, Qd, Ed, rfl, r1, p1, q1, LV.step hq s1, hx.step s1⟩) hx
theorem de_fn (F : FnOk X.prog X.w X.K X.mg X.base (L2N.CX X.prog X.w) k f fd ps (spOf X.K S)) (hr : Room k X.A) (hg : Gl X x) (hm : X.mg x = some (.ref f)) (hk : PySem.W.keepIn X.K (.ref f) = true) (hb : Binds X.K fd ps []) (tk : L2N.Takes X W)
    (ha : DA X W (e :: es) fr) (hdb : (x == ("__debug__" : Str)) = false := by decide) (he : starEach (e :: es) X.env = (false, eval e X.env) :: starEach es X.env := by rfl) (hpl : (backTo pos (starEach es X.env)).any (·.1) = false := by rfl) :
    DE X W (.Call (.Name x p) (e :: es) [] pos) (dOp S fr) := PE.imp (pe_callS (E := WE W) F hr hg hm hk hb (fun σ => L2N.passAt tk σ) ha hdb he hpl) (fun σ H Q h => call_go σ H Q h)
end
/-! ### a def's end -/
def Upd (μ μ1 : Mu) : Prop := μ1.length = μ.length ∧ ∀ (i : Nat) c, μ1[i]? = some c → μ[i]? = some c ∨ c.pu = true
theorem Upd.refl (μ : Mu) : Upd μ μ := ⟨rfl, fun _ _ h => .inl h⟩
theorem Upd.set {μ μ1 : Mu} (u : Upd μ μ1) {l : Nat} {c : Cell} (hc : c.pu = true) : Upd μ (μ1.set l c) := by
  refine ⟨by rw [List.length_set]; exact u.1, fun i d h => ?_⟩
  by_cases hi : l = i
  · subst hi
    by_cases hl : l < μ1.length
    · rw [List.getElem?_set_self hl] at h; cases h; exact .inr hc
    · rw [List.getElem?_eq_none (by simp; omega)] at h; cases h
  · rw [List.getElem?_set_ne hi] at h; exact u.2 i d h
mutual
/-- a tree over cells beyond m, with the cells taken as they stand -/
inductive Fz (m : Nat) (μ : Mu) : D → D → Prop
  | pu {d} : d.pu = true → Fz m μ d d
  | cell {l ds es} : m ≤ l → μ[l]? = some (.lst ds) → FzL m μ ds es → Fz m μ (.ref l) (.lst es)
  | dcell {l kvs es} : m ≤ l → μ[l]? = some (.dct kvs) → FzL m μ (kvs.map (·.2)) es → Fz m μ (.ref l) (.dct ((kvs.map (·.1)).zip es))
  | icell {l C fs es} : m ≤ l → μ[l]? = some (.ins C fs) → FzL m μ (fs.map (·.2)) es → Fz m μ (.ref l) (.ins C ((fs.map (·.1)).zip es))
  | lst {ds es} : FzL m μ ds es → Fz m μ (.lst ds) (.lst es)
  | tup {ds es} : FzL m μ ds es → Fz m μ (.tup ds) (.tup es)
inductive FzL (m : Nat) (μ : Mu) : List D → List D → Prop
  | nil : FzL m μ [] []
  | cons {d e ds es} : Fz m μ d e → FzL m μ ds es → FzL m μ (d :: ds) (e :: es)
end
def FnEnd (μ : Mu) (d : D) (μ' : Mu) (Q : D → Mu → Prop) : Prop := Q d μ' ∨ ∃ μ1 loc, μ' = μ1 ++ loc ∧ Upd μ μ1 ∧
  ((d.pu = true ∧ Q d μ1) ∨ (∃ l, d = .ref l ∧ l < μ1.length ∧ Q d μ1) ∨
   (∃ l ds, d = .ref (μ1.length + l) ∧ loc[l]? = some (.lst ds) ∧ D.puL ds = true ∧ Q (.ref μ1.length) (μ1 ++ [.lst ds])) ∨
   (∃ l ds, d = .ref (μ1.length + l) ∧ loc[l]? = some (.lst ds) ∧ D.puL ds = true ∧ Q (.lst ds) μ1) ∨
   (∃ l ds, d = .ref (μ1.length + l) ∧ loc[l]? = some (.dct ds) ∧ D.puK ds = true ∧ Q (.ref μ1.length) (μ1 ++ [.dct ds])) ∨
   (∃ l ds, d = .ref (μ1.length + l) ∧ loc[l]? = some (.dct ds) ∧ D.puK ds = true ∧ Q (.dct ds) μ1) ∨
   (∃ e, Fz μ1.length (μ1 ++ loc) d e ∧ Q e μ1))
def FnExc (μ : Mu) (x : Exn) (μ' : Mu) (E : Exn → Mu → Prop) : Prop := ∃ μ1 loc, μ' = μ1 ++ loc ∧ Upd μ μ1 ∧ D.puF x.fs = true ∧ E x μ1
def dFn (μ : Mu) (Q : D → Mu → Prop) (E : Exn → Mu → Prop) : DEnds := { nx := fun _ μ' => FnEnd μ .non μ' Q, rt := fun d μ' => FnEnd μ d μ' Q, ex := fun x _ μ' => FnExc μ x μ' E }
theorem FnEnd.pure {μ μ1 loc : Mu} {d : D} {Q : D → Mu → Prop} (u : Upd μ μ1) (h : d.pu = true) (q : Q d μ1) : FnEnd μ d (μ1 ++ loc) Q := .inr ⟨μ1, loc, rfl, u, .inl ⟨h, q⟩⟩
theorem FnEnd.melt {μ μ1 loc : Mu} {d e : D} {Q : D → Mu → Prop} (u : Upd μ μ1) (h : Fz μ1.length (μ1 ++ loc) d e) (q : Q e μ1) : FnEnd μ d (μ1 ++ loc) Q := .inr ⟨μ1, loc, rfl, u, .inr (.inr (.inr (.inr (.inr (.inr ⟨e, h, q⟩)))))⟩
theorem FnEnd.here {μ μ' : Mu} {d : D} {Q : D → Mu → Prop} (q : Q d μ') : FnEnd μ d μ' Q := .inl q
section
variable {K : PySem.W.Frag} {A n : Now} {μ μ1 loc : Mu}
theorem exc_back {K' : PySem.W.Frag} {Hb Hb' : Hp} {al al' : List Addr} {us us0 : List (Str × V)} {fs : List (Str × D)} (p : al <+: al') (h5 : ∀ f, us0.lookup f = none ↔ fs.lookup f = none)
    (h4 : ∀ f v, us0.lookup f = some v → ∃ d, fs.lookup f = some d ∧ Rep K Hb al v d) (h3 : ∀ f v, us.lookup f = some v → ∃ d, fs.lookup f = some d ∧ Rep K' Hb' al' v d) :
    ∀ f v, us.lookup f = some v → ∃ d, fs.lookup f = some d ∧ Rep K' Hb' al v d := fun f v e => by
  obtain ⟨d, e1, e2⟩ := h3 f v e
  cases e0 : us0.lookup f with
  | none => rw [(h5 f).mp e0] at e1; cases e1
  | some v0 =>
    obtain ⟨d', e3, e4⟩ := h4 f v0 e0
    rw [e1] at e3; cases e3
    exact ⟨d, e1, Rep.back p e4 e2⟩
/-- the cells of the callee are let go -/
theorem trunc (s0 : SR0 K A μ) (st : Step A n) (sr : SR0 K n (μ1 ++ loc)) (u : Upd μ μ1) : SR0 K ⟨n.Hb, n.H, A.al, n.ph⟩ μ1 ∧ Step A ⟨n.Hb, n.H, A.al, n.ph⟩ := by
  have hl : A.al.length = μ1.length := s0.len.trans u.1.symm
  have hsub : ∀ a ∈ A.al, a ∈ n.al := fun a h => st.pre.subset h
  refine ⟨⟨sr.same, hl, s0.nd, fun i a c e1 e2 => ?_, fun a ha => sr.alh a (hsub a ha), fun i j x y e1 e2 => ?_, fun b hb => ?_⟩, ⟨st.same, List.prefix_refl _, st.newb, fun b h => .inl h, st.newp, st.keep, st.dom, st.fixd⟩⟩
  · have e1' : A.al[i]? = some a := e1
    have hi : i < μ1.length := by rw [← hl]; exact (List.getElem?_eq_some_iff.mp e1').1
    have e2' : (μ1 ++ loc)[i]? = some c := by rw [List.getElem?_append_left hi]; exact e2
    have q := sr.cell i a c (pre_get st.pre e1') e2'
    rcases u.2 i c e2 with h | h
    · have q0 := s0.cell i a c e1' h
      cases c with
      | gone => trivial
      | lst ds => obtain ⟨h0, vs, h1, h2⟩ := q; obtain ⟨_, vs0, _, h3⟩ := q0; exact ⟨h0, vs, h1, Reps.back st.pre h3 h2⟩
      | dct ds => obtain ⟨h0, vs, h1, hk, h2⟩ := q; obtain ⟨_, vs0, _, _, h3⟩ := q0; exact ⟨h0, vs, h1, hk, Reps.back st.pre h3 h2⟩
      | dtp ds => obtain ⟨h0, vs, h1, hk, h2⟩ := q; obtain ⟨_, vs0, _, _, h3⟩ := q0; exact ⟨h0, vs, h1, hk, Reps.back st.pre h3 h2⟩
      | ins C ds => obtain ⟨h0, dx, vs, h1, hk, h2⟩ := q; obtain ⟨_, _, vs0, _, _, h3⟩ := q0; exact ⟨h0, dx, vs, h1, hk, Reps.back st.pre h3 h2⟩
      | orc k => exact q
      | exc dd fs => obtain ⟨h0, he, us, h1, h2, h3⟩ := q; obtain ⟨_, _, us0, _, h5, h4⟩ := q0; exact ⟨h0, he, us, h1, h2, exc_back st.pre h5 h4 h3⟩
    · cases c with
      | gone => trivial
      | lst ds => obtain ⟨h0, vs, h1, h2⟩ := q; exact ⟨h0, vs, h1, h2.any h⟩
      | dct ds => obtain ⟨h0, vs, h1, hk, h2⟩ := q; exact ⟨h0, vs, h1, hk, h2.any (by rw [← puK_eq]; exact h)⟩
      | dtp ds => obtain ⟨h0, vs, h1, hk, h2⟩ := q; exact ⟨h0, vs, h1, hk, h2.any h⟩
      | ins C ds => obtain ⟨h0, dx, vs, h1, hk, h2⟩ := q; exact ⟨h0, dx, vs, h1, hk, h2.any (by rw [← puF_eq]; exact h)⟩
      | orc k => exact q
      | exc dd fs => obtain ⟨h0, he, us, h1, h2, h3⟩ := q; exact ⟨h0, he, us, h1, h2, fun f v e => let ⟨d, e1, e2⟩ := h3 f v e; ⟨d, e1, e2.any (puF_mem h e1)⟩⟩
  · have q : ∀ (i : Nat) x, μ1[i]? = some (.orc x) → (μ1 ++ loc)[i]? = some (.orc x) := fun i x e => by
      rw [List.getElem?_append_left (List.getElem?_eq_some_iff.mp e).1]; exact e
    exact sr.orc1 i j x y (q i x e1) (q j y e2)
  · obtain ⟨h1, h2, h3⟩ := sr.phb b hb
    exact ⟨h1, fun z => h2 (hsub b z), h3⟩
theorem new_at (s0 : SR0 K A μ) (st : Step A n) (sr : SR0 K n (μ1 ++ loc)) (u : Upd μ μ1) {l : Nat} {a : Addr} (h : n.al[μ1.length + l]? = some a) : a ∉ A.al ∧ A.H a = none := by
  have h1 : a ∉ A.al := fun z => by
    obtain ⟨i, hi, e⟩ := List.getElem_of_mem z
    have e1 : A.al[i]? = some a := by rw [List.getElem?_eq_getElem hi, e]
    have := nodup_get sr.nd (pre_get st.pre e1) h
    have := s0.len
    have := u.1
    omega
  refine ⟨h1, ?_⟩
  rcases st.newa a (List.mem_of_getElem? h) with z | z
  · exact absurd z h1
  · exact z
/-- one of them becomes data -/
theorem frozen (s0 : SR0 K A μ) (st : Step A n) (sr : SR0 K n (μ1 ++ loc)) (u : Upd μ μ1) {l : Nat} {a : Addr} {o : HO} (h : n.al[μ1.length + l]? = some a) (ho : n.H a = some o) (hb : n.Hb a = none) :
    SR0 K ⟨upd n.Hb a o, n.H, A.al, n.ph⟩ μ1 ∧ Step A ⟨upd n.Hb a o, n.H, A.al, n.ph⟩ := by
  obtain ⟨t1, t2⟩ := trunc s0 st sr u
  obtain ⟨na, nH⟩ := new_at s0 st sr u h
  have su : Same n.Hb (upd n.Hb a o) := same_upd hb
  refine ⟨⟨fun b v e => ?_, t1.len, t1.nd, fun i b c e1 e2 => ?_, t1.alh, t1.orc1, fun b hb' => ?_⟩, ⟨t2.same.trans (Same.l su), t2.pre, fun b v e => ?_, t2.newa, t2.newp, t2.keep, t2.dom, t2.fixd⟩⟩
  · by_cases hba : b = a
    · subst hba
      have e' : upd n.Hb b o b = some v := e
      rw [upd_same] at e'; cases e'; exact ho
    · have e' : upd n.Hb a o b = some v := e
      rw [upd_ne hba] at e'; exact sr.same _ _ e'
  · have hne : b ≠ a := fun z => na (z ▸ List.mem_of_getElem? e1)
    exact (t1.cell i b c e1 e2).grow (n' := ⟨upd n.Hb a o, n.H, A.al, n.ph⟩) rfl (fun z => (upd_ne hne).trans z) su (List.prefix_refl _) rfl fun _ _ => rfl
  · obtain ⟨h1, h2, h3⟩ := t1.phb b hb'
    have hne : b ≠ a := fun z => by
      subst z
      exact (sr.phb b hb').2.1 (List.mem_of_getElem? h)
    exact ⟨(upd_ne hne).trans h1, h2, h3⟩
  · by_cases hba : b = a
    · subst hba; exact .inr (.inl nH)
    · have e' : upd n.Hb a o b = some v := e
      rw [upd_ne hba] at e'; exact t2.newb b v e'
/-- one of them is handed on -/
theorem handed (s0 : SR0 K A μ) (st : Step A n) (sr : SR0 K n (μ1 ++ loc)) (u : Upd μ μ1) {l : Nat} {a : Addr} {c : Cell} (h : n.al[μ1.length + l]? = some a) (hc : loc[l]? = some c) (hp : c.pu = true) (ho : ∀ k, c ≠ .orc k) :
    SR0 K ⟨n.Hb, n.H, A.al ++ [a], n.ph⟩ (μ1 ++ [c]) ∧ Step A ⟨n.Hb, n.H, A.al ++ [a], n.ph⟩ := by
  obtain ⟨t1, t2⟩ := trunc s0 st sr u
  obtain ⟨na, nH⟩ := new_at s0 st sr u h
  have hl : A.al.length = μ1.length := s0.len.trans u.1.symm
  refine ⟨⟨t1.same, by simp [hl], ?_, fun i b d e1 e2 => ?_, fun b hb => ?_, fun i j x y e1 e2 => ?_, fun b hb' => ?_⟩, ⟨t2.same, List.prefix_append _ _, t2.newb, fun b hb => ?_, t2.newp, t2.keep, t2.dom, t2.fixd⟩⟩
  · show (A.al ++ [a]).Nodup
    rw [List.nodup_append]
    exact ⟨s0.nd, by simp, fun b hb c hc z => by rw [List.mem_singleton.mp hc] at z; exact na (z ▸ hb)⟩
  · have e1' : (A.al ++ [a])[i]? = some b := e1
    by_cases hi : i < A.al.length
    · rw [List.getElem?_append_left hi] at e1'
      rw [List.getElem?_append_left (by rw [← hl]; exact hi)] at e2
      exact (t1.cell i b d e1' e2).grow (n' := ⟨n.Hb, n.H, A.al ++ [a], n.ph⟩) rfl (fun z => z) (Same.refl _) (List.prefix_append _ _) rfl fun _ _ => rfl
    · rw [List.getElem?_append_right (by omega)] at e1'
      rw [List.getElem?_append_right (by rw [← hl]; omega), ← hl] at e2
      have hz : i - A.al.length = 0 := by
        have := (List.getElem?_eq_some_iff.mp e1').1
        simp at this; omega
      rw [hz] at e1' e2
      simp at e1' e2
      subst e1'; subst e2
      have q := sr.cell (μ1.length + l) a c h (by rw [List.getElem?_append_right (by omega)]; simpa using hc)
      cases c with
      | gone => trivial
      | lst ds => obtain ⟨h0, vs, h1, h2⟩ := q; exact ⟨h0, vs, h1, h2.any hp⟩
      | dct ds => obtain ⟨h0, vs, h1, hk, h2⟩ := q; exact ⟨h0, vs, h1, hk, h2.any (by rw [← puK_eq]; exact hp)⟩
      | dtp ds => obtain ⟨h0, vs, h1, hk, h2⟩ := q; exact ⟨h0, vs, h1, hk, h2.any hp⟩
      | ins C ds => obtain ⟨h0, dx, vs, h1, hk, h2⟩ := q; exact ⟨h0, dx, vs, h1, hk, h2.any (by rw [← puF_eq]; exact hp)⟩
      | orc k => exact absurd rfl (ho k)
      | exc dd fs => obtain ⟨h0, he, us, h1, h2, h3⟩ := q; exact ⟨h0, he, us, h1, h2, fun f v e => let ⟨d, e1, e2⟩ := h3 f v e; ⟨d, e1, e2.any (puF_mem hp e1)⟩⟩
  · rcases List.mem_append.mp hb with z | z
    · exact t1.alh b z
    · rw [List.mem_singleton.mp z]; exact sr.alh a (List.mem_of_getElem? h)
  · have q : ∀ (i : Nat) x, (μ1 ++ [c])[i]? = some (.orc x) → μ1[i]? = some (.orc x) := fun i x e => by
      by_cases hi : i < μ1.length
      · rw [List.getElem?_append_left hi] at e; exact e
      · rw [List.getElem?_append_right (by omega)] at e
        have hz : i - μ1.length = 0 := by
          have := (List.getElem?_eq_some_iff.mp e).1
          simp at this; omega
        rw [hz] at e; simp at e
        exact absurd e (ho x)
    exact t1.orc1 i j x y (q i x e1) (q j y e2)
  · obtain ⟨h1, h2, h3⟩ := t1.phb b hb'
    refine ⟨h1, fun z => ?_, h3⟩
    rcases List.mem_append.mp z with z | z
    · exact h2 z
    · rw [List.mem_singleton.mp z] at hb'
      exact (sr.phb a hb').2.1 (List.mem_of_getElem? h)
  · rcases List.mem_append.mp hb with z | z
    · exact .inl z
    · rw [List.mem_singleton.mp z]; exact .inr nH
/-- all of the callee's cells become data -/
def meltH (n : Now) (m : Nat) : Hp := fun a => if a ∈ n.al.drop m then n.H a else n.Hb a
theorem drop_idx {l : List Addr} {m : Nat} {a : Addr} (h : a ∈ l.drop m) : ∃ j, l[m + j]? = some a := by
  obtain ⟨j, hj, e⟩ := List.getElem_of_mem h
  refine ⟨j, ?_⟩
  rw [← List.getElem?_drop, List.getElem?_eq_getElem hj, e]
theorem melted (s0 : SR0 K A μ) (st : Step A n) (sr : SR0 K n (μ1 ++ loc)) (u : Upd μ μ1) :
    SR0 K ⟨meltH n μ1.length, n.H, A.al, n.ph⟩ μ1 ∧ Step A ⟨meltH n μ1.length, n.H, A.al, n.ph⟩ ∧ Same n.Hb (meltH n μ1.length) := by
  obtain ⟨t1, t2⟩ := trunc s0 st sr u
  have hl : A.al.length = μ1.length := s0.len.trans u.1.symm
  have nb : ∀ a, a ∈ n.al.drop μ1.length → a ∉ A.al ∧ A.H a = none := fun a h => by
    obtain ⟨j, e⟩ := drop_idx h
    exact new_at s0 st sr u e
  have su : Same n.Hb (meltH n μ1.length) := fun a o e => by
    unfold meltH
    split
    · exact sr.same _ _ e
    · exact e
  refine ⟨⟨fun b v e => ?_, t1.len, t1.nd, fun i b c e1 e2 => ?_, t1.alh, t1.orc1, fun b hb' => ?_⟩, ⟨t2.same.trans (Same.l su), t2.pre, fun b v e => ?_, t2.newa, t2.newp, t2.keep, t2.dom, t2.fixd⟩, su⟩
  · have e' : meltH n μ1.length b = some v := e
    unfold meltH at e'
    split at e'
    · exact e'
    · exact sr.same _ _ e'
  · have hne : b ∉ n.al.drop μ1.length := fun z => (nb b z).1 (List.mem_of_getElem? e1)
    exact (t1.cell i b c e1 e2).grow (n' := ⟨meltH n μ1.length, n.H, A.al, n.ph⟩) rfl (fun z => by show meltH n μ1.length b = none; unfold meltH; rw [if_neg hne]; exact z) su (List.prefix_refl _) rfl fun _ _ => rfl
  · obtain ⟨h1, h2, h3⟩ := t1.phb b hb'
    have hne : b ∉ n.al.drop μ1.length := fun z => (sr.phb b hb').2.1 (List.mem_of_mem_drop z)
    exact ⟨by show meltH n μ1.length b = none; unfold meltH; rw [if_neg hne]; exact h1, h2, h3⟩
  · have e' : meltH n μ1.length b = some v := e
    by_cases hm : b ∈ n.al.drop μ1.length
    · exact .inr (.inl (nb b hm).2)
    · unfold meltH at e'
      rw [if_neg hm] at e'
      exact t2.newb b v e'
theorem at_melt {m l : Nat} {a : Addr} {o : HO} (h : n.al[l]? = some a) (hm : m ≤ l) (ho : n.H a = some o) : meltH n m a = some o := by
  unfold meltH
  rw [if_pos]
  · exact ho
  · have : (n.al.drop m)[l - m]? = some a := by rw [List.getElem?_drop, show m + (l - m) = l from by omega]; exact h
    exact List.mem_of_getElem? this
mutual
theorem melt_rep {m : Nat} {al : List Addr} (sr : SR0 K n μ) (su : Same n.Hb (meltH n m)) : ∀ {d e : D}, Fz m μ d e → ∀ {v : V}, Rep K n.Hb n.al v d → Rep K (meltH n m) al v e
  | _, _, .pu h, _, r => (r.any h).mono su (List.prefix_refl _)
  | _, _, .cell hm e f, _, .ref hl => by
    obtain ⟨_, vs, h1, h2⟩ := sr.cell _ _ _ hl e
    exact .lst (at_melt hl hm h1) (melt_reps sr su f h2)
  | _, _, .dcell (kvs := kvs) hm e f, _, .ref hl => by
    obtain ⟨_, vs, h1, h2, h3⟩ := sr.cell _ _ _ hl e
    exact .dct (.inl (at_melt hl hm h1)) h2 (melt_reps sr su f h3)
  | _, _, .icell (fs := fs) hm e f, _, .ref hl => by
    obtain ⟨_, dx, vs, h1, h2, h3⟩ := sr.cell _ _ _ hl e
    exact .ins (at_melt hl hm h1) h2 (melt_reps sr su f h3)
  | _, _, .lst f, _, .lst h r => .lst (su _ _ h) (melt_reps sr su f r)
  | _, _, .tup f, _, .tup h r => .tup (su _ _ h) (melt_reps sr su f r)
theorem melt_reps {m : Nat} {al : List Addr} (sr : SR0 K n μ) (su : Same n.Hb (meltH n m)) : ∀ {d e : List D}, FzL m μ d e → ∀ {v : List V}, Reps K n.Hb n.al v d → Reps K (meltH n m) al v e
  | _, _, .nil, _, .nil => .nil
  | _, _, .cons f g, _, .cons r s => .cons (melt_rep sr su f r) (melt_reps sr su g s)
end
theorem zip_maps {α β γ : Type} (l : List (α × β)) (m : List (α × γ)) (h : l.map (·.1) = m.map (·.1)) : (m.map (·.1)).zip (l.map (·.2)) = l := by
  rw [← h]
  induction l with
  | nil => rfl
  | cons a l ih => exact (by simp only [List.map_cons, List.zip_cons_cons]; congr 1; exact List.zip_of_prod rfl rfl |>.symm ▸ rfl)
end
end DV
namespace DV
open PySem PySem.Spec PyProof.Rows L2
def start0 (N : List Str) (ds : List D) : Gam := ds.map some ++ List.replicate (N.length - ds.length) none
section
variable {K : PySem.W.Frag} {n : Now}
theorem gr_start {N : List Str} {vs : List V} {ds : List D} (r : Reps K n.Hb n.al vs ds) : GR K n (start0 N ds) (L2.start N vs) := by
  have hl := r.length
  refine ⟨by simp [start0, L2.start, hl], fun i d h => ?_⟩
  unfold start0 at h
  unfold L2.start
  by_cases hi : i < ds.length
  · rw [List.getElem?_append_left (by simpa using hi), List.getElem?_map] at h
    rw [List.getElem?_append_left (by simp [hl]; exact hi), List.getElem?_map]
    cases e : ds[i]? with
    | none => rw [e] at h; cases h
    | some d' =>
      rw [e] at h
      have h' : d' = d := by simpa using h
      subst h'
      obtain ⟨v, h1, h2⟩ := r.get e
      exact ⟨v, by rw [h1]; rfl, h2⟩
  · rw [List.getElem?_append_right (by simpa using hi)] at h
    have := List.mem_of_getElem? h
    rw [List.mem_replicate] at this
    exact absurd this.2 (by simp)
end
theorem fn_end {K : PySem.W.Frag} {A n : Now} {μ : Mu} {Qd : D → Mu → Prop} {Q : VK} (s0 : SR0 K A μ) (hq : LV K A Qd Q) {v : V} {d : D} {μ' : Mu} (st : Step A n) (sr : SR0 K n μ') (rp : Rep K n.Hb n.al v d) (h : FnEnd μ d μ' Qd) : Q v n.H := by
  rcases h with q | ⟨μ1, loc, rfl, u, h⟩
  · exact hq n v d μ' st sr rp q
  obtain ⟨t1, t2⟩ := trunc s0 st sr u
  have hl : A.al.length = μ1.length := s0.len.trans u.1.symm
  rcases h with ⟨hp, q⟩ | ⟨l, rfl, hlt, q⟩ | ⟨l, ds, rfl, e, hp, q⟩ | ⟨l, ds, rfl, e, hp, q⟩ | ⟨l, ds, rfl, e, hp, q⟩ | ⟨l, ds, rfl, e, hp, q⟩ | ⟨e, hf, q⟩
  · exact hq ⟨n.Hb, n.H, A.al, n.ph⟩ v d μ1 t2 t1 (rp.any hp) q
  · refine hq ⟨n.Hb, n.H, A.al, n.ph⟩ v (.ref l) μ1 t2 t1 ?_ q
    cases rp with
    | ref h1 =>
      refine .ref ?_
      show A.al[l]? = _
      obtain ⟨t, ht⟩ := st.pre
      rw [← ht, List.getElem?_append_left (by omega)] at h1
      exact h1
  rotate_right
  · obtain ⟨z1, z2, z3⟩ := melted s0 st sr u
    exact hq ⟨meltH n μ1.length, n.H, A.al, n.ph⟩ _ e _ z2 z1 (melt_rep sr z3 hf rp) q
  all_goals
    cases rp with
    | ref h1 =>
      have hc : (μ1 ++ loc)[μ1.length + l]? = loc[l]? := (by rw [List.getElem?_append_right (by omega)]; simp)
      rw [e] at hc
      have q1 := sr.cell _ _ _ h1 hc
      first
        | (obtain ⟨z1, z2⟩ := handed s0 st sr u h1 e hp (fun k z => by cases z)
           refine hq ⟨n.Hb, n.H, A.al ++ [_], n.ph⟩ _ (.ref μ1.length) _ z2 z1 (.ref ?_) q
           show (A.al ++ [_])[μ1.length]? = _
           rw [← hl]; simp)
        | (obtain ⟨hb, vs, hv, hr⟩ := q1
           obtain ⟨z1, z2⟩ := frozen s0 st sr u h1 hv hb
           refine hq ⟨upd n.Hb _ _, n.H, A.al, n.ph⟩ _ (.lst ds) _ z2 z1 (.lst upd_same ((hr.any hp).mono (same_upd hb) (List.prefix_refl _))) q)
        | (obtain ⟨hb, vs, hv, hk, hr⟩ := q1
           obtain ⟨z1, z2⟩ := frozen s0 st sr u h1 hv hb
           have hz : ds = (vs.map (·.1)).zip (ds.map (·.2)) := (zip_maps ds vs hk).symm
           refine hq ⟨upd n.Hb _ _, n.H, A.al, n.ph⟩ _ (.dct ds) _ z2 z1 ?_ q
           rw [hz]
           exact .dct (.inl upd_same) rfl ((hr.any (by rw [← puK_eq]; exact hp)).mono (same_upd hb) (List.prefix_refl _)))
theorem exr_trunc {K : PySem.W.Frag} {A n : Now} {al : List Addr} {cls : Value} {dd : Option Addr} {x : Exn} (h : ExR K A n cls dd x) (hp : D.puF x.fs = true) (hal : ∀ a ∈ al, a ∈ n.al) : ExR K A ⟨n.Hb, n.H, al, n.ph⟩ cls dd x := by
  obtain ⟨h1, h⟩ := h
  rcases h with h | ⟨a, us, h2, hA, hh, h3, h4, h5⟩
  · exact ⟨h1, .inl h⟩
  refine ⟨h1, .inr ⟨a, us, h2, hA, ⟨hh.1, fun z => hh.2.1 (hal a z), hh.2.2⟩, h3, h4, fun f v e => ?_⟩⟩
  obtain ⟨d, e1, e2⟩ := h5 f v e
  exact ⟨d, e1, e2.any (puF_mem hp e1)⟩
section
variable {P : Program} {w : World} {K : PySem.W.Frag} {mg : Str → Option Value} {base : Heap}
/-- THE RULE for a def, deep: its body's deep form, and the reading of it -/
theorem fun_deep {x qual : Str} {st : Stmt} {f : Addr} {fd : FuncData} {N ps : List Str} {k : Nat} {S : DSp} {T : DTS} (F : Fun K x qual st f fd) (Sc : FnScope N ps (defScope st)) (len : ∀ ds μ Q E, S ds μ Q E → ds.length = ps.length)
    (hb : ∀ (cdv : Value) (A : Around) (outer : List Env) (s : Shared) (H : Hp) (E : XK), Room k (A.deeper (envOfC qual (defScope st) s.heap.objs.size f cdv)) →
      DSs (cxOf (L2N.CX P w) P w K mg base N qual (defScope st) f cdv A outer s H E) (fun cls d _ H => E cls d H) (defBody st) T)
    (hr : ∀ ds μ Q E, S ds μ Q E → T (dFn μ Q E) (start0 N ds) μ) : FnOk P w K mg base (L2N.CX P w) (k + 1) f fd ps (spOf K S) := by
  obtain ⟨_, _, _, _, _, _, _, _, _, rfl, inK, code⟩ := F.ex
  refine fn_of inK code Sc (fun vs H Q E h => ?_) (fun A outer s H vs Q E room h => ⟨_, hb _ A outer s H E room, ?_⟩)
  · obtain ⟨n, ds, μ, Qd, Ed, _, _, r, h, _⟩ := h
    rw [r.length]; exact len ds μ Qd Ed h
  · obtain ⟨n, ds, μ, Qd, Ed, hH, sr, r, h, hq, hx⟩ := h
    subst hH
    refine ⟨n, n, start0 N ds, μ, dFn μ Qd Ed, rfl, Step.refl n, sr, gr_start r, hr ds μ Qd Ed h, ⟨fun n' Γ σ μ' s' r' _ q => ?_, fun _ _ _ _ _ _ _ q => q.elim, fun _ _ _ _ _ _ _ q => q.elim, fun n' v d μ' s' r' p q => ?_, fun n' Γ σ μ' cls dd y s' r' _ ex q => ?_⟩⟩
    · exact fn_end sr hq s' r' .non q
    · exact fn_end sr hq s' r' p q
    · obtain ⟨μ1, loc, rfl, u, hp, q⟩ := q
      obtain ⟨t1, t2⟩ := trunc sr s' r' u
      exact hx ⟨n'.Hb, n'.H, n.al, n'.ph⟩ cls dd y μ1 t2 t1 (exr_trunc ex hp fun a h => s'.pre.subset h) q
end
end DV
namespace DV
open PySem PySem.Spec PyProof.Rows L2
/-! ### what is walked -/
def Gd (src : Option (Nat × List D)) (μ : Mu) : Prop := match src with
  | none => True
  | some (l, ds) => μ[l]? = some (.lst ds)
/-- what a walk asks of a later look: what was fixed stays, the cells stand where they stood -/
structure SP (n n' : Now) : Prop where
  same : SameL n.Hb n'.Hb
  pre : n.al <+: n'.al
theorem Step.sp {n n' : Now} (s : Step n n') : SP n n' := ⟨s.same, s.pre⟩
theorem SP.rep {K : PySem.W.Frag} {n n' : Now} (s : SP n n') {v : V} {d : D} (h : Rep K n.Hb n.al v d) : Rep K n'.Hb n'.al v d := h.monoL s.same s.pre
theorem SP.trans {n n' n2 : Now} (a : SP n n') (b : SP n' n2) : SP n n2 := ⟨a.same.trans b.same, a.pre.trans b.pre⟩
structure DWalk (K : PySem.W.Frag) (n : Now) (J : It) (src : Option (Nat × List D)) (ds : List D) : Prop where
  goes : ∀ n2 μ2 i, SP n n2 → SR0 K n2 μ2 → Gd src μ2 → i < ds.length → J.go i n2.H
  stops : ∀ n2 μ2, SP n n2 → SR0 K n2 μ2 → Gd src μ2 → J.stop ds.length n2.H
  yields : ∀ n2 μ2 i x H' d, SP n n2 → SR0 K n2 μ2 → Gd src μ2 → ds[i]? = some d → J.yld i n2.H x H' → ∃ n3, n3.H = H' ∧ Step n2 n3 ∧ SR0 K n3 μ2 ∧ Rep K n3.Hb n3.al x d
theorem DWalk.step {K : PySem.W.Frag} {n n' : Now} {J : It} {src : Option (Nat × List D)} {ds : List D} (w : DWalk K n J src ds) (s : Step n n') : DWalk K n' J src ds :=
  ⟨fun n2 μ2 i s2 => w.goes n2 μ2 i (s.sp.trans s2), fun n2 μ2 s2 => w.stops n2 μ2 (s.sp.trans s2), fun n2 μ2 i x H' d s2 => w.yields n2 μ2 i x H' d (s.sp.trans s2)⟩
abbrev DTI := Gam → Mu → (Option (Nat × List D) → List D → Mu → Prop) → (Exn → Mu → Prop) → Prop
def liftI (K : PySem.W.Frag) (W : WX) (f : DTI) : TI := fun σ H R => ∃ n Γ μ Qd Ed, n.H = H ∧ SR0 K n μ ∧ GR K n Γ σ ∧ f Γ μ Qd Ed ∧
  (∀ n' src ds μ' J, Step n n' → SR0 K n' μ' → DWalk K n' J src ds → Qd src ds μ' → R J n'.H) ∧ XLink K W n Γ σ Ed
abbrev DI (X : Cx) (W : WX) (tg iter : Expr) (f : DTI) : Prop := PI X tg iter (liftI X.K W f)
/-- the signs of a text -/
def signs (z : Str) : List D := z.cps.toList.map fun c => D.str ⟨#[c]⟩
def dIter (f : DTE) : DTI := fun Γ μ Q E => f Γ μ (fun d μ1 => match d with
  | .lst ds => Q none ds μ1
  | .scr ns => Q none (ns.map D.int) μ1
  | .tup ds => Q none ds μ1
  | .str z => Q none (signs z) μ1
  | .ref l => (match μ1[l]? with | some (.lst ds) => Q (some (l, ds)) ds μ1 | _ => False)
  | _ => False) E
def irng (lo : Int) (n : Nat) : List D := (List.range n).map fun (i : Nat) => D.int (lo + i)
def dRange1 (f : DTE) : DTI := fun Γ μ Q E => f Γ μ (fun d μ1 => match d with
  | .int j => (-(2 ^ 62) ≤ j ∧ j < 2 ^ 62) ∧ Q none (irng 0 j.toNat) μ1
  | _ => False) E
def dRange2 (f g : DTE) : DTI := fun Γ μ Q E => f Γ μ (fun d μ1 => g Γ μ1 (fun e μ2 => match d, e with
  | .int i, .int j => (-(2 ^ 62) ≤ i ∧ i < 2 ^ 62 ∧ -(2 ^ 62) ≤ j ∧ j < 2 ^ 62) ∧ Q none (irng i (j - i).toNat) μ2
  | _, _ => False) E) E
section
variable {K : PySem.W.Frag} {n : Now} {μ : Mu}
theorem dw_list {a : Addr} {vs : List V} {ds : List D} (h : n.Hb a = some (.lst vs)) (r : Reps K n.Hb n.al vs ds) : DWalk K n (Itl K a) none ds := by
  have hl := r.length
  have w : Walk (Itl K a) vs.length (fun H => SqL K H a vs) (YAt vs) := walk_list
  have q : ∀ n2 μ2, SP n n2 → SR0 K n2 μ2 → SqL K n2.H a vs := fun n2 μ2 s sr => SqL.of (sr.same _ _ (s.same.lst h))
  refine ⟨fun n2 μ2 i s sr _ hi => w.goes i _ (hl ▸ hi) (q n2 μ2 s sr), fun n2 μ2 s sr _ => hl ▸ w.stops _ (q n2 μ2 s sr), fun n2 μ2 i x H' d s sr _ hd y => ?_⟩
  obtain ⟨rfl, hx⟩ := w.yields i _ x H' (hl ▸ (List.getElem?_eq_some_iff.mp hd).1) (q n2 μ2 s sr) y
  obtain ⟨v, h1, h2⟩ := r.get hd
  rw [hx] at h1; cases h1
  exact ⟨n2, rfl, Step.refl _, sr, s.rep h2⟩
theorem dw_scr {a : Addr} {ns : List Int} (h : SqL K n.Hb a (ns.map V.int)) : DWalk K n (Itl K a) none (ns.map D.int) := by
  have w : Walk (Itl K a) (ns.map V.int).length (fun H => SqL K H a (ns.map V.int)) (YAt (ns.map V.int)) := walk_list
  have hl : (ns.map V.int).length = (ns.map D.int).length := by simp
  have q : ∀ n2 μ2, SP n n2 → SR0 K n2 μ2 → SqL K n2.H a (ns.map V.int) := fun n2 μ2 s sr => sr.same.seq (s.same.seq h)
  refine ⟨fun n2 μ2 i s sr _ hi => w.goes i _ (hl ▸ hi) (q n2 μ2 s sr), fun n2 μ2 s sr _ => hl ▸ w.stops _ (q n2 μ2 s sr), fun n2 μ2 i x H' d s sr _ hd y => ?_⟩
  obtain ⟨rfl, hx⟩ := w.yields i _ x H' (hl ▸ (List.getElem?_eq_some_iff.mp hd).1) (q n2 μ2 s sr) y
  obtain ⟨v, h1, h2⟩ := (reps_ints (K := K) (Hb := n2.Hb) (al := n2.al) ns).get hd
  rw [hx] at h1; cases h1
  exact ⟨n2, rfl, Step.refl _, sr, h2⟩
theorem dw_tup {a : Addr} {vs : List V} {ds : List D} (h : n.Hb a = some (.tup vs)) (r : Reps K n.Hb n.al vs ds) : DWalk K n (Itt K a) none ds := by
  have hl := r.length
  have w : Walk (Itt K a) vs.length (fun H => SqT K H a vs) (YAt vs) := walk_tup
  have q : ∀ n2 μ2, SP n n2 → SR0 K n2 μ2 → SqT K n2.H a vs := fun n2 μ2 s sr => SqT.of (sr.same _ _ (s.same.tup h))
  refine ⟨fun n2 μ2 i s sr _ hi => w.goes i _ (hl ▸ hi) (q n2 μ2 s sr), fun n2 μ2 s sr _ => hl ▸ w.stops _ (q n2 μ2 s sr), fun n2 μ2 i x H' d s sr _ hd y => ?_⟩
  obtain ⟨rfl, hx⟩ := w.yields i _ x H' (hl ▸ (List.getElem?_eq_some_iff.mp hd).1) (q n2 μ2 s sr) y
  obtain ⟨v, h1, h2⟩ := r.get hd
  rw [hx] at h1; cases h1
  exact ⟨n2, rfl, Step.refl _, sr, s.rep h2⟩
theorem dw_str {z : Str} : DWalk K n (Its z) none (signs z) := by
  have hl : (signs z).length = z.cps.size := by simp [signs]
  have w : Walk (Its z) z.cps.size (fun _ => True) _ := walk_str
  refine ⟨fun n2 μ2 i s sr _ hi => w.goes i _ (hl ▸ hi) trivial, fun n2 μ2 s sr _ => hl ▸ w.stops _ trivial, fun n2 μ2 i x H' d s sr _ hd y => ?_⟩
  obtain ⟨rfl, c, hc, rfl⟩ := w.yields i _ x H' (hl ▸ (List.getElem?_eq_some_iff.mp hd).1) trivial y
  refine ⟨n2, rfl, Step.refl _, sr, ?_⟩
  have e : (signs z)[i]? = some (D.str ⟨#[c]⟩) := by
    unfold signs
    rw [List.getElem?_map, Array.getElem?_toList, hc]; rfl
  rw [hd] at e; cases e
  exact .str _
theorem dw_range {lo : Int} {k : Nat} : DWalk K n (Itr lo k) none (irng lo k) := by
  have hl : (irng lo k).length = k := by simp [irng]
  have w : Walk (Itr lo k) k (fun _ => True) _ := walk_range
  refine ⟨fun n2 μ2 i s sr _ hi => w.goes i _ (hl ▸ hi) trivial, fun n2 μ2 s sr _ => by rw [hl]; exact w.stops _ trivial, fun n2 μ2 i x H' d s sr _ hd y => ?_⟩
  have hi : i < k := hl ▸ (List.getElem?_eq_some_iff.mp hd).1
  obtain ⟨rfl, rfl⟩ := w.yields i _ x H' hi trivial y
  refine ⟨n2, rfl, Step.refl _, sr, ?_⟩
  have e : (irng lo k)[i]? = some (D.int (lo + i)) := by
    unfold irng
    rw [List.getElem?_map, List.getElem?_range hi]; rfl
  rw [hd] at e; cases e
  exact .int _
theorem dw_cell {l : Nat} {a : Addr} {ds : List D} (hl : n.al[l]? = some a) : DWalk K n (Itl K a) (some (l, ds)) ds := by
  have q : ∀ n2 μ2, SP n n2 → SR0 K n2 μ2 → Gd (some (l, ds)) μ2 → ∃ vs, SqL K n2.H a vs ∧ Reps K n2.Hb n2.al vs ds := fun n2 μ2 s sr g => by
    obtain ⟨_, vs, h1, h2⟩ := sr.cell l a (.lst ds) (pre_get s.pre hl) g
    exact ⟨vs, SqL.of h1, h2⟩
  have w : ∀ vs : List V, Walk (Itl K a) vs.length (fun H => SqL K H a vs) (YAt vs) := fun vs => walk_list
  refine ⟨fun n2 μ2 i s sr g hi => ?_, fun n2 μ2 s sr g => ?_, fun n2 μ2 i x H' d s sr g hd y => ?_⟩
  · obtain ⟨vs, h1, h2⟩ := q n2 μ2 s sr g
    exact (w vs).goes i _ (h2.length ▸ hi) h1
  · obtain ⟨vs, h1, h2⟩ := q n2 μ2 s sr g
    exact h2.length ▸ (w vs).stops _ h1
  · obtain ⟨vs, h1, h2⟩ := q n2 μ2 s sr g
    obtain ⟨rfl, hx⟩ := (w vs).yields i _ x H' (h2.length ▸ (List.getElem?_eq_some_iff.mp hd).1) h1 y
    obtain ⟨v, e1, e2⟩ := h2.get hd
    rw [hx] at e1; cases e1
    exact ⟨n2, rfl, Step.refl _, sr, e2⟩
end
def iAny (K : PySem.W.Frag) (tl : TE) : TI := fun σ H R => tl σ H fun x H1 => (∃ a, x = .ref a ∧ (∃ xs, SqL K H1 a xs) ∧ R (Itl K a) H1) ∨ (∃ a, x = .ref a ∧ (∃ xs, SqT K H1 a xs) ∧ R (Itt K a) H1) ∨ ∃ z, x = .str z ∧ R (Its z) H1
section
variable {X : Cx} {W : WX} {tg e a b : Expr} {p pos : Pos} {f g : DTE}
theorem pi_any {tl : TE} (hl : PE X e tl) : PI X tg e (iAny X.K tl) := by
  constructor
  intro pins s σ H R I h
  refine thn (hl.run pins s σ H _ I h) ?_
  rintro v s1 ⟨x, H1, I1, r1, q1⟩
  rcases q1 with ⟨a, rfl, ⟨xs, hq⟩, q⟩ | ⟨a, rfl, ⟨xs, hq⟩, q⟩ | ⟨z, rfl, q⟩
  · cases r1
    obtain ⟨its, rv, pl, hz⟩ := I1.list hq
    exact wpAny_pyIter_list pl.isList (pi_one (tk := s1.toks) I1 _ (turn_list a _) ⟨_, Heap.get?_push_size _ rfl, rfl, rfl⟩ q)
  · cases r1
    obtain ⟨its, rv, pl, hz⟩ := I1.tuple hq
    exact wpAny_pyIter_tuple (show s1.heap.IsTuple a its.toArray from pl) (pi_one (tk := s1.toks) I1 _ (turn_tuple a _) ⟨_, Heap.get?_push_size _ rfl, rfl, rfl⟩ q)
  · obtain ⟨t, rfl⟩ := r1
    cases ha : z.cps.all (· < 128) with
    | false => exact wpAny_pyIter_wide ha (pi_one (tk := s1.toks) I1 _ (turn_str _ z t "str_iterator" (.inr rfl)) ⟨_, Heap.get?_push_size _ rfl, rfl, rfl⟩ q)
    | true => exact wpAny_pyIter_ascii ha (pi_one (tk := s1.toks) I1 _ (turn_str _ z t "str_ascii_iterator" (.inl rfl)) ⟨_, Heap.get?_push_size _ rfl, rfl, rfl⟩ q)
theorem PI.imp {t t' : TI} (h : PI X tg e t) (hi : ∀ σ H R, t' σ H R → t σ H R) : PI X tg e t' := ⟨fun pins s σ H R I q => h.run pins s σ H R I (hi _ _ _ q)⟩
theorem di_any (h : DE X W e f) : DI X W tg e (dIter f) := PI.imp (pi_any h) fun σ H R ⟨n, Γ, μ, Qd, Ed, hH, sr, gr, h, hq, hx⟩ => by
  subst hH
  refine lift_go sr gr h (fun n1 x dx μ1 s1 r1 p1 q1 => ?_) hx
  cases p1 with
  | lst h1 h2 => exact .inl ⟨_, rfl, ⟨_, SqL.of (r1.same _ _ h1)⟩, hq n1 _ _ μ1 _ s1 r1 (dw_list h1 h2) q1⟩
  | tup h1 h2 => exact .inr (.inl ⟨_, rfl, ⟨_, SqT.of (r1.same _ _ h1)⟩, hq n1 _ _ μ1 _ s1 r1 (dw_tup h1 h2) q1⟩)
  | scr h1 => exact .inl ⟨_, rfl, ⟨_, r1.same.seq h1⟩, hq n1 _ _ μ1 _ s1 r1 (dw_scr h1) q1⟩
  | str z => exact .inr (.inr ⟨_, rfl, hq n1 _ _ μ1 _ s1 r1 dw_str q1⟩)
  | @ref l a hl =>
    dsimp only at q1
    split at q1
    · rename_i ds e
      obtain ⟨_, vs, e1, e2⟩ := r1.cell _ _ _ hl e
      exact .inl ⟨_, rfl, ⟨_, SqL.of e1⟩, hq n1 _ _ μ1 _ s1 r1 (dw_cell hl) q1⟩
    · exact q1.elim
  | _ => exact q1.elim
theorem di_range1 (hg : Gl X "range") (hm : X.mg "range" = none) (ha : DE X W a f) (hs : starEach [a] X.env = [(false, eval a X.env)] := by rfl) (hs2 : starEach [a] X.env = (false, eval a X.env) :: starEach [] X.env := by rfl) : DI X W tg (.Call (.Name "range" p) [a] [] pos) (dRange1 f) :=
  PI.imp (pi_range1 hg hm (pa_cons ha pa_nil hs2) hs) fun σ H R ⟨n, Γ, μ, Qd, Ed, hH, sr, gr, h, hq, hx⟩ => by
  subst hH
  refine lift_go sr gr h (fun n1 x dx μ1 s1 r1 p1 q1 => ?_) hx
  cases p1 with
  | int j => exact ⟨j, rfl, q1.1.1, q1.1.2, hq n1 _ _ μ1 _ s1 r1 dw_range q1.2⟩
  | _ => exact q1.elim
end
/-! ### for -/
def dLoop (src : Option (Nat × List D)) (g : DTG) (body : DTS) : List D → DEnds → Gam → Mu → Prop
  | [], D, Γ, μ => Gd src μ ∧ D.nx Γ μ
  | d :: ds, D, Γ, μ => Gd src μ ∧ g d Γ μ (fun Γ1 μ1 => body { D with nx := dLoop src g body ds D, ct := dLoop src g body ds D, bk := D.nx } Γ1 μ1) (fun x μ1 => D.ex x Γ μ1)
def dFor (fi : DTI) (g : DTG) (body : DTS) : DTS := fun D Γ μ => fi Γ μ (fun src ds μ1 => dLoop src g body ds D Γ μ1) (fun x μ1 => D.ex x Γ μ1)
section
variable {X : Cx} {W : WX} {tg iter c : Expr} {body : List Stmt} {pos : Pos} {fi : DTI} {g : DTG} {T : DTS} {t : DTT}
theorem ds_for (hp : PassesOwn (model X.prog X.w) X.A X.env X.xe) (hc : X.calm = true) (hi : DI X W tg iter fi) (hg : DG X W tg g) (hb : DSs X W body T)
    (hs : ∀ x, foldedSetIterable iter X.env x = pure x := by intro _; rfl) : DS X W (.For tg iter body [] pos) (dFor fi g T) :=
  PS.imp (ps_for hp hc hi hg hb hs) fun Dn σ H ⟨A, n, Γ, μ, Dd, hH, sa, sr, gr, h, l⟩ => by
  subst hH
  refine ⟨n, Γ, μ, _, _, rfl, sr, gr, h, fun n1 src ds μ1 J s1 r1 w q => ?_, l.x sa gr⟩
  -- the walk
  let Pv : Nat → L2.St → Hp → Prop := fun i σ' H' => ∃ n2 Γ2 μ2, n2.H = H' ∧ Step n1 n2 ∧ SR0 X.K n2 μ2 ∧ GR X.K n2 Γ2 σ' ∧ dLoop src g T (ds.drop i) Dd Γ2 μ2
  have hG : ∀ i Γ2 μ2, dLoop src g T (ds.drop i) Dd Γ2 μ2 → Gd src μ2 := fun i Γ2 μ2 z => by
    cases hd : ds.drop i with
    | nil => rw [hd] at z; exact z.1
    | cons d r => rw [hd] at z; exact z.1
  refine ⟨fun i m σ' H' => m = ds.length - i ∧ i ≤ ds.length ∧ Pv i σ' H', ⟨ds.length, by simp, Nat.zero_le _, n1, Γ, μ1, rfl, Step.refl _, r1, gr.step s1, q⟩, ?_⟩
  rintro i m σ' H' ⟨rfl, hi, n2, Γ2, μ2, rfl, s2, r2, g2, q2⟩
  have gd := hG i Γ2 μ2 q2
  by_cases hlt : i < ds.length
  · refine .inr ⟨w.goes n2 μ2 i s2.sp r2 gd hlt, Pv (i + 1), fun σ3 H3 p3 => ⟨ds.length - (i + 1), by omega, rfl, hlt, p3⟩, fun x H3 y => ?_⟩
    rw [List.drop_eq_getElem_cons hlt] at q2
    obtain ⟨n3, rfl, s3, r3, p3⟩ := w.yields n2 μ2 i x H3 ds[i] s2.sp r2 gd (by rw [List.getElem?_eq_getElem hlt]) y
    have st3 : Step A n3 := ((sa.trans s1).trans s2).trans s3
    refine ⟨n3, ds[i], Γ2, μ2, _, _, rfl, r3, g2.step s3, p3, q2.2, fun n4 Γ4 σ4 μ4 s4 r4 g4 q4 => ?_, l.x st3 (g2.step s3)⟩
    -- the body; its way back goes through n4
    refine liftS_go (A := n1) ((s2.trans s3).trans s4) r4 g4 q4 ⟨fun n5 Γ5 σ5 μ5 s5 r5 g5 q5 => ⟨n5, Γ5, μ5, rfl, s5, r5, g5, q5⟩, fun n5 Γ5 σ5 μ5 s5 r5 g5 q5 => l.nx n5 Γ5 σ5 μ5 ((sa.trans s1).trans s5) r5 g5 q5, fun n5 Γ5 σ5 μ5 s5 r5 g5 q5 => ⟨n5, Γ5, μ5, rfl, s5, r5, g5, q5⟩,
      fun n5 v d μ5 s5 r5 p5 q5 => l.rt n5 v d μ5 ((sa.trans s1).trans s5) r5 p5 q5, fun n5 Γ5 σ5 μ5 cls dd x s5 r5 g5 e5 q5 => l.ex n5 Γ5 σ5 μ5 cls dd x ((sa.trans s1).trans s5) r5 g5 (e5.anchor (sa.trans s1)) q5⟩
  · have e : i = ds.length := by omega
    subst e
    rw [List.drop_length] at q2
    exact .inl ⟨w.stops n2 μ2 s2.sp r2 gd, l.nx n2 Γ2 σ' μ2 ((sa.trans s1).trans s2) r2 g2 q2.2⟩
end
end DV
namespace DV
open PySem PySem.Spec PyProof.Rows L2
abbrev W0 : WX := fun _ _ _ _ => False
def wipeG (Γ : Gam) : List Nat → Gam
  | [] => Γ
  | v :: vs => (wipeG Γ vs).set v none
theorem wipeG_len (Γ : Gam) : ∀ vs, (wipeG Γ vs).length = Γ.length
  | [] => rfl
  | v :: vs => by simp [wipeG, wipeG_len Γ vs]
theorem GR.unset {K : PySem.W.Frag} {n : Now} {Γ : Gam} {σ : L2.St} (g : GR K n Γ σ) (i : Nat) : GR K n (Γ.set i none) (σ.set i none) := by
  refine ⟨by simp [g.len], fun j e h => ?_⟩
  by_cases hj : i = j
  · subst hj
    by_cases hl : i < Γ.length
    · rw [List.getElem?_set_self hl] at h; cases h
    · rw [List.getElem?_eq_none (by simp; omega)] at h; cases h
  · rw [List.getElem?_set_ne hj] at h ⊢
    exact g.at_ j e h
theorem GR.wipe {K : PySem.W.Frag} {n : Now} {Γ : Gam} {σ : L2.St} (g : GR K n Γ σ) : ∀ vs, GR K n (wipeG Γ vs) (L2.wipe σ vs)
  | [] => g
  | v :: vs => (GR.wipe g vs).unset v
/-- slots outside vs agree -/
theorem wipe_get (σ : L2.St) : ∀ (vs : List Nat) (k : Nat), (L2.wipe σ vs)[k]? = if k ∈ vs then (if k < σ.length then some none else none) else σ[k]?
  | [], k => by simp [L2.wipe]
  | v :: vs, k => by
    have ih := wipe_get σ vs k
    have hl := L2.wipe_length σ vs
    show ((L2.wipe σ vs).set v none)[k]? = _
    by_cases hk : v = k
    · subst hk
      simp only [List.mem_cons, true_or, if_true]
      by_cases hl2 : v < σ.length
      · rw [List.getElem?_set_self (by omega), if_pos hl2]
      · rw [List.getElem?_eq_none (by simp; omega), if_neg hl2]
    · rw [List.getElem?_set_ne hk, ih]
      have : (k ∈ v :: vs) ↔ k ∈ vs := by simp [Ne.symm hk]
      simp only [this]
theorem wipe_eq {σ σ' : L2.St} {vs : List Nat} (hl : σ'.length = σ.length) (h : ∀ k, k ∉ vs → σ'[k]? = σ[k]?) : L2.wipe σ' vs = L2.wipe σ vs := by
  apply List.ext_getElem?
  intro k
  rw [wipe_get, wipe_get, hl]
  split
  · rfl
  · rename_i hk; exact h k hk
/-- a comprehension's target -/
def CT (K : PySem.W.Frag) (vs : List Nat) (g : TG) (gd : D → Gam → Mu → (Gam → Prop) → Prop) : Prop :=
  ∀ n μ v d Γ σ (Qd : Gam → Prop) Q, SR0 K n μ → GR K n Γ σ → Rep K n.Hb n.al v d → gd d Γ μ Qd → (∀ Γ' σ', GR K n Γ' σ' → σ'.length = σ.length → (∀ k, k ∉ vs → σ'[k]? = σ[k]?) → Qd Γ' → Q σ' n.H) → g v σ n.H Q
def cName (i : Nat) : D → Gam → Mu → (Gam → Prop) → Prop := fun d Γ _ Q => Q (Γ.set i (some d))
theorem ct_name {K : PySem.W.Frag} {vs : List Nat} {i : Nat} (hi : i ∈ vs) : CT K vs (gName i) (cName i) := fun n μ v d Γ σ Qd Q sr gr rp h hq =>
  hq _ _ (gr.set rp i) (by simp) (fun k hk => List.getElem?_set_ne (show i ≠ k from fun z => hk (z ▸ hi))) h
/-- (x, y) as a target: a tuple of two -/
def cPair (i j : Nat) : D → Gam → Mu → (Gam → Prop) → Prop := fun d Γ _ Q => match d with
  | .tup [x, y] => Q ((Γ.set i (some x)).set j (some y))
  | _ => False
section
variable {K : PySem.W.Frag} {n n1 : Now} {μ : Mu} {p : Addr} {o : HO}
structure Hid (n : Now) (p : Addr) : Prop where
  b : n.Hb p = none
  a : p ∉ n.al
  ph : p ∉ n.ph
theorem SR0.other (s : SR0 K n μ) (h : Hid n p) : SR0 K (n.more p o) μ := by
  refine ⟨fun b u e => ?_, s.len, s.nd, fun i a c e1 e2 => ?_, fun a ha => ?_, s.orc1, fun b hb' => ?_⟩
  · show upd n.H p o b = _
    rw [upd_ne (ne_of_none e h.b)]; exact s.same _ _ e
  · have hne : a ≠ p := fun z => h.a (z ▸ List.mem_of_getElem? e1)
    exact (s.cell i a c e1 e2).grow (n' := n.more p o) (upd_ne hne) (fun z => z) (Same.refl _) (List.prefix_refl _) rfl fun b hb' => upd_ne fun z => h.ph (z ▸ hb')
  · have hne : a ≠ p := fun z => h.a (z ▸ ha)
    show upd n.H p o a ≠ none
    rw [upd_ne hne]; exact s.alh a ha
  · have hne : b ≠ p := fun z => h.ph (z ▸ hb')
    obtain ⟨h1, h2, h3⟩ := s.phb b hb'
    exact ⟨h1, h2, by show upd n.H p o b ≠ none; rw [upd_ne hne]; exact h3⟩
theorem Step.other (s : Step n1 n) (h : n1.H p = none) : Step n1 (n.more p o) where
  same := s.same
  pre := s.pre
  newb := s.newb
  newa := s.newa
  newp := s.newp
  keep := fun b u e h0 h1 h2 => by show upd n.H p o b = _; rw [upd_ne (ne_of_none e h)]; exact s.keep b u e h0 h1 h2
  dom := fun b e => by
    by_cases hb : b = p
    · subst hb; exact h
    · refine s.dom b ?_
      rw [← e]; exact (upd_ne hb).symm
  fixd := fun b vs e1 e => by show upd n.H p o b = _; rw [upd_ne (ne_of_none e h)]; exact s.fixd b vs e1 e
theorem Hid.step {n' : Now} (h : Hid n p) (hp : n.H p = some o) (s : Step n n') (nt : ∀ vs, o ≠ .tup vs := by intro _ z; cases z) : Hid n' p ∧ n'.H p = some o := by
  refine ⟨⟨?_, fun z => ?_, fun z => ?_⟩, s.keep p o hp h.b h.a h.ph⟩
  · cases e : n'.Hb p with
    | none => rfl
    | some u =>
      rcases s.newb p u e with z | z | z | ⟨vs, _, z | z⟩
      · exact absurd h.b z
      · rw [hp] at z; cases z
      · exact absurd z h.a
      · rw [hp] at z; exact absurd (Option.some.inj z) (nt vs)
      · exact absurd z h.ph
  · rcases s.newa p z with z | z
    · exact h.a z
    · rw [hp] at z; cases z
  · rcases s.newp p z with z | z
    · exact h.ph z
    · rw [hp] at z; cases z
theorem SR0.adopt (s : SR0 K n μ) (h : Hid n p) (hp : n.H p = some o) : SR0 K ⟨upd n.Hb p o, n.H, n.al, n.ph⟩ μ := by
  refine ⟨fun b u e => ?_, s.len, s.nd, fun i a c e1 e2 => ?_, s.alh, s.orc1, fun b hb' => ?_⟩
  · have e' : upd n.Hb p o b = some u := e
    by_cases hb : b = p
    · subst hb; rw [upd_same] at e'; cases e'; exact hp
    · rw [upd_ne hb] at e'; exact s.same _ _ e'
  · have hne : a ≠ p := fun z => h.a (z ▸ List.mem_of_getElem? e1)
    exact (s.cell i a c e1 e2).grow (n' := ⟨upd n.Hb p o, n.H, n.al, n.ph⟩) rfl (fun z => (upd_ne hne).trans z) (same_upd h.b) (List.prefix_refl _) rfl fun _ _ => rfl
  · have hne : b ≠ p := fun z => h.ph (z ▸ hb')
    obtain ⟨h1, h2, h3⟩ := s.phb b hb'
    exact ⟨(upd_ne hne).trans h1, h2, h3⟩
theorem Step.adopt (s : Step n1 n) (h1 : n1.H p = none) (h : Hid n p) : Step n1 ⟨upd n.Hb p o, n.H, n.al, n.ph⟩ where
  same := s.same.trans (Same.l (same_upd h.b))
  pre := s.pre
  newb := fun b u e => by
    have e' : upd n.Hb p o b = some u := e
    by_cases hb : b = p
    · subst hb; exact .inr (.inl h1)
    · rw [upd_ne hb] at e'; exact s.newb b u e'
  newa := s.newa
  newp := s.newp
  keep := s.keep
  dom := s.dom
  fixd := s.fixd
theorem SR0.adoptC (s : SR0 K n μ) (h : Hid n p) (hp : n.H p = some o) {c : Cell} (hc : CellAt K ⟨n.Hb, n.H, n.al ++ [p], n.ph⟩ p c) (ho : ∀ k, c ≠ .orc k) : SR0 K ⟨n.Hb, n.H, n.al ++ [p], n.ph⟩ (μ ++ [c]) := by
  refine ⟨s.same, by simp [s.len], ?_, fun i a d e1 e2 => ?_, fun a ha => ?_, fun i j x y e1 e2 => ?_, fun b hb' => ?_⟩
  · show (n.al ++ [p]).Nodup
    rw [List.nodup_append]
    exact ⟨s.nd, by simp, fun a ha b hb z => by rw [List.mem_singleton.mp hb] at z; exact h.a (z ▸ ha)⟩
  · have e1' : (n.al ++ [p])[i]? = some a := e1
    by_cases hi : i < n.al.length
    · rw [List.getElem?_append_left hi] at e1'
      rw [List.getElem?_append_left (by rw [← s.len]; exact hi)] at e2
      exact (s.cell i a d e1' e2).grow (n' := ⟨n.Hb, n.H, n.al ++ [p], n.ph⟩) rfl (fun z => z) (Same.refl _) (List.prefix_append _ _) rfl fun _ _ => rfl
    · rw [List.getElem?_append_right (by omega)] at e1'
      rw [List.getElem?_append_right (by rw [← s.len]; omega), ← s.len] at e2
      have hz : i - n.al.length = 0 := by
        have := (List.getElem?_eq_some_iff.mp e1').1
        simp at this; omega
      rw [hz] at e1' e2
      simp at e1' e2
      subst e1'; subst e2
      exact hc
  · rcases List.mem_append.mp ha with z | z
    · exact s.alh a z
    · rw [List.mem_singleton.mp z]
      show n.H p ≠ none
      rw [hp]; simp
  · have q : ∀ (i : Nat) x, (μ ++ [c])[i]? = some (.orc x) → μ[i]? = some (.orc x) := fun i x e => by
      by_cases hi : i < μ.length
      · rw [List.getElem?_append_left hi] at e; exact e
      · rw [List.getElem?_append_right (by omega)] at e
        have hz : i - μ.length = 0 := by
          have := (List.getElem?_eq_some_iff.mp e).1
          simp at this; omega
        rw [hz] at e; simp at e
        exact absurd e (ho x)
    exact s.orc1 i j x y (q i x e1) (q j y e2)
  · obtain ⟨h1, h2, h3⟩ := s.phb b hb'
    refine ⟨h1, fun z => ?_, h3⟩
    rcases List.mem_append.mp z with z | z
    · exact h2 z
    · exact h.ph (List.mem_singleton.mp z ▸ hb')
theorem Step.adoptC (s : Step n1 n) (h1 : n1.H p = none) : Step n1 ⟨n.Hb, n.H, n.al ++ [p], n.ph⟩ where
  same := s.same
  pre := s.pre.trans (List.prefix_append _ _)
  newb := s.newb
  newa := fun b hb => by
    rcases List.mem_append.mp hb with z | z
    · exact s.newa b z
    · rw [List.mem_singleton.mp z]; exact .inr h1
  newp := s.newp
  keep := s.keep
  dom := s.dom
  fixd := s.fixd
end
/-! ### comprehensions -/
def dYes : DTT := fun _ μ Q _ => Q true μ
def dCompL (src : Option (Nat × List D)) (g : D → Gam → Mu → (Gam → Prop) → Prop) (tt : DTT) (te : DTE) (Γ : Gam) : List D → List D → Mu → (List D → Mu → Prop) → Prop
  | [], acc, μ, Q => Gd src μ ∧ Q acc μ
  | d :: ds, acc, μ, Q => Gd src μ ∧ g d Γ μ fun Γ1 => tt Γ1 μ (fun b μ2 => cond b (te Γ1 μ2 (fun y μ3 => acc.length < sizeLine ∧ dCompL src g tt te Γ ds (acc ++ [y]) μ3 Q) (fun _ _ => False)) (dCompL src g tt te Γ ds acc μ2 Q)) (fun _ _ => False)
/-- as data (fz), or as a cell -/
def dFin (fz : Bool) (acc : List D) (μ : Mu) (Q : D → Mu → Prop) : Prop := match fz with
  | true => Q (.lst acc) μ
  | false => Q (.ref μ.length) (μ ++ [.lst acc])
def dComp (fz : Bool) (vs : List Nat) (fi : DTI) (g : D → Gam → Mu → (Gam → Prop) → Prop) (tt : DTT) (te : DTE) : DTE := fun Γ μ Q E => fi Γ μ (fun src ds μ1 => dCompL src g tt te (wipeG Γ vs) ds [] μ1 fun acc μ2 => dFin fz acc μ2 Q) E
theorem comp_go {K : PySem.W.Frag} {W : WX} {fz : Bool} {vs : List Nat} {fi : DTI} {g : TG} {gd : D → Gam → Mu → (Gam → Prop) → Prop} {tt : DTT} {te : DTE} (hg : CT K vs g gd) (σ : L2.St) (H : Hp) (Q : VK) (h : lift K W (dComp fz vs fi gd tt te) σ H Q) :
    tLc (liftI K W fi) g (liftT K W0 tt) (lift K W0 te) vs σ H Q := by
  obtain ⟨n, Γ, μ, Qd, Ed, hH, sr, gr, h, hq, hx⟩ := h
  subst hH
  refine ⟨n, Γ, μ, _, _, rfl, sr, gr, h, fun n1 src ds μ1 J s1 r1 w q p hp => ?_, hx⟩
  have gw := (gr.step s1).wipe vs
  refine ⟨fun i m H' => m = ds.length - i ∧ i ≤ ds.length ∧ ∃ n2 μ2 acc avs, n2.H = H' ∧ Step n1 n2 ∧ SR0 K n2 μ2 ∧ Hid n2 p ∧ n2.H p = some (.lst avs) ∧ Reps K n2.Hb n2.al avs acc ∧ dCompL src gd tt te (wipeG Γ vs) (ds.drop i) acc μ2 (fun acc μ2 => dFin fz acc μ2 Qd),
    ⟨ds.length, by simp, Nat.zero_le _, n1.more p (.lst []), μ1, [], [], rfl, Step.more hp, r1.more hp, ⟨r1.hb hp, r1.nal hp, r1.nph hp⟩, upd_same, .nil, q⟩, ?_⟩
  rintro i m H' ⟨rfl, hi, n2, μ2, acc, avs, rfl, s2, r2, hid, hv, rp, q2⟩
  have gd2 : Gd src μ2 := by
    cases hd : ds.drop i with
    | nil => rw [hd] at q2; exact q2.1
    | cons d r => rw [hd] at q2; exact q2.1
  by_cases hlt : i < ds.length
  · refine .inr ⟨w.goes n2 μ2 i s2.sp r2 gd2 hlt, _, fun H3 p3 => ⟨ds.length - (i + 1), by omega, p3⟩, fun x H3 y => ?_⟩
    rw [List.drop_eq_getElem_cons hlt] at q2
    obtain ⟨n3, rfl, s3, r3, p3⟩ := w.yields n2 μ2 i x H3 ds[i] s2.sp r2 gd2 (by rw [List.getElem?_eq_getElem hlt]) y
    refine hg n3 μ2 x ds[i] (wipeG Γ vs) (L2.wipe σ vs) _ _ r3 ((gw.step s2).step s3) p3 q2.2 fun Γ4 σ4 g4 hl4 ha4 q4 => ⟨?_, ?_⟩
    · refine (wipe_eq hl4 ha4).trans ?_
      exact wipe_eq (L2.wipe_length σ vs) (fun k hk => by rw [wipe_get, if_neg hk])
    · refine liftT_go r3 g4 q4 (fun n5 b μ5 s5 r5 q5 => ?_) (fun _ _ _ _ _ _ _ _ z => z)
      obtain ⟨hid3, hv3⟩ := hid.step hv s3
      obtain ⟨hid5, hv5⟩ := hid3.step hv3 s5
      cases b with
      | false =>
        exact iteF ⟨rfl, hlt, n5, μ5, acc, avs, rfl, (s2.trans s3).trans s5, r5, hid5, hv5, (s3.trans s5).reps rp, q5⟩
      | true =>
        refine iteT (lift_go r5 (g4.step s5) q5 (fun n6 y dy μ6 s6 r6 p6 q6 => ?_) (fun _ _ _ _ _ _ _ _ z => z))
        obtain ⟨hid6, hv6⟩ := hid5.step hv5 s6
        have rp6 := ((s3.trans s5).trans s6).reps rp
        refine ⟨avs, hv6, by rw [rp6.length]; exact q6.1, rfl, hlt, n6.more p (.lst (avs ++ [y])), μ6, acc ++ [dy], avs ++ [y], rfl, Step.other (((s2.trans s3).trans s5).trans s6) hp, r6.other hid6, ⟨hid6.b, hid6.a, hid6.ph⟩, upd_same, rp6.append (.cons p6 .nil), q6.2⟩
  · have e : i = ds.length := by omega
    subst e
    rw [List.drop_length] at q2
    refine .inl ⟨w.stops n2 μ2 s2.sp r2 gd2, ?_⟩
    have q3 := q2.2
    unfold dFin at q3
    cases fz with
    | true => exact hq ⟨upd n2.Hb p (.lst avs), n2.H, n2.al, n2.ph⟩ _ (.lst acc) μ2 (s1.trans (Step.adopt s2 hp hid)) (r2.adopt hid hv) (.lst upd_same (rp.mono (same_upd hid.b) (List.prefix_refl _))) q3
    | false =>
      refine hq ⟨n2.Hb, n2.H, n2.al ++ [p], n2.ph⟩ _ (.ref μ2.length) (μ2 ++ [Cell.lst acc]) (s1.trans (Step.adoptC s2 hp)) (r2.adoptC hid hv (c := .lst acc) ⟨hid.b, avs, hv, rp.mono (Same.refl _) (List.prefix_append _ _)⟩ (fun k z => by cases z)) (.ref ?_) q3
      show (n2.al ++ [p])[μ2.length]? = _
      rw [← r2.len]; simp
section
variable {X : Cx} {W : WX} {elt tg iter : Expr} {ifs : List Expr} {scope : Scope} {own : List (Str × Nat)} {pos : Pos} {fz : Bool} {fi : DTI} {g : TG} {gd : D → Gam → Mu → (Gam → Prop) → Prop} {tt : DTT} {te : DTE}
theorem dts_nil {X : Cx} : PTs X [] (liftT X.K W0 dYes) := ⟨fun pins s σ H Q I ⟨n, Γ, μ, Qd, Ed, hH, sr, gr, h, hq, hx⟩ => by
  subst hH
  exact (pts_nil (X := X)).run pins s σ n.H Q I (hq n true μ (Step.refl n) sr h)⟩
theorem dts_one {X : Cx} {c : Expr} (h : DT X W0 c tt) : PTs X [c] (liftT X.K W0 tt) := pts_one h
theorem de_lc (hc : X.calm = true) (hN : X.N.Nodup) (hi : DI X W tg iter fi) (ok : BlkOk X.N X.env.scope scope own) (hct : CT X.K (own.map (·.2)) g gd)
    (hg : ∀ (s : Shared) (H : Hp) (C : Addr) (cl : List (Str × Addr)) (fp : List Addr), PG (X.blk s H scope (compEnvC scope cl C X.env) fp) tg g)
    (ht : ∀ (s : Shared) (H : Hp) (C : Addr) (cl : List (Str × Addr)) (fp : List Addr), PTs (X.blk s H scope (compEnvC scope cl C X.env) fp) ifs (liftT X.K W0 tt))
    (he : ∀ (s : Shared) (H : Hp) (C : Addr) (cl : List (Str × Addr)) (fp : List Addr), PE (X.blk s H scope (compEnvC scope cl C X.env) fp) elt (lift X.K W0 te)) (hs : ∀ x, foldedSetIterable iter X.env x = pure x := by intro _; rfl) :
    DE X W (.ListComp elt [⟨tg, iter, ifs, 0⟩] scope pos) (dComp fz (own.map (·.2)) fi gd tt te) := PE.imp (pe_lc hc hN hi ok hg ht he hs) fun σ H Q h => comp_go hct σ H Q h
theorem ds_setLc {i : Nat} {y : Str} {py spos : Pos} (hc : X.calm = true) (hN : X.N.Nodup) (hy : X.N[i]? = some y) (hyl : X.env.scope.names.lookup y = some .local)
    (hsw : swapsWith (.ListComp elt [⟨tg, iter, ifs, 0⟩] scope pos) (some (.Name y py)) spos.line X.env = pure true) (hi : DI X W tg iter fi) (ok : BlkOk X.N X.env.scope scope own) (hct : CT X.K (own.map (·.2)) g gd)
    (hg : ∀ (s : Shared) (H : Hp) (C : Addr) (cl : List (Str × Addr)) (fp : List Addr), PG (X.blk s H scope (compEnvC scope cl C X.env) fp) tg g)
    (ht : ∀ (s : Shared) (H : Hp) (C : Addr) (cl : List (Str × Addr)) (fp : List Addr), PTs (X.blk s H scope (compEnvC scope cl C X.env) fp) ifs (liftT X.K W0 tt))
    (he : ∀ (s : Shared) (H : Hp) (C : Addr) (cl : List (Str × Addr)) (fp : List Addr), PE (X.blk s H scope (compEnvC scope cl C X.env) fp) elt (lift X.K W0 te)) (hs : ∀ x, foldedSetIterable iter X.env x = pure x := by intro _; rfl) :
    DS X W (.Assign [.Name y py] (.ListComp elt [⟨tg, iter, ifs, 0⟩] scope pos) spos) (dAsg (dComp fz (own.map (·.2)) fi gd tt te) (dName i)) := PS.imp (ps_setLc hc hN hy hyl hsw hi ok hg ht he hs) fun Dn σ H ⟨A, n, Γ, μ, Dd, hH, sa, sr, gr, h, l⟩ => by
  subst hH
  exact comp_go (fz := fz) hct σ n.H _ (lift_go sr gr h (fun n' v d μ' s' r' p q => l.nx n' (Γ.set i (some d)) (σ.set i (some v)) μ' (sa.trans s') r' ((gr.step s').set p i) q) (l.x sa gr))
end
end DV
namespace DV
open PySem PySem.Spec PyProof.Rows L2
/-! ### operators: the union of the layer's rules, read on data -/
section
variable {X : Cx} {f : Value → Value → Sem Value} {r r' : R2}
theorem opr_or (h : OpR X f r) (h' : OpR X f r') : OpR X f (fun x y H Q => r x y H Q ∨ r' x y H Q) := by
  intro pins s σ H x y v u Q I rx ry q
  rcases q with q | q
  · exact h pins s σ H x y v u Q I rx ry q
  · exact h' pins s σ H x y v u Q I rx ry q
theorem callr_or {g : Value} {r r' : List V → Hp → VK → Prop} (h : CallR X g r) (h' : CallR X g r') : CallR X g (fun x H Q => r x H Q ∨ r' x H Q) := by
  intro pins s σ H x u Q I rx q
  rcases q with q | q
  · exact h pins s σ H x u Q I rx q
  · exact h' pins s σ H x u Q I rx q
end
/-- flat data -/
def D.flat : D → Bool
  | .non => true | .bl _ => true | .int _ => true | .str _ => true | _ => false
/-- == of flat data -/
def D.eqF : D → D → Bool
  | .non, .non => true
  | .bl a, .bl b => a == b
  | .bl a, .int b => (if a then 1 else 0) == b
  | .int a, .bl b => a == (if b then 1 else 0)
  | .int a, .int b => a == b
  | .str a, .str b => a == b
  | _, _ => false
/-- deep data without dicts: to the library's own, k levels -/
def D.okn : Nat → D → Bool
  | _, .non => true
  | _, .bl _ => true
  | _, .int _ => true
  | _, .str x => PyData.strOk x
  | k + 1, .lst xs => xs.all (D.okn k)
  | k + 1, .tup xs => xs.all (D.okn k)
  | _, _ => false
def D.py : Nat → D → PyData
  | _, .bl b => .bool b
  | _, .int i => .int i
  | _, .str x => .str x
  | k + 1, .lst xs => .list (xs.map (D.py k))
  | k + 1, .tup xs => .tuple (xs.map (D.py k))
  | _, _ => .none
theorem canLayAll0_iff (l : List PyData) : PyData.canLayAll0 l = l.all PyData.canLay0 := by
  induction l with
  | nil => rfl
  | cons a l ih => rw [PyData.canLayAll0, ih]; rfl
theorem depthAll_le (l : List PyData) (k : Nat) (h : ∀ x ∈ l, PyData.depth x ≤ k) : PyData.depthAll l ≤ k := by
  induction l with
  | nil => simp [PyData.depthAll]
  | cons a l ih =>
    rw [PyData.depthAll]
    exact Nat.max_le.mpr ⟨h a (by simp), ih fun x hx => h x (by simp [hx])⟩
theorem okn_lay : ∀ (k : Nat) (d : D), D.okn k d = true → PyData.canLay0 (D.py k d) = true ∧ PyData.depth (D.py k d) ≤ k := by
  intro k
  induction k with
  | zero => intro d h; cases d <;> simp_all [D.okn, D.py, PyData.canLay0, PyData.depth]
  | succ k ih =>
    intro d h
    cases d with
    | lst xs =>
      simp only [D.okn, List.all_eq_true] at h
      simp only [D.py, PyData.canLay0, PyData.depth, canLayAll0_iff]
      refine ⟨?_, Nat.succ_le_succ (depthAll_le _ _ fun x hx => ?_)⟩
      · rw [List.all_eq_true]; intro x hx
        obtain ⟨y, hy, rfl⟩ := List.mem_map.mp hx
        exact (ih y (h y hy)).1
      · obtain ⟨y, hy, rfl⟩ := List.mem_map.mp hx
        exact (ih y (h y hy)).2
    | tup xs =>
      simp only [D.okn, List.all_eq_true] at h
      simp only [D.py, PyData.canLay0, PyData.depth, canLayAll0_iff]
      refine ⟨?_, Nat.succ_le_succ (depthAll_le _ _ fun x hx => ?_)⟩
      · rw [List.all_eq_true]; intro x hx
        obtain ⟨y, hy, rfl⟩ := List.mem_map.mp hx
        exact (ih y (h y hy)).1
      · obtain ⟨y, hy, rfl⟩ := List.mem_map.mp hx
        exact (ih y (h y hy)).2
    | _ => simp_all [D.okn, D.py, PyData.canLay0, PyData.depth]
section
variable {K : PySem.W.Frag} {Hb H : Hp} {al : List Addr}
theorem dp_of (s : Same Hb H) : ∀ (k : Nat) {v : V} {d : D}, Rep K Hb al v d → D.okn k d = true → Dp K H v (D.py k d) := by
  intro k
  induction k with
  | zero => intro v d r h; cases r <;> simp_all [D.okn, D.py] <;> constructor
  | succ k ih =>
    have all : ∀ {vs : List V} {ds : List D}, Reps K Hb al vs ds → ds.all (D.okn k) = true → DpAll K H vs (ds.map (D.py k)) := by
      intro vs
      induction vs with
      | nil => intro ds r _; cases r; exact .nil
      | cons v vs ihv =>
        intro ds r h
        cases r with
        | cons r1 r2 =>
          simp only [List.all_cons, Bool.and_eq_true] at h
          exact .cons (ih r1 h.1) (ihv r2 h.2)
    intro v d r h
    cases r with
    | lst h1 h2 =>
      simp only [D.okn] at h
      exact .lst (SqL.of (s _ _ h1)) (all h2 h)
    | tup h1 h2 =>
      simp only [D.okn] at h
      exact .tup (SqT.of (s _ _ h1)) (all h2 h)
    | non => simp only [D.py]; exact .non
    | bl b => simp only [D.py]; exact .bl b
    | int i => simp only [D.py]; exact .int i
    | str x => simp only [D.py]; exact .str x
    | _ => simp [D.okn] at h
end
/-- a cell that is compared: its list stands in H alone -/
theorem dp_see {K : PySem.W.Frag} {n : Now} {μ : Mu} {v : V} {d : D} (k : Nat) (s : SR0 K n μ) (r : Rep K n.Hb n.al v d) (h : D.okn (k + 1) (lk μ d) = true) : Dp K n.H v (D.py (k + 1) (lk μ d)) := by
  by_cases hr : ∃ l, d = .ref l
  · obtain ⟨l, rfl⟩ := hr
    cases e : lk μ (.ref l) with
    | lst ds =>
      rw [e] at h
      obtain ⟨a, vs, rfl, h1, h2⟩ := see_lst s r e
      have q : Dp K n.H (.ref a) (D.py (k + 1) (.lst ds)) := by
        simp only [D.okn] at h
        refine .lst (SqL.of h1) ?_
        clear e h1 r
        induction vs generalizing ds with
        | nil => cases h2; exact .nil
        | cons v vs ihv =>
          cases h2 with
          | cons r1 r2 =>
            simp only [List.all_cons, Bool.and_eq_true] at h
            exact .cons (dp_of s.same k r1 h.1) (ihv _ h.2 r2)
      exact q
    | ref m => rw [e] at h; simp [D.okn] at h
    | dct m => rw [e] at h; simp [D.okn] at h
    | ins C m => rw [e] at h; simp [D.okn] at h
    | _ =>
      have z := lk_ref e (by simp)
      rcases z with ⟨_, _, q⟩ | ⟨_, _, q⟩ | ⟨_, _, _, q⟩ <;> cases q
  · have e : lk μ d = d := by
      cases d with
      | ref l => exact absurd ⟨l, rfl⟩ hr
      | _ => rfl
    rw [e] at h ⊢
    exact dp_of s.same _ r h
/-- ==, 12 levels deep -/
def deq (μ : Mu) (x y : D) : Bool := PyData.eqv (D.py 12 (lk μ x)) (D.py 12 (lk μ y))
def deqOk (μ : Mu) (x y : D) : Prop := D.okn 12 (lk μ x) = true ∧ D.okn 12 (lk μ y) = true
def gEq : G2 := fun x y μ Q => deqOk μ x y ∧ Q (.bl (deq μ x y)) μ
def gNe : G2 := fun x y μ Q => deqOk μ x y ∧ Q (.bl (!deq μ x y)) μ
theorem shaped_py {d : D} (h : D.okn 12 d = true) : SeqAt.shaped (D.py 12 d) = true := by
  obtain ⟨h1, h2⟩ := okn_lay 12 d h
  unfold SeqAt.shaped
  rw [h1, Bool.true_and, decide_eq_true]
  omega
theorem op_gEq {K : PySem.W.Frag} : Op2 K (rEqD K) gEq := fun n μ x y dx dy Qd Q s rx ry h l =>
  ⟨_, _, dp_see 11 s rx h.1.1, dp_see 11 s ry h.1.2, shaped_py h.1.1, shaped_py h.1.2, l.now s (.bl _) h.2⟩
theorem op_gNe {K : PySem.W.Frag} : Op2 K (rNeD K) gNe := fun n μ x y dx dy Qd Q s rx ry h l =>
  ⟨_, _, dp_see 11 s rx h.1.1, dp_see 11 s ry h.1.2, shaped_py h.1.1, shaped_py h.1.2, l.now s (.bl _) h.2⟩
section
variable {X : Cx} {W : WX} {a b c : Expr} {pos : Pos} {fa fb fc : DTE}
theorem dt_cmp {op : CmpOp} {r : R2} {g : G2} (ho : OpR X (compareOp op) r) (hg : Op2 X.K r g) (ha : DE X W a fa) (hb : DE X W b fb) (hm : behindInMarks op b = false := by rfl) : DT X W (.Compare a [op] [b] pos) (dTest (dBin g fa fb)) := PT.imp (pt_cmpR ho ha hb hm) fun σ H Q ⟨n, Γ, μ, Qd, Ed, hH, sr, gr, h, hq, hx⟩ => by
  subst hH
  unfold tTest
  refine two hg σ n.H _ (lift_go sr gr h (fun n1 x dx μ1 s1 r1 p1 q1 => ?_) hx)
  cases p1 with
  | bl b => exact ⟨b, rfl, hq n1 b μ1 s1 r1 q1⟩
  | _ => exact q1.elim
theorem dt_eq (hu : X.A.units + 64 < cLine) (ha : DE X W a fa) (hb : DE X W b fb) : DT X W (.Compare a [.Eq] [b] pos) (dTest (dBin gEq fa fb)) := dt_cmp (op_eqD hu) op_gEq ha hb (nomark _)
theorem dt_ne (hu : X.A.units + 64 < cLine) (ha : DE X W a fa) (hb : DE X W b fb) : DT X W (.Compare a [.NotEq] [b] pos) (dTest (dBin gNe fa fb)) := dt_cmp (op_neD hu) op_gNe ha hb (nomark _)
theorem de_eq (hu : X.A.units + 64 < cLine) (ha : DE X W a fa) (hb : DE X W b fb) : DE X W (.Compare a [.Eq] [b] pos) (dBin gEq fa fb) := de_cmp (op_eqD hu) op_gEq ha hb (nomark _)
/-! ### ints -/
def gI (g : Int → Int → D) : G2 := fun x y μ Q => match x, y with
  | .int i, .int j => Q (g i j) μ
  | _, _ => False
theorem op_gI {K : PySem.W.Frag} {gv : Int → Int → V} {gd : Int → Int → D} (h : ∀ K Hb al i j, Rep K Hb al (gv i j) (gd i j)) : Op2 K (rI0 gv) (gI gd) := fun n μ x y dx dy Qd Q s rx ry q l => by
  cases rx with
  | int i =>
    cases ry with
    | int j => exact ⟨i, j, rfl, rfl, l.now s (h _ _ _ i j) q⟩
    | _ => exact q.elim
  | _ => exact q.elim
theorem de_gt (ha : DE X W a fa) (hb : DE X W b fb) : DE X W (.Compare a [.Gt] [b] pos) (dBin (gI fun i j => .bl (decide (j < i))) fa fb) := de_cmp op_gt (op_gI fun _ _ _ _ _ => .bl _) ha hb (nomark _)
theorem dt_lt (ha : DE X W a fa) (hb : DE X W b fb) : DT X W (.Compare a [.Lt] [b] pos) (dTest (dBin (gI fun i j => .bl (decide (i < j))) fa fb)) := dt_cmp op_lt (op_gI fun _ _ _ _ _ => .bl _) ha hb (nomark _)
theorem dt_gt (ha : DE X W a fa) (hb : DE X W b fb) : DT X W (.Compare a [.Gt] [b] pos) (dTest (dBin (gI fun i j => .bl (decide (j < i))) fa fb)) := dt_cmp op_gt (op_gI fun _ _ _ _ _ => .bl _) ha hb (nomark _)
theorem dt_ge (ha : DE X W a fa) (hb : DE X W b fb) : DT X W (.Compare a [.GtE] [b] pos) (dTest (dBin (gI fun i j => .bl (decide (j ≤ i))) fa fb)) := dt_cmp op_ge (op_gI fun _ _ _ _ _ => .bl _) ha hb (nomark _)
theorem de_sub (ha : DE X W a fa) (hb : DE X W b fb) : DE X W (.BinOp a .Sub b pos) (dBin (gI fun i j => .int (i - j)) fa fb) := de_op op_sub (op_gI fun _ _ _ _ _ => .int _) ha hb
/-- + : ints, texts, lists, tuples -/
def gAdd : G2 := fun x y μ Q => match lk μ x, lk μ y with
  | .int i, .int j => Q (.int (i + j)) μ
  | .str i, .str j => i.length + j.length ≤ sizeLine ∧ Q (.str (i ++ j)) μ
  | .lst i, .lst j => i.length + j.length ≤ sizeLine ∧ Q (.lst (i ++ j)) μ
  | .tup i, .tup j => i.length + j.length ≤ sizeLine ∧ Q (.tup (i ++ j)) μ
  | _, _ => False
theorem lk_int {μ : Mu} {d : D} {i : Int} (h : lk μ d = .int i) : d = .int i := by
  cases d with
  | ref l => rcases lk_ref h (by simp) with ⟨_, _, q⟩ | ⟨_, _, q⟩ | ⟨_, _, _, q⟩ <;> cases q
  | _ => exact h
theorem lk_str {μ : Mu} {d : D} {i : Str} (h : lk μ d = .str i) : d = .str i := by
  cases d with
  | ref l => rcases lk_ref h (by simp) with ⟨_, _, q⟩ | ⟨_, _, q⟩ | ⟨_, _, _, q⟩ <;> cases q
  | _ => exact h
theorem lk_scr {μ : Mu} {d : D} {i : List Int} (h : lk μ d = .scr i) : d = .scr i := by
  cases d with
  | ref l => rcases lk_ref h (by simp) with ⟨_, _, q⟩ | ⟨_, _, q⟩ | ⟨_, _, _, q⟩ <;> cases q
  | _ => exact h
theorem op_gAdd {K : PySem.W.Frag} : Op2 K (fun x y H Q => rI0 (fun i j => .int (i + j)) x y H Q ∨ (∃ i j, x = .str i ∧ y = .str j ∧ i.length + j.length ≤ sizeLine ∧ Q (.str (i ++ j)) H) ∨ rCat x y H Q ∨ rCatA K x y H Q) gAdd := fun n μ x y dx dy Qd Q s rx ry q l => by
  unfold gAdd at q
  split at q
  · rename_i i j e1 e2
    rw [lk_int e1] at rx; rw [lk_int e2] at ry
    cases rx; cases ry
    exact .inl ⟨i, j, rfl, rfl, l.now s (.int _) q⟩
  · rename_i i j e1 e2
    rw [lk_str e1] at rx; rw [lk_str e2] at ry
    cases rx; cases ry
    exact .inr (.inl ⟨i, j, rfl, rfl, q.1, l.now s (.str _) q.2⟩)
  · rename_i i j e1 e2
    obtain ⟨a, vs, rfl, h1, r1⟩ := see_lst s rx e1
    obtain ⟨b, us, rfl, h2, r2⟩ := see_lst s ry e2
    exact .inr (.inr (.inl ⟨a, b, vs, us, rfl, rfl, h1, h2, by rw [r1.length, r2.length]; exact q.1, fun p hp => new_lst l s hp (r1.append r2) q.2⟩))
  · rename_i i j e1 e2
    have o1 : dx = .tup i := by
      cases dx with
      | ref l => rcases lk_ref e1 (by simp) with ⟨_, _, q⟩ | ⟨_, _, q⟩ | ⟨_, _, _, q⟩ <;> cases q
      | _ => exact e1
    have o2 : dy = .tup j := by
      cases dy with
      | ref l => rcases lk_ref e2 (by simp) with ⟨_, _, q⟩ | ⟨_, _, q⟩ | ⟨_, _, _, q⟩ <;> cases q
      | _ => exact e2
    obtain ⟨a, vs, rfl, h1, g1, r1⟩ := see_tup s rx e1
    obtain ⟨b, us, rfl, h2, g2, r2⟩ := see_tup s ry e2
    refine .inr (.inr (.inr ⟨a, b, vs, us, rfl, rfl, SqT.of h1, SqT.of h2, by rw [r1.length, r2.length]; exact q.1, fun z => ?_, fun _ z => ?_, fun _ _ p hp => new_tup l s hp (r1.append r2) q.2⟩))
    · subst z
      cases r1
      exact l.now s (.tup g2 r2) q.2
    · subst z
      cases r2
      exact l.now s (.tup g1 r1) (by simpa using q.2)
  · exact q.elim
theorem de_add (ha : DE X W a fa) (hb : DE X W b fb) : DE X W (.BinOp a .Add b pos) (dBin gAdd fa fb) :=
  de_op (opr_or op_add (opr_or op_add_str (opr_or op_cat op_catA))) op_gAdd ha hb
/-- * : ints (one factor small), a list by a number -/
def gMul : G2 := fun x y μ Q => match lk μ x, lk μ y with
  | .int i, .int j => ((-(2 ^ 64) < i ∧ i < 2 ^ 64) ∨ (-(2 ^ 64) < j ∧ j < 2 ^ 64)) ∧ Q (.int (i * j)) μ
  | .lst i, .int k => (-(2 ^ 63) ≤ k ∧ k < 2 ^ 63 ∧ i.length * k.toNat ≤ sizeLine) ∧ Q (.lst (List.replicate k.toNat i).flatten) μ
  | _, _ => False
theorem reps_rep {K : PySem.W.Frag} {Hb : Hp} {al : List Addr} {vs : List V} {ds : List D} (r : Reps K Hb al vs ds) (k : Nat) : Reps K Hb al (List.replicate k vs).flatten (List.replicate k ds).flatten := by
  induction k with
  | zero => exact .nil
  | succ k ih =>
    simp only [List.replicate_succ, List.flatten_cons]
    exact r.append ih
theorem op_gMul {K : PySem.W.Frag} : Op2 K (fun x y H Q => rI CMul (fun i j => .int (i * j)) x y H Q ∨ rRep x y H Q) gMul := fun n μ x y dx dy Qd Q s rx ry q l => by
  unfold gMul at q
  split at q
  · rename_i i j e1 e2
    rw [lk_int e1] at rx; rw [lk_int e2] at ry
    cases rx; cases ry
    exact .inl ⟨i, j, rfl, rfl, q.1, l.now s (.int _) q.2⟩
  · rename_i i k e1 e2
    obtain ⟨a, vs, rfl, h1, r1⟩ := see_lst s rx e1
    rw [lk_int e2] at ry
    cases ry
    exact .inr ⟨a, k, vs, rfl, rfl, h1, q.1.1, q.1.2.1, by rw [r1.length]; exact q.1.2.2, fun p hp => new_lst l s hp (reps_rep r1 _) q.2⟩
  · exact q.elim
theorem de_mul (ha : DE X W a fa) (hb : DE X W b fb) : DE X W (.BinOp a .Mult b pos) (dBin gMul fa fb) := de_op (opr_or op_mul op_rep) op_gMul ha hb
def gMod : G2 := fun x y μ Q => match x, y with
  | .int i, .int j => j ≠ 0 ∧ Q (.int (i.fmod j)) μ
  | _, _ => False
theorem op_gMod {K : PySem.W.Frag} : Op2 K (rI (fun _ j => j ≠ 0) fun i j => .int (i.fmod j)) gMod := fun n μ x y dx dy Qd Q s rx ry q l => by
  cases rx with
  | int i =>
    cases ry with
    | int j => exact ⟨i, j, rfl, rfl, q.1, l.now s (.int _) q.2⟩
    | _ => exact q.elim
  | _ => exact q.elim
theorem de_mod (ha : DE X W a fa) (hb : DE X W b fb) : DE X W (.BinOp a .Mod b pos) (dBin gMod fa fb) := de_op op_modN op_gMod ha hb
def gFdiv : G2 := fun x y μ Q => match x, y with
  | .int i, .int j => (0 < j ∧ j.natAbs.log2 < 9000) ∧ Q (.int (i / j)) μ
  | _, _ => False
theorem op_gFdiv {K : PySem.W.Frag} : Op2 K (rI CDivW fun i j => .int (i / j)) gFdiv := fun n μ x y dx dy Qd Q s rx ry q l => by
  cases rx with
  | int i =>
    cases ry with
    | int j => exact ⟨i, j, rfl, rfl, q.1, l.now s (.int _) q.2⟩
    | _ => exact q.elim
  | _ => exact q.elim
theorem de_fdiv (ha : DE X W a fa) (hb : DE X W b fb) : DE X W (.BinOp a .FloorDiv b pos) (dBin gFdiv fa fb) := de_op op_fdivW op_gFdiv ha hb
def gPow : G2 := fun x y μ Q => match x, y with
  | .int i, .int j => (0 ≤ j ∧ j ≤ 1000000 ∧ i.natAbs < 2 ^ 64) ∧ Q (.int (i ^ j.toNat)) μ
  | _, _ => False
theorem op_gPow {K : PySem.W.Frag} : Op2 K (rI CPow fun i j => .int (i ^ j.toNat)) gPow := fun n μ x y dx dy Qd Q s rx ry q l => by
  cases rx with
  | int i =>
    cases ry with
    | int j => exact ⟨i, j, rfl, rfl, q.1, l.now s (.int _) q.2⟩
    | _ => exact q.elim
  | _ => exact q.elim
theorem de_pow (ha : DE X W a fa) (hb : DE X W b fb) : DE X W (.BinOp a .Pow b pos) (dBin gPow fa fb) := de_op op_pow op_gPow ha hb
def gNeg : G1 := fun x μ Q => match x with
  | .int i => Q (.int (-i)) μ
  | _ => False
/-! ### chains of two comparisons of ints -/
def dChain (g g' : Int → Int → Bool) (fa fb fc : DTE) : DTE := fun Γ μ Q E => fa Γ μ (fun x μ1 => fb Γ μ1 (fun y μ2 => match x, y with
  | .int i, .int j => cond (g i j) (fc Γ μ2 (fun z μ3 => match z with | .int k => Q (.bl (g' j k)) μ3 | _ => False) E) (Q (.bl false) μ2)
  | _, _ => False) E) E
theorem de_chain {op op' : CmpOp} {g g' : Int → Int → Bool} (ho : OpR X (compareOp op) (rI0 fun i j => .bl (g i j))) (ho' : OpR X (compareOp op') (rI0 fun i j => .bl (g' i j))) (ha : DE X W a fa) (hb : DE X W b fb) (hc : DE X W c fc)
    (hm : lastMarks [op, op'] [b, c] = false := by with_unfolding_all rfl) : DE X W (.Compare a [op, op'] [b, c] pos) (dChain g g' fa fb fc) := PE.imp (pe_chain ho ho' ha hb hc hm) fun σ H Q ⟨n, Γ, μ, Qd, Ed, hH, sr, gr, h, hq, hx⟩ => by
  subst hH
  refine lift_go sr gr h (fun n1 x dx μ1 s1 r1 p1 q1 => lift_go r1 (gr.step s1) q1 (fun n2 y dy μ2 s2 r2 p2 q2 => ?_) (hx.step s1)) hx
  cases p1 with
  | int i =>
    cases p2 with
    | int j =>
      refine ⟨i, j, rfl, rfl, g i j, rfl, ?_⟩
      dsimp only at q2
      cases e : g i j with
      | false => rw [e] at q2; exact iteF (hq n2 _ _ μ2 (s1.trans s2) r2 (.bl _) q2)
      | true =>
        rw [e] at q2
        refine iteT (lift_go r2 ((gr.step s1).step s2) q2 (fun n3 z dz μ3 s3 r3 p3 q3 => ?_) ((hx.step s1).step s2))
        cases p3 with
        | int k => exact ⟨j, k, rfl, rfl, hq n3 _ _ μ3 ((s1.trans s2).trans s3) r3 (.bl _) q3⟩
        | _ => exact q3.elim
    | _ => exact q2.elim
  | _ => exact q2.elim
theorem dt_chain {op op' : CmpOp} {g g' : Int → Int → Bool} (ho : OpR X (compareOp op) (rI0 fun i j => .bl (g i j))) (ho' : OpR X (compareOp op') (rI0 fun i j => .bl (g' i j))) (ha : DE X W a fa) (hb : DE X W b fb) (hc : DE X W c fc)
    (hm : lastMarks [op, op'] [b, c] = false := by with_unfolding_all rfl) : DT X W (.Compare a [op, op'] [b, c] pos) (dTest (dChain g g' fa fb fc)) := PT.imp (pt_chain ho ho' ha hb hc hm) fun σ H Q ⟨n, Γ, μ, Qd, Ed, hH, sr, gr, h, hq, hx⟩ => by
  subst hH
  unfold tTest tChain
  refine lift_go sr gr h (fun n1 x dx μ1 s1 r1 p1 q1 => lift_go r1 (gr.step s1) q1 (fun n2 y dy μ2 s2 r2 p2 q2 => ?_) (hx.step s1)) hx
  cases p1 with
  | int i =>
    cases p2 with
    | int j =>
      refine ⟨i, j, rfl, rfl, g i j, rfl, ?_⟩
      dsimp only at q2
      cases e : g i j with
      | false => rw [e] at q2; exact iteF ⟨_, rfl, hq n2 _ μ2 (s1.trans s2) r2 q2⟩
      | true =>
        rw [e] at q2
        refine iteT (lift_go r2 ((gr.step s1).step s2) q2 (fun n3 z dz μ3 s3 r3 p3 q3 => ?_) ((hx.step s1).step s2))
        cases p3 with
        | int k => exact ⟨j, k, rfl, rfl, _, rfl, hq n3 _ μ3 ((s1.trans s2).trans s3) r3 q3⟩
        | _ => exact q3.elim
    | _ => exact q2.elim
  | _ => exact q2.elim
/-! ### subscripts -/
def gIx : G2 := fun x y μ Q => match lk μ x, y with
  | .lst xs, .int i => (match atI xs i with | some d => Q d μ | none => False)
  | .tup xs, .int i => (match atI xs i with | some d => Q d μ | none => False)
  | .str z, .int i => z.length ≤ sizeLine ∧ (match atI z.cps.toList i with | some c => Q (.str ⟨#[c]⟩) μ | none => False)
  | _, _ => False
theorem reps_at {K : PySem.W.Frag} {Hb : Hp} {al : List Addr} {vs : List V} {ds : List D} (r : Reps K Hb al vs ds) {i : Int} {d : D} (h : atI ds i = some d) : ∃ v, atI vs i = some v ∧ Rep K Hb al v d := by
  unfold atI at h ⊢
  rw [r.length]
  cases e : ixN ds.length i with
  | none => rw [e] at h; cases h
  | some j => rw [e] at h; exact r.get h
theorem op_gIx {K : PySem.W.Frag} : Op2 K (rIx K) gIx := fun n μ x y dx dy Qd Q s rx ry q l => by
  unfold gIx at q
  split at q
  · rename_i xs i e1
    cases ry
    obtain ⟨a, vs, rfl, h1, r1⟩ := see_lst s rx e1
    split at q
    · rename_i d e
      obtain ⟨v, h2, r2⟩ := reps_at r1 e
      exact .inl ⟨a, vs, i, v, rfl, rfl, SqL.of h1, h2, l.now s r2 q⟩
    · exact q.elim
  · rename_i xs i e1
    cases ry
    obtain ⟨a, vs, rfl, h1, _, r1⟩ := see_tup s rx e1
    split at q
    · rename_i d e
      obtain ⟨v, h2, r2⟩ := reps_at r1 e
      exact .inr (.inl ⟨a, vs, i, v, rfl, rfl, SqT.of h1, h2, l.now s r2 q⟩)
    · exact q.elim
  · rename_i z i e1
    cases ry
    rw [lk_str e1] at rx
    cases rx
    obtain ⟨hz, q⟩ := q
    split at q
    · rename_i c e
      exact .inr (.inr ⟨z, i, c, rfl, rfl, hz, e, l.now s (.str _) q⟩)
    · exact q.elim
  · exact q.elim
theorem de_sub_ (ha : DE X W a fa) (hb : DE X W b fb) (hs : PlainIx b := by exact fun _ _ => rfl) : DE X W (.Subscript a b pos) (dBin gIx fa fb) := de_ix ix_seq op_gIx ha hb hs
end
end DV
namespace DV
open PySem PySem.Spec PyProof.Rows L2
section
variable {X : Cx} {W : WX} {a b c e o : Expr} {es : List Expr} {p pos apos : Pos} {fa fb fc : DTE} {fr : DTA}
/-! ### built-ins of one argument -/
def gLen : GN := fun ds μ Q => match ds with
  | [d] => (match lk μ d with
    | .lst xs => Q (.int xs.length) μ
    | .tup xs => Q (.int xs.length) μ
    | .str z => z.length ≤ sizeLine ∧ Q (.int z.length) μ
    | .dct kvs => Q (.int kvs.length) μ
    | _ => False)
  | _ => False
theorem len_of_maps {α β γ δ : Type} {l : List (α × β)} {m : List (α × γ)} (h : l.map (·.1) = m.map (·.1)) : l.length = m.length := by
  have := congrArg List.length h
  simpa using this
theorem op_gLen {K : PySem.W.Frag} : OpN K (fun xs H Q => (∃ x n, xs = [x] ∧ LenV K x H n ∧ Q (.int n) H) ∨ ∃ a kvs, xs = [V.ref a] ∧ Rd H a (.dK kvs) ∧ Q (.int kvs.length) H) gLen := fun n μ xs ds Qd Q s r q l => by
  unfold gLen at q
  split at q
  · cases r with
    | cons r1 r2 =>
      cases r2
      split at q
      · rename_i ys e
        obtain ⟨a, vs, rfl, h1, h2⟩ := see_lst s r1 e
        exact .inl ⟨_, _, rfl, .inl ⟨vs, SqL.of h1, rfl⟩, l.now s (.int _) (by rw [h2.length]; exact q)⟩
      · rename_i ys e
        obtain ⟨a, vs, rfl, h1, _, h2⟩ := see_tup s r1 e
        exact .inl ⟨_, _, rfl, .inr ⟨vs, SqT.of h1, rfl⟩, l.now s (.int _) (by rw [h2.length]; exact q)⟩
      · rename_i z e
        rw [lk_str e] at r1
        cases r1
        exact .inl ⟨_, _, rfl, ⟨q.1, rfl⟩, l.now s (.int _) q.2⟩
      · rename_i kvs e
        obtain ⟨a, us, rfl, h1, h2, h3⟩ := see_dct s r1 e
        have hl : kvs.length = us.length := by simpa using congrArg List.length h2
        exact .inr ⟨a, us, rfl, h1, l.now s (.int _) (by rw [← hl]; exact q)⟩
      · exact q.elim
  · exact q.elim
theorem call_lenDR : CallR X (.builtin "len") (fun xs H Q => ∃ a kvs, xs = [V.ref a] ∧ Rd H a (.dK kvs) ∧ Q (.int kvs.length) H) := by
  intro pins s σ H xs us Q I r h
  obtain ⟨a, kvs, rfl, ha, q⟩ := h
  obtain ⟨u, rfl, ru⟩ := vals1 r
  cases ru
  exact d_len I ha fun t s' I' => ⟨.int kvs.length, H, I', ⟨t, rfl⟩, q⟩
theorem de_len (hg : Gl X "len") (hm : X.mg "len" = none) (ha : DE X W a fa) (hs : starEach [a] X.env = (false, eval a X.env) :: starEach [] X.env := by rfl) : DE X W (.Call (.Name "len" p) [a] [] pos) (dCall gLen (dCons fa dNil)) :=
  de_callB (callr_or call_len call_lenDR) op_gLen hg hm PySem.boot_len (da_cons ha da_nil hs) (he := hs)
def gAbs : GN := fun ds μ Q => match ds with
  | [.int i] => Q (.int (if i < 0 then -i else i)) μ
  | _ => False
theorem de_abs (hg : Gl X "abs") (hm : X.mg "abs" = none) (ha : DE X W a fa) (hs : starEach [a] X.env = (false, eval a X.env) :: starEach [] X.env := by rfl) : DE X W (.Call (.Name "abs" p) [a] [] pos) (dCall gAbs (dCons fa dNil)) :=
  de_callB call_abs (fun n μ xs ds Qd Q s r q l => by
    unfold gAbs at q
    split at q
    · cases r with
      | cons r1 r2 => cases r2; cases r1; exact ⟨_, rfl, l.now s (.int _) q⟩
    · exact q.elim) hg hm (by decide +kernel) (da_cons ha da_nil hs) (he := hs)
def gInt : GN := fun ds μ Q => match ds with
  | [.int i] => Q (.int i) μ
  | [.bl b] => Q (.int (if b then 1 else 0)) μ
  | _ => False
theorem de_intC (hg : Gl X "int") (hm : X.mg "int" = none) (ha : DE X W a fa) (hs : starEach [a] X.env = (false, eval a X.env) :: starEach [] X.env := by rfl) : DE X W (.Call (.Name "int" p) [a] [] pos) (dCall gInt (dCons fa dNil)) :=
  de_callTy call_int1 (fun n μ xs ds Qd Q s r q l => by
    unfold gInt at q
    split at q
    · cases r with
      | cons r1 r2 => cases r2; cases r1; exact .inl ⟨_, rfl, l.now s (.int _) q⟩
    · cases r with
      | cons r1 r2 => cases r2; cases r1; exact .inr ⟨_, rfl, l.now s (.int _) q⟩
    · exact q.elim) hg hm (by decide +kernel) (da_cons ha da_nil hs) (he := hs)
/-- list(x): as data, or as a cell -/
def gList (fz : Bool) : GN := fun ds μ Q => match ds with
  | [d] => (match lk μ d with
    | .lst xs => dFin fz xs μ Q
    | .tup xs => dFin fz xs μ Q
    | .scr ns => dFin fz (ns.map D.int) μ Q
    | _ => False)
  | _ => False
theorem fin_lst {K : PySem.W.Frag} {n : Now} {Qd : D → Mu → Prop} {Q : VK} {fz : Bool} (l : LV K n Qd Q) {μ : Mu} (s : SR0 K n μ) {p : Addr} {vs : List V} {ds : List D} (hp : n.H p = none) (r : Reps K n.Hb n.al vs ds) (q : dFin fz ds μ Qd) : Q (.ref p) (upd n.H p (.lst vs)) := by
  cases fz with
  | true => exact new_lst l s hp r q
  | false => exact new_cell l s hp r q
theorem op_gList {K : PySem.W.Frag} {fz : Bool} : OpN K (fun xs H Q => ∃ p ys, xs = [.ref p] ∧ (SqL K H p ys ∨ SqT K H p ys) ∧ ∀ l, H l = none → Q (.ref l) (upd H l (.lst ys))) (gList fz) := fun n μ xs ds Qd Q s r q l => by
  unfold gList at q
  split at q
  · cases r with
    | cons r1 r2 =>
      cases r2
      split at q
      · rename_i ys e
        obtain ⟨a, vs, rfl, h1, h2⟩ := see_lst s r1 e
        exact ⟨a, vs, rfl, .inl (SqL.of h1), fun p hp => fin_lst l s hp h2 q⟩
      · rename_i ys e
        obtain ⟨a, vs, rfl, h1, _, h2⟩ := see_tup s r1 e
        exact ⟨a, vs, rfl, .inr (SqT.of h1), fun p hp => fin_lst l s hp h2 q⟩
      · rename_i ns e
        rw [lk_scr e] at r1
        cases r1 with
        | scr h1 => exact ⟨_, _, rfl, .inl (s.same.seq h1), fun p hp => fin_lst l s hp (reps_ints ns) q⟩
      · exact q.elim
  · exact q.elim
theorem de_list (fz : Bool) (hg : Gl X "list") (hm : X.mg "list" = none) (ha : DE X W a fa) (hs : starEach [a] X.env = (false, eval a X.env) :: starEach [] X.env := by rfl) : DE X W (.Call (.Name "list" p) [a] [] pos) (dCall (gList fz) (dCons fa dNil)) :=
  de_callTy call_list_of op_gList hg hm (by decide +kernel) (da_cons ha da_nil hs) (he := hs)
def gTuple : GN := fun ds μ Q => match ds with
  | [d] => (match lk μ d with
    | .lst xs => Q (.tup xs) μ
    | .tup xs => Q (.tup xs) μ
    | _ => False)
  | _ => False
theorem op_gTuple {K : PySem.W.Frag} : OpN K (fun xs H Q => ∃ p ys, xs = [.ref p] ∧ ((SqL K H p ys ∧ ∀ l, H l = none → Q (.ref l) (upd H l (.tup ys))) ∨ (SqT K H p ys ∧ Q (.ref p) H))) gTuple := fun n μ xs ds Qd Q s r q l => by
  unfold gTuple at q
  split at q
  · cases r with
    | cons r1 r2 =>
      cases r2
      split at q
      · rename_i ys e
        obtain ⟨a, vs, rfl, h1, h2⟩ := see_lst s r1 e
        exact ⟨a, vs, rfl, .inl ⟨SqL.of h1, fun p hp => new_tup l s hp h2 q⟩⟩
      · rename_i ys e
        obtain ⟨a, vs, rfl, h1, h0, h2⟩ := see_tup s r1 e
        exact ⟨a, vs, rfl, .inr ⟨SqT.of h1, l.now s (.tup h0 h2) q⟩⟩
      · exact q.elim
  · exact q.elim
theorem de_tuple (hg : Gl X "tuple") (hm : X.mg "tuple" = none) (ha : DE X W a fa) (hs : starEach [a] X.env = (false, eval a X.env) :: starEach [] X.env := by rfl) : DE X W (.Call (.Name "tuple" p) [a] [] pos) (dCall gTuple (dCons fa dNil)) :=
  de_callTy call_tuple_of op_gTuple hg hm (by decide +kernel) (da_cons ha da_nil hs) (he := hs)
/-- a list made by +, as a cell -/
def gAddM : G2 := fun x y μ Q => match lk μ x, lk μ y with
  | .lst i, .lst j => i.length + j.length ≤ sizeLine ∧ Q (.ref μ.length) (μ ++ [.lst (i ++ j)])
  | _, _ => False
theorem de_addM (ha : DE X W a fa) (hb : DE X W b fb) : DE X W (.BinOp a .Add b pos) (dBin gAddM fa fb) := de_op op_cat (fun n μ x y dx dy Qd Q s rx ry q l => by
  unfold gAddM at q
  split at q
  · rename_i i j e1 e2
    obtain ⟨a, vs, rfl, h1, r1⟩ := see_lst s rx e1
    obtain ⟨b, us, rfl, h2, r2⟩ := see_lst s ry e2
    exact ⟨a, b, vs, us, rfl, rfl, h1, h2, by rw [r1.length, r2.length]; exact q.1, fun p hp => new_cell l s hp (r1.append r2) q.2⟩
  · exact q.elim) ha hb
/-! ### isinstance against a built-in class -/
inductive Ty where
  | non | bool | int | str | list | tup | dict
  deriving DecidableEq
def Ty.nm : Ty → String
  | .non => "NoneType" | .bool => "bool" | .int => "int" | .str => "str" | .list => "list" | .tup => "tuple" | .dict => "dict"
def Ty.sub (a b : Ty) : Bool := decide (a = b) || (decide (a = .bool) && decide (b = .int))
theorem kit_sub (a b : Ty) (hb : b ≠ .non) : kitB a.nm b.nm = some (a.sub b) := by
  cases b <;> first | exact absurd rfl hb | (cases a <;> decide +kernel)
def tyD : D → Option Ty
  | .non => some .non | .bl _ => some .bool | .int _ => some .int | .str _ => some .str | .lst _ => some .list | .tup _ => some .tup | .dct _ => some .dict | _ => none
theorem ty_of {K : PySem.W.Frag} {n : Now} {μ : Mu} {v : V} {d : D} {t : Ty} (s : SR0 K n μ) (r : Rep K n.Hb n.al v d) (h : tyD (lk μ d) = some t) : TyX K n.H v (.type t.nm) := by
  cases e : lk μ d with
  | lst ds => rw [e] at h; cases h; obtain ⟨a, vs, rfl, h1, _⟩ := see_lst s r e; exact .base (.lst h1)
  | tup ds => rw [e] at h; cases h; obtain ⟨a, vs, rfl, h1, _⟩ := see_tup s r e; exact .base (.tup h1)
  | dct ds => rw [e] at h; cases h; obtain ⟨a, vs, rfl, h1, _⟩ := see_dct s r e; exact h1.elim (fun h => .base (.dK h)) fun ⟨o, h⟩ => .fDict h
  | int i => rw [e] at h; cases h; rw [lk_int e] at r; cases r; exact .base (.int i)
  | str i => rw [e] at h; cases h; rw [lk_str e] at r; cases r; exact .base (.str i)
  | non =>
    rw [e] at h; cases h
    cases d with
    | ref l => rcases lk_ref e (by simp) with ⟨_, _, q⟩ | ⟨_, _, q⟩ | ⟨_, _, _, q⟩ <;> cases q
    | non => cases r; exact .base .non
    | _ => cases e
  | bl b =>
    rw [e] at h; cases h
    cases d with
    | ref l => rcases lk_ref e (by simp) with ⟨_, _, q⟩ | ⟨_, _, q⟩ | ⟨_, _, _, q⟩ <;> cases q
    | bl b => cases e; cases r; exact .base (.bl _)
    | _ => cases e
  | _ => rw [e] at h; cases h
def dIsi (t : Ty) (f : DTE) : DTE := fun Γ μ Q E => f Γ μ (fun d μ1 => match tyD (lk μ1 d) with
  | some a => Q (.bl (a.sub t)) μ1
  | none => False) E
theorem de_isi {T : Str} {p2 : Pos} (t : Ty) (ht : t ≠ .non) (hg : Gl X "isinstance") (hm : X.mg "isinstance" = none) (ha : DE X W a fa) (hgT : Gl X T) (hmT : X.mg T = none) (hvT : bootBuiltins T = some (.type t.nm)) (hn : T ≠ "__name__" := by decide) (hd : (T == ("__debug__" : Str)) = false := by decide)
    (hs : starEach [a, .Name T p2] X.env = (false, eval a X.env) :: starEach [.Name T p2] X.env := by rfl) (hs2 : starEach [.Name T p2] X.env = (false, eval (.Name T p2) X.env) :: starEach [] X.env := by rfl) (hpl : (backTo pos (starEach [.Name T p2] X.env)).any (·.1) = false := by rfl) :
    DE X W (.Call (.Name "isinstance" p) [a, .Name T p2] [] pos) (dIsi t fa) :=
  PE.imp (pe_callB call_isi hg hm (by decide +kernel) (pa_cons ha (pa_cons (pe_bltn (v := .ty t.nm) hgT hmT hvT rfl hn hd) pa_nil hs2) hs) (by decide) (by decide) hs hpl) fun σ H Q ⟨n, Γ, μ, Qd, Ed, hH, sr, gr, h, hq, hx⟩ => by
  subst hH
  refine lift_go sr gr h (fun n1 x dx μ1 s1 r1 p1 q1 => ?_) hx
  try dsimp only at q1
  split at q1
  · rename_i t' e
    exact ⟨_, _, _, _, _, rfl, .ty _, ty_of r1 p1 e, kit_ty (kit_sub t' t ht), hq n1 _ _ μ1 s1 r1 (.bl _) q1⟩
  · exact q1.elim
/-! ### is None -/
def D.isN : D → Bool
  | .non => true
  | _ => false
theorem isN_of {K : PySem.W.Frag} {Hb : Hp} {al : List Addr} {v : V} {d : D} (r : Rep K Hb al v d) : decide (v = .non) = d.isN := by
  cases r <;> simp [D.isN]
def gIs : G2 := fun x y μ Q => match y with
  | .non => Q (.bl x.isN) μ
  | _ => False
def gIsNot : G2 := fun x y μ Q => match y with
  | .non => Q (.bl (!x.isN)) μ
  | _ => False
theorem op_gIs {K : PySem.W.Frag} : Op2 K (fun x y H Q => y = .non ∧ Q (.bl (decide (x = .non))) H) gIs := fun n μ x y dx dy Qd Q s rx ry q l => by
  cases ry with
  | non => exact ⟨rfl, by rw [isN_of rx]; exact l.now s (.bl _) q⟩
  | _ => exact q.elim
theorem dt_is (ha : DE X W a fa) (hb : DE X W b fb) : DT X W (.Compare a [.Is] [b] pos) (dTest (dBin gIs fa fb)) := dt_cmp op_isN op_gIs ha hb (nomark _)
/-! ### in: flat things in a list or tuple, a sign in a text, a key in a dict -/
def inF (x : D) (xs : List D) : Bool := xs.any fun y => D.eqF y x
theorem eqF_of {K : PySem.W.Frag} {Hb : Hp} {al : List Addr} {v u : V} {d e : D} (r : Rep K Hb al v d) (q : Rep K Hb al u e) (h1 : d.flat = true) (h2 : e.flat = true) : eqV v u = D.eqF d e := by
  cases r <;> first | (simp [D.flat] at h1; done) | (cases q <;> first | (simp [D.flat] at h2; done) | rfl)
theorem flat_of {K : PySem.W.Frag} {Hb : Hp} {al : List Addr} {v : V} {d : D} (r : Rep K Hb al v d) (h : d.flat = true) : flatV v = true := by
  cases r <;> first | (simp [D.flat] at h; done) | rfl
theorem inF_of {K : PySem.W.Frag} {Hb : Hp} {al : List Addr} {v : V} {d : D} (r : Rep K Hb al v d) (h : d.flat = true) : ∀ {vs : List V} {ds : List D}, Reps K Hb al vs ds → ds.all D.flat = true → inV v vs = inF d ds ∧ vs.all flatV = true
  | _, _, .nil, _ => ⟨rfl, rfl⟩
  | _, _, .cons r1 r2, q => by
    simp only [List.all_cons, Bool.and_eq_true] at q
    obtain ⟨h1, h2⟩ := inF_of r h r2 q.2
    refine ⟨?_, by simp only [List.all_cons, flat_of r1 q.1, h2, Bool.and_self]⟩
    show (eqV _ v || inV v _) = (D.eqF _ d || inF d _)
    rw [eqF_of r1 r q.1 h, h1]
/-- one sign -/
def sgn (x : Str) : Option Nat := match x.cps.toList with
  | [c] => some c
  | _ => none
theorem sgn_eq {x : Str} {c : Nat} (h : sgn x = some c) : x = ⟨#[c]⟩ := by
  unfold sgn at h
  split at h
  · rename_i e
    cases h
    cases x with
    | mk cps => simp at e; cases cps; simp at e; subst e; rfl
  · cases h
def gIn (neg : Bool) : G2 := fun x y μ Q => match lk μ y with
  | .lst ys => (x.flat = true ∧ ys.all D.flat = true) ∧ Q (.bl (if neg then !inF x ys else inF x ys)) μ
  | .tup ys => (x.flat = true ∧ ys.all D.flat = true) ∧ Q (.bl (if neg then !inF x ys else inF x ys)) μ
  | .str z => (match x with
    | .str w => (match sgn w with | some c => Q (.bl (if neg then !decide (c ∈ z.cps.toList) else decide (c ∈ z.cps.toList))) μ | none => False)
    | _ => False)
  | _ => False
theorem op_gIn {K : PySem.W.Frag} : Op2 K (fun x y H Q => rIn K false x y H Q ∨ ∃ (c : Nat) (z : Str), x = .str ⟨#[c]⟩ ∧ y = .str z ∧ Q (.bl (decide (c ∈ z.cps.toList))) H) (gIn false) := fun n μ x y dx dy Qd Q s rx ry q l => by
  unfold gIn at q
  split at q
  · rename_i ys e
    obtain ⟨a, vs, rfl, h1, h2⟩ := see_lst s ry e
    obtain ⟨g1, g2⟩ := inF_of rx q.1.1 h2 q.1.2
    exact .inl ⟨a, vs, rfl, .inl (SqL.of h1), flat_of rx q.1.1, g2, by rw [g1]; exact l.now s (.bl _) q.2⟩
  · rename_i ys e
    obtain ⟨a, vs, rfl, h1, _, h2⟩ := see_tup s ry e
    obtain ⟨g1, g2⟩ := inF_of rx q.1.1 h2 q.1.2
    exact .inl ⟨a, vs, rfl, .inr (SqT.of h1), flat_of rx q.1.1, g2, by rw [g1]; exact l.now s (.bl _) q.2⟩
  · rename_i z e
    rw [lk_str e] at ry
    cases ry
    split at q
    · cases rx
      split at q
      · rename_i c e2
        exact .inr ⟨c, z, by rw [sgn_eq e2], rfl, l.now s (.bl _) q⟩
      · exact q.elim
    · exact q.elim
  · exact q.elim
theorem op_gNotIn {K : PySem.W.Frag} : Op2 K (fun x y H Q => rIn K true x y H Q ∨ ∃ (c : Nat) (z : Str), x = .str ⟨#[c]⟩ ∧ y = .str z ∧ Q (.bl (!decide (c ∈ z.cps.toList))) H) (gIn true) := fun n μ x y dx dy Qd Q s rx ry q l => by
  unfold gIn at q
  split at q
  · rename_i ys e
    obtain ⟨a, vs, rfl, h1, h2⟩ := see_lst s ry e
    obtain ⟨g1, g2⟩ := inF_of rx q.1.1 h2 q.1.2
    exact .inl ⟨a, vs, rfl, .inl (SqL.of h1), flat_of rx q.1.1, g2, by rw [g1]; exact l.now s (.bl _) q.2⟩
  · rename_i ys e
    obtain ⟨a, vs, rfl, h1, _, h2⟩ := see_tup s ry e
    obtain ⟨g1, g2⟩ := inF_of rx q.1.1 h2 q.1.2
    exact .inl ⟨a, vs, rfl, .inr (SqT.of h1), flat_of rx q.1.1, g2, by rw [g1]; exact l.now s (.bl _) q.2⟩
  · rename_i z e
    rw [lk_str e] at ry
    cases ry
    split at q
    · cases rx
      split at q
      · rename_i c e2
        exact .inr ⟨c, z, by rw [sgn_eq e2], rfl, l.now s (.bl _) q⟩
      · exact q.elim
    · exact q.elim
  · exact q.elim
theorem dt_in (ha : DE X W a fa) (hb : DE X W b fb) (hm : behindInMarks .In b = false := by rfl) : DT X W (.Compare a [.In] [b] pos) (dTest (dBin (gIn false) fa fb)) := dt_cmp (opr_or op_in_seq op_in_sign) op_gIn ha hb hm
theorem dt_notin (ha : DE X W a fa) (hb : DE X W b fb) (hm : behindInMarks .NotIn b = false := by rfl) : DT X W (.Compare a [.NotIn] [b] pos) (dTest (dBin (gIn true) fa fb)) := dt_cmp (opr_or op_notIn_seq op_notIn_sign) op_gNotIn ha hb hm
/-! ### methods of built-in types -/
def strD : List D → Option (List Str)
  | [] => some []
  | .str x :: xs => (strD xs).map (x :: ·)
  | _ => none
def dJoin (fo fe : DTE) : DTE := fun Γ μ Q E => fo Γ μ (fun x μ1 => (∃ a, x = .str a) ∧ fe Γ μ1 (fun y μ2 => match x with
  | .str a => (match lk μ2 y with
    | .lst ds => (match strD ds with | some ys => (ys.map (·.length)).sum + ys.length * a.length ≤ 16777216 ∧ Q (.str (Txt.join a ys)) μ2 | none => False)
    | .tup ds => (match strD ds with | some ys => (ys.map (·.length)).sum + ys.length * a.length ≤ 16777216 ∧ Q (.str (Txt.join a ys)) μ2 | none => False)
    | _ => False)
  | _ => False) E) E
/-- a list's own method that writes: on a cell -/
def dCellM (g : List D → List D → Option (D × List D)) (fo : DTE) (fr : DTA) : DTE := fun Γ μ Q E => fo Γ μ (fun x μ1 => match x with
  | .ref l => (match μ1[l]? with
    | some (.lst _) => fr Γ μ1 (fun vs μ2 => match μ2[l]? with
      | some (.lst xs) => (match g xs vs with | some (d, ys) => Q d (μ2.set l (.lst ys)) | none => False)
      | _ => False) E
    | _ => False)
  | _ => False) E
def CellOp (K : PySem.W.Frag) (r : V → List V → Hp → VK → Prop) (g : List D → List D → Option (D × List D)) : Prop := ∀ Hb al H p (us vs : List V) (xs ds : List D) d ys (Q : VK), H p = some (.lst us) → Reps K Hb al us xs → Reps K Hb al vs ds → g xs ds = some (d, ys) →
  (∀ v ws, Rep K Hb al v d → Reps K Hb al ws ys → Q v (upd H p (.lst ws))) → r (.ref p) vs H Q
theorem cellm_go {K : PySem.W.Frag} {r : V → List V → Hp → VK → Prop} {g : List D → List D → Option (D × List D)} (hg : CellOp K r g) (σ : L2.St) (H : Hp) (Q : VK) (h : lift K W (dCellM g fa fr) σ H Q) : tBM K "list" r (lift K W fa) (liftA K W fr) σ H Q := by
  obtain ⟨n, Γ, μ, Qd, Ed, hH, sr, gr, h, hq, hx⟩ := h
  subst hH
  refine lift_go sr gr h (fun n1 x dx μ1 s1 r1 p1 q1 => ?_) hx
  cases p1 with
  | @ref l a hl =>
    dsimp only at q1
    split at q1
    · rename_i ys e
      obtain ⟨_, vs, h1, h2⟩ := r1.cell _ _ _ hl e
      refine ⟨.inl ⟨rfl, vs, SqL.of h1⟩, liftA_go r1 (gr.step s1) q1 (fun n2 vs2 ds2 μ2 s2 r2 p2 q2 => ?_) (hx.step s1)⟩
      try dsimp only at q2
      split at q2
      · rename_i xs e2
        have hl2 := pre_get s2.pre hl
        obtain ⟨hb, us, g1, g2⟩ := r2.cell _ _ _ hl2 e2
        split at q2
        · rename_i d zs e3
          refine hg n2.Hb n2.al n2.H a us vs2 xs ds2 d zs Q g1 g2 p2 e3 fun v ws rv rw' => ?_
          exact hq (n2.more a (.lst ws)) v d _ ((s1.trans s2).trans (Step.write hl2 hb)) (r2.write hl2 hb (c := .lst zs) ⟨hb, ws, upd_same, rw'⟩ (fun k z => by cases z)) rv q2
        · exact q2.elim
      · exact q2.elim
    · exact q1.elim
  | _ => exact q1.elim
def cAppend : List D → List D → Option (D × List D) := fun xs ds => match ds with
  | [d] => if xs.length < sizeLine then some (.non, xs ++ [d]) else none
  | _ => none
theorem op_append {K : PySem.W.Frag} : CellOp K rAppend cAppend := fun Hb al H p us vs xs ds d ys Q hp r1 r2 hg k => by
  unfold cAppend at hg
  split at hg
  · split at hg
    · rename_i hl
      cases hg
      cases r2 with
      | cons q1 q2 =>
        cases q2
        exact ⟨p, us, _, rfl, rfl, hp, by rw [r1.length]; exact hl, k _ _ .non (r1.append (.cons q1 .nil))⟩
    · cases hg
  · cases hg
def cPop : List D → List D → Option (D × List D) := fun xs ds => match ds with
  | [.int i] => if -(2 ^ 63) ≤ i ∧ i < 2 ^ 63 then (match seqIndex? i xs.length with
    | some k => (xs[k]?).map fun y => (y, xs.eraseIdx k)
    | none => none) else none
  | _ => none
theorem op_popAt {K : PySem.W.Frag} : CellOp K rPopAt cPop := fun Hb al H p us vs xs ds d ys Q hp r1 r2 hg k => by
  unfold cPop at hg
  split at hg
  · split at hg
    · rename_i i hb
      split at hg
      · rename_i j e
        rw [Option.map_eq_some_iff] at hg
        obtain ⟨y, e2, e3⟩ := hg
        cases e3
        obtain ⟨v, h1, h2⟩ := r1.get e2
        cases r2 with
        | cons q1 q2 =>
          cases q2; cases q1
          exact ⟨p, us, i, j, v, rfl, rfl, hp, hb.1, hb.2, by rw [r1.length]; exact e, h1, k _ _ h2 (r1.eraseIdx j)⟩
      · cases hg
    · cases hg
  · cases hg
def cInsert : List D → List D → Option (D × List D) := fun xs ds => match ds with
  | [.int i, d] => if xs.length < sizeLine ∧ 0 ≤ i ∧ i < 2 ^ 63 then some (.non, xs.take i.toNat ++ [d] ++ xs.drop i.toNat) else none
  | _ => none
theorem de_append (ho : DE X W o fa) (ha : DE X W e fb) (hbase : attributeBase o "append" X.env (eval o X.env) = eval o X.env := by rfl)
    (hfew : ((backTo pos (starEach [e] X.env)).all (fun x => !x.1) && (backToKw pos (keywordEach [] X.env)).all (fun x => x.1.isSome) && decide ([e].length + ([] : List Keyword).length + (if ([] : List Keyword).isEmpty then 0 else 1) < 30)) = true := by rfl)
    (hline : (apos.endLine == pos.line) = true := by rfl) (hs : starEach [e] X.env = (false, eval e X.env) :: starEach [] X.env := by rfl) (hpl : (backTo pos (starEach [] X.env)).any (·.1) = false := by rfl) :
    DE X W (.Call (.Attribute o "append" apos) [e] [] pos) (dCellM cAppend fa (dCons fb dNil)) :=
  PE.imp (pe_bm PySem.F.plainAttrs_list PySem.F.slot_list_append PySem.F.type_list_append mt_append ho (da_cons ha da_nil hs) hbase hfew hline hs hpl) fun σ H Q h => cellm_go op_append σ H Q h
theorem de_popAt (ho : DE X W o fa) (ha : DE X W e fb) (hbase : attributeBase o "pop" X.env (eval o X.env) = eval o X.env := by rfl)
    (hfew : ((backTo pos (starEach [e] X.env)).all (fun x => !x.1) && (backToKw pos (keywordEach [] X.env)).all (fun x => x.1.isSome) && decide ([e].length + ([] : List Keyword).length + (if ([] : List Keyword).isEmpty then 0 else 1) < 30)) = true := by rfl)
    (hline : (apos.endLine == pos.line) = true := by rfl) (hs : starEach [e] X.env = (false, eval e X.env) :: starEach [] X.env := by rfl) (hpl : (backTo pos (starEach [] X.env)).any (·.1) = false := by rfl) :
    DE X W (.Call (.Attribute o "pop" apos) [e] [] pos) (dCellM cPop fa (dCons fb dNil)) :=
  PE.imp (pe_bm PySem.F.plainAttrs_list PySem.F.slot_list_pop PySem.F.type_list_pop mt_popAt ho (da_cons ha da_nil hs) hbase hfew hline hs hpl) fun σ H Q h => cellm_go op_popAt σ H Q h
/-! ### x[i] = v on a cell -/
def dSetI (fo fi : DTE) : DTG := fun d Γ μ Q E => fo Γ μ (fun x μ1 => fi Γ μ1 (fun i μ2 => match x, i with
  | .ref l, .int k => (match μ2[l]? with
    | some (.lst xs) => (match ixN xs.length k with | some j => Q Γ (μ2.set l (.lst (xs.set j d))) | none => False)
    | _ => False)
  | _, _ => False) E) E
theorem dg_setI {i : Expr} (ho : DE X W o fa) (hi : DE X W i fb) (h : PG X (.Subscript o i pos) (gSub (lift X.K W fa) (lift X.K W fb) rSetL)) : DG X W (.Subscript o i pos) (dSetI fa fb) := PG.imp h fun v σ H Q ⟨n, d, Γ, μ, Qd, Ed, hH, sr, gr, rp, h, hq, hx⟩ => by
  subst hH
  refine lift_go sr gr h (fun n1 x dx μ1 s1 r1 p1 q1 => lift_go r1 (gr.step s1) q1 (fun n2 y dy μ2 s2 r2 p2 q2 => ?_) (hx.step s1)) hx
  cases p1 with
  | @ref l a hl =>
    cases p2 with
    | int k =>
      dsimp only at q2
      split at q2
      · rename_i xs e
        split at q2
        · rename_i j e2
          have hl2 := pre_get s2.pre hl
          obtain ⟨hb, us, g1, g2⟩ := r2.cell _ _ _ hl2 e
          refine ⟨a, us, k, j, rfl, rfl, g1, by rw [g2.length]; exact e2, ?_⟩
          exact hq (n2.more a (.lst (us.set j v))) Γ σ _ ((s1.trans s2).trans (Step.write hl2 hb)) (r2.write hl2 hb (c := .lst (xs.set j d)) ⟨hb, _, upd_same, Reps.set ((s1.trans s2).rep rp) j g2⟩ (fun k z => by cases z)) ((gr.step (s1.trans s2)).step (Step.write hl2 hb)) q2
        · exact q2.elim
      · exact q2.elim
    | _ => exact q2.elim
  | _ => exact q2.elim
end
end DV
namespace DV
open PySem PySem.Spec PyProof.Rows L2
/-! ### slices -/
def cutL {α : Type} (xs : List α) (lo hi : Option Int) : List α := (xs.drop (HT.sIx xs.length 0 lo)).take (HT.sIx xs.length xs.length hi - HT.sIx xs.length 0 lo)
theorem reps_cut {K : PySem.W.Frag} {Hb : Hp} {al : List Addr} {vs : List V} {ds : List D} (r : Reps K Hb al vs ds) (lo hi : Option Int) : Reps K Hb al (cutV vs lo hi) (cutL ds lo hi) := by
  unfold cutV cutL
  rw [r.length]
  exact (r.drop _).take _
abbrev DTO := Gam → Mu → (Option Int → Mu → Prop) → (Exn → Mu → Prop) → Prop
def dNoPart : DTO := fun _ μ Q _ => Q none μ
def dPart (f : DTE) : DTO := fun Γ μ Q E => f Γ μ (fun d μ1 => match d with | .int i => Q (some i) μ1 | _ => False) E
def liftO (K : PySem.W.Frag) (W : WX) (f : DTO) : TO := fun σ H Q => ∃ n Γ μ Qd Ed, n.H = H ∧ SR0 K n μ ∧ GR K n Γ σ ∧ f Γ μ Qd Ed ∧
  (∀ n' o μ', Step n n' → SR0 K n' μ' → Qd o μ' → Q o n'.H) ∧ XLink K W n Γ σ Ed
def dSlice (fz : Bool) (f : DTE) (lo hi : DTO) : DTE := fun Γ μ Q E => f Γ μ (fun d μ1 => lo Γ μ1 (fun l μ2 => hi Γ μ2 (fun h μ3 => match lk μ3 d with
  | .lst xs => dFin fz (cutL xs l h) μ3 Q
  | .tup xs => Q (.tup (cutL xs l h)) μ3
  | .str z => z.length ≤ sizeLine ∧ Q (.str (cutS z l h)) μ3
  | _ => False) E) E) E
theorem cut_whole {α : Type} (xs : List α) (lo hi : Option Int) (h : HT.sIx xs.length 0 lo = 0 ∧ HT.sIx xs.length xs.length hi = xs.length) : cutL xs lo hi = xs := by
  unfold cutL
  rw [h.1, h.2]; simp
section
variable {X : Cx} {W : WX} {a e o i : Expr} {lo hi : Option Expr} {p2 pos : Pos} {fa fb fc : DTE} {fl fh : DTO}
theorem do_none : PO X none (liftO X.K W dNoPart) := ⟨fun pins s σ H Q I ⟨n, Γ, μ, Qd, Ed, hH, sr, gr, h, hq, hx⟩ => by
  subst hH
  exact (po_none (X := X)).run pins s σ n.H Q I (hq n none μ (Step.refl n) sr h)⟩
theorem do_some (h : DE X W e fa) : PO X (some e) (liftO X.K W (dPart fa)) := ⟨fun pins s σ H Q I ⟨n, Γ, μ, Qd, Ed, hH, sr, gr, hd, hq, hx⟩ => by
  subst hH
  refine (po_some h).run pins s σ n.H Q I (lift_go sr gr hd (fun n1 x dx μ1 s1 r1 p1 q1 => ?_) hx)
  cases p1 with
  | int j => exact ⟨j, rfl, hq n1 _ μ1 s1 r1 q1⟩
  | _ => exact q1.elim⟩
theorem de_slice (fz : Bool) (he : DE X W e fa) (hl : PO X lo (liftO X.K W fl)) (hu : PO X hi (liftO X.K W fh)) : DE X W (.Subscript e (.Slice lo hi none p2) pos) (dSlice fz fa fl fh) :=
  PE.imp (pe_slice (SlR.or sl_list (SlR.or sl_tupA sl_str)) he hl hu) fun σ H Q ⟨n, Γ, μ, Qd, Ed, hH, sr, gr, h, hq, hx⟩ => by
  subst hH
  refine lift_go sr gr h (fun n1 x dx μ1 s1 r1 p1 q1 => ⟨n1, Γ, μ1, _, _, rfl, r1, gr.step s1, q1, fun n2 l μ2 s2 r2 q2 => ⟨n2, Γ, μ2, _, _, rfl, r2, (gr.step s1).step s2, q2, fun n3 h μ3 s3 r3 q3 => ?_, (hx.step s1).step s2⟩, hx.step s1⟩) hx
  have st := (s1.trans s2).trans s3
  have p3 := (s2.trans s3).rep p1
  try dsimp only at q3
  split at q3
  · rename_i xs e
    obtain ⟨a, vs, rfl, h1, h2⟩ := see_lst r3 p3 e
    exact .inl ⟨a, vs, rfl, SqL.of h1, fun p hp => fin_lst (LV.step hq st) r3 hp (reps_cut h2 l h) q3⟩
  · rename_i xs e
    obtain ⟨a, vs, rfl, h1, h0, h2⟩ := see_tup r3 p3 e
    refine .inr (.inl ⟨a, vs, rfl, SqT.of h1, fun z => ?_, fun z p hp => new_tup (LV.step hq st) r3 hp (reps_cut h2 l h) q3⟩)
    rw [h2.length] at z
    rw [cut_whole xs l h z] at q3
    exact hq n3 _ _ μ3 st r3 (.tup h0 h2) q3
  · rename_i z e
    rw [lk_str e] at p3
    cases p3
    exact .inr (.inr ⟨z, rfl, q3.1, hq n3 _ _ μ3 st r3 (.str _) q3.2⟩)
  · exact q3.elim
/-! ### x[i] += e, on a cell -/
def dAugI (g : Int → Int → Int) (fo fi fe : DTE) : DTS := fun D Γ μ => fo Γ μ (fun x μ1 => fi Γ μ1 (fun i μ2 => match x, i with
  | .ref l, .int k => 0 ≤ k ∧ (match μ2[l]? with
    | some (.lst xs) => (match xs[k.toNat]? with
      | some (.int old) => fe Γ μ2 (fun y μ3 => match y with
        | .int b => (match μ3[l]? with
          | some (.lst ys) => k.toNat < ys.length ∧ D.nx Γ (μ3.set l (.lst (ys.set k.toNat (.int (g old b)))))
          | _ => False)
        | _ => False) (fun x μ1 => D.ex x Γ μ1)
      | _ => False)
    | _ => False)
  | _, _ => False) (fun x μ1 => D.ex x Γ μ1)) (fun x μ1 => D.ex x Γ μ1)
/-! ### tests by truth -/
def truD : D → Option Bool
  | .non => some false
  | .bl b => some b
  | .int i => some (i != 0)
  | .lst xs => some (!xs.isEmpty)
  | .tup xs => some (!xs.isEmpty)
  | _ => none
def dTruth (f : DTE) : DTT := fun Γ μ Q E => f Γ μ (fun d μ1 => match lk μ1 d with
  | .str z => z.length ≤ sizeLine ∧ Q ((z.length : Int) != 0) μ1
  | d' => (match truD d' with | some b => Q b μ1 | none => False)) E
end
end DV
namespace DV
open PySem PySem.Spec PyProof.Rows L2
def pick {α : Type} (π : List Nat) (l : List α) : List α := π.filterMap (l[·]?)
section
variable {K : PySem.W.Frag} {Hb : Hp} {al : List Addr}
theorem Reps.getN : ∀ {vs : List V} {ds : List D} {i : Nat}, Reps K Hb al vs ds → ds[i]? = none → vs[i]? = none := fun {vs ds i} r e => by
  have h1 := r.length
  have h2 : ds.length ≤ i := List.getElem?_eq_none_iff.mp e
  exact List.getElem?_eq_none_iff.mpr (by omega)
theorem Reps.pick {vs : List V} {ds : List D} (r : Reps K Hb al vs ds) : ∀ π : List Nat, Reps K Hb al (DV.pick π vs) (DV.pick π ds)
  | [] => .nil
  | i :: π => by
    have ih := Reps.pick r π
    unfold DV.pick at ih ⊢
    cases e : ds[i]? with
    | none => rw [List.filterMap_cons_none e, List.filterMap_cons_none (r.getN e)]; exact ih
    | some d =>
      obtain ⟨v, h1, h2⟩ := r.get e
      rw [List.filterMap_cons_some e, List.filterMap_cons_some h1]
      exact .cons h2 ih
end
theorem vals_pick {vs : List V} {us : List Value} (r : Vals vs us) : ∀ π : List Nat, Vals (pick π vs) (pick π us)
  | [] => .nil
  | i :: π => by
    have ih := vals_pick r π
    unfold pick at ih ⊢
    cases e : vs[i]? with
    | none => rw [List.filterMap_cons_none e, List.filterMap_cons_none (Vals.none_of r e)]; exact ih
    | some d =>
      obtain ⟨v, h1, h2⟩ := Vals.get r e
      rw [List.filterMap_cons_some e, List.filterMap_cons_some h1]
      exact .cons h2 ih
/-- how positional arguments (np of them) and keywords ks come to the parameters ps: by places -/
def KBd (K : PySem.W.Frag) (fd : FuncData) (ps : List Str) (np : Nat) (ks : List Str) (π : List Nat) : Prop :=
  ∀ (s : Shared) (us ws : List Value), K.In s.heap → us.length = np → ws.length = ks.length → BindsTo s fd ⟨us, ks.zip ws⟩ (ps.zip (pick π (us ++ ws)))
section
variable {X : Cx} {W : WX} {k : Nat} {f : Addr} {fd : FuncData} {ps ks : List Str} {S : DSp} {x : Str} {p pos kpos : Pos} {e : Expr} {es : List Expr} {kws : List Keyword} {fa : DTE} {fr fk : DTA} {nm : Option Str} {π : List Nat} {np : Nat}
theorem run_deep {pins : List (Addr × Obj)} {σ : L2.St} {H : Hp} {s : Shared} {Q : VK} {us ws : List Value} {kw : List (Str × Value)} {vs : List V} (F : FnOk X.prog X.w X.K X.mg X.base (L2N.CX X.prog X.w) k f fd ps (spOf X.K S)) (hr : Room k X.A) (tk : L2N.Takes X W)
    (I : Inv X pins σ H s) (hb : BindsTo s fd ⟨us, kw⟩ (ps.zip ws)) (r : Vals vs ws) (h : spOf X.K S vs H Q (WE W σ)) : wpAny (model X.prog X.w) X.A (call (.ref f) us kw) (EP X pins σ Q) X.xe s := by
  refine wpAny_call (codeAny_mono (F.run X.A X.stack s H ⟨us, kw⟩ ws vs Q (WE W σ) hr I.env0 hb r h) ?_)
  intro res s' hq
  match res, hq with
  | .error e, hq => exact L2N.passAt tk σ pins H s e s' I hq
  | .ok (.ret u), hq => exact I.after hq
abbrev DK (X : Cx) (W : WX) (kws : List Keyword) (f : DTA) : Prop := PK X kws (liftA X.K W f)
theorem PK.imp {t t' : TA} (h : PK X kws t) (hi : ∀ σ H Q, t' σ H Q → t σ H Q) : PK X kws t' := ⟨fun pos pins s σ H Q I q => h.run pos pins s σ H Q I (hi _ _ _ q)⟩
theorem dk_nil : DK X W [] dNil := PK.imp pk_nil fun σ H Q ⟨n, Γ, μ, Qd, Ed, hH, sr, gr, h, hq, hx⟩ => by
  subst hH
  exact hq n [] [] μ (Step.refl n) sr .nil h
theorem dk_cons (ha : DE X W e fa) (hr : DK X W kws fr) : DK X W (⟨nm, e, kpos⟩ :: kws) (dCons fa fr) := PK.imp (pk_cons ha hr) fun σ H Q ⟨n, Γ, μ, Qd, Ed, hH, sr, gr, h, hq, hx⟩ => by
  subst hH
  refine lift_go sr gr h (fun n1 x dx μ1 s1 r1 p1 q1 => liftA_go r1 (gr.step s1) q1 (fun n2 y dy μ2 s2 r2 p2 q2 => ?_) (hx.step s1)) hx
  exact hq n2 _ _ μ2 (s1.trans s2) r2 (.cons (s2.rep p1) p2) q2
/-- f(e, .., k = v, ..): the arguments by the places π -/
def dOpK (S : DSp) (π : List Nat) (np nk : Nat) (fr fk : DTA) : DTE := fun Γ μ Q E => fr Γ μ (fun xs μ1 => xs.length = np ∧ fk Γ μ1 (fun ys μ2 => ys.length = nk ∧ S (pick π (xs ++ ys)) μ2 Q E) E) E
theorem de_callKw0 (F : FnOk X.prog X.w X.K X.mg X.base (L2N.CX X.prog X.w) k f fd ps (spOf X.K S)) (hr : Room k X.A) (hg : Gl X x) (hm : X.mg x = some (.ref f)) (hk : PySem.W.keepIn X.K (.ref f) = true) (hb : KBd X.K fd ps 0 ks π) (tk : L2N.Takes X W)
    (hkw : DK X W kws fk) (hall : (backToKw pos (keywordEach kws X.env)).all (·.1.isSome) = true := by rfl) (hks : (backToKw pos (keywordEach kws X.env)).filterMap (·.1) = ks := by rfl) (hdb : (x == ("__debug__" : Str)) = false := by decide)
    (hpl : ((backTo pos (starEach [] X.env)).any (·.1) || (backToKw pos (keywordEach kws X.env)).any (·.1.isNone)) = false := by rfl) :
    DE X W (.Call (.Name x p) [] kws pos) (dOpK S π 0 ks.length dNil fk) := by
  refine ⟨fun pins s σ H Q I ⟨n, Γ, μ, Qd, Ed, hH, sr, gr, h, hq, hx⟩ => ?_⟩
  subst hH
  refine wpAny_Call_Name_kw (ld_glob I hg hm ?_ hdb)
  refine PySem.W.callWith_KW0 (h₀ := X.base) I.ok.mod.kin hk hall ?_ hpl
  refine thn (hkw.run pos pins s σ n.H (fun vs H1 => vs.length = ks.length ∧ spOf X.K S (pick π vs) H1 Q (WE W σ)) I (liftA_go sr gr h.2 (fun n1 vs ds μ1 s1 r1 p1 q1 => ?_) hx)) ?_
  · exact ⟨p1.length.trans q1.1, n1, pick π ds, μ1, Qd, Ed, rfl, r1, p1.pick π, q1.2, LV.step hq s1, fun n' cls dd y μ' s' r' e => hx n' cls dd y μ' (s1.trans s') r' (e.anchor s1)⟩
  · rintro ws s2 ⟨zs, H2, I2, rz, hl, q2⟩
    refine ⟨I2.kIn, ?_⟩
    rw [hks]
    have e1 : ws.length = ks.length := rz.length ▸ hl
    exact run_deep (ws := pick π ws) F hr tk I2 (hb s2 [] ws I2.kIn rfl e1) (vals_pick rz π) q2
end
end DV
namespace DV
open PySem PySem.Spec PyProof.Rows L2
def revS (z : Str) : Str := ⟨z.cps.toList.reverse.toArray⟩
theorem range_rev (l : List Nat) : ((List.range l.length).map fun k => l.length - 1 - k).filterMap (l[·]?) = l.reverse := by
  have e : ((List.range l.length).map fun k => l.length - 1 - k) = (List.range l.length).reverse := by
    apply List.ext_getElem (by simp)
    intro i h1 h2
    simp
  rw [e, List.filterMap_reverse]
  congr 1
  apply List.ext_getElem?
  intro i
  have : (List.range l.length).filterMap (l[·]?) = l := by
    clear e i
    induction l with
    | nil => rfl
    | cons a l ih =>
      rw [List.length_cons, List.range_succ_eq_map, List.filterMap_cons_some (b := a) (by simp), List.filterMap_map]
      congr 1
  rw [this]
def tRevA (K : PySem.W.Frag) (te : TE) : TE := fun σ H Q => te σ H fun x H1 => (∃ a xs, x = .ref a ∧ SqL K H1 a xs ∧ ∀ p, H1 p = none → Q (.ref p) (upd H1 p (.lst xs.reverse))) ∨ ∃ z, x = .str z ∧ z.length ≤ sizeLine ∧ Q (.str (revS z)) H1
section
variable {X : Cx} {W : WX} {e : Expr} {k : Nat} {q1 q2 q3 pos : Pos} {fa : DTE}
theorem pe_revA {te : TE} (he : PE X e te) : PE X (.Subscript e (.Slice none none (some (.UnaryOp .USub (.Constant (.int 1) k q1) q2)) q3) pos) (tRevA X.K te) := by
  constructor
  intro pins s σ H Q I h
  apply Subscript_
  refine thn (he.run pins s σ H _ I h) ?_
  rintro v s1 ⟨x, H1, I1, r1, qq⟩
  have stp : PO X (some (.UnaryOp .USub (.Constant (.int 1) k q1) q2)) (tPart (tUn (rU fun i => .int (-i)) (tC (.int 1)))) :=
    po_some (pe_un un_neg pe_int)
  apply wpAny_Slice
  refine thn (po_none.run pins s1 σ H1 (fun o H2 => o = none ∧ H2 = H1) I1 ⟨rfl, rfl⟩) ?_
  rintro vl s2 ⟨l, H2, I2, pl, rfl, rfl⟩
  refine thn (po_none.run pins s2 σ H2 (fun o H3 => o = none ∧ H3 = H2) I2 ⟨rfl, rfl⟩) ?_
  rintro vu s3 ⟨u, H3, I3, pu, rfl, rfl⟩
  refine thn (stp.run pins s3 σ H3 (fun o H4 => o = some (-1) ∧ H4 = H3) I3 ⟨1, rfl, -1, rfl, rfl, rfl⟩) ?_
  rintro vs s4 ⟨o, H4, I4, psx, rfl, rfl⟩
  have I5 : Inv X pins σ H4 { s4 with heap := s4.heap.push { cls := .type "slice", data := .fields #[vl, vu, vs] } } :=
    I4.kept (t' := s4.toks) (fun b ob q => Heap.get?_push_of_some _ q)
  rcases qq with ⟨a, xs, rfl, hx, q⟩ | ⟨z, rfl, hz, q⟩
  · cases r1
    obtain ⟨its, r, ht, hz⟩ := I5.list hx
    have hlen := r.length
    refine tail_any (ops := [.ref a, .ref s4.heap.objs.size]) ht.isList.typeIs (PySem.slot_list_getitem.lookup) ?_ (by with_unfolding_all rfl)
    refine wpAny_getItem_list_slice ht.isList (Heap.IsSliceOf.new _ vl vu vs) pl pu psx (by decide) ?_ (by rw [List.size_toArray]; omega)
    rw [PySem.W.krv_pick]
    refine ⟨.ref _, _, I5.laid (t' := s4.toks) (o := .lst xs.reverse) (fun b ob q => Heap.get?_push_of_some _ q) (Nat.le_refl _) ?_, rfl,
      q _ (I5.hok.fresh (Nat.le_refl _))⟩
    exact ⟨by rw [List.length_reverse]; exact hz, _, 0, r.reverse, Heap.get?_push_size _ rfl⟩
  · obtain ⟨t, rfl⟩ := r1
    refine tail_any (ops := [.str z t, .ref s4.heap.objs.size]) (typeIs_str _ _ _) F.slot_str_getitem.lookup ?_ (by with_unfolding_all rfl)
    obtain ⟨l, rfl, el⟩ := IsPart.raw pl
    obtain ⟨u, rfl, eu⟩ := IsPart.raw pu
    obtain ⟨sv, rfl, es⟩ := IsPart.raw psx
    obtain ⟨os, h1, h2, h3⟩ := Heap.IsSliceOf.new s4.heap (partValue l) (partValue u) (partValue sv)
    refine wpAny_getItem_str_slice (l := l) (u := u) (st := sv) ⟨os, h1, h2, h3⟩ (by rw [es]; rfl) ?_
    have hn : ¬ (((sv.map (·.1)).getD 1 == 1 && (slicePicked z l u sv).length == z.length) = true) := by rw [es]; simp
    have hp : (slicePicked z l u sv).filterMap (z.cps[·]?) = z.cps.toList.reverse := by
      unfold slicePicked
      rw [el, eu, es]
      show (Builtin.Str.strSliceIndices none none (-1) z.length).filterMap (z.cps[·]?) = _
      rw [picked_rev]
      have := range_rev z.cps.toList
      rw [Array.length_toList] at this
      show (List.map (fun k => z.cps.size - 1 - k) (List.range z.cps.size)).filterMap (z.cps[·]?) = _
      simpa using this
    unfold sliceMade
    rw [if_neg hn, hp]
    have hl : (revS z).length ≤ sizeLine := by
      show (z.cps.toList.reverse.toArray).size ≤ sizeLine
      rw [List.size_toArray, List.length_reverse]; exact hz
    exact ⟨hl, .str (revS z), H4, I5.tok _, ⟨_, rfl⟩, q⟩
def dRevA (fz : Bool) (f : DTE) : DTE := fun Γ μ Q E => f Γ μ (fun d μ1 => match lk μ1 d with
  | .lst xs => dFin fz xs.reverse μ1 Q
  | .str z => z.length ≤ sizeLine ∧ Q (.str (revS z)) μ1
  | _ => False) E
theorem de_revA (fz : Bool) (he : DE X W e fa) : DE X W (.Subscript e (.Slice none none (some (.UnaryOp .USub (.Constant (.int 1) k q1) q2)) q3) pos) (dRevA fz fa) :=
  PE.imp (pe_revA he) fun σ H Q ⟨n, Γ, μ, Qd, Ed, hH, sr, gr, h, hq, hx⟩ => by
  subst hH
  refine lift_go sr gr h (fun n1 x dx μ1 s1 r1 p1 q1 => ?_) hx
  try dsimp only at q1
  split at q1
  · rename_i xs e
    obtain ⟨a, vs, rfl, h1, h2⟩ := see_lst r1 p1 e
    exact .inl ⟨a, vs, rfl, SqL.of h1, fun p hp => fin_lst (LV.step hq s1) r1 hp h2.reverse q1⟩
  · rename_i z e
    rw [lk_str e] at p1
    cases p1
    exact .inr ⟨z, rfl, q1.1, hq n1 _ _ μ1 s1 r1 (.str _) q1.2⟩
  · exact q1.elim
end
/-! ### a def as its callers see it -/
def Has (P : Program) (w : World) (K : PySem.W.Frag) (mg : Str → Option Value) (base : Heap) (x : Str) (k : Nat) (ps : List Str) (S : DSp) (kb : FuncData → Prop) : Prop :=
  ∃ (f : Addr) (fd : FuncData), mg x = some (.ref f) ∧ PySem.W.keepIn K (.ref f) = true ∧ Binds K fd ps [] ∧ kb fd ∧ FnOk P w K mg base (L2N.CX P w) k f fd ps (spOf K S)
section
variable {X : Cx} {W : WX} {k : Nat} {ps ks : List Str} {S : DSp} {kb : FuncData → Prop} {x : Str} {p pos : Pos} {e : Expr} {es : List Expr} {kws : List Keyword} {fr fk : DTA} {π : List Nat} {np nk : Nat}
theorem de_fnH (h : Has X.prog X.w X.K X.mg X.base x k ps S kb) (hr : Room k X.A) (hg : Gl X x) (tk : L2N.Takes X W) (ha : DA X W (e :: es) fr) (hdb : (x == ("__debug__" : Str)) = false := by decide)
    (he : starEach (e :: es) X.env = (false, eval e X.env) :: starEach es X.env := by rfl) (hpl : (backTo pos (starEach es X.env)).any (·.1) = false := by rfl) : DE X W (.Call (.Name x p) (e :: es) [] pos) (dOp S fr) := by
  obtain ⟨f, fd, h1, h2, h3, _, h5⟩ := h
  exact de_fn h5 hr hg h1 h2 h3 tk ha hdb he hpl
theorem de_kw0H (h : Has X.prog X.w X.K X.mg X.base x k ps S kb) (hr : Room k X.A) (hg : Gl X x) (hb : ∀ fd, kb fd → KBd X.K fd ps 0 ks π) (tk : L2N.Takes X W) (hkw : DK X W kws fk) (hall : (backToKw pos (keywordEach kws X.env)).all (·.1.isSome) = true := by rfl)
    (hks : (backToKw pos (keywordEach kws X.env)).filterMap (·.1) = ks := by rfl) (hnk : ks.length = nk := by rfl) (hdb : (x == ("__debug__" : Str)) = false := by decide)
    (hpl : ((backTo pos (starEach [] X.env)).any (·.1) || (backToKw pos (keywordEach kws X.env)).any (·.1.isNone)) = false := by rfl) : DE X W (.Call (.Name x p) [] kws pos) (dOpK S π 0 nk dNil fk) := by
  subst hnk
  obtain ⟨f, fd, h1, h2, h3, h4, h5⟩ := h
  exact de_callKw0 h5 hr hg h1 h2 (hb fd h4) tk hkw hall hks hdb hpl
end
end DV
namespace DV
open PySem PySem.Spec PyProof.Rows L2
theorem atI_nat' {α : Type} {xs : List α} {i : Int} {d : α} (h0 : 0 ≤ i) (h : xs[i.toNat]? = some d) : atI xs i = some d := by
  have hl := (List.getElem?_eq_some_iff.mp h).1
  unfold atI ixN
  rw [if_pos h0, if_pos (by omega)]
  exact h
theorem atI_zero {α : Type} {x : α} {xs : List α} : atI (x :: xs) 0 = some x := atI_nat' (by decide) rfl
theorem sgn_one (c : Nat) : sgn ⟨#[c]⟩ = some c := rfl
end DV
local macro_rules | `(tactic| walk_at "dv") => `(tactic| try simp only [DV.dSeq, DV.dIf, DV.dOrT, DV.dAndT, DV.dNotT, DV.dTest, DV.dChain, DV.dC, DV.dCall, DV.gLen, DV.dCons, DV.dVar, DV.dNil, DV.dBin, DV.dUn, DV.gNeg, DV.gIn, DV.gIx, DV.dRet, DV.dRetN, DV.dNext, DV.dFor, DV.dIter, DV.dName, DV.lk, DV.dAsg, DV.dDrop, DV.gLst, DV.gTup, DV.gLstM, DV.gAdd, DV.gI, DV.gMod, DV.gMul, DV.gFdiv, DV.gPow, DV.gAbs, DV.gInt, DV.gList, DV.gTuple, DV.dOp, DV.dOpK, DV.dIsi, DV.tyD, DV.gIs, DV.gIsNot, DV.D.isN, DV.dJoin, DV.dCellM, DV.dSetI, DV.dSlice, DV.dPart, DV.dNoPart, DV.dRevA, DV.dFin, DV.dAugI, DV.dComp, DV.wipeG, DV.cName, DV.cPair, DV.dYes, DV.dRange1, DV.dRange2, DV.dAnd, DV.dOr, DV.dNot, DV.dIfE, DV.gEq, DV.gNe, DV.sgn_one, DV.atI_zero, DV.dTruth, DV.truD, DV.dBreak, DV.dCont,
  List.getElem?_cons_zero, List.getElem?_cons_succ, List.set_cons_zero, List.set_cons_succ, List.map_cons, List.map_nil, List.length_cons, List.length_nil, List.replicate, List.cons_append, List.nil_append, DV.start0, if_true, if_false, Bool.not_true, Bool.not_false, Bool.false_eq_true, Bool.true_and, Bool.and_true, Bool.or_true, Bool.true_or, Bool.false_or, Bool.or_false, eq_self_iff_true, not_true_eq_false, not_false_eq_true, ite_true, ite_false, cond_true, cond_false])
namespace DV
open PySem PySem.Spec PyProof.Rows L2
def LET : Str := "abcdefghijklmnopqrstuvwxyz"
def DIG : Str := "0123456789"
def t_valid_name : DTS := dSeq (dIf (dOrT (dNotT (dTest (dChain (fun i j => decide (i ≤ j)) (fun i j => decide (i ≤ j)) (dC (.int 1)) (dCall gLen (dCons (dVar 0) dNil)) (dC (.int 6))))) (dTest (dBin (gIn true) (dBin gIx (dVar 0) (dC (.int 0))) (dC (.str "abcdefghijklmnopqrstuvwxyz"))))) (dRet (dC (.bl false))) (dNext)) (dSeq (dFor (dIter (dVar 0)) (dName 1) (dIf (dAndT (dTest (dBin (gIn true) (dVar 1) (dC (.str "abcdefghijklmnopqrstuvwxyz")))) (dTest (dBin (gIn true) (dVar 1) (dC (.str "0123456789"))))) (dRet (dC (.bl false))) (dNext))) (dRet (dC (.bl true))))
/-- a name, by its code points -/
def isLet (c : Nat) : Bool := decide (c ∈ LET.cps.toList)
def isAln (c : Nat) : Bool := decide (c ∈ LET.cps.toList) || decide (c ∈ DIG.cps.toList)
def validC (l : List Nat) : Bool := decide (1 ≤ l.length) && decide (l.length ≤ 6) && (match l with | c :: _ => isLet c | [] => false) && l.all isAln
def validN (z : Str) : Bool := validC z.cps.toList
def S_valid_name : DSp := fun ds μ Q _ => ∃ z, ds = [.str z] ∧ z.length ≤ sizeLine ∧ Q (.bl (validN z)) μ
theorem lp_valid {z : Str} {De : DEnds} {μ : Mu} : ∀ (l : List Nat) (x : Option D), (l.all isAln = true → ∀ y, De.nx [some (.str z), y] μ) → (l.all isAln = false → De.rt (.bl false) μ) →
    dLoop none (dName 1) (dIf (dAndT (dTest (dBin (gIn true) (dVar 1) (dC (.str "abcdefghijklmnopqrstuvwxyz")))) (dTest (dBin (gIn true) (dVar 1) (dC (.str "0123456789"))))) (dRet (dC (.bl false))) dNext) (l.map fun c => D.str ⟨#[c]⟩) De [some (.str z), x] μ
  | [], x, h1, _ => ⟨trivial, h1 rfl x⟩
  | c :: l, x, h1, h2 => by
    have ih := lp_valid l (some (.str ⟨#[c]⟩)) (z := z) (De := De) (μ := μ)
    have e : isAln c = (decide (c ∈ (Str.ofString "abcdefghijklmnopqrstuvwxyz").cps.toList) || decide (c ∈ (Str.ofString "0123456789").cps.toList)) := rfl
    rw [List.map_cons, dLoop]
    refine ⟨trivial, ?_⟩
    walk_at "dv"
    rw [List.all_cons] at h1 h2
    cases e1 : decide (c ∈ (Str.ofString "abcdefghijklmnopqrstuvwxyz").cps.toList) with
    | true =>
      rw [e1, Bool.true_or] at e
      rw [e, Bool.true_and] at h1 h2
      walk_at "dv"
      exact ih h1 h2
    | false =>
      walk_at "dv"
      cases e2 : decide (c ∈ (Str.ofString "0123456789").cps.toList) with
      | true =>
        rw [e1, e2, Bool.false_or] at e
        rw [e, Bool.true_and] at h1 h2
        walk_at "dv"
        exact ih h1 h2
      | false =>
        rw [e1, e2, Bool.false_or] at e
        rw [e, Bool.false_and] at h2
        walk_at "dv"
        exact h2 rfl
theorem rd_valid_name : ∀ ds μ Q E, S_valid_name ds μ Q E → t_valid_name (dFn μ Q E) (start0 ["text", "char"] ds) μ := by
  rintro _ μ Q E ⟨z, rfl, hz, q⟩
  unfold t_valid_name
  walk_at "dv"
  refine ⟨hz, ?_⟩
  unfold validN validC at q
  have hl : z.length = z.cps.toList.length := by rw [Array.length_toList]; rfl
  cases hc : z.cps.toList with
  | nil =>
    rw [hc] at hl q
    rw [hl]
    exact FnEnd.here q
  | cons c l =>
    rw [hc] at hl q
    rw [hl]
    by_cases h6 : (c :: l).length ≤ 6
    · have a1 : decide (1 ≤ (((c :: l).length : Nat) : Int)) = true := decide_eq_true (by simp; omega)
      have a2 : decide ((((c :: l).length : Nat) : Int) ≤ 6) = true := decide_eq_true (by omega)
      have b1 : decide (1 ≤ (c :: l).length) = true := decide_eq_true (by simp)
      rw [b1, decide_eq_true h6] at q
      rw [a1, a2]
      walk_at "dv"
      have q : Q (D.bl (isLet c && (c :: l).all isAln)) μ := q
      refine ⟨by have := hz; rw [hl] at this; simpa using this, ?_⟩
      have e0 : isLet c = decide (c ∈ (Str.ofString "abcdefghijklmnopqrstuvwxyz").cps.toList) := rfl
      cases e1 : decide (c ∈ (Str.ofString "abcdefghijklmnopqrstuvwxyz").cps.toList) with
      | false =>
        rw [e1] at e0
        walk_at "dv"
        rw [e0] at q
        exact FnEnd.here (by simpa using q)
      | true =>
        rw [e1] at e0
        walk_at "dv"
        rw [e0] at q
        unfold signs
        rw [hc]
        refine lp_valid (c :: l) none (fun h y => FnEnd.here ?_) (fun h => FnEnd.here ?_)
        · rw [h] at q; exact q
        · rw [h] at q; exact q
    · have a2 : decide ((((c :: l).length : Nat) : Int) ≤ 6) = false := decide_eq_false (by omega)
      have a1 : decide (1 ≤ (((c :: l).length : Nat) : Int)) = true := decide_eq_true (by simp; omega)
      rw [a1, a2]
      walk_at "dv"
      rw [decide_eq_false h6] at q
      exact FnEnd.here (by simpa using q)
end DV
namespace DV
open PySem PySem.Spec PyProof.Rows L2
structure StA (μ : Mu) (l l0 l1 : Nat) (k : Int) (xs ys : List Int) : Prop where
  c : μ[l]? = some (.lst [.ref l0, .ref l1, .int k])
  c0 : μ[l0]? = some (.lst (xs.map .int))
  c1 : μ[l1]? = some (.lst (ys.map .int))
  n0 : l ≠ l0
  n1 : l ≠ l1
  n01 : l0 ≠ l1
theorem deq_int (μ : Mu) (i j : Int) : deq μ (.int i) (.int j) = decide (i = j) := by
  show PyData.eqv (.int i) (.int j) = _
  simp only [PyData.eqv]
  rfl
theorem deqOk_int (μ : Mu) (i j : Int) : deqOk μ (.int i) (.int j) := ⟨rfl, rfl⟩
theorem lk_cell {μ : Mu} {l : Nat} {xs : List D} (h : μ[l]? = some (.lst xs)) : lk μ (.ref l) = .lst xs := by
  unfold lk; dsimp only; rw [h]
theorem StA.ix0 {μ : Mu} {l l0 l1 : Nat} {k : Int} {xs ys : List Int} (h : StA μ l l0 l1 k xs ys) (Q : D → Mu → Prop) : gIx (.ref l) (.int 0) μ Q = Q (.ref l0) μ := by
  unfold gIx; rw [lk_cell h.c]; rfl
theorem StA.ix1 {μ : Mu} {l l0 l1 : Nat} {k : Int} {xs ys : List Int} (h : StA μ l l0 l1 k xs ys) (Q : D → Mu → Prop) : gIx (.ref l) (.int 1) μ Q = Q (.ref l1) μ := by
  unfold gIx; rw [lk_cell h.c]; rfl
theorem StA.ix2 {μ : Mu} {l l0 l1 : Nat} {k : Int} {xs ys : List Int} (h : StA μ l l0 l1 k xs ys) (Q : D → Mu → Prop) : gIx (.ref l) (.int 2) μ Q = Q (.int k) μ := by
  unfold gIx; rw [lk_cell h.c]; rfl
theorem fmod_lt {d m : Int} (h : 0 < m) : 0 ≤ d.fmod m ∧ d.fmod m < m := ⟨Int.fmod_nonneg_of_pos d h, Int.fmod_lt_of_pos d h⟩
theorem pow_ok {i : Int} (h : 0 ≤ i) (h2 : i < 18446744073709551616) : (0 : Int) ≤ 5 ∧ (5 : Int) ≤ 1000000 ∧ i.natAbs < 2 ^ 64 := ⟨by decide, by decide, by omega⟩
end DV
namespace DV
open PySem PySem.Spec PyProof.Rows L2
theorem CellAt.sub {K : PySem.W.Frag} {n n' : Now} {a : Addr} {c : Cell} (h : CellAt K n a c) (ho : ∀ k, c ≠ .orc k) (ha : n'.H a = n.H a) (hb : n.Hb a = none → n'.Hb a = none) (s : Same n.Hb n'.Hb) (pr : n.al <+: n'.al) : CellAt K n' a c := by
  cases c with
  | gone => trivial
  | lst ds => obtain ⟨h0, vs, h1, h2⟩ := h; exact ⟨hb h0, vs, ha.trans h1, h2.mono s pr⟩
  | dct kvs => obtain ⟨h0, vs, h1, h2, h3⟩ := h; exact ⟨hb h0, vs, ha.trans h1, h2, h3.mono s pr⟩
  | dtp kvs => obtain ⟨h0, vs, h1, h2, h3⟩ := h; exact ⟨hb h0, vs, ha.trans h1, h2, h3.mono s pr⟩
  | ins C fs => obtain ⟨h0, dx, vs, h1, h2, h3⟩ := h; exact ⟨hb h0, dx, vs, ha.trans h1, h2, h3.mono s pr⟩
  | orc k => exact absurd rfl (ho k)
  | exc dd fs => obtain ⟨h0, he, us, h1, h2, h3⟩ := h; exact ⟨hb h0, he, us, ha.trans h1, h2, fun f v e => let ⟨d, e1, e2⟩ := h3 f v e; ⟨d, e1, e2.mono s pr⟩⟩
theorem CellAt.back {K : PySem.W.Frag} {n n' : Now} {a : Addr} {c : Cell} {ph : List Addr} (h0 : CellAt K n a c) (h : CellAt K n' a c) (ho : ∀ k, c ≠ .orc k) (pr : n.al <+: n'.al) : CellAt K ⟨n'.Hb, n'.H, n.al, ph⟩ a c := by
  cases c with
  | gone => trivial
  | lst ds => obtain ⟨_, _, _, z⟩ := h0; obtain ⟨h0, vs, h1, h2⟩ := h; exact ⟨h0, vs, h1, Reps.back pr z h2⟩
  | dct kvs => obtain ⟨_, _, _, _, z⟩ := h0; obtain ⟨h0, vs, h1, h2, h3⟩ := h; exact ⟨h0, vs, h1, h2, Reps.back pr z h3⟩
  | dtp kvs => obtain ⟨_, _, _, _, z⟩ := h0; obtain ⟨h0, vs, h1, h2, h3⟩ := h; exact ⟨h0, vs, h1, h2, Reps.back pr z h3⟩
  | ins C fs => obtain ⟨_, _, _, _, _, z⟩ := h0; obtain ⟨h0, dx, vs, h1, h2, h3⟩ := h; exact ⟨h0, dx, vs, h1, h2, Reps.back pr z h3⟩
  | orc k => exact absurd rfl (ho k)
  | exc dd fs => obtain ⟨_, _, us0, _, h5, h4⟩ := h0; obtain ⟨h0, he, us, h1, h2, h3⟩ := h; exact ⟨h0, he, us, h1, h2, exc_back pr h5 h4 h3⟩
end DV
namespace DV
open PySem PySem.Spec PyProof.Rows L2
theorem compStart {Γ : Gam} {μ : Mu} {Q : List D → Mu → Prop} : ∀ (ns : List Int) (acc : List Int), acc.length + ns.length ≤ 100 → (∀ x ∈ acc, 0 ≤ x) → (∀ xs : List Int, xs.length ≤ 100 → (∀ x ∈ xs, 0 ≤ x) → Q (xs.map .int) μ) → 1 < Γ.length →
    dCompL none (cName 1) (dTest (dBin (gI fun i j => .bl (decide (j ≤ i))) (dCall gAbs (dCons (dVar 1) dNil)) (dBin gPow (dC (.int 10)) (dC (.int 18))))) (dCall gAbs (dCons (dVar 1) dNil)) Γ (ns.map .int) (acc.map .int) μ Q
  | [], acc, h1, h2, q, hg => ⟨trivial, q acc (by simpa using h1) h2⟩
  | n :: ns, acc, h1, h2, q, hg => by
    rw [List.length_cons] at h1
    have g1 : (Γ.set 1 (some (D.int n)))[1]? = some (some (.int n)) := List.getElem?_set_self hg
    refine ⟨trivial, ?_⟩
    simp only [cName, dTest, dBin, dCall, dCons, dNil, dVar, g1, gAbs, dC, gPow, gI]
    refine ⟨by decide, ?_⟩
    cases decide ((10 : Int) ^ (18 : Int).toNat ≤ if n < 0 then -n else n) with
    | false => exact compStart ns acc (by omega) h2 q hg
    | true =>
      refine ⟨by rw [List.length_map, sizeLine_eq]; omega, ?_⟩
      have e : acc.map D.int ++ [D.int (if n < 0 then -n else n)] = (acc ++ [if n < 0 then -n else n]).map D.int := by simp
      rw [e]
      refine compStart ns _ (by simp; omega) (fun x hx => ?_) q hg
      rcases List.mem_append.mp hx with hx | hx
      · exact h2 x hx
      · rw [List.mem_singleton.mp hx]; split <;> omega
end DV
namespace DV
open PySem PySem.Spec PyProof.Rows L2
/-! ### texts -/
def asc (z : Str) : Prop := ∀ c ∈ z.cps.toList, c < 128
theorem len_list (a : Str) : a.length = a.cps.toList.length := by rw [Array.length_toList]; rfl
theorem asc_ok {z : Str} (h : asc z) : PyData.strOk z = true := by
  unfold PyData.strOk
  rw [Array.all_eq_true]
  intro i hi
  have := h z.cps[i] (by simp)
  simp only [decide_eq_true_eq]
  omega
/-! ### a comprehension that draws nothing -/
theorem comp_pure {src : Option (Nat × List D)} {g : D → Gam → Mu → (Gam → Prop) → Prop} {tt : DTT} {te : DTE} {Γ : Gam} {μ : Mu} {Q : List D → Mu → Prop} (p : D → Bool) (f : D → D) (hG : Gd src μ) : ∀ (ds acc : List D),
    (∀ d ∈ ds, ∀ (K1 : D → Mu → Prop) (K2 : Mu → Prop), cond (p d) (K1 (f d) μ) (K2 μ) → g d Γ μ fun Γ1 => tt Γ1 μ (fun b μ2 => cond b (te Γ1 μ2 K1 fun _ _ => False) (K2 μ2)) fun _ _ => False) → acc.length + ds.length ≤ sizeLine →
    Q (acc ++ (ds.filter p).map f) μ → dCompL src g tt te Γ ds acc μ Q
  | [], acc, _, _, q => ⟨hG, by simpa using q⟩
  | d :: ds, acc, hs, hl, q => by
    rw [List.length_cons] at hl
    refine ⟨hG, hs d (by simp) _ _ ?_⟩
    cases e : p d with
    | true =>
      refine ⟨by omega, comp_pure p f hG ds _ (fun x hx => hs x (by simp [hx])) (by simp; omega) ?_⟩
      simpa [List.filter_cons, e] using q
    | false => exact comp_pure p f hG ds _ (fun x hx => hs x (by simp [hx])) (by omega) (by simpa [List.filter_cons, e] using q)
/-! ### the law's own helpers -/
end DV
namespace DV
open PySem PySem.Spec PyProof.Rows L2
/-! ### the end of a law -/
end DV
namespace DV
open PySem PySem.Spec PyProof.Rows L2
/-! ### helpers of the laws: texts -/
end DV
namespace DV
open PySem PySem.Spec PyProof.Rows L2
/-! ### instances of own classes -/
def putD (f : Str) (v : D) : List (Str × D) → List (Str × D)
  | [] => [(f, v)]
  | (g, x) :: r => if g = f then (g, v) :: r else (g, x) :: putD f v r
section
variable {K : PySem.W.Frag} {Hb : Hp} {al : List Addr}
/-- fields alike -/
theorem flds_look : ∀ {fs : List (Str × D)} {us : List (Str × V)} {f : Str} {d : D}, fs.map (·.1) = us.map (·.1) → Reps K Hb al (us.map (·.2)) (fs.map (·.2)) → fs.lookup f = some d → ∃ v, us.lookup f = some v ∧ Rep K Hb al v d
  | [], _, _, _, _, _, h => by simp at h
  | (g, x) :: fs, [], _, _, e, _, _ => by simp at e
  | (g, x) :: fs, (g', u) :: us, f, d, e, r, h => by
    simp only [List.map_cons, List.cons.injEq] at e
    obtain ⟨rfl, e⟩ := e
    cases r with
    | cons r1 r2 =>
      rw [List.lookup_cons] at h ⊢
      split at h
      · cases h; exact ⟨u, rfl, r1⟩
      · exact flds_look e r2 h
theorem flds_none : ∀ {fs : List (Str × D)} {us : List (Str × V)} {f : Str}, fs.map (·.1) = us.map (·.1) → fs.lookup f = none → us.lookup f = none
  | [], [], _, _, _ => rfl
  | [], _ :: _, _, e, _ => by simp at e
  | (g, x) :: fs, [], _, e, _ => by simp at e
  | (g, x) :: fs, (g', u) :: us, f, e, h => by
    simp only [List.map_cons, List.cons.injEq] at e
    obtain ⟨rfl, e⟩ := e
    rw [List.lookup_cons] at h ⊢
    split at h
    · cases h
    · exact flds_none e h
theorem flds_put {f : Str} {v : V} {d : D} (rv : Rep K Hb al v d) : ∀ {fs : List (Str × D)} {us : List (Str × V)}, fs.map (·.1) = us.map (·.1) → Reps K Hb al (us.map (·.2)) (fs.map (·.2)) →
    (putD f d fs).map (·.1) = (putF f v us).map (·.1) ∧ Reps K Hb al ((putF f v us).map (·.2)) ((putD f d fs).map (·.2))
  | [], [], _, _ => ⟨rfl, .cons rv .nil⟩
  | [], _ :: _, e, _ => by simp at e
  | (g, x) :: fs, [], e, _ => by simp at e
  | (g, x) :: fs, (g', u) :: us, e, r => by
    simp only [List.map_cons, List.cons.injEq] at e
    obtain ⟨rfl, e⟩ := e
    cases r with
    | cons r1 r2 =>
      obtain ⟨i1, i2⟩ := flds_put rv e r2
      unfold putD putF
      by_cases q : g = f
      · rw [if_pos q, if_pos q]; exact ⟨by simp [e], .cons rv r2⟩
      · rw [if_neg q, if_neg q]; exact ⟨by simp only [List.map_cons]; rw [i1], .cons r1 i2⟩
end
def dFld (C : Addr) (f : Str) (fo : DTE) : DTE := fun Γ μ Q E => fo Γ μ (fun d μ1 => match lk μ1 d with
  | .ins C' fs => C' = C ∧ (match fs.lookup f with | some v => Q v μ1 | none => False)
  | _ => False) E
def dSetF (C : Addr) (f : Str) (fo fv : DTE) : DTS := fun D Γ μ => fv Γ μ (fun v μ1 => fo Γ μ1 (fun o μ2 => match o with
  | .ref l => (match μ2[l]? with
    | some (.ins C' fs) => C' = C ∧ fs.length < 1000 ∧ D.nx Γ (μ2.set l (.ins C (putD f v fs)))
    | _ => False)
  | _ => False) (fun x μ1 => D.ex x Γ μ1)) (fun x μ1 => D.ex x Γ μ1)
section
variable {X : Cx} {W : WX} {o e value : Expr} {es : List Expr} {f m x : Str} {p pos pos' apos : Pos} {fo fv fi : DTE} {fr : DTA} {C g pr : Addr} {k : Nat} {fd : FuncData} {ps : List Str} {S : DSp}
theorem de_fld (c : Cls X.K C) (n : NoAttr X.K C f) (he : DE X W e fo) (hb : attributeBase e f X.env (eval e X.env) = eval e X.env := by rfl) : DE X W (.Attribute e f pos) (dFld C f fo) := PE.imp (pe_fld he hb) fun σ H Q ⟨n, Γ, μ, Qd, Ed, hH, sr, gr, h, hq, hx⟩ => by
  subst hH
  refine lift_go sr gr h (fun n1 x dx μ1 s1 r1 p1 q1 => ?_) hx
  try dsimp only at q1
  split at q1
  · rename_i C' fs e
    obtain ⟨rfl, q1⟩ := q1
    obtain ⟨a, dx, us, rfl, h1, h2, h3⟩ := see_ins r1 p1 e
    split at q1
    · rename_i d e2
      obtain ⟨v, h4, h5⟩ := flds_look h2 h3 e2
      exact ⟨a, _, dx, us, v, rfl, h1, c, by assumption, h4, hq n1 v d μ1 s1 r1 h5 q1⟩
    · exact q1.elim
  · exact q1.elim
theorem ds_fld (c : Cls X.K C) (n : NoAttr X.K C f) (ho : DE X W o fo) (hv : DE X W value fv) (hs : swapsWith value (some (.Attribute o f pos')) pos.line X.env = pure false := by rfl) : DS X W (.Assign [.Attribute o f pos'] value pos) (dSetF C f fo fv) :=
  PS.imp (ps_fld ho hv hs) fun Dn σ H ⟨A, n, Γ, μ, Dd, hH, sa, sr, gr, h, l⟩ => by
  subst hH
  have hx := l.x sa gr
  refine lift_go sr gr h (fun n1 v dv μ1 s1 r1 p1 q1 => lift_go r1 (gr.step s1) q1 (fun n2 x dx μ2 s2 r2 p2 q2 => ?_) (hx.step s1)) hx
  cases p2 with
  | @ref i a hl =>
    dsimp only at q2
    split at q2
    · rename_i C' fs e
      obtain ⟨rfl, hlen, q2⟩ := q2
      obtain ⟨hb, dx, us, h1, h2, h3⟩ := r2.cell _ _ _ hl e
      have hl2 : fs.length = us.length := by simpa using congrArg List.length h2
      obtain ⟨z1, z2⟩ := flds_put (f := f) (s2.rep p1) h2 h3
      refine ⟨a, _, dx, us, rfl, h1, c, by assumption, by omega, ?_⟩
      exact l.nx (n2.more a (.ins _ dx (putF f v us))) Γ σ _ (((sa.trans s1).trans s2).trans (Step.write hl hb)) (r2.write hl hb (c := .ins _ (putD f dv fs)) ⟨hb, dx, _, upd_same, z1, z2⟩ (fun k z => by cases z)) (((gr.step s1).step s2).step (Step.write hl hb)) q2
    · exact q2.elim
  | _ => exact q2.elim
/-! ### C(..): a new object, fixed behind its __init__ -/
def dMake (C : Addr) (S : DSp) (fr : DTA) : DTE := fun Γ μ Q E => fr Γ μ (fun vs μ1 => S (.ref μ1.length :: vs) (μ1 ++ [.ins C []])
  (fun r μ2 => r = .non ∧ ∃ fs μ3, μ2 = μ3 ++ [.ins C fs] ∧ Upd μ1 μ3 ∧ D.puF fs = true ∧ Q (.ins C fs) μ3)
  (fun x μ2 => ∃ c μ3, μ2 = μ3 ++ [c] ∧ Upd μ1 μ3 ∧ D.puF x.fs = true ∧ E x μ3)) E
theorem ins_rep {K : PySem.W.Frag} {Hb : Hp} {al : List Addr} {a C dx : Addr} {us : List (Str × V)} {fs : List (Str × D)} (h : Hb a = some (.ins C dx us)) (h2 : fs.map (·.1) = us.map (·.1)) (h3 : Reps K Hb al (us.map (·.2)) (fs.map (·.2))) : Rep K Hb al (.ref a) (.ins C fs) := by
  have hz : fs = (us.map (·.1)).zip (fs.map (·.2)) := (zip_maps fs us h2).symm
  rw [hz]
  exact .ins h rfl h3
/-- what C(..) asks of __init__'s promise, at the layer's level -/
theorem make_go {K : PySem.W.Frag} {n1 : Now} {μ1 : Mu} {vs : List V} {ds : List D} {Qd : D → Mu → Prop} {Ed : Exn → Mu → Prop} {Q : VK} {E : XK} (r1 : SR0 K n1 μ1) (p1 : Reps K n1.Hb n1.al vs ds)
    (q1 : S (.ref μ1.length :: ds) (μ1 ++ [.ins C []]) (fun r μ2 => r = .non ∧ ∃ fs μ3, μ2 = μ3 ++ [.ins C fs] ∧ Upd μ1 μ3 ∧ D.puF fs = true ∧ Qd (.ins C fs) μ3) (fun x μ2 => ∃ c μ3, μ2 = μ3 ++ [c] ∧ Upd μ1 μ3 ∧ D.puF x.fs = true ∧ Ed x μ3))
    (hq : LV K n1 Qd Q) (hx : ∀ n' cls dd x μ', Step n1 n' → SR0 K n' μ' → ExR K n1 n' cls dd x → Ed x μ' → E cls dd n'.H) (x dx : Addr) (nx : n1.H x = none) (ndx : n1.H dx = none) (ne : dx ≠ x) :
    spOf K S (.ref x :: vs) (upd (upd n1.H dx (.own x)) x (.ins C dx [])) (fun v H2 => v = .non ∧ Q (.ref x) H2) E := by
  have rx : SR0 K (n1.more dx (.own x)) μ1 := r1.more ndx
  have nx' : (n1.more dx (.own x)).H x = none := by show upd n1.H dx _ x = none; rw [upd_ne (Ne.symm ne)]; exact nx
  have ra : SR0 K ((n1.more dx (.own x)).cell x (.ins C dx [])) (μ1 ++ [.ins C []]) := rx.cellN nx' (c := .ins C []) ⟨rx.hb nx', dx, [], upd_same, rfl, .nil⟩ (fun k z => by cases z)
  have st : Step n1 ((n1.more dx (.own x)).cell x (.ins C dx [])) := (Step.more ndx).trans (Step.cell nx')
  have hal : ((n1.more dx (.own x)).cell x (.ins C dx [])).al = n1.al ++ [x] := rfl
  refine ⟨(n1.more dx (.own x)).cell x (.ins C dx []), _, _, _, _, rfl, ra, .cons (.ref ?_) (st.reps p1), q1, ?_, ?_⟩
  · rw [hal, ← r1.len]; simp
  · rintro n2 v d μ2 s2 r2 rv ⟨rfl, fs, μ3, rfl, u, hp, q⟩
    cases rv
    refine ⟨rfl, ?_⟩
    have hx2 : n2.al[μ3.length]? = some x := pre_get s2.pre (by rw [hal, u.1, ← r1.len]; simp)
    obtain ⟨hb, dx2, us, h1, h2, h3⟩ := r2.cell μ3.length x (.ins C fs) hx2 (by simp)
    have fz := frozen (l := 0) (loc := [.ins C fs]) r1 (st.trans s2) r2 u (by simpa using hx2) h1 hb
    refine hq ⟨upd n2.Hb x (.ins C dx2 us), n2.H, n1.al, n2.ph⟩ _ (.ins C fs) μ3 fz.2 fz.1 ?_ q
    exact ins_rep upd_same h2 ((h3.any (by rw [← puF_eq]; exact hp)).mono (same_upd hb) (List.prefix_refl _))
  · rintro n2 cls dd y μ2 s2 r2 ex ⟨c, μ3, rfl, u, hp, q⟩
    obtain ⟨t1, t2⟩ := trunc r1 (st.trans s2) r2 u
    exact hx ⟨n2.Hb, n2.H, n1.al, n2.ph⟩ cls dd y μ3 t2 t1 (exr_trunc (ex.anchor st) hp fun a h => (st.trans s2).pre.subset h) q
theorem run_makeD {pins : List (Addr × Obj)} {σ : L2.St} {s : Shared} {n1 : Now} {μ1 : Mu} {ds : List D} {Qd : D → Mu → Prop} {Ed : Exn → Mu → Prop} {Q : VK} {us ws : List Value} {kw : List (Str × Value)} {vs : List V} {fI : Addr} (M : Mk X.K C fI) (F : FnOk X.prog X.w X.K X.mg X.base (L2N.CX X.prog X.w) k fI fd ps (spOf X.K S)) (hr : Room (k + 1) X.A)
    (hb : ∀ (s' : Shared) (a : Addr), X.K.In s'.heap → BindsTo s' fd ⟨.ref a :: us, kw⟩ (ps.zip (.ref a :: ws))) (tk : L2N.Takes X W)
    (I : Inv X pins σ n1.H s) (r : Vals vs ws) (r1 : SR0 X.K n1 μ1) (p1 : Reps X.K n1.Hb n1.al vs ds)
    (q1 : S (.ref μ1.length :: ds) (μ1 ++ [.ins C []]) (fun r μ2 => r = .non ∧ ∃ fs μ3, μ2 = μ3 ++ [.ins C fs] ∧ Upd μ1 μ3 ∧ D.puF fs = true ∧ Qd (.ins C fs) μ3) (fun x μ2 => ∃ c μ3, μ2 = μ3 ++ [c] ∧ Upd μ1 μ3 ∧ D.puF x.fs = true ∧ Ed x μ3))
    (hq : LV X.K n1 Qd Q) (hx : ∀ n' cls dd x μ', Step n1 n' → SR0 X.K n' μ' → ExR X.K n1 n' cls dd x → Ed x μ' → W cls dd σ n'.H) : wpAny (model X.prog X.w) X.A (call (.ref C) us kw) (EP X pins σ Q) X.xe s := by
  have I2 := Inv.made (C := C) I
  have nx : n1.H (s.heap.objs.size + 1) = none := I.hok.fresh (Nat.le_succ _)
  have nd : n1.H s.heap.objs.size = none := I.hok.fresh (Nat.le_refl _)
  have sp := make_go (C := C) (S := S) (E := WE W σ) r1 p1 q1 hq hx _ _ nx nd (Nat.ne_of_lt (Nat.lt_succ_self _))
  have rr : Vals (V.ref (s.heap.objs.size + 1) :: vs) (Value.ref (s.heap.objs.size + 1) :: ws) := .cons rfl r
  have go := F.run (X.A.under (.builtin "type.__call__" ⟨.ref C :: us, kw⟩)) X.stack _ _ ⟨Value.ref (s.heap.objs.size + 1) :: us, kw⟩ _ _ _ _ (hr.make C us kw) (I2.env0.make C us kw) (hb _ _ I2.kIn) rr sp
  refine wpAny_call (make_map (f := fI) I.kIn M.makes M.init (beq_iff_eq.mp M.fn) (codeAny_mono go ?_))
  intro res s' hq'
  match res, hq' with
  | .error e, hq' => exact L2N.passAt tk σ pins _ _ e s' I2 hq'
  | .ok (.ret u), hq' =>
    obtain ⟨v, H', I3, rv, ev, q3⟩ := I2.after hq'
    subst ev
    exact ⟨rv, ⟨V.ref (s.heap.objs.size + 1), H', I3, rfl, q3⟩⟩
theorem de_make {fI : Addr} (M : Mk X.K C fI) (F : FnOk X.prog X.w X.K X.mg X.base (L2N.CX X.prog X.w) k fI fd ps (spOf X.K S)) (hr : Room (k + 1) X.A) (hg : Gl X x) (hm : X.mg x = some (.ref C)) (hb : Binds X.K fd ps []) (tk : L2N.Takes X W) (ha : DA X W (e :: es) fr) (hdb : (x == ("__debug__" : Str)) = false := by decide)
    (he : starEach (e :: es) X.env = (false, eval e X.env) :: starEach es X.env := by rfl) (hpl : (backTo pos (starEach es X.env)).any (·.1) = false := by rfl) : DE X W (.Call (.Name x p) (e :: es) [] pos) (dMake C S fr) := by
  refine ⟨fun pins s σ H Q I ⟨n, Γ, μ, Qd, Ed, hH, sr, gr, h, hq, hx⟩ => ?_⟩
  subst hH
  refine wpAny_Call_Name_kw (ld_glob I hg hm ?_ hdb)
  let R : List V → Hp → Prop := fun vs H1 => ∃ n1 ds μ1, n1.H = H1 ∧ SR0 X.K n1 μ1 ∧ Reps X.K n1.Hb n1.al vs ds ∧ LV X.K n1 Qd Q ∧ (∀ n' cls dd x μ', Step n1 n' → SR0 X.K n' μ' → ExR X.K n1 n' cls dd x → Ed x μ' → W cls dd σ n'.H) ∧
    S (.ref μ1.length :: ds) (μ1 ++ [.ins C []]) (fun r μ2 => r = .non ∧ ∃ fs μ3, μ2 = μ3 ++ [.ins C fs] ∧ Upd μ1 μ3 ∧ D.puF fs = true ∧ Qd (.ins C fs) μ3) (fun x μ2 => ∃ c μ3, μ2 = μ3 ++ [c] ∧ Upd μ1 μ3 ∧ D.puF x.fs = true ∧ Ed x μ3)
  refine PySem.W.callWith_K (h₀ := X.base) I.ok.mod.kin M.kp (thn (ha.run pos pins s σ n.H R I (liftA_go sr gr h (fun n1 vs ds μ1 s1 r1 p1 q1 => ⟨n1, ds, μ1, rfl, r1, p1, LV.step hq s1, hx.step s1, q1⟩) hx)) ?_) he hpl
  rintro us s1 ⟨vs, H1, I1, r, n1, ds, μ1, rfl, r1, p1, hq1, hx1, q1⟩
  refine ⟨I1.kIn, ?_⟩
  have hl : us.length + 1 = ps.length := by
    have nx : n1.H (s1.heap.objs.size + 1) = none := I1.hok.fresh (Nat.le_succ _)
    have nd : n1.H s1.heap.objs.size = none := I1.hok.fresh (Nat.le_refl _)
    have := F.len _ _ _ _ (make_go (C := C) (S := S) (E := WE W σ) r1 p1 q1 hq1 hx1 _ _ nx nd (Nat.ne_of_lt (Nat.lt_succ_self _)))
    rw [← this, List.length_cons, r.length]
  refine run_makeD (ws := us) M F hr (fun s' a hk => ?_) tk I1 r r1 p1 q1 hq1 hx1
  have := hb s' (.ref a :: us) hk (by simpa using hl)
  rwa [List.append_nil] at this
/-- C(..) whose __init__ leaves further cells behind: all become data -/
def dMakeM (C : Addr) (S : DSp) (fr : DTA) : DTE := fun Γ μ Q E => fr Γ μ (fun vs μ1 => S (.ref μ1.length :: vs) (μ1 ++ [.ins C []])
  (fun r μ2 => r = .non ∧ ∃ e loc μ3, μ2 = μ3 ++ loc ∧ Upd μ1 μ3 ∧ Fz μ3.length (μ3 ++ loc) (.ref μ1.length) e ∧ Q e μ3)
  (fun x μ2 => ∃ loc μ3, μ2 = μ3 ++ loc ∧ Upd μ1 μ3 ∧ D.puF x.fs = true ∧ E x μ3)) E
theorem make_goM {K : PySem.W.Frag} {n1 : Now} {μ1 : Mu} {vs : List V} {ds : List D} {Qd : D → Mu → Prop} {Ed : Exn → Mu → Prop} {Q : VK} {E : XK} (r1 : SR0 K n1 μ1) (p1 : Reps K n1.Hb n1.al vs ds)
    (q1 : S (.ref μ1.length :: ds) (μ1 ++ [.ins C []]) (fun r μ2 => r = .non ∧ ∃ e loc μ3, μ2 = μ3 ++ loc ∧ Upd μ1 μ3 ∧ Fz μ3.length (μ3 ++ loc) (.ref μ1.length) e ∧ Qd e μ3) (fun x μ2 => ∃ loc μ3, μ2 = μ3 ++ loc ∧ Upd μ1 μ3 ∧ D.puF x.fs = true ∧ Ed x μ3))
    (hq : LV K n1 Qd Q) (hx : ∀ n' cls dd x μ', Step n1 n' → SR0 K n' μ' → ExR K n1 n' cls dd x → Ed x μ' → E cls dd n'.H) (x dx : Addr) (nx : n1.H x = none) (ndx : n1.H dx = none) (ne : dx ≠ x) :
    spOf K S (.ref x :: vs) (upd (upd n1.H dx (.own x)) x (.ins C dx [])) (fun v H2 => v = .non ∧ Q (.ref x) H2) E := by
  have rx : SR0 K (n1.more dx (.own x)) μ1 := r1.more ndx
  have nx' : (n1.more dx (.own x)).H x = none := by show upd n1.H dx _ x = none; rw [upd_ne (Ne.symm ne)]; exact nx
  have ra : SR0 K ((n1.more dx (.own x)).cell x (.ins C dx [])) (μ1 ++ [.ins C []]) := rx.cellN nx' (c := .ins C []) ⟨rx.hb nx', dx, [], upd_same, rfl, .nil⟩ (fun k z => by cases z)
  have st : Step n1 ((n1.more dx (.own x)).cell x (.ins C dx [])) := (Step.more ndx).trans (Step.cell nx')
  have hal : ((n1.more dx (.own x)).cell x (.ins C dx [])).al = n1.al ++ [x] := rfl
  refine ⟨(n1.more dx (.own x)).cell x (.ins C dx []), _, _, _, _, rfl, ra, .cons (.ref ?_) (st.reps p1), q1, ?_, ?_⟩
  · rw [hal, ← r1.len]; simp
  · rintro n2 v d μ2 s2 r2 rv ⟨rfl, e, loc, μ3, rfl, u, hf, q⟩
    cases rv
    refine ⟨rfl, ?_⟩
    have hx2 : n2.al[μ1.length]? = some x := pre_get s2.pre (by rw [hal, ← r1.len]; simp)
    obtain ⟨z1, z2, z3⟩ := melted r1 (st.trans s2) r2 u
    exact hq ⟨meltH n2 μ3.length, n2.H, n1.al, n2.ph⟩ _ e μ3 z2 z1 (melt_rep r2 z3 hf (.ref hx2)) q
  · rintro n2 cls dd y μ2 s2 r2 ex ⟨loc, μ3, rfl, u, hp, q⟩
    obtain ⟨t1, t2⟩ := trunc r1 (st.trans s2) r2 u
    exact hx ⟨n2.Hb, n2.H, n1.al, n2.ph⟩ cls dd y μ3 t2 t1 (exr_trunc (ex.anchor st) hp fun a h => (st.trans s2).pre.subset h) q
theorem run_makeM {pins : List (Addr × Obj)} {σ : L2.St} {s : Shared} {n1 : Now} {μ1 : Mu} {ds : List D} {Qd : D → Mu → Prop} {Ed : Exn → Mu → Prop} {Q : VK} {us ws : List Value} {kw : List (Str × Value)} {vs : List V} {fI : Addr} (M : Mk X.K C fI) (F : FnOk X.prog X.w X.K X.mg X.base (L2N.CX X.prog X.w) k fI fd ps (spOf X.K S)) (hr : Room (k + 1) X.A)
    (hb : ∀ (s' : Shared) (a : Addr), X.K.In s'.heap → BindsTo s' fd ⟨.ref a :: us, kw⟩ (ps.zip (.ref a :: ws))) (tk : L2N.Takes X W)
    (I : Inv X pins σ n1.H s) (r : Vals vs ws) (r1 : SR0 X.K n1 μ1) (p1 : Reps X.K n1.Hb n1.al vs ds)
    (q1 : S (.ref μ1.length :: ds) (μ1 ++ [.ins C []]) (fun r μ2 => r = .non ∧ ∃ e loc μ3, μ2 = μ3 ++ loc ∧ Upd μ1 μ3 ∧ Fz μ3.length (μ3 ++ loc) (.ref μ1.length) e ∧ Qd e μ3) (fun x μ2 => ∃ loc μ3, μ2 = μ3 ++ loc ∧ Upd μ1 μ3 ∧ D.puF x.fs = true ∧ Ed x μ3))
    (hq : LV X.K n1 Qd Q) (hx : ∀ n' cls dd x μ', Step n1 n' → SR0 X.K n' μ' → ExR X.K n1 n' cls dd x → Ed x μ' → W cls dd σ n'.H) : wpAny (model X.prog X.w) X.A (call (.ref C) us kw) (EP X pins σ Q) X.xe s := by
  have I2 := Inv.made (C := C) I
  have nx : n1.H (s.heap.objs.size + 1) = none := I.hok.fresh (Nat.le_succ _)
  have nd : n1.H s.heap.objs.size = none := I.hok.fresh (Nat.le_refl _)
  have sp := make_goM (C := C) (S := S) (E := WE W σ) r1 p1 q1 hq hx _ _ nx nd (Nat.ne_of_lt (Nat.lt_succ_self _))
  have rr : Vals (V.ref (s.heap.objs.size + 1) :: vs) (Value.ref (s.heap.objs.size + 1) :: ws) := .cons rfl r
  have go := F.run (X.A.under (.builtin "type.__call__" ⟨.ref C :: us, kw⟩)) X.stack _ _ ⟨Value.ref (s.heap.objs.size + 1) :: us, kw⟩ _ _ _ _ (hr.make C us kw) (I2.env0.make C us kw) (hb _ _ I2.kIn) rr sp
  refine wpAny_call (make_map (f := fI) I.kIn M.makes M.init (beq_iff_eq.mp M.fn) (codeAny_mono go ?_))
  intro res s' hq'
  match res, hq' with
  | .error e, hq' => exact L2N.passAt tk σ pins _ _ e s' I2 hq'
  | .ok (.ret u), hq' =>
    obtain ⟨v, H', I3, rv, ev, q3⟩ := I2.after hq'
    subst ev
    exact ⟨rv, ⟨V.ref (s.heap.objs.size + 1), H', I3, rfl, q3⟩⟩
theorem de_makeM {fI : Addr} (M : Mk X.K C fI) (F : FnOk X.prog X.w X.K X.mg X.base (L2N.CX X.prog X.w) k fI fd ps (spOf X.K S)) (hr : Room (k + 1) X.A) (hg : Gl X x) (hm : X.mg x = some (.ref C)) (hb : Binds X.K fd ps []) (tk : L2N.Takes X W) (ha : DA X W (e :: es) fr) (hdb : (x == ("__debug__" : Str)) = false := by decide)
    (he : starEach (e :: es) X.env = (false, eval e X.env) :: starEach es X.env := by rfl) (hpl : (backTo pos (starEach es X.env)).any (·.1) = false := by rfl) : DE X W (.Call (.Name x p) (e :: es) [] pos) (dMakeM C S fr) := by
  refine ⟨fun pins s σ H Q I ⟨n, Γ, μ, Qd, Ed, hH, sr, gr, h, hq, hx⟩ => ?_⟩
  subst hH
  refine wpAny_Call_Name_kw (ld_glob I hg hm ?_ hdb)
  let R : List V → Hp → Prop := fun vs H1 => ∃ n1 ds μ1, n1.H = H1 ∧ SR0 X.K n1 μ1 ∧ Reps X.K n1.Hb n1.al vs ds ∧ LV X.K n1 Qd Q ∧ (∀ n' cls dd x μ', Step n1 n' → SR0 X.K n' μ' → ExR X.K n1 n' cls dd x → Ed x μ' → W cls dd σ n'.H) ∧
    S (.ref μ1.length :: ds) (μ1 ++ [.ins C []]) (fun r μ2 => r = .non ∧ ∃ e loc μ3, μ2 = μ3 ++ loc ∧ Upd μ1 μ3 ∧ Fz μ3.length (μ3 ++ loc) (.ref μ1.length) e ∧ Qd e μ3) (fun x μ2 => ∃ loc μ3, μ2 = μ3 ++ loc ∧ Upd μ1 μ3 ∧ D.puF x.fs = true ∧ Ed x μ3)
  refine PySem.W.callWith_K (h₀ := X.base) I.ok.mod.kin M.kp (thn (ha.run pos pins s σ n.H R I (liftA_go sr gr h (fun n1 vs ds μ1 s1 r1 p1 q1 => ⟨n1, ds, μ1, rfl, r1, p1, LV.step hq s1, hx.step s1, q1⟩) hx)) ?_) he hpl
  rintro us s1 ⟨vs, H1, I1, r, n1, ds, μ1, rfl, r1, p1, hq1, hx1, q1⟩
  refine ⟨I1.kIn, ?_⟩
  have hl : us.length + 1 = ps.length := by
    have nx : n1.H (s1.heap.objs.size + 1) = none := I1.hok.fresh (Nat.le_succ _)
    have nd : n1.H s1.heap.objs.size = none := I1.hok.fresh (Nat.le_refl _)
    have := F.len _ _ _ _ (make_goM (C := C) (S := S) (E := WE W σ) r1 p1 q1 hq1 hx1 _ _ nx nd (Nat.ne_of_lt (Nat.lt_succ_self _)))
    rw [← this, List.length_cons, r.length]
  refine run_makeM (ws := us) M F hr (fun s' a hk => ?_) tk I1 r r1 p1 q1 hq1 hx1
  have := hb s' (.ref a :: us) hk (by simpa using hl)
  rwa [List.append_nil] at this
/-! ### methods, properties, o[i] -/
def isIns (μ : Mu) (C : Addr) (m : Str) (d : D) : Prop := match lk μ d with
  | .ins C' fs => C' = C ∧ fs.lookup m = none
  | _ => False
theorem isIns_at {K : PySem.W.Frag} {n : Now} {μ : Mu} {v : V} {d : D} (s : SR0 K n μ) (r : Rep K n.Hb n.al v d) (h : isIns μ C m d) : ∃ a dx us, v = .ref a ∧ n.H a = some (.ins C dx us) ∧ us.lookup m = none := by
  unfold isIns at h
  split at h
  · rename_i C' fs e
    obtain ⟨rfl, h⟩ := h
    obtain ⟨a, dx, us, rfl, h1, h2, _⟩ := see_ins s r e
    exact ⟨a, dx, us, rfl, h1, flds_none h2 h⟩
  · exact h.elim
def dMethod (C : Addr) (m : Str) (S : DSp) (fo : DTE) (fr : DTA) : DTE := fun Γ μ Q E => fo Γ μ (fun d μ1 => isIns μ1 C m d ∧ fr Γ μ1 (fun vs μ2 => S (d :: vs) μ2 Q E) E) E
theorem de_meth {pl : Sem Bool} (c : Cls X.K C) (hm : Meth X.K C m g) (F : FnOk X.prog X.w X.K X.mg X.base (L2N.CX X.prog X.w) k g fd ps (spOf X.K S)) (hr : Room k X.A) (hb : Binds X.K fd ps []) (tk : L2N.Takes X W) (he : DE X W o fo) (ha : DA X W (e :: es) fr)
    (hst : starEach (e :: es) X.env = (false, eval e X.env) :: starEach es X.env := by rfl) (hpl : (backTo pos (starEach es X.env)).any (·.1) = false := by rfl)
    (ht : eval (.Call (.Attribute o m apos) (e :: es) [] pos) X.env = (do let ov ← eval o X.env; standAt apos.atName; let (f, first) ← holding [ov] (getMethod ov m pl); callWith pos f first (backTo pos (starEach (e :: es) X.env)) (backToKw pos (keywordEach [] X.env))) := by rfl) :
    DE X W (.Call (.Attribute o m apos) (e :: es) [] pos) (dMethod C m S fo fr) := by
  refine ⟨fun pins s σ H Q I ⟨n, Γ, μ, Qd, Ed, hH, sr, gr, h, hq, hx⟩ => ?_⟩
  subst hH
  let R : V → Hp → Prop := fun v H1 => ∃ n1 d μ1, n1.H = H1 ∧ SR0 X.K n1 μ1 ∧ Rep X.K n1.Hb n1.al v d ∧ Step n n1 ∧ isIns μ1 C m d ∧ fr Γ μ1 (fun vs μ2 => S (d :: vs) μ2 Qd Ed) Ed
  refine PySem.W.methodCall_KW (pl := pl) (thn (he.run pins s σ n.H R I (lift_go sr gr h (fun n1 v d μ1 s1 r1 p1 q1 => ⟨n1, d, μ1, rfl, r1, p1, s1, q1⟩) hx)) ?_) ht
  rintro u s1 ⟨v, H1, I1, rv, n1, d, μ1, rfl, r1, p1, s1', hi, q1⟩
  obtain ⟨a, dx, us, rfl, h1, h2⟩ := isIns_at r1 p1 hi
  cases rv
  refine getmeth_ok I1 h1 c hm h2 ?_
  refine PySem.W.callWith_K (first := [.ref a]) (h₀ := X.base) I.ok.mod.kin hm.kp (thn (ha.run pos pins s1 σ n1.H (fun vs H2 => spOf X.K S (.ref a :: vs) H2 Q (WE W σ)) I1 (liftA_go r1 (gr.step s1') q1 (fun n2 vs ds μ2 s2 r2 p2 q2 => ?_) (hx.step s1'))) ?_) hst hpl
  · exact ⟨n2, d :: ds, μ2, Qd, Ed, rfl, r2, .cons (s2.rep p1) p2, q2, LV.step hq (s1'.trans s2), (hx.step s1').step s2⟩
  · rintro ws s2 ⟨vs, H2, I2, r, q2⟩
    refine ⟨I2.kIn, ?_⟩
    have rr : Vals (V.ref a :: vs) (Value.ref a :: ws) := .cons rfl r
    have hl : (Value.ref a :: ws).length = ps.length := by rw [← rr.length]; exact F.len _ _ _ _ q2
    have bb := hb s2 (.ref a :: ws) I2.kIn (by rw [List.append_nil]; exact hl)
    rw [List.append_nil] at bb
    exact run_deep (ws := .ref a :: ws) F hr tk I2 bb rr q2
def insOf (μ : Mu) (C : Addr) (d : D) : Prop := match lk μ d with
  | .ins C' _ => C' = C
  | _ => False
theorem insOf_at {K : PySem.W.Frag} {n : Now} {μ : Mu} {v : V} {d : D} (s : SR0 K n μ) (r : Rep K n.Hb n.al v d) (h : insOf μ C d) : ∃ a dx us, v = .ref a ∧ n.H a = some (.ins C dx us) := by
  unfold insOf at h
  split at h
  · rename_i C' fs e
    subst h
    obtain ⟨a, dx, us, rfl, h1, _⟩ := see_ins s r e
    exact ⟨a, dx, us, rfl, h1⟩
  · exact h.elim
/-- a property that lets nothing out -/
def dProp (C : Addr) (S : DSp) (fo : DTE) : DTE := fun Γ μ Q E => fo Γ μ (fun d μ1 => insOf μ1 C d ∧ S [d] μ1 Q fun _ _ => False) E
theorem de_prop (c : Cls X.K C) (hp : PropOf X.K C f pr g) (F : FnOk X.prog X.w X.K X.mg X.base (L2N.CX X.prog X.w) k g fd ps (spOf X.K S)) (hr : Room (k + 1) X.A) (hb : Binds X.K fd ps []) (he : DE X W e fo) (hab : attributeBase e f X.env (eval e X.env) = eval e X.env := by rfl) :
    DE X W (.Attribute e f pos) (dProp C S fo) := PE.imp (pe_prop (dvs := []) (E := fun _ _ _ => False) he c hp F hr hb .nil (fun _ _ _ _ _ _ _ z => by obtain ⟨_, _, _, _, _, _, _, _, _, _, _, _, q⟩ := z; exact q) hab) fun σ H Q ⟨n, Γ, μ, Qd, Ed, hH, sr, gr, h, hq, hx⟩ => by
  subst hH
  refine lift_go sr gr h (fun n1 x dx μ1 s1 r1 p1 q1 => ?_) hx
  obtain ⟨a, dy, us, rfl, h1⟩ := insOf_at r1 p1 q1.1
  exact ⟨a, dy, us, rfl, h1, n1, [_], μ1, Qd, fun _ _ => False, rfl, r1, .cons p1 .nil, q1.2, LV.step hq s1, fun _ _ _ _ _ _ _ _ z => z.elim⟩
/-- o[i] by an own __getitem__ -/
def dOwnIx (C : Addr) (S : DSp) (fo fi : DTE) : DTE := fun Γ μ Q E => fo Γ μ (fun d μ1 => fi Γ μ1 (fun i μ2 => insOf μ2 C d ∧ S [d, i] μ2 Q E) E) E
theorem de_ownix {i : Expr} (hs : PySem.W.findIn X.K (.ref C) "__getitem__" = some (some (.ref g))) (hf : PySem.W.fnIn X.K g = true) (hfn : PySem.W.isFn X.K (.ref g) = true) (F : FnOk X.prog X.w X.K X.mg X.base (L2N.CX X.prog X.w) k g fd ps (spOf X.K S)) (hr : Room (k + 1) X.A) (hb : Binds X.K fd ps []) (tk : L2N.Takes X W)
    (he : DE X W o fo) (hi : DE X W i fi) (hsl : ∀ x j, subscripted i true (.ref x) j = runValue (.builtin "lifetime.subscript" ⟨[.ref x, j], []⟩) := by intros; with_unfolding_all rfl) : DE X W (.Subscript o i pos) (dOwnIx C S fo fi) := by
  refine ⟨fun pins s σ H Q I ⟨n, Γ, μ, Qd, Ed, hH, sr, gr, h, hq, hx⟩ => ?_⟩
  subst hH
  let R : V → V → Hp → Prop := fun x y H2 => ∃ n2 d j μ2, n2.H = H2 ∧ SR0 X.K n2 μ2 ∧ Rep X.K n2.Hb n2.al x d ∧ Rep X.K n2.Hb n2.al y j ∧ Step n n2 ∧ insOf μ2 C d ∧ S [d, j] μ2 Qd Ed
  refine Subscript_ (binT he hi (R := R) I (lift_go sr gr h (fun n1 x dx μ1 s1 r1 p1 q1 => lift_go r1 (gr.step s1) q1 (fun n2 y dy μ2 s2 r2 p2 q2 => ⟨n2, dx, dy, μ2, rfl, r2, s2.rep p1, p2, s1.trans s2, q2⟩) (hx.step s1)) hx) ?_)
  rintro v u s2 x y H2 I2 rx ry ⟨n2, d, j, μ2, rfl, r2, p1, p2, st, hi2, q2⟩
  obtain ⟨a, dx, us, rfl, h1⟩ := insOf_at r2 p1 hi2
  cases rx
  obtain ⟨mA, O, _, _, _, _⟩ := ins_get I2.hok h1
  obtain ⟨od, J, _⟩ := O.look
  obtain ⟨mm, Fm⟩ := I2.fr
  refine PySem.W.sub_K (h₀ := X.base) Fm I.ok.mod.kin J hs hf hfn ?_ (hsl a u)
  have sp : spOf X.K S [.ref a, y] n2.H Q (WE W σ) := ⟨n2, [d, j], μ2, Qd, Ed, rfl, r2, .cons p1 (.cons p2 .nil), q2, LV.step hq st, hx.step st⟩
  have rr : Vals [V.ref a, y] [Value.ref a, u] := .cons rfl (.cons ry .nil)
  have hl : [Value.ref a, u].length = ps.length := F.len _ _ _ _ sp
  have bb := hb s2 [.ref a, u] I2.kIn (by rw [List.append_nil]; exact hl)
  rw [List.append_nil] at bb
  refine wpAny_call (codeAny_mono (F.run X.A.in1 X.stack s2 n2.H ⟨[.ref a, u], []⟩ _ _ Q (WE W σ) hr.in1 I2.env0.in1 bb rr sp) ?_)
  intro res s' hq'
  match res, hq' with
  | .error e, hq' => exact L2N.passAt tk σ pins _ _ e s' I2 hq'
  | .ok (.ret u), hq' => exact I2.after hq'
/-- a way that is never taken -/
def dNever : DTS := fun _ _ _ => False
end
end DV
namespace DV
open PySem PySem.Spec PyProof.Rows L2
/-! ### sorted: data by their own order, or by a key -/
def pyd (d : D) : PyData := D.py 12 d
def srtOk (ks : List D) : Prop := (∀ d ∈ ks, D.okn 12 d = true) ∧ PySem.W.AllAlike (ks.map pyd) ∧ PySem.W.Sortable (ks.map pyd)
def leBy (key : D → D) : D → D → Bool := PySem.W.dataLe false fun d => pyd (key d)
def sortBy (key : D → D) (ds : List D) : List D := ds.mergeSort (leBy key)
theorem each_vals {α : Type} {f : α → V} : ∀ {zs : List α} {us : List Value}, Vals (zs.map f) us → PySem.W.EachIs (fun u z => RelV (f z) u) us zs
  | [], us, h => by cases h; exact .nil
  | z :: zs, us, h => by
    cases h with
    | cons h1 h2 => exact .cons h1 (each_vals h2)
theorem vals_each {α : Type} {f : α → V} : ∀ {zs : List α} {us : List Value}, PySem.W.EachIs (fun u z => RelV (f z) u) us zs → Vals (zs.map f) us
  | _, _, .nil => .nil
  | _, _, .cons h t => .cons h (vals_each t)
theorem each_reps {K : PySem.W.Frag} {Hb : Hp} {al : List Addr} {α : Type} {f : α → V} : ∀ {zs : List α} {ds : List D}, PySem.W.EachIs (fun z d => Rep K Hb al (f z) d) zs ds → Reps K Hb al (zs.map f) ds
  | _, _, .nil => .nil
  | _, _, .cons h t => .cons h (each_reps t)
def rSortD (K : PySem.W.Frag) : List V → Hp → VK → Prop := fun vs H Q => ∃ (a : Addr) (zs : List (V × PyData)), vs = [.ref a] ∧ SqL K H a (zs.map (·.1)) ∧ (∀ z ∈ zs, Dp K H z.1 z.2 ∧ z.2.depth ≤ 12) ∧ PySem.W.AllAlike (zs.map (·.2)) ∧ PySem.W.Sortable (zs.map (·.2)) ∧
  ∀ p, H p = none → Q (.ref p) (upd H p (.lst ((zs.mergeSort (PySem.W.dataLe false (·.2))).map (·.1))))
theorem cr_sortD {X : Cx} (hu : X.A.units + 64 < cLine) : CallR X (.builtin "sorted") (rSortD X.K) := by
  intro pins s σ H vs us Q I r h
  obtain ⟨a, zs, rfl, hs, hz, hal, hk, q⟩ := h
  obtain ⟨its, rv, hl, hn⟩ := I.list hs
  rw [Vals.ref1 r]
  have e := each_vals rv
  have er : PySem.W.EachIs (fun u (z : V × PyData) => ∃ as, Reads s.heap u z.2 as) its zs := by
    have e2 := PySem.W.each_mem e
    exact e2.mono fun u z ⟨h1, h2⟩ => Dp.reads I z.2 z.1 u (hz z h2).1 h1
  rw [List.length_map] at hn
  refine PySem.W.sorted_data hl.isList e er hal hk hn (fun z hz' => ?_) fun out ho eo => ?_
  · have := (hz z hz').2
    omega
  · obtain ⟨c, he⟩ := PyProof.Rows.sortedAll_at s.heap its out.toArray
    have hlen : ((zs.mergeSort (PySem.W.dataLe false (·.2))).map (·.1)).length ≤ sizeLine := by
      rw [List.length_map, (List.mergeSort_perm _ _).length_eq]; exact hn
    exact ⟨.ref _, upd H (s.heap.objs.size + 1) (.lst ((zs.mergeSort (PySem.W.dataLe false (·.2))).map (·.1))), I.laid (t' := s.toks) (fun _ _ => PyProof.Rows.sortedAll_old) (Nat.le_succ _) ⟨hlen, out, c, vals_each eo, he⟩, rfl, q _ (I.hok.fresh (Nat.le_succ _))⟩
/-- sorted(x) -/
def gSorted (fz : Bool) : GN := fun ds μ Q => match ds with
  | [d] => (match lk μ d with
    | .lst xs => srtOk xs ∧ dFin fz (sortBy id xs) μ Q
    | _ => False)
  | _ => False
theorem zip_fst {K : PySem.W.Frag} {Hb : Hp} {al : List Addr} : ∀ {vs : List V} {ds : List D}, Reps K Hb al vs ds → PySem.W.EachIs (fun (z : V × PyData) d => Rep K Hb al z.1 d ∧ z.2 = pyd d) (vs.zip (ds.map pyd)) ds
  | _, _, .nil => .nil
  | _, _, .cons h t => .cons ⟨h, rfl⟩ (zip_fst t)
theorem okn_depth {d : D} (h : D.okn 12 d = true) : (pyd d).depth ≤ 12 := (okn_lay 12 d h).2
theorem op_gSorted {K : PySem.W.Frag} {fz : Bool} : OpN K (rSortD K) (gSorted fz) := fun n μ xs ds Qd Q s r q l => by
  unfold gSorted at q
  split at q
  · cases r with
    | cons r1 r2 =>
      cases r2
      split at q
      · rename_i ys e
        obtain ⟨a, vs, rfl, h1, h2⟩ := see_lst s r1 e
        obtain ⟨⟨k1, k2, k3⟩, q⟩ := q
        have hl := h2.length
        have m1 : (vs.zip (ys.map pyd)).map Prod.fst = vs := List.map_fst_zip (by simp; omega)
        have m2 : (vs.zip (ys.map pyd)).map Prod.snd = ys.map pyd := List.map_snd_zip (by simp; omega)
        have z := zip_fst h2
        refine ⟨a, vs.zip (ys.map pyd), rfl, by rw [m1]; exact SqL.of h1, fun w hw => ?_, by rw [m2]; exact k2, by rw [m2]; exact k3, fun p hp => ?_⟩
        · obtain ⟨d, hd, hr, he⟩ := z.left w hw
          rw [he]
          exact ⟨dp_of s.same 12 hr (k1 d hd), okn_depth (k1 d hd)⟩
        · have so := PySem.W.sort_each (r := PySem.W.dataLe false fun w : V × PyData => w.2) (s := leBy id) z fun p hp q hq => by
            show PySem.W.dataLe false _ _ _ = PySem.W.dataLe false _ _ _
            unfold PySem.W.dataLe PySem.W.sortLe
            dsimp only
            rw [(z.zip p hp).2, (z.zip q hq).2]
            rfl
          exact fin_lst l s hp (each_reps (so.mono fun _ _ h => h.1)) q
      · exact q.elim
  · exact q.elim
section
variable {X : Cx} {W : WX} {a : Expr} {p pos : Pos} {fa : DTE}
theorem de_sorted (fz : Bool) (hu : X.A.units + 64 < cLine) (hg : Gl X "sorted") (hm : X.mg "sorted" = none) (ha : DE X W a fa) (hs : starEach [a] X.env = (false, eval a X.env) :: starEach [] X.env := by rfl) : DE X W (.Call (.Name "sorted" p) [a] [] pos) (dCall (gSorted fz) (dCons fa dNil)) :=
  de_callB (cr_sortD hu) op_gSorted hg hm (by decide +kernel) (da_cons ha da_nil hs) (he := hs)
end
end DV
namespace DV
open PySem PySem.Spec PyProof.Rows L2
def dSortK (fz : Bool) (S : DSp) (key : D → D) (fe : DTE) : DTE := fun Γ μ Q E => fe Γ μ (fun d μ1 => match lk μ1 d with
  | .lst xs => (∀ d ∈ xs, S [d] μ1 (fun x μ' => x = key d ∧ μ' = μ1) (fun _ _ => False)) ∧ srtOk (xs.map key) ∧ dFin fz (sortBy key xs) μ1 Q
  | _ => False) E
end DV
namespace DV
open PySem PySem.Spec PyProof.Rows L2
/-! ### t[::-1] of a tuple -/
def dRevT (f : DTE) : DTE := fun Γ μ Q E => f Γ μ (fun d μ1 => match lk μ1 d with
  | .tup xs => Q (.tup xs.reverse) μ1
  | _ => False) E
section
variable {X : Cx} {W : WX} {a b e o : Expr} {k : Nat} {q1 q2 q3 pos p apos : Pos} {fa fb : DTE}
/-! ### in, deep -/
def inD (x : D) (ys : List D) : Bool := ys.any fun y => PyData.eqv (D.py 11 y) (D.py 12 x)
def gInD (neg : Bool) : G2 := fun x y μ Q => match lk μ y with
  | .lst ys => (D.okn 12 (lk μ x) = true ∧ ys.all (D.okn 11) = true) ∧ Q (.bl (if neg then !inD (lk μ x) ys else inD (lk μ x) ys)) μ
  | .tup ys => (D.okn 12 (lk μ x) = true ∧ ys.all (D.okn 11) = true) ∧ Q (.bl (if neg then !inD (lk μ x) ys else inD (lk μ x) ys)) μ
  | _ => False
/-! ### is True -/
def gIsB (neg : Bool) : G2 := fun x y μ Q => match x, y with
  | .bl a, .bl b => Q (.bl (if neg then !decide (a = b) else decide (a = b))) μ
  | _, _ => False
/-! ### str(i) -/
def gStr : GN := fun ds μ Q => match ds with
  | [.int i] => i.natAbs.log2 < 1920 ∧ Q (.str (toString i)) μ
  | _ => False
/-! ### l.pop() -/
def dPop0 (fo : DTE) : DTE := fun Γ μ Q E => fo Γ μ (fun x μ1 => match x with
  | .ref l => (match μ1[l]? with
    | some (.lst xs) => (match xs[xs.length - 1]? with | some y => Q y (μ1.set l (.lst xs.dropLast)) | none => False)
    | _ => False)
  | _ => False) E
end
/-! ### dict displays -/
def keyOfD : D → Option Key
  | .int i => some (.inl i)
  | .str x => some (.inr x)
  | _ => none
def keysD : List (D × D) → Option (List (Key × D))
  | [] => some []
  | (k, v) :: r => match keyOfD k, keysD r with
    | some k, some r => some ((k, v) :: r)
    | _, _ => none
def putKD (kvs : List (Key × D)) (k : Key) (v : D) : List (Key × D) :=
  if (kvs.any fun kv => decide (kv.1 = k)) = true then kvs.map (fun kv => if kv.1 = k then (kv.1, v) else kv) else kvs ++ [(k, v)]
def mergeKD (kvs more : List (Key × D)) : List (Key × D) := more.foldl (fun acc kv => putKD acc kv.1 kv.2) kvs
def dFinD (fz : Bool) (acc : List (Key × D)) (μ : Mu) (Q : D → Mu → Prop) : Prop := match fz with
  | true => Q (.dct acc) μ
  | false => Q (.ref μ.length) (μ ++ [.dct acc])
def dPairs : List (DTE × DTE) → Gam → Mu → (List (D × D) → Mu → Prop) → (Exn → Mu → Prop) → Prop
  | [], _, μ, Q, _ => Q [] μ
  | (fk, fv) :: r, Γ, μ, Q, E => fk Γ μ (fun x μ1 => fv Γ μ1 (fun y μ2 => dPairs r Γ μ2 (fun ps μ3 => Q ((x, y) :: ps) μ3) E) E) E
def dDict (fz : Bool) (trs : List (DTE × DTE)) : DTE := fun Γ μ Q E => dPairs trs Γ μ (fun ps μ1 => match keysD ps with
  | some kvs => kvs.length ≤ 15 ∧ dFinD fz (mergeKD [] kvs) μ1 Q
  | none => False) E
/-- a dict of the layer and one of the deep layer -/
def RepK (K : PySem.W.Frag) (Hb : Hp) (al : List Addr) (us : List (Key × V)) (kvs : List (Key × D)) : Prop := kvs.map (·.1) = us.map (·.1) ∧ Reps K Hb al (us.map (·.2)) (kvs.map (·.2))
section
variable {K : PySem.W.Frag} {Hb : Hp} {al : List Addr}
theorem RepK.nil : RepK K Hb al [] [] := ⟨rfl, .nil⟩
theorem RepK.snoc {us : List (Key × V)} {kvs : List (Key × D)} {k : Key} {v : V} {d : D} (h : RepK K Hb al us kvs) (r : Rep K Hb al v d) : RepK K Hb al (us ++ [(k, v)]) (kvs ++ [(k, d)]) :=
  ⟨by simp [h.1], by simpa using h.2.append (.cons r .nil)⟩
theorem RepK.put : ∀ {us : List (Key × V)} {kvs : List (Key × D)} {k : Key} {v : V} {d : D}, RepK K Hb al us kvs → Rep K Hb al v d → RepK K Hb al (putK us k v) (putKD kvs k d) := fun {us kvs k v d} h r => by
  have e : (us.any fun kv => decide (kv.1 = k)) = (kvs.any fun kv => decide (kv.1 = k)) := by
    have e1 : (us.any fun kv => decide (kv.1 = k)) = ((us.map (·.1)).any fun q => decide (q = k)) := by rw [List.any_map]; rfl
    have e2 : (kvs.any fun kv => decide (kv.1 = k)) = ((kvs.map (·.1)).any fun q => decide (q = k)) := by rw [List.any_map]; rfl
    rw [e1, e2, h.1]
  unfold putK putKD
  rw [e]
  split
  · have aux : ∀ {us : List (Key × V)} {kvs : List (Key × D)}, kvs.map (·.1) = us.map (·.1) → Reps K Hb al (us.map (·.2)) (kvs.map (·.2)) → RepK K Hb al (us.map (fun kv => if kv.1 = k then (kv.1, v) else kv)) (kvs.map (fun kv => if kv.1 = k then (kv.1, d) else kv)) := fun {us} => by
      induction us with
      | nil => intro kvs e1 e2; cases kvs with
        | nil => exact RepK.nil
        | cons _ _ => simp at e1
      | cons a us ih =>
        intro kvs e1 e2
        cases kvs with
        | nil => simp at e1
        | cons b kvs =>
          simp only [List.map_cons, List.cons.injEq] at e1
          simp only [List.map_cons] at e2
          cases e2 with
          | cons x1 x2 =>
            obtain ⟨y1, y2⟩ := ih e1.2 x2
            refine ⟨?_, ?_⟩
            · simp only [List.map_cons]
              rw [y1]
              congr 1
              rw [← e1.1]
              split <;> simp [e1.1]
            · simp only [List.map_cons]
              refine .cons ?_ y2
              rw [← e1.1]
              split
              · exact r
              · exact x1
    exact aux h.1 h.2
  · exact h.snoc r
end
end DV
/-! Readings: comprehensions and loops by an invariant; the oracle's place in the cells. -/
namespace DV
open PySem PySem.Spec PyProof.Rows L2
theorem comp_invA {src : Option (Nat × List D)} {g : D → Gam → Mu → (Gam → Prop) → Prop} {tt : DTT} {te : DTE} {Γ : Gam} {Q : List D → Mu → Prop} (I : Nat → List D → Mu → Prop) : ∀ (ds acc : List D) (μ : Mu) (k : Nat),
    (∀ i d acc μ, ds[i]? = some d → I (k + i) acc μ → Gd src μ ∧ ∀ (K1 : D → Mu → Prop) (K2 : Mu → Prop), (∀ y μ3, I (k + i + 1) (acc ++ [y]) μ3 → K1 y μ3) → (∀ μ2, I (k + i + 1) acc μ2 → K2 μ2) → g d Γ μ fun Γ1 => tt Γ1 μ (fun b μ2 => cond b (te Γ1 μ2 K1 fun _ _ => False) (K2 μ2)) fun _ _ => False) →
    acc.length + ds.length ≤ sizeLine → I k acc μ → (∀ acc μ, I (k + ds.length) acc μ → Gd src μ ∧ Q acc μ) → dCompL src g tt te Γ ds acc μ Q
  | [], acc, μ, k, _, _, h0, he => he acc μ h0
  | d :: ds, acc, μ, k, hs, hl, h0, he => by
    rw [List.length_cons] at hl
    obtain ⟨h1, h2⟩ := hs 0 d acc μ rfl h0
    refine ⟨h1, h2 _ _ (fun y μ3 hi => ⟨by omega, ?_⟩) (fun μ2 hi => ?_)⟩
    · refine comp_invA I ds _ μ3 (k + 1) (fun i e acc μ he hi => ?_) (by simp; omega) hi (fun acc μ hi => ?_)
      · have := hs (i + 1) e acc μ (by simpa using he) (by rw [show k + (i + 1) = k + 1 + i from by omega]; exact hi)
        rw [show k + (i + 1) + 1 = k + 1 + i + 1 from by omega] at this
        exact this
      · exact he acc μ (by rw [List.length_cons, show k + (ds.length + 1) = k + 1 + ds.length from by omega]; exact hi)
    · refine comp_invA I ds _ μ2 (k + 1) (fun i e acc μ he hi => ?_) (by omega) hi (fun acc μ hi => ?_)
      · have := hs (i + 1) e acc μ (by simpa using he) (by rw [show k + (i + 1) = k + 1 + i from by omega]; exact hi)
        rw [show k + (i + 1) + 1 = k + 1 + i + 1 from by omega] at this
        exact this
      · exact he acc μ (by rw [List.length_cons, show k + (ds.length + 1) = k + 1 + ds.length from by omega]; exact hi)
/-- a comprehension by an invariant: the turn's number, what is gathered, the cells -/
theorem comp_inv {src : Option (Nat × List D)} {g : D → Gam → Mu → (Gam → Prop) → Prop} {tt : DTT} {te : DTE} {Γ : Gam} {Q : List D → Mu → Prop} (I : Nat → List D → Mu → Prop) {ds : List D} {μ : Mu} (h0 : I 0 [] μ) (hl : ds.length ≤ sizeLine)
    (hs : ∀ i d acc μ, ds[i]? = some d → I i acc μ → Gd src μ ∧ ∀ (K1 : D → Mu → Prop) (K2 : Mu → Prop), (∀ y μ3, I (i + 1) (acc ++ [y]) μ3 → K1 y μ3) → (∀ μ2, I (i + 1) acc μ2 → K2 μ2) → g d Γ μ fun Γ1 => tt Γ1 μ (fun b μ2 => cond b (te Γ1 μ2 K1 fun _ _ => False) (K2 μ2)) fun _ _ => False)
    (he : ∀ acc μ, I ds.length acc μ → Gd src μ ∧ Q acc μ) : dCompL src g tt te Γ ds [] μ Q :=
  comp_invA I ds [] μ 0 (fun i d acc μ h => by rw [Nat.zero_add]; exact hs i d acc μ h) (by simpa using hl) h0 (fun acc μ h => he acc μ (by simpa using h))
theorem loop_invA {src : Option (Nat × List D)} {g : DTG} {body : DTS} {De : DEnds} (I : Nat → Gam → Mu → Prop) : ∀ (ds : List D) (Γ : Gam) (μ : Mu) (k : Nat),
    (∀ i d Γ μ, ds[i]? = some d → I (k + i) Γ μ → Gd src μ ∧ ∀ (Kn : Gam → Mu → Prop), (∀ Γ' μ', I (k + i + 1) Γ' μ' → Kn Γ' μ') → g d Γ μ (fun Γ1 μ1 => body { De with nx := Kn, ct := Kn, bk := De.nx } Γ1 μ1) (fun x μ1 => De.ex x Γ μ1)) →
    I k Γ μ → (∀ Γ μ, I (k + ds.length) Γ μ → Gd src μ ∧ De.nx Γ μ) → dLoop src g body ds De Γ μ
  | [], Γ, μ, k, _, h0, he => he Γ μ h0
  | d :: ds, Γ, μ, k, hs, h0, he => by
    obtain ⟨h1, h2⟩ := hs 0 d Γ μ rfl h0
    refine ⟨h1, h2 _ fun Γ' μ' hi => ?_⟩
    refine loop_invA I ds Γ' μ' (k + 1) (fun i e Γ μ he hi => ?_) hi (fun Γ μ hi => ?_)
    · have := hs (i + 1) e Γ μ (by simpa using he) (by rw [show k + (i + 1) = k + 1 + i from by omega]; exact hi)
      rw [show k + (i + 1) + 1 = k + 1 + i + 1 from by omega] at this
      exact this
    · exact he Γ μ (by rw [List.length_cons, show k + (ds.length + 1) = k + 1 + ds.length from by omega]; exact hi)
theorem loop_inv {src : Option (Nat × List D)} {g : DTG} {body : DTS} {De : DEnds} (I : Nat → Gam → Mu → Prop) {ds : List D} {Γ : Gam} {μ : Mu} (h0 : I 0 Γ μ)
    (hs : ∀ i d Γ μ, ds[i]? = some d → I i Γ μ → Gd src μ ∧ ∀ (Kn : Gam → Mu → Prop), (∀ Γ' μ', I (i + 1) Γ' μ' → Kn Γ' μ') → g d Γ μ (fun Γ1 μ1 => body { De with nx := Kn, ct := Kn, bk := De.nx } Γ1 μ1) (fun x μ1 => De.ex x Γ μ1))
    (he : ∀ Γ μ, I ds.length Γ μ → Gd src μ ∧ De.nx Γ μ) : dLoop src g body ds De Γ μ :=
  loop_invA I ds Γ μ 0 (fun i d Γ μ h => by rw [Nat.zero_add]; exact hs i d Γ μ h) h0 (fun Γ μ h => he Γ μ (by simpa using h))
theorem irng_get {lo : Int} {n i : Nat} {d : D} (h : (irng lo n)[i]? = some d) : i < n ∧ d = .int (lo + i) := by
  unfold irng at h
  rw [List.getElem?_map, Option.map_eq_some_iff] at h
  obtain ⟨j, h1, h2⟩ := h
  obtain ⟨h3, h4⟩ := List.getElem?_eq_some_iff.mp h1
  simp at h3 h4
  subst h4
  exact ⟨h3, h2.symm⟩
theorem irng_len (lo : Int) (n : Nat) : (irng lo n).length = n := by simp [irng]
/-! the oracle's cell -/
def M (μ : Mu) (l c : Nat) : Mu := μ.set l (.orc (c, true))
/-! equality of texts, and of rows of them -/
theorem eqv_strs : ∀ (k j : Nat) (xs ys : List Str), PyData.eqv (.list ((xs.map D.str).map (D.py k))) (.list ((ys.map D.str).map (D.py j))) = decide (xs = ys) := by
  intro k j xs ys
  have e1 : (xs.map D.str).map (D.py k) = xs.map PyData.str := by
    rw [List.map_map]; congr 1; funext x; cases k <;> rfl
  have e2 : (ys.map D.str).map (D.py j) = ys.map PyData.str := by
    rw [List.map_map]; congr 1; funext x; cases j <;> rfl
  rw [e1, e2]
  simp only [PyData.eqv]
  have aux : ∀ xs ys : List Str, PyData.eqvAll (xs.map .str) (ys.map .str) = decide (xs = ys) := by
    intro xs
    induction xs with
    | nil => intro ys; cases ys <;> simp [PyData.eqvAll]
    | cons x xs ih =>
      intro ys
      cases ys with
      | nil => simp [PyData.eqvAll]
      | cons y ys =>
        simp only [List.map_cons, PyData.eqvAll, PyData.eqv, ih, List.cons.injEq]
        by_cases h : x = y <;> simp [h]
  exact aux xs ys
theorem okn_strs {xs : List Str} (h : ∀ x ∈ xs, asc x) (k : Nat) : (xs.map D.str).all (D.okn k) = true := by
  rw [List.all_eq_true]
  intro d hd
  obtain ⟨t, ht, rfl⟩ := List.mem_map.mp hd
  cases k <;> exact asc_ok (h t ht)
theorem deq_tupS {μ : Mu} {xs ys : List Str} (h1 : ∀ x ∈ xs, asc x) (h2 : ∀ x ∈ ys, asc x) : deqOk μ (.tup (xs.map .str)) (.tup (ys.map .str)) ∧ deq μ (.tup (xs.map .str)) (.tup (ys.map .str)) = decide (xs = ys) := by
  refine ⟨⟨okn_strs h1 11, okn_strs h2 11⟩, ?_⟩
  have := eqv_strs 11 11 xs ys
  unfold deq
  simp only [lk, D.py, PyData.eqv] at this ⊢
  exact this
end DV
/-! Words: plain facts on the names that a law draws. -/
namespace DV
open PySem PySem.Spec PyProof.Rows L2
theorem valid_asc {z : Str} (h : validN z = true) : asc z ∧ z.length ≤ 6 ∧ 1 ≤ z.length := by
  unfold validN validC at h
  simp only [Bool.and_eq_true, decide_eq_true_eq] at h
  obtain ⟨⟨⟨h1, h2⟩, h3⟩, h4⟩ := h
  have z1 : ∀ c ∈ LET.cps.toList, c < 128 := by decide +kernel
  have z2 : ∀ c ∈ DIG.cps.toList, c < 128 := by decide +kernel
  refine ⟨fun c hc => ?_, by rw [len_list]; exact h2, by rw [len_list]; exact h1⟩
  have q := List.all_eq_true.mp h4 c hc
  unfold isAln at q
  simp only [Bool.or_eq_true, decide_eq_true_eq] at q
  exact q.elim (z1 c) (z2 c)
/-! numbers below 64 as texts -/
theorem str_ext {a b : Str} (h : a.cps.toList = b.cps.toList) : a = b := by
  cases a with | mk x => cases b with | mk y => simp at h; subst h; rfl
end DV
local macro_rules | `(tactic| walk_at "dv") => `(tactic| try simp only [DV.dSeq, DV.dIf, DV.dOrT, DV.dAndT, DV.dNotT, DV.dTest, DV.dChain, DV.dC, DV.dCall, DV.gLen, DV.dCons, DV.dVar, DV.dNil, DV.dBin, DV.dUn, DV.gNeg, DV.gIn, DV.gIx, DV.dRet, DV.dRetN, DV.dNext, DV.dFor, DV.dIter, DV.dName, DV.lk, DV.dAsg, DV.dDrop, DV.gLst, DV.gTup, DV.gLstM, DV.gAdd, DV.gI, DV.gMod, DV.gMul, DV.gFdiv, DV.gPow, DV.gAbs, DV.gInt, DV.gList, DV.gTuple, DV.dOp, DV.dOpK, DV.dIsi, DV.tyD, DV.gIs, DV.gIsNot, DV.D.isN, DV.dJoin, DV.dCellM, DV.dSetI, DV.dSlice, DV.dPart, DV.dNoPart, DV.dRevA, DV.dFin, DV.dAugI, DV.dComp, DV.wipeG, DV.cName, DV.cPair, DV.dYes, DV.dRange1, DV.dRange2, DV.dAnd, DV.dOr, DV.dNot, DV.dIfE, DV.gEq, DV.gNe, DV.sgn_one, DV.atI_zero, DV.dTruth, DV.truD, DV.dBreak, DV.dCont, DV.gSorted, DV.dSortK, DV.dRevT, DV.gInD, DV.gIsB, DV.gStr, DV.dPop0, DV.dDict, DV.dPairs, DV.keysD, DV.keyOfD, DV.dFinD, DV.dFld, DV.dSetF, DV.dMake, DV.dMethod, DV.dProp, DV.dOwnIx, DV.dNever,
  List.getElem?_cons_zero, List.getElem?_cons_succ, List.set_cons_zero, List.set_cons_succ, List.map_cons, List.map_nil, List.length_cons, List.length_nil, List.replicate, List.cons_append, List.nil_append, DV.start0, if_true, if_false, Bool.not_true, Bool.not_false, Bool.false_eq_true, Bool.true_and, Bool.and_true, Bool.or_true, Bool.true_or, Bool.false_or, Bool.or_false, eq_self_iff_true, not_true_eq_false, not_false_eq_true, ite_true, ite_false, cond_true, cond_false])
/-! The reading of the law's own `_law_names`. -/
namespace DV
open PySem PySem.Spec PyProof.Rows L2
theorem cut_to {α : Type} (xs : List α) {k : Int} (h0 : 0 ≤ k) : cutL xs none (some k) = xs.take k.toNat := by
  unfold cutL
  have h1 : HT.sIx xs.length 0 none = 0 := rfl
  have h2 : HT.sIx xs.length xs.length (some k) = min k.toNat xs.length := by
    simp only [HT.sIx]
    first | (split <;> omega) | omega
  rw [h1, h2]
  simp only [List.drop_zero, Nat.sub_zero]
  rcases Nat.le_total k.toNat xs.length with h | h
  · rw [Nat.min_eq_left h]
  · rw [Nat.min_eq_right h, List.take_of_length_le h, List.take_length]
end DV
/-! Sets of outcomes: all_sets, is_set, others; the law's own. -/
namespace DV
open PySem PySem.Spec PyProof.Rows L2
abbrev tupS (l : List Str) : D := .tup (l.map .str)
/-- texts can be sorted -/
theorem srt_strs {xs : List Str} (h : ∀ x ∈ xs, asc x) : srtOk (xs.map .str) := by
  refine ⟨fun d hd => ?_, ?_, ?_⟩
  · obtain ⟨l, hl, rfl⟩ := List.mem_map.mp hd
    exact asc_ok (h l hl)
  · rw [List.map_map]
    intro d hd d' hd'
    obtain ⟨l, _, rfl⟩ := List.mem_map.mp hd
    obtain ⟨l', _, rfl⟩ := List.mem_map.mp hd'
    rfl
  · rw [List.map_map]
    refine .inr fun d hd => ?_
    obtain ⟨l, _, rfl⟩ := List.mem_map.mp hd
    exact ⟨(by intro z; cases z), (by intro w z; cases z)⟩
def sortS (xs : List Str) : List Str := xs.mergeSort fun a b => leBy id (.str a) (.str b)
theorem sort_strs (xs : List Str) : sortBy id (xs.map .str) = (sortS xs).map .str := by
  unfold sortBy sortS
  rw [PySem.W.sort_maps (s := leBy id) D.str fun _ _ _ _ => rfl]
theorem sortS_perm (xs : List Str) : (sortS xs).Perm xs := List.mergeSort_perm _ _
/-! all_sets -/
theorem inF_strs (x : Str) (us : List Str) : inF (.str x) (us.map .str) = decide (x ∈ us) := by
  unfold inF
  induction us with
  | nil => simp
  | cons u us ih =>
    rw [List.map_cons, List.any_cons, ih]
    show ((u == x) || _) = _
    by_cases h : x = u
    · subst h; simp
    · have : (u == x) = false := by simp [Ne.symm h]
      rw [this]; simp [h]
theorem flat_strs' (us : List Str) : (us.map D.str).all D.flat = true := by
  rw [List.all_map, List.all_eq_true]; intro x _; rfl
end DV
/-! Sets of texts whose table can be walked: new, add, sorted. -/
namespace DV
open PySem PySem.Spec PyProof.Rows L2 PySem.Froz
def SetT (P : Program) (w : World) (h : Heap) (a : Addr) (l : List Str) : Prop :=
  ∃ Dd : SD, h.get? a = some (sObj "set" Dd) ∧ TxOk P w Dd l ∧ l.Nodup ∧ l.length < scanBound ∧ Ris Dd.2.2.place.toList ∧ (w.params.followText "set-order" = true ∨ Dd.2.2.led = true)
section
variable {P : Program} {w : World} {A : Around} {E : Value → Shared → Prop} {s : Shared} {a : Addr} {l : List Str}
theorem SetT.keep {h h' : Heap} (r : SetT P w h a l) (k : ∀ o, h.get? a = some o → h'.get? a = some o) : SetT P w h' a l := by
  obtain ⟨Dd, h1, h2⟩ := r
  exact ⟨Dd, k _ h1, h2⟩
theorem tail_ris {ep : Nat} {es : Array (Int × Value)} {t : SetTable} {b : Bool} (h : Ris t.place.toList) : Ris (tailTx ep es t b).2.2.place.toList := by
  unfold tailTx
  split
  · exact relayAll_ris _ _ _
  · exact h
theorem tail_led {ep : Nat} {es : Array (Int × Value)} {t : SetTable} {b : Bool} : (tailTx ep es t b).2.2.led = t.led := by
  unfold tailTx
  split
  · exact relayAll_led _ _ _
  · rfl
theorem add_found {k : Str} {u : Tok} {Dd : SD} {Q : Bool → Shared → Prop} (ho : s.heap.get? a = some (sObj "set" Dd)) (T : TxOk P w Dd l) (hk : k ∈ l) (hb : l.length < scanBound) (h : Q false s) : wpAny (model P w) A (setAddHashed a (.str k u) (hashStr w k)) Q E s := by
  obtain ⟨es, ep, t⟩ := Dd
  have hsz : es.size = l.length := T.sz
  obtain ⟨e, he, hq⟩ := (T.mem k).mp hk
  unfold setAddHashed setAddHashedIn
  refine wpAny_holding (wpAny_bind (wpAny_setState_of ho (show (sObj "set" (es, ep, t)).data = .set es ep t from rfl) T.fit ?_))
  dsimp only
  rw [byScan_of rfl (by rw [hsz]; exact hb) T.el]
  simp only [↓reduceIte]
  unfold setAddByScan
  refine wpAny_bind (wpAny_bind (wpAny_rule (wpAny_bind (wpAny_setScan_of (knd := strKind P w) (k := k) (is_str k u) ho (show (sObj "set" (es, ep, t)).data = .set es ep t from rfl) T.fit T.el ?_))))
  cases hf : List.findIdx? (fun e => (strKind P w).is k e.2) es.toList with
  | none => exact absurd hq (by rw [List.findIdx?_eq_none_iff.mp hf e he]; simp)
  | some j => exact wpAny_pure (wpAny_pure h)
theorem setT_add {k : Str} {u : Tok} {Q : Value → Shared → Prop} (r : SetT P w s.heap a l) (room : l.length + 1 < scanBound)
    (hQ : ∀ h', Heap.SameBut a s.heap h' → SetT P w h' a (if k ∈ l then l else k :: l) → Q .none { s with heap := h', toks := s.toks + 1 }) : wpAny (model P w) A (call (.builtin "set.add") [.ref a, .str k u]) Q E s := by
  obtain ⟨Dd, h1, T, nd, hb, hr, hl⟩ := r
  have hT : s.TypeIs (.ref a) "set" := ⟨_, h1, rfl⟩
  refine wpAny_call_entry PySem.F.slot_set_add hT PySem.F.entry_set_add ?_ (PySem.F.args_set_add_2 _ _)
  unfold Builtin.«set.add» Builtin.Frozenset.oneOther
  simp only [List.isEmpty_nil, bind_assoc]
  unfold Builtin.Frozenset.addrOf setAdd
  refine wpAny_bind (wpAny_pure ?_)
  try dsimp only
  refine wpAny_bind (wpAny_pure ?_)
  try dsimp only
  refine wpAny_bind (wpAny_holding (wpAny_bind ((strKind P w).pyHash (is_str k u) ?_)))
  by_cases hk : k ∈ l
  · refine add_found (s := { s with toks := s.toks + 1 }) h1 T hk hb ?_
    show wpAny _ _ (ret Value.none) _ _ _
    refine wpAny_pure ⟨_, rfl, hQ s.heap (Heap.SameBut.refl a s.heap) ?_⟩
    rw [if_pos hk]
    exact ⟨Dd, h1, T, nd, hb, hr, hl⟩
  · refine add_x (s := { s with toks := s.toks + 1 }) h1 T hk room ?_
    show wpAny _ _ (ret Value.none) _ _ _
    refine wpAny_pure ⟨_, rfl, hQ _ (Heap.SameBut.update s.heap a _) ?_⟩
    rw [if_neg hk]
    refine ⟨addTx (hashStr w k) (.str k u) Dd, get_upd _ h1 rfl, add_ok u T, List.nodup_cons.mpr ⟨hk, nd⟩, room, ?_, ?_⟩
    · unfold addTx
      refine tail_ris ?_
      split
      · exact layNew_ris _ _ _ _ hr
      · exact layNew_ris _ _ _ _ hr
    · refine hl.imp id fun z => ?_
      unfold addTx
      rw [tail_led]
      split
      · exact (layNew_led _ _ _ _).trans z
      · exact (layNew_led _ _ _ _).trans z
theorem setT_fresh {h : Heap} : SetT P w (h.push { cls := .type "set", dict := none, data := .set #[] 0 (.fresh 0 0 (!w.params.followText "set-order")) }) h.objs.size [] :=
  ⟨(#[], 0, .fresh 0 0 (!w.params.followText "set-order")), Heap.get?_push_size _ rfl, TxOk.nil rfl, by simp, by decide, List.Pairwise.nil, by
    show _ ∨ (!w.params.followText "set-order") = true
    cases w.params.followText "set-order" <;> simp⟩
end
/-! ### sorted -/
theorem perm_of_sub {α : Type} [DecidableEq α] : ∀ {l m : List α}, l.Nodup → l ⊆ m → m.length = l.length → m.Perm l
  | [], m, _, _, hl => by rw [List.length_eq_zero_iff.mp hl]
  | x :: l, m, nd, hs, hl => by
    have n := List.nodup_cons.mp nd
    have hx : x ∈ m := hs (by simp)
    have hp := List.perm_cons_erase hx
    have ih := perm_of_sub (l := l) (m := m.erase x) n.2 (fun y hy => by
      have h1 : y ∈ m := hs (by simp [hy])
      have hne : y ≠ x := fun z => n.1 (z ▸ hy)
      exact (List.mem_erase_of_ne hne).mpr h1) (by rw [List.length_erase_of_mem hx, hl]; simp)
    exact hp.trans (ih.cons x)
theorem nodup_of_sub {α : Type} [DecidableEq α] {l m : List α} (nd : l.Nodup) (hs : l ⊆ m) (hl : m.length = l.length) : m.Nodup := (perm_of_sub nd hs hl).nodup_iff.mpr nd
def txtOf (v : Value) : Str := match v with | .str x _ => x | _ => Str.empty
theorem le_strs (a b : Str) : leBy id (.str a) (.str b) = decide (a.cps.toList ≤ b.cps.toList) := congrFun (congrFun (PySem.W.dataLe_str (fun d : Str => d)) a) b
theorem same_rank {a c : Str} : PySem.W.sameRank (fun a b => leBy id (.str a) (.str b)) c a = (a == c) := by
  unfold PySem.W.sameRank
  dsimp only
  rw [le_strs, le_strs]
  by_cases h : a = c
  · subst h; simp [List.le_refl]
  · have : (a == c) = false := by simp [h]
    rw [this]
    cases e1 : decide (c.cps.toList ≤ a.cps.toList) with
    | false => rfl
    | true =>
      cases e2 : decide (a.cps.toList ≤ c.cps.toList) with
      | false => rfl
      | true => exact absurd (str_ext (List.le_antisymm (of_decide_eq_true e2) (of_decide_eq_true e1))) h
theorem le_total : PySem.W.TotalLe fun a b : Str => leBy id (.str a) (.str b) where
  trans := fun a b c h1 h2 => by
    rw [le_strs] at *
    exact decide_eq_true (List.le_trans (of_decide_eq_true h1) (of_decide_eq_true h2))
  total := fun a b => by
    rw [le_strs, le_strs]
    rcases List.le_total a.cps.toList b.cps.toList with h | h
    · exact .inl (decide_eq_true h)
    · exact .inr (decide_eq_true h)
theorem sortS_eq {xs ys : List Str} (p : xs.Perm ys) : sortS xs = sortS ys := by
  refine PySem.W.sort_unique le_total (PySem.W.sort_pairwise le_total xs) fun c => ?_
  have e : PySem.W.sameRank (fun a b : Str => leBy id (.str a) (.str b)) c = fun a => a == c := funext fun a => same_rank
  rw [e, List.filter_beq, List.filter_beq, ((sortS_perm xs).trans p).count_eq]
section
variable {P : Program} {w : World} {A : Around} {E : Value → Shared → Prop} {s : Shared} {a : Addr} {l : List Str}
theorem sorted_T {Q : Value → Shared → Prop} (r : SetT P w s.heap a l) (hh : A.handled = none) (hu : A.units + 64 < cLine)
    (hQ : ∀ s' p (out : List Value) (c : Nat), (∀ b o, s.heap.get? b = some o → s'.heap.get? b = some o) → s'.gens = s.gens → s'.os = s.os → s.heap.objs.size ≤ p → s'.heap.get? p = some (seqObj "list" out.toArray c) → Vals ((sortS l).map V.str) out → Q (.ref p) s') :
    wpAny (model P w) A (call (.builtin "sorted") [.ref a]) Q E s := by
  obtain ⟨⟨es, ep, t⟩, h1, T, nd, hb, hr, hl⟩ := r
  have hsz : es.size = l.length := T.sz
  refine Calls.call_function_entry kind_sorted plain_sorted entry_sorted (args_sorted1 _) ?_
  unfold Builtin.«sorted»
  refine wpAny_bind (m := checkCount "sorted" 1 1 _) (wpAny_pure (wpAny_bind (collect_set (A := A.in1) hh ⟨_, h1, rfl, rfl⟩ T.fit (by rw [hsz]; exact hb) hr hl fun s1 vs k1 hz g1 o1 pm => ?_)))
  have hvl : vs.length = l.length := by rw [pm.length_eq, List.length_map, Array.length_toList]; exact hsz
  have hL : vs.length ≤ sizeLine := by rw [hvl]; exact fits_of_scanBound hb
  have isS : ∀ v ∈ vs, ∃ t, v = .str (txtOf v) t := fun v hv => by
    obtain ⟨e, he, q⟩ := List.mem_map.mp (pm.mem_iff.mp hv)
    obtain ⟨⟨k, hk, _⟩, _⟩ := T.el e he
    obtain ⟨t, ht⟩ := Value.isStrOf_shape hk
    rw [← q, ht]
    exact ⟨t, rfl⟩
  have each : ∀ ws : List Value, (∀ v ∈ ws, ∃ t, v = .str (txtOf v) t) → PySem.W.EachIs (fun v x => ∃ t, v = Value.str x t) ws (ws.map txtOf) := fun ws => by
    induction ws with
    | nil => intro _; exact .nil
    | cons v ws ih => intro h; exact .cons (h v (by simp)) (ih fun u hu => h u (by simp [hu]))
  have ev := each vs isS
  have px : (vs.map txtOf).Perm l := by
    have h2 := pm.map txtOf
    rw [List.map_map] at h2
    have hn2 : ((es.toList.map (txtOf ∘ (·.2)))).Perm l := by
      refine (List.perm_ext_iff_of_nodup ?_ nd).mpr fun k => ?_
      · have hc : (es.toList.map (txtOf ∘ (·.2))).length = l.length := by rw [List.length_map, Array.length_toList]; exact hsz
        have hsub : l ⊆ es.toList.map (txtOf ∘ (·.2)) := fun k hk => by
          obtain ⟨e, he, q⟩ := (T.mem k).mp hk
          obtain ⟨t, ht⟩ := Value.isStrOf_shape q
          exact List.mem_map.mpr ⟨e, he, by show txtOf e.2 = k; rw [ht]; rfl⟩
        exact nodup_of_sub nd hsub hc
      · constructor
        · intro hk
          obtain ⟨e, he, q⟩ := List.mem_map.mp hk
          obtain ⟨⟨k', hk', _⟩, _⟩ := T.el e he
          obtain ⟨t, ht⟩ := Value.isStrOf_shape hk'
          have : k' = k := by rw [← q]; show k' = txtOf e.2; rw [ht]; rfl
          subst this
          exact (T.mem k').mpr ⟨e, he, hk'⟩
        · intro hk
          obtain ⟨e, he, q⟩ := (T.mem k).mp hk
          obtain ⟨t, ht⟩ := Value.isStrOf_shape q
          exact List.mem_map.mpr ⟨e, he, by show txtOf e.2 = k; rw [ht]; rfl⟩
    exact h2.trans hn2
  refine wpAny_bind (wpAny_newList ?_ hL)
  have hoL : (s1.heap.push (seqObj "list" vs.toArray 0)).get? s1.heap.objs.size = some (seqObj "list" vs.toArray 0) := Heap.get?_push_size _ rfl
  have er : ∀ h : Heap, PySem.W.EachIs (fun v x => ∃ as, Reads h v (PyData.str x) as) vs (vs.map txtOf) := fun h => ev.mono fun v x ⟨t, e⟩ => ⟨[], by rw [e]; exact .str _ _⟩
  have hal : PySem.W.AllAlike ((vs.map txtOf).map PyData.str) := PySem.W.AllAlike.of fun _ _ => rfl
  have hsk : PySem.W.Sortable ((vs.map txtOf).map PyData.str) := PySem.W.Sortable.others fun b => ⟨(by intro z; cases z), (by intro w z; cases z)⟩
  refine wpAny_bind (wpAny_holding (wpAny_call_entry slot_list_sort ⟨_, hoL, rfl⟩ entry_list_sort (PySem.W.list_sort_vals (κ := PySem.W.dataKind (PySem.W.sortingHeap (s1.heap.push (seqObj "list" vs.toArray 0)) s1.heap.objs.size vs) ((vs.map txtOf).map PyData.str)) hoL
    (PySem.W.SortsAt.data (PySem.W.each_map (R := fun v d => ∃ as, Reads _ v d as) PyData.str (er _)) hal hsk (fun d hd => ?_)) hL ⟨_, rfl, ?_⟩) (args_list_sort _)))
  · obtain ⟨x, _, rfl⟩ := List.mem_map.mp hd
    show A.in1.in1.units + 0 < cLine
    show A.units + 1 + 1 + 0 < cLine
    omega
  · have so := PySem.W.sortVals_data (h' := PySem.W.sortingHeap (s1.heap.push (seqObj "list" vs.toArray 0)) s1.heap.objs.size vs) false ev (er _) hal
    obtain ⟨c, hc⟩ := sortedHeap_at (vs := vs) (out := (PySem.W.sortVals (PySem.W.dataKind (PySem.W.sortingHeap (s1.heap.push (seqObj "list" vs.toArray 0)) s1.heap.objs.size vs) ((vs.map txtOf).map PyData.str)) false vs vs).toArray) hoL
    refine wpAny_pure ⟨_, rfl, hQ _ s1.heap.objs.size _ c (fun b u e => ?_) g1 o1 hz hc ?_⟩
    · have q := k1 b u e
      have hlt := Heap.lt_size q
      rw [sortedHeap_old (Nat.ne_of_lt hlt) (by rw [size_push']; exact Nat.lt_succ_of_lt hlt)]
      exact Heap.get?_push_of_some _ q
    · have e2 : (vs.map txtOf).mergeSort (PySem.W.dataLe false PyData.str) = sortS l := (show _ = sortS (vs.map txtOf) from rfl).trans (sortS_eq px)
      rw [e2] at so
      exact vals_each (so.mono fun v x ⟨t, e⟩ => ⟨t, e⟩)
end
end DV
/-! More rules: lists made by * as cells, insert, max of two, pairs as targets, dicts by keys. -/
namespace DV
open PySem PySem.Spec PyProof.Rows L2
section
variable {X : Cx} {W : WX} {a b o e e2 tg : Expr} {pos p apos : Pos} {fa fb fc : DTE}
def gMulM : G2 := fun x y μ Q => match lk μ x, lk μ y with
  | .lst i, .int k => (-(2 ^ 63) ≤ k ∧ k < 2 ^ 63 ∧ i.length * k.toNat ≤ sizeLine) ∧ Q (.ref μ.length) (μ ++ [.lst (List.replicate k.toNat i).flatten])
  | _, _ => False
theorem de_mulM (ha : DE X W a fa) (hb : DE X W b fb) : DE X W (.BinOp a .Mult b pos) (dBin gMulM fa fb) := de_op op_rep (fun n μ x y dx dy Qd Q s rx ry q l => by
  unfold gMulM at q
  split at q
  · rename_i i k e1 e2
    obtain ⟨c, vs, rfl, h1, r1⟩ := see_lst s rx e1
    rw [lk_int e2] at ry
    cases ry
    exact ⟨c, k, vs, rfl, rfl, h1, q.1.1, q.1.2.1, by rw [r1.length]; exact q.1.2.2, fun p hp => new_cell l s hp (reps_rep r1 _) q.2⟩
  · exact q.elim) ha hb
theorem op_insert {K : PySem.W.Frag} : CellOp K (fun x vs H Q => ∃ (l : Addr) (xs : List V) (i : Int) (y : V), x = .ref l ∧ vs = [.int i, y] ∧ H l = some (.lst xs) ∧ xs.length < sizeLine ∧ 0 ≤ i ∧ i < 2 ^ 63 ∧ Q .non (upd H l (.lst (xs.take i.toNat ++ [y] ++ xs.drop i.toNat)))) cInsert := fun Hb al H p us vs xs ds d ys Q hp r1 r2 hg k => by
  unfold cInsert at hg
  split at hg
  · split at hg
    · rename_i i d' hl
      cases hg
      cases r2 with
      | cons q1 q2 =>
        cases q2 with
        | cons q2 q3 =>
          cases q3; cases q1
          exact ⟨p, us, _, _, rfl, rfl, hp, by rw [r1.length]; exact hl.1, hl.2.1, hl.2.2, k _ _ .non (((r1.take _).append (.cons q2 .nil)).append (r1.drop _))⟩
    · cases hg
  · cases hg
theorem de_insert (ho : DE X W o fa) (ha : DE X W e fb) (hb : DE X W e2 fc) (hbase : attributeBase o "insert" X.env (eval o X.env) = eval o X.env := by rfl)
    (hfew : ((backTo pos (starEach [e, e2] X.env)).all (fun x => !x.1) && (backToKw pos (keywordEach [] X.env)).all (fun x => x.1.isSome) && decide ([e, e2].length + ([] : List Keyword).length + (if ([] : List Keyword).isEmpty then 0 else 1) < 30)) = true := by rfl)
    (hline : (apos.endLine == pos.line) = true := by rfl) (hs : starEach [e, e2] X.env = (false, eval e X.env) :: starEach [e2] X.env := by rfl) (hs2 : starEach [e2] X.env = (false, eval e2 X.env) :: starEach [] X.env := by rfl) (hpl : (backTo pos (starEach [e2] X.env)).any (·.1) = false := by rfl) :
    DE X W (.Call (.Attribute o "insert" apos) [e, e2] [] pos) (dCellM cInsert fa (dCons fb (dCons fc dNil))) :=
  PE.imp (pe_bm PySem.F.plainAttrs_list PySem.F.slot_list_insert PySem.F.type_list_insert mt_insert ho (da_cons ha (da_cons hb da_nil hs2) hs) hbase hfew hline hs hpl) fun σ H Q h => cellm_go op_insert σ H Q h
def gMax2 : GN := fun ds μ Q => match ds with
  | [.int i, .int j] => Q (.int (if j > i then j else i)) μ
  | _ => False
theorem de_max2 (hc : X.calm = true) (hg : Gl X "max") (hm : X.mg "max" = none) (ha : DE X W a fa) (hb : DE X W b fb) (hs : starEach [a, b] X.env = (false, eval a X.env) :: starEach [b] X.env := by rfl) (hs2 : starEach [b] X.env = (false, eval b X.env) :: starEach [] X.env := by rfl)
    (hpl : (backTo pos (starEach [b] X.env)).any (·.1) = false := by rfl) : DE X W (.Call (.Name "max" p) [a, b] [] pos) (dCall gMax2 (dCons fa (dCons fb dNil))) :=
  de_callB (call_max2 hc) (fun n μ xs ds Qd Q s r q l => by
    unfold gMax2 at q
    split at q
    · rename_i i j
      cases r with
      | cons r1 r2 =>
        cases r2 with
        | cons r2 r3 =>
          cases r3; cases r1; cases r2
          exact ⟨i, j, rfl, l.now s (.int _) q⟩
    · exact q.elim) hg hm (by decide +kernel) (da_cons ha (da_cons hb da_nil hs2) hs) (he := hs) (hpl := hpl)
/-! ### a pair as a target -/
def dPair (i j : Nat) : DTG := fun d Γ μ Q _ => match d with
  | .tup [x, y] => Q ((Γ.set i (some x)).set j (some y)) μ
  | _ => False
/-! ### dicts by keys -/
def valD (kvs : List (Key × D)) (k : Key) : Option D := (kvs.find? fun kv => decide (kv.1 = k)).map (·.2)
theorem valD_pos {p : Key × D} {r : List (Key × D)} {k : Key} (e : p.1 = k) : valD (p :: r) k = some p.2 := by simp [valD, List.find?_cons, e]
theorem valD_neg {p : Key × D} {r : List (Key × D)} {k : Key} (e : ¬ p.1 = k) : valD (p :: r) k = valD r k := by simp [valD, List.find?_cons, e]
theorem repk_val {K : PySem.W.Frag} {Hb : Hp} {al : List Addr} : ∀ {kvs : List (Key × D)} {us : List (Key × V)} {k : Key}, RepK K Hb al us kvs → (∀ d, valD kvs k = some d → ∃ v, valV us k = some v ∧ Rep K Hb al v d) ∧ (valD kvs k = none → valV us k = none) := fun {kvs us k} h => by
  obtain ⟨h1, h2⟩ := h
  induction kvs generalizing us with
  | nil =>
    cases us with
    | nil => exact ⟨fun d e => (by cases e), fun _ => rfl⟩
    | cons u us => simp at h1
  | cons c kvs ih =>
    cases us with
    | nil => simp at h1
    | cons u us =>
      obtain ⟨kc, dc⟩ := c
      obtain ⟨ku, vu⟩ := u
      simp only [List.map_cons, List.cons.injEq] at h1
      obtain ⟨rfl, h1⟩ := h1
      cases h2 with
      | cons r1 r2 =>
        obtain ⟨i1, i2⟩ := ih h1 r2
        by_cases e : kc = k
        · rw [valD_pos e, valV_pos e]
          exact ⟨fun d z => ⟨vu, rfl, (by cases z; exact r1)⟩, fun z => (by cases z)⟩
        · rw [valD_neg e, valV_neg e]
          exact ⟨i1, i2⟩
def gDGet : G2 := fun x y μ Q => match lk μ x, keyOfD y with
  | .dct kvs, some k => (match valD kvs k with | some d => Q d μ | none => False)
  | _, _ => False
theorem key_rep {K : PySem.W.Frag} {Hb : Hp} {al : List Addr} {y : V} {dy : D} {k : Key} (r : Rep K Hb al y dy) (h : keyOfD dy = some k) : y = kV k := by
  cases r <;> first | cases h | skip
  all_goals rfl
theorem de_dget (hu : X.A.units + 1 < cLine) (ha : DE X W a fa) (hb : DE X W b fb) (hs : NoSl b := by exact fun _ _ => rfl) : DE X W (.Subscript a b pos) (dBin gDGet fa fb) := PE.imp (pe_dget hu ha hb hs) fun σ H Q ⟨n, Γ, μ, Qd, Ed, hH, sr, gr, h, hq, hx⟩ => by
  subst hH
  refine lift_go sr gr h (fun n1 x dx μ1 s1 r1 p1 q1 => lift_go r1 (gr.step s1) q1 (fun n2 y dy μ2 s2 r2 p2 q2 => ?_) (hx.step s1)) hx
  unfold gDGet at q2
  split at q2
  · rename_i kvs k e1 e2
    obtain ⟨c, us, rfl, h1, h2, h3⟩ := see_dct r2 (s2.rep p1) e1
    have hk := key_rep p2 e2
    subst hk
    split at q2
    · rename_i d e3
      obtain ⟨v, g1, g2⟩ := (repk_val ⟨h2, h3⟩).1 d e3
      exact ⟨c, v, rfl, g1 ▸ .inl ⟨us, k, h1, rfl, rfl⟩, hq n2 v d μ2 (s1.trans s2) r2 g2 q2⟩
    · exact q2.elim
  · exact q2.elim
def gDIn (neg : Bool) : G2 := fun y x μ Q => match lk μ x, keyOfD y with
  | .dct kvs, some k => Q (.bl (if neg then !(valD kvs k).isSome else (valD kvs k).isSome)) μ
  | _, _ => False
theorem sm_val {K : PySem.W.Frag} {Hb : Hp} {al : List Addr} {kvs : List (Key × D)} {us : List (Key × V)} {k : Key} (h : RepK K Hb al us kvs) : (valV us k).isSome = (valD kvs k).isSome := by
  obtain ⟨h1, h2⟩ := repk_val (k := k) h
  cases e : valD kvs k with
  | none => rw [h2 e]; rfl
  | some d => obtain ⟨v, g, _⟩ := h1 d e; rw [g]; rfl
/-! d[k] = v -/
def dSetD (fo fi : DTE) : DTG := fun d Γ μ Q E => fo Γ μ (fun x μ1 => fi Γ μ1 (fun i μ2 => match x, keyOfD i with
  | .ref l, some k => (match μ2[l]? with
    | some (.dct kvs) => kvs.length < sizeLine ∧ Q Γ (μ2.set l (.dct (putKD kvs k d)))
    | _ => False)
  | _, _ => False) E) E
theorem dg_setD {i : Expr} (h : PG X (.Subscript o i pos) (gSub (lift X.K W fa) (lift X.K W fb) rSetD)) : DG X W (.Subscript o i pos) (dSetD fa fb) := PG.imp h fun v σ H Q ⟨n, d, Γ, μ, Qd, Ed, hH, sr, gr, rp, h, hq, hx⟩ => by
  subst hH
  refine lift_go sr gr h (fun n1 x dx μ1 s1 r1 p1 q1 => lift_go r1 (gr.step s1) q1 (fun n2 y dy μ2 s2 r2 p2 q2 => ?_) (hx.step s1)) hx
  split at q2
  · rename_i l k e1
    cases p1 with
    | @ref _ c hl =>
      have hk := key_rep p2 e1
      subst hk
      split at q2
      · rename_i kvs e
        have hl2 := pre_get s2.pre hl
        obtain ⟨hb, us, g1, g2, g3⟩ := r2.cell _ _ _ hl2 e
        have hlen : kvs.length = us.length := len_of_maps (δ := Nat) g2
        obtain ⟨z1, z2⟩ := RepK.put (k := k) ⟨g2, g3⟩ ((s1.trans s2).rep rp)
        refine ⟨c, _, rfl, DPut.k g1 (by rw [← hlen]; exact q2.1), ?_⟩
        exact hq (n2.more c (.dK (putK us k v))) Γ σ _ ((s1.trans s2).trans (Step.write hl2 hb)) (r2.write hl2 hb (c := .dct (putKD kvs k d)) ⟨hb, _, upd_same, z1, z2⟩ (fun k z => by cases z)) ((gr.step (s1.trans s2)).step (Step.write hl2 hb)) q2.2
      · exact q2.elim
  · exact q2.elim
/-! {} -/
def dDict0 : DTE := fun _ μ Q _ => Q (.ref μ.length) (μ ++ [.dct []])
theorem de_dict0 : DE X W (.Dict [] [] pos) dDict0 := PE.imp pe_dnewK fun σ H Q ⟨n, Γ, μ, Qd, Ed, hH, sr, gr, h, hq, hx⟩ => by
  subst hH
  intro p hp
  refine hq (n.cell p (.dK [])) _ (.ref μ.length) (μ ++ [.dct []]) (Step.cell hp) (sr.cellN (c := .dct []) hp ⟨sr.hb hp, [], upd_same, rfl, .nil⟩ (fun k z => by cases z)) (.ref ?_) (show Qd (.ref μ.length) (μ ++ [Cell.dct []]) from h)
  show (n.al ++ [p])[μ.length]? = some p
  rw [← sr.len]
  simp
/-! truth -/
theorem tru_see {K : PySem.W.Frag} {n : Now} {μ : Mu} {v : V} {d : D} {b : Bool} (s : SR0 K n μ) (r : Rep K n.Hb n.al v d) (h : truD (lk μ d) = some b) : TruV K v n.H b := by
  cases e : lk μ d with
  | lst xs =>
    rw [e] at h; cases h
    obtain ⟨c, vs, rfl, h1, h2⟩ := see_lst s r e
    exact .inl ⟨vs, SqL.of h1, by cases h2 <;> rfl⟩
  | tup xs =>
    rw [e] at h; cases h
    obtain ⟨c, vs, rfl, h1, _, h2⟩ := see_tup s r e
    exact .inr (.inl ⟨vs, SqT.of h1, by cases h2 <;> rfl⟩)
  | int i => rw [e] at h; cases h; rw [lk_int e] at r; cases r; rfl
  | bl i =>
    rw [e] at h; cases h
    have ed : d = .bl b := by
      cases d <;> first | (cases e; rfl) | cases e | (unfold lk at e; dsimp only at e; split at e <;> cases e)
    subst ed; cases r; rfl
  | non =>
    rw [e] at h; cases h
    have ed : d = .non := by
      cases d <;> first | rfl | cases e | (unfold lk at e; dsimp only at e; split at e <;> cases e)
    subst ed; cases r; rfl
  | _ => rw [e] at h; cases h
theorem dt_truth (ha : DE X W a fa) (he : ∀ whole, isTrue a X.env whole = (do let v ← whole; standAt a.pos; holding [v] (truthy v)) := by intro _; rfl) : DT X W a (dTruth fa) := PT.imp (pt_truth ha he) fun σ H Q ⟨n, Γ, μ, Qd, Ed, hH, sr, gr, h, hq, hx⟩ => by
  subst hH
  refine lift_go sr gr h (fun n1 x dx μ1 s1 r1 p1 q1 => ?_) hx
  split at q1
  · rename_i z e
    rw [lk_str e] at p1
    cases p1
    exact ⟨_, ⟨q1.1, rfl⟩, hq n1 _ μ1 s1 r1 q1.2⟩
  · split at q1
    · rename_i b e
      exact ⟨b, tru_see r1 p1 e, hq n1 b μ1 s1 r1 q1⟩
    · exact q1.elim
end
end DV
/-! Comprehensions with two for. -/
namespace DV
open PySem PySem.Spec PyProof.Rows L2
def dCompO (src : Option (Nat × List D)) (g : D → Gam → Mu → (Gam → Prop) → Prop) (fi1 : DTI) (g1 : D → Gam → Mu → (Gam → Prop) → Prop) (tt1 : DTT) (te : DTE) (vs1 : List Nat) (Γ : Gam) : List D → List D → Mu → (List D → Mu → Prop) → Prop
  | [], acc, μ, Q => Gd src μ ∧ Q acc μ
  | d :: ds, acc, μ, Q => Gd src μ ∧ g d Γ μ fun Γ1 => fi1 Γ1 μ (fun src1 ds1 μ1 => dCompL src1 g1 tt1 te (wipeG Γ1 vs1) ds1 acc μ1 fun acc2 μ2 => dCompO src g fi1 g1 tt1 te vs1 Γ ds acc2 μ2 Q) fun _ _ => False
def dComp2 (fz : Bool) (vs vs1 : List Nat) (fi : DTI) (g : D → Gam → Mu → (Gam → Prop) → Prop) (fi1 : DTI) (g1 : D → Gam → Mu → (Gam → Prop) → Prop) (tt1 : DTT) (te : DTE) : DTE := fun Γ μ Q E => fi Γ μ (fun src ds μ1 => dCompO src g fi1 g1 tt1 te vs1 (wipeG Γ vs) ds [] μ1 fun acc μ2 => dFin fz acc μ2 Q) E
theorem GR.sp {K : PySem.W.Frag} {n n' : Now} {Γ : Gam} {σ : L2.St} (g : GR K n Γ σ) (s : SP n n') : GR K n' Γ σ := ⟨g.len, fun i d h => let ⟨v, h1, h2⟩ := g.at_ i d h; ⟨v, h1, s.rep h2⟩⟩
theorem wipe_twice (σ : L2.St) (vs : List Nat) : L2.wipe (L2.wipe σ vs) vs = L2.wipe σ vs := wipe_eq (L2.wipe_length σ vs) (fun k hk => by rw [wipe_get, if_neg hk])
theorem gd_of {src : Option (Nat × List D)} {g : D → Gam → Mu → (Gam → Prop) → Prop} {tt : DTT} {te : DTE} {Γ : Gam} {μ : Mu} {Q : List D → Mu → Prop} : ∀ (ds acc : List D), dCompL src g tt te Γ ds acc μ Q → Gd src μ
  | [], _, h => h.1
  | _ :: _, _, h => h.1
theorem gd_ofO {src : Option (Nat × List D)} {g g1 : D → Gam → Mu → (Gam → Prop) → Prop} {fi1 : DTI} {tt : DTT} {te : DTE} {vs1 : List Nat} {Γ : Gam} {μ : Mu} {Q : List D → Mu → Prop} : ∀ (ds acc : List D), dCompO src g fi1 g1 tt te vs1 Γ ds acc μ Q → Gd src μ
  | [], _, h => h.1
  | _ :: _, _, h => h.1
theorem comp2_go {K : PySem.W.Frag} {W : WX} {fz : Bool} {vs vs1 : List Nat} {fi fi1 : DTI} {g g1 : TG} {gd gd1 : D → Gam → Mu → (Gam → Prop) → Prop} {tt : DTT} {te : DTE} (hg : CT K vs g gd) (hg1 : CT K vs1 g1 gd1) (σ : L2.St) (H : Hp) (Q : VK) (h : lift K W (dComp2 fz vs vs1 fi gd fi1 gd1 tt te) σ H Q) :
    tLc2 (liftI K W fi) g (liftT K W0 dYes) (liftI K W0 fi1) g1 (liftT K W0 tt) (lift K W0 te) vs vs1 σ H Q := by
  obtain ⟨n, Γ, μ, Qd, Ed, hH, sr, gr, h, hq, hx⟩ := h
  subst hH
  refine ⟨n, Γ, μ, _, _, rfl, sr, gr, h, fun n1 src ds μ1 J s1 r1 w q p hp => ?_, hx⟩
  have gw := (gr.step s1).wipe vs
  let Ou : Nat → Hp → Prop := fun i H' => ∃ n2 μ2 acc avs, n2.H = H' ∧ Step n1 n2 ∧ SR0 K n2 μ2 ∧ Hid n2 p ∧ n2.H p = some (.lst avs) ∧ Reps K n2.Hb n2.al avs acc ∧ dCompO src gd fi1 gd1 tt te vs1 (wipeG Γ vs) (ds.drop i) acc μ2 (fun acc μ2 => dFin fz acc μ2 Qd)
  refine ⟨fun i m H' => m = ds.length - i ∧ i ≤ ds.length ∧ Ou i H', ⟨ds.length, by simp, Nat.zero_le _, n1.more p (.lst []), μ1, [], [], rfl, Step.more hp, r1.more hp, ⟨r1.hb hp, r1.nal hp, r1.nph hp⟩, upd_same, .nil, q⟩, ?_⟩
  rintro i m H' ⟨rfl, hi, n2, μ2, acc, avs, rfl, s2, r2, hid, hv, rp, q2⟩
  have gd2 : Gd src μ2 := gd_ofO _ _ q2
  by_cases hlt : i < ds.length
  · refine .inr ⟨w.goes n2 μ2 i s2.sp r2 gd2 hlt, Ou (i + 1), fun H3 p3 => ⟨ds.length - (i + 1), by omega, rfl, hlt, p3⟩, fun x H3 y => ?_⟩
    rw [List.drop_eq_getElem_cons hlt] at q2
    obtain ⟨n3, rfl, s3, r3, p3⟩ := w.yields n2 μ2 i x H3 ds[i] s2.sp r2 gd2 (by rw [List.getElem?_eq_getElem hlt]) y
    refine hg n3 μ2 x ds[i] (wipeG Γ vs) (L2.wipe σ vs) _ _ r3 ((gw.step s2).step s3) p3 q2.2 fun Γ4 σ4 g4 hl4 ha4 q4 => ⟨(wipe_eq hl4 ha4).trans (wipe_twice σ vs), ?_⟩
    refine liftT_go (ft := dYes) (Qd := fun b μ5 => b = true ∧ fi1 Γ4 μ5 (fun src1 ds1 μ1 => dCompL src1 gd1 tt te (wipeG Γ4 vs1) ds1 acc μ1 fun acc2 μ2 => dCompO src gd fi1 gd1 tt te vs1 (wipeG Γ vs) (ds.drop (i + 1)) acc2 μ2 (fun acc μ2 => dFin fz acc μ2 Qd)) fun _ _ => False) (Ed := fun _ _ => False) r3 g4 ⟨rfl, q4⟩ (fun n5 b μ5 s5 r5 q5 => ?_) (fun _ _ _ _ _ _ _ _ z => z)
    obtain ⟨rfl, q5⟩ := q5
    obtain ⟨hid3, hv3⟩ := hid.step hv s3
    obtain ⟨hid5, hv5⟩ := hid3.step hv3 s5
    refine iteT ⟨n5, Γ4, μ5, _, _, rfl, r5, g4.step s5, q5, fun n6 src1 ds1 μ6 J1 s6 r6 w1 q6 => ?_, fun _ _ _ _ _ _ _ _ z => z⟩
    obtain ⟨hid6, hv6⟩ := hid5.step hv5 s6
    have gw1 := ((g4.step s5).step s6).wipe vs1
    have s16 : Step n1 n6 := ((s2.trans s3).trans s5).trans s6
    let In : Nat → Hp → Prop := fun j H' => ∃ n7 μ7 acc avs, n7.H = H' ∧ SP n6 n7 ∧ Step n1 n7 ∧ SR0 K n7 μ7 ∧ Hid n7 p ∧ n7.H p = some (.lst avs) ∧ Reps K n7.Hb n7.al avs acc ∧ dCompL src1 gd1 tt te (wipeG Γ4 vs1) (ds1.drop j) acc μ7 fun acc2 μ2 => dCompO src gd fi1 gd1 tt te vs1 (wipeG Γ vs) (ds.drop (i + 1)) acc2 μ2 (fun acc μ2 => dFin fz acc μ2 Qd)
    refine ⟨fun j k H' => k = ds1.length - j ∧ j ≤ ds1.length ∧ In j H', ⟨ds1.length, by simp, Nat.zero_le _, n6, μ6, acc, avs, rfl, (Step.refl _).sp, s16, r6, hid6, hv6, ((s3.trans s5).trans s6).reps rp, q6⟩, ?_⟩
    rintro j k H' ⟨rfl, hj, n7, μ7, acc7, avs7, rfl, s67, s17, r7, hid7, hv7, rp7, q7⟩
    have gd7 : Gd src1 μ7 := gd_of _ _ q7
    by_cases hjt : j < ds1.length
    · refine .inr ⟨w1.goes n7 μ7 j s67 r7 gd7 hjt, In (j + 1), fun H3 p3 => ⟨ds1.length - (j + 1), by omega, rfl, hjt, p3⟩, fun x1 H8 y1 => ?_⟩
      rw [List.drop_eq_getElem_cons hjt] at q7
      obtain ⟨n8, rfl, s8, r8, p8⟩ := w1.yields n7 μ7 j x1 H8 ds1[j] s67 r7 gd7 (by rw [List.getElem?_eq_getElem hjt]) y1
      refine hg1 n8 μ7 x1 ds1[j] (wipeG Γ4 vs1) (L2.wipe σ4 vs1) _ _ r8 (gw1.sp (s67.trans s8.sp)) p8 q7.2 fun Γ9 σ9 g9 hl9 ha9 q9 => ⟨(wipe_eq hl9 ha9).trans (wipe_twice σ4 vs1), ?_⟩
      refine liftT_go r8 g9 q9 (fun n10 b μ10 s10 r10 q10 => ?_) (fun _ _ _ _ _ _ _ _ z => z)
      obtain ⟨hid8, hv8⟩ := hid7.step hv7 s8
      obtain ⟨hid10, hv10⟩ := hid8.step hv8 s10
      cases b with
      | false => exact iteF ⟨n10, μ10, acc7, avs7, rfl, (s67.trans s8.sp).trans s10.sp, (s17.trans s8).trans s10, r10, hid10, hv10, (s8.trans s10).reps rp7, q10⟩
      | true =>
        refine iteT (lift_go r10 (g9.step s10) q10 (fun n11 y dy μ11 s11 r11 p11 q11 => ?_) (fun _ _ _ _ _ _ _ _ z => z))
        obtain ⟨hid11, hv11⟩ := hid10.step hv10 s11
        have rp11 := ((s8.trans s10).trans s11).reps rp7
        refine ⟨avs7, hv11, by rw [rp11.length]; exact q11.1, n11.more p (.lst (avs7 ++ [y])), μ11, acc7 ++ [dy], avs7 ++ [y], rfl, ⟨((s67.trans s8.sp).trans (s10.trans s11).sp).same, ((s67.trans s8.sp).trans (s10.trans s11).sp).pre⟩, Step.other (((s17.trans s8).trans s10).trans s11) hp, r11.other hid11, ⟨hid11.b, hid11.a, hid11.ph⟩, upd_same, rp11.append (.cons p11 .nil), q11.2⟩
    · have e : j = ds1.length := by omega
      subst e
      rw [List.drop_length] at q7
      exact .inl ⟨w1.stops n7 μ7 s67 r7 gd7, n7, μ7, acc7, avs7, rfl, s17, r7, hid7, hv7, rp7, q7.2⟩
  · have e : i = ds.length := by omega
    subst e
    rw [List.drop_length] at q2
    refine .inl ⟨w.stops n2 μ2 s2.sp r2 gd2, ?_⟩
    have q3 := q2.2
    unfold dFin at q3
    cases fz with
    | true => exact hq ⟨upd n2.Hb p (.lst avs), n2.H, n2.al, n2.ph⟩ _ (.lst acc) μ2 (s1.trans (Step.adopt s2 hp hid)) (r2.adopt hid hv) (.lst upd_same (rp.mono (same_upd hid.b) (List.prefix_refl _))) q3
    | false =>
      refine hq ⟨n2.Hb, n2.H, n2.al ++ [p], n2.ph⟩ _ (.ref μ2.length) (μ2 ++ [Cell.lst acc]) (s1.trans (Step.adoptC s2 hp)) (r2.adoptC hid hv (c := .lst acc) ⟨hid.b, avs, hv, rp.mono (Same.refl _) (List.prefix_append _ _)⟩ (fun k z => by cases z)) (.ref ?_) q3
      show (n2.al ++ [p])[μ2.length]? = _
      rw [← r2.len]; simp
section
variable {X : Cx} {W : WX} {elt tg iter tg1 iter1 : Expr} {ifs1 : List Expr} {scope : Scope} {own : List (Str × Nat)} {vs1 : List Nat} {pos : Pos} {fz : Bool} {fi fi1 : DTI} {g g1 : TG} {gd gd1 : D → Gam → Mu → (Gam → Prop) → Prop} {tt : DTT} {te : DTE}
theorem de_lc2 (hc : X.calm = true) (hN : X.N.Nodup) (hi : DI X W tg iter fi) (ok : BlkOk X.N X.env.scope scope own) (hv : ∀ i ∈ vs1, i ∈ own.map (·.2)) (hct : CT X.K (own.map (·.2)) g gd) (hct1 : CT X.K vs1 g1 gd1)
    (hg : ∀ (s : Shared) (H : Hp) (C : Addr) (cl : List (Str × Addr)) (fp : List Addr), PG (X.blk s H scope (compEnvC scope cl C X.env) fp) tg g)
    (hi1 : ∀ (s : Shared) (H : Hp) (C : Addr) (cl : List (Str × Addr)) (fp : List Addr), PI (X.blk s H scope (compEnvC scope cl C X.env) fp) tg1 iter1 (liftI X.K W0 fi1))
    (hg1 : ∀ (s : Shared) (H : Hp) (C : Addr) (cl : List (Str × Addr)) (fp : List Addr), PG (X.blk s H scope (compEnvC scope cl C X.env) fp) tg1 g1)
    (ht : ∀ (s : Shared) (H : Hp) (C : Addr) (cl : List (Str × Addr)) (fp : List Addr), PTs (X.blk s H scope (compEnvC scope cl C X.env) fp) ifs1 (liftT X.K W0 tt))
    (he : ∀ (s : Shared) (H : Hp) (C : Addr) (cl : List (Str × Addr)) (fp : List Addr), PE (X.blk s H scope (compEnvC scope cl C X.env) fp) elt (lift X.K W0 te)) (hs : ∀ x, foldedSetIterable iter X.env x = pure x := by intro _; rfl) (hs1 : ∀ env x, foldedSetIterable iter1 env x = pure x := by intro _ _; rfl) :
    DE X W (.ListComp elt [⟨tg, iter, [], 0⟩, ⟨tg1, iter1, ifs1, 0⟩] scope pos) (dComp2 fz (own.map (·.2)) vs1 fi gd fi1 gd1 tt te) :=
  PE.imp (pe_lc2 hc hN hi ok hv hg (fun _ _ _ _ _ => dts_nil) hi1 hg1 ht he hs hs1) fun σ H Q h => comp2_go hct hct1 σ H Q h
end
end DV
/-! {e for x in xs for y in ys} of texts, sorted. -/
namespace DV
open PySem PySem.Spec PyProof.Rows L2
def SetTO (P : Program) (w : World) (a : Addr) (l : List Str) : HO := .ext fun h => SetT P w h a l
def addS (l : List Str) (k : Str) : List Str := if k ∈ l then l else k :: l
section
variable {X : Cx} {pins : List (Addr × Obj)} {σ : L2.St} {H : Hp} {s : Shared}
theorem setTO_new {P : Program} {w : World} {H : Hp} {h : Heap} {a : Addr} {l : List Str} (r : SetT P w h a l) : ObjOk P w H h a (SetTO P w a l) := by
  have ⟨_, ho, _⟩ := r
  exact ⟨r, ⟨_, ho⟩, fun h1 h2 p k => SetT.keep p k⟩
theorem setTO_get {a : Addr} {l : List Str} (I : Inv X pins σ H s) (ha : H a = some (SetTO X.prog X.w a l)) : SetT X.prog X.w s.heap a l := (I.hok a _ ha).1
theorem addT_ok {E : Value → Shared → Prop} {Da : Addr} {l : List Str} {y : Str} {t : Tok} {Q : Value → Shared → Prop} (I : Inv X pins σ H s) (hD : H Da = some (SetTO X.prog X.w Da l)) (room : l.length + 1 < scanBound)
    (h : ∀ s', Inv X pins σ (upd H Da (SetTO X.prog X.w Da (addS l y))) s' → Q .none s') : wpAny (model X.prog X.w) X.A (call (.builtin "set.add") [.ref Da, .str y t]) Q E s := by
  refine setT_add (setTO_get I hD) room fun h' sb new => ?_
  have he : ∃ u, h'.get? Da = some u := by
    have ⟨_, ho, _⟩ := new
    exact ⟨_, ho⟩
  exact h _ (I.write (e := Da) (t' := s.toks + 1) (by rw [hD]; trivial) (.inl rfl) (fun b u hb hu => (sb.2 b hb).trans hu) he (setTO_new new))
def rSortTO (P : Program) (w : World) : List V → Hp → VK → Prop := fun vs H Q => ∃ (a : Addr) (l : List Str), vs = [V.ref a] ∧ H a = some (SetTO P w a l) ∧ ∀ p, H p = none → Q (.ref p) (upd H p (.lst ((sortS l).map V.str)))
theorem cr_sortTO (hc : X.calm = true) (hu : X.A.units + 64 < cLine) : CallR X (.builtin "sorted") (rSortTO X.prog X.w) := by
  intro pins s σ H vs us Q I r h
  obtain ⟨a, l, rfl, ha, q⟩ := h
  rw [Vals.ref1 r]
  refine sorted_T (setTO_get I ha) (I.ok.hd hc) hu fun s' p out c k g o hp hg hi => ?_
  have hlen : ((sortS l).map V.str).length ≤ sizeLine := by
    have ⟨_, _, _, _, hb, _⟩ := setTO_get I ha
    rw [List.length_map, (sortS_perm l).length_eq]
    exact fits_of_scanBound hb
  have hn : H p = none := I.hok.fresh hp
  have J : Inv X pins σ (upd H p (.lst ((sortS l).map V.str))) { s with heap := s'.heap, gens := s'.gens, drawn := s'.drawn, toks := s'.toks } :=
    I.call (ch := []) (Un.laid k hp hn) (I.hok.laid k hp ⟨hlen, out, c, hi, hg⟩) (by rw [g]; exact I.bare) (fun _ z => nomatch z)
  have e : s' = { s with heap := s'.heap, gens := s'.gens, drawn := s'.drawn, toks := s'.toks } := by
    cases s'; cases s; cases o; rfl
  rw [e]
  exact ⟨.ref p, _, J, rfl, q p hn⟩
end
/-! ### the comprehension: two clauses without tests -/
abbrev sc2 (elt t0 i0 t1 i1 : Expr) (scope : Scope) (pos : Pos) : Expr := .SetComp elt [⟨t0, i0, [], 0⟩, ⟨t1, i1, [], 0⟩] scope pos
section
variable {prog : Program} {w : World} {A : Around} {R : Result → Shared → Prop} {s : Shared} {elt t0 i0 t1 i1 : Expr} {scope : Scope} {pos : Pos} {it acc : Value} {env : Env}
theorem turn_out : compTurn (sc2 elt t0 i0 t1 i1 scope pos) 0 it acc env = (do
    standAt i0.pos
    match ← pyNext it with
    | none => pure (.done .next)
    | some v =>
      letOwnedTupleGo t0 it v; assign t0 env v
      let x ← eval i1 env
      standAt i1.pos
      let x ← foldedSetIterable i1 env x
      let _ ← runOwn (.compStart (sc2 elt t0 i0 t1 i1 scope pos) 1 (← holding [x] (pyIter x)) acc env) env
      again (.compLoop (sc2 elt t0 i0 t1 i1 scope pos) 0 it acc env)) := by rfl
theorem turn_in : compTurn (sc2 elt t0 i0 t1 i1 scope pos) 1 it acc env = (do
    standAt i1.pos
    match ← pyNext it with
    | none => pure (.done .next)
    | some v =>
      letOwnedTupleGo t1 it v; assign t1 env v
      (do let v ← eval elt env; standAt elt.pos; let _ ← call (.builtin "set.add") [acc, v])
      again (.compLoop (sc2 elt t0 i0 t1 i1 scope pos) 1 it acc env)) := by rfl
end
section
variable {prog : Program} {w : World} {A : Around} {R : Result → Shared → Prop} {s : Shared} {elt t0 i0 t1 i1 : Expr} {scope : Scope} {pos : Pos} {it acc : Value} {env : Env}
abbrev Bad (prog : Program) (w : World) (A : Around) (env : Env) (R : Result → Shared → Prop) : Value → Shared → Prop := notedBy (model prog w) A env fun e s' => R (.error e) s'
theorem run_in (J : Nat → Shared → Prop) (turn : ∀ k u, J k u → wpAny (model prog w) A (pyNext it) (fun r u1 => match r with
      | none => R (.ok .next) u1
      | some v => wpAny (model prog w) A (letOwnedTupleGo t1 it v) (fun _ u2 => wpAny (model prog w) A (assign t1 env v) (fun _ u3 => wpAny (model prog w) A (eval elt env) (fun x u4 =>
          wpAny (model prog w) A (call (.builtin "set.add") [acc, x]) (fun _ u5 => ∃ m, m < k ∧ J m u5) (Bad prog w A env R) u4) (Bad prog w A env R) u3) (Bad prog w A env R) u2) (Bad prog w A env R) u1) (Bad prog w A env R) u)
    (k : Nat) (h : J k s) : codeAny (model prog w) A (.compLoop (sc2 elt t0 i0 t1 i1 scope pos) 1 it acc env) R s := by
  refine codeAny_loop rfl J (fun k u hJ => ?_) k h
  show wpAny _ A ((compTurn (sc2 elt t0 i0 t1 i1 scope pos) 1 it acc env).onRaise fun x => do noteFrame x env; theTreesLotGoes x) _ _ u
  refine wpAny_noted ?_
  rw [turn_in]
  refine wpAny_bind (wpAny_standAt (wpAny_bind (wpAny_mono (turn k u hJ) (fun r u1 z1 => ?_) fun _ _ z => z)))
  cases r with
  | none => exact wpAny_pure z1
  | some v =>
    refine wpAny_bind (wpAny_mono z1 (fun _ u2 z2 => wpAny_bind (wpAny_mono z2 (fun _ u3 z3 => ?_) fun _ _ z => z)) fun _ _ z => z)
    exact wpAny_bind (wpAny_bind (wpAny_mono z3 (fun x u4 z4 => wpAny_bind (wpAny_standAt (wpAny_bind (wpAny_mono z4 (fun _ u5 z5 => wpAny_pure (wpAny_pure ⟨rfl, z5⟩)) fun _ _ z => z)))) fun _ _ z => z))
theorem run_out (hf : ∀ x, foldedSetIterable i1 env x = pure x) (J : Nat → Shared → Prop) (turn : ∀ k u, J k u → wpAny (model prog w) A (pyNext it) (fun r u1 => match r with
      | none => R (.ok .next) u1
      | some v => wpAny (model prog w) A (letOwnedTupleGo t0 it v) (fun _ u2 => wpAny (model prog w) A (assign t0 env v) (fun _ u3 => wpAny (model prog w) A (eval i1 env) (fun x u4 => wpAny (model prog w) A (pyIter x) (fun it1 u5 =>
          codeAny (model prog w) A (.compStart (sc2 elt t0 i0 t1 i1 scope pos) 1 it1 acc env) (fun r u6 => match r with | .ok _ => ∃ m, m < k ∧ J m u6 | .error _ => False) u5) (Bad prog w A env R) u4) (Bad prog w A env R) u3) (Bad prog w A env R) u2) (Bad prog w A env R) u1) (Bad prog w A env R) u)
    (k : Nat) (h : J k s) : codeAny (model prog w) A (.compLoop (sc2 elt t0 i0 t1 i1 scope pos) 0 it acc env) R s := by
  refine codeAny_loop rfl J (fun k u hJ => ?_) k h
  show wpAny _ A ((compTurn (sc2 elt t0 i0 t1 i1 scope pos) 0 it acc env).onRaise fun x => do noteFrame x env; theTreesLotGoes x) _ _ u
  refine wpAny_noted ?_
  rw [turn_out]
  refine wpAny_bind (wpAny_standAt (wpAny_bind (wpAny_mono (turn k u hJ) (fun r u1 z1 => ?_) fun _ _ z => z)))
  cases r with
  | none => exact wpAny_pure z1
  | some v =>
    refine wpAny_bind (wpAny_mono z1 (fun _ u2 z2 => wpAny_bind (wpAny_mono z2 (fun _ u3 z3 => wpAny_bind (wpAny_mono z3 (fun x u4 z4 => ?_) fun _ _ z => z)) fun _ _ z => z)) fun _ _ z => z)
    refine wpAny_bind (wpAny_standAt (wpAny_bind (wpAny_of_eq (hf x) (wpAny_bind (wpAny_holding (wpAny_mono z4 (fun it1 u5 z5 => wpAny_bind (wpAny_runOwn ?_)) fun _ _ z => z))))))
    rw [Around.mark_none]
    refine codeAny_mono z5 fun r u6 z6 => ?_
    cases r with
    | ok f => first | exact wpAny_pure ⟨rfl, z6⟩ | exact wpAny_bind (wpAny_pure (wpAny_pure ⟨rfl, z6⟩))
    | error e => exact z6.elim
theorem run_st1 (a : codeAny (model prog w) A (.compLoop (sc2 elt t0 i0 t1 i1 scope pos) 1 it acc env) R s)
    (b : wpAny (model prog w) A (pyIter it) (fun it' u => codeAny (model prog w) A (.compLoop (sc2 elt t0 i0 t1 i1 scope pos) 1 it' acc env) R u) (Bad prog w A env R) s) : codeAny (model prog w) A (.compStart (sc2 elt t0 i0 t1 i1 scope pos) 1 it acc env) R s := by
  refine codeAny_of_tree ?_
  show wpAny _ _ ((PySem.compStart (sc2 elt t0 i0 t1 i1 scope pos) 1 it acc env).onRaise fun x => do noteFrame x env; standAt theWindowsPlace) _ _ s
  refine wpAny_notedAt ?_
  unfold PySem.compStart
  show wpAny _ _ (ask >>= _) _ _ s
  refine wpAny_bind (wpAny_askSetting (wpAny_ite ?_))
  split
  · first | exact wpAny_bind (wpAny_pure (wpAny_pure ⟨rfl, a⟩)) | exact wpAny_pure ⟨rfl, a⟩
  · first
    | exact wpAny_bind (wpAny_rule (wpAny_bind (wpAny_standAt (wpAny_bind (wpAny_mono b (fun _ _ z => wpAny_pure ⟨rfl, z⟩) fun _ _ z => z)))))
    | (refine wpAny_bind (wpAny_rule ?_); show wpAny _ _ (standAt i1.pos >>= _) _ _ s; exact wpAny_bind (wpAny_standAt (wpAny_bind (wpAny_mono b (fun _ _ z => wpAny_pure ⟨rfl, z⟩) fun _ _ z => z))))
end
/-! an iterator between two turns -/
structure Mid (Y : Cx) (pins : List (Addr × Obj)) (σ : L2.St) (fp : List Addr) (tn : Nat → Heap → Prop) (i : Nat) (H : Hp) (s : Shared) : Prop where
  inv : Inv Y pins σ H s
  st : tn i s.heap
  no : ∀ b ∈ fp, H b = none
theorem mid_back {Y : Cx} {pins : List (Addr × Obj)} {σ σ' : L2.St} {tg : Expr} {J : It} {fp : List Addr} {it : Addr} {tn : Nat → Heap → Prop} {i : Nat} {H : Hp} {s s0 : Shared} (T : Turn Y.prog Y.w Y.K tg J fp it tn) (st : tn i s0.heap) (I : Inv Y (pins ++ pinsAt fp s0.heap) σ' H s)
    (hl : σ.length = σ'.length) (hk : ∀ (j : Nat) v, σ[j]? = some (some v) → σ'[j]? = some (some v)) : Mid Y pins σ fp tn i H s := by
  have pin : ∀ b ∈ fp, ∀ o, s0.heap.get? b = some o → s.heap.get? b = some o ∧ H b = none := fun b hb o e => by
    have z := I.pin (b, o) (List.mem_append_right _ (List.mem_append_right _ (mem_pinsAt hb e)))
    exact ⟨z.1, z.2.1⟩
  refine ⟨I.unpinned.weak hl hk, T.keep _ _ _ st fun b hb o e => (pin b hb o e).1, fun b hb => ?_⟩
  obtain ⟨o, e, _⟩ := T.obj _ _ st b hb
  exact (pin b hb o e).2
section
variable {X : Cx}
/-- {elt for t0 in i0 for t1 in i1}, elt a text: q the new set -/
def tSc2 (P : Program) (w : World) (wi : TI) (g : TG) (wi1 : TI) (g1 : TG) (te : TE) (vs vs1 : List Nat) : TE := fun σ H Q => wi σ H fun J H1 => ∀ q, H1 q = none → ∃ W : Nat → Nat → Hp → Prop, (∃ m, W 0 m (upd H1 q (SetTO P w q []))) ∧ ∀ i m H, W i m H →
  (J.stop i H ∧ Q (.ref q) H) ∨ (J.go i H ∧ ∃ Nx : Hp → Prop, (∀ H', Nx H' → ∃ m', m' < m ∧ W (i + 1) m' H') ∧ ∀ x H', J.yld i H x H' → g x (L2.wipe σ vs) H' fun σ2 H2 => L2.wipe σ2 vs = L2.wipe σ vs ∧ wi1 σ2 H2 fun J1 H4 => ∃ W1 : Nat → Nat → Hp → Prop, (∃ m, W1 0 m H4) ∧ ∀ j k H, W1 j k H →
    (J1.stop j H ∧ Nx H) ∨ (J1.go j H ∧ ∃ Nx1 : Hp → Prop, (∀ H', Nx1 H' → ∃ k', k' < k ∧ W1 (j + 1) k' H') ∧ ∀ x H', J1.yld j H x H' → g1 x (L2.wipe σ2 vs1) H' fun σ3 H5 => L2.wipe σ3 vs1 = L2.wipe σ2 vs1 ∧
      te σ3 H5 fun y H7 => ∃ (z : Str) (l : List Str), y = .str z ∧ H7 q = some (SetTO P w q l) ∧ l.length + 1 < scanBound ∧ Nx1 (upd H7 q (SetTO P w q (addS l z)))))
abbrev InB (X : Cx) (scope : Scope) (φ : Cx → Prop) : Prop := ∀ (s : Shared) (H : Hp) (C : Addr) (cl : List (Str × Addr)) (fp : List Addr), φ (X.blk s H scope (compEnvC scope cl C X.env) fp)
theorem pe_sc2 {elt t0 i0 t1 i1 : Expr} {scope : Scope} {own : List (Str × Nat)} {vs1 : List Nat} {pos : Pos} {wi wi1 : TI} {g g1 : TG} {te : TE} (hc : X.calm = true) (hN : X.N.Nodup) (hi : PI X t0 i0 wi) (ok : BlkOk X.N X.env.scope scope own) (hv : ∀ i ∈ vs1, i ∈ own.map (·.2))
    (hg : InB X scope fun Y => PG Y t0 g) (hi1 : InB X scope fun Y => PI Y t1 i1 wi1) (hg1 : InB X scope fun Y => PG Y t1 g1) (he : InB X scope fun Y => PE Y elt te)
    (hs : ∀ x, foldedSetIterable i0 X.env x = pure x := by intro _; rfl) (hs1 : ∀ env x, foldedSetIterable i1 env x = pure x := by intro _ _; rfl) :
    PE X (sc2 elt t0 i0 t1 i1 scope pos) (tSc2 X.prog X.w wi g wi1 g1 te (own.map (·.2)) vs1) := by
  refine ⟨fun pins s σ H Q I h => ?_⟩
  rw [PpSet.eval_SetComp]
  have clo : ∀ y ∈ scope.names, y.2 = .free → ∃ c, X.env.cells.lookup y.1 = some c := fun y hy e => (ok.free y hy e).elim (fun k => I.ok.has _ (.inl k)) fun k => I.ok.has _ (.inr k)
  refine wpAny_comprehension_free (use := none) rfl hs (closure_ok clo) ok.kind (fun y hy e => (ok.uniq y hy).trans (by rw [e])) (thn (hi.run pins s σ H _ I h) fun xv s1 hx => thn hx fun itv s2 ⟨it, fp, tn, J, H2, e, I2, T, st2, f2, body⟩ => PpSet.newSet_ok (newEnv_comp ?_))
  subst e
  -- the new set
  have hq : H2 s2.heap.objs.size = none := I2.hok.fresh (Nat.le_refl _)
  obtain ⟨W, ⟨m0, w0⟩, turn⟩ := body _ hq
  let s3 : Shared := { s2 with heap := s2.heap.push { cls := .type "set", dict := none, data := .set #[] 0 (.fresh 0 0 (!X.w.params.followText "set-order")) } }
  have I3 : Inv X pins σ (upd H2 s2.heap.objs.size (SetTO X.prog X.w s2.heap.objs.size [])) s3 := I2.laid (t' := s2.toks) (fun b o z => Heap.get?_push_of_some _ z) (Nat.le_refl _) (setTO_new setT_fresh)
  have f3 : ∀ b ∈ fp, FpOk X pins (upd H2 s2.heap.objs.size (SetTO X.prog X.w s2.heap.objs.size [])) b ∧ b < s3.heap.objs.size := fun b hb => by
    obtain ⟨o, z, _⟩ := T.obj _ _ st2 b hb
    have lt := Heap.lt_size z
    exact ⟨⟨(upd_ne (Nat.ne_of_lt lt)).trans (f2 b hb).1, (f2 b hb).2⟩, Nat.lt_of_lt_of_le lt (by show _ ≤ (s2.heap.push _).objs.size; rw [Heap.size_push]; exact Nat.le_succ _)⟩
  generalize hH3 : upd H2 s2.heap.objs.size (SetTO X.prog X.w s2.heap.objs.size []) = H3 at w0 I3 f3
  generalize hq0 : s2.heap.objs.size = q at w0 turn hH3
  have st3 : tn 0 s3.heap := T.keep _ _ _ st2 fun b _ o z => Heap.get?_push_of_some _ z
  have I4 := block_start I3 ok hN f3
  let ce : Env := compEnvC scope (cellsFrom (s3.heap.objs.size + 1) scope.names (cloFrom X.env.cells scope.names [])) s3.heap.objs.size X.env
  let Y : Cx := X.blk s3 H3 scope ce fp
  have pg : PG Y t0 g := hg _ _ _ _ _
  have pi1 : PI Y t1 i1 wi1 := hi1 _ _ _ _ _
  have pg1 : PG Y t1 g1 := hg1 _ _ _ _ _
  have pe : PE Y elt te := he _ _ _ _ _
  let s4 : Shared := { s3 with heap := pushCells (s3.heap.push { cls := .type "dict", data := .dict #[] }) scope.names }
  have I4 : Inv Y [] (L2.wipe σ (own.map (·.2))) H3 s4 := I4
  have st4 : tn 0 s4.heap := T.keep _ _ _ st3 fun b _ o z => pushCells_keeps _ _ _ _ (Heap.get?_push_of_some _ z)
  show codeAny _ _ (.compStart (sc2 elt t0 i0 t1 i1 scope pos) 0 (.ref it) (.ref q) ce) (compPost (model X.prog X.w) X.A X.xe none (EP X pins σ Q) (.ref q) s3.heap.objs.size) s4
  have sta : ∀ {τ : L2.St} {H' : Hp} {u : Shared}, Inv Y [] τ H' u → (∀ b ∈ fp, H' b = none) → ∀ b ∈ fp, FpOk Y [] H' b := fun {τ H' u} K hn b hb =>
    have z := K.ok.exf b hb
    ⟨hn b hb, z.1, K.ok.exfs b hb, .inl hb, fun x c e => z.2 x c e, fun p hp => absurd (show p ∈ ([] : List (Addr × Obj)) ++ [] from hp) (by simp)⟩
  have loop : codeAny (model X.prog X.w) X.A (.compLoop (sc2 elt t0 i0 t1 i1 scope pos) 0 (.ref it) (.ref q) ce) (compPost (model X.prog X.w) X.A X.xe none (EP X pins σ Q) (.ref q) s3.heap.objs.size) s4 := by
    refine run_out (hs1 ce) (fun k u => ∃ i H', Mid Y [] (L2.wipe σ (own.map (·.2))) fp tn i H' u ∧ W i k H') ?_ m0 ⟨0, H3, ⟨I4, st4, fun b hb => (f3 b hb).1.1⟩, w0⟩
    rintro k u ⟨i, H5, D5, w5⟩
    rcases turn i k H5 w5 with ⟨stop, qq⟩ | ⟨go, Nx, hNx, step⟩
    · refine thnF (T.done Y rfl rfl rfl hc i [] u _ H5 (fun _ _ => False) D5.inv (sta D5.inv D5.no) D5.st stop) fun r u6 ⟨er, I6⟩ => ?_
      subst er
      have I7 : Inv X pins σ H5 u6 := I3.call' (ch := fp) I6.os I6.base I6.hok I6.bare fun b hb => have z := (f3 b hb).1.2; ⟨z.2.2.1, z.1, z.2.2.2.1, z.2.2.2.2⟩
      have nC : H5 s3.heap.objs.size = none := I6.free
      obtain ⟨m, hn, _⟩ := I6.loc
      obtain ⟨y0, y1, y2, y3, y4, y5⟩ := I3.fpOk (H' := H5) (Nat.le_refl _) nC
      exact ⟨m, hn, fun h'' sb => ⟨.ref q, H5, I7.turned (t' := u6.toks) (fun b o hb z => (sb.2 b hb).trans z) y0 y1 y3 y4 y5, rfl, qq⟩⟩
    · refine thnF (T.item Y rfl rfl rfl hc i [] u _ H5 (fun _ _ => False) D5.inv (sta D5.inv D5.no) D5.st go) fun r u6 ⟨v, er, z6⟩ => ?_
      subst er
      refine thnF z6 fun _ u7 ⟨x, H7, I7, r7, y7, st7, n7⟩ => ?_
      refine thnF (pg.run _ u7 _ H7 x v _ (I7.pinned (sta I7 n7) (T.obj _ _ st7)) r7 (step x H7 y7)) fun _ u8 ⟨σ8, H8, I8, hw8, q8⟩ => ?_
      refine thnF (pi1.run _ u8 σ8 H8 _ I8 q8) fun xv u9 z9 => thnF z9 fun itv u10 ⟨it1, fp1, tn1, J1, H10, e1, I10, T1, st10, f10, W1, ⟨m1, w1⟩, turn1⟩ => ?_
      subst e1
      have l8 : (L2.wipe σ (own.map (·.2))).length = σ8.length := by rw [← hw8, L2.wipe_length]
      have k9 : ∀ (j : Nat) v, (L2.wipe σ (own.map (·.2)))[j]? = some (some v) → (L2.wipe σ8 vs1)[j]? = some (some v) := fun j v z => by
        rw [← hw8] at z
        obtain ⟨z1, z2⟩ := wipe_some z
        rw [L2.wipe_out fun y => z2 (hv j y)]
        exact z1
      have sta1 : ∀ {H' : Hp}, (∀ b ∈ fp1, H' b = none) → ∀ b ∈ fp1, FpOk Y ([] ++ pinsAt fp u7.heap) H' b := fun hn b hb => ⟨hn b hb, (f10 b hb).2⟩
      have inner : codeAny (model X.prog X.w) X.A (.compLoop (sc2 elt t0 i0 t1 i1 scope pos) 1 (.ref it1) (.ref q) ce) (fun r u6 => match r with | .ok _ => ∃ m, m < k ∧ ∃ i H', Mid Y [] (L2.wipe σ (own.map (·.2))) fp tn i H' u6 ∧ W i m H' | .error _ => False) u10 := by
        refine run_in (fun k1 u => ∃ j H', Mid Y ([] ++ pinsAt fp u7.heap) (L2.wipe σ8 vs1) fp1 tn1 j H' u ∧ W1 j k1 H') ?_ m1 ⟨0, H10, ⟨I10.weak (L2.wipe_length _ _) fun j v z => (wipe_some z).1, st10, fun b hb => (f10 b hb).1⟩, w1⟩
        rintro k1 u12 ⟨j, H12, D12, w12⟩
        rcases turn1 j k1 H12 w12 with ⟨stop1, nx⟩ | ⟨go1, Nx1, hNx1, step1⟩
        · refine thnF (T1.done Y rfl rfl rfl hc j _ u12 _ H12 (fun _ _ => False) D12.inv (sta1 D12.no) D12.st stop1) fun r u13 ⟨er, I13⟩ => ?_
          subst er
          obtain ⟨m', hm, w'⟩ := hNx _ nx
          exact ⟨m', hm, i + 1, H12, mid_back T st7 I13 (l8.trans (L2.wipe_length σ8 vs1).symm) k9, w'⟩
        · refine thnF (T1.item Y rfl rfl rfl hc j _ u12 _ H12 (fun _ _ => False) D12.inv (sta1 D12.no) D12.st go1) fun r u13 ⟨v1, er, z13⟩ => ?_
          subst er
          refine thnF z13 fun _ u14 ⟨x1, H14, I14, r14, y14, st14, n14⟩ => ?_
          refine thnF (pg1.run _ u14 _ H14 x1 v1 _ (I14.pinned (sta1 n14) (T1.obj _ _ st14)) r14 (step1 x1 H14 y14)) fun _ u15 ⟨σ15, H15, I15, hw15, q15⟩ => ?_
          refine thnF (pe.run _ u15 σ15 H15 _ I15 q15) fun z u16 ⟨yv, H16, I16, r16, zt, l, ey, hD, room, nx1⟩ => ?_
          subst ey
          obtain ⟨t, rfl⟩ := r16
          refine addT_ok (X := Y) I16 hD room fun u17 I17 => ?_
          obtain ⟨m', hm, w'⟩ := hNx1 _ nx1
          exact ⟨m', hm, j + 1, _, mid_back T1 st14 I17 (by rw [← hw15, L2.wipe_length]) (fun j v z => by rw [← hw15] at z; exact (wipe_some z).1), w'⟩
      exact run_st1 inner (T1.self X.A 0 _ _ _ st10 inner)
  exact PpSet.codeAny_compStart_set loop (T.self X.A 0 _ _ _ st4 loop)
end
end DV
/-! sorted({e for x in xs for y in ys}) of texts, deep. -/
namespace DV
open PySem PySem.Spec PyProof.Rows L2
def dScL (src : Option (Nat × List D)) (g : D → Gam → Mu → (Gam → Prop) → Prop) (te : DTE) (Γ : Gam) : List D → List Str → Mu → (List Str → Mu → Prop) → Prop
  | [], acc, μ, Q => Gd src μ ∧ Q acc μ
  | d :: ds, acc, μ, Q => Gd src μ ∧ g d Γ μ fun Γ1 => te Γ1 μ (fun y μ2 => match y with | .str z => acc.length + 1 < scanBound ∧ dScL src g te Γ ds (addS acc z) μ2 Q | _ => False) fun _ _ => False
def dScO (src : Option (Nat × List D)) (g : D → Gam → Mu → (Gam → Prop) → Prop) (fi1 : DTI) (g1 : D → Gam → Mu → (Gam → Prop) → Prop) (te : DTE) (vs1 : List Nat) (Γ : Gam) : List D → List Str → Mu → (List Str → Mu → Prop) → Prop
  | [], acc, μ, Q => Gd src μ ∧ Q acc μ
  | d :: ds, acc, μ, Q => Gd src μ ∧ g d Γ μ fun Γ1 => fi1 Γ1 μ (fun src1 ds1 μ1 => dScL src1 g1 te (wipeG Γ1 vs1) ds1 acc μ1 fun acc2 μ2 => dScO src g fi1 g1 te vs1 Γ ds acc2 μ2 Q) fun _ _ => False
def dSortSC (fz : Bool) (vs vs1 : List Nat) (fi : DTI) (g : D → Gam → Mu → (Gam → Prop) → Prop) (fi1 : DTI) (g1 : D → Gam → Mu → (Gam → Prop) → Prop) (te : DTE) : DTE := fun Γ μ Q E => fi Γ μ (fun src ds μ1 => dScO src g fi1 g1 te vs1 (wipeG Γ vs) ds [] μ1 fun acc μ2 => dFin fz ((sortS acc).map .str) μ2 Q) E
theorem sgd_of {src : Option (Nat × List D)} {g : D → Gam → Mu → (Gam → Prop) → Prop} {te : DTE} {Γ : Gam} {μ : Mu} {Q : List Str → Mu → Prop} : ∀ (ds : List D) (acc : List Str), dScL src g te Γ ds acc μ Q → Gd src μ
  | [], _, h => h.1
  | _ :: _, _, h => h.1
theorem sgd_ofO {src : Option (Nat × List D)} {g g1 : D → Gam → Mu → (Gam → Prop) → Prop} {fi1 : DTI} {te : DTE} {vs1 : List Nat} {Γ : Gam} {μ : Mu} {Q : List Str → Mu → Prop} : ∀ (ds : List D) (acc : List Str), dScO src g fi1 g1 te vs1 Γ ds acc μ Q → Gd src μ
  | [], _, h => h.1
  | _ :: _, _, h => h.1
theorem sc2_go {K : PySem.W.Frag} {W : WX} {P : Program} {w : World} {fz : Bool} {vs vs1 : List Nat} {fi fi1 : DTI} {g g1 : TG} {gd gd1 : D → Gam → Mu → (Gam → Prop) → Prop} {te : DTE} (hg : CT K vs g gd) (hg1 : CT K vs1 g1 gd1) (σ : L2.St) (H : Hp) (Q : VK) (h : lift K W (dSortSC fz vs vs1 fi gd fi1 gd1 te) σ H Q) :
    tSc2 P w (liftI K W fi) g (liftI K W0 fi1) g1 (lift K W0 te) vs vs1 σ H (fun x H1 => rSortTO P w [x] H1 Q) := by
  obtain ⟨n, Γ, μ, Qd, Ed, hH, sr, gr, h, hq, hx⟩ := h
  subst hH
  refine ⟨n, Γ, μ, _, _, rfl, sr, gr, h, fun n1 src ds μ1 J s1 r1 wk q p hp => ?_, hx⟩
  have gw := (gr.step s1).wipe vs
  let Ou : Nat → Hp → Prop := fun i H' => ∃ n2 μ2 acc, n2.H = H' ∧ Step n1 n2 ∧ SR0 K n2 μ2 ∧ Hid n2 p ∧ n2.H p = some (SetTO P w p acc) ∧ dScO src gd fi1 gd1 te vs1 (wipeG Γ vs) (ds.drop i) acc μ2 (fun acc μ2 => dFin fz ((sortS acc).map .str) μ2 Qd)
  refine ⟨fun i m H' => m = ds.length - i ∧ i ≤ ds.length ∧ Ou i H', ⟨ds.length, by simp, Nat.zero_le _, n1.more p _, μ1, [], rfl, Step.more hp, r1.more hp, ⟨r1.hb hp, r1.nal hp, r1.nph hp⟩, upd_same, q⟩, ?_⟩
  rintro i m H' ⟨rfl, hi, n2, μ2, acc, rfl, s2, r2, hid, hv, q2⟩
  have gd2 : Gd src μ2 := sgd_ofO _ _ q2
  by_cases hlt : i < ds.length
  · refine .inr ⟨wk.goes n2 μ2 i s2.sp r2 gd2 hlt, Ou (i + 1), fun H3 p3 => ⟨ds.length - (i + 1), by omega, rfl, hlt, p3⟩, fun x H3 y => ?_⟩
    rw [List.drop_eq_getElem_cons hlt] at q2
    obtain ⟨n3, rfl, s3, r3, p3⟩ := wk.yields n2 μ2 i x H3 ds[i] s2.sp r2 gd2 (by rw [List.getElem?_eq_getElem hlt]) y
    refine hg n3 μ2 x ds[i] (wipeG Γ vs) (L2.wipe σ vs) _ _ r3 ((gw.step s2).step s3) p3 q2.2 fun Γ4 σ4 g4 hl4 ha4 q4 => ⟨(wipe_eq hl4 ha4).trans (wipe_twice σ vs), ?_⟩
    obtain ⟨hid3, hv3⟩ := hid.step hv s3
    refine ⟨n3, Γ4, μ2, _, _, rfl, r3, g4, q4, fun n6 src1 ds1 μ6 J1 s6 r6 w1 q6 => ?_, fun _ _ _ _ _ _ _ _ z => z⟩
    obtain ⟨hid6, hv6⟩ := hid3.step hv3 s6
    have gw1 := (g4.step s6).wipe vs1
    have s16 : Step n1 n6 := (s2.trans s3).trans s6
    let In : Nat → Hp → Prop := fun j H' => ∃ n7 μ7 acc, n7.H = H' ∧ SP n6 n7 ∧ Step n1 n7 ∧ SR0 K n7 μ7 ∧ Hid n7 p ∧ n7.H p = some (SetTO P w p acc) ∧ dScL src1 gd1 te (wipeG Γ4 vs1) (ds1.drop j) acc μ7 fun acc2 μ2 => dScO src gd fi1 gd1 te vs1 (wipeG Γ vs) (ds.drop (i + 1)) acc2 μ2 (fun acc μ2 => dFin fz ((sortS acc).map .str) μ2 Qd)
    refine ⟨fun j k H' => k = ds1.length - j ∧ j ≤ ds1.length ∧ In j H', ⟨ds1.length, by simp, Nat.zero_le _, n6, μ6, acc, rfl, (Step.refl _).sp, s16, r6, hid6, hv6, q6⟩, ?_⟩
    rintro j k H' ⟨rfl, hj, n7, μ7, acc7, rfl, s67, s17, r7, hid7, hv7, q7⟩
    have gd7 : Gd src1 μ7 := sgd_of _ _ q7
    by_cases hjt : j < ds1.length
    · refine .inr ⟨w1.goes n7 μ7 j s67 r7 gd7 hjt, In (j + 1), fun H3 p3 => ⟨ds1.length - (j + 1), by omega, rfl, hjt, p3⟩, fun x1 H8 y1 => ?_⟩
      rw [List.drop_eq_getElem_cons hjt] at q7
      obtain ⟨n8, rfl, s8, r8, p8⟩ := w1.yields n7 μ7 j x1 H8 ds1[j] s67 r7 gd7 (by rw [List.getElem?_eq_getElem hjt]) y1
      refine hg1 n8 μ7 x1 ds1[j] (wipeG Γ4 vs1) (L2.wipe σ4 vs1) _ _ r8 (gw1.sp (s67.trans s8.sp)) p8 q7.2 fun Γ9 σ9 g9 hl9 ha9 q9 => ⟨(wipe_eq hl9 ha9).trans (wipe_twice σ4 vs1), ?_⟩
      obtain ⟨hid8, hv8⟩ := hid7.step hv7 s8
      refine lift_go r8 g9 q9 (fun n11 y dy μ11 s11 r11 p11 q11 => ?_) (fun _ _ _ _ _ _ _ _ z => z)
      obtain ⟨hid11, hv11⟩ := hid8.step hv8 s11
      split at q11
      · rename_i z
        cases p11
        exact ⟨z, acc7, rfl, hv11, q11.1, n11.more p _, μ11, addS acc7 z, rfl, ⟨((s67.trans s8.sp).trans s11.sp).same, ((s67.trans s8.sp).trans s11.sp).pre⟩, Step.other ((s17.trans s8).trans s11) hp, r11.other hid11, ⟨hid11.b, hid11.a, hid11.ph⟩, upd_same, q11.2⟩
      · exact q11.elim
    · have e : j = ds1.length := by omega
      subst e
      rw [List.drop_length] at q7
      exact .inl ⟨w1.stops n7 μ7 s67 r7 gd7, n7, μ7, acc7, rfl, s17, r7, hid7, hv7, q7.2⟩
  · have e : i = ds.length := by omega
    subst e
    rw [List.drop_length] at q2
    refine .inl ⟨wk.stops n2 μ2 s2.sp r2 gd2, p, acc, rfl, hv, fun l hl => ?_⟩
    exact fin_lst (LV.step hq (s1.trans s2)) r2 hl (reps_strs (sortS acc)) q2.2
section
variable {X : Cx} {W : WX} {elt t0 i0 t1 i1 : Expr} {scope : Scope} {own : List (Str × Nat)} {vs1 : List Nat} {pos p pos' : Pos} {fi fi1 : DTI} {g g1 : TG} {gd gd1 : D → Gam → Mu → (Gam → Prop) → Prop} {te : DTE}
theorem de_sortSC (fz : Bool) (hu : X.A.units + 64 < cLine) (hgl : Gl X "sorted") (hm : X.mg "sorted" = none) (hc : X.calm = true) (hN : X.N.Nodup) (hi : DI X W t0 i0 fi) (ok : BlkOk X.N X.env.scope scope own) (hv : ∀ i ∈ vs1, i ∈ own.map (·.2)) (hct : CT X.K (own.map (·.2)) g gd) (hct1 : CT X.K vs1 g1 gd1)
    (hg : InB X scope fun Y => PG Y t0 g) (hi1 : InB X scope fun Y => PI Y t1 i1 (liftI X.K W0 fi1)) (hg1 : InB X scope fun Y => PG Y t1 g1) (he : InB X scope fun Y => PE Y elt (lift X.K W0 te))
    (hs : ∀ x, foldedSetIterable i0 X.env x = pure x := by intro _; rfl) (hs1 : ∀ env x, foldedSetIterable i1 env x = pure x := by intro _ _; rfl)
    (hst : starEach [sc2 elt t0 i0 t1 i1 scope pos] X.env = (false, eval (sc2 elt t0 i0 t1 i1 scope pos) X.env) :: starEach [] X.env := by rfl) :
    DE X W (.Call (.Name "sorted" p) [sc2 elt t0 i0 t1 i1 scope pos] [] pos') (dSortSC fz (own.map (·.2)) vs1 fi gd fi1 gd1 te) :=
  PE.imp (pe_callB (cr_sortTO hc hu) hgl hm (by decide +kernel) (pa_cons (pe_sc2 hc hN hi ok hv hg hi1 hg1 he hs hs1) pa_nil hst) (by decide) (by decide) hst rfl) fun σ H Q h => sc2_go hct hct1 σ H Q h
end
end DV
/-! Own classes as callers see them. -/
namespace DV
open PySem PySem.Spec PyProof.Rows L2
/-- the classes' places: Table, Wishes, Unrest, Round, Verdict, Book, Power, Tree -/
structure Cs where
  T : Addr := 0
  W : Addr := 0
  U : Addr := 0
  R : Addr := 0
  V : Addr := 0
  B : Addr := 0
  P : Addr := 0
  E : Addr := 0
def HasI (P : Program) (w : World) (K : PySem.W.Frag) (mg : Str → Option Value) (base : Heap) (C : Addr) (x : Str) (k : Nat) (ps : List Str) (S : DSp) : Prop :=
  ∃ f fd, mg x = some (.ref C) ∧ Mk K C f ∧ Binds K fd ps [] ∧ FnOk P w K mg base (L2N.CX P w) k f fd ps (spOf K S)
def HasM (P : Program) (w : World) (K : PySem.W.Frag) (mg : Str → Option Value) (base : Heap) (C : Addr) (m : Str) (k : Nat) (ps : List Str) (S : DSp) : Prop :=
  ∃ f fd, Meth K C m f ∧ Binds K fd ps [] ∧ FnOk P w K mg base (L2N.CX P w) k f fd ps (spOf K S)
def HasP (P : Program) (w : World) (K : PySem.W.Frag) (mg : Str → Option Value) (base : Heap) (C : Addr) (m : Str) (k : Nat) (ps : List Str) (S : DSp) : Prop :=
  ∃ p f fd, PropOf K C m p f ∧ Binds K fd ps [] ∧ FnOk P w K mg base (L2N.CX P w) k f fd ps (spOf K S)
def HasX (P : Program) (w : World) (K : PySem.W.Frag) (mg : Str → Option Value) (base : Heap) (C : Addr) (k : Nat) (ps : List Str) (S : DSp) : Prop :=
  ∃ f fd, PySem.W.findIn K (.ref C) "__getitem__" = some (some (.ref f)) ∧ PySem.W.fnIn K f = true ∧ PySem.W.isFn K (.ref f) = true ∧ Binds K fd ps [] ∧ FnOk P w K mg base (L2N.CX P w) k f fd ps (spOf K S)
section
variable {X : Cx} {W : WX} {o e i : Expr} {es : List Expr} {m x : Str} {p pos apos : Pos} {fo fi : DTE} {fr : DTA} {C : Addr} {k : Nat} {ps : List Str} {S : DSp}
theorem de_makeH (h : HasI X.prog X.w X.K X.mg X.base C x k ps S) (hr : Room (k + 1) X.A) (hg : Gl X x) (tk : L2N.Takes X W) (ha : DA X W (e :: es) fr) (hdb : (x == ("__debug__" : Str)) = false := by decide)
    (he : starEach (e :: es) X.env = (false, eval e X.env) :: starEach es X.env := by rfl) (hpl : (backTo pos (starEach es X.env)).any (·.1) = false := by rfl) : DE X W (.Call (.Name x p) (e :: es) [] pos) (dMake C S fr) := by
  obtain ⟨f, fd, h1, h2, h3, h4⟩ := h
  exact de_make h2 h4 hr hg h1 h3 tk ha hdb he hpl
theorem de_methH {pl : Sem Bool} (c : Cls X.K C) (h : HasM X.prog X.w X.K X.mg X.base C m k ps S) (hr : Room k X.A) (tk : L2N.Takes X W) (ho : DE X W o fo) (ha : DA X W (e :: es) fr)
    (hst : starEach (e :: es) X.env = (false, eval e X.env) :: starEach es X.env := by rfl) (hpl : (backTo pos (starEach es X.env)).any (·.1) = false := by rfl)
    (ht : eval (.Call (.Attribute o m apos) (e :: es) [] pos) X.env = (do let ov ← eval o X.env; standAt apos.atName; let (f, first) ← holding [ov] (getMethod ov m pl); callWith pos f first (backTo pos (starEach (e :: es) X.env)) (backToKw pos (keywordEach [] X.env))) := by rfl) :
    DE X W (.Call (.Attribute o m apos) (e :: es) [] pos) (dMethod C m S fo fr) := by
  obtain ⟨f, fd, h1, h2, h3⟩ := h
  exact de_meth c h1 h3 hr h2 tk ho ha hst hpl ht
theorem de_propH (c : Cls X.K C) (h : HasP X.prog X.w X.K X.mg X.base C m k ps S) (hr : Room (k + 1) X.A) (he : DE X W e fo) (hab : attributeBase e m X.env (eval e X.env) = eval e X.env := by rfl) : DE X W (.Attribute e m pos) (dProp C S fo) := by
  obtain ⟨pr, f, fd, h1, h2, h3⟩ := h
  exact de_prop c h1 h3 hr h2 he hab
theorem de_ownixH (h : HasX X.prog X.w X.K X.mg X.base C k ps S) (hr : Room (k + 1) X.A) (tk : L2N.Takes X W) (ho : DE X W o fo) (hi : DE X W i fi) (hsl : ∀ x j, subscripted i true (.ref x) j = runValue (.builtin "lifetime.subscript" ⟨[.ref x, j], []⟩) := by intros; with_unfolding_all rfl) : DE X W (.Subscript o i pos) (dOwnIx C S fo fi) := by
  obtain ⟨f, fd, h1, h2, h3, h4, h5⟩ := h
  exact de_ownix h1 h2 h3 h5 hr h4 tk ho hi hsl
end
end DV
/-! The oracle of the second kind: _law_start, _law_take. -/
namespace DV
open PySem PySem.Spec PyProof.Rows L2
def t_take : DTS := dSeq (dAsg (dBin gIx (dVar 0) (dC (.int 0))) (dName 2)) (dSeq (dAsg (dBin gAdd (dBin gIx (dVar 0) (dC (.int 2))) (dC (.int 1))) (dSetI (dVar 0) (dC (.int 2)))) (dSeq (dAsg (dBin gMod (dCall gInt (dCons (dBin gIx (dVar 0) (dC (.int 1))) dNil)) (dCall gMax2 (dCons (dC (.int 1)) (dCons (dCall gLen (dCons (dVar 2) dNil)) dNil)))) (dName 3)) (dSeq (dAsg (dC (.int 0)) (dName 4)) (dSeq (dIf (dTruth (dVar 2)) (dAsg (dBin gIx (dVar 2) (dVar 3)) (dName 4)) (dNext)) (dSeq (dIf (dTest (dBin (gI fun i j => .bl (decide (j ≤ i))) (dCall gAbs (dCons (dVar 4) dNil)) (dBin gPow (dC (.int 10)) (dC (.int 18))))) (dSeq (dAsg (dBin gFdiv (dCall gAbs (dCons (dVar 4) dNil)) (dVar 1)) (dSetI (dVar 2) (dVar 3))) (dRet (dBin gMod (dCall gAbs (dCons (dVar 4) dNil)) (dVar 1)))) (dNext)) (dSeq (dAsg (dBin gAdd (dBin gIx (dVar 0) (dC (.int 1))) (dC (.int 1))) (dSetI (dVar 0) (dC (.int 1)))) (dSeq (dAsg (dBin gMod (dBin gPow (dCall gInt (dCons (dBin gAdd (dBin gAdd (dBin gMul (dBin gMod (dCall gInt (dCons (dVar 4) dNil)) (dC (.int 2147483647))) (dC (.int 48271))) (dBin gMul (dBin gIx (dVar 0) (dC (.int 2))) (dC (.int 69621)))) (dC (.int 11))) dNil)) (dC (.int 5))) (dC (.int 2147483647))) (dName 5)) (dSeq (dAsg (dBin gMod (dBin gPow (dCall gInt (dCons (dBin gAdd (dBin gAdd (dBin gMul (dVar 5) (dC (.int 16807))) (dBin gMul (dBin gIx (dVar 0) (dC (.int 2))) (dC (.int 40692)))) (dC (.int 7))) dNil)) (dC (.int 5))) (dC (.int 2147483629))) (dName 5)) (dRet (dBin gMod (dBin gFdiv (dVar 5) (dC (.int 16))) (dVar 1)))))))))))
structure StB (μ : Mu) (l l0 : Nat) (j k : Int) (xs : List Int) : Prop where
  c : μ[l]? = some (.lst [.ref l0, .int j, .int k])
  c0 : μ[l0]? = some (.lst (xs.map .int))
  n0 : l ≠ l0
def S_takeE : DSp := fun ds μ Q _ => ∃ l l0 j k xs m, ds = [.ref l, .int m] ∧ StB μ l l0 j k xs ∧ 0 < m ∧ m.natAbs.log2 < 9000 ∧ 0 ≤ j ∧ 0 ≤ k ∧ k + 1 ≤ 1099511627776 ∧
  ∀ (d j' : Int) (xs' : List Int), 0 ≤ d → d < m → 0 ≤ j' → j' ≤ j + 1 → xs'.length = xs.length → Q (.int d) ((μ.set l (.lst [.ref l0, .int j', .int (k + 1)])).set l0 (.lst (xs'.map D.int)))
theorem ixN_nat {n : Nat} {i : Int} (h0 : 0 ≤ i) (h1 : i < n) : ixN n i = some i.toNat := by
  unfold ixN
  rw [if_pos h0, if_pos (by omega)]
section
variable {μ : Mu} {l l0 : Nat} {j k : Int} {xs : List Int}
theorem StB.ix0 (h : StB μ l l0 j k xs) (Q : D → Mu → Prop) : gIx (.ref l) (.int 0) μ Q = Q (.ref l0) μ := by
  unfold gIx; rw [lk_cell h.c]; rfl
theorem StB.ix1 (h : StB μ l l0 j k xs) (Q : D → Mu → Prop) : gIx (.ref l) (.int 1) μ Q = Q (.int j) μ := by
  unfold gIx; rw [lk_cell h.c]; rfl
theorem StB.ix2 (h : StB μ l l0 j k xs) (Q : D → Mu → Prop) : gIx (.ref l) (.int 2) μ Q = Q (.int k) μ := by
  unfold gIx; rw [lk_cell h.c]; rfl
theorem StB.put (h : StB μ l l0 j k xs) (j' k' : Int) : StB (μ.set l (.lst [.ref l0, .int j', .int k'])) l l0 j' k' xs :=
  ⟨by rw [List.getElem?_set_self (List.getElem?_eq_some_iff.mp h.c).1], by rw [List.getElem?_set_ne h.n0]; exact h.c0, h.n0⟩
theorem StB.set2 (h : StB μ l l0 j k xs) (Γ : Gam) (d : Int) (Q : Gam → Mu → Prop) (E : Exn → Mu → Prop) (fo fi : DTE) (ho : ∀ Q E, fo Γ μ Q E = Q (.ref l) μ) (hi : ∀ Q E, fi Γ μ Q E = Q (.int 2) μ) :
    dSetI fo fi (.int d) Γ μ Q E = Q Γ (μ.set l (.lst [.ref l0, .int j, .int d])) := by
  unfold dSetI; rw [ho, hi]; dsimp only; rw [h.c]; dsimp only; rw [ixN_nat (by decide) (by simp)]; rfl
theorem StB.set1 (h : StB μ l l0 j k xs) (Γ : Gam) (d : Int) (Q : Gam → Mu → Prop) (E : Exn → Mu → Prop) (fo fi : DTE) (ho : ∀ Q E, fo Γ μ Q E = Q (.ref l) μ) (hi : ∀ Q E, fi Γ μ Q E = Q (.int 1) μ) :
    dSetI fo fi (.int d) Γ μ Q E = Q Γ (μ.set l (.lst [.ref l0, .int d, .int k])) := by
  unfold dSetI; rw [ho, hi]; dsimp only; rw [h.c]; dsimp only; rw [ixN_nat (by decide) (by simp)]; rfl
theorem StB.self (h : StB μ l l0 j k xs) : μ.set l0 (.lst (xs.map D.int)) = μ := by
  obtain ⟨h1, h2⟩ := List.getElem?_eq_some_iff.mp h.c0
  rw [← h2, List.set_getElem_self]
end
theorem take_tail {m l : Nat} {k c : Int} {μ : Mu} {l0 : Nat} {j : Int} {xs : List Int} {De : DEnds} {a3 a5 a2 : Option D} {lim : Int} (h : StB μ l l0 j k xs) (hm : 0 < lim) (hk0 : 0 ≤ k) (hk1 : k ≤ 1099511627776)
    (q : ∀ d, 0 ≤ d → d < lim → De.rt (.int d) μ) :
    dSeq (dAsg (dBin gMod (dBin gPow (dCall gInt (dCons (dBin gAdd (dBin gAdd (dBin gMul (dBin gMod (dCall gInt (dCons (dVar 4) dNil)) (dC (.int 2147483647))) (dC (.int 48271))) (dBin gMul (dBin gIx (dVar 0) (dC (.int 2))) (dC (.int 69621)))) (dC (.int 11))) dNil)) (dC (.int 5))) (dC (.int 2147483647))) (dName 5)) (dSeq (dAsg (dBin gMod (dBin gPow (dCall gInt (dCons (dBin gAdd (dBin gAdd (dBin gMul (dVar 5) (dC (.int 16807))) (dBin gMul (dBin gIx (dVar 0) (dC (.int 2))) (dC (.int 40692)))) (dC (.int 7))) dNil)) (dC (.int 5))) (dC (.int 2147483629))) (dName 5)) (dRet (dBin gMod (dBin gFdiv (dVar 5) (dC (.int 16))) (dVar 1)))) De [some (.ref l), some (.int lim), a2, a3, some (.int c), a5] μ := by
  simp only [dSeq, dAsg, dBin, dCall, dCons, dNil, dVar, dC, List.getElem?_cons_zero, List.getElem?_cons_succ, gInt, gMod, gMul, lk, h.ix2, gAdd, gPow, dName, List.set_cons_succ, List.set_cons_zero]
  have bc := fmod_lt (d := c) (m := 2147483647) (by decide)
  generalize c.fmod 2147483647 = c' at bc ⊢
  refine ⟨by decide, .inr ⟨by decide, by decide⟩, .inr ⟨by decide, by decide⟩, pow_ok (by omega) (by omega), by decide, ?_⟩
  have bo := fmod_lt (d := (c' * 48271 + k * 69621 + 11) ^ (5 : Int).toNat) (m := 2147483647) (by decide)
  generalize ((c' * 48271 + k * 69621 + 11) ^ (5 : Int).toNat).fmod 2147483647 = c2 at bo ⊢
  refine ⟨.inr ⟨by decide, by decide⟩, .inr ⟨by decide, by decide⟩, pow_ok (by omega) (by omega), by decide, ?_⟩
  generalize ((c2 * 16807 + k * 40692 + 7) ^ (5 : Int).toNat).fmod 2147483629 = c3
  simp only [dRet, dBin, dVar, dC, List.getElem?_cons_zero, List.getElem?_cons_succ, gFdiv, gMod]
  exact ⟨⟨by decide, by decide⟩, by omega, q _ (fmod_lt hm).1 (fmod_lt hm).2⟩
theorem rd_takeE {n1 n2 n3 n4 n5 n6 : Str} : ∀ ds μ Q E, S_takeE ds μ Q E → t_take (dFn μ Q E) (start0 [n1, n2, n3, n4, n5, n6] ds) μ := by
  rintro _ μ Q E ⟨l, l0, j, k, xs, m, rfl, h, hm, hm2, hj, hk0, hk1, q⟩
  have hlt : l < μ.length := (List.getElem?_eq_some_iff.mp h.c).1
  have hlt0 : l0 < μ.length := (List.getElem?_eq_some_iff.mp h.c0).1
  unfold t_take
  simp only [dSeq, dAsg, dBin, dVar, dC, start0, List.map_cons, List.map_nil, List.length_cons, List.length_nil, List.replicate, List.cons_append, List.nil_append, List.getElem?_cons_zero, List.getElem?_cons_succ, h.ix0, h.ix2, dName, List.set_cons_succ, List.set_cons_zero, gAdd, lk]
  rw [h.set2 _ _ _ _ _ _ (fun _ _ => rfl) (fun _ _ => rfl)]
  have h1 := h.put j (k + 1)
  have hmx : (if ((xs.map D.int).length : Int) > 1 then ((xs.map D.int).length : Int) else 1) ≠ 0 := by split <;> omega
  simp only [dSeq, dAsg, dBin, dVar, dC, dCall, dCons, dNil, List.getElem?_cons_zero, List.getElem?_cons_succ, h1.ix1, gInt, gLen, lk_cell h1.c0, gMax2, gMod, dName, List.set_cons_succ, List.set_cons_zero]
  refine ⟨hmx, ?_⟩
  have bat := fmod_lt (d := j) (m := (if ((xs.map D.int).length : Int) > 1 then ((xs.map D.int).length : Int) else 1)) (by split <;> omega)
  generalize hat : j.fmod (if ((xs.map D.int).length : Int) > 1 then ((xs.map D.int).length : Int) else 1) = at_ at bat ⊢
  -- the cell
  have rest : ∀ (c : Int), (xs ≠ [] ∨ c = 0) → dSeq (dIf (dTest (dBin (gI fun i j => .bl (decide (j ≤ i))) (dCall gAbs (dCons (dVar 4) dNil)) (dBin gPow (dC (.int 10)) (dC (.int 18))))) (dSeq (dAsg (dBin gFdiv (dCall gAbs (dCons (dVar 4) dNil)) (dVar 1)) (dSetI (dVar 2) (dVar 3))) (dRet (dBin gMod (dCall gAbs (dCons (dVar 4) dNil)) (dVar 1)))) (dNext)) (dSeq (dAsg (dBin gAdd (dBin gIx (dVar 0) (dC (.int 1))) (dC (.int 1))) (dSetI (dVar 0) (dC (.int 1)))) (dSeq (dAsg (dBin gMod (dBin gPow (dCall gInt (dCons (dBin gAdd (dBin gAdd (dBin gMul (dBin gMod (dCall gInt (dCons (dVar 4) dNil)) (dC (.int 2147483647))) (dC (.int 48271))) (dBin gMul (dBin gIx (dVar 0) (dC (.int 2))) (dC (.int 69621)))) (dC (.int 11))) dNil)) (dC (.int 5))) (dC (.int 2147483647))) (dName 5)) (dSeq (dAsg (dBin gMod (dBin gPow (dCall gInt (dCons (dBin gAdd (dBin gAdd (dBin gMul (dVar 5) (dC (.int 16807))) (dBin gMul (dBin gIx (dVar 0) (dC (.int 2))) (dC (.int 40692)))) (dC (.int 7))) dNil)) (dC (.int 5))) (dC (.int 2147483629))) (dName 5)) (dRet (dBin gMod (dBin gFdiv (dVar 5) (dC (.int 16))) (dVar 1)))))) (dFn μ Q E) [some (.ref l), some (.int m), some (.ref l0), some (.int at_), some (.int c), none] (μ.set l (.lst [.ref l0, .int j, .int (k + 1)])) := by
    intro c hc
    rw [dSeq]
    simp only [dIf, dTest, dBin, dCall, dCons, dNil, dVar, dC, List.getElem?_cons_zero, List.getElem?_cons_succ, gAbs, gPow, gI]
    refine ⟨by decide, ?_⟩
    cases hb : decide ((10 : Int) ^ (18 : Int).toNat ≤ if c < 0 then -c else c) with
    | true =>
      have hne : xs ≠ [] := by
        rcases hc with hc | hc
        · exact hc
        · subst hc; exact absurd hb (by decide)
      have hl : (if ((xs.map D.int).length : Int) > 1 then ((xs.map D.int).length : Int) else 1) = (xs.length : Int) := by
        have := List.length_pos_iff.mpr hne
        simp only [List.length_map]
        split <;> omega
      rw [hl] at bat
      simp only [cond_true, dSeq, dAsg, dBin, dCall, dCons, dNil, dVar, dC, List.getElem?_cons_zero, List.getElem?_cons_succ, gAbs, gFdiv, dSetI, h1.c0, dRet, gMod]
      rw [ixN_nat bat.1 (by simpa using bat.2)]
      refine ⟨⟨hm, hm2⟩, by omega, FnEnd.here ?_⟩
      have := q ((if c < 0 then -c else c).fmod m) j (xs.set at_.toNat ((if c < 0 then -c else c) / m)) (fmod_lt hm).1 (fmod_lt hm).2 hj (by omega) (by simp)
      rw [List.map_set] at this
      exact this
    | false =>
      simp only [cond_false, dNext]
      rw [dSeq]
      simp only [dAsg, dBin, dVar, dC, List.getElem?_cons_zero, List.getElem?_cons_succ, h1.ix1, gAdd, lk]
      rw [h1.set1 _ _ _ _ _ _ (fun _ _ => rfl) (fun _ _ => rfl), List.set_set]
      have h2 := h.put (j + 1) (k + 1)
      refine take_tail (m := 0) h2 hm (by omega) hk1 fun d d0 d1 => FnEnd.here ?_
      have := q d (j + 1) xs d0 d1 (by omega) (by omega) rfl
      rw [h2.self] at this
      exact this
  cases xs with
  | nil =>
    simp only [dIf, dTruth, dVar, List.getElem?_cons_zero, List.getElem?_cons_succ, lk_cell h1.c0, truD, List.map_nil, List.isEmpty_nil, Bool.not_true, cond_false, dNext]
    exact rest 0 (.inr rfl)
  | cons x xs =>
    have hl : (if (((x :: xs).map D.int).length : Int) > 1 then (((x :: xs).map D.int).length : Int) else 1) = ((x :: xs).length : Int) := by
      simp only [List.length_map, List.length_cons]
      split <;> omega
    rw [hl] at bat
    have hi : at_.toNat < (x :: xs).length := by omega
    have e1 : atI ((x :: xs).map D.int) at_ = some (D.int (x :: xs)[at_.toNat]) := atI_nat' bat.1 (by rw [List.getElem?_map, List.getElem?_eq_getElem hi]; rfl)
    simp only [dIf, dTruth, dVar, List.getElem?_cons_zero, List.getElem?_cons_succ, lk_cell h1.c0, truD, List.map_cons, List.isEmpty_cons, Bool.not_false, cond_true, dAsg, dBin, dName, List.set_cons_succ, List.set_cons_zero, gIx]
    rw [List.map_cons] at e1
    rw [e1]
    exact rest _ (.inl (by simp))
/-- a draw, as the law's defs see it: any number below the limit; the oracle has one draw less -/
def S_take : DSp := fun ds μ Q _ => ∃ l n m, ds = [.ref l, .int m] ∧ μ[l]? = some (.orc (n + 1, false)) ∧ 0 < m ∧ m.natAbs.log2 < 9000 ∧ ∀ d, 0 ≤ d → d < m → Q (.int d) (μ.set l (.orc (n, false)))
theorem reps_ref1 {K : PySem.W.Frag} {Hb : Hp} {al : List Addr} {vs : List V} {i : Nat} {j k : Int} (r : Reps K Hb al vs [.ref i, .int j, .int k]) : ∃ a, vs = [.ref a, .int j, .int k] ∧ al[i]? = some a := by
  cases r with
  | cons h1 r =>
    cases r with
    | cons h2 r =>
      cases r with
      | cons h3 r =>
        cases r
        cases h1; cases h2; cases h3
        exact ⟨_, rfl, by assumption⟩
theorem get_app1_lt {α : Type} {l : List α} {x z : α} {i : Nat} (h : (l ++ [x])[i]? = some z) : (i < l.length ∧ l[i]? = some z) ∨ (i = l.length ∧ z = x) := by
  by_cases hi : i < l.length
  · rw [List.getElem?_append_left hi] at h; exact .inl ⟨hi, h⟩
  · have hl := (List.getElem?_eq_some_iff.mp h).1
    simp at hl
    have h2 : i = l.length := by omega
    subst h2; simp at h; exact .inr ⟨rfl, h.symm⟩
theorem take_orc {K : PySem.W.Frag} (vs : List V) (H : Hp) (Q : VK) (E : XK) (h : spOf K S_take vs H Q E) : spOf K S_takeE vs H Q E := by
  obtain ⟨n, ds, μ, Qd, Ed, hH, sr, rp, ⟨l, c, m, rfl, hl, hm, hm2, q⟩, hq, hx⟩ := h
  subst hH
  have hll : l < n.al.length := by rw [sr.len]; exact (List.getElem?_eq_some_iff.mp hl).1
  obtain ⟨a, ha⟩ : ∃ a, n.al[l]? = some a := ⟨n.al[l], List.getElem?_eq_getElem hll⟩
  obtain ⟨hba, oa⟩ := sr.cell l a _ ha hl
  obtain ⟨a0, xs, y, k, hbb, e2, e3, e4, e5, e6⟩ := oa
  have e6' := e6.resolve_left (fun z => by cases z.1)
  obtain ⟨_, j, rfl, f2, f3, f4⟩ := e6'
  have p0 := sr.phb a0 (by rw [f2]; simp)
  have na0 : a ≠ a0 := fun z => p0.2.1 (z ▸ List.mem_of_getElem? ha)
  have noc : ∀ (i : Nat) c', μ[i]? = some c' → i ≠ l → ∀ k, c' ≠ .orc k := fun i c' h1 h2 k z => by
    subst z; exact h2 (sr.orc1 i l k _ h1 hl)
  have hpre : n.al <+: n.al ++ [a0] := List.prefix_append _ _
  have lenL : n.al.length = μ.length := sr.len
  have hl' : l < μ.length := (List.getElem?_eq_some_iff.mp hl).1
  let μE : Mu := (μ.set l (.lst [.ref μ.length, .int j, .int k])) ++ [.lst (xs.map .int)]
  let nE : Now := ⟨n.Hb, n.H, n.al ++ [a0], []⟩
  have gE : ∀ {i : Nat} {z : Addr}, (n.al ++ [a0])[i]? = some z → (i < μ.length ∧ n.al[i]? = some z) ∨ (i = μ.length ∧ z = a0) := fun h => by
    have := get_app1_lt h; rw [lenL] at this; exact this
  have lE : (μ.set l (.lst [.ref μ.length, .int j, .int k])).length = μ.length := List.length_set
  have gE2 : μE[μ.length]? = some (.lst (xs.map .int)) := by
    show ((μ.set l (.lst [.ref μ.length, .int j, .int k])) ++ [Cell.lst (xs.map D.int)])[μ.length]? = _
    rw [List.getElem?_append_right (by rw [lE]; exact Nat.le_refl _), lE]; simp
  have gE1 : ∀ i, i < μ.length → μE[i]? = (μ.set l (.lst [.ref μ.length, .int j, .int k]))[i]? := fun i hi => List.getElem?_append_left (by rw [lE]; exact hi)
  have srE : SR0 K nE μE := by
    refine ⟨sr.same, by show (n.al ++ [a0]).length = _; simp [μE, lenL], ?_, fun i z c' h1 h2 => ?_, fun z hz => ?_, fun i j x y h1 h2 => ?_, fun b hb => by cases hb⟩
    · show (n.al ++ [a0]).Nodup
      rw [List.nodup_append]
      exact ⟨sr.nd, by simp, fun z hz u hu e => by rw [List.mem_singleton.mp hu] at e; exact p0.2.1 (e ▸ hz)⟩
    · rcases gE h1 with ⟨hi, h1⟩ | ⟨rfl, rfl⟩
      · rw [gE1 i hi] at h2
        by_cases e : i = l
        · subst e
          rw [ha] at h1; cases h1
          rw [List.getElem?_set_self hi] at h2; cases h2
          refine ⟨hba, _, hbb, .cons (.ref ?_) (.cons (.int _) (.cons (.int _) .nil))⟩
          show (n.al ++ [a0])[μ.length]? = _
          rw [← lenL]; simp
        · rw [List.getElem?_set_ne (Ne.symm e)] at h2
          exact (sr.cell i z c' h1 h2).sub (n' := nE) (noc i c' h2 e) rfl (fun x => x) (Same.refl _) hpre
      · rw [gE2] at h2; cases h2
        exact ⟨p0.1, _, e2, reps_ints xs⟩
    · rcases List.mem_append.mp hz with hz | hz
      · exact sr.alh z hz
      · rw [List.mem_singleton.mp hz]; exact p0.2.2
    · exfalso
      rcases get_app1_lt h1 with ⟨hi, h1⟩ | ⟨_, z⟩
      · by_cases e : i = l
        · subst e
          rw [List.getElem?_set_self (by rw [lE] at hi; exact hi)] at h1; cases h1
        · rw [List.getElem?_set_ne (Ne.symm e)] at h1
          exact noc i _ h1 e x rfl
      · cases z
  have stE : StB μE l μ.length j k xs := ⟨by rw [gE1 l hl', List.getElem?_set_self hl'], gE2, by omega⟩
  have lenE : μE.length = μ.length + 1 := by simp [μE]
  refine ⟨nE, _, μE, fun d μ' => ∃ i j' xs', d = .int i ∧ 0 ≤ i ∧ i < m ∧ 0 ≤ j' ∧ j' ≤ j + 1 ∧ xs'.length = xs.length ∧ μ' = (μE.set l (.lst [.ref μ.length, .int j', .int (k + 1)])).set μ.length (.lst (xs'.map D.int)), fun _ _ => False, rfl, srE, rp.mono (Same.refl _) hpre,
    ⟨l, μ.length, j, k, xs, m, rfl, stE, hm, hm2, f3, e4, by have : k + ((c + 1 : Nat) : Int) ≤ 1099511627776 := e5; omega, fun d j' xs' a1 a2 a3 a4 a5 => ⟨d, j', xs', rfl, a1, a2, a3, a4, a5, rfl⟩⟩, ?_, ?_⟩
  · rintro n' v d μ' s' r' rv ⟨i, j', xs', rfl, i0, i1, j0, j1, hx', rfl⟩
    cases rv
    have hal : n.al <+: n'.al := hpre.trans s'.pre
    have alE : n'.al = n.al ++ [a0] := by
      have h1 := s'.pre
      have h2 := r'.len
      rw [List.length_set, List.length_set, lenE] at h2
      exact (h1.eq_of_length (by show (n.al ++ [a0]).length = _; rw [h2]; simp [lenL])).symm
    have gl : ((μE.set l (.lst [.ref μ.length, .int j', .int (k + 1)])).set μ.length (.lst (xs'.map D.int)))[l]? = some (.lst [.ref μ.length, .int j', .int (k + 1)]) := by
      rw [List.getElem?_set_ne (by omega), List.getElem?_set_self (by rw [lenE]; omega)]
    have g0 : ((μE.set l (.lst [.ref μ.length, .int j', .int (k + 1)])).set μ.length (.lst (xs'.map D.int)))[μ.length]? = some (.lst (xs'.map D.int)) := by
      rw [List.getElem?_set_self (by rw [List.length_set, lenE]; omega)]
    have a0at : n'.al[μ.length]? = some a0 := by rw [alE, ← lenL]; simp
    obtain ⟨hbl, us, u1, u2⟩ := r'.cell l a _ (pre_get hal ha) gl
    obtain ⟨a0', rfl, w0⟩ := reps_ref1 u2
    rw [a0at] at w0; cases w0
    obtain ⟨hb0, us0, v0, v1⟩ := r'.cell μ.length a0 _ a0at g0
    have stp : Step n ⟨n'.Hb, n'.H, n.al, [a0]⟩ := by
      refine ⟨s'.same, List.prefix_refl _, fun b o e => ?_, fun b h => .inl h, fun b hb => .inl (by rw [f2]; exact hb), fun b o e h0 h1 h2 => s'.keep b o e h0 (fun z => ?_) (fun z => by cases z), s'.dom, s'.fixd⟩
      · rcases s'.newb b o e with z | z | z | ⟨vs, rfl, z | z⟩
        · exact .inl z
        · exact .inr (.inl z)
        rotate_left
        · exact .inr (.inr (.inr ⟨vs, rfl, .inl z⟩))
        · cases z
        · rcases List.mem_append.mp z with z | z
          · exact .inr (.inr (.inl z))
          · rw [List.mem_singleton.mp z] at e
            have e : n'.Hb a0 = some o := e
            rw [hb0] at e; cases e
      · rcases List.mem_append.mp z with z | z
        · exact h1 z
        · rw [f2] at h2; exact h2 z
    refine hq ⟨n'.Hb, n'.H, n.al, [a0]⟩ _ (.int i) (μ.set l (.orc (c, false))) stp ?_ (.int i) (q i i0 i1)
    refine ⟨r'.same, by rw [List.length_set]; exact lenL, sr.nd, fun i' z c' h1 h2 => ?_, fun z hz => r'.alh z (hal.subset hz), fun i' j x y h1 h2 => ?_, fun b hb => ?_⟩
    · have h1 : n.al[i']? = some z := h1
      by_cases e : i' = l
      · subst e
        rw [ha] at h1; cases h1
        rw [List.getElem?_set_self hl'] at h2; cases h2
        have ex := Reps.ints xs' v1
        subst ex
        exact ⟨hbl, a0, xs', _, k + 1, u1, v0, by omega, by omega, by show k + 1 + (c : Int) ≤ _; have : k + ((c + 1 : Nat) : Int) ≤ 1099511627776 := e5; omega, .inr ⟨rfl, j', rfl, rfl, j0, by show j' + (c : Int) ≤ _; have : j + ((c + 1 : Nat) : Int) ≤ 1099511627776 := f4; omega⟩⟩
      · rw [List.getElem?_set_ne (Ne.symm e)] at h2
        have hj : i' < μ.length := (List.getElem?_eq_some_iff.mp h2).1
        have h2' : ((μE.set l (.lst [.ref μ.length, .int j', .int (k + 1)])).set μ.length (.lst (xs'.map D.int)))[i']? = some c' := by
          rw [List.getElem?_set_ne (by omega), List.getElem?_set_ne (Ne.symm e), gE1 i' hj, List.getElem?_set_ne (Ne.symm e)]; exact h2
        exact (sr.cell i' z c' h1 h2).back (r'.cell i' z c' (pre_get hal h1) h2') (noc i' c' h2 e) hal
    · have qq : ∀ (i : Nat) x, (μ.set l (.orc (c, false)))[i]? = some (.orc x) → i = l := fun i x e => by
        by_cases e' : i = l
        · exact e'
        · rw [List.getElem?_set_ne (Ne.symm e')] at e
          exact absurd rfl (noc i _ e e' x)
      rw [qq i' x h1, qq j y h2]
    · rw [List.mem_singleton.mp hb]
      exact ⟨hb0, p0.2.1, by show n'.H _ ≠ none; rw [v0]; simp⟩
  · exact fun n' cls dd x μ' s' r' ex q' => q'.elim
/-! the start -/
def t_start2 : DTS := dRet (dCall gLstM (dCons (dComp false [1] (dIter (dVar 0)) (cName 1) (dYes) (dCall gInt (dCons (dVar 1) dNil))) (dCons (dC (.int 0)) (dCons (dC (.int 0)) (dNil)))))
def S_start2E : DSp := fun ds μ Q _ => ∃ ns : List Int, ds = [.scr ns] ∧ ns.length ≤ 63 ∧ ∀ xs : List Int, xs.length ≤ 100 → Q (.ref (μ.length + 1)) (μ ++ [.lst (xs.map .int), .lst [.ref μ.length, .int 0, .int 0]])
theorem compStart2 {Γ : Gam} {μ : Mu} {Q : List D → Mu → Prop} (hg : 1 < Γ.length) : ∀ (ns acc : List Int), acc.length + ns.length ≤ 100 → Q ((acc ++ ns).map .int) μ →
    dCompL none (cName 1) dYes (dCall gInt (dCons (dVar 1) dNil)) Γ (ns.map .int) (acc.map .int) μ Q
  | [], acc, h1, q => ⟨trivial, by simpa using q⟩
  | n :: ns, acc, h1, q => by
    rw [List.length_cons] at h1
    have g1 : (Γ.set 1 (some (D.int n)))[1]? = some (some (.int n)) := List.getElem?_set_self hg
    refine ⟨trivial, ?_⟩
    simp only [cName, dYes, dCall, dCons, dNil, dVar, g1, gInt, cond_true]
    refine ⟨by rw [List.length_map, sizeLine_eq]; omega, ?_⟩
    have e : acc.map D.int ++ [D.int n] = (acc ++ [n]).map D.int := by simp
    rw [e]
    exact compStart2 hg ns _ (by simp; omega) (by simpa using q)
theorem rd_start2E {n1 n2 : Str} : ∀ ds μ Q E, S_start2E ds μ Q E → t_start2 (dFn μ Q E) (start0 [n1, n2] ds) μ := by
  rintro _ μ Q E ⟨ns, rfl, hn, q⟩
  simp only [t_start2, dRet, dCall, dCons, dComp, dIter, dVar, start0, List.map_cons, List.map_nil, List.length_cons, List.length_nil, List.replicate, List.cons_append, List.nil_append, List.getElem?_cons_zero]
  refine compStart2 (by simp [wipeG]) ns [] (by simp; omega) ?_
  simp only [dFin, dC, dNil, gLstM, List.nil_append]
  refine ⟨by show 3 ≤ sizeLine; rw [sizeLine_eq]; decide, FnEnd.here ?_⟩
  have := q ns (by omega)
  simpa using this
def S_start2 : DSp := fun ds μ Q _ => ∃ ns : List Int, ds = [.scr ns] ∧ ns.length ≤ 63 ∧ (∀ (i : Nat) k, μ[i]? ≠ some (.orc k)) ∧ Q (.ref μ.length) (μ ++ [.orc (1099511627776, false)])
theorem start2_orc {K : PySem.W.Frag} (vs : List V) (H : Hp) (Q : VK) (E : XK) (h : spOf K S_start2 vs H Q E) : spOf K S_start2E vs H Q E := by
  obtain ⟨n, ds, μ, Qd, Ed, hH, sr, rp, ⟨ns, rfl, hn, hno, q⟩, hq, hx⟩ := h
  subst hH
  refine ⟨n, _, μ, fun d μ' => ∃ xs : List Int, d = .ref (μ.length + 1) ∧ μ' = μ ++ [.lst (xs.map .int), .lst [.ref μ.length, .int 0, .int 0]] ∧ xs.length ≤ 100, fun _ _ => False, rfl, sr, rp,
    ⟨ns, rfl, hn, fun xs a1 => ⟨xs, rfl, rfl, a1⟩⟩, ?_, fun _ _ _ _ _ _ _ _ z => z.elim⟩
  rintro n' v d μ' s' r' rv ⟨xs, rfl, rfl, hx1⟩
  have g : ∀ j c, [Cell.lst (xs.map D.int), Cell.lst [D.ref μ.length, D.int 0, D.int 0]][j]? = some c → (μ ++ [Cell.lst (xs.map D.int), Cell.lst [D.ref μ.length, D.int 0, D.int 0]])[μ.length + j]? = some c := fun j c h => by
    rw [List.getElem?_append_right (by omega)]; simpa using h
  cases rv with
  | @ref _ a ha =>
    obtain ⟨hb, us, u1, u2⟩ := r'.cell _ a _ ha (g 1 _ rfl)
    obtain ⟨a0, rfl, w0⟩ := reps_ref1 u2
    obtain ⟨hb0, us0, v0, v1⟩ := r'.cell _ a0 _ w0 (g 0 _ rfl)
    have e0 := Reps.ints xs v1
    subst e0
    have lenL := sr.len
    have nin : ∀ (j : Nat) (z : Addr), μ.length ≤ j → n'.al[j]? = some z → z ∉ n.al := fun j z hj e hz => by
      obtain ⟨i', hi', ei⟩ := List.getElem_of_mem hz
      have e1 : n.al[i']? = some z := by rw [List.getElem?_eq_getElem hi', ei]
      have := nodup_get r'.nd (pre_get s'.pre e1) e
      omega
    have new : ∀ (j : Nat) (z : Addr), μ.length ≤ j → n'.al[j]? = some z → n.H z = none := fun j z hj e => by
      rcases s'.newa z (List.mem_of_getElem? e) with y | y
      · exact absurd y (nin j z hj e)
      · exact y
    have hna : a ∉ n.al := nin _ a (by omega) ha
    have gget : ∀ {i : Nat} {z : Addr}, (n.al ++ [a])[i]? = some z → (i < μ.length ∧ n.al[i]? = some z) ∨ (i = μ.length ∧ z = a) := fun {i z} h => by
      have := get_app1_lt h; rw [lenL] at this; exact this
    refine hq ⟨n'.Hb, n'.H, n.al ++ [a], [a0]⟩ _ (.ref μ.length) (μ ++ [.orc (1099511627776, false)]) ⟨s'.same, List.prefix_append _ _, s'.newb, fun b hb => ?_, fun b hb => ?_, fun b o e h0 h1 h2 => s'.keep b o e h0 h1 h2, s'.dom, s'.fixd⟩ ?_ (.ref ?_) q
    · rcases List.mem_append.mp hb with z | z
      · exact .inl z
      · rw [List.mem_singleton.mp z]; exact .inr (new _ a (by omega) ha)
    · rw [List.mem_singleton.mp hb]
      exact .inr (new _ _ (Nat.le_refl _) w0)
    · refine ⟨r'.same, by simp [lenL], ?_, fun i z c h1 h2 => ?_, fun z hz => ?_, fun i j x y h1 h2 => ?_, fun b hb => ?_⟩
      · show (n.al ++ [a]).Nodup
        rw [List.nodup_append]
        exact ⟨sr.nd, by simp, fun b hb c hc z => by rw [List.mem_singleton.mp hc] at z; exact hna (z ▸ hb)⟩
      · rcases gget h1 with ⟨hi, h1⟩ | ⟨rfl, rfl⟩
        · have h2' : μ[i]? = some c := by rw [← h2, List.getElem?_append_left hi]
          have h2'' : (μ ++ [Cell.lst (xs.map D.int), Cell.lst [D.ref μ.length, D.int 0, D.int 0]])[i]? = some c := by rw [List.getElem?_append_left hi]; exact h2'
          have nc : ∀ k, c ≠ .orc k := fun k z => hno i k (z ▸ h2')
          exact ((sr.cell i z c h1 h2').back (ph := [a0]) (r'.cell i z c (pre_get s'.pre h1) h2'') nc s'.pre).sub (n' := ⟨n'.Hb, n'.H, n.al ++ [a], [a0]⟩) nc rfl (fun x => x) (Same.refl _) (List.prefix_append _ _)
        · rw [List.getElem?_append_right (Nat.le_refl _)] at h2
          simp at h2
          subst h2
          exact ⟨hb, a0, xs, _, 0, u1, v0, hx1, by decide, by show (0 : Int) + _ ≤ _; decide, .inr ⟨rfl, 0, rfl, rfl, by decide, by show (0 : Int) + _ ≤ _; decide⟩⟩
      · rcases List.mem_append.mp hz with y | y
        · exact r'.alh z (s'.pre.subset y)
        · rw [List.mem_singleton.mp y]; exact r'.alh a (List.mem_of_getElem? ha)
      · have qq : ∀ (i : Nat) x, (μ ++ [Cell.orc (1099511627776, false)])[i]? = some (.orc x) → i = μ.length := fun i x e => by
          rcases get_app1_lt e with ⟨hi, e⟩ | ⟨hi, _⟩
          · exact absurd e (hno i x)
          · exact hi
        rw [qq i x h1, qq j y h2]
      · rw [List.mem_singleton.mp hb]
        refine ⟨hb0, fun hz => ?_, by show n'.H _ ≠ none; rw [v0]; simp⟩
        rcases List.mem_append.mp hz with y | y
        · exact nin _ _ (Nat.le_refl _) w0 y
        · rw [List.mem_singleton.mp y] at w0
          have := nodup_get r'.nd w0 ha
          omega
    · show (n.al ++ [a])[μ.length]? = _
      rw [← lenL]; simp
end DV
/-! The head by facts: defs of the top, methods, getters of properties; the end of a law over it. -/
namespace DV
open PySem PySem.Spec PyProof.Rows L2
inductive At where
  | glo (x : Str) | meth (C m : Str) | prop (C f : Str) | ali (x y : Str)
def propA (K : PySem.W.Frag) (C : Addr) (f : Str) : Addr := match PySem.W.findIn K (.ref C) f with
  | some (some (.ref p)) => p
  | _ => 0
def getA (K : PySem.W.Frag) (p : Addr) : Addr := match PySem.W.recIn K p "property" with
  | some (.ref g :: _) => g
  | _ => (match PySem.W.recIn K p "classmethod" with
    | some (.ref g :: _) => g
    | _ => 0)
def At.ad (K : PySem.W.Frag) : At → Addr
  | .glo x => He.ga K x
  | .meth C m => He.ma K (He.ga K C) m
  | .prop C f => getA K (propA K (He.ga K C) f)
  | .ali x _ => He.ga K x
def At.name : At → Str
  | .glo x => x
  | .meth _ m => m
  | .prop _ f => f
  | .ali _ y => y
/-- a def: where it stands, its qualified name, its statement -/
structure DefA where
  at_ : At
  qual : Str
  st : Stmt
def DefA.obs (K : PySem.W.Frag) (d : DefA) : He.FnV := match K.lookup (d.at_.ad K) with
  | some ⟨_, _, .func fd, _⟩ => some (fd.name, fd.qualname, fd.params, fd.body, fd.scope, fd.globals, fd.closure, fd.defaults, fd.builtins)
  | _ => none
def DefA.val (d : DefA) : He.FnV := some (d.at_.name, d.qual, defArgs d.st, .stmts (defBody d.st), defScope d.st, mainGlobals, [], .none, builtinsNs)
def DefA.ok (K : PySem.W.Frag) (d : DefA) : Bool := PySem.W.keepIn K (.ref (d.at_.ad K)) && (match K.lookup (d.at_.ad K) with
  | some ⟨_, _, .func fd, _⟩ => PySem.W.codeIn K fd.code d.qual
  | _ => false)
theorem DefA.fun_ {K : PySem.W.Frag} {d : DefA} (e : d.obs K = d.val) (c : d.ok K = true) : ∃ fd, Fun K d.at_.name d.qual d.st (d.at_.ad K) fd := by
  obtain ⟨kp, c2⟩ := He.ba c
  unfold DefA.obs at e
  cases q : K.lookup (d.at_.ad K) with
  | none =>
    rw [q] at c2
    cases c2
  | some o =>
    obtain ⟨oc, od, dt, osl⟩ := o
    rw [q] at c2 e
    cases dt with
    | func fd =>
      obtain ⟨n1, n2, n3, n4, n5, n6, n7, n8, n9, n10, n11, n12, n13, n14, n15⟩ := fd
      have e2 : (some (n1, n2, n3, n4, n5, n6, n7, n8, n15) : He.FnV) = some (d.at_.name, d.qual, defArgs d.st, .stmts (defBody d.st), defScope d.st, mainGlobals, [], .none, builtinsNs) := e
      simp only [Option.some.injEq, Prod.mk.injEq] at e2
      obtain ⟨h1, h2, h3, h4, h5, h6, h7, h8, h9⟩ := e2
      subst h1 h2 h3 h4 h5 h6 h7 h8 h9
      exact ⟨_, fun_mk q c2 kp⟩
    | _ => cases c2
def propB (C f : Str) (K : PySem.W.Frag) : Bool := He.eqO (PySem.W.findIn K (.ref (He.ga K C)) f) (some (some (.ref (propA K (He.ga K C) f)))) && (He.eqO (PySem.W.specialIn K (.ref (propA K (He.ga K C) f)) "__get__") (some (some (.builtin "property.__get__"))) &&
  (decide (PySem.W.takesIn K (.ref (propA K (He.ga K C) f)) = some true) && (match PySem.W.recIn K (propA K (He.ga K C) f) "property" with
    | some (.ref _ :: _) => true
    | _ => false)))
theorem propB_ok {C f : Str} {K : PySem.W.Frag} (h : propB C f K = true) : PropOf K (He.ga K C) f (propA K (He.ga K C) f) ((At.prop C f).ad K) := by
  obtain ⟨h1, h⟩ := He.ba h
  obtain ⟨h2, h⟩ := He.ba h
  obtain ⟨h3, h4⟩ := He.ba h
  refine ⟨He.eqO_ok h1, He.eqO_ok h2, of_decide_eq_true h3, ?_⟩
  show ∃ rest, PySem.W.recIn K (propA K (He.ga K C) f) "property" = some (.ref (getA K (propA K (He.ga K C) f)) :: rest)
  unfold getA
  split at h4
  · rename_i g rest e
    rw [e]
    exact ⟨rest, rfl⟩
  · cases h4
def fnB (C m : Str) (K : PySem.W.Frag) : Bool := PySem.W.fnIn K (He.ma K (He.ga K C) m)
/-- what is looked at: the globals named, their codes, the classes' dicts and bases, the methods and getters named, and their codes -/
def refsS (o : Obj) : List Addr := match o.data with
  | .func fd => He.refV fd.code
  | .cls cd => cd.ns :: cd.mro.flatMap He.refV
  | _ => []
def behind (g : Addr → Option Obj) (as : List Addr) : List Addr := as.flatMap fun a => match g a with
  | some o => refsS o
  | none => []
/-- forced: each address a numeral -/
def forced : List Addr → (List Addr → List Addr) → List Addr
  | [], k => k []
  | 0 :: r, k => forced r fun r => k (0 :: r)
  | (n + 1) :: r, k => forced r fun r => k ((n + 1) :: r)
structure Names where
  gl : List Str
  me : List (Str × Str)
  pr : List (Str × Str)
def asS (N : Names) (g : Addr → Option Obj) : List Addr :=
  forced (N.gl.map (He.ga (He.frG g [mainGlobals]))) fun a1 => forced (behind g a1) fun a2 =>
  forced (N.me.map fun p => He.ma (He.frG g (mainGlobals :: (a1 ++ a2))) (He.ga (He.frG g [mainGlobals]) p.1) p.2) fun a3 =>
  forced (N.pr.map fun p => propA (He.frG g (mainGlobals :: (a1 ++ a2))) (He.ga (He.frG g [mainGlobals]) p.1) p.2) fun a4 =>
  forced (a4.map fun p => getA (He.frG g [p]) p) fun a5 => forced (behind g (a3 ++ a5)) fun a6 => mainGlobals :: cStatics :: (a1 ++ (a2 ++ (a3 ++ (a4 ++ (a5 ++ a6)))))
abbrev AlA : Type := Bool × List He.FnV
def obsA (fa : List He.Fa) (ex : List (PySem.W.Frag → Bool)) (fn : List DefA) (K : PySem.W.Frag) : AlA := ((fa.all fun f => f.ok K) && ((ex.all fun f => f K) && fn.all fun d => d.ok K), fn.map fun d => d.obs K)
def valA (fn : List DefA) : AlA := (true, fn.map DefA.val)
def SaysA (fa : List He.Fa) (ex : List (PySem.W.Frag → Bool)) (fn : List DefA) (K : PySem.W.Frag) : Prop := obsA fa ex fn K = valA fn
def obsAG (n : Names) (fa : List He.Fa) (ex : List (PySem.W.Frag → Bool)) (fn : List DefA) (g : Addr → Option Obj) : AlA := obsA fa ex fn (He.frG g (asS n g))
def hookA (n : Names) (fa : List He.Fa) (ex : List (PySem.W.Frag → Bool)) (fn : List DefA) : PySem.W.Hook where
  α := AlA
  obs := fun s => obsAG n fa ex fn s.heap.get?
  val := fun _ => valA fn
  says := fun _ h => ∃ K : PySem.W.Frag, K.In h ∧ SaysA fa ex fn K
  of := fun _ _ e => ⟨_, He.frG_in, e⟩
  keeps := fun _ _ _ ⟨K, hK, c⟩ k => ⟨K, PySem.W.Frag.In.keeps hK k, c⟩
theorem obsAG_eq {n : Names} {fa : List He.Fa} {ex : List (PySem.W.Frag → Bool)} {fn : List DefA} {g : Addr → Option Obj} {s : Shared} (h : ∀ a, g a = s.heap.get? a) : obsAG n fa ex fn g = (hookA n fa ex fn).obs s := by
  have e : g = s.heap.get? := funext h
  rw [e] <;> rfl
section
variable {fa : List He.Fa} {ex : List (PySem.W.Frag → Bool)} {fn : List DefA} {K : PySem.W.Frag}
theorem SaysA.all (c : SaysA fa ex fn K) : (fa.all fun f => f.ok K) = true ∧ (ex.all fun f => f K) = true ∧ (fn.all fun d => d.ok K) = true := by
  obtain ⟨c1, c2⟩ := He.ba (show ((fa.all fun f => f.ok K) && ((ex.all fun f => f K) && fn.all fun d => d.ok K)) = true from congrArg (fun z : AlA => z.1) c)
  exact ⟨c1, He.ba c2⟩
theorem SaysA.fact (c : SaysA fa ex fn K) (i : Nat) {f : He.Fa} (h : fa[i]? = some f := by rfl) : f.ok K = true := List.all_eq_true.mp c.all.1 f (List.mem_of_getElem? h)
theorem SaysA.ex_ (c : SaysA fa ex fn K) (i : Nat) {f : PySem.W.Frag → Bool} (h : ex[i]? = some f := by rfl) : f K = true := List.all_eq_true.mp c.all.2.1 f (List.mem_of_getElem? h)
theorem SaysA.def_ (c : SaysA fa ex fn K) (i : Nat) {d : DefA} (h : fn[i]? = some d := by rfl) : ∃ fd, Fun K d.at_.name d.qual d.st (d.at_.ad K) fd := by
  have e : fn.map (fun d => d.obs K) = fn.map DefA.val := congrArg (fun z : AlA => z.2) c
  have e2 : (fn.map fun d => d.obs K)[i]? = (fn.map DefA.val)[i]? := by rw [e]
  rw [List.getElem?_map, List.getElem?_map, h] at e2
  exact DefA.fun_ (Option.some.inj e2) (List.all_eq_true.mp c.all.2.2 d (List.mem_of_getElem? h))
end
/-- the end of a law, over such a head -/
theorem walk_deepE {l : PySem.W.OpenLaw} {n k : Nat} {q : Program} {loose : List Str} {XP : (Str → Option Value) → Heap → Prop} {YP : World → Heap → Prop} {d : DefRec} {S : DSp} {x : Str}
    (hn : l.most = some n) (hn2 : n ≤ sizeLine ∧ k ≤ 60) (hdf : d.params.defaults = [])
    (F : ∀ (w : World) (mg : Str → Option Value) (fa : Addr) (h : Heap), YP w h → h.Ns mainGlobals mg → mg d.name = some (.ref fa) →
      ∃ (K : PySem.W.Frag) (fd : FuncData), K.In h ∧ (∀ (s : Shared) (u : Value), BindsTo s fd ⟨[u], []⟩ [(x, u)]) ∧ ∀ base : Heap, K.In base → base.Ns mainGlobals mg → FnOk l.prog w K mg base (L2N.CX l.prog w) k fa fd [x] (spOf K S))
    (hsp : ∀ ns : List Int, ns.length ≤ n → S [.scr ns] [] (fun d _ => d = .bl true) fun _ _ => False) : PySem.W.WalkO q loose XP YP l.row.toRowW d [] (fun f vs => PySem.call f vs) := by
  have hr : Room 60 callerA := ⟨rfl, by decide, by decide⟩
  refine Att.attach_call hn hdf fun w s₀ s₁ mg mb fa o pm cd doc a vs ns G Y ho hd hcd hmg hobj hints hlen hg => ?_
  obtain ⟨K, fd, KX, hb, hF⟩ := F w mg fa _ Y G.T.g hmg
  refine law_call KX G.T.g G.T.b G.T.builtins G.T.nolimit hg hobj hints (Nat.le_trans hlen hn2.1) (hr.mono hn2.2) hF hb (fun H hO hS => ?_) fun H e s' h => ?_
  · refine ⟨⟨H, H, [], []⟩, [.scr ns], [], fun d _ => d = .bl true, fun _ _ => False, rfl, ⟨Same.refl _, rfl, List.nodup_nil, fun i a c h => by simp at h, fun a h => (by cases h), fun i j a b h => by simp at h, fun b h => (by cases h)⟩, .cons (.scr hS) .nil, hsp ns hlen, ?_, fun _ _ _ _ _ _ _ _ z => z.elim⟩
    rintro n' v d μ' _ _ r rfl
    cases r; rfl
  · obtain ⟨_, _, _, _, _, _, _, _, _, _, _, _, z⟩ := h
    exact z
end DV
/-! Own exceptions: their __init__, raise, try with several clauses (over the hand layer). -/
namespace DV
open PySem PySem.Spec PyProof.Rows L2
/-- the base of the program's errors: an own class whose __init__ is ValueError's -/
structure BaseX (K : PySem.W.Frag) (B : Addr) : Prop where
  rd : PySem.W.readsIn K B (.type "type") = true
  ga : PySem.W.specialIn K (.ref B) "__getattribute__" = some (some (.builtin "type.__getattribute__"))
  fc : PySem.W.findCls K (.ref B) (.type "type") "__init__" = some (.val (.builtin "ValueError.__init__"))
section
variable {X : Cx} {e o : Expr} {es : List Expr} {ta : TA} {to te : TE} {p1 p2 p pos : Pos} {B C : Addr} {f : Str}
theorem pe_baseInit {pl : Sem Bool} {x : Str} (b : BaseX X.K B) (hg : Gl X x) (hm : X.mg x = some (.ref B)) (hdb : (x == ("__debug__" : Str)) = false) (ha : PA X (e :: es) ta)
    (hc : eval (.Call (.Attribute (.Name x p1) "__init__" p2) (e :: es) [] pos) X.env = (do let ov ← eval (.Name x p1) X.env; standAt p2.atName; let (f, first) ← holding [ov] (getMethod ov "__init__" pl); callWith pos f first (backTo pos (starEach (e :: es) X.env)) (backToKw pos (keywordEach [] X.env))) := by rfl)
    (he : starEach (e :: es) X.env = (false, eval e X.env) :: starEach es X.env := by rfl) (hpl : (backTo pos (starEach es X.env)).any (·.1) = false := by rfl) :
    PE X (.Call (.Attribute (.Name x p1) "__init__" p2) (e :: es) [] pos) (tVeI X.K ta) := ⟨fun pins s σ H Q I h => by
  refine PySem.W.methodCall_KW (ld_glob I hg hm ?_ hdb) hc
  refine PySem.W.method_cls I.kIn b.ga (PySem.W.cls_value I.kIn b.rd b.fc rfl ?_)
  show wpAny _ _ (callWith pos (Value.builtin "ValueError.__init__") [] _ []) _ _ _
  refine PyProof.Rows.callWith_method1 (thn (ha.run pos pins _ σ H _ (I.tok _) h) ?_) he hpl
  rintro us s1 ⟨vs, H1, I1, r1, a, C, ws, rfl, hl, T, ea, q⟩
  cases r1 with
  | cons ra rr =>
    cases ra
    refine oinit_ok T I1 ea ?_ fun s' J => ⟨.non, H1, J, rfl, q⟩
    have := Paired.length rr
    rw [← this, sizeLine_eq]; omega⟩
/-- what __init__ of an error with one field does -/
def spI1 (C : Addr) (f : Str) : Sp := fun vs H Q _ => ∃ a y, vs = [.ref a, y] ∧ H a = some (exo a C none) ∧ ∀ dx, H dx = none → dx ≠ a → Q .non (upd (upd H dx (exd dx [(f, y)])) a (exo a C (some dx)))
end
def tI1 (K : PySem.W.Frag) (m f : Str) : TS := tSeq (L2.tDrop (tVeI K (tCons (tVar 0) (tCons (tC (.str m)) tNil)))) (tOst K f (tVar 0) (tVar 1))
section
variable {P : Program} {w : World} {K : PySem.W.Frag} {mg : Str → Option Value} {base : Heap} {C : Addr} {m f : Str} {fI : Addr} {fd : FuncData} {st : Stmt} {x qual n1 n2 : Str}
theorem ok_I1 (F : Fun K x qual st fI fd) (Sc : FnScope [n1, n2] [n1, n2] (defScope st)) (T : OexC K C) (hno : PySem.W.findIn K (.ref C) f = some none)
    (hb : ∀ (cdv : Value) (A : Around) (outer : List Env) (s : Shared) (H : Hp) (E : XK), PSs (cxOf CX0 P w K mg base [n1, n2] qual (defScope st) fI cdv A outer s H E).nox (defBody st) (tI1 K m f)) : FnOk P w K mg base CX0 1 fI fd [n1, n2] (spI1 C f) := by
  refine F.ok Sc (fun vs H Q E h => ?_) (fun cdv A outer s H vs Q E hr h => ⟨_, hb cdv A outer s H E, ?_⟩)
  · obtain ⟨a, y, rfl, _⟩ := h; rfl
  · obtain ⟨a, y, rfl, ha, q⟩ := h
    exact ⟨.ref a, rfl, a, C, [.str m], rfl, by simp, T, ha, y, rfl, .ref a, rfl, a, C, rfl, T, hno, .inl ⟨ha, fun dx h1 h2 => q dx h1 h2⟩⟩
end
/-! ### the error without a field: raise C() -/
end DV
/-! try with several clauses, each with a name or without. -/
namespace DV
open PySem PySem.Spec PyProof.Rows L2
abbrev Clause := Value × Option Nat × (Addr → Value → Option Addr → TS)
/-- the ends of a suite whose name goes -/
def goEnds (i : Nat) (D : Ends) : Ends := { nx := fun σ H => D.nx (σ.set i none) H, rt := D.rt, bk := fun σ H => D.bk (σ.set i none) H, ct := fun σ H => D.ct (σ.set i none) H }
def inClause (o : Option Nat) (ts : TS) (D : Ends) (a : Addr) (σ : L2.St) (H : Hp) : Prop := match o with
  | none => ts D σ H
  | some i => ts (goEnds i D) (σ.set i (some (.ref a))) H
def wMs (K : PySem.W.Frag) (Wo : WX) (D : Ends) : List Clause → WX
  | [] => Wo
  | (c, o, ts) :: r => fun cls d σ H => ∃ b, PySem.W.exmOne K cls c = some b ∧ (b = true → ∀ a, H a = none → inClause o (ts a cls d) D a σ H) ∧ (b = false → wMs K Wo D r cls d σ H)
inductive MsOk (X : Cx) : List ExceptHandler → List Clause → Prop
  | nil : MsOk X [] []
  | plain {x : Str} {c : Value} {ts : Addr → Value → Option Addr → TS} {b0 : Stmt} {su : List Stmt} {np hp : Pos} {hs : List ExceptHandler} {l : List Clause} (hc : L2.Names X x c)
      (hsu : ∀ (a : Addr) (oe : Obj) (cls : Value) (d : Option Addr) (pn : List (Addr × Obj)), L2N.Zn cls d oe → (∃ vs, oe.data = .fields vs) → PSs (X.suite a ((a, oe) :: pn)) (b0 :: su) (ts a cls d)) (r : MsOk X hs l) :
      MsOk X (.ExceptHandler (some (.Name x np)) none (b0 :: su) hp :: hs) ((c, none, ts) :: l)
  | named {x n : Str} {i : Nat} {c : Value} {ts : Addr → Value → Option Addr → TS} {b0 : Stmt} {su : List Stmt} {np hp : Pos} {hs : List ExceptHandler} {l : List Clause} (hc : L2.Names X x c) (hi : X.N[i]? = some n) (hln : X.env.kindOf n = some .local)
      (hsu : ∀ (a : Addr) (oe : Obj) (cls : Value) (d : Option Addr) (pn : List (Addr × Obj)), L2N.Zn cls d oe → (∃ vs, oe.data = .fields vs) → PSs (X.suite a ((a, oe) :: pn)) (b0 :: su) (ts a cls d)) (r : MsOk X hs l) :
      MsOk X (.ExceptHandler (some (.Name x np)) (some n) (b0 :: su) hp :: hs) ((c, some i, ts) :: l)
section
variable {X : Cx} {body : List Stmt} {h0 : ExceptHandler} {hds : List ExceptHandler} {l : List Clause} {pos : Pos} {tb : WX → TS} {Wo : WX}
theorem ps_try_ms (hs : X.stack = X.env :: X.outer) (hf : X.env.frame = some X.env.locals) (hN : X.N.Nodup) (tk : L2N.Takes X Wo)
    (hb : ∀ (W : WX) (pn : List (Addr × Obj)) (xe : Value → Shared → Prop), L2N.Takes (X.tr pn xe) W → PassesOwn (model X.prog X.w) X.A X.env xe → PSs (X.tr pn xe) body (tb W)) (hh : MsOk X (h0 :: hds) l) :
    PS X (.Try body (h0 :: hds) [] [] pos) (fun D σ H => tb (wMs X.K Wo D l) D σ H) := ⟨fun pins s σ H D I h => by
  have ok := I.ok
  have frames : X.A.frames = some (X.env :: X.outer) := by rw [ok.frames, hs]
  have bodyRun := fun xe tk' po => (hb (wMs X.K Wo D l) (X.pn ++ pins) xe tk' po).run [] s σ H D (I.toTry _) h
  refine wpAny_Try_except (wpAny_mono (bodyRun (fun e s₁ => wpAny (model X.prog X.w) X.A (noteFrame e X.env) (fun _ s₂ => wpAny (model X.prog X.w) X.A (setFlight e none) (fun _ s₃ => wpAny (model X.prog X.w) X.A (handleBy e X.env (h0 :: hds)) (L2.SP X pins D) X.xe s₃) X.xe s₂) X.xe s₁)
    (fun u s' xx => ?_) PassesOwn.looking) (fun fl s1 sp => ?_) fun _ _ z => z)
  · obtain ⟨a, B, sI, _, σ1, H1, cls, d, rfl, J1, nb, up, sky, na, os, ag, want⟩ := xx
    have J : Inv X pins σ1 H1 sI := J1.ofTry ok
    rw [hs] at sky
    show wpAny (model X.prog X.w) X.A (noteFrame (.ref a) X.env) _ _ _
    refine L2N.Sky.land L2N.Zn.steady frames hf sky fun h3 fl3 up3 => ?_
    have J3 : Inv X pins σ1 H1 { s' with heap := h3 } := J.landed nb fl3.1 (up.trans up3) os ag
    obtain ⟨oe3, vs3, he3, hz3, hd3⟩ := fl3.there
    have notIn : a ∉ frs (X.env :: X.outer) := fun hm => by
      obtain ⟨_, o', e', hnf⟩ := fl3.2.2.1.mem hm
      rw [he3] at e'; cases e'
      exact hnf _ hd3
    have nL : a ≠ X.env.locals := fun z => notIn (List.mem_filterMap.mpr ⟨X.env, List.mem_cons_self, by rw [hf, z]⟩)
    have nF : a ∉ X.fs := fun hm => by
      obtain ⟨e, he, q⟩ := List.mem_filterMap.mp hm
      exact notIn (List.mem_filterMap.mpr ⟨e, List.mem_cons_of_mem _ he, q⟩)
    have S3 := J3.suite he3 hd3 na nL nF
    have look : PySem.W.Looks (model X.prog X.w) h3 (typeOf (.ref a)) cls := fun A Q E s k q => wpAny_typeOf_ref (k _ _ he3) (by rw [hz3.1]; exact q)
    have name : ∀ {x : Str} {np : Pos} {c : Value} {Q : Value → Shared → Prop} {E : Value → Shared → Prop}, L2.Names X x c → Q c { s' with heap := h3 } → wpAny (model X.prog X.w) (X.A.mark (some (.ref a))) (eval (.Name x np) X.env) Q E { s' with heap := h3 } := fun hc q => by
      obtain ⟨hg, hdbg, hm⟩ := hc
      rcases hm with hm | ⟨hm, hv, hnn⟩
      · exact ld_glob (X := X.suite a ((a, oe3) :: (X.pn ++ pins))) S3 hg hm q hdbg
      · exact ld_blt (X := X.suite a ((a, oe3) :: (X.pn ++ pins))) S3 hg hm hv q hnn hdbg
    have each : ∀ {hs' : List ExceptHandler} {l' : List Clause}, MsOk X hs' l' → wMs X.K Wo D l' cls d σ1 H1 → wpAny (model X.prog X.w) X.A (handleBy (.ref a) X.env hs') (L2.SP X pins D) X.xe { s' with heap := h3 } := by
      intro hs' l' m
      induction m with
      | nil =>
        intro w
        refine wpAny_handleBy_nil ?_
        obtain ⟨_, _, _, oe, vs, T, oT, ts', he, hz, hd, h1, hr⟩ := id fl3
        have out : wpAny (model X.prog X.w) X.A (setFlight (.ref a) X.env.frame) (fun _ s4 => wpAny (model X.prog X.w) X.A (throw (.ref a) : Sem Flow) (L2.SP X pins D) X.xe s4) X.xe { s' with heap := h3 } := by
          rw [hf]
          refine HandSPX.setFlight_upZ fl3 fun h4 hh4 up4 => wpAny_throw (tk _ _ ?_)
          refine ⟨a, B, sI, pins, σ1, H1, cls, d, rfl, J, nb, (up.trans up3).trans up4, .inr (.inr ?_), na, os, ag, w⟩
          rw [hs]; exact hh4
        unfold PySem.passOn
        refine wpAny_bind (wpAny_field he hd h1 ?_)
        rw [if_neg (show ¬ ((Value.ref T == Value.none) = true) by simp)]
        first
          | exact wpAny_bind (wpAny_pure (wpAny_bind out))
          | exact wpAny_bind out
      | plain hc hsu r ih =>
        rintro ⟨b, hb1, yes, no⟩
        refine wpAny_handleBy_cons (codeAny_handlers_test (name hc ?_)) (by intro q; cases q)
        refine (PySem.W.exm_one (M := model X.prog X.w) J3.kIn look hb1).here ?_
        cases b with
        | false => exact ih (no rfl)
        | true =>
          refine codeAny_handlers_suite (HandSPX.lands_againZ fl3 fun h4 fl4 up4 => ?_)
          have J4 : Inv X pins σ1 H1 { s' with heap := h4 } := J.landed nb fl4.1 ((up.trans up3).trans up4) os ag
          obtain ⟨oe4, vs4, he4, hz4, hd4⟩ := fl4.there
          refine wpAny_mono ((hsu a oe4 cls d (X.pn ++ pins) hz4 ⟨_, hd4⟩).run [] _ _ H1 _ (J4.suite he4 hd4 na nL nF) (yes rfl a na)) (fun f s6 sp => ?_) fun _ _ z => z.elim
          match f, sp with
          | .next, ⟨σ6, H6, S6, q6⟩ => exact ⟨_, _, S6.unsuite ok, q6⟩
          | .brk, ⟨σ6, H6, S6, q6⟩ => exact ⟨_, _, S6.unsuite ok, q6⟩
          | .cont, ⟨σ6, H6, S6, q6⟩ => exact ⟨_, _, S6.unsuite ok, q6⟩
          | .ret u, ⟨v6, σ6, H6, S6, r6, q6⟩ => exact ⟨_, _, _, S6.unsuite ok, r6, q6⟩
      | @named x n i c ts b0 su np hp hs2 l2 hc hi hln hsu r ih =>
        rintro ⟨b, hb1, yes, no⟩
        refine wpAny_handleBy_cons (codeAny_handlers_test (name hc ?_)) (by intro q; cases q)
        refine (PySem.W.exm_one (M := model X.prog X.w) J3.kIn look hb1).here ?_
        cases b with
        | false => exact ih (no rfl)
        | true =>
          refine codeAny_handlers_suite_as (HandSPX.lands_againZ fl3 fun h4 fl4 up4 => ?_)
          have J4 : Inv X pins σ1 H1 { s' with heap := h4 } := J.landed nb fl4.1 ((up.trans up3).trans up4) os ag
          obtain ⟨oe4, vs4, he4, hz4, hd4⟩ := fl4.there
          refine store_ok (X := X.suite a ((a, oe4) :: (X.pn ++ pins))) (v := .ref a) (J4.suite he4 hd4 na nL nF) hN hi (.inl hln) rfl (fun s5 S5 => ?_) (.inr hln)
          refine wpAny_mono ((hsu a oe4 cls d (X.pn ++ pins) hz4 ⟨_, hd4⟩).run [] s5 _ H1 _ S5 (yes rfl a na)) (fun f s6 sp => ?_) fun _ _ z => z.elim
          have gone : ∀ {σ6 : L2.St} {H6 : Hp} {R : Shared → Prop}, Inv (X.suite a ((a, oe4) :: (X.pn ++ pins))) [] σ6 H6 s6 → (∀ s7, Inv X pins (σ6.set i none) H6 s7 → R s7) → wpAny (model X.prog X.w) X.A (do bindName X.env n .none; unbindBehindTheSuite X.env n hp) (fun _ s7 => R s7) X.xe s6 := fun S6 hq =>
            gone_ok (S6.unsuite ok) hN hi hln hq
          match f, sp with
          | .next, ⟨σ6, H6, S6, q6⟩ => exact gone S6 fun s7 J7 => ⟨_, _, J7, q6⟩
          | .brk, ⟨σ6, H6, S6, q6⟩ => exact gone S6 fun s7 J7 => ⟨_, _, J7, q6⟩
          | .cont, ⟨σ6, H6, S6, q6⟩ => exact gone S6 fun s7 J7 => ⟨_, _, J7, q6⟩
          | .ret u, ⟨v6, σ6, H6, S6, r6, q6⟩ => exact gone S6 fun s7 J7 => ⟨_, _, _, J7, r6, q6⟩
    exact each hh want
  · match fl, sp with
    | .next, ⟨σ', H', J', q⟩ => exact wpAny_execs_nil ⟨σ', H', J'.ofTry ok, q⟩
    | .brk, ⟨σ', H', J', q⟩ => exact ⟨σ', H', J'.ofTry ok, q⟩
    | .cont, ⟨σ', H', J', q⟩ => exact ⟨σ', H', J'.ofTry ok, q⟩
    | .ret u, ⟨v, σ', H', J', r, q⟩ => exact ⟨v, σ', H', J'.ofTry ok, r, q⟩⟩
end
end DV
/-! raise, try and e.f at the deep level. -/
namespace DV
open PySem PySem.Spec PyProof.Rows L2
abbrev xa (K : PySem.W.Frag) (k : EK) : Addr := He.ga K k.nm
/-! ### facts of the written part, as Booleans -/
def oexB (K : PySem.W.Frag) (C : Addr) : Bool := (match K.lookup C with
  | some ⟨.type "type", _, .cls cd, sl⟩ => (match cd.mro, sl.toList with
    | .ref C' :: bm, [_, _, _, _, some (.builtin n), _] => C' == C && (n == "ValueError.__new__" && (!cd.hasDel && (cd.hasDict && PySem.HandSPX.refsVE bm)))
    | _, _ => false)
  | _ => false) && (He.eqO (PySem.W.findIn K (.ref C) "__setattr__") (some (some (.builtin "object.__setattr__"))) && (decide (PySem.W.subIn K (.ref C) (.type "BaseException") = some true) && (decide (PySem.W.typeIn K (.ref C) = some (.type "type")) && PySem.W.keepIn K (.ref C))))
theorem oexB_ok {K : PySem.W.Frag} {C : Addr} (h : oexB K C = true) : OexC K C := by
  obtain ⟨q, h⟩ := He.ba h
  obtain ⟨h1, h⟩ := He.ba h
  obtain ⟨h2, h⟩ := He.ba h
  obtain ⟨h3, h4⟩ := He.ba h
  refine ⟨?_, He.eqO_ok h1, of_decide_eq_true h2, of_decide_eq_true h3, h4⟩
  split at q
  · rename_i dd cd sl ho
    split at q
    · rename_i C' bm k0 k1 k2 k3 n k5 hm hs
      simp only [Bool.and_eq_true, beq_iff_eq, Bool.not_eq_true'] at q
      obtain ⟨rfl, rfl, hdel, hdic, ht⟩ := q
      obtain ⟨nm, bs, mro, ns, qn, hd, sn, sub, ab, col, del⟩ := cd
      dsimp only at hm hdel hdic
      subst hm hdel hdic
      have hsl : sl = #[k0, k1, k2, k3, some (.builtin "ValueError.__new__"), k5] := by
        obtain ⟨l⟩ := sl
        simp only at hs
        rw [hs]
      subst hsl
      exact ⟨nm, qn, ns, bs, bm, sn, sub, ab, col, dd, k0, k1, k2, k3, k5, ho, ht⟩
    · cases q
  · cases q
/-- an error class with its __init__ -/
def errB (k : EK) (K : PySem.W.Frag) : Bool := oexB K (xa K k) && (He.eqO (PySem.W.findIn K (.ref (xa K k)) "__init__") (some (some (.ref (He.ma K (xa K k) "__init__")))) && decide (PySem.W.typeIn K (.ref (He.ma K (xa K k) "__init__")) = some (.type "function")))
structure ErrC (K : PySem.W.Frag) (k : EK) (fI : Addr) : Prop where
  T : OexC K (xa K k)
  iC : PySem.W.findIn K (.ref (xa K k)) "__init__" = some (some (.ref fI))
  tI : PySem.W.typeIn K (.ref fI) = some (.type "function")
theorem errB_ok {K : PySem.W.Frag} {k : EK} (h : errB k K = true) : ErrC K k (He.ma K (xa K k) "__init__") := by
  obtain ⟨h1, h⟩ := He.ba h
  obtain ⟨h2, h3⟩ := He.ba h
  exact ⟨oexB_ok h1, He.eqO_ok h2, of_decide_eq_true h3⟩
/-- the base of all errors -/
def baseB (K : PySem.W.Frag) : Bool := PySem.W.readsIn K (He.ga K "ChooserError") (.type "type") && (decide (PySem.W.specialIn K (.ref (He.ga K "ChooserError")) "__getattribute__" = some (some (.builtin "type.__getattribute__"))) && (match PySem.W.findCls K (.ref (He.ga K "ChooserError")) (.type "type") "__init__" with | some (.val (.builtin n)) => n == "ValueError.__init__" | _ => false))
theorem baseB_ok {K : PySem.W.Frag} (h : baseB K = true) : BaseX K (He.ga K "ChooserError") := by
  obtain ⟨h1, h⟩ := He.ba h
  obtain ⟨h2, h3⟩ := He.ba h
  refine ⟨h1, of_decide_eq_true h2, ?_⟩
  split at h3
  · rename_i n e; rw [e, beq_iff_eq.mp h3]
  · cases h3
/-- which clause catches which error -/
def emB (ks : List EK) (K : PySem.W.Frag) : Bool := ks.all fun j => ks.all fun k => decide (PySem.W.exmOne K (.ref (xa K j)) (.ref (xa K k)) = some (decide (j = k)))
def EmOk (ks : List EK) (K : PySem.W.Frag) : Prop := ∀ j ∈ ks, ∀ k ∈ ks, PySem.W.exmOne K (.ref (xa K j)) (.ref (xa K k)) = some (decide (j = k))
theorem emB_ok {ks : List EK} {K : PySem.W.Frag} (h : emB ks K = true) : EmOk ks K := fun j hj k hk => of_decide_eq_true (List.all_eq_true.mp (List.all_eq_true.mp h j hj) k hk)
/-- e.f of an error -/
def xfldB (k : EK) (f : Str) (K : PySem.W.Frag) : Bool := xfB K (xa K k) && He.eqO (PySem.W.findIn K (.ref (xa K k)) f) (some none)
theorem xfldB_ok {k : EK} {f : Str} {K : PySem.W.Frag} (h : xfldB k f K = true) : XfC K (xa K k) ∧ PySem.W.findIn K (.ref (xa K k)) f = some none := by
  obtain ⟨h1, h2⟩ := He.ba h
  exact ⟨xfB_ok h1, He.eqO_ok h2⟩
/-! ### raise -/
def HasE (P : Program) (w : World) (K : PySem.W.Frag) (mg : Str → Option Value) (base : Heap) (k : EK) (f : Str) : Prop :=
  ∃ fI fd n1 n2, mg k.nm = some (.ref (xa K k)) ∧ ErrC K k fI ∧ Binds K fd [n1, n2] [] ∧ FnOk P w K mg base CX0 1 fI fd [n1, n2] (spI1 (xa K k) f)
def dRaise (k : EK) (f : Str) (fa : DTE) : DTS := fun Dd Γ μ => fa Γ μ (fun d μ1 => Dd.ex ⟨k, [(f, d)]⟩ Γ μ1) (fun x μ1 => Dd.ex x Γ μ1)
def dRaise0 (k : EK) : DTS := fun Dd Γ μ => Dd.ex ⟨k, []⟩ Γ μ
section
variable {X : Cx} {W : WX} {e : Expr} {x : Str} {p pos pos2 : Pos} {fa : DTE} {k : EK} {f : Str}
/-- C(e) of an own error, nothing handled: its context is None -/
theorem pmkN {C fI : Addr} {fd : FuncData} {n1 n2 : Str} {sp : Sp} {ta : TA} (T : OexC X.K C) (iC : PySem.W.findIn X.K (.ref C) "__init__" = some (some (.ref fI))) (tI : PySem.W.typeIn X.K (.ref fI) = some (.type "function")) (F1 : FnOk X.prog X.w X.K X.mg X.base CX0 1 fI fd [n1, n2] sp) (hr : Room 2 X.A)
    (hb : Binds X.K fd [n1, n2] []) (hg : Gl X x) (hm : X.mg x = some (.ref C)) (ha : PA X [e] ta) (hdb : (x == ("__debug__" : Str)) = false := by decide)
    (he : starEach [e] X.env = (false, eval e X.env) :: starEach [] X.env := by rfl) (hpl : (backTo pos (starEach [] X.env)).any (·.1) = false := by rfl) : L2N.PMk X (.Call (.Name x p) [e] [] pos) (tMkO C sp [] ta) := by
  intro pins s σ H Q I h
  obtain ⟨_, _, _, _, bm, _, _, _, _, _, _, _, _, _, _, clsAt, hbm⟩ := T.cls
  refine wpAny_Call_Name_kw (ld_glob I hg hm ?_ hdb)
  refine PySem.W.callWith_K (h₀ := X.base) I.ok.mod.kin T.kC (thn (ha.run pos pins s σ H _ I h) fun us ⟨hp, g, dr, tk, os⟩ ⟨vs, H1, I1, r1, len, q1⟩ => ⟨I1.kIn, ?_⟩) he hpl
  show wpAny _ _ (call (.ref C) us) _ _ _
  have above : hp.objs.size ≤ hp.objs.size + 1 := Nat.le_succ _
  have q2 := q1 (hp.objs.size + 1) (I1.hok.fresh above)
  have stays : ∀ b o, hp.get? b = some o → ((hp.push (PySem.W.kdv_tup us)).push (PySem.HandSPX.excO C hp.objs.size)).get? b = some o := fun b o z => Heap.get?_push_of_some _ (Heap.get?_push_of_some _ z)
  have J : Inv X pins σ (upd H1 (hp.objs.size + 1) (exo (hp.objs.size + 1) C none)) ⟨(hp.push (PySem.W.kdv_tup us)).push (PySem.HandSPX.excO C hp.objs.size), g, dr, tk, os⟩ := I1.laid (t' := tk) stays above (exo_ok (by heap_get))
  have rr : Vals (V.ref (hp.objs.size + 1) :: (vs ++ [])) (Value.ref (hp.objs.size + 1) :: (us ++ [])) := .cons rfl (r1.append .nil)
  have two := rr.length
  rw [F1.len _ _ _ _ q2] at two
  have few : us.length ≤ sizeLine := by rw [← Paired.length r1, sizeLine_eq]; omega
  have bb := hb ⟨(hp.push (PySem.W.kdv_tup us)).push (PySem.HandSPX.excO C hp.objs.size), g, dr, tk, os⟩ (Value.ref (hp.objs.size + 1) :: us) J.kIn (by simpa using two.symm)
  have run := F1.run _ X.stack _ _ ⟨Value.ref (hp.objs.size + 1) :: us, []⟩ (Value.ref (hp.objs.size + 1) :: (us ++ [])) _ _ (fun _ _ _ => False) (hr.make C us []) (J.env0.make C us []) (by rw [List.cons_append] at bb; exact bb) rr q2
  refine wpAny_call (PySem.HandSPX.call_own F.excBase_ValueError (fun Y => PySem.HandSPX.refsVE_contains Y bm hbm) (I1.kIn _ _ clsAt) (PySem.W.looks_findIn I1.kIn iC) (fun self => PySem.W.bind_fn I1.kIn self tI) few (codeAny_mono run fun r s' hq' => ?_))
  match r, s', hq' with
  | .error _, _, hq' => exact hq'.elim
  | .ok .next, _, hq' => exact hq'.elim
  | .ok .brk, _, hq' => exact hq'.elim
  | .ok .cont, _, hq' => exact hq'.elim
  | .ok (.ret u), ⟨h2, g2, d2, t2, os'⟩, hq' =>
    obtain ⟨_, H2, os2, bare2, un2, hok2, rv, rfl, d, fs, ea, ed, hd1, q3⟩ := hq'
    obtain ⟨_, G, J2, kG, ge, hoe, na⟩ := mk_end0 (d2 := d2) (t2 := t2) I1 above stays un2 hok2 os2 bare2 ea ed hd1
    exact ⟨rv, ⟨_, _, _, ⟨G, g2, d2, t2, os'⟩, _, .ref C, some d, rfl, J2, kG, ge, hoe, ⟨rfl, rfl, fun vs z => by cases z; rfl⟩, rfl, rfl, na, rfl, bare2, raises_own T.exC T.tyC, q3⟩⟩
theorem ds_raise (h : HasE X.prog X.w X.K X.mg X.base k f) (hr : Room 2 X.A) (hg : Gl X x) (tk : L2N.Takes X W) (ha : DE X W e fa) (hc : X.calm = true := by rfl) (hk : x = k.nm := by rfl) (hdb : (x == ("__debug__" : Str)) = false := by decide)
    (he : starEach [e] X.env = (false, eval e X.env) :: starEach [] X.env := by rfl) (hpl : (backTo pos (starEach [] X.env)).any (·.1) = false := by rfl) : DS X W (.Raise (some (.Call (.Name x p) [e] [] pos)) none pos2) (dRaise k f fa) := by
  subst hk
  obtain ⟨fI, fd, n1, n2, hm, ⟨T, iC, tI⟩, hb, F⟩ := h
  refine PS.imp (L2N.ps_raise hc tk (pmkN T iC tI F hr hb hg hm (da_cons ha da_nil he) hdb he hpl)) fun Dn σ H ⟨A, n, Γ, μ, Dd, hH, sa, sr, gr, h, l⟩ => ?_
  subst hH
  refine liftA_go (Qd := fun ds μ1 => match ds with | [d] => Dd.ex ⟨k, [(f, d)]⟩ Γ μ1 | _ => False) (Ed := fun x μ1 => Dd.ex x Γ μ1) sr gr h (fun n1 vs ds μ1 s1 r1 p1 q1 => ?_) (fun n' cls dd x μ' s' r' e q => l.ex n' Γ σ μ' cls dd x (sa.trans s') r' (gr.step s') (e.anchor sa) q)
  match ds, q1 with
  | [d], q1 =>
    cases p1 with
    | cons rv pn =>
      cases pn
      rename_i v
      refine ⟨by simp, fun a ha => ⟨a, v, rfl, upd_same, fun dx hdx hne => ⟨rfl, dx, [(f, v)], upd_same, ?_, ?_, ?_⟩⟩⟩
      · rw [upd_ne hne]; exact upd_same
      · rw [upd_ne hne] at hdx; exact hdx
      · have hdx' : n1.H dx = none := by rw [upd_ne hne] at hdx; exact hdx
        have eH : upd (del (upd (upd (upd n1.H a (exo a (xa X.K k) none)) dx (exd dx [(f, v)])) a (exo a (xa X.K k) (some dx))) a) dx (.xd [(f, v)]) = (n1.more dx (.xd [(f, v)])).H := by
          funext b
          show _ = upd n1.H dx _ b
          by_cases hb : b = dx
          · subst hb; rw [upd_same, upd_same]
          · rw [upd_ne hb, upd_ne hb]
            by_cases hba : b = a
            · subst hba; rw [del_same]; exact ha.symm
            · rw [del_ne hba, upd_ne hba, upd_ne hb, upd_ne hba]
        rw [eH]
        have st : Step n1 (n1.more dx (.xd [(f, v)])) := Step.more hdx'
        refine l.ex _ Γ σ μ1 _ _ _ ((sa.trans s1).trans st) (r1.more hdx') ((gr.step s1).step st) ⟨rfl, .inr ⟨dx, [(f, v)], rfl, (sa.trans s1).dom dx hdx', ⟨r1.hb hdx', fun z => r1.alh dx z hdx', fun z => (r1.phb dx z).2.2 hdx'⟩, upd_same, ?_, ?_⟩⟩ q1
        · intro g
          show List.lookup g [(f, v)] = none ↔ List.lookup g [(f, d)] = none
          simp only [List.lookup_cons, List.lookup_nil]
          cases g == f <;> simp
        · intro g u hu
          have hu : List.lookup g [(f, v)] = some u := hu
          show ∃ d', List.lookup g [(f, d)] = some d' ∧ _
          rw [List.lookup_cons] at hu ⊢
          split at hu
          · cases hu; exact ⟨d, rfl, rv⟩
          · cases hu
end
/-! ### try -/
structure DCl where
  k : EK
  o : Option Nat
  su : Addr → Addr → Nat → DTS
def DCl.cl (K : PySem.W.Frag) (c : DCl) : Clause := (.ref (xa K c.k), c.o, fun a cls d => match c.o with
  | none => liftS K W0 (c.su 0 0 0)
  | some _ => fun Dn σ H => ∃ dd l, cls = .ref (xa K c.k) ∧ d = some dd ∧ liftS K W0 (c.su a dd l) Dn σ H)
def dGo (i : Nat) (D : DEnds) : DEnds := { nx := fun Γ μ => D.nx (Γ.set i none) μ, rt := D.rt, bk := fun Γ μ => D.bk (Γ.set i none) μ, ct := fun Γ μ => D.ct (Γ.set i none) μ, ex := fun _ _ _ => False }
def dIn (c : DCl) (Dd : DEnds) (x : Exn) (Γ : Gam) (μ : Mu) : Prop := match c.o with
  | none => c.su 0 0 0 { Dd with ex := fun _ _ _ => False } Γ μ
  | some i => x.fs ≠ [] ∧ ∀ a dd, c.su a dd μ.length (dGo i Dd) (Γ.set i (some (.cls a))) (μ ++ [.exc dd x.fs])
def dHandle (ks : List EK) : List DCl → DEnds → Exn → Gam → Mu → Prop
  | [], Dd, x, Γ, μ => Dd.ex x Γ μ
  | c :: r, Dd, x, Γ, μ => x.k ∈ ks ∧ c.k ∈ ks ∧ if x.k = c.k then dIn c Dd x Γ μ else dHandle ks r Dd x Γ μ
def dTry (ks : List EK) (Tb : DTS) (cl : List DCl) : DTS := fun Dd Γ μ => Tb { Dd with ex := dHandle ks cl Dd } Γ μ
/-- the dict of a caught error becomes a cell -/
theorem caught {K : PySem.W.Frag} {A n : Now} {μ : Mu} {dd : Addr} {us : List (Str × V)} {fs : List (Str × D)} (sa : Step A n) (sr : SR0 K n μ) (hA : A.H dd = none) (hh : n.Hb dd = none ∧ dd ∉ n.al ∧ dd ∉ n.ph) (hu : n.H dd = some (.xd us))
    (h1 : ∀ f, us.lookup f = none ↔ fs.lookup f = none) (h2 : ∀ f v, us.lookup f = some v → ∃ d, fs.lookup f = some d ∧ Rep K n.Hb n.al v d) :
    SR0 K ⟨n.Hb, n.H, n.al ++ [dd], n.ph⟩ (μ ++ [.exc dd fs]) ∧ Step A ⟨n.Hb, n.H, n.al ++ [dd], n.ph⟩ := by
  have hpre : n.al <+: n.al ++ [dd] := List.prefix_append _ _
  refine ⟨⟨sr.same, by simp [sr.len], ?_, fun i a c e1 e2 => ?_, fun b hb => ?_, fun i j x y e1 e2 => ?_, fun b hb => ?_⟩, ⟨sa.same, sa.pre.trans hpre, sa.newb, fun b hb => ?_, sa.newp, sa.keep, sa.dom, sa.fixd⟩⟩
  · show (n.al ++ [dd]).Nodup
    rw [List.nodup_append]
    exact ⟨sr.nd, by simp, fun b hb c hc z => by rw [List.mem_singleton.mp hc] at z; exact hh.2.1 (z ▸ hb)⟩
  · have e1' : (n.al ++ [dd])[i]? = some a := e1
    by_cases hi : i < n.al.length
    · rw [List.getElem?_append_left hi] at e1'
      rw [List.getElem?_append_left (by rw [← sr.len]; exact hi)] at e2
      exact (sr.cell i a c e1' e2).grow (n' := ⟨n.Hb, n.H, n.al ++ [dd], n.ph⟩) rfl (fun z => z) (Same.refl _) hpre rfl fun _ _ => rfl
    · rw [List.getElem?_append_right (by omega)] at e1'
      rw [List.getElem?_append_right (by rw [← sr.len]; omega), ← sr.len] at e2
      have hz : i - n.al.length = 0 := by
        have := (List.getElem?_eq_some_iff.mp e1').1
        simp at this; omega
      rw [hz] at e1' e2
      simp at e1' e2
      subst e1'; subst e2
      exact ⟨hh.1, rfl, us, hu, h1, fun f v e => let ⟨d, z1, z2⟩ := h2 f v e; ⟨d, z1, z2.mono (Same.refl _) hpre⟩⟩
  · rcases List.mem_append.mp hb with z | z
    · exact sr.alh b z
    · rw [List.mem_singleton.mp z]; show n.H dd ≠ none; rw [hu]; simp
  · have q : ∀ (i : Nat) x, (μ ++ [Cell.exc dd fs])[i]? = some (.orc x) → μ[i]? = some (.orc x) := fun i x e => by
      by_cases hi : i < μ.length
      · rw [List.getElem?_append_left hi] at e; exact e
      · rw [List.getElem?_append_right (by omega)] at e
        have hz : i - μ.length = 0 := by
          have := (List.getElem?_eq_some_iff.mp e).1
          simp at this; omega
        rw [hz] at e; simp at e
    exact sr.orc1 i j x y (q i x e1) (q j y e2)
  · obtain ⟨z1, z2, z3⟩ := sr.phb b hb
    refine ⟨z1, fun z => ?_, z3⟩
    rcases List.mem_append.mp z with z | z
    · exact z2 z
    · rw [List.mem_singleton.mp z] at hb; exact hh.2.2 hb
  · rcases List.mem_append.mp hb with z | z
    · exact sa.newa b z
    · rw [List.mem_singleton.mp z]; exact .inr hA
section
variable {X : Cx} {W : WX} {body : List Stmt} {h0 : ExceptHandler} {hds : List ExceptHandler} {cl : List DCl} {ks : List EK} {pos : Pos} {Tb : DTS} {c : DCl}
theorem handle_go {A : Now} {Dd : DEnds} {Dn : Ends} {K : PySem.W.Frag} (em : EmOk ks K) (l : Links K W A Dd Dn) : ∀ (cl : List DCl) (n : Now) (Γ : Gam) (σ : L2.St) (μ : Mu) (cls : Value) (dd : Option Addr) (x : Exn), Step A n → SR0 K n μ → GR K n Γ σ → ExR K A n cls dd x → dHandle ks cl Dd x Γ μ → wMs K W Dn (cl.map (DCl.cl K)) cls dd σ n.H
  | [], n, Γ, σ, μ, cls, dd, x, sa, sr, gr, ex, h => l.ex n Γ σ μ cls dd x sa sr gr ex h
  | c :: r, n, Γ, σ, μ, cls, dd, x, sa, sr, gr, ex, h => by
    obtain ⟨m1, m2, h⟩ := h
    refine ⟨decide (x.k = c.k), by rw [ex.1]; exact em _ m1 _ m2, fun hb a na => ?_, fun hb => ?_⟩
    · rw [if_pos (of_decide_eq_true hb)] at h
      unfold dIn at h
      show inClause c.o _ Dn a σ n.H
      cases ho : c.o with
      | none =>
        rw [ho] at h
        show liftS K W0 (c.su 0 0 0) Dn σ n.H
        exact ⟨A, n, Γ, μ, { Dd with ex := fun _ _ _ => False }, rfl, sa, sr, gr, h, ⟨l.nx, l.bk, l.ct, l.rt, fun _ _ _ _ _ _ _ _ _ _ _ z => z.elim⟩⟩
      | some i =>
        rw [ho] at h
        obtain ⟨hne, h⟩ := h
        obtain ⟨ec, ex2⟩ := ex
        obtain ⟨d, us, rfl, hA, hh, hu, h1, h2⟩ := ex2.resolve_left fun z => hne z.2
        obtain ⟨s2, a2⟩ := caught sa sr hA hh hu h1 h2
        show ∃ dd l, cls = .ref (xa K c.k) ∧ some d = some dd ∧ liftS K W0 (c.su a dd l) (goEnds i Dn) (σ.set i (some (.ref a))) n.H
        refine ⟨d, μ.length, by rw [ec, of_decide_eq_true hb], rfl, A, ⟨n.Hb, n.H, n.al ++ [d], n.ph⟩, _, _, dGo i Dd, rfl, a2, s2, ?_, h a d, ?_⟩
        · have g2 : GR K ⟨n.Hb, n.H, n.al ++ [d], n.ph⟩ Γ σ := ⟨gr.len, fun j e hj => let ⟨v, z1, z2⟩ := gr.at_ j e hj; ⟨v, z1, z2.mono (Same.refl _) (List.prefix_append _ _)⟩⟩
          exact g2.set (.cls a) i
        · exact ⟨fun n' Γ' σ' μ' q1 q2 q3 q4 => l.nx n' _ _ μ' q1 q2 (q3.unset i) q4, fun n' Γ' σ' μ' q1 q2 q3 q4 => l.bk n' _ _ μ' q1 q2 (q3.unset i) q4, fun n' Γ' σ' μ' q1 q2 q3 q4 => l.ct n' _ _ μ' q1 q2 (q3.unset i) q4, l.rt, fun _ _ _ _ _ _ _ _ _ _ _ z => z.elim⟩
    · rw [if_neg (of_decide_eq_false hb)] at h
      exact handle_go em l r n Γ σ μ cls dd x sa sr gr ex h
theorem ds_try (em : EmOk ks X.K) (hs : X.stack = X.env :: X.outer) (hf : X.env.frame = some X.env.locals) (hN : X.N.Nodup) (tk : L2N.Takes X W)
    (hb : ∀ (W' : WX) (pn : List (Addr × Obj)) (xe : Value → Shared → Prop), L2N.Takes (X.tr pn xe) W' → PassesOwn (model X.prog X.w) X.A X.env xe → DSs (X.tr pn xe) W' body Tb) (hh : MsOk X (h0 :: hds) (cl.map (DCl.cl X.K))) :
    DS X W (.Try body (h0 :: hds) [] [] pos) (dTry ks Tb cl) :=
  PS.imp (ps_try_ms (tb := fun W' => liftS X.K W' Tb) hs hf hN tk hb hh) fun Dn σ H ⟨A, n, Γ, μ, Dd, hH, sa, sr, gr, h, l⟩ => by
  exact ⟨A, n, Γ, μ, { Dd with ex := dHandle ks cl Dd }, hH, sa, sr, gr, h, ⟨l.nx, l.bk, l.ct, l.rt, handle_go em l cl⟩⟩
theorem dms_nil : MsOk X [] (([] : List DCl).map (DCl.cl X.K)) := .nil
theorem dms_named {x n : Str} {i : Nat} {k : EK} {T : Addr → Addr → Nat → DTS} {b0 : Stmt} {su : List Stmt} {np hp : Pos} {hs : List ExceptHandler} {l : List DCl} (hg : Gl X x) (hm : X.mg x = some (.ref (xa X.K k)))
    (hsu : ∀ (a : Addr) (oe : Obj) (dd : Addr) (l : Nat) (pn : List (Addr × Obj)), L2N.Zn (.ref (xa X.K k)) (some dd) oe → (∃ vs, oe.data = .fields vs) → DSs (X.suite a ((a, oe) :: pn)) W0 (b0 :: su) (T a dd l)) (r : MsOk X hs (l.map (DCl.cl X.K)))
    (hi : X.N[i]? = some n := by rfl) (hln : X.env.kindOf n = some .local := by rfl) (hdb : (x == ("__debug__" : Str)) = false := by decide) :
    MsOk X (.ExceptHandler (some (.Name x np)) (some n) (b0 :: su) hp :: hs) ((⟨k, some i, T⟩ :: l : List DCl).map (DCl.cl X.K)) :=
  .named ⟨hg, hdb, .inl hm⟩ hi hln (fun a oe cls d pn hz hv => ⟨fun pins s σ H Q I q => by
    obtain ⟨dd, l, rfl, rfl, q⟩ := q
    exact (hsu a oe dd l pn hz hv).run pins s σ H Q I q⟩) r
/-- e.f in a suite -/
def dXf (a dd : Addr) (l : Nat) (f : Str) (fe : DTE) : DTE := fun Γ μ Q E => fe Γ μ (fun v μ1 => v = .cls a ∧ match μ1[l]? with
  | some (.exc d' fs) => d' = dd ∧ (match fs.lookup f with
    | some d => Q d μ1
    | none => False)
  | _ => False) E
theorem de_xf {a dd : Addr} {l : Nat} {oe : Obj} {pn : List (Addr × Obj)} {e : Expr} {fe : DTE} {f : Str} {k : EK} (h : XfC X.K (xa X.K k) ∧ PySem.W.findIn X.K (.ref (xa X.K k)) f = some none) (hz : L2N.Zn (.ref (xa X.K k)) (some dd) oe) (hf : ∃ vs, oe.data = .fields vs)
    (he : DE (X.suite a ((a, oe) :: pn)) W e fe) (hb : attributeBase e f X.env (eval e X.env) = eval e X.env := by rfl) : DE (X.suite a ((a, oe) :: pn)) W (.Attribute e f pos) (dXf a dd l f fe) :=
  PE.imp (pe_xf h.1 h.2 (And.intro hz.1 hz.2.1 : Zc _ _ _) hf he hb) fun σ H Q ⟨n, Γ, μ, Qd, Ed, hH, sr, gr, h, hq, hx⟩ => by
  subst hH
  refine lift_go sr gr h (fun n1 x dx μ1 s1 r1 p1 q1 => ?_) hx
  obtain ⟨rfl, q1⟩ := q1
  cases p1
  refine ⟨rfl, rfl, ?_⟩
  split at q1
  · rename_i d' fs e1
    obtain ⟨rfl, q1⟩ := q1
    split at q1
    · rename_i d e2
      have hl : l < n1.al.length := by rw [r1.len]; exact (List.getElem?_eq_some_iff.mp e1).1
      obtain ⟨_, rfl, us, h1, h2, h3⟩ := r1.cell l n1.al[l] _ (List.getElem?_eq_getElem hl) e1
      cases eu : us.lookup f with
      | none => rw [(h2 f).mp eu] at e2; cases e2
      | some v =>
        obtain ⟨d2, z1, z2⟩ := h3 f v eu
        rw [e2] at z1; cases z1
        exact ⟨_, us, v, rfl, h1, eu, hq n1 v d μ1 s1 r1 z2 q1⟩
    · exact q1.elim
  · exact q1.elim
end
end DV
/-! enumerate of a tuple, at the library's level and above. -/
namespace PySem
open Sem (wp)
open AutoSeq1 (wpAny_loadPart')
end PySem
namespace DV
open PySem PySem.Spec PyProof.Rows L2
end DV
/-! any, all, isinstance with an own class, chains of three. -/
namespace DV
open PySem PySem.Spec PyProof.Rows L2
end DV
/-! Dicts: k in d, dict(d), list(d), tuple(d), sorted(d). -/
namespace PySem
open Sem (wp)
open AutoSeq1 (wpAny_loadPart')
section
variable {prog : Program} {w : World} {A : Around} {E : Value → Shared → Prop} {s : Shared} {d : Addr} {n : Nat} {P : Nat → Value → Prop} {OK : Heap → Prop}
theorem dv_code_tuple_dict {Q₁ : Value → Shared → Prop} (K : PySem.W.KdlSrc prog w "dict" d d n P OK) (hh : A.handled = none) (hok : OK s.heap) (hsz : n ≤ sizeLine)
    (h : ∀ (h' : Heap) (tk : Nat) (acc : Array Value), (∀ b o, s.heap.get? b = some o → h'.get? b = some o) → ItemsOf P acc n → Q₁ (.ref h'.objs.size) { s with heap := h'.push { cls := .type "tuple", data := .seq acc }, toks := tk }) :
    codeAny (model prog w) A (.call (.builtin "tuple.__new__") ⟨[.type "tuple", .ref d], []⟩) (wants Q₁ E) s := by
  refine codeAny_of_tree ?_
  show wpAny _ A.in1 (do checkBuiltinCall "tuple.__new__" ⟨[.type "tuple", .ref d], []⟩; again (.builtin "tuple.__new__" ⟨[.type "tuple", .ref d], []⟩)) _ _ s
  refine wpAny_bind (wpAny_of_eq (F.newCall_tuple_1 _) (wpAny_pure ⟨plainId_quiet F.plain_tuple_new _, codeAny_builtin F.entry_tuple_new ?_⟩))
  rw [Around.under_plainId F.plain_tuple_new _]
  have hsub := sub_tuple_self
  have hinit := init_tuple_lookup
  have hmh := madeHere_tuple
  have hTI := K.type s hok
  have hh1 : A.in1.handled = none := hh
  wp_walk using wpAny_typeOf hTI, PySem.W.kdu_collect (A := A.in1) K hh1 hok hsz
  intro h' tk acc hk hacc
  show wpAny _ _ (Builtin.Tuple.tupleExact acc.toList.toArray >>= fun v => ret v) _ _ _
  unfold Builtin.Tuple.tupleExact
  refine wpAny_bind (wpAny_newObj_type ?_ (by show acc.toList.toArray.size ≤ sizeLine; simp only [Array.toArray_toList]; rw [hacc.1]; exact hsz))
  refine wpAny_pure ?_
  have e : acc.toList.toArray = acc := by simp
  rw [e]
  exact h h' tk acc hk hacc
theorem dv_call_tuple_dict {Q : Value → Shared → Prop} (K : PySem.W.KdlSrc prog w "dict" d d n P OK) (hh : A.handled = none) (hok : OK s.heap) (hsz : n ≤ sizeLine)
    (hQ : ∀ (h' : Heap) (tk : Nat) (acc : Array Value), (∀ b o, s.heap.get? b = some o → h'.get? b = some o) → ItemsOf P acc n → Q (.ref h'.objs.size) { s with heap := h'.push { cls := .type "tuple", data := .seq acc }, toks := tk }) :
    wpAny (model prog w) A (call (.type "tuple") [.ref d]) Q E s := by
  refine callType_codes (Q₁ := fun obj s₁ => s₁.TypeIs obj "tuple" ∧ Q obj s₁) F.called_tuple (F.typeCall_tuple_1 _) F.entry_object_init
    (dv_code_tuple_dict K hh hok hsz fun h' tk acc hk hacc => ⟨⟨_, Heap.get?_push_size _ rfl, rfl⟩, hQ h' tk acc hk hacc⟩) fun obj s₁ h₁ => ?_
  exact ⟨h₁.1, F.args_object_init_2 obj _, object_init_meets F.called_tuple.init.lookup F.called_tuple.made (by decide) prog w A.in1 _ s₁ ⟨h₁.1, rfl, h₁.2⟩⟩
end
end PySem
namespace DV
open PySem PySem.Spec PyProof.Rows L2
section
variable {X : Cx} {W : WX} {a b : Expr} {p pos : Pos} {fa fb : DTE}
theorem dt_dinG {t : TE} {op : CmpOp} {neg : Bool} (hp : PT X (.Compare a [op] [b] pos) (tTest t)) (ht : ∀ σ H Q, (lift X.K W fa σ H fun y H1 => lift X.K W fb σ H1 fun x H2 => ∃ c o, x = .ref c ∧ DGet H2 c y o ∧ Q (.bl (if neg then !o.isSome else o.isSome)) H2) → t σ H Q) : DT X W (.Compare a [op] [b] pos) (dTest (dBin (gDIn neg) fa fb)) :=
  PT.imp hp fun σ H Q ⟨n, Γ, μ, Qd, Ed, hH, sr, gr, h, hq, hx⟩ => by
  subst hH
  unfold tTest
  refine ht σ n.H _ (lift_go sr gr h (fun n1 y dy μ1 s1 r1 p1 q1 => lift_go r1 (gr.step s1) q1 (fun n2 x dx μ2 s2 r2 p2 q2 => ?_) (hx.step s1)) hx)
  unfold gDIn at q2
  split at q2
  · rename_i kvs k e1 e2
    obtain ⟨c, us, rfl, h1, h2, h3⟩ := see_dct r2 p2 e1
    have hk := key_rep (s2.rep p1) e2
    subst hk
    refine ⟨c, valV us k, rfl, .inl ⟨us, k, h1, rfl, rfl⟩, ?_⟩
    rw [sm_val ⟨h2, h3⟩]
    exact ⟨_, rfl, hq n2 _ μ2 (s1.trans s2) r2 q2⟩
  · exact q2.elim
theorem dt_dnotin (hu : X.A.units + 1 < cLine) (ha : DE X W a fa) (hb : DE X W b fb) (hm : behindInMarks .NotIn b = false := by with_unfolding_all rfl) : DT X W (.Compare a [.NotIn] [b] pos) (dTest (dBin (gDIn true) fa fb)) :=
  dt_dinG (pt_cmp (pc_dnotin hu ha hb) hm) fun σ H Q h => h
/-- keys as data -/
def kD : Key → D
  | .inl i => .int i
  | .inr x => .str x
theorem reps_keys {K : PySem.W.Frag} {Hb : Hp} {al : List Addr} : ∀ (ks : List Key), Reps K Hb al (ks.map kV) (ks.map kD)
  | [] => .nil
  | .inl i :: ks => .cons (.int i) (reps_keys ks)
  | .inr x :: ks => .cons (.str x) (reps_keys ks)
theorem cr_tupleD (hcalm : X.calm = true) : CallR X (.type "tuple") (fun xs H Q => ∃ (a : Addr) (kvs : List (Key × V)), xs = [.ref a] ∧ Rd H a (.dK kvs) ∧ ∀ p, H p = none → Q (.ref p) (upd H p (.tup (kvs.map fun kv => kV kv.1)))) := by
  intro pins s σ H xs us Q I r q
  obtain ⟨a, kvs, ex, hd, q⟩ := q
  subst ex
  obtain ⟨u, eu, rx⟩ := vals1 r
  subst eu
  cases rx
  obtain ⟨z, lo, vs, rel, dd⟩ := dk_rd I.hok hd
  obtain ⟨ep, hat⟩ := dd.dictAt
  have ek : (kvs.map fun kv => kV kv.1) = vs.map fun p => kV p.1 := by
    have e := congrArg (List.map kV) rel.keys
    rw [List.map_map, List.map_map] at e
    exact e
  refine PySem.dv_call_tuple_dict (PySem.W.kdl_dict (knd := mixKind X.prog X.w) (kvs := vs) (ep := ep) lo) (I.ok.hd hcalm) hat (by rw [← rel.length]; exact z) fun h' tk acc hk hacc => ?_
  have hv : Vals (vs.map fun p => kV p.1) acc.toList := keys_at (by rw [Array.length_toList]; exact hacc.1) fun j v e => hacc.2 j v (by rw [← Array.getElem?_toList]; exact e)
  have I1 : Inv X pins σ H { s with heap := h', toks := tk } := I.kept hk
  refine ⟨.ref h'.objs.size, upd H h'.objs.size (.tup (kvs.map fun kv => kV kv.1)), I1.laid (t' := tk) (fun b u e => Heap.get?_push_of_some _ e) (Nat.le_refl _)
    (show ObjOk X.prog X.w _ _ _ (.tup (kvs.map fun kv => kV kv.1)) from ⟨by rw [List.length_map]; exact z, acc.toList, by rw [ek]; exact hv, ⟨_, Heap.get?_push_size _ rfl, rfl, _, by rw [Array.toArray_toList]⟩⟩), rfl, q _ (I1.hok.fresh (Nat.le_refl _))⟩
def gTupleD : GN := fun ds μ Q => match ds with
  | [d] => (match lk μ d with
    | .dct kvs => Q (.tup (kvs.map fun kv => kD kv.1)) μ
    | _ => False)
  | _ => False
theorem de_tupleD (hc : X.calm = true) (hg : Gl X "tuple") (hm : X.mg "tuple" = none) (ha : DE X W a fa) (hs : starEach [a] X.env = (false, eval a X.env) :: starEach [] X.env := by rfl) : DE X W (.Call (.Name "tuple" p) [a] [] pos) (dCall gTupleD (dCons fa dNil)) :=
  de_callTy (cr_tupleD hc) (fun n μ xs ds Qd Q s r q l => by
    unfold gTupleD at q
    split at q
    · cases r with
      | cons r1 r2 =>
        cases r2
        split at q
        · rename_i kvs e
          obtain ⟨c, us, rfl, h1, h2, h3⟩ := see_dct s r1 e
          refine ⟨c, us, rfl, h1, fun p hp => new_tup l s hp ?_ q⟩
          have e1 : (us.map fun kv => kV kv.1) = (kvs.map (·.1)).map kV := by rw [h2, List.map_map]; rfl
          have e2 : (kvs.map fun kv => kD kv.1) = (kvs.map (·.1)).map kD := by rw [List.map_map]; rfl
          rw [e1, e2]; exact reps_keys _
        · exact q.elim
    · exact q.elim) hg hm (by decide +kernel) (da_cons ha da_nil hs) (he := hs)
theorem le_iff {a b : Str} : leBy id (.str a) (.str b) = true ↔ a.cps.toList ≤ b.cps.toList := by
  have := congrFun (congrFun (PySem.W.dataLe_str (fun s : Str => s)) a) b
  rw [show leBy id (.str a) (.str b) = decide (a.cps.toList ≤ b.cps.toList) from this, decide_eq_true_eq]
theorem rising_pw : ∀ (l : List Str) (p : Str), risingS p l = true → (∀ x ∈ l, p.cps.toList ≤ x.cps.toList) ∧ l.Pairwise fun a b => a.cps.toList ≤ b.cps.toList
  | [], p, _ => ⟨(fun x h => by cases h), .nil⟩
  | x :: r, p, h => by
    simp only [risingS, Bool.and_eq_true, Bool.not_eq_true'] at h
    obtain ⟨h1, h2⟩ := h
    rw [ltCps_eq, decide_eq_false_iff_not] at h1
    have hp : p.cps.toList ≤ x.cps.toList := h1
    obtain ⟨i1, i2⟩ := rising_pw r x h2
    refine ⟨fun y hy => ?_, .cons i1 i2⟩
    rcases List.mem_cons.mp hy with rfl | hy
    · exact hp
    · exact List.le_trans hp (i1 y hy)
theorem sortS_of {ys ks : List Str} (hp : ys.Perm ks) (hs : sortedS ys = true) : ys = sortS ks := by
  have pw : ys.Pairwise fun a b => a.cps.toList ≤ b.cps.toList := by
    cases ys with
    | nil => exact .nil
    | cons x r => obtain ⟨a, b⟩ := rising_pw r x hs; exact .cons a b
  have ps : (sortS ks).Pairwise fun a b => a.cps.toList ≤ b.cps.toList := by
    have : List.Pairwise (fun a b => leBy id (.str a) (.str b) = true) (sortS ks) := by
      refine List.pairwise_mergeSort (fun a b c h1 h2 => ?_) (fun a b => ?_) ks
      · rw [le_iff] at *; exact List.le_trans h1 h2
      · rw [Bool.or_eq_true, le_iff, le_iff]; exact List.le_total _ _
    exact this.imp fun h => le_iff.mp h
  refine List.Perm.eq_of_pairwise (fun a b _ _ h1 h2 => str_ext (List.le_antisymm h1 h2)) pw ps (hp.trans (sortS_perm ks).symm)
/-- text keys -/
def keysS : List (Key × D) → Option (List Str)
  | [] => some []
  | (.inr x, _) :: r => (keysS r).map (x :: ·)
  | (.inl _, _) :: _ => none
theorem keysS_eq : ∀ {kvs : List (Key × D)} {ks : List Str}, keysS kvs = some ks → kvs.map (·.1) = ks.map Sum.inr
  | [], ks, h => by cases h; rfl
  | (.inr x, _) :: r, ks, h => by
    unfold keysS at h
    obtain ⟨l, h1, rfl⟩ := Option.map_eq_some_iff.mp h
    rw [List.map_cons, keysS_eq h1]; rfl
  | (.inl _, _) :: _, ks, h => by cases h
def gSortedD (fz : Bool) : GN := fun ds μ Q => match ds with
  | [d] => (match lk μ d with
    | .dct kvs => (match keysS kvs with
      | some ks => ks.length < 64 ∧ dFin fz ((sortS ks).map .str) μ Q
      | none => False)
    | _ => False)
  | _ => False
theorem de_sortedD (fz : Bool) (hc : X.calm = true) (hg : Gl X "sorted") (hm : X.mg "sorted" = none) (ha : DE X W a fa) (hs : starEach [a] X.env = (false, eval a X.env) :: starEach [] X.env := by rfl) : DE X W (.Call (.Name "sorted" p) [a] [] pos) (dCall (gSortedD fz) (dCons fa dNil)) :=
  de_callB (call_sortedD hc) (fun n μ xs ds Qd Q s r q l => by
    unfold gSortedD at q
    split at q
    · cases r with
      | cons r1 r2 =>
        cases r2
        split at q
        · rename_i kvs e
          split at q
          · rename_i ks ek
            obtain ⟨c, us, rfl, h1, h2, h3⟩ := see_dct s r1 e
            refine ⟨c, us, ks, rfl, h1, by rw [← h2]; exact keysS_eq ek, q.1, fun ys p hp hso hn => ?_⟩
            rw [sortS_of hp hso]
            exact fin_lst l s hn (reps_strs _) q.2
          · exact q.elim
        · exact q.elim
    · exact q.elim) hg hm (by decide +kernel) (da_cons ha da_nil hs) (he := hs)
theorem fin_dct {K : PySem.W.Frag} {n : Now} {Qd : D → Mu → Prop} {Q : VK} {fz : Bool} (l : LV K n Qd Q) {μ : Mu} (s : SR0 K n μ) {p : Addr} {us : List (Key × V)} {kvs : List (Key × D)} (hp : n.H p = none) (h2 : kvs.map (·.1) = us.map (·.1)) (h3 : Reps K n.Hb n.al (us.map (·.2)) (kvs.map (·.2))) (q : dFinD fz kvs μ Qd) : Q (.ref p) (upd n.H p (.dK us)) := by
  unfold dFinD at q
  cases fz with
  | true =>
    refine l (n.fix p (.dK us)) _ (.dct kvs) μ (Step.fix s hp) (s.fix hp) ?_ q
    have z : Rep K (upd n.Hb p (.dK us)) n.al (.ref p) (.dct ((us.map (·.1)).zip (kvs.map (·.2)))) := .dct (.inl upd_same) rfl (h3.mono (same_upd (s.hb hp)) (List.prefix_refl _))
    rw [zip_maps _ _ h2] at z
    exact z
  | false =>
    refine l (n.cell p (.dK us)) _ (.ref μ.length) (μ ++ [.dct kvs]) (Step.cell hp) (s.cellN hp (c := .dct kvs) ⟨s.hb hp, us, upd_same, h2, h3.mono (Same.refl _) (List.prefix_append _ _)⟩ (fun k z => by cases z)) (.ref ?_) q
    show (n.al ++ [p])[μ.length]? = _
    rw [← s.len]; simp
end
end DV
/-! Class methods, and a class called through a variable. -/
namespace DV
open PySem PySem.Spec PyProof.Rows L2 ClX
end DV
/-! for k in d, for k, v in d.items(): the dict is data, and is locked for ever when it is first walked. -/
namespace DV
open PySem PySem.Spec PyProof.Rows L2
end DV
namespace DV
open PySem PySem.Spec PyProof.Rows L2
section
variable {X : Cx} {W : WX} {e : Expr} {es : List Expr} {x : Str} {p pos : Pos} {fr : DTA} {C : Addr} {k : Nat} {ps : List Str} {S : DSp}
theorem de_makeMH (h : HasI X.prog X.w X.K X.mg X.base C x k ps S) (hr : Room (k + 1) X.A) (hg : Gl X x) (tk : L2N.Takes X W) (ha : DA X W (e :: es) fr) (hdb : (x == ("__debug__" : Str)) = false := by decide)
    (he : starEach (e :: es) X.env = (false, eval e X.env) :: starEach es X.env := by rfl) (hpl : (backTo pos (starEach es X.env)).any (·.1) = false := by rfl) : DE X W (.Call (.Name x p) (e :: es) [] pos) (dMakeM C S fr) := by
  obtain ⟨f, fd, h1, h2, h3, h4⟩ := h
  exact de_makeM h2 h4 hr hg h1 h3 tk ha hdb he hpl
end
end DV
/-! min and max of ints, list.index, d.get(k, x), dict comprehensions, global tuples of texts. -/
namespace DV
open PySem PySem.Spec PyProof.Rows L2
/-! {k: v for x in xs} -/
end DV
/-! Class methods and global tuples of texts: the head's facts, the rules. -/
namespace DV
open PySem PySem.Spec PyProof.Rows L2 ClX
/-! global tuples of texts -/
end DV
namespace K41
open PySem PySem.Spec PyProof.Rows L2 DV
def top (i : Nat) : Stmt := PySem.Challenge.pw_twochoosers_k41_longest.main.body.getD i (.Pass ⟨0, 0, 0, 0⟩)
abbrev s_BadCount__init_ : Stmt := inClass (top 6) 0
abbrev s_BadName__init_ : Stmt := inClass (top 3) 0
abbrev s_DuplicateName__init_ : Stmt := inClass (top 4) 0
abbrev s_BadWish__init_ : Stmt := inClass (top 9) 0
abbrev s_UnknownName__init_ : Stmt := inClass (top 5) 0
abbrev s_BadCell__init_ : Stmt := inClass (top 8) 0
abbrev s_UnlikeOutcomes__init_ : Stmt := inClass (top 10) 0
abbrev s_valid_name : Stmt := top 15
abbrev s_is_integer : Stmt := top 16
abbrev s_check_number : Stmt := top 19
abbrev s_check_different : Stmt := top 20
abbrev s_W_init : Stmt := inClass (top 21) 0
abbrev s_W_outcomes : Stmt := inClass (top 21) 3
abbrev s_W_prefers : Stmt := inClass (top 21) 8
abbrev s_check_length : Stmt := top 24
abbrev s_check_lines : Stmt := top 25
abbrev s_exchanged : Stmt := top 26
abbrev s_T_init : Stmt := inClass (top 28) 0
abbrev s_T_outcomes : Stmt := inClass (top 28) 3
abbrev s_T_height : Stmt := inClass (top 28) 4
abbrev s_T_width : Stmt := inClass (top 28) 5
abbrev s_T_has_cell : Stmt := inClass (top 28) 6
abbrev s_T_ix : Stmt := inClass (top 28) 7
abbrev s_cells_of : Stmt := top 30
abbrev s_check_wishes : Stmt := top 31
abbrev s_is_improvement : Stmt := top 32
abbrev s_better_cells : Stmt := top 33
abbrev s_longest : Stmt := top 35
abbrev s_start : Stmt := top 37
abbrev s_take : Stmt := top 38
abbrev s_shuffled : Stmt := top 39
abbrev s_words : Stmt := top 40
abbrev s_flipped : Stmt := top 41
abbrev s_stacked : Stmt := top 42
abbrev s_tree_grid : Stmt := top 43
abbrev s_renamed : Stmt := top 44
abbrev s_smooth_grid : Stmt := top 45
abbrev s_any_grid : Stmt := top 46
abbrev s_grid : Stmt := top 47
abbrev s_l_names : Stmt := top 48
abbrev s_l_likes : Stmt := top 49
abbrev s_l_wishes : Stmt := top 52
abbrev s_l_unlike : Stmt := top 53
abbrev s_l_cells : Stmt := top 51
abbrev s_l_better : Stmt := top 50
abbrev s_l_longest : Stmt := top 54
abbrev s_l_told41 : Stmt := top 55
abbrev s_law : Stmt := top 56
def FA : List He.Fa := ([.free "len", .free "abs", .free "int", .free "list", .free "tuple", .free "range", .free "isinstance", .free "bool", .free "sorted", .free "max", .str "LETTERS" "abcdefghijklmnopqrstuvwxyz", .str "DIGITS" "0123456789", .int "LONGEST" 6, .int "MOST_OUTCOMES" 6, .int "MOST_LINES" 8, .cls "Wishes", .cls "Table", .noat "Table" "columns", .noat "Table" "names", .noat "Table" "rows"] : List He.Fa) ++ ([.noat "Wishes" "likes", .glo "BadCell", .glo "BadCount", .glo "BadName", .glo "BadWish", .glo "DuplicateName", .glo "UnknownName", .glo "UnlikeOutcomes", .glo "ChooserError", .glo "law", .noat "BadCount" "count", .noat "BadName" "name", .noat "DuplicateName" "name", .noat "BadWish" "value", .noat "UnknownName" "name", .noat "BadCell" "value", .noat "UnlikeOutcomes" "names", .glo "valid_name", .glo "is_integer", .glo "check_number"] : List He.Fa) ++ ([.glo "check_different", .glo "Wishes", .mkr "Wishes", .meth "Wishes" "prefers", .glo "check_length", .glo "check_lines", .glo "exchanged", .glo "Table", .mkr "Table", .meth "Table" "has_cell", .meth "Table" "__getitem__", .glo "cells_of", .glo "check_wishes", .glo "is_improvement", .glo "better_cells", .glo "longest", .glo "_law_start", .glo "_law_take", .glo "_law_shuffled", .glo "_law_words"] : List He.Fa) ++ ([.glo "_law_flipped", .glo "_law_stacked", .glo "_law_tree_grid", .glo "_law_renamed", .glo "_law_smooth_grid", .glo "_law_any_grid", .glo "_law_grid", .glo "_law_names", .glo "_law_likes", .glo "_law_wishes", .glo "_law_unlike", .glo "_law_cells", .glo "_law_better", .glo "_law_longest", .glo "_law_told"] : List He.Fa)
def EX : List (PySem.W.Frag → Bool) := [xfldB .UnlikeOutcomes "names", emB [.BadName, .DuplicateName, .UnknownName, .BadCount, .BadText, .BadCell, .BadWish, .UnlikeOutcomes], baseB, errB .BadCount, errB .BadName, errB .DuplicateName, errB .BadWish, errB .UnknownName, errB .BadCell, errB .UnlikeOutcomes, propB "Wishes" "outcomes", propB "Table" "outcomes", propB "Table" "height", propB "Table" "width", fnB "Table" "__getitem__"]
def FN : List DefA := ([⟨.meth "BadCount" "__init__", "BadCount.__init__", s_BadCount__init_⟩, ⟨.meth "BadName" "__init__", "BadName.__init__", s_BadName__init_⟩, ⟨.meth "DuplicateName" "__init__", "DuplicateName.__init__", s_DuplicateName__init_⟩, ⟨.meth "BadWish" "__init__", "BadWish.__init__", s_BadWish__init_⟩, ⟨.meth "UnknownName" "__init__", "UnknownName.__init__", s_UnknownName__init_⟩, ⟨.meth "BadCell" "__init__", "BadCell.__init__", s_BadCell__init_⟩, ⟨.meth "UnlikeOutcomes" "__init__", "UnlikeOutcomes.__init__", s_UnlikeOutcomes__init_⟩, ⟨.glo "valid_name", "valid_name", s_valid_name⟩, ⟨.glo "is_integer", "is_integer", s_is_integer⟩, ⟨.glo "check_number", "check_number", s_check_number⟩, ⟨.glo "check_different", "check_different", s_check_different⟩, ⟨.meth "Wishes" "__init__", "Wishes.__init__", s_W_init⟩, ⟨.prop "Wishes" "outcomes", "Wishes.outcomes", s_W_outcomes⟩, ⟨.meth "Wishes" "prefers", "Wishes.prefers", s_W_prefers⟩, ⟨.glo "check_length", "check_length", s_check_length⟩, ⟨.glo "check_lines", "check_lines", s_check_lines⟩, ⟨.glo "exchanged", "exchanged", s_exchanged⟩, ⟨.meth "Table" "__init__", "Table.__init__", s_T_init⟩, ⟨.prop "Table" "outcomes", "Table.outcomes", s_T_outcomes⟩, ⟨.prop "Table" "height", "Table.height", s_T_height⟩] : List DefA) ++ ([⟨.prop "Table" "width", "Table.width", s_T_width⟩, ⟨.meth "Table" "has_cell", "Table.has_cell", s_T_has_cell⟩, ⟨.meth "Table" "__getitem__", "Table.__getitem__", s_T_ix⟩, ⟨.glo "cells_of", "cells_of", s_cells_of⟩, ⟨.glo "check_wishes", "check_wishes", s_check_wishes⟩, ⟨.glo "is_improvement", "is_improvement", s_is_improvement⟩, ⟨.glo "better_cells", "better_cells", s_better_cells⟩, ⟨.glo "longest", "longest", s_longest⟩, ⟨.glo "_law_start", "_law_start", s_start⟩, ⟨.glo "_law_take", "_law_take", s_take⟩, ⟨.glo "_law_shuffled", "_law_shuffled", s_shuffled⟩, ⟨.glo "_law_words", "_law_words", s_words⟩, ⟨.glo "_law_flipped", "_law_flipped", s_flipped⟩, ⟨.glo "_law_stacked", "_law_stacked", s_stacked⟩, ⟨.glo "_law_tree_grid", "_law_tree_grid", s_tree_grid⟩, ⟨.glo "_law_renamed", "_law_renamed", s_renamed⟩, ⟨.glo "_law_smooth_grid", "_law_smooth_grid", s_smooth_grid⟩, ⟨.glo "_law_any_grid", "_law_any_grid", s_any_grid⟩, ⟨.glo "_law_grid", "_law_grid", s_grid⟩, ⟨.glo "_law_names", "_law_names", s_l_names⟩] : List DefA) ++ ([⟨.glo "_law_likes", "_law_likes", s_l_likes⟩, ⟨.glo "_law_wishes", "_law_wishes", s_l_wishes⟩, ⟨.glo "_law_unlike", "_law_unlike", s_l_unlike⟩, ⟨.glo "_law_cells", "_law_cells", s_l_cells⟩, ⟨.glo "_law_better", "_law_better", s_l_better⟩, ⟨.glo "_law_longest", "_law_longest", s_l_longest⟩, ⟨.glo "_law_told", "_law_told", s_l_told41⟩, ⟨.glo "law", "law", s_law⟩] : List DefA)
abbrev R : PySem.W.OpenRow := PySem.W.OpenLaw.row PySem.Challenge.rw_twochoosers_k41_longest
def NM : Names := ⟨[Str.ofString "valid_name", Str.ofString "is_integer", Str.ofString "check_number", Str.ofString "check_different", Str.ofString "check_length", Str.ofString "check_lines", Str.ofString "exchanged", Str.ofString "cells_of", Str.ofString "check_wishes", Str.ofString "is_improvement", Str.ofString "better_cells", Str.ofString "longest", Str.ofString "_law_start", Str.ofString "_law_take", Str.ofString "_law_shuffled", Str.ofString "_law_words", Str.ofString "_law_flipped", Str.ofString "_law_stacked", Str.ofString "_law_tree_grid", Str.ofString "_law_renamed", Str.ofString "_law_smooth_grid", Str.ofString "_law_any_grid", Str.ofString "_law_grid", Str.ofString "_law_names", Str.ofString "_law_likes", Str.ofString "_law_wishes", Str.ofString "_law_unlike", Str.ofString "_law_cells", Str.ofString "_law_better", Str.ofString "_law_longest", Str.ofString "_law_told", Str.ofString "law", Str.ofString "Table", Str.ofString "Wishes", Str.ofString "ChooserError", Str.ofString "BadName", Str.ofString "DuplicateName", Str.ofString "UnknownName", Str.ofString "BadCount", Str.ofString "BadText", Str.ofString "BadCell", Str.ofString "BadWish", Str.ofString "UnlikeOutcomes"], [(Str.ofString "BadCount", Str.ofString "__init__"), (Str.ofString "BadName", Str.ofString "__init__"), (Str.ofString "DuplicateName", Str.ofString "__init__"), (Str.ofString "BadWish", Str.ofString "__init__"), (Str.ofString "UnknownName", Str.ofString "__init__"), (Str.ofString "BadCell", Str.ofString "__init__"), (Str.ofString "UnlikeOutcomes", Str.ofString "__init__"), (Str.ofString "Wishes", Str.ofString "__init__"), (Str.ofString "Wishes", Str.ofString "prefers"), (Str.ofString "Table", Str.ofString "__init__"), (Str.ofString "Table", Str.ofString "has_cell"), (Str.ofString "Table", Str.ofString "__getitem__")], [(Str.ofString "Wishes", Str.ofString "outcomes"), (Str.ofString "Table", Str.ofString "outcomes"), (Str.ofString "Table", Str.ofString "height"), (Str.ofString "Table", Str.ofString "width")]⟩
abbrev hk : PySem.W.Hook := hookA NM FA EX FN
def ob (s : PySem.W.SharedT) : AlA := obsAG NM FA EX FN (HandSHeadRun.getT s)
theorem ob_eq (s : PySem.W.SharedT) : ob s = hk.obs s.abs := obsAG_eq (HandSHeadRun.getT_eq s)
def loose : List Str := ([Str.ofString "_wall", Str.ofString "ChooserError", Str.ofString "BadName", Str.ofString "DuplicateName", Str.ofString "UnknownName", Str.ofString "BadCount", Str.ofString "BadText", Str.ofString "BadCell", Str.ofString "BadWish", Str.ofString "UnlikeOutcomes", Str.ofString "LETTERS", Str.ofString "DIGITS", Str.ofString "LONGEST", Str.ofString "valid_name", Str.ofString "is_integer", Str.ofString "MOST_OUTCOMES", Str.ofString "check_number", Str.ofString "check_different", Str.ofString "Wishes", Str.ofString "MOST_LINES"] : List Str) ++ ([Str.ofString "check_length", Str.ofString "check_lines", Str.ofString "exchanged", Str.ofString "is_word", Str.ofString "Table", Str.ofString "cells_of", Str.ofString "check_wishes", Str.ofString "is_improvement", Str.ofString "better_cells", Str.ofString "longest", Str.ofString "_law_start", Str.ofString "_law_take", Str.ofString "_law_shuffled", Str.ofString "_law_words", Str.ofString "_law_flipped", Str.ofString "_law_stacked", Str.ofString "_law_tree_grid", Str.ofString "_law_renamed", Str.ofString "_law_smooth_grid", Str.ofString "_law_any_grid"] : List Str) ++ ([Str.ofString "_law_grid", Str.ofString "_law_names", Str.ofString "_law_likes", Str.ofString "_law_better", Str.ofString "_law_cells", Str.ofString "_law_wishes", Str.ofString "_law_unlike", Str.ofString "_law_longest", Str.ofString "_law_told"] : List Str)
theorem run (w : World) : HandSHeadRun.RunEq R (PySem.W.view R.prog [56]) hk ob 9000 loose w := by
  intro os
  kernel_rfl
end K41
/-! Grids of words: lists of lists of texts, as data or in cells. -/
namespace DV
open PySem PySem.Spec PyProof.Rows L2
/-- a list, as data or in a cell that p allows -/
def See (p : Nat → Prop) (μ : Mu) (d : D) (xs : List D) : Prop := d = .lst xs ∨ ∃ l, d = .ref l ∧ p l ∧ μ[l]? = some (.lst xs)
section
variable {p q : Nat → Prop} {μ ext : Mu} {d : D} {xs : List D}
theorem See.lk (h : See p μ d xs) : lk μ d = .lst xs := by
  rcases h with rfl | ⟨l, rfl, _, e⟩
  · rfl
  · exact lk_cell e
theorem See.imp (h : See p μ d xs) (hp : ∀ l, p l → q l) : See q μ d xs := by
  rcases h with h | ⟨l, h1, h2, h3⟩
  · exact .inl h
  · exact .inr ⟨l, h1, hp l h2, h3⟩
theorem See.app (h : See p μ d xs) (ext : Mu) : See p (μ ++ ext) d xs := by
  rcases h with h | ⟨l, h1, h2, h3⟩
  · exact .inl h
  · exact .inr ⟨l, h1, h2, by rw [List.getElem?_append_left (List.getElem?_eq_some_iff.mp h3).1]; exact h3⟩
theorem See.set (h : See p μ d xs) {l : Nat} (hl : ¬ p l) (c : Cell) : See p (μ.set l c) d xs := by
  rcases h with h | ⟨m, h1, h2, h3⟩
  · exact .inl h
  · exact .inr ⟨m, h1, h2, by rw [List.getElem?_set_ne (show l ≠ m from fun z => hl (z ▸ h2))]; exact h3⟩
theorem See.fun_ {ys : List D} (h : See p μ d xs) (h2 : See q μ d ys) : xs = ys := by
  have := h.lk.symm.trans h2.lk
  cases this; rfl
end
def GSee (p : Nat → Prop) (μ : Mu) (d : D) (g : List (List Str)) : Prop := ∃ rows, See p μ d rows ∧ rows.length = g.length ∧ ∀ (i : Nat) s, g[i]? = some s → ∃ r, rows[i]? = some r ∧ See p μ r (s.map .str)
def GCell (p : Nat → Prop) (μ : Mu) (d : D) (g : List (List Str)) : Prop := ∃ lo rows, d = .ref lo ∧ p lo ∧ μ[lo]? = some (.lst rows) ∧ rows.length = g.length ∧ ∀ (i : Nat) s, g[i]? = some s → ∃ l, rows[i]? = some (.ref l) ∧ p l ∧ μ[l]? = some (.lst (s.map .str))
def gridD (g : List (List Str)) : D := .lst (g.map fun s => .lst (s.map .str))
section
variable {p q : Nat → Prop} {μ : Mu} {d : D} {g : List (List Str)}
theorem GCell.see (h : GCell p μ d g) : GSee p μ d g := by
  obtain ⟨lo, rows, h1, h2, h3, h4, h5⟩ := h
  refine ⟨rows, .inr ⟨lo, h1, h2, h3⟩, h4, fun i s e => ?_⟩
  obtain ⟨l, e1, e2, e3⟩ := h5 i s e
  exact ⟨_, e1, .inr ⟨l, rfl, e2, e3⟩⟩
theorem GSee.data : GSee p μ (gridD g) g := ⟨_, .inl rfl, by simp, fun i s e => ⟨_, by rw [List.getElem?_map, e]; rfl, .inl rfl⟩⟩
theorem GSee.imp (h : GSee p μ d g) (hp : ∀ l, p l → q l) : GSee q μ d g := by
  obtain ⟨rows, h1, h2, h3⟩ := h
  exact ⟨rows, h1.imp hp, h2, fun i s e => let ⟨r, a, b⟩ := h3 i s e; ⟨r, a, b.imp hp⟩⟩
theorem GSee.app (h : GSee p μ d g) (ext : Mu) : GSee p (μ ++ ext) d g := by
  obtain ⟨rows, h1, h2, h3⟩ := h
  exact ⟨rows, h1.app ext, h2, fun i s e => let ⟨r, a, b⟩ := h3 i s e; ⟨r, a, b.app ext⟩⟩
theorem GCell.imp (h : GCell p μ d g) (hp : ∀ l, p l → q l) : GCell q μ d g := by
  obtain ⟨lo, rows, h1, h2, h3, h4, h5⟩ := h
  exact ⟨lo, rows, h1, hp _ h2, h3, h4, fun i s e => let ⟨l, a, b, c⟩ := h5 i s e; ⟨l, a, hp _ b, c⟩⟩
theorem get_app {μ ext : Mu} {l : Nat} {c : Cell} (h : μ[l]? = some c) : (μ ++ ext)[l]? = some c := by
  rw [List.getElem?_append_left (List.getElem?_eq_some_iff.mp h).1]; exact h
theorem GCell.app (h : GCell p μ d g) (ext : Mu) : GCell p (μ ++ ext) d g := by
  obtain ⟨lo, rows, h1, h2, h3, h4, h5⟩ := h
  exact ⟨lo, rows, h1, h2, get_app h3, h4, fun i s e => let ⟨l, a, b, c⟩ := h5 i s e; ⟨l, a, b, get_app c⟩⟩
theorem GCell.set (h : GCell p μ d g) {l : Nat} (hl : ¬ p l) (c : Cell) : GCell p (μ.set l c) d g := by
  obtain ⟨lo, rows, h1, h2, h3, h4, h5⟩ := h
  have q : ∀ m, p m → (μ.set l c)[m]? = μ[m]? := fun m hm => List.getElem?_set_ne (show l ≠ m from fun z => hl (z ▸ hm))
  exact ⟨lo, rows, h1, h2, (q _ h2).trans h3, h4, fun i s e => let ⟨l, a, b, c⟩ := h5 i s e; ⟨l, a, b, (q _ b).trans c⟩⟩
theorem GCell.orc (h : GCell p μ d g) {c c' : Nat × Bool} {ρ : Mu} (e : μ = .orc c :: ρ) : GCell p (.orc c' :: ρ) d g := by
  subst e
  obtain ⟨lo, rows, h1, h2, h3, h4, h5⟩ := h
  have q : ∀ (m : Nat) xs, (Cell.orc c :: ρ)[m]? = some (.lst xs) → (Cell.orc c' :: ρ)[m]? = some (.lst xs) := fun m xs e => by
    cases m with
    | zero => cases e
    | succ m => exact e
  exact ⟨lo, rows, h1, h2, q _ _ h3, h4, fun i s e => let ⟨l, a, b, c⟩ := h5 i s e; ⟨l, a, b, q _ _ c⟩⟩
theorem GSee.orc (h : GSee p μ d g) {c c' : Nat × Bool} {ρ : Mu} (e : μ = .orc c :: ρ) : GSee p (.orc c' :: ρ) d g := by
  subst e
  obtain ⟨rows, h1, h2, h3⟩ := h
  have q : ∀ (d : D) xs, See p (Cell.orc c :: ρ) d xs → See p (Cell.orc c' :: ρ) d xs := fun d xs e => by
    rcases e with e | ⟨l, e1, e2, e3⟩
    · exact .inl e
    · refine .inr ⟨l, e1, e2, ?_⟩
      cases l with
      | zero => cases e3
      | succ m => exact e3
  exact ⟨rows, q _ _ h1, h2, fun i s e => let ⟨r, a, b⟩ := h3 i s e; ⟨r, a, q _ _ b⟩⟩
end
def wid (g : List (List Str)) : Nat := (g.headD []).length
def flip (g : List (List Str)) : List (List Str) := (List.range (wid g)).map fun k => g.map fun r => r.getD k Str.empty
/-- a grid of words: at most n lines a side -/
structure GB (W : List Str) (n : Nat) (g : List (List Str)) : Prop where
  h1 : 1 ≤ g.length
  h2 : g.length ≤ n
  w1 : 1 ≤ wid g
  w2 : wid g ≤ n
  eq : ∀ r ∈ g, r.length = wid g
  mem : ∀ r ∈ g, ∀ x ∈ r, x ∈ W
section
variable {W : List Str} {n : Nat} {g : List (List Str)}
theorem flip_len : (flip g).length = wid g := by simp [flip]
theorem flip_wid (h : 1 ≤ wid g) : wid (flip g) = g.length := by
  unfold flip
  obtain ⟨k, hk⟩ : ∃ k, wid g = k + 1 := ⟨wid g - 1, by omega⟩
  rw [hk, List.range_succ_eq_map]
  simp [wid]
theorem flip_get {k : Nat} (h : k < wid g) : (flip g)[k]? = some (g.map fun r => r.getD k Str.empty) := by
  unfold flip
  rw [List.getElem?_map, List.getElem?_range h]; rfl
theorem GB.flip (h : GB W n g) : GB W n (flip g) := by
  have hw := flip_wid h.w1
  refine ⟨by rw [flip_len]; exact h.w1, by rw [flip_len]; exact h.w2, by rw [hw]; exact h.h1, by rw [hw]; exact h.h2, fun r hr => ?_, fun r hr x hx => ?_⟩
  · rw [hw]
    obtain ⟨k, _, rfl⟩ := List.mem_map.mp hr
    simp
  · obtain ⟨k, hk, rfl⟩ := List.mem_map.mp hr
    obtain ⟨s, hs, rfl⟩ := List.mem_map.mp hx
    have hl := h.eq s hs
    rw [List.mem_range] at hk
    rw [List.getD_eq_getElem?_getD, List.getElem?_eq_getElem (by omega)]
    exact h.mem s hs _ (List.getElem_mem _)
theorem GB.mono {m : Nat} (h : GB W n g) (hm : n ≤ m) : GB W m g := ⟨h.h1, Nat.le_trans h.h2 hm, h.w1, Nat.le_trans h.w2 hm, h.eq, h.mem⟩
theorem GB.shrink {m : Nat} (h : GB W n g) (h1 : g.length ≤ m) (h2 : wid g ≤ m) : GB W m g := ⟨h.h1, h1, h.w1, h2, h.eq, h.mem⟩
theorem GB.get0 (h : GB W n g) : ∃ s, g[0]? = some s ∧ s.length = wid g := by
  cases g with
  | nil => exact absurd h.h1 (by simp)
  | cons s r => exact ⟨s, rfl, rfl⟩
end
/-! ### evaluation of small things -/
theorem atI_ix {α : Type} {xs : List α} {i : Nat} {d : α} (h : xs[i]? = some d) : atI xs (i : Int) = some d := atI_nat' (by omega) (by simpa using h)
section
variable {p : Nat → Prop} {μ : Mu} {d : D} {xs : List D} {Γ : Gam} {fa fb : DTE}
theorem ev_ix (h : See p μ d xs) {i : Nat} {x : D} (hx : xs[i]? = some x) (Q : D → Mu → Prop) : gIx d (.int (i : Int)) μ Q = Q x μ := by
  unfold gIx; rw [h.lk]; dsimp only; rw [atI_ix hx]
theorem ev_ix0 (h : See p μ d xs) {x : D} (hx : xs[0]? = some x) (Q : D → Mu → Prop) : gIx d (.int 0) μ Q = Q x μ := ev_ix h hx Q
theorem ev_len (h : See p μ d xs) (Q : D → Mu → Prop) : gLen [d] μ Q = Q (.int xs.length) μ := by
  unfold gLen; dsimp only; rw [h.lk]
theorem ev_wid {W : List Str} {n : Nat} {g : List (List Str)} (h : GSee p μ d g) (hg : GB W n g) (hf : ∀ Q E, fa Γ μ Q E = Q d μ) (Q : D → Mu → Prop) (E : Exn → Mu → Prop) : dCall gLen (dCons (dBin gIx fa (dC (.int 0))) dNil) Γ μ Q E = Q (.int (wid g)) μ := by
  obtain ⟨rows, h1, h2, h3⟩ := h
  obtain ⟨s, hs, hw⟩ := hg.get0
  obtain ⟨r, hr, hr2⟩ := h3 0 s hs
  show fa Γ μ (fun x μ1 => gIx x (.int 0) μ1 fun y μ2 => gLen [y] μ2 Q) E = _
  rw [hf, ev_ix0 h1 hr, ev_len hr2, List.length_map, hw]
theorem ev_iter (h : See p μ d xs) (hf : ∀ Q E, fa Γ μ Q E = Q d μ) : ∃ src, (∀ ext, Gd src (μ ++ ext)) ∧ ∀ Q E, dIter fa Γ μ Q E = Q src xs μ := by
  rcases h with rfl | ⟨l, rfl, _, e⟩
  · exact ⟨none, fun _ => trivial, fun Q E => by unfold dIter; rw [hf]⟩
  · exact ⟨some (l, xs), fun ext => get_app e, fun Q E => by unfold dIter; rw [hf]; dsimp only; rw [e]⟩
end
/-- a comprehension that changes nothing: its items told ahead -/
theorem comp_list {src : Option (Nat × List D)} {g : D → Gam → Mu → (Gam → Prop) → Prop} {tt : DTT} {te : DTE} {Γ : Gam} {μ : Mu} {Q : List D → Mu → Prop} (ys : List D) {ds : List D} (hG : Gd src μ) (hl : ds.length = ys.length) (hs : ds.length ≤ sizeLine)
    (step : ∀ (i : Nat) d y, ds[i]? = some d → ys[i]? = some y → ∀ (K1 : D → Mu → Prop) (K2 : Mu → Prop), K1 y μ → g d Γ μ fun Γ1 => tt Γ1 μ (fun b μ2 => cond b (te Γ1 μ2 K1 fun _ _ => False) (K2 μ2)) fun _ _ => False) (q : Q ys μ) : dCompL src g tt te Γ ds [] μ Q := by
  refine comp_inv (fun i acc μ' => acc = ys.take i ∧ μ' = μ) ⟨by simp, rfl⟩ hs ?_ ?_
  · rintro i d acc μ' hd ⟨rfl, rfl⟩
    have hi : i < ys.length := by rw [← hl]; exact (List.getElem?_eq_some_iff.mp hd).1
    refine ⟨hG, fun K1 K2 k1 k2 => step i d ys[i] hd (List.getElem?_eq_getElem hi) K1 K2 (k1 _ _ ⟨?_, rfl⟩)⟩
    rw [List.take_succ, List.getElem?_eq_getElem hi]; rfl
  · rintro acc μ' ⟨rfl, rfl⟩
    rw [hl, List.take_length]
    exact ⟨hG, q⟩
/-- the same with one new cell an item -/
theorem comp_cells {src : Option (Nat × List D)} {g : D → Gam → Mu → (Gam → Prop) → Prop} {tt : DTT} {te : DTE} {Γ : Gam} {μ : Mu} {Q : List D → Mu → Prop} (cs : List Cell) {ds : List D} (hG : ∀ ext, Gd src (μ ++ ext)) (hl : ds.length = cs.length) (hs : ds.length ≤ sizeLine)
    (step : ∀ (i : Nat) d c μ', ds[i]? = some d → cs[i]? = some c → μ' = μ ++ cs.take i → ∀ (K1 : D → Mu → Prop) (K2 : Mu → Prop), K1 (.ref μ'.length) (μ' ++ [c]) → g d Γ μ' fun Γ1 => tt Γ1 μ' (fun b μ2 => cond b (te Γ1 μ2 K1 fun _ _ => False) (K2 μ2)) fun _ _ => False)
    (q : Q ((List.range cs.length).map fun i => .ref (μ.length + i)) (μ ++ cs)) : dCompL src g tt te Γ ds [] μ Q := by
  refine comp_inv (fun i acc μ' => acc = ((List.range i).map fun i => D.ref (μ.length + i)) ∧ μ' = μ ++ cs.take i) ⟨by simp, by simp⟩ hs ?_ ?_
  · rintro i d acc μ' hd ⟨rfl, rfl⟩
    have hi : i < cs.length := by rw [← hl]; exact (List.getElem?_eq_some_iff.mp hd).1
    refine ⟨hG _, fun K1 K2 k1 k2 => step i d cs[i] _ hd (List.getElem?_eq_getElem hi) rfl K1 K2 (k1 _ _ ⟨?_, ?_⟩)⟩
    · rw [List.range_succ, List.map_append, List.length_append, List.length_take, Nat.min_eq_left (by omega)]; rfl
    · rw [List.take_succ, List.getElem?_eq_getElem hi, List.append_assoc]; rfl
  · rintro acc μ' ⟨rfl, rfl⟩
    rw [hl, List.take_length]
    exact ⟨hG _, q⟩
def rowC (s : List Str) : Cell := .lst (s.map .str)
theorem gcell_new {μ : Mu} {g : List (List Str)} {p : Nat → Prop} (hp : ∀ l, μ.length ≤ l → p l) : GCell p (μ ++ g.map rowC ++ [.lst ((List.range g.length).map fun i => .ref (μ.length + i))]) (.ref (μ.length + g.length)) g := by
  refine ⟨_, (List.range g.length).map fun i => .ref (μ.length + i), rfl, hp _ (by omega), by rw [List.getElem?_append_right (by simp)]; simp, by simp, fun i s e => ?_⟩
  have hi : i < g.length := (List.getElem?_eq_some_iff.mp e).1
  refine ⟨μ.length + i, by rw [List.getElem?_map, List.getElem?_range hi]; rfl, hp _ (by omega), get_app ?_⟩
  rw [List.getElem?_append_right (by omega), show μ.length + i - μ.length = i from by omega, List.getElem?_map, e]; rfl
/-- a grid in cells becomes data at a def's end -/
theorem gfz {μ1 loc : Mu} {d : D} {g : List (List Str)} (h : GSee (fun l => μ1.length ≤ l) (μ1 ++ loc) d g) : Fz μ1.length (μ1 ++ loc) d (gridD g) := by
  obtain ⟨rows, h1, h2, h3⟩ := h
  have pu : ∀ s : List Str, FzL μ1.length (μ1 ++ loc) (s.map D.str) (s.map D.str) := fun s => by
    induction s with
    | nil => exact .nil
    | cons a s ih => exact .cons (.pu rfl) ih
  have rw_ : ∀ r (s : List Str), See (fun l => μ1.length ≤ l) (μ1 ++ loc) r (s.map .str) → Fz μ1.length (μ1 ++ loc) r (.lst (s.map .str)) := fun r s e => by
    rcases e with rfl | ⟨l, rfl, e1, e2⟩
    · exact .lst (pu s)
    · exact .cell e1 e2 (pu s)
  have all : FzL μ1.length (μ1 ++ loc) rows (g.map fun s => .lst (s.map .str)) := by
    clear h1
    induction g generalizing rows with
    | nil =>
      have : rows = [] := List.eq_nil_of_length_eq_zero h2
      subst this; exact .nil
    | cons s g ih =>
      cases rows with
      | nil => simp at h2
      | cons r rows =>
        obtain ⟨r', e1, e2⟩ := h3 0 s rfl
        cases e1
        exact .cons (rw_ _ _ e2) (ih rows (by simpa using h2) fun i t e => h3 (i + 1) t e)
  rcases h1 with rfl | ⟨l, rfl, e1, e2⟩
  · exact .lst all
  · exact .cell e1 e2 all
section
variable {α : Type} {ρ r : List α} {x y z w u : α}
theorem get_a0 : (ρ ++ x :: r)[ρ.length]? = some x := by rw [List.getElem?_append_right (Nat.le_refl _)]; simp
theorem get_a1 : (ρ ++ x :: y :: r)[ρ.length + 1]? = some y := by rw [List.getElem?_append_right (by omega), show ρ.length + 1 - ρ.length = 1 from by omega]; rfl
theorem get_a2 : (ρ ++ x :: y :: z :: r)[ρ.length + 2]? = some z := by rw [List.getElem?_append_right (by omega), show ρ.length + 2 - ρ.length = 2 from by omega]; rfl
theorem get_a3 : (ρ ++ x :: y :: z :: w :: r)[ρ.length + 3]? = some w := by rw [List.getElem?_append_right (by omega), show ρ.length + 3 - ρ.length = 3 from by omega]; rfl
theorem set_a0 : (ρ ++ x :: r).set ρ.length u = ρ ++ u :: r := by rw [List.set_append_right _ _ (Nat.le_refl _)]; simp
theorem set_a1 : (ρ ++ x :: y :: r).set (ρ.length + 1) u = ρ ++ x :: u :: r := by rw [List.set_append_right _ _ (by omega), show ρ.length + 1 - ρ.length = 1 from by omega]; rfl
theorem set_a2 : (ρ ++ x :: y :: z :: r).set (ρ.length + 2) u = ρ ++ x :: y :: u :: r := by rw [List.set_append_right _ _ (by omega), show ρ.length + 2 - ρ.length = 2 from by omega]; rfl
theorem set_a3 : (ρ ++ x :: y :: z :: w :: r).set (ρ.length + 3) u = ρ ++ x :: y :: z :: u :: r := by rw [List.set_append_right _ _ (by omega), show ρ.length + 3 - ρ.length = 3 from by omega]; rfl
end
end DV
local macro_rules | `(tactic| walk_at "dv") => `(tactic| try simp only [DV.dSeq, DV.dIf, DV.dOrT, DV.dAndT, DV.dNotT, DV.dTest, DV.dChain, DV.dC, DV.dCall, DV.gLen, DV.dCons, DV.dVar, DV.dNil, DV.dBin, DV.dUn, DV.gNeg, DV.gIn, DV.gIx, DV.dRet, DV.dRetN, DV.dNext, DV.dFor, DV.dIter, DV.dName, DV.lk, DV.dAsg, DV.dDrop, DV.gLst, DV.gTup, DV.gLstM, DV.gAdd, DV.gI, DV.gMod, DV.gMul, DV.gFdiv, DV.gPow, DV.gAbs, DV.gInt, DV.gList, DV.gTuple, DV.dOp, DV.dOpK, DV.dIsi, DV.tyD, DV.gIs, DV.gIsNot, DV.D.isN, DV.dJoin, DV.dCellM, DV.dSetI, DV.dSlice, DV.dPart, DV.dNoPart, DV.dRevA, DV.dFin, DV.dAugI, DV.dComp, DV.wipeG, DV.cName, DV.cPair, DV.dYes, DV.dRange1, DV.dRange2, DV.dAnd, DV.dOr, DV.dNot, DV.dIfE, DV.gEq, DV.gNe, DV.sgn_one, DV.atI_zero, DV.dTruth, DV.truD, DV.dBreak, DV.dCont, DV.gSorted, DV.dSortK, DV.dRevT, DV.gInD, DV.gIsB, DV.gStr, DV.dPop0, DV.dDict, DV.dPairs, DV.keysD, DV.keyOfD, DV.dFinD, DV.dFld, DV.dSetF, DV.dMake, DV.dMethod, DV.dProp, DV.dOwnIx, DV.dNever, DV.dRaise, DV.dRaise0, DV.gMulM, DV.gAddM, DV.gMax2, DV.dPair, DV.gDGet, DV.dSetD, DV.dDict0, DV.dComp2, DV.dSortSC, DV.isIns, DV.insOf,
  List.getElem?_cons_zero, List.getElem?_cons_succ, List.set_cons_zero, List.set_cons_succ, List.map_cons, List.map_nil, List.length_cons, List.length_nil, List.replicate, List.cons_append, List.nil_append, DV.start0, if_true, if_false, Bool.not_true, Bool.not_false, Bool.false_eq_true, Bool.true_and, Bool.and_true, Bool.or_true, Bool.true_or, Bool.false_or, Bool.or_false, eq_self_iff_true, not_true_eq_false, not_false_eq_true, ite_true, ite_false, cond_true, cond_false])
local macro_rules | `(tactic| walk_at "ix") => `(tactic| try simp only [List.length_append, List.length_cons, List.length_nil, List.length_map, Nat.zero_add, Nat.add_zero, Nat.add_assoc, Nat.reduceAdd, List.getElem?_cons_zero, List.getElem?_cons_succ, List.set_cons_zero, List.set_cons_succ, DV.get_a0, DV.get_a1, DV.get_a2, DV.get_a3, DV.set_a0, DV.set_a1, DV.set_a2, DV.set_a3, List.append_assoc, List.cons_append, List.nil_append])
local macro_rules | `(tactic| walk_at "sz") => `(tactic| (first | decide | omega | (rw [L2.sizeLine_eq]; first | decide | omega | (simp only [List.length_map, List.length_cons, List.length_nil, List.length_append]; omega) | (simp; omega) | simp) | (simp; omega)))
namespace DV
open PySem PySem.Spec PyProof.Rows L2
/-- cells with the oracle at their head -/
abbrev O (c : Nat) (ρ : Mu) : Mu := Cell.orc (c, false) :: ρ
theorem take_O {c : Nat} {ρ : Mu} {m : Int} {Q : D → Mu → Prop} {E : Exn → Mu → Prop} (hc : 0 < c) (hm : 0 < m) (hm2 : m.natAbs < 2 ^ 60) (q : ∀ c' d, c ≤ c' + 1 → 0 ≤ d → d < m → Q (.int d) (O c' ρ)) : S_take [.ref 0, .int m] (O c ρ) Q E :=
  ⟨0, c - 1, m, rfl, by show some (Cell.orc (c, false)) = _; rw [show c - 1 + 1 = c from by omega], hm, Nat.lt_of_lt_of_le (PySem.Flt.log2_lt_of (by decide) hm2) (by decide), fun d h1 h2 => q _ d (by omega) h1 h2⟩
theorem pop_at {xs : List D} {i : Int} (h0 : 0 ≤ i) (h1 : i < xs.length) (hl : xs.length ≤ 1000000) : ∃ y, xs[i.toNat]? = some y ∧ cPop xs [.int i] = some (y, xs.eraseIdx i.toNat) := by
  have h : i.toNat < xs.length := by omega
  refine ⟨xs[i.toNat], List.getElem?_eq_getElem h, ?_⟩
  unfold cPop
  dsimp only
  rw [if_pos (by omega)]
  have e : seqIndex? i xs.length = some i.toNat := by
    unfold seqIndex?
    simp only []
    split
    · rename_i h; omega
    · first | rfl | (split <;> first | rfl | omega) | (simp; omega)
  rw [e]
  dsimp only
  rw [List.getElem?_eq_getElem h]; rfl
theorem perm_pop {α : Type} {xs : List α} {i : Nat} {y : α} (h : xs[i]? = some y) : (y :: xs.eraseIdx i).Perm xs := by
  obtain ⟨h1, rfl⟩ := List.getElem?_eq_some_iff.mp h
  induction xs generalizing i with
  | nil => simp at h1
  | cons a xs ih =>
    cases i with
    | zero => exact .refl _
    | succ i =>
      simp only [List.eraseIdx_cons_succ, List.getElem_cons_succ]
      have h2 : i < xs.length := by simpa using h1
      exact (List.Perm.swap _ _ _).trans ((ih h2 (List.getElem?_eq_getElem h2)).cons a)
theorem append_at {xs : List D} {d : D} (h : xs.length < 1000000) : cAppend xs [d] = some (.non, xs ++ [d]) := by
  unfold cAppend
  dsimp only
  rw [if_pos (by rw [sizeLine_eq]; omega)]
def S_shuffled : DSp := fun ds μ Q _ => ∃ c ρ d xs, ds = [.ref 0, d] ∧ μ = O c ρ ∧ (d = .lst xs ∨ d = .tup xs) ∧ D.puL xs = true ∧ xs.length ≤ 1000 ∧ xs.length ≤ c ∧ ∀ c' ys, c ≤ c' + xs.length → ys.Perm xs → Q (.lst ys) (O c' ρ)
def t_shuffled : DTS := dSeq (dAsg (dCall (gList false) (dCons (dVar 1) dNil)) (dName 2)) (dSeq (dAsg (dCall gLstM (dNil)) (dName 3)) (dSeq (dFor (dRange1 (dCall gLen (dCons (dVar 1) dNil))) (dName 4) (dDrop (dCellM cAppend (dVar 3) (dCons (dCellM cPop (dVar 2) (dCons (dOp S_take (dCons (dVar 0) (dCons (dCall gLen (dCons (dVar 2) dNil)) (dNil)))) dNil)) dNil)))) (dRet (dVar 3))))
theorem rd_shuffled {n1 n2 n3 n4 n5 : Str} : ∀ ds μ Q E, S_shuffled ds μ Q E → t_shuffled (dFn μ Q E) (start0 [n1, n2, n3, n4, n5] ds) μ := by
  rintro _ _ Q E ⟨c, ρ, d, xs, rfl, rfl, hd, hpu, hl, hc, q⟩
  have e1 : lk (O c ρ) d = .lst xs ∨ lk (O c ρ) d = .tup xs := by rcases hd with rfl | rfl <;> simp [lk]
  have e2 : ∀ Q', gList false [d] (O c ρ) Q' = Q' (.ref (ρ.length + 1)) (O c (ρ ++ [.lst xs])) := fun Q' => by
    unfold gList; dsimp only
    rcases e1 with e | e <;> rw [e] <;> rfl
  have e3 : ∀ μ' Q', gLen [d] μ' Q' = Q' (.int xs.length) μ' := fun μ' Q' => by
    unfold gLen; rcases hd with rfl | rfl <;> rfl
  unfold t_shuffled
  simp only [dSeq, dAsg, dCall, dCons, dNil, dVar, start0, List.map_cons, List.map_nil, List.length_cons, List.length_nil, List.replicate, List.cons_append, List.nil_append, List.getElem?_cons_zero, List.getElem?_cons_succ, e2, dName, List.set_cons_succ, List.set_cons_zero, gLstM, dFor, dRange1, e3]
  refine ⟨by rw [sizeLine_eq]; decide, by omega, ?_⟩
  walk_at "ix"
  refine loop_inv (src := none) (fun i Γ μ' => ∃ c' left told a, c ≤ c' + i ∧ (told ++ left).Perm xs ∧ told.length = i ∧ Γ = [some (.ref 0), some d, some (.ref (ρ.length + 1)), some (.ref (ρ.length + 2)), a] ∧ μ' = O c' (ρ ++ [.lst left, .lst told])) ⟨c, xs, [], none, by omega, by simp, rfl, rfl, rfl⟩ ?_ ?_
  · rintro i d' Γ μ' hd' ⟨c', left, told, a, h1, h2, h3, rfl, rfl⟩
    obtain ⟨hi, rfl⟩ := irng_get hd'
    refine ⟨trivial, fun Kn kn => ?_⟩
    have hlen := h2.length_eq
    simp only [List.length_append] at hlen
    have hi2 : i < xs.length := by simpa using hi
    walk_at "dv"
    walk_at "ix"
    refine take_O (by omega) (by omega) (by omega) fun c2 t g1 g2 g3 => ?_
    obtain ⟨y, hy, hp⟩ := pop_at g2 g3 (by omega)
    walk_at "ix"
    rw [hp]
    dsimp only
    walk_at "ix"
    rw [append_at (by omega)]
    dsimp only
    walk_at "ix"
    refine kn _ _ ⟨c2, _, told ++ [y], _, by omega, ?_, by simp; omega, rfl, rfl⟩
    rw [List.append_assoc]
    exact ((perm_pop hy).append_left told).trans h2
  · rintro Γ μ' ⟨c', left, told, a, h1, h2, h3, rfl, rfl⟩
    rw [irng_len] at h1 h3
    have hlen := h2.length_eq
    simp only [List.length_append] at hlen
    have hle : left = [] := List.eq_nil_of_length_eq_zero (by omega)
    subst hle
    rw [List.append_nil] at h2
    refine ⟨trivial, ?_⟩
    walk_at "dv"
    refine .inr ⟨O c' ρ, [.lst [], .lst told], by simp, ⟨rfl, fun i c => ?_⟩, .inr (.inr (.inr (.inl ⟨1, told, by simp, rfl, ?_, q c' told (by omega) h2⟩)))⟩
    · cases i with
      | zero => intro h; cases h; exact .inr rfl
      | succ i => intro h; exact .inl h
    · rw [puL_iff] at hpu ⊢
      exact fun x hx => hpu x (h2.mem_iff.mp hx)
theorem perm_map_inv {α β : Type} {f : α → β} {ys zs : List β} (h : ys.Perm zs) : ∀ {L : List α}, zs = L.map f → ∃ W : List α, ys = W.map f ∧ W.Perm L := by
  induction h with
  | nil =>
    intro L e
    exact ⟨[], rfl, by cases L with | nil => exact .nil | cons a l => cases e⟩
  | cons x h ih =>
    intro L e
    cases L with
    | nil => cases e
    | cons a l =>
      simp only [List.map_cons, List.cons.injEq] at e
      obtain ⟨rfl, e⟩ := e
      obtain ⟨W, rfl, h2⟩ := ih e
      exact ⟨a :: W, rfl, h2.cons a⟩
  | swap x y l =>
    intro L e
    match L, e with
    | a :: b :: l', e =>
      simp only [List.map_cons, List.cons.injEq] at e
      obtain ⟨rfl, rfl, rfl⟩ := e
      exact ⟨b :: a :: l', rfl, .swap _ _ _⟩
  | trans h1 h2 ih1 ih2 =>
    intro L e
    obtain ⟨W, e1, p1⟩ := ih2 e
    obtain ⟨W', e2, p2⟩ := ih1 e1
    exact ⟨W', e2, p2.trans p1⟩
structure WOk (W : List Str) : Prop where
  len : W.length = 6
  nd : W.Nodup
  ok : ∀ x ∈ W, validN x = true
def menus : List (List Str) := [["a", "b", "c", "d", "e", "f"], ["x", "xy", "y", "x1", "x10", "yx"], ["win1", "win2", "rows", "coffee", "w", "z9"], ["turn", "take", "put", "cell", "rows", "x"]]
theorem menus_ok : ∀ L ∈ menus, WOk L := by
  have h : menus.all (fun L => decide (L.length = 6) && decide (L.Nodup) && L.all validN) = true := by decide +kernel
  intro L hL
  have := List.all_eq_true.mp h L hL
  simp only [Bool.and_eq_true, decide_eq_true_eq, List.all_eq_true] at this
  exact ⟨this.1.1, this.1.2, this.2⟩
def t_words : DTS := dSeq (dAsg (dCall gLstM (dCons (dCall gLst (dCons (dC (.str "a")) (dCons (dC (.str "b")) (dCons (dC (.str "c")) (dCons (dC (.str "d")) (dCons (dC (.str "e")) (dCons (dC (.str "f")) (dNil)))))))) (dCons (dCall gLst (dCons (dC (.str "x")) (dCons (dC (.str "xy")) (dCons (dC (.str "y")) (dCons (dC (.str "x1")) (dCons (dC (.str "x10")) (dCons (dC (.str "yx")) (dNil)))))))) (dNil)))) (dName 1)) (dSeq (dDrop (dCellM cAppend (dVar 1) (dCons (dCall gLst (dCons (dC (.str "win1")) (dCons (dC (.str "win2")) (dCons (dC (.str "rows")) (dCons (dC (.str "coffee")) (dCons (dC (.str "w")) (dCons (dC (.str "z9")) (dNil)))))))) dNil))) (dSeq (dDrop (dCellM cAppend (dVar 1) (dCons (dCall gLst (dCons (dC (.str "turn")) (dCons (dC (.str "take")) (dCons (dC (.str "put")) (dCons (dC (.str "cell")) (dCons (dC (.str "rows")) (dCons (dC (.str "x")) (dNil)))))))) dNil))) (dRet (dOp S_shuffled (dCons (dVar 0) (dCons (dBin gIx (dVar 1) (dOp S_take (dCons (dVar 0) (dCons (dC (.int 4)) (dNil))))) (dNil)))))))
/-! flipped -/
def S_flipped : DSp := fun ds μ Q _ => ∃ d g W n, ds = [d] ∧ GSee (fun _ => True) μ d g ∧ GB W n g ∧ n ≤ 1000 ∧ (Q (gridD (flip g)) μ ∨ ∀ d' ext, GCell (fun l => μ.length ≤ l) (μ ++ ext) d' (flip g) → Q d' (μ ++ ext))
def t_flipped : DTS := dRet (dComp false [1] (dRange1 (dCall gLen (dCons (dBin gIx (dVar 0) (dC (.int 0))) dNil))) (cName 1) (dYes) (dComp false [2] (dIter (dVar 0)) (cName 2) (dYes) (dBin gIx (dVar 2) (dVar 1))))
theorem rd_flipped {n1 n2 n3 : Str} : ∀ ds μ Q E, S_flipped ds μ Q E → t_flipped (dFn μ Q E) (start0 [n1, n2, n3] ds) μ := by
  rintro _ μ Q E ⟨d, g, W, n, rfl, hs, hg, hn, q⟩
  unfold t_flipped
  simp only [dRet, dComp, dRange1, start0, List.map_cons, List.map_nil, List.length_cons, List.length_nil, List.replicate, List.cons_append, List.nil_append]
  rw [ev_wid hs hg (fun _ _ => rfl)]
  dsimp only
  have hw2 := hg.w2
  have hh2 := hg.h2
  refine ⟨by omega, ?_⟩
  simp only [wipeG, List.set_cons_succ, List.set_cons_zero]
  refine comp_cells ((flip g).map rowC) (fun _ => trivial) (by rw [irng_len, List.length_map, flip_len]; rfl) (by rw [irng_len, sizeLine_eq]; omega) ?_ ?_
  · rintro k d' cl μ' hd' hc rfl K1 K2 k1
    obtain ⟨hk, rfl⟩ := irng_get hd'
    have hk : k < wid g := by simpa using hk
    rw [List.getElem?_map, flip_get hk] at hc
    cases hc
    simp only [cName, dYes, cond_true, List.set_cons_succ, List.set_cons_zero]
    obtain ⟨rows, h1, h2, h3⟩ := hs.app (((flip g).map rowC).take k)
    obtain ⟨src, i1, i2⟩ := ev_iter (fa := dVar 0) (Γ := [some d, some (.int (0 + (k : Int))), none]) h1 (fun _ _ => rfl)
    unfold dComp
    rw [i2]
    simp only [wipeG, List.set_cons_succ, List.set_cons_zero]
    refine comp_list ((g.map fun r => r.getD k Str.empty).map .str) (by have := i1 []; simpa using this) (by rw [h2]; simp) (by rw [h2, sizeLine_eq]; omega) ?_ ?_
    · intro i r y hr hy L1 L2 l1
      rw [List.getElem?_map, List.getElem?_map] at hy
      cases hgi : g[i]? with
      | none => rw [hgi] at hy; cases hy
      | some s =>
        rw [hgi] at hy
        cases hy
        obtain ⟨r', e1, e2⟩ := h3 i s hgi
        rw [hr] at e1; cases e1
        have hsl : k < s.length := by rw [hg.eq s (List.mem_of_getElem? hgi)]; exact hk
        simp only [cName, dYes, cond_true, dBin, dVar, List.set_cons_succ, List.set_cons_zero, List.getElem?_cons_zero, List.getElem?_cons_succ, Int.zero_add]
        rw [ev_ix e2 (x := .str (s.getD k Str.empty)) (by rw [List.getElem?_map, List.getElem?_eq_getElem hsl, List.getD_eq_getElem?_getD, List.getElem?_eq_getElem hsl]; rfl)]
        exact l1
    · exact k1
  · rw [List.length_map]
    have nw := gcell_new (μ := μ) (g := flip g) (p := fun l => μ.length ≤ l) (fun l h => h)
    show FnEnd μ (.ref (μ ++ (flip g).map rowC).length) ((μ ++ (flip g).map rowC) ++ [_]) Q
    rw [List.length_append, List.length_map, List.append_assoc]
    rw [List.append_assoc] at nw
    rcases q with q | q
    · exact FnEnd.melt (Upd.refl μ) (gfz nw.see) q
    · exact FnEnd.here (q _ _ nw)
end DV
namespace DV
open PySem PySem.Spec PyProof.Rows L2
/-- rows in cells -/
def RowsAt (p : Nat → Prop) (μ : Mu) (acc : List D) (gs : List (List Str)) : Prop := acc.length = gs.length ∧ ∀ (i : Nat) s, gs[i]? = some s → ∃ l, acc[i]? = some (.ref l) ∧ p l ∧ μ[l]? = some (.lst (s.map .str))
section
variable {p q : Nat → Prop} {μ : Mu} {acc : List D} {gs : List (List Str)}
theorem RowsAt.nil : RowsAt p μ [] [] := ⟨rfl, fun i s e => by simp at e⟩
theorem RowsAt.to {μ' : Mu} (h : RowsAt p μ acc gs) (hp : ∀ (l : Nat) xs, p l → μ[l]? = some (.lst xs) → q l ∧ μ'[l]? = some (.lst xs)) : RowsAt q μ' acc gs :=
  ⟨h.1, fun i s e => let ⟨l, a, b, c⟩ := h.2 i s e; ⟨l, a, (hp l _ b c).1, (hp l _ b c).2⟩⟩
theorem RowsAt.push (h : RowsAt p μ acc gs) {l : Nat} {s : List Str} (hl : p l) (e : μ[l]? = some (.lst (s.map .str))) : RowsAt p μ (acc ++ [.ref l]) (gs ++ [s]) := by
  refine ⟨by simp [h.1], fun i t et => ?_⟩
  rcases get_app1_lt et with ⟨hi, et⟩ | ⟨hi, rfl⟩
  · obtain ⟨m, a, b, c⟩ := h.2 i t et
    exact ⟨m, by rw [List.getElem?_append_left (by rw [h.1]; exact hi)]; exact a, b, c⟩
  · subst hi
    exact ⟨l, by rw [← h.1]; simp, hl, e⟩
theorem RowsAt.gcell {lo : Nat} (h : RowsAt p μ acc gs) (h1 : p lo) (h2 : μ[lo]? = some (.lst acc)) : GCell p μ (.ref lo) gs := ⟨lo, acc, rfl, h1, h2, h.1, h.2⟩
end
theorem ev_iterA {p : Nat → Prop} {μ : Mu} {d : D} {xs : List D} (h : See p μ d xs) : ∃ src, (∀ ext, Gd src (μ ++ ext)) ∧ ∀ ext Γ (fa : DTE) Q E, (∀ Q E, fa Γ (μ ++ ext) Q E = Q d (μ ++ ext)) → dIter fa Γ (μ ++ ext) Q E = Q src xs (μ ++ ext) := by
  rcases h with rfl | ⟨l, rfl, _, e⟩
  · exact ⟨none, fun _ => trivial, fun ext Γ fa Q E hf => by unfold dIter; rw [hf]⟩
  · exact ⟨some (l, xs), fun ext => get_app e, fun ext Γ fa Q E hf => by unfold dIter; rw [hf]; dsimp only; rw [get_app e]⟩
theorem ev_widU {p : Nat → Prop} {μ : Mu} {d : D} {Γ : Gam} {fa : DTE} {W : List Str} {n : Nat} {g : List (List Str)} (h : GSee p μ d g) (hg : GB W n g) (hf : ∀ Q E, fa Γ μ Q E = Q d μ) {Q : D → Mu → Prop} {E : Exn → Mu → Prop} (q : Q (.int (wid g)) μ) : dBin gIx fa (dC (.int 0)) Γ μ (fun x μ1 => gLen [x] μ1 fun y μ2 => Q y μ2) E := by
  have := ev_wid h hg hf Q E
  exact this.mpr q
theorem rep_flat (x : Str) : ∀ k : Nat, (List.replicate k [D.str x]).flatten = (List.replicate k x).map .str
  | 0 => rfl
  | k + 1 => by rw [List.replicate_succ, List.flatten_cons, rep_flat x k]; simp [List.replicate_succ]
theorem rep_flatL (s : List Str) : ∀ k : Nat, (List.replicate k (s.map D.str)).flatten = ((List.replicate k s).flatten).map .str
  | 0 => rfl
  | k + 1 => by rw [List.replicate_succ, List.flatten_cons, rep_flatL s k]; simp [List.replicate_succ]
theorem rep_flat_len {α : Type} (s : List α) : ∀ k : Nat, ((List.replicate k s).flatten).length = k * s.length
  | 0 => by simp
  | k + 1 => by rw [List.replicate_succ, List.flatten_cons, List.length_append, rep_flat_len s k, Nat.add_mul]; omega
theorem rep_flat_mem {α : Type} {s : List α} {x : α} {k : Nat} (h : x ∈ (List.replicate k s).flatten) : x ∈ s := by
  obtain ⟨l, h1, h2⟩ := List.mem_flatten.mp h
  rw [List.mem_replicate] at h1
  rw [h1.2] at h2; exact h2
theorem ev_add1 {μ : Mu} {l : Nat} {s t : List Str} (e : μ[l]? = some (.lst (s.map .str))) (hk : s.length + t.length ≤ 100000) {Q : D → Mu → Prop} (q : Q (.ref μ.length) (μ ++ [.lst ((s ++ t).map .str)])) :
    gAddM (.ref l) (.lst (t.map .str)) μ Q := by
  unfold gAddM
  rw [lk_cell e]
  show _ ∧ _
  rw [← List.map_append]
  exact ⟨by rw [sizeLine_eq]; simp; omega, q⟩
def S_stacked : DSp := fun ds μ Q _ => ∃ d1 g1 d2 g2 W, ds = [d1, d2] ∧ GSee (fun _ => True) μ d1 g1 ∧ GB W 8 g1 ∧ GSee (fun _ => True) μ d2 g2 ∧ GB W 8 g2 ∧ ∀ d' ext g', GB W 64 g' → GCell (fun l => μ.length ≤ l) (μ ++ ext) d' g' → Q d' (μ ++ ext)
def t_stacked : DTS := dSeq (dAsg (dCall gLstM (dNil)) (dName 2)) (dSeq (dFor (dIter (dVar 0)) (dName 3) (dSeq (dAsg (dCall gLstM (dNil)) (dName 4)) (dSeq (dFor (dIter (dVar 3)) (dName 5) (dAsg (dBin gAddM (dVar 4) (dBin gMul (dCall gLst (dCons (dVar 5) (dNil))) (dCall gLen (dCons (dBin gIx (dVar 1) (dC (.int 0))) dNil)))) (dName 4))) (dDrop (dCellM cAppend (dVar 2) (dCons (dVar 4) dNil)))))) (dSeq (dFor (dIter (dVar 1)) (dName 3) (dDrop (dCellM cAppend (dVar 2) (dCons (dBin gMulM (dCall (gList true) (dCons (dVar 3) dNil)) (dCall gLen (dCons (dBin gIx (dVar 0) (dC (.int 0))) dNil))) dNil)))) (dRet (dVar 2))))
theorem rd_stacked {n1 n2 n3 n4 n5 n6 : Str} : ∀ ds μ Q E, S_stacked ds μ Q E → t_stacked (dFn μ Q E) (start0 [n1, n2, n3, n4, n5, n6] ds) μ := by
  rintro _ μ Q E ⟨d1, g1, d2, g2, W, rfl, s1, b1, s2, b2, q⟩
  have hh1 := b1.h2
  have hw1 := b1.w2
  have hh2 := b2.h2
  have hw2 := b2.w2
  have hm : wid g1 * wid g2 ≤ 64 := Nat.mul_le_mul hw1 hw2
  unfold t_stacked
  simp only [dSeq, dAsg, dCall, dNil, gLstM, dName, start0, List.map_cons, List.map_nil, List.length_cons, List.length_nil, List.replicate, List.cons_append, List.nil_append, List.set_cons_succ, List.set_cons_zero]
  refine ⟨by rw [sizeLine_eq]; decide, ?_⟩
  obtain ⟨rows1, r1, r2, r3⟩ := id s1
  obtain ⟨src1, i1, i2⟩ := ev_iterA r1
  unfold dFor
  rw [i2 _ _ _ _ _ (fun _ _ => rfl)]
  refine loop_inv (fun i Γ μ' => ∃ acc gs ext a3 a4 a5, Γ = [some d1, some d2, some (.ref μ.length), a3, a4, a5] ∧ μ' = μ ++ .lst acc :: ext ∧ RowsAt (fun l => μ.length < l) μ' acc gs ∧ gs.length = i ∧ i ≤ 8 ∧ ∀ s ∈ gs, s.length = wid g1 * wid g2 ∧ ∀ x ∈ s, x ∈ W)
    ⟨[], [], [], none, none, none, rfl, rfl, .nil, rfl, by omega, by simp⟩ ?_ ?_
  · rintro i d Γ μ' hd ⟨acc, gs, ext, a3, a4, a5, rfl, rfl, ra, hgs, hi8, hs⟩
    have hil : i < g1.length := by rw [← r2]; exact (List.getElem?_eq_some_iff.mp hd).1
    obtain ⟨r, e1, e2⟩ := r3 i g1[i] (List.getElem?_eq_getElem hil)
    rw [hd] at e1; cases e1
    have hrl : g1[i].length = wid g1 := b1.eq _ (List.getElem_mem hil)
    have hrm := b1.mem _ (List.getElem_mem hil)
    generalize g1[i] = s0 at e2 hrl hrm
    refine ⟨i1 _, fun Kn kn => ?_⟩
    simp only [dSeq, dAsg, dCall, dNil, gLstM, dName, List.set_cons_succ, List.set_cons_zero, List.length_nil]
    refine ⟨by rw [sizeLine_eq]; decide, ?_⟩
    obtain ⟨src2, j1, j2⟩ := ev_iterA e2
    try unfold dFor
    rw [List.append_assoc, j2 _ _ _ _ _ (fun _ _ => rfl)]
    refine loop_inv (fun j Γ μ' => ∃ lw s ext' a5, Γ = [some d1, some d2, some (.ref μ.length), some d, some (.ref lw), a5] ∧ μ' = μ ++ .lst acc :: (ext ++ ext') ∧ μ.length < lw ∧ μ'[lw]? = some (.lst (s.map .str)) ∧ s.length = j * wid g2 ∧ j ≤ 8 ∧ ∀ x ∈ s, x ∈ W)
      ⟨(μ ++ .lst acc :: ext).length, [], [.lst []], a5, rfl, by simp, by simp, by rw [← List.append_assoc]; simp, by simp, by omega, by simp⟩ ?_ ?_
    · rintro j x Γ μ' hx ⟨lw, s, ext', a5, rfl, rfl, hlw, elw, hsl, hj8, hsm⟩
      have hjl : j < s0.length := by have := (List.getElem?_eq_some_iff.mp hx).1; simpa using this
      rw [List.getElem?_map, List.getElem?_eq_getElem hjl] at hx
      cases hx
      refine ⟨j1 _, fun Kn kn => ?_⟩
      simp only [dName, dAsg, dBin, dVar, List.set_cons_succ, List.set_cons_zero, List.getElem?_cons_succ, List.getElem?_cons_zero]
      have s2' := s2.app (.lst acc :: (ext ++ ext'))
      show dCall gLst (dCons (dVar 5) dNil) _ _ _ _
      simp only [dCall, dCons, dNil, dVar, gLst, List.getElem?_cons_succ, List.getElem?_cons_zero, List.length_cons, List.length_nil]
      refine ⟨by rw [sizeLine_eq]; decide, ?_⟩
      refine ev_widU s2' b2 (fun _ _ => rfl) ?_
      unfold gMul
      simp only [lk]
      refine ⟨⟨by omega, by omega, by rw [sizeLine_eq]; simp; omega⟩, ?_⟩
      rw [Int.toNat_natCast, rep_flat]
      have hjw : j * wid g2 ≤ 8 * 8 := Nat.mul_le_mul hj8 hw2
      refine ev_add1 elw (by simp; omega) ?_
      refine kn _ _ ⟨_, s ++ List.replicate (wid g2) s0[j], ext' ++ [.lst ((s ++ List.replicate (wid g2) s0[j]).map .str)], _, rfl, by simp, by first | (simp; done) | (simp; omega), by simp, ?_, by omega, fun y hy => ?_⟩
      · rw [List.length_append, List.length_replicate, hsl, Nat.add_mul]; omega
      · rcases List.mem_append.mp hy with z | z
        · exact hsm y z
        · rw [List.mem_replicate] at z; rw [z.2]; exact hrm _ (List.getElem_mem hjl)
    · rintro Γ μ' ⟨lw, s, ext', a5, rfl, rfl, hlw, elw, hsl, hj8, hsm⟩
      rw [List.length_map, hrl] at hsl
      refine ⟨j1 _, ?_⟩
      have hal : acc.length = i := ra.1.trans hgs
      simp only [dDrop, dCellM, dVar, dCons, dNil, List.getElem?_cons_succ, List.getElem?_cons_zero, get_a0]
      rw [append_at (by omega)]
      dsimp only
      rw [set_a0]
      have hsub : ∀ (l : Nat) xs, μ.length < l → (μ ++ .lst acc :: ext)[l]? = some (.lst xs) → μ.length < l ∧ (μ ++ .lst (acc ++ [.ref lw]) :: (ext ++ ext'))[l]? = some (.lst xs) := fun l xs h1 h2 => by
        refine ⟨h1, ?_⟩
        have : (μ ++ .lst acc :: (ext ++ ext'))[l]? = some (.lst xs) := by
          rw [show μ ++ .lst acc :: (ext ++ ext') = (μ ++ .lst acc :: ext) ++ ext' from by simp]
          exact get_app h2
        rw [← this, ← set_a0 (x := Cell.lst acc), List.getElem?_set_ne (by omega)]
      refine kn _ _ ⟨acc ++ [.ref lw], gs ++ [s], ext ++ ext', _, _, _, rfl, rfl, (ra.to hsub).push hlw ?_, by simp [hgs], by omega, fun t ht => ?_⟩
      · rw [← elw, ← set_a0 (x := Cell.lst acc), List.getElem?_set_ne (by omega)]
      · rcases List.mem_append.mp ht with z | z
        · exact hs t z
        · rw [List.mem_singleton.mp z]; exact ⟨hsl, hsm⟩
  · rintro Γ μ' ⟨acc, gs, ext, a3, a4, a5, rfl, rfl, ra, hgs, hi8, hs⟩
    rw [r2] at hgs
    refine ⟨i1 _, ?_⟩
    obtain ⟨rows2, t1, t2, t3⟩ := id s2
    obtain ⟨src3, k1, k2⟩ := ev_iterA t1
    simp only [dSeq]
    try unfold dFor
    rw [k2 _ _ _ _ _ (fun _ _ => rfl)]
    refine loop_inv (fun i Γ μ' => ∃ acc gs ext a3, Γ = [some d1, some d2, some (.ref μ.length), a3, a4, a5] ∧ μ' = μ ++ .lst acc :: ext ∧ RowsAt (fun l => μ.length < l) μ' acc gs ∧ gs.length = g1.length + i ∧ i ≤ 8 ∧ ∀ s ∈ gs, s.length = wid g1 * wid g2 ∧ ∀ x ∈ s, x ∈ W)
      ⟨acc, gs, ext, a3, rfl, rfl, ra, by omega, by omega, hs⟩ ?_ ?_
    · rintro i d Γ μ' hd ⟨acc, gs, ext, a3, rfl, rfl, ra, hgs, hi8, hs⟩
      have hil : i < g2.length := by rw [← t2]; exact (List.getElem?_eq_some_iff.mp hd).1
      obtain ⟨r, e1, e2⟩ := t3 i g2[i] (List.getElem?_eq_getElem hil)
      rw [hd] at e1; cases e1
      have hrl : g2[i].length = wid g2 := b2.eq _ (List.getElem_mem hil)
      have hrm := b2.mem _ (List.getElem_mem hil)
      generalize g2[i] = s0 at e2 hrl hrm
      refine ⟨k1 _, fun Kn kn => ?_⟩
      have s1' := s1.app (.lst acc :: ext)
      have e3 := e2.app (.lst acc :: ext)
      have hal : acc.length = g1.length + i := ra.1.trans hgs
      simp only [dName, dDrop, dCellM, dVar, dCons, dNil, List.set_cons_succ, List.set_cons_zero, List.getElem?_cons_succ, List.getElem?_cons_zero, get_a0, dBin]
      simp only [dCall, dCons, dNil, dVar, List.getElem?_cons_succ, List.getElem?_cons_zero, gList, e3.lk, dFin]
      refine ev_widU s1' b1 (fun _ _ => rfl) ?_
      unfold gMulM
      simp only [lk]
      have hmul : s0.length * wid g1 ≤ 64 := by rw [hrl, Nat.mul_comm]; exact hm
      refine ⟨⟨by omega, by omega, by rw [sizeLine_eq, List.length_map, Int.toNat_natCast]; omega⟩, ?_⟩
      rw [Int.toNat_natCast, rep_flatL, List.append_assoc, List.cons_append, get_a0]
      dsimp only
      rw [append_at (by omega)]
      dsimp only
      rw [set_a0]
      have hsub : ∀ (l : Nat) xs, μ.length < l → (μ ++ .lst acc :: ext)[l]? = some (.lst xs) → μ.length < l ∧ (μ ++ .lst (acc ++ [.ref (μ ++ .lst acc :: ext).length]) :: (ext ++ [Cell.lst (((List.replicate (wid g1) s0).flatten).map .str)]))[l]? = some (.lst xs) := fun l xs h1 h2 => by
        refine ⟨h1, ?_⟩
        have : (μ ++ .lst acc :: (ext ++ [Cell.lst (((List.replicate (wid g1) s0).flatten).map .str)]))[l]? = some (.lst xs) := by
          rw [show ∀ e, μ ++ .lst acc :: (ext ++ e) = (μ ++ .lst acc :: ext) ++ e from fun e => by simp]
          exact get_app h2
        rw [← this, ← set_a0 (x := Cell.lst acc), List.getElem?_set_ne (by omega)]
      refine kn _ _ ⟨_, gs ++ [(List.replicate (wid g1) s0).flatten], _, _, rfl, rfl, (ra.to hsub).push (by first | (simp; done) | (simp; omega)) ?_, by simp [hgs]; omega, by omega, fun t ht => ?_⟩
      · rw [← set_a0 (x := Cell.lst acc), List.getElem?_set_ne (by first | (simp; done) | (simp; omega))]
        rw [show ∀ e, μ ++ .lst acc :: (ext ++ e) = (μ ++ .lst acc :: ext) ++ e from fun e => by simp]
        exact get_a0
      · rcases List.mem_append.mp ht with z | z
        · exact hs t z
        · rw [List.mem_singleton.mp z]
          exact ⟨by rw [rep_flat_len, hrl], fun x hx => hrm x (rep_flat_mem hx)⟩
    · rintro Γ μ' ⟨acc, gs, ext, a3, rfl, rfl, ra, hgs, hi8, hs⟩
      rw [t2] at hgs
      refine ⟨k1 _, ?_⟩
      simp only [dRet, dVar, List.getElem?_cons_succ, List.getElem?_cons_zero]
      have hh := b1.h1
      have hwp : 1 ≤ wid g1 * wid g2 := Nat.mul_le_mul b1.w1 b2.w1
      have hwg : wid gs = wid g1 * wid g2 := by
        cases gs with
        | nil => simp at hgs; omega
        | cons s r => exact (hs s (by simp)).1
      refine FnEnd.here (q _ _ gs ⟨by omega, by omega, by rw [hwg]; exact hwp, by rw [hwg]; exact hm, fun r hr => by rw [hwg]; exact (hs r hr).1, fun r hr => (hs r hr).2⟩ ?_)
      exact (ra.to fun l xs h1 h2 => ⟨by omega, h2⟩).gcell (Nat.le_refl _) get_a0
end DV
namespace DV
open PySem PySem.Spec PyProof.Rows L2
/-- what a maker of a grid promises -/
def GenQ (c : Nat) (ρ : Mu) (W : List Str) (B : Nat) (Q : D → Mu → Prop) : Prop := ∀ c' d' ext g, c ≤ c' + B → GB W 8 g → GCell (fun l => ρ.length + 1 ≤ l) (O c' (ρ ++ ext)) d' g → Q d' (O c' (ρ ++ ext))
theorem gcell_O {ρ : Mu} {c : Nat} {g : List (List Str)} : GCell (fun l => ρ.length + 1 ≤ l) (O c (ρ ++ (g.map rowC ++ [.lst ((List.range g.length).map fun i => .ref (ρ.length + 1 + i))]))) (.ref (ρ.length + 1 + g.length)) g := by
  have := gcell_new (μ := O c ρ) (g := g) (p := fun l => ρ.length + 1 ≤ l) (fun l h => by simpa using h)
  simpa using this
theorem GB.mk' {W : List Str} {n w : Nat} {g : List (List Str)} (h1 : 1 ≤ g.length) (h2 : g.length ≤ n) (w1 : 1 ≤ w) (w2 : w ≤ n) (h : ∀ r ∈ g, r.length = w ∧ ∀ x ∈ r, x ∈ W) : GB W n g := by
  have e : wid g = w := by
    cases g with
    | nil => simp at h1
    | cons s r => exact (h s (by simp)).1
  exact ⟨h1, h2, e ▸ w1, e ▸ w2, fun r hr => e ▸ (h r hr).1, fun r hr => (h r hr).2⟩
theorem word_at {W : List Str} {t : Int} (h0 : 0 ≤ t) (h1 : t < W.length) : ∃ x ∈ W, atI (W.map D.str) t = some (.str x) := by
  have h : t.toNat < W.length := by omega
  exact ⟨W[t.toNat], List.getElem_mem h, atI_nat' h0 (by rw [List.getElem?_map, List.getElem?_eq_getElem h]; rfl)⟩
def S_any_grid : DSp := fun ds μ Q _ => ∃ c ρ W, ds = [.ref 0, .lst (W.map .str)] ∧ μ = O c ρ ∧ W.length = 6 ∧ 100 ≤ c ∧ GenQ c ρ W 100 Q
def t_any_grid : DTS := dSeq (dAsg (dBin gIx (dCall gLst (dCons (dC (.int 2)) (dCons (dC (.int 3)) (dCons (dC (.int 4)) (dCons (dC (.int 8)) (dNil)))))) (dOp S_take (dCons (dVar 0) (dCons (dC (.int 4)) (dNil))))) (dName 2)) (dSeq (dAsg (dBin gAdd (dC (.int 1)) (dOp S_take (dCons (dVar 0) (dCons (dVar 2) (dNil))))) (dName 3)) (dSeq (dAsg (dBin gAdd (dC (.int 1)) (dOp S_take (dCons (dVar 0) (dCons (dVar 2) (dNil))))) (dName 4)) (dSeq (dAsg (dBin gAdd (dC (.int 1)) (dOp S_take (dCons (dVar 0) (dCons (dC (.int 6)) (dNil))))) (dName 5)) (dRet (dComp false [6] (dRange1 (dVar 3)) (cName 6) (dYes) (dComp false [7] (dRange1 (dVar 4)) (cName 7) (dYes) (dBin gIx (dVar 1) (dOp S_take (dCons (dVar 0) (dCons (dVar 5) (dNil)))))))))))
theorem rd_any_grid {n1 n2 n3 n4 n5 n6 n7 n8 : Str} : ∀ ds μ Q E, S_any_grid ds μ Q E → t_any_grid (dFn μ Q E) (start0 [n1, n2, n3, n4, n5, n6, n7, n8] ds) μ := by
  rintro _ _ Q E ⟨c, ρ, W, rfl, rfl, hW, hc, q⟩
  unfold t_any_grid
  walk_at "dv"
  refine ⟨by walk_at "sz", take_O (by omega) (by decide) (by decide) fun c1 t g1 g2 g3 => ?_⟩
  obtain ⟨m, hm, m1, m2⟩ : ∃ m : Int, atI [D.int 2, .int 3, .int 4, .int 8] t = some (.int m) ∧ 1 ≤ m ∧ m ≤ 8 := by
    have ht : t = 0 ∨ t = 1 ∨ t = 2 ∨ t = 3 := by omega
    rcases ht with rfl | rfl | rfl | rfl
    · exact ⟨2, rfl, by decide, by decide⟩
    · exact ⟨3, rfl, by decide, by decide⟩
    · exact ⟨4, rfl, by decide, by decide⟩
    · exact ⟨8, rfl, by decide, by decide⟩
  dsimp only
  rw [hm]
  dsimp only
  refine take_O (by omega) (by omega) (by omega) fun c2 h g4 g5 g6 => ?_
  dsimp only
  refine take_O (by omega) (by omega) (by omega) fun c3 w g7 g8 g9 => ?_
  dsimp only
  refine take_O (by omega) (by decide) (by decide) fun c4 k g10 g11 g12 => ?_
  dsimp only
  obtain ⟨hn, rfl⟩ : ∃ hn : Nat, h = hn := ⟨h.toNat, by omega⟩
  obtain ⟨wn, rfl⟩ : ∃ wn : Nat, w = wn := ⟨w.toNat, by omega⟩
  refine ⟨by omega, comp_inv (fun i acc μ' => ∃ c' rows, c4 ≤ c' + i * 8 ∧ i ≤ 8 ∧ rows.length = i ∧ (∀ r ∈ rows, r.length = wn + 1 ∧ ∀ x ∈ r, x ∈ W) ∧ acc = ((List.range i).map fun i => D.ref (ρ.length + 1 + i)) ∧ μ' = O c' (ρ ++ rows.map rowC)) ⟨c4, [], by omega, by omega, rfl, by simp, rfl, by simp⟩ (by rw [irng_len, sizeLine_eq]; omega) ?_ ?_⟩
  · rintro i d acc μ' hd ⟨c', rows, h1, h2, h3, h4, rfl, rfl⟩
    obtain ⟨hi, rfl⟩ := irng_get hd
    refine ⟨trivial, fun K1 K2 k1 k2 => ?_⟩
    walk_at "dv"
    refine ⟨by omega, comp_inv (fun j acc μ' => ∃ c2 s, c' ≤ c2 + j ∧ j ≤ 8 ∧ s.length = j ∧ (∀ x ∈ s, x ∈ W) ∧ acc = s.map .str ∧ μ' = O c2 (ρ ++ rows.map rowC)) ⟨c', [], by omega, by omega, rfl, by simp, rfl, rfl⟩ (by rw [irng_len, sizeLine_eq]; omega) ?_ ?_⟩
    · rintro j d acc μ' hd ⟨c2, s, a1, a2, a3, a4, rfl, rfl⟩
      obtain ⟨hj, rfl⟩ := irng_get hd
      refine ⟨trivial, fun K1 K2 k1 k2 => ?_⟩
      walk_at "dv"
      refine take_O (by omega) (by omega) (by omega) fun c5 t b1 b2 b3 => ?_
      obtain ⟨x, hx, ex⟩ := word_at (W := W) (t := t) b2 (by omega)
      dsimp only
      rw [ex]
      exact k1 _ _ ⟨c5, s ++ [x], by omega, by omega, by simp [a3], fun y hy => by
        rcases List.mem_append.mp hy with z | z
        · exact a4 y z
        · rw [List.mem_singleton.mp z]; exact hx, by simp, rfl⟩
    · rintro acc μ' ⟨c2, s, a1, a2, a3, a4, rfl, rfl⟩
      rw [irng_len] at a1 a3
      refine ⟨trivial, ?_⟩
      have e : K1 (.ref (O c2 (ρ ++ rows.map rowC)).length) (O c2 (ρ ++ rows.map rowC) ++ [.lst (s.map .str)]) := by
        refine k1 _ _ ⟨c2, rows ++ [s], by omega, by omega, by simp [h3], fun r hr => ?_, ?_, by simp [rowC]⟩
        · rcases List.mem_append.mp hr with z | z
          · exact h4 r z
          · rw [List.mem_singleton.mp z]; exact ⟨by omega, a4⟩
        · rw [List.range_succ, List.map_append]
          simp [h3]; omega
      exact e
  · rintro acc μ' ⟨c', rows, h1, h2, h3, h4, rfl, rfl⟩
    rw [irng_len] at h1 h3
    refine ⟨trivial, FnEnd.here ?_⟩
    have := q c' _ _ rows (by omega) (GB.mk' (w := wn + 1) (by omega) (by omega) (by omega) (by omega) h4) gcell_O
    rw [irng_len, ← h3]
    simpa [Nat.add_assoc, Nat.add_comm, Nat.add_left_comm] using this
end DV
namespace DV
open PySem PySem.Spec PyProof.Rows L2
theorem put_same (kvs : List (Key × D)) (k : Key) (d : D) : valD (putKD kvs k d) k = some d := by
  unfold putKD
  split
  · rename_i h
    induction kvs with
    | nil => simp at h
    | cons c kvs ih =>
      rw [List.map_cons]
      by_cases e : c.1 = k
      · rw [if_pos e]; exact valD_pos (p := (c.1, d)) e
      · rw [if_neg e, valD_neg e]
        refine ih ?_
        simpa [e] using h
  · rename_i h
    induction kvs with
    | nil => exact valD_pos rfl
    | cons c kvs ih =>
      have e : ¬ c.1 = k := fun z => h (by simp [z])
      rw [List.cons_append, valD_neg e]
      exact ih (fun z => h (by simp at z ⊢; exact .inr z))
theorem put_other (kvs : List (Key × D)) {k k' : Key} (d : D) (hk : k ≠ k') : valD (putKD kvs k d) k' = valD kvs k' := by
  unfold putKD
  split
  · rename_i h
    clear h
    induction kvs with
    | nil => rfl
    | cons c kvs ih =>
      rw [List.map_cons]
      by_cases e : c.1 = k
      · rw [if_pos e, valD_neg (p := (c.1, d)) (by rw [e]; exact hk), valD_neg (p := c) (by rw [e]; exact hk), ih]
      · rw [if_neg e]
        by_cases e2 : c.1 = k'
        · rw [valD_pos e2, valD_pos e2]
        · rw [valD_neg e2, valD_neg e2, ih]
  · rename_i h
    clear h
    induction kvs with
    | nil => exact valD_neg hk
    | cons c kvs ih =>
      rw [List.cons_append]
      by_cases e2 : c.1 = k'
      · rw [valD_pos e2, valD_pos e2]
      · rw [valD_neg e2, valD_neg e2, ih]
theorem put_len (kvs : List (Key × D)) (k : Key) (d : D) : (putKD kvs k d).length ≤ kvs.length + 1 := by
  unfold putKD
  split
  · simp
  · simp
def S_renamed : DSp := fun ds μ Q _ => ∃ c ρ W d g, ds = [.ref 0, d, .lst (W.map .str)] ∧ μ = O c ρ ∧ W.length = 6 ∧ GSee (fun _ => True) μ d g ∧ GB W 8 g ∧ 10 ≤ c ∧ GenQ c ρ W 10 Q
def t_renamed : DTS := dSeq (dAsg (dBin gAdd (dC (.int 1)) (dOp S_take (dCons (dVar 0) (dCons (dC (.int 6)) (dNil))))) (dName 3)) (dSeq (dAsg (dDict0) (dName 4)) (dSeq (dFor (dIter (dVar 2)) (dName 5) (dAsg (dBin gIx (dVar 2) (dOp S_take (dCons (dVar 0) (dCons (dVar 3) (dNil))))) (dSetD (dVar 4) (dVar 5)))) (dRet (dComp false [6] (dIter (dVar 1)) (cName 6) (dYes) (dComp false [7] (dIter (dVar 6)) (cName 7) (dYes) (dBin gDGet (dVar 4) (dVar 7)))))))
theorem rd_renamed {n1 n2 n3 n4 n5 n6 n7 n8 : Str} : ∀ ds μ Q E, S_renamed ds μ Q E → t_renamed (dFn μ Q E) (start0 [n1, n2, n3, n4, n5, n6, n7, n8] ds) μ := by
  rintro _ _ Q E ⟨c, ρ, W, d, g, rfl, rfl, hW, hs, hg, hc, q⟩
  unfold t_renamed
  walk_at "dv"
  refine take_O (by omega) (by decide) (by decide) fun c1 t g1 g2 g3 => ?_
  walk_at "ix"
  refine loop_inv (src := none) (fun i Γ μ' => ∃ c' kvs a5, c1 ≤ c' + i ∧ i ≤ 6 ∧ kvs.length ≤ i ∧ (∀ w ∈ W.take i, ∃ x ∈ W, valD kvs (.inr w) = some (.str x)) ∧ Γ = [some (.ref 0), some d, some (.lst (W.map .str)), some (.int (1 + t)), some (.ref (ρ.length + 1)), a5, none, none] ∧ μ' = O c' (ρ ++ [.dct kvs]))
    ⟨c1, [], none, by omega, by omega, by simp, by simp, rfl, rfl⟩ ?_ ?_
  · rintro i d' Γ μ' hd' ⟨c', kvs, a5, h1, h2, h3, h4, rfl, rfl⟩
    have hi : i < W.length := by have := (List.getElem?_eq_some_iff.mp hd').1; simpa using this
    rw [List.getElem?_map, List.getElem?_eq_getElem hi] at hd'
    cases hd'
    refine ⟨trivial, fun Kn kn => ?_⟩
    walk_at "dv"
    refine take_O (by omega) (by omega) (by omega) fun c2 u b1 b2 b3 => ?_
    obtain ⟨x, hx, ex⟩ := word_at (W := W) (t := u) b2 (by omega)
    dsimp only
    rw [ex]
    dsimp only [keyOfD]
    walk_at "ix"
    refine ⟨by rw [sizeLine_eq]; omega, kn _ _ ⟨c2, putKD kvs (.inr W[i]) (.str x), _, by omega, by omega, by have := put_len kvs (.inr W[i]) (.str x); omega, fun w hw => ?_, rfl, rfl⟩⟩
    by_cases e : W[i] = w
    · subst e; exact ⟨x, hx, put_same _ _ _⟩
    · rw [List.take_succ, List.getElem?_eq_getElem hi] at hw
      rw [put_other _ _ (show (Sum.inr W[i] : Key) ≠ .inr w from fun z => e (Sum.inr.inj z))]
      rcases List.mem_append.mp hw with z | z
      · exact h4 w z
      · simp at z; exact absurd z.symm e
  · rintro Γ μ' ⟨c', kvs, a5, h1, h2, h3, h4, rfl, rfl⟩
    rw [List.length_map, hW] at h1 h4
    rw [List.take_of_length_le (by omega)] at h4
    refine ⟨trivial, ?_⟩
    have hh2 := hg.h2
    have hw2 := hg.w2
    let nm : Str → Str := fun w => match valD kvs (.inr w) with | some (.str x) => x | _ => w
    have hnm : ∀ w ∈ W, nm w ∈ W ∧ valD kvs (.inr w) = some (.str (nm w)) := fun w hw => by
      obtain ⟨x, hx, e⟩ := h4 w hw
      have : nm w = x := by show (match valD kvs (.inr w) with | some (.str x) => x | _ => w) = x; rw [e]
      rw [this]; exact ⟨hx, e⟩
    have hs1 : GSee (fun _ => True) (O c' (ρ ++ [.dct kvs])) d g := (hs.orc (c' := (c', false)) rfl).app [.dct kvs]
    obtain ⟨rows, r1, r2, r3⟩ := id hs1
    obtain ⟨src, i1, i2⟩ := ev_iterA r1
    have i2' := i2 []
    simp only [List.append_nil] at i2'
    simp only [dRet, dComp]
    rw [i2' _ _ _ _ (fun _ _ => rfl)]
    simp only [wipeG, List.set_cons_succ, List.set_cons_zero]
    refine comp_cells ((g.map fun s => s.map nm).map rowC) i1 (by rw [r2]; simp) (by rw [r2, sizeLine_eq]; omega) ?_ ?_
    · rintro k r cl μ' hr hcl rfl K1 K2 k1
      have hk : k < g.length := by rw [← r2]; exact (List.getElem?_eq_some_iff.mp hr).1
      rw [List.getElem?_map, List.getElem?_map, List.getElem?_eq_getElem hk] at hcl
      cases hcl
      obtain ⟨r', e1, e2⟩ := r3 k g[k] (List.getElem?_eq_getElem hk)
      rw [hr] at e1; cases e1
      have hmem := hg.mem _ (List.getElem_mem hk)
      have hlen := hg.eq _ (List.getElem_mem hk)
      generalize g[k] = s at e2 hmem hlen k1
      simp only [cName, dYes, cond_true, List.set_cons_succ, List.set_cons_zero]
      obtain ⟨src2, j1, j2⟩ := ev_iterA e2
      try unfold dComp
      rw [j2 _ _ _ _ _ (fun _ _ => rfl)]
      simp only [wipeG, List.set_cons_succ, List.set_cons_zero]
      refine comp_list ((s.map nm).map .str) (j1 _) (by simp) (by rw [List.length_map, sizeLine_eq]; omega) ?_ ?_
      · intro i x y hx hy L1 L2 l1
        have hi : i < s.length := by have := (List.getElem?_eq_some_iff.mp hx).1; simpa using this
        rw [List.getElem?_map, List.getElem?_eq_getElem hi] at hx
        rw [List.getElem?_map, List.getElem?_map, List.getElem?_eq_getElem hi] at hy
        cases hx; cases hy
        simp only [cName, dYes, cond_true, dBin, dVar, List.set_cons_succ, List.set_cons_zero, List.getElem?_cons_succ, List.getElem?_cons_zero, gDGet, keyOfD]
        have ek : lk (O c' (ρ ++ [Cell.dct kvs]) ++ List.take k (List.map rowC (List.map (fun s => List.map nm s) g))) (.ref (ρ.length + 1)) = .dct kvs := by
          unfold lk
          dsimp only
          rw [get_app (show (O c' (ρ ++ [Cell.dct kvs]))[ρ.length + 1]? = some (Cell.dct kvs) from by rw [List.getElem?_cons_succ]; exact get_a0)]
        rw [ek]
        dsimp only
        rw [(hnm _ (hmem _ (List.getElem_mem hi))).2]
        exact l1
      · exact k1
    · rw [List.length_map, List.length_map]
      have hgb : GB W 8 (g.map fun s => s.map nm) := GB.mk' (w := wid g) (by simpa using hg.h1) (by simpa using hg.h2) hg.w1 hg.w2 fun r hr => by
        obtain ⟨s, hs, rfl⟩ := List.mem_map.mp hr
        refine ⟨by simpa using hg.eq s hs, fun x hx => ?_⟩
        obtain ⟨w, hw, rfl⟩ := List.mem_map.mp hx
        exact (hnm w (hg.mem s hs w hw)).1
      have nw := gcell_new (μ := O c' (ρ ++ [.dct kvs])) (g := g.map fun s => s.map nm) (p := fun l => ρ.length + 1 ≤ l) (fun l h => by simp at h; omega)
      refine FnEnd.here ?_
      have e : O c' (ρ ++ [.dct kvs]) ++ (g.map fun s => s.map nm).map rowC ++ [.lst ((List.range (g.map fun s => s.map nm).length).map fun i => .ref ((O c' (ρ ++ [.dct kvs])).length + i))] = O c' (ρ ++ ([.dct kvs] ++ ((g.map fun s => s.map nm).map rowC ++ [.lst ((List.range (g.map fun s => s.map nm).length).map fun i => .ref ((O c' (ρ ++ [.dct kvs])).length + i))]))) := by simp
      rw [e] at nw
      have := q c' _ _ _ (by omega) hgb nw
      rw [← e] at this
      simpa [Nat.add_comm, Nat.add_left_comm, Nat.add_assoc] using this
end DV
namespace DV
open PySem PySem.Spec PyProof.Rows L2
/-- cells: the oracle at their head with c draws left, then ρ as it was, then anything -/
def St (c : Nat) (ρ : Mu) (μ : Mu) : Prop := ∃ ext, μ = O c (ρ ++ ext)
section
variable {c : Nat} {ρ μ : Mu}
theorem St.app (h : St c ρ μ) (e : Mu) : St c ρ (μ ++ e) := by
  obtain ⟨ext, rfl⟩ := h
  exact ⟨ext ++ e, by simp⟩
theorem St.set (h : St c ρ μ) {l : Nat} (hl : ρ.length + 1 ≤ l) (x : Cell) : St c ρ (μ.set l x) := by
  obtain ⟨ext, rfl⟩ := h
  refine ⟨ext.set (l - (ρ.length + 1)) x, ?_⟩
  obtain ⟨k, rfl⟩ : ∃ k, l = k + 1 := ⟨l - 1, by omega⟩
  show Cell.orc (c, false) :: (ρ ++ ext).set k x = _
  rw [List.set_append_right _ _ (by omega), show k - ρ.length = k + 1 - (ρ.length + 1) from by omega]
theorem St.draw (h : St c ρ μ) (c' : Nat) : St c' ρ (μ.set 0 (.orc (c', false))) := by
  obtain ⟨ext, rfl⟩ := h
  exact ⟨ext, rfl⟩
theorem St.len (h : St c ρ μ) : ρ.length + 1 ≤ μ.length := by
  obtain ⟨ext, rfl⟩ := h
  simp only [List.length_cons, List.length_append]; omega
theorem take_St {m : Int} {Q : D → Mu → Prop} {E : Exn → Mu → Prop} (h : St c ρ μ) (hc : 0 < c) (hm : 0 < m) (hm2 : m.natAbs < 2 ^ 60) (q : ∀ c' d, c ≤ c' + 1 → 0 ≤ d → d < m → St c' ρ (μ.set 0 (.orc (c', false))) → Q (.int d) (μ.set 0 (.orc (c', false)))) : S_take [.ref 0, .int m] μ Q E := by
  have h' := h
  obtain ⟨ext, rfl⟩ := h
  exact take_O hc hm hm2 fun c' d h1 h2 h3 => q c' d h1 h2 h3 (h'.draw c')
end
theorem get_set0 {μ : Mu} {l : Nat} {x y : Cell} (h : μ[l]? = some y) (hl : 1 ≤ l) : (μ.set 0 x)[l]? = some y := by rw [List.getElem?_set_ne (by omega)]; exact h
theorem GCell.bound {p : Nat → Prop} {μ : Mu} {d : D} {g : List (List Str)} (h : GCell p μ d g) : GCell (fun l => p l ∧ l < μ.length) μ d g := by
  obtain ⟨lo, rows, h1, h2, h3, h4, h5⟩ := h
  exact ⟨lo, rows, h1, ⟨h2, (List.getElem?_eq_some_iff.mp h3).1⟩, h3, h4, fun i s e => let ⟨l, a, b, c⟩ := h5 i s e; ⟨l, a, ⟨b, (List.getElem?_eq_some_iff.mp c).1⟩, c⟩⟩
theorem GCell.lens {p : Nat → Prop} {μ : Mu} {d : D} {g : List (List Str)} (h : GCell p μ d g) (Q : D → Mu → Prop) : gLen [d] μ Q = Q (.int g.length) μ := by
  obtain ⟨rows, h1, h2, h3⟩ := h.see
  rw [ev_len h1, h2]
theorem ev_widG {p : Nat → Prop} {μ : Mu} {d : D} {W : List Str} {n : Nat} {g : List (List Str)} (h : GSee p μ d g) (hg : GB W n g) {Q : D → Mu → Prop} (q : Q (.int (wid g)) μ) : gIx d (.int 0) μ (fun x μ1 => gLen [x] μ1 fun y μ2 => Q y μ2) :=
  ev_widU (Γ := [some d]) (fa := dVar 0) (E := fun _ _ => False) h hg (fun _ _ => rfl) q
theorem GSee.any {p : Nat → Prop} {μ : Mu} {d : D} {g : List (List Str)} (h : GSee p μ d g) : GSee (fun _ => True) μ d g := h.imp fun _ _ => trivial
def S_tree_grid : DSp := fun ds μ Q _ => ∃ c ρ W, ds = [.ref 0, .lst (W.map .str)] ∧ μ = O c ρ ∧ W.length = 6 ∧ 50 ≤ c ∧ GenQ c ρ W 50 Q
def t_tree_grid : DTS := dSeq (dAsg (dComp false [7] (dIter (dSlice true (dVar 1) dNoPart (dPart (dBin gAdd (dC (.int 2)) (dOp S_take (dCons (dVar 0) (dCons (dC (.int 5)) (dNil)))))))) (cName 7) (dYes) (dCall gLstM (dCons (dCall gLstM (dCons (dVar 7) (dNil))) (dNil)))) (dName 2)) (dSeq (dFor (dRange1 (dC (.int 6))) (dName 3) (dSeq (dIf (dTest (dBin gEq (dCall gLen (dCons (dVar 2) dNil)) (dC (.int 1)))) (dRet (dBin gIx (dVar 2) (dC (.int 0)))) (dNext)) (dSeq (dAsg (dCellM cPop (dVar 2) (dCons (dOp S_take (dCons (dVar 0) (dCons (dCall gLen (dCons (dVar 2) dNil)) (dNil)))) dNil)) (dName 4)) (dSeq (dAsg (dCellM cPop (dVar 2) (dCons (dOp S_take (dCons (dVar 0) (dCons (dCall gLen (dCons (dVar 2) dNil)) (dNil)))) dNil)) (dName 5)) (dSeq (dAsg (dOp S_stacked (dCons (dVar 4) (dCons (dVar 5) (dNil)))) (dName 6)) (dSeq (dIf (dTest (dBin gEq (dOp S_take (dCons (dVar 0) (dCons (dC (.int 2)) (dNil)))) (dC (.int 0)))) (dAsg (dOp S_flipped (dCons (dOp S_stacked (dCons (dOp S_flipped (dCons (dVar 4) (dNil))) (dCons (dOp S_flipped (dCons (dVar 5) (dNil))) (dNil)))) (dNil))) (dName 6)) (dNext)) (dSeq (dIf (dOrT (dTest (dBin (gI fun i j => .bl (decide (j < i))) (dCall gLen (dCons (dVar 6) dNil)) (dC (.int 8)))) (dTest (dBin (gI fun i j => .bl (decide (j < i))) (dCall gLen (dCons (dBin gIx (dVar 6) (dC (.int 0))) dNil)) (dC (.int 8))))) (dAsg (dVar 4) (dName 6)) (dNext)) (dDrop (dCellM cAppend (dVar 2) (dCons (dVar 6) dNil)))))))))) (dRet (dBin gIx (dVar 2) (dC (.int 0)))))
/-- the parts, in their cell -/
def PartsAt (W : List Str) (lp : Nat) (p : Nat → Prop) (μ : Mu) (parts : List D) : Prop := μ[lp]? = some (.lst parts) ∧ ∀ a ∈ parts, ∃ g, GB W 8 g ∧ GCell p μ a g
theorem PartsAt.keep {W : List Str} {lp : Nat} {p : Nat → Prop} {μ μ' : Mu} {parts parts' : List D} (h : PartsAt W lp p μ parts) (h1 : μ'[lp]? = some (.lst parts')) (h2 : ∀ a ∈ parts', a ∈ parts) (h3 : ∀ a g, GCell p μ a g → GCell p μ' a g) : PartsAt W lp p μ' parts' :=
  ⟨h1, fun a ha => let ⟨g, b, c⟩ := h.2 a (h2 a ha); ⟨g, b, h3 a g c⟩⟩
theorem cut_len {α : Type} (xs : List α) (j : Int) (h : 0 ≤ j) : (cutL xs none (some j)) = xs.take j.toNat := cut_to xs h
theorem mem_erase {α : Type} {xs : List α} {i : Nat} {a : α} (h : a ∈ xs.eraseIdx i) : a ∈ xs := List.mem_of_mem_eraseIdx h
theorem tree_made {c : Nat} {ρ : Mu} {W : List Str} {lp : Nat} {parts : List D} {one other : D} {g1 g2 : List (List Str)} {μ : Mu} {De : DEnds} {a1 a3 a6 a7 : Option D} (hlp : ρ.length + 1 ≤ lp) (hlt : lp < μ.length) (st : St c ρ μ) (hc : 0 < c)
    (pa : PartsAt W lp (fun l => ρ.length + 1 ≤ l ∧ l ≠ lp) μ parts) (hpl : parts.length ≤ 5) (b1 : GB W 8 g1) (s1 : GCell (fun l => ρ.length + 1 ≤ l ∧ l ≠ lp) μ one g1) (b2 : GB W 8 g2) (s2 : GCell (fun l => ρ.length + 1 ≤ l ∧ l ≠ lp) μ other g2)
    (kn : ∀ c' μ' a b, c ≤ c' + 1 → St c' ρ μ' → lp < μ'.length → PartsAt W lp (fun l => ρ.length + 1 ≤ l ∧ l ≠ lp) μ' (parts ++ [a]) → De.nx [some (.ref 0), a1, some (.ref lp), a3, some one, some other, b, a7] μ') :
    dSeq (dAsg (dOp S_stacked (dCons (dVar 4) (dCons (dVar 5) (dNil)))) (dName 6)) (dSeq (dIf (dTest (dBin gEq (dOp S_take (dCons (dVar 0) (dCons (dC (.int 2)) (dNil)))) (dC (.int 0)))) (dAsg (dOp S_flipped (dCons (dOp S_stacked (dCons (dOp S_flipped (dCons (dVar 4) (dNil))) (dCons (dOp S_flipped (dCons (dVar 5) (dNil))) (dNil)))) (dNil))) (dName 6)) (dNext)) (dSeq (dIf (dOrT (dTest (dBin (gI fun i j => .bl (decide (j < i))) (dCall gLen (dCons (dVar 6) dNil)) (dC (.int 8)))) (dTest (dBin (gI fun i j => .bl (decide (j < i))) (dCall gLen (dCons (dBin gIx (dVar 6) (dC (.int 0))) dNil)) (dC (.int 8))))) (dAsg (dVar 4) (dName 6)) (dNext)) (dDrop (dCellM cAppend (dVar 2) (dCons (dVar 6) dNil))))) De [some (.ref 0), a1, some (.ref lp), a3, some one, some other, a6, a7] μ := by
  have np0 : ¬ ((fun l => ρ.length + 1 ≤ l ∧ l ≠ lp) 0) := fun z => by omega
  have npl : ¬ ((fun l => ρ.length + 1 ≤ l ∧ l ≠ lp) lp) := fun z => z.2 rfl
  -- the tail: the made grid is put in
  have tail : ∀ c' μ' made g', c ≤ c' + 1 → St c' ρ μ' → lp < μ'.length → PartsAt W lp (fun l => ρ.length + 1 ≤ l ∧ l ≠ lp) μ' parts → GCell (fun l => ρ.length + 1 ≤ l ∧ l ≠ lp) μ' one g1 → GB W 64 g' → GCell (fun l => ρ.length + 1 ≤ l ∧ l ≠ lp) μ' made g' →
      dSeq (dIf (dOrT (dTest (dBin (gI fun i j => .bl (decide (j < i))) (dCall gLen (dCons (dVar 6) dNil)) (dC (.int 8)))) (dTest (dBin (gI fun i j => .bl (decide (j < i))) (dCall gLen (dCons (dBin gIx (dVar 6) (dC (.int 0))) dNil)) (dC (.int 8))))) (dAsg (dVar 4) (dName 6)) (dNext)) (dDrop (dCellM cAppend (dVar 2) (dCons (dVar 6) dNil))) De [some (.ref 0), a1, some (.ref lp), a3, some one, some other, some made, a7] μ' := by
    intro c' μ' made g' hc' st' hlt' pa' s1' bm sm
    have app : ∀ a g, GB W 8 g → GCell (fun l => ρ.length + 1 ≤ l ∧ l ≠ lp) μ' a g → dDrop (dCellM cAppend (dVar 2) (dCons (dVar 6) dNil)) De [some (.ref 0), a1, some (.ref lp), a3, some one, some other, some a, a7] μ' := by
      intro a g ba sa
      simp only [dDrop, dCellM, dVar, dCons, dNil, List.getElem?_cons_succ, List.getElem?_cons_zero, pa'.1]
      rw [append_at (by omega)]
      dsimp only
      refine kn c' _ a _ hc' (st'.set hlp _) (by rw [List.length_set]; exact hlt') ⟨by rw [List.getElem?_set_self hlt'], fun x hx => ?_⟩
      rcases List.mem_append.mp hx with z | z
      · obtain ⟨g, b, e⟩ := pa'.2 x z
        exact ⟨g, b, e.set npl _⟩
      · rw [List.mem_singleton.mp z]; exact ⟨g, ba, sa.set npl _⟩
    simp only [dSeq, dIf, dOrT, dTest, dBin, dCall, dCons, dNil, dVar, dC, List.getElem?_cons_succ, List.getElem?_cons_zero, sm.lens, gI]
    by_cases h8 : g'.length ≤ 8
    · rw [show decide (8 < (g'.length : Int)) = false from decide_eq_false (by omega), cond_false]
      refine ev_widG sm.see bm ?_
      dsimp only
      by_cases w8 : wid g' ≤ 8
      · rw [show decide (8 < (wid g' : Int)) = false from decide_eq_false (by omega)]
        exact app made g' (bm.shrink h8 w8) sm
      · rw [show decide (8 < (wid g' : Int)) = true from decide_eq_true (by omega)]
        exact app one g1 b1 s1'
    · rw [show decide (8 < (g'.length : Int)) = true from decide_eq_true (by omega), cond_true]
      exact app one g1 b1 s1'
  simp only [dSeq, dAsg, dOp, dCons, dNil, dVar, List.getElem?_cons_succ, List.getElem?_cons_zero, dName, List.set_cons_succ, List.set_cons_zero]
  refine ⟨one, g1, other, g2, W, rfl, s1.see.any, b1, s2.see.any, b2, fun made ext g' bm sm => ?_⟩
  have sl := st.len
  have sm' : GCell (fun l => ρ.length + 1 ≤ l ∧ l ≠ lp) (μ ++ ext) made g' := sm.imp fun l h => by omega
  have pg : ∀ e, (μ ++ e)[lp]? = some (.lst parts) := fun e => get_app pa.1
  simp only [dIf, dTest, dBin, dOp, dCons, dNil, dVar, dC, List.getElem?_cons_succ, List.getElem?_cons_zero]
  refine take_St (st.app ext) hc (by decide) (by decide) fun c1 t h1 h2 h3 st1 => ?_
  simp only [gEq, deq_int]
  refine ⟨deqOk_int _ _ _, ?_⟩
  have pa1 : PartsAt W lp (fun l => ρ.length + 1 ≤ l ∧ l ≠ lp) ((μ ++ ext).set 0 (.orc (c1, false))) parts := pa.keep (get_set0 (pg ext) (by omega)) (fun _ h => h) fun a g h => (h.app ext).set np0 _
  have hlt1 : lp < ((μ ++ ext).set 0 (.orc (c1, false))).length := by rw [List.length_set, List.length_append]; omega
  have s1' := (s1.app ext).set np0 (.orc (c1, false))
  have s2' := (s2.app ext).set np0 (.orc (c1, false))
  have sm1 := sm'.set np0 (.orc (c1, false))
  generalize (μ ++ ext).set 0 (.orc (c1, false)) = μ1 at *
  by_cases ht : t = 0
  · rw [decide_eq_true ht, cond_true]
    simp only [dAsg, dOp, dCons, dNil, dVar, List.getElem?_cons_succ, List.getElem?_cons_zero, dName, List.set_cons_succ, List.set_cons_zero]
    refine ⟨one, g1, W, 8, rfl, s1'.see.any, b1, by decide, .inr fun e1 x1 q1 => ?_⟩
    have sl1 := st1.len
    refine ⟨other, g2, W, 8, rfl, (s2'.app x1).see.any, b2, by decide, .inr fun e2 x2 q2 => ?_⟩
    refine ⟨e1, flip g1, e2, flip g2, W, rfl, (q1.app x2).see.any, b1.flip, q2.see.any, b2.flip, fun e3 x3 g3 b3 q3 => ?_⟩
    refine ⟨e3, g3, W, 64, rfl, q3.see.any, b3, by decide, .inr fun e4 x4 q4 => ?_⟩
    have hl4 : lp < (μ1 ++ x1 ++ x2 ++ x3 ++ x4).length := by simp only [List.length_append]; omega
    refine tail c1 _ e4 (flip g3) h1 ((((st1.app x1).app x2).app x3).app x4) hl4 (pa1.keep ?_ (fun _ h => h) fun a g h => (((h.app x1).app x2).app x3).app x4) ((((s1'.app x1).app x2).app x3).app x4) b3.flip (q4.imp fun l h => ?_)
    · exact get_app (get_app (get_app (get_app pa1.1)))
    · simp only [List.length_append] at h; omega
  · rw [decide_eq_false ht, cond_false]
    exact tail c1 μ1 made g' h1 st1 hlt1 pa1 s1' bm sm1
theorem rd_tree_grid {n1 n2 n3 n4 n5 n6 n7 n8 : Str} : ∀ ds μ Q E, S_tree_grid ds μ Q E → t_tree_grid (dFn μ Q E) (start0 [n1, n2, n3, n4, n5, n6, n7, n8] ds) μ := by
  rintro _ _ Q E ⟨c, ρ, W, rfl, rfl, hW, hc, q⟩
  have fin : ∀ c' μ' a g, c ≤ c' + 50 → St c' ρ μ' → GB W 8 g → GCell (fun l => ρ.length + 1 ≤ l) μ' a g → FnEnd (O c ρ) a μ' Q := fun c' μ' a g h1 h2 h3 h4 => by
    obtain ⟨ext, rfl⟩ := h2
    exact FnEnd.here (q c' a ext g h1 h3 h4)
  unfold t_tree_grid
  walk_at "dv"
  refine take_O (by omega) (by decide) (by decide) fun c1 t g1 g2 g3 => ?_
  dsimp only
  rw [cut_len _ _ (by omega)]
  obtain ⟨k, hk⟩ : ∃ k, (2 + t).toNat = k := ⟨_, rfl⟩
  rw [hk]
  have hk2 : 2 ≤ k ∧ k ≤ 6 := by omega
  have hlen : ((W.map D.str).take k).length = k := by rw [List.length_take, List.length_map]; omega
  refine comp_inv (fun i acc μ' => St c1 ρ μ' ∧ acc.length = i ∧ ∀ a ∈ acc, ∃ g, GB W 8 g ∧ GCell (fun l => ρ.length + 1 ≤ l) μ' a g) ⟨⟨[], by simp⟩, rfl, by simp⟩ (by rw [hlen, sizeLine_eq]; omega) ?_ ?_
  · rintro i d acc μ' hd ⟨st, h1, h2⟩
    have hi : i < k := by rw [← hlen]; exact (List.getElem?_eq_some_iff.mp hd).1
    have hiW : i < W.length := by omega
    rw [List.getElem?_take, if_pos hi, List.getElem?_map, List.getElem?_eq_getElem hiW] at hd
    cases hd
    refine ⟨trivial, fun K1 K2 k1 k2 => ?_⟩
    walk_at "dv"
    refine ⟨by walk_at "sz", by walk_at "sz", k1 _ _ ⟨(st.app _).app _, by simp [h1], fun a ha => ?_⟩⟩
    rcases List.mem_append.mp ha with z | z
    · obtain ⟨g, b, e⟩ := h2 a z
      exact ⟨g, b, (e.app _).app _⟩
    · rw [List.mem_singleton.mp z]
      have nw := gcell_new (μ := μ') (g := [[W[i]]]) (p := fun l => ρ.length + 1 ≤ l) (fun l h => by have := st.len; omega)
      refine ⟨[[W[i]]], ⟨by simp, by simp, by simp [wid], by simp [wid], by simp [wid], by simp⟩, ?_⟩
      simpa [rowC, List.range_succ] using nw
  · rintro acc μ' ⟨st, h1, h2⟩
    rw [hlen] at h1
    refine ⟨trivial, ?_⟩
    have sl := st.len
    have pa0 : PartsAt W μ'.length (fun l => ρ.length + 1 ≤ l ∧ l ≠ μ'.length) (μ' ++ [.lst acc]) acc := ⟨by simp, fun a ha => by
      obtain ⟨g, b, e⟩ := h2 a ha
      exact ⟨g, b, (e.bound.imp (q := fun l => ρ.length + 1 ≤ l ∧ l ≠ μ'.length) fun l h => ⟨h.1, by omega⟩).app _⟩⟩
    show _ ∧ _
    refine ⟨by decide, ?_⟩
    have hlp : ρ.length + 1 ≤ μ'.length := sl
    have hlt0 : μ'.length < (μ' ++ [Cell.lst acc]).length := by simp
    have st0 := st.app [.lst acc]
    generalize μ' ++ [Cell.lst acc] = μ0 at pa0 hlt0 st0
    generalize μ'.length = lp at pa0 hlt0 hlp
    have np0 : ¬ ((fun l => ρ.length + 1 ≤ l ∧ l ≠ lp) 0) := fun z => by omega
    have npl : ¬ ((fun l => ρ.length + 1 ≤ l ∧ l ≠ lp) lp) := fun z => z.2 rfl
    refine loop_inv (src := none) (fun i Γ μ' => ∃ c' parts a3 a4 a5 a6, c1 ≤ c' + 3 * i ∧ i ≤ 6 ∧ St c' ρ μ' ∧ lp < μ'.length ∧ PartsAt W lp (fun l => ρ.length + 1 ≤ l ∧ l ≠ lp) μ' parts ∧ 1 ≤ parts.length ∧ parts.length ≤ 6 ∧ Γ = [some (.ref 0), some (.lst (W.map .str)), some (.ref lp), a3, a4, a5, a6, none])
      ⟨c1, acc, none, none, none, none, by omega, by omega, st0, hlt0, pa0, by omega, by omega, rfl⟩ ?_ ?_
    · rintro i d Γ μ' hd ⟨c', parts, a3, a4, a5, a6, b1, b2, st, hlt, pa, b3, b4, rfl⟩
      obtain ⟨hi, rfl⟩ := irng_get hd
      have hi : i < 6 := hi
      refine ⟨trivial, fun Kn kn => ?_⟩
      simp only [dName, dSeq, dIf, dTest, dBin, dCall, dCons, dNil, dVar, dC, List.set_cons_succ, List.set_cons_zero, List.getElem?_cons_succ, List.getElem?_cons_zero, gLen, lk_cell pa.1, gEq, deq_int]
      refine ⟨deqOk_int _ _ _, ?_⟩
      by_cases h1 : parts.length = 1
      · rw [show decide ((parts.length : Int) = 1) = true from decide_eq_true (by omega), cond_true]
        obtain ⟨a, rfl⟩ : ∃ a, parts = [a] := by
          match parts, h1 with
          | [a], _ => exact ⟨a, rfl⟩
        obtain ⟨g, bg, sg⟩ := pa.2 a (by simp)
        simp only [dRet, dBin, dVar, dC, List.getElem?_cons_succ, List.getElem?_cons_zero, gIx, lk_cell pa.1, atI_zero]
        exact fin c' μ' a g (by omega) st bg (sg.imp fun l h => h.1)
      · rw [show decide ((parts.length : Int) = 1) = false from decide_eq_false (by omega), cond_false]
        simp only [dNext, dSeq, dAsg, dCellM, dVar, dCons, dOp, dCall, dNil, List.getElem?_cons_succ, List.getElem?_cons_zero, pa.1, gLen, lk_cell pa.1]
        refine take_St st (by omega) (by omega) (by omega) fun c2 t2 e1 e2 e3 st2 => ?_
        obtain ⟨one, ho, hp⟩ := pop_at e2 e3 (by omega)
        have p2 := get_set0 (x := .orc (c2, false)) pa.1 (by omega)
        simp only [p2, hp]
        have hl2 : lp < (μ'.set 0 (.orc (c2, false))).length := by rw [List.length_set]; exact hlt
        have pa2 : PartsAt W lp (fun l => ρ.length + 1 ≤ l ∧ l ≠ lp) ((μ'.set 0 (.orc (c2, false))).set lp (.lst (parts.eraseIdx t2.toNat))) (parts.eraseIdx t2.toNat) :=
          pa.keep (by rw [List.getElem?_set_self hl2]) (fun a h => mem_erase h) fun a g h => (h.set np0 _).set npl _
        have st3 := st2.set hlp (.lst (parts.eraseIdx t2.toNat))
        obtain ⟨ga, bga, sga⟩ := pa.2 one (List.mem_of_getElem? ho)
        have sga2 := (sga.set np0 (.orc (c2, false))).set npl (.lst (parts.eraseIdx t2.toNat))
        have hl3 : lp < ((μ'.set 0 (.orc (c2, false))).set lp (.lst (parts.eraseIdx t2.toNat))).length := by rw [List.length_set]; exact hl2
        have hel : (parts.eraseIdx t2.toNat).length = parts.length - 1 := List.length_eraseIdx_of_lt (by omega)
        generalize (μ'.set 0 (.orc (c2, false))).set lp (.lst (parts.eraseIdx t2.toNat)) = μ2 at pa2 st3 sga2 hl3
        generalize parts.eraseIdx t2.toNat = parts2 at pa2 hel
        simp only [dSeq, dAsg, dCellM, dCons, dOp, dCall, dNil, dName, List.set_cons_succ, List.set_cons_zero, List.getElem?_cons_succ, List.getElem?_cons_zero, dVar, pa2.1, gLen, lk_cell pa2.1]
        refine take_St st3 (by omega) (by omega) (by omega) fun c4 t4 f1 f2 f3 st4 => ?_
        obtain ⟨oth, ho4, hp4⟩ := pop_at f2 f3 (by omega)
        have p4 := get_set0 (x := .orc (c4, false)) pa2.1 (by omega)
        simp only [p4, hp4]
        have hl4 : lp < (μ2.set 0 (.orc (c4, false))).length := by rw [List.length_set]; exact hl3
        have pa4 : PartsAt W lp (fun l => ρ.length + 1 ≤ l ∧ l ≠ lp) ((μ2.set 0 (.orc (c4, false))).set lp (.lst (parts2.eraseIdx t4.toNat))) (parts2.eraseIdx t4.toNat) :=
          pa2.keep (by rw [List.getElem?_set_self hl4]) (fun a h => mem_erase h) fun a g h => (h.set np0 _).set npl _
        have st5 := st4.set hlp (.lst (parts2.eraseIdx t4.toNat))
        obtain ⟨gb, bgb, sgb⟩ := pa2.2 oth (List.mem_of_getElem? ho4)
        have sgb4 := (sgb.set np0 (.orc (c4, false))).set npl (.lst (parts2.eraseIdx t4.toNat))
        have sga4 := (sga2.set np0 (.orc (c4, false))).set npl (.lst (parts2.eraseIdx t4.toNat))
        have hl5 : lp < ((μ2.set 0 (.orc (c4, false))).set lp (.lst (parts2.eraseIdx t4.toNat))).length := by rw [List.length_set]; exact hl4
        have hel4 : (parts2.eraseIdx t4.toNat).length = parts2.length - 1 := List.length_eraseIdx_of_lt (by omega)
        refine tree_made (a6 := a6) hlp hl5 st5 (by omega) pa4 (by omega) bga sga4 bgb sgb4 fun c5 μ5 a b h1 h2 h3 h4 => kn _ _ ⟨c5, _, _, _, _, _, by omega, by omega, h2, h3, h4, by simp, by simp; omega, rfl⟩
    · rintro Γ μ' ⟨c', parts, a3, a4, a5, a6, b1, b2, st, hlt, pa, b3, b4, rfl⟩
      rw [irng_len] at b1
      have b1 : c1 ≤ c' + 3 * 6 := b1
      refine ⟨trivial, ?_⟩
      obtain ⟨a, r, rfl⟩ : ∃ a r, parts = a :: r := by
        cases parts with
        | nil => simp at b3
        | cons a r => exact ⟨a, r, rfl⟩
      obtain ⟨g, bg, sg⟩ := pa.2 a (by simp)
      simp only [dRet, dBin, dVar, dC, List.getElem?_cons_succ, List.getElem?_cons_zero, gIx, lk_cell pa.1, atI_zero]
      exact fin c' μ' a g (by omega) st bg (sg.imp fun l h => h.1)
end DV
namespace DV
open PySem PySem.Spec PyProof.Rows L2
/-! smooth_grid -/
theorem GCell.apart {p : Nat → Prop} {μ : Mu} {lo : Nat} {g : List (List Str)} {rows : List D} (h : GCell p μ (.ref lo) g) (e : μ[lo]? = some (.lst rows)) : rows.length = g.length ∧ p lo ∧ ∀ (i : Nat) s, g[i]? = some s → ∃ l, rows[i]? = some (.ref l) ∧ p l ∧ l ≠ lo ∧ μ[l]? = some (.lst (s.map .str)) := by
  obtain ⟨lo', rows', h1, h2, h3, h4, h5⟩ := h
  cases h1
  rw [e] at h3; cases h3
  refine ⟨h4, h2, fun i s es => ?_⟩
  obtain ⟨l, a, b, c⟩ := h5 i s es
  refine ⟨l, a, b, fun z => ?_, c⟩
  subst z
  rw [e] at c; cases c
  rw [List.getElem?_map] at a
  cases hx : s[i]? with
  | none => rw [hx] at a; cases a
  | some x => rw [hx] at a; cases a
theorem get_ins {α : Type} {xs : List α} {t : Nat} {y : α} (ht : t ≤ xs.length) (i : Nat) : (xs.take t ++ [y] ++ xs.drop t)[i]? = if i < t then xs[i]? else if i = t then some y else xs[i - 1]? := by
  have hl : (xs.take t).length = t := by rw [List.length_take]; omega
  by_cases h1 : i < t
  · rw [if_pos h1, List.append_assoc, List.getElem?_append_left (by omega), List.getElem?_take, if_pos h1]
  · rw [if_neg h1]
    by_cases h2 : i = t
    · subst h2
      rw [if_pos rfl, List.append_assoc, List.getElem?_append_right (by omega), hl]; simp
    · rw [if_neg h2, List.getElem?_append_right (by simp; omega)]
      simp only [List.length_append, hl, List.length_cons, List.length_nil, List.getElem?_drop]
      congr 1
      omega
theorem GCell.ins {p : Nat → Prop} {μ : Mu} {lo l t : Nat} {g : List (List Str)} {rows : List D} {s : List Str} (h : GCell p μ (.ref lo) g) (e : μ[lo]? = some (.lst rows)) (ht : t ≤ g.length) (hl : p l) (hne : l ≠ lo) (el : μ[l]? = some (.lst (s.map .str))) :
    GCell p (μ.set lo (.lst (rows.take t ++ [.ref l] ++ rows.drop t))) (.ref lo) (g.take t ++ [s] ++ g.drop t) := by
  obtain ⟨h1, h2, h3⟩ := h.apart e
  have hlt := (List.getElem?_eq_some_iff.mp e).1
  refine ⟨lo, _, rfl, h2, List.getElem?_set_self hlt, by simp [h1], fun i s' es => ?_⟩
  rw [get_ins ht] at es
  have row : ∀ j, g[j]? = some s' → ∃ m, rows[j]? = some (D.ref m) ∧ p m ∧ (μ.set lo (Cell.lst (rows.take t ++ [D.ref l] ++ rows.drop t)))[m]? = some (Cell.lst (s'.map D.str)) := fun j ej => by
    obtain ⟨m, a, b, c, d⟩ := h3 j s' ej
    exact ⟨m, a, b, by rw [List.getElem?_set_ne (Ne.symm c)]; exact d⟩
  rw [get_ins (by omega)]
  split at es
  · rename_i hi
    rw [if_pos hi]; exact row i es
  · rename_i hi
    rw [if_neg hi]
    split at es
    · rename_i hi2
      cases es
      rw [if_pos hi2]
      exact ⟨l, rfl, hl, by rw [List.getElem?_set_ne (Ne.symm hne)]; exact el⟩
    · rename_i hi2
      rw [if_neg hi2]; exact row (i - 1) es
theorem GB.ins {W : List Str} {g : List (List Str)} {s : List Str} {t : Nat} (h : GB W 8 g) (h8 : g.length < 8) (hs : s.length = wid g) (hm : ∀ x ∈ s, x ∈ W) (ht : t ≤ g.length) : GB W 8 (g.take t ++ [s] ++ g.drop t) := by
  refine GB.mk' (w := wid g) (by simp; omega) (by simp; omega) h.w1 h.w2 fun r hr => ?_
  rcases List.mem_append.mp hr with z | z
  · rcases List.mem_append.mp z with z | z
    · exact ⟨h.eq r (List.mem_of_mem_take z), h.mem r (List.mem_of_mem_take z)⟩
    · rw [List.mem_singleton.mp z]; exact ⟨hs, hm⟩
  · exact ⟨h.eq r (List.mem_of_mem_drop z), h.mem r (List.mem_of_mem_drop z)⟩
def S_smooth_grid : DSp := fun ds μ Q _ => ∃ c ρ W, ds = [.ref 0, .lst (W.map .str)] ∧ μ = O c ρ ∧ W.length = 6 ∧ 50 ≤ c ∧ GenQ c ρ W 50 Q
def t_smooth_grid : DTS := dSeq (dAsg (dCall gLstM (dCons (dCall gLstM (dCons (dBin gIx (dVar 1) (dC (.int 0))) (dNil))) (dNil))) (dName 2)) (dSeq (dFor (dRange1 (dOp S_take (dCons (dVar 0) (dCons (dC (.int 9)) (dNil))))) (dName 3) (dSeq (dAsg (dOp S_take (dCons (dVar 0) (dCons (dC (.int 4)) (dNil)))) (dName 4)) (dSeq (dAsg (dBin gEq (dBin gMod (dVar 4) (dC (.int 2))) (dC (.int 1))) (dName 5)) (dSeq (dIf (dTruth (dVar 5)) (dAsg (dOp S_flipped (dCons (dVar 2) (dNil))) (dName 2)) (dNext)) (dSeq (dAsg (dBin gMulM (dCall gLst (dCons (dBin gIx (dVar 1) (dOp S_take (dCons (dVar 0) (dCons (dC (.int 6)) (dNil))))) (dNil))) (dCall gLen (dCons (dBin gIx (dVar 2) (dC (.int 0))) dNil))) (dName 6)) (dSeq (dIf (dTest (dBin (gI fun i j => .bl (decide (j < i))) (dVar 4) (dC (.int 1)))) (dAsg (dCall (gList false) (dCons (dBin gIx (dVar 2) (dOp S_take (dCons (dVar 0) (dCons (dCall gLen (dCons (dVar 2) dNil)) (dNil))))) dNil)) (dName 6)) (dNext)) (dSeq (dIf (dTest (dBin (gI fun i j => .bl (decide (i < j))) (dCall gLen (dCons (dVar 2) dNil)) (dC (.int 8)))) (dDrop (dCellM cInsert (dVar 2) (dCons (dOp S_take (dCons (dVar 0) (dCons (dBin gAdd (dCall gLen (dCons (dVar 2) dNil)) (dC (.int 1))) (dNil)))) (dCons (dVar 6) dNil)))) (dNext)) (dIf (dTruth (dVar 5)) (dAsg (dOp S_flipped (dCons (dVar 2) (dNil))) (dName 2)) (dNext))))))))) (dRet (dVar 2)))
/-- a grid in cells that p allows, the cells as they stand -/
structure SGr (c : Nat) (ρ : Mu) (W : List Str) (μ : Mu) (d : D) (g : List (List Str)) : Prop where
  st : St c ρ μ
  b : GB W 8 g
  s : GCell (fun l => ρ.length + 1 ≤ l) μ d g
theorem SGr.draw {c : Nat} {ρ : Mu} {W : List Str} {μ : Mu} {d : D} {g : List (List Str)} (h : SGr c ρ W μ d g) (c' : Nat) : SGr c' ρ W (μ.set 0 (.orc (c', false))) d g := ⟨h.st.draw c', h.b, h.s.set (by omega) _⟩
theorem SGr.app {c : Nat} {ρ : Mu} {W : List Str} {μ : Mu} {d : D} {g : List (List Str)} (h : SGr c ρ W μ d g) (e : Mu) : SGr c ρ W (μ ++ e) d g := ⟨h.st.app e, h.b, h.s.app e⟩
/-- if flip: grid = flipped(grid) -/
theorem flip_if {c : Nat} {ρ : Mu} {W : List Str} {μ : Mu} {d : D} {g : List (List Str)} {b : Bool} {De : DEnds} {a0 a1 a3 a4 a6 : Option D} (h : SGr c ρ W μ d g) (kn : ∀ μ' d' g', SGr c ρ W μ' d' g' → (∀ (l : Nat) x, μ[l]? = some x → μ'[l]? = some x) → De.nx [a0, a1, some d', a3, a4, some (.bl b), a6] μ') :
    dIf (dTruth (dVar 5)) (dAsg (dOp S_flipped (dCons (dVar 2) (dNil))) (dName 2)) (dNext) De [a0, a1, some d, a3, a4, some (.bl b), a6] μ := by
  simp only [dIf, dTruth, dVar, List.getElem?_cons_succ, List.getElem?_cons_zero, lk, truD, dAsg, dOp, dCons, dNil, dName, List.set_cons_succ, List.set_cons_zero, dNext]
  cases b with
  | false => exact kn μ d g h fun _ _ e => e
  | true =>
    refine ⟨d, g, W, 8, rfl, h.s.see.any, h.b, by decide, .inr fun d' ext q => ?_⟩
    have hl := h.st.len
    exact kn _ d' (flip g) ⟨h.st.app ext, h.b.flip, q.imp fun l h => by omega⟩ fun _ _ e => get_app e
theorem rd_smooth_grid {n1 n2 n3 n4 n5 n6 n7 : Str} : ∀ ds μ Q E, S_smooth_grid ds μ Q E → t_smooth_grid (dFn μ Q E) (start0 [n1, n2, n3, n4, n5, n6, n7] ds) μ := by
  rintro _ _ Q E ⟨c, ρ, W, rfl, rfl, hW, hc, q⟩
  obtain ⟨w0, hw0, e0⟩ := word_at (W := W) (t := 0) (by decide) (by omega)
  unfold t_smooth_grid
  walk_at "dv"
  rw [e0]
  dsimp only
  walk_at "dv"
  refine ⟨by walk_at "sz", by walk_at "sz", ?_⟩
  have sg0 : SGr c ρ W (O c ρ ++ [.lst [.str w0]] ++ [.lst [.ref (ρ.length + 1)]]) (.ref (ρ.length + 1 + 1)) [[w0]] := by
    have nw := gcell_new (μ := O c ρ) (g := [[w0]]) (p := fun l => ρ.length + 1 ≤ l) (fun l h => by simpa using h)
    exact ⟨((show St c ρ (O c ρ) from ⟨[], by simp⟩).app _).app _, ⟨by simp, by simp, by simp [wid], by simp [wid], by simp [wid], by simpa using hw0⟩, by simpa [rowC, List.range_succ] using nw⟩
  have sg0' : SGr c ρ W (Cell.orc (c, false) :: (ρ ++ [Cell.lst [D.str w0]] ++ [Cell.lst [D.ref (ρ.length + 1)]])) (.ref (ρ.length + 1 + 1)) [[w0]] := by simpa using sg0
  have el : (ρ ++ [Cell.lst [D.str w0]]).length + 1 = ρ.length + 1 + 1 := by simp
  rw [el]
  refine take_St sg0'.st (by omega) (by decide) (by decide) fun c1 n h1 h2 h3 st1 => ?_
  have sg1 := sg0'.draw c1
  dsimp only
  refine ⟨by omega, loop_inv (src := none) (fun i Γ μ' => ∃ c' d g a3 a4 a5 a6, c1 ≤ c' + 5 * i ∧ i ≤ n.toNat ∧ SGr c' ρ W μ' d g ∧ Γ = [some (.ref 0), some (.lst (W.map .str)), some d, a3, a4, a5, a6]) ⟨c1, _, _, none, none, none, none, by omega, by omega, sg1, rfl⟩ ?_ ?_⟩
  · rintro i d' Γ μ' hd' ⟨c', d, g, a3, a4, a5, a6, b1, b2, sg, rfl⟩
    obtain ⟨hi, rfl⟩ := irng_get hd'
    refine ⟨trivial, fun Kn kn => ?_⟩
    have hi8 : i < 8 := by omega
    simp only [dName, dSeq, dAsg, dOp, dCons, dNil, dVar, dC, List.set_cons_succ, List.set_cons_zero, List.getElem?_cons_succ, List.getElem?_cons_zero]
    refine take_St sg.st (by omega) (by decide) (by decide) fun c2 pl f1 f2 f3 st2 => ?_
    have sg2 := sg.draw c2
    generalize μ'.set 0 (.orc (c2, false)) = μ2 at *
    simp only [dBin, dVar, dC, List.getElem?_cons_succ, List.getElem?_cons_zero, gMod, gEq, deq_int]
    refine ⟨by decide, deqOk_int _ _ _, ?_⟩
    generalize decide (pl.fmod 2 = 1) = fb
    refine flip_if sg2 fun μ3 d3 g3 sg3 _ => ?_
    simp only [dSeq, dAsg, dBin, dCall, dCons, dNil, dVar, dC, dOp, List.getElem?_cons_succ, List.getElem?_cons_zero]
    refine take_St sg3.st (by omega) (by decide) (by decide) fun c4 t f4 f5 f6 st4 => ?_
    have sg4 := sg3.draw c4
    generalize μ3.set 0 (.orc (c4, false)) = μ4 at *
    obtain ⟨x, hx, ex⟩ := word_at (W := W) (t := t) f5 (by omega)
    simp only [gIx, lk, ex, gLst, List.length_cons, List.length_nil]
    refine ⟨by walk_at "sz", ?_⟩
    have hw8 := sg4.b.w2
    show gIx d3 (.int 0) μ4 (fun x μ1 => gLen [x] μ1 _)
    refine ev_widG sg4.s.see sg4.b ?_
    simp only [gMulM, lk]
    refine ⟨⟨by omega, by omega, by rw [sizeLine_eq]; simp; omega⟩, ?_⟩
    rw [Int.toNat_natCast, rep_flat]
    -- the line, in a new cell
    have line : ∀ (c5 : Nat) (μ5 : Mu) (l : Nat) (s : List Str), c4 ≤ c5 + 1 → SGr c5 ρ W μ5 d3 g3 → ρ.length + 1 ≤ l → d3 ≠ .ref l → μ5[l]? = some (.lst (s.map .str)) → s.length = wid g3 → (∀ x ∈ s, x ∈ W) →
        dSeq (dIf (dTest (dBin (gI fun i j => .bl (decide (i < j))) (dCall gLen (dCons (dVar 2) dNil)) (dC (.int 8)))) (dDrop (dCellM cInsert (dVar 2) (dCons (dOp S_take (dCons (dVar 0) (dCons (dBin gAdd (dCall gLen (dCons (dVar 2) dNil)) (dC (.int 1))) (dNil)))) (dCons (dVar 6) dNil)))) (dNext)) (dIf (dTruth (dVar 5)) (dAsg (dOp S_flipped (dCons (dVar 2) (dNil))) (dName 2)) (dNext))
          { nx := Kn, rt := (dFn (O c ρ) Q E).rt, bk := dRet (dVar 2) (dFn (O c ρ) Q E), ct := Kn, ex := (dFn (O c ρ) Q E).ex } [some (.ref 0), some (.lst (W.map .str)), some d3, some (.int (0 + (i : Int))), some (.int pl), some (.bl fb), some (.ref l)] μ5 := by
      intro c5 μ5 l s k1 sg5 k2 k3 k4 k5 k6
      have last : ∀ c6 μ6 g6, c5 ≤ c6 + 1 → SGr c6 ρ W μ6 d3 g6 → dIf (dTruth (dVar 5)) (dAsg (dOp S_flipped (dCons (dVar 2) (dNil))) (dName 2)) (dNext) { nx := Kn, rt := (dFn (O c ρ) Q E).rt, bk := dRet (dVar 2) (dFn (O c ρ) Q E), ct := Kn, ex := (dFn (O c ρ) Q E).ex } [some (.ref 0), some (.lst (W.map .str)), some d3, some (.int (0 + (i : Int))), some (.int pl), some (.bl fb), some (.ref l)] μ6 := fun c6 μ6 g6 e1 sg6 =>
        flip_if sg6 fun μ7 d7 g7 sg7 _ => kn _ _ ⟨c6, d7, g7, _, _, _, _, by omega, by omega, sg7, rfl⟩
      obtain ⟨lo, rows, rfl, r2, r3, r4, r5⟩ := id sg5.s
      rw [dSeq]
      simp only [dIf, dTest, dBin, dCall, dCons, dNil, dVar, dC, List.getElem?_cons_succ, List.getElem?_cons_zero, sg5.s.lens, gI]
      by_cases h8 : g3.length < 8
      · rw [show decide ((g3.length : Int) < 8) = true from decide_eq_true (by omega), cond_true]
        simp only [dDrop, dCellM, dVar, List.getElem?_cons_succ, List.getElem?_cons_zero, r3, dCons, dOp, dBin, dCall, dNil, sg5.s.lens, dC, gAdd, lk]
        refine take_St sg5.st (by omega) (by omega) (by omega) fun c6 u e1 e2 e3 st6 => ?_
        have sg6 := sg5.draw c6
        have r3' := get_set0 (x := .orc (c6, false)) r3 (by omega)
        have k4' := get_set0 (x := .orc (c6, false)) k4 (by omega)
        generalize μ5.set 0 (.orc (c6, false)) = μ6 at *
        simp only [r3']
        have ci : cInsert rows [.int u, .ref l] = some (.non, rows.take u.toNat ++ [.ref l] ++ rows.drop u.toNat) := by
          unfold cInsert
          dsimp only
          rw [if_pos ⟨by rw [sizeLine_eq]; omega, e2, by omega⟩]
        rw [ci]
        dsimp only
        refine last c6 _ (g3.take u.toNat ++ [s] ++ g3.drop u.toNat) (by omega) ⟨sg6.st.set r2 _, sg6.b.ins h8 k5 k6 (by omega), sg6.s.ins r3' (by omega) k2 (fun z => k3 (by rw [z])) k4'⟩
      · rw [show decide ((g3.length : Int) < 8) = false from decide_eq_false (by omega), cond_false]
        exact last c5 μ5 g3 (by omega) sg5
    have hd3 : ∀ μ5 : Mu, SGr c4 ρ W μ5 d3 g3 → d3 ≠ .ref μ5.length := fun μ5 sg5 z => by
      obtain ⟨lo, rows, r1, r2, r3, _⟩ := sg5.s
      rw [r1] at z; cases z
      have := (List.getElem?_eq_some_iff.mp r3).1
      omega
    simp only [dName, List.set_cons_succ, List.set_cons_zero]
    rw [dSeq]
    simp only [dIf, dTest, dBin, dVar, dC, List.getElem?_cons_succ, List.getElem?_cons_zero, gI]
    have sl4 := sg4.st.len
    by_cases hp : 1 < pl
    · rw [decide_eq_true hp, cond_true]
      simp only [dAsg, dCall, dCons, dNil, dBin, dVar, dOp, List.getElem?_cons_succ, List.getElem?_cons_zero, (sg4.s.app _).lens]
      have sg5 := sg4.app [.lst ((List.replicate (wid g3) x).map .str)]
      refine take_St sg5.st (by omega) (by have := sg4.b.h1; omega) (by have := sg4.b.h2; omega) fun c6 u e1 e2 e3 st6 => ?_
      have sg6 := sg5.draw c6
      generalize (μ4 ++ [Cell.lst ((List.replicate (wid g3) x).map .str)]).set 0 (.orc (c6, false)) = μ6 at *
      obtain ⟨rows, q1, q2, q3⟩ := sg6.s.see
      have hu : u.toNat < g3.length := by omega
      obtain ⟨r, q4, q5⟩ := q3 u.toNat g3[u.toNat] (List.getElem?_eq_getElem hu)
      rw [show u = ((u.toNat : Nat) : Int) from by omega, ev_ix q1 q4]
      simp only [gList, q5.lk, dFin, dName, List.set_cons_succ, List.set_cons_zero]
      have sg7 := sg6.app [.lst (g3[u.toNat].map .str)]
      refine line c6 _ _ _ e1 sg7 (by have := sg6.st.len; omega) (fun z => ?_) get_a0 (sg6.b.eq _ (List.getElem_mem hu)) (sg6.b.mem _ (List.getElem_mem hu))
      obtain ⟨lo, rows, r1, r2, r3, _⟩ := sg6.s
      rw [r1] at z; cases z
      have := (List.getElem?_eq_some_iff.mp r3).1
      omega
    · rw [decide_eq_false hp, cond_false]
      exact line c4 _ _ _ (by omega) (sg4.app _) (by omega) (hd3 μ4 sg4) get_a0 (by simp) (fun y hy => by rw [List.mem_replicate] at hy; rw [hy.2]; exact hx)
  · rintro Γ μ' ⟨c', d, g, a3, a4, a5, a6, b1, b2, sg, rfl⟩
    rw [irng_len] at b1
    refine ⟨trivial, ?_⟩
    simp only [dRet, dVar, List.getElem?_cons_succ, List.getElem?_cons_zero]
    obtain ⟨⟨ext, rfl⟩, hb, hs⟩ := sg
    exact FnEnd.here (q c' d ext g (by omega) hb hs)
end DV
namespace DV
open PySem PySem.Spec PyProof.Rows L2
open Classical in
theorem GCell.rowset {p : Nat → Prop} {μ : Mu} {d : D} {g : List (List Str)} {W : List Str} {l : Nat} {s s' : List Str} {rows : List D} (h : GCell p μ d g) (hb : GB W 8 g) (hr : See (fun _ => True) μ d rows) (i : Nat) (hi : rows[i]? = some (.ref l)) (hl : μ[l]? = some (.lst (s.map .str))) (hs : s'.length = wid g) (hm : ∀ x ∈ s', x ∈ W) :
    ∃ g', GB W 8 g' ∧ GCell p (μ.set l (.lst (s'.map .str))) d g' := by
  obtain ⟨lo, rows', h1, h2, h3, h4, h5⟩ := id h
  subst h1
  have er : rows = rows' := hr.fun_ (q := fun _ => True) (.inr ⟨lo, rfl, trivial, h3⟩)
  subst er
  have hlt : l < μ.length := (List.getElem?_eq_some_iff.mp hl).1
  have hne : l ≠ lo := fun z => by
    subst z
    rw [h3] at hl; cases hl
    rw [List.getElem?_map] at hi
    cases hx : s[i]? with
    | none => rw [hx] at hi; cases hi
    | some x => rw [hx] at hi; cases hi
  refine ⟨(List.range g.length).map fun i => if rows[i]? = some (D.ref l) then s' else g.getD i [], GB.mk' (w := wid g) (by simpa using hb.h1) (by simpa using hb.h2) hb.w1 hb.w2 fun r hr => ?_, lo, rows, rfl, h2, by rw [List.getElem?_set_ne hne]; exact h3, by simpa using h4, fun j t e => ?_⟩
  · obtain ⟨j, hj, rfl⟩ := List.mem_map.mp hr
    rw [List.mem_range] at hj
    split
    · exact ⟨hs, hm⟩
    · rw [List.getD_eq_getElem?_getD, List.getElem?_eq_getElem hj]
      exact ⟨hb.eq _ (List.getElem_mem hj), hb.mem _ (List.getElem_mem hj)⟩
  · rw [List.getElem?_map] at e
    have hj : j < g.length := by
      cases hx : (List.range g.length)[j]? with
      | none => rw [hx] at e; cases e
      | some x => have := (List.getElem?_eq_some_iff.mp hx).1; simpa using this
    rw [List.getElem?_range hj] at e
    obtain ⟨m, a, b, c⟩ := h5 j g[j] (List.getElem?_eq_getElem hj)
    refine ⟨m, a, b, ?_⟩
    have e' : (if rows[j]? = some (D.ref l) then s' else g.getD j []) = t := by simpa using e
    by_cases hm2 : m = l
    · subst hm2
      rw [if_pos a] at e'
      rw [← e', List.getElem?_set_self hlt]
    · rw [if_neg (by rw [a]; intro z; cases z; exact hm2 rfl), List.getD_eq_getElem?_getD, List.getElem?_eq_getElem hj] at e'
      rw [List.getElem?_set_ne (Ne.symm hm2), c]
      rw [← e']; rfl
def S_grid : DSp := fun ds μ Q _ => ∃ c ρ W, ds = [.ref 0, .lst (W.map .str)] ∧ μ = O c ρ ∧ W.length = 6 ∧ 300 ≤ c ∧ ((∀ c' g, c ≤ c' + 300 → GB W 8 g → Q (gridD g) (O c' ρ)) ∨ GenQ c ρ W 300 Q)
def t_grid : DTS := dSeq (dAsg (dOp S_take (dCons (dVar 0) (dCons (dC (.int 7)) (dNil)))) (dName 2)) (dSeq (dAsg (dOp S_any_grid (dCons (dVar 0) (dCons (dVar 1) (dNil)))) (dName 3)) (dSeq (dIf (dTest (dBin (gIn false) (dVar 2) (dCall gLst (dCons (dC (.int 1)) (dCons (dC (.int 2)) (dNil)))))) (dAsg (dOp S_tree_grid (dCons (dVar 0) (dCons (dVar 1) (dNil)))) (dName 3)) (dNext)) (dSeq (dIf (dTest (dBin gEq (dVar 2) (dC (.int 3)))) (dAsg (dOp S_renamed (dCons (dVar 0) (dCons (dOp S_tree_grid (dCons (dVar 0) (dCons (dVar 1) (dNil)))) (dCons (dVar 1) (dNil))))) (dName 3)) (dNext)) (dSeq (dIf (dTest (dBin (gIn false) (dVar 2) (dCall gLst (dCons (dC (.int 4)) (dCons (dC (.int 5)) (dNil)))))) (dAsg (dOp S_smooth_grid (dCons (dVar 0) (dCons (dVar 1) (dNil)))) (dName 3)) (dNext)) (dSeq (dIf (dTest (dBin (gIn false) (dVar 2) (dCall gLst (dCons (dC (.int 2)) (dCons (dC (.int 5)) (dCons (dC (.int 6)) (dNil))))))) (dSeq (dAsg (dBin gIx (dVar 3) (dOp S_take (dCons (dVar 0) (dCons (dCall gLen (dCons (dVar 3) dNil)) (dNil))))) (dName 4)) (dAsg (dBin gIx (dVar 1) (dOp S_take (dCons (dVar 0) (dCons (dC (.int 6)) (dNil))))) (dSetI (dVar 4) (dOp S_take (dCons (dVar 0) (dCons (dCall gLen (dCons (dVar 4) dNil)) (dNil))))))) (dNext)) (dRet (dVar 3)))))))
theorem upd_O {c c' : Nat} {ρ : Mu} : Upd (O c ρ) (O c' ρ) := ⟨rfl, fun i x => by
  cases i with
  | zero => intro h; cases h; exact .inr rfl
  | succ i => intro h; exact .inl h⟩
/-- from a maker's promise to the grid's state -/
theorem genq {c c0 B B0 : Nat} {ρ ext : Mu} {W : List Str} {Q : D → Mu → Prop} (q : ∀ c' μ' d g, c ≤ c' + B → SGr c' ρ W μ' d g → Q d μ') : GenQ c (ρ ++ ext) W B Q := fun c' d' e g h1 h2 h3 =>
  q c' _ d' g h1 ⟨⟨ext ++ e, by simp⟩, h2, h3.imp fun l h => by simp at h; omega⟩
theorem genq0 {c B : Nat} {ρ : Mu} {W : List Str} {Q : D → Mu → Prop} (q : ∀ c' μ' d g, c ≤ c' + B → SGr c' ρ W μ' d g → Q d μ') : GenQ c ρ W B Q := fun c' d' e g h1 h2 h3 => q c' _ d' g h1 ⟨⟨e, rfl⟩, h2, h3⟩
theorem st_eq {c : Nat} {ρ μ : Mu} (h : St c ρ μ) : ∃ ext, μ = O c (ρ ++ ext) := h
theorem rd_grid {n1 n2 n3 n4 n5 : Str} : ∀ ds μ Q E, S_grid ds μ Q E → t_grid (dFn μ Q E) (start0 [n1, n2, n3, n4, n5] ds) μ := by
  rintro _ _ Q E ⟨c, ρ, W, rfl, rfl, hW, hc, q⟩
  have fin : ∀ c' μ' d g, c ≤ c' + 300 → SGr c' ρ W μ' d g → FnEnd (O c ρ) d μ' Q := fun c' μ' d g h1 h2 => by
    obtain ⟨⟨ext, rfl⟩, hb, hs⟩ := h2
    rcases q with q | q
    · rw [show O c' (ρ ++ ext) = O c' ρ ++ ext from by simp] at hs ⊢
      exact FnEnd.melt upd_O (gfz (hs.see.imp fun l h => by simpa using h)) (q c' g h1 hb)
    · exact FnEnd.here (q c' d ext g h1 hb hs)
  unfold t_grid
  simp only [dSeq, dAsg, dOp, dCons, dNil, dVar, dC, start0, List.map_cons, List.map_nil, List.length_cons, List.length_nil, List.replicate, List.cons_append, List.nil_append, List.getElem?_cons_zero, List.getElem?_cons_succ, dName, List.set_cons_succ, List.set_cons_zero]
  refine take_O (by omega) (by decide) (by decide) fun c1 pl f1 f2 f3 => ?_
  refine ⟨c1, ρ, W, rfl, rfl, hW, by omega, ?_⟩
  refine genq0 fun c2 μ2 d2 g2 f4 sg2 => ?_
  have fl : ∀ (a b : Int), (D.int a).flat = true ∧ [D.int a, D.int b].all D.flat = true := fun a b => ⟨rfl, rfl⟩
  simp only [dIf, dTest, dBin, dVar, dCall, dCons, dNil, dC, gLst, List.getElem?_cons_zero, List.getElem?_cons_succ, List.length_cons, List.length_nil, gIn, lk]
  refine ⟨by walk_at "sz", ⟨rfl, rfl⟩, ?_⟩
  -- the changed cell and the end
  have last : ∀ c5 μ5 d5 g5, c1 ≤ c5 + 270 → SGr c5 ρ W μ5 d5 g5 → dSeq (dIf (dTest (dBin (gIn false) (dVar 2) (dCall gLst (dCons (dC (.int 2)) (dCons (dC (.int 5)) (dCons (dC (.int 6)) (dNil))))))) (dSeq (dAsg (dBin gIx (dVar 3) (dOp S_take (dCons (dVar 0) (dCons (dCall gLen (dCons (dVar 3) dNil)) (dNil))))) (dName 4)) (dAsg (dBin gIx (dVar 1) (dOp S_take (dCons (dVar 0) (dCons (dC (.int 6)) (dNil))))) (dSetI (dVar 4) (dOp S_take (dCons (dVar 0) (dCons (dCall gLen (dCons (dVar 4) dNil)) (dNil))))))) (dNext)) (dRet (dVar 3)) (dFn (O c ρ) Q E) [some (.ref 0), some (.lst (W.map .str)), some (.int pl), some d5, none] μ5 := by
    intro c5 μ5 d5 g5 h1 sg5
    rw [dSeq]
    simp only [dIf, dTest, dBin, dVar, dCall, dCons, dNil, dC, gLst, List.getElem?_cons_zero, List.getElem?_cons_succ, List.length_cons, List.length_nil, gIn, lk]
    refine ⟨by walk_at "sz", ⟨rfl, rfl⟩, ?_⟩
    generalize (if false = true then !inF (D.int pl) [D.int 2, .int 5, .int 6] else inF (D.int pl) [D.int 2, .int 5, .int 6]) = b
    cases b with
    | false => exact fin c5 μ5 d5 g5 (by omega) sg5
    | true =>
      simp only [cond_true, dSeq, dAsg, dBin, dVar, dOp, dCons, dNil, dCall, dC, List.getElem?_cons_zero, List.getElem?_cons_succ, sg5.s.lens]
      refine take_St sg5.st (by omega) (by have := sg5.b.h1; omega) (by have := sg5.b.h2; omega) fun c6 u e1 e2 e3 st6 => ?_
      have sg6 := sg5.draw c6
      generalize μ5.set 0 (.orc (c6, false)) = μ6 at *
      obtain ⟨rows, q1, q2, q3⟩ := sg6.s.see
      have hu : u.toNat < g5.length := by omega
      obtain ⟨lo, rows', r1, r2, r3, r4, r5⟩ := id sg6.s
      have er : rows = rows' := q1.fun_ (q := fun _ => True) (.inr ⟨lo, r1, trivial, r3⟩)
      subst er
      obtain ⟨l, k1, k2, k3⟩ := r5 u.toNat g5[u.toNat] (List.getElem?_eq_getElem hu)
      have hsl := sg6.b.eq _ (List.getElem_mem hu)
      have hsm := sg6.b.mem _ (List.getElem_mem hu)
      generalize g5[u.toNat] = s at k3 hsl hsm
      rw [show u = ((u.toNat : Nat) : Int) from by omega, ev_ix q1 k1]
      simp only [dName, List.set_cons_succ, List.set_cons_zero, dAsg, dBin, dVar, dOp, dCons, dNil, dC, List.getElem?_cons_zero, List.getElem?_cons_succ]
      refine take_St sg6.st (by omega) (by decide) (by decide) fun c7 v e4 e5 e6 st7 => ?_
      have sg7 := sg6.draw c7
      have k3' := get_set0 (x := .orc (c7, false)) k3 (by omega)
      have q1' : See (fun _ => True) (μ6.set 0 (.orc (c7, false))) d5 rows := .inr ⟨lo, r1, trivial, get_set0 r3 (by omega)⟩
      generalize μ6.set 0 (.orc (c7, false)) = μ7 at *
      obtain ⟨x, hx, ex⟩ := word_at (W := W) (t := v) e5 (by omega)
      simp only [gIx, lk, ex, dSetI, dVar, dOp, dCons, dNil, dCall, gLen, List.getElem?_cons_zero, List.getElem?_cons_succ, lk_cell k3', k3', List.length_map]
      have hw1 := sg6.b.w1
      have hw2 := sg6.b.w2
      refine take_St sg7.st (by omega) (by omega) (by omega) fun c8 z e7 e8 e9 st8 => ?_
      have sg8 := sg7.draw c8
      have k3'' := get_set0 (x := .orc (c8, false)) k3' (by omega)
      have q1'' : See (fun _ => True) (μ7.set 0 (.orc (c8, false))) d5 rows := by
        rcases q1' with z | ⟨l', z1, _, z2⟩
        · exact .inl z
        · refine .inr ⟨l', z1, trivial, ?_⟩
          have : l' = lo := by rw [r1] at z1; cases z1; rfl
          exact get_set0 z2 (by omega)
      generalize μ7.set 0 (.orc (c8, false)) = μ8 at *
      simp only [k3'', List.length_map]
      rw [ixN_nat e8 (by omega)]
      dsimp only
      have es : (s.map D.str).set z.toNat (.str x) = (s.set z.toNat x).map .str := by rw [List.map_set]
      rw [es]
      obtain ⟨g', bg', sg'⟩ := sg8.s.rowset (s' := s.set z.toNat x) sg8.b q1'' u.toNat k1 k3'' (by simpa using hsl) (fun y hy => by
        rcases List.mem_or_eq_of_mem_set hy with h | h
        · exact hsm y h
        · rw [h]; exact hx)
      exact fin c8 _ d5 g' (by omega) ⟨sg8.st.set (by omega) _, bg', sg'⟩
  have four : ∀ c4 μ4 d4 g4, c1 ≤ c4 + 210 → SGr c4 ρ W μ4 d4 g4 → dSeq (dIf (dTest (dBin (gIn false) (dVar 2) (dCall gLst (dCons (dC (.int 4)) (dCons (dC (.int 5)) (dNil)))))) (dAsg (dOp S_smooth_grid (dCons (dVar 0) (dCons (dVar 1) (dNil)))) (dName 3)) (dNext)) (dSeq (dIf (dTest (dBin (gIn false) (dVar 2) (dCall gLst (dCons (dC (.int 2)) (dCons (dC (.int 5)) (dCons (dC (.int 6)) (dNil))))))) (dSeq (dAsg (dBin gIx (dVar 3) (dOp S_take (dCons (dVar 0) (dCons (dCall gLen (dCons (dVar 3) dNil)) (dNil))))) (dName 4)) (dAsg (dBin gIx (dVar 1) (dOp S_take (dCons (dVar 0) (dCons (dC (.int 6)) (dNil))))) (dSetI (dVar 4) (dOp S_take (dCons (dVar 0) (dCons (dCall gLen (dCons (dVar 4) dNil)) (dNil))))))) (dNext)) (dRet (dVar 3))) (dFn (O c ρ) Q E) [some (.ref 0), some (.lst (W.map .str)), some (.int pl), some d4, none] μ4 := by
    intro c4 μ4 d4 g4 h1 sg4
    rw [dSeq]
    simp only [dIf, dTest, dBin, dVar, dCall, dCons, dNil, dC, gLst, List.getElem?_cons_zero, List.getElem?_cons_succ, List.length_cons, List.length_nil, gIn, lk]
    refine ⟨by walk_at "sz", ⟨rfl, rfl⟩, ?_⟩
    generalize (if false = true then !inF (D.int pl) [D.int 4, .int 5] else inF (D.int pl) [D.int 4, .int 5]) = b
    cases b with
    | false => exact last c4 μ4 d4 g4 (by omega) sg4
    | true =>
      simp only [cond_true, dAsg, dOp, dCons, dNil, dVar, dName, List.getElem?_cons_zero, List.getElem?_cons_succ, List.set_cons_succ, List.set_cons_zero]
      obtain ⟨ext, rfl⟩ := st_eq sg4.st
      exact ⟨c4, _, W, rfl, rfl, hW, by omega, genq (c0 := 0) (B0 := 0) fun c5 μ5 d5 g5 h2 sg5 => last c5 μ5 d5 g5 (by omega) sg5⟩
  have three : ∀ c3 μ3 d3 g3, c1 ≤ c3 + 150 → SGr c3 ρ W μ3 d3 g3 → dSeq (dIf (dTest (dBin gEq (dVar 2) (dC (.int 3)))) (dAsg (dOp S_renamed (dCons (dVar 0) (dCons (dOp S_tree_grid (dCons (dVar 0) (dCons (dVar 1) (dNil)))) (dCons (dVar 1) (dNil))))) (dName 3)) (dNext)) (dSeq (dIf (dTest (dBin (gIn false) (dVar 2) (dCall gLst (dCons (dC (.int 4)) (dCons (dC (.int 5)) (dNil)))))) (dAsg (dOp S_smooth_grid (dCons (dVar 0) (dCons (dVar 1) (dNil)))) (dName 3)) (dNext)) (dSeq (dIf (dTest (dBin (gIn false) (dVar 2) (dCall gLst (dCons (dC (.int 2)) (dCons (dC (.int 5)) (dCons (dC (.int 6)) (dNil))))))) (dSeq (dAsg (dBin gIx (dVar 3) (dOp S_take (dCons (dVar 0) (dCons (dCall gLen (dCons (dVar 3) dNil)) (dNil))))) (dName 4)) (dAsg (dBin gIx (dVar 1) (dOp S_take (dCons (dVar 0) (dCons (dC (.int 6)) (dNil))))) (dSetI (dVar 4) (dOp S_take (dCons (dVar 0) (dCons (dCall gLen (dCons (dVar 4) dNil)) (dNil))))))) (dNext)) (dRet (dVar 3)))) (dFn (O c ρ) Q E) [some (.ref 0), some (.lst (W.map .str)), some (.int pl), some d3, none] μ3 := by
    intro c3 μ3 d3 g3 h1 sg3
    rw [dSeq]
    simp only [dIf, dTest, dBin, dVar, dC, List.getElem?_cons_zero, List.getElem?_cons_succ, gEq, deq_int]
    refine ⟨deqOk_int _ _ _, ?_⟩
    generalize decide (pl = 3) = b
    cases b with
    | false => exact four c3 μ3 d3 g3 (by omega) sg3
    | true =>
      simp only [cond_true, dAsg, dOp, dCons, dNil, dVar, dName, List.getElem?_cons_zero, List.getElem?_cons_succ, List.set_cons_succ, List.set_cons_zero]
      obtain ⟨ext, rfl⟩ := st_eq sg3.st
      refine ⟨c3, _, W, rfl, rfl, hW, by omega, genq (c0 := 0) (B0 := 0) fun c5 μ5 d5 g5 h2 sg5 => ?_⟩
      obtain ⟨ext5, rfl⟩ := st_eq sg5.st
      exact ⟨c5, _, W, d5, g5, rfl, rfl, hW, sg5.s.see.any, sg5.b, by omega, genq (c0 := 0) (B0 := 0) fun c6 μ6 d6 g6 h3 sg6 => four c6 μ6 d6 g6 (by omega) sg6⟩
  generalize (if false = true then !inF (D.int pl) [D.int 1, .int 2] else inF (D.int pl) [D.int 1, .int 2]) = b
  cases b with
  | false => exact three c2 μ2 d2 g2 (by omega) sg2
  | true =>
    simp only [cond_true, dAsg, dOp, dCons, dNil, dVar, dName, List.getElem?_cons_zero, List.getElem?_cons_succ, List.set_cons_succ, List.set_cons_zero]
    obtain ⟨ext, rfl⟩ := st_eq sg2.st
    exact ⟨c2, _, W, rfl, rfl, hW, by omega, genq (c0 := 0) (B0 := 0) fun c3 μ3 d3 g3 h2 sg3 => three c3 μ3 d3 g3 (by omega) sg3⟩
end DV
namespace DV
open PySem PySem.Spec PyProof.Rows L2
/-! ### tables -/
/-- the items of a list or a tuple, as data or in a cell -/
def seqOf (μ : Mu) (d : D) : Option (List D) := match lk μ d with
  | .lst xs => some xs
  | .tup xs => some xs
  | _ => none
/-- rows of texts: lists or tuples -/
def TSee (μ : Mu) (d : D) (g : List (List Str)) : Prop := ∃ rows, seqOf μ d = some rows ∧ rows.length = g.length ∧ ∀ (i : Nat) s, g[i]? = some s → ∃ r, rows[i]? = some r ∧ seqOf μ r = some (s.map .str)
def rowsD (g : List (List Str)) : D := .tup (g.map fun s => .tup (s.map .str))
theorem GSee.tsee {p : Nat → Prop} {μ : Mu} {d : D} {g : List (List Str)} (h : GSee p μ d g) : TSee μ d g := by
  obtain ⟨rows, h1, h2, h3⟩ := h
  exact ⟨rows, by unfold seqOf; rw [h1.lk], h2, fun i s e => let ⟨r, a, b⟩ := h3 i s e; ⟨r, a, by unfold seqOf; rw [b.lk]⟩⟩
theorem TSee.data {μ : Mu} {g : List (List Str)} : TSee μ (gridD g) g := (GSee.data (p := fun _ => True)).tsee
theorem TSee.rows {μ : Mu} {g : List (List Str)} : TSee μ (rowsD g) g := ⟨_, rfl, by simp, fun i s e => ⟨_, by rw [List.getElem?_map, e]; rfl, rfl⟩⟩
theorem sq_ix {μ : Mu} {d x : D} {xs : List D} (h : seqOf μ d = some xs) {i : Nat} (hx : xs[i]? = some x) (Q : D → Mu → Prop) : gIx d (.int (i : Int)) μ Q = Q x μ := by
  unfold seqOf at h
  unfold gIx
  split at h
  · rename_i e; cases h; rw [e]; dsimp only; rw [atI_ix hx]
  · rename_i e; cases h; rw [e]; dsimp only; rw [atI_ix hx]
  · cases h
theorem sq_len {μ : Mu} {d : D} {xs : List D} (h : seqOf μ d = some xs) (Q : D → Mu → Prop) : gLen [d] μ Q = Q (.int xs.length) μ := by
  unfold seqOf at h
  unfold gLen
  split at h
  · rename_i e; cases h; dsimp only; rw [e]
  · rename_i e; cases h; dsimp only; rw [e]
  · cases h
theorem sq_iter {μ : Mu} {d : D} {xs : List D} (h : seqOf μ d = some xs) {Γ : Gam} {fa : DTE} (hf : ∀ Q E, fa Γ μ Q E = Q d μ) : ∃ src, Gd src μ ∧ ∀ Q E, dIter fa Γ μ Q E = Q src xs μ := by
  have hd : (∀ l, d ≠ .ref l) → lk μ d = d := fun z => by
    cases d with
    | ref l => exact absurd rfl (z l)
    | _ => rfl
  unfold seqOf at h
  by_cases hr : ∃ l, d = .ref l
  · obtain ⟨l, rfl⟩ := hr
    split at h
    · rename_i e; cases h
      rcases lk_ref e (by simp) with ⟨ys, e1, q⟩ | ⟨ys, e1, q⟩ | ⟨C, fs, e1, q⟩
      · cases q
        exact ⟨some (l, xs), e1, fun Q E => by unfold dIter; rw [hf]; dsimp only; rw [e1]⟩
      · cases q
      · cases q
    · rename_i e; cases h
      rcases lk_ref e (by simp) with ⟨ys, e1, q⟩ | ⟨ys, e1, q⟩ | ⟨C, fs, e1, q⟩ <;> cases q
    · cases h
  · rw [hd (fun l z => hr ⟨l, z⟩)] at h
    split at h
    · cases h; exact ⟨none, trivial, fun Q E => by unfold dIter; rw [hf]⟩
    · cases h; exact ⟨none, trivial, fun Q E => by unfold dIter; rw [hf]⟩
    · cases h
theorem sq_tuple {μ : Mu} {d : D} {xs : List D} (h : seqOf μ d = some xs) (Q : D → Mu → Prop) : gTuple [d] μ Q = Q (.tup xs) μ := by
  unfold seqOf at h
  unfold gTuple
  split at h
  · rename_i e; cases h; dsimp only; rw [e]
  · rename_i e; cases h; dsimp only; rw [e]
  · cases h
def outs (g : List (List Str)) : List Str := sortS (g.flatten.foldl addS [])
/-- the rows of a table -/
structure TOk (g : List (List Str)) : Prop where
  h1 : 1 ≤ g.length
  h2 : g.length ≤ 8
  w1 : 1 ≤ wid g
  w2 : wid g ≤ 8
  eq : ∀ r ∈ g, r.length = wid g
  ok : ∀ r ∈ g, ∀ x ∈ r, validN x = true
  few : (outs g).length ≤ 6
theorem addS_mem {acc : List Str} {x y : Str} : y ∈ addS acc x ↔ y ∈ acc ∨ y = x := by
  unfold addS
  split
  · rename_i h
    constructor
    · exact fun z => .inl z
    · rintro (z | rfl)
      · exact z
      · first | exact h | simpa using h
  · simp [or_comm]
theorem fold_mem {l acc : List Str} {y : Str} : y ∈ l.foldl addS acc ↔ y ∈ acc ∨ y ∈ l := by
  induction l generalizing acc with
  | nil => simp
  | cons a l ih => rw [List.foldl_cons, ih, addS_mem, List.mem_cons, or_assoc]
theorem addS_nodup {acc : List Str} {x : Str} (h : acc.Nodup) : (addS acc x).Nodup := by
  unfold addS
  split
  · exact h
  · rename_i hx
    exact List.nodup_cons.mpr ⟨hx, h⟩
theorem fold_nodup {l acc : List Str} (h : acc.Nodup) : (l.foldl addS acc).Nodup := by
  induction l generalizing acc with
  | nil => exact h
  | cons a l ih => exact ih (addS_nodup h)
theorem outs_mem {g : List (List Str)} {x : Str} : x ∈ outs g ↔ ∃ r ∈ g, x ∈ r := by
  unfold outs
  rw [(sortS_perm _).mem_iff, fold_mem]
  simp [List.mem_flatten]
theorem outs_nodup {g : List (List Str)} : (outs g).Nodup := (sortS_perm _).nodup_iff.mpr (fold_nodup List.nodup_nil)
theorem nodup_sub_len {l m : List Str} (h : l.Nodup) (hs : ∀ x ∈ l, x ∈ m) : l.length ≤ m.length := by
  induction l generalizing m with
  | nil => simp
  | cons a l ih =>
    rw [List.nodup_cons] at h
    have ha : a ∈ m := hs a (by simp)
    have := ih h.2 (m := m.erase a) fun x hx => by
      have hne : x ≠ a := fun z => h.1 (z ▸ hx)
      exact (List.mem_erase_of_ne hne).mpr (hs x (by simp [hx]))
    rw [List.length_erase_of_mem ha] at this
    have hp : 0 < m.length := List.length_pos_iff.mpr (fun z => by rw [z] at ha; cases ha)
    rw [List.length_cons]; omega
theorem GB.tok {W : List Str} {g : List (List Str)} (h : GB W 8 g) (hW : WOk W) : TOk g := ⟨h.h1, h.h2, h.w1, h.w2, h.eq, fun r hr x hx => hW.ok x (h.mem r hr x hx), by
  have := nodup_sub_len (outs_nodup (g := g)) (m := W) fun x hx => by
    obtain ⟨r, hr, hx⟩ := outs_mem.mp hx
    exact h.mem r hr x hx
  rw [hW.len] at this; exact this⟩
def tabD (C : Cs) (g : List (List Str)) : D := .ins C.T [("rows", rowsD g), ("columns", rowsD (flip g)), ("names", .tup ((outs g).map .str))]
end DV
local macro_rules | `(tactic| walk_at "dv") => `(tactic| try simp only [DV.dSeq, DV.dIf, DV.dOrT, DV.dAndT, DV.dNotT, DV.dTest, DV.dChain, DV.dC, DV.dCall, DV.gLen, DV.dCons, DV.dVar, DV.dNil, DV.dBin, DV.dUn, DV.gNeg, DV.gIn, DV.gIx, DV.dRet, DV.dRetN, DV.dNext, DV.dFor, DV.dIter, DV.dName, DV.lk, DV.dAsg, DV.dDrop, DV.gLst, DV.gTup, DV.gLstM, DV.gAdd, DV.gI, DV.gMod, DV.gMul, DV.gFdiv, DV.gPow, DV.gAbs, DV.gInt, DV.gList, DV.gTuple, DV.dOp, DV.dOpK, DV.dIsi, DV.tyD, DV.gIs, DV.gIsNot, DV.D.isN, DV.dJoin, DV.dCellM, DV.dSetI, DV.dSlice, DV.dPart, DV.dNoPart, DV.dRevA, DV.dFin, DV.dAugI, DV.dComp, DV.wipeG, DV.cName, DV.cPair, DV.dYes, DV.dRange1, DV.dRange2, DV.dAnd, DV.dOr, DV.dNot, DV.dIfE, DV.gEq, DV.gNe, DV.sgn_one, DV.atI_zero, DV.dTruth, DV.truD, DV.dBreak, DV.dCont, DV.gSorted, DV.dSortK, DV.dRevT, DV.gInD, DV.gIsB, DV.gStr, DV.dPop0, DV.dDict, DV.dPairs, DV.keysD, DV.keyOfD, DV.dFinD, DV.dFld, DV.dSetF, DV.dMake, DV.dMethod, DV.dProp, DV.dOwnIx, DV.dNever, DV.dRaise, DV.dRaise0, DV.gMulM, DV.gAddM, DV.gMax2, DV.dPair, DV.gDGet, DV.dSetD, DV.dDict0, DV.dComp2, DV.dSortSC, DV.isIns, DV.insOf,
  List.getElem?_cons_zero, List.getElem?_cons_succ, List.set_cons_zero, List.set_cons_succ, List.map_cons, List.map_nil, List.length_cons, List.length_nil, List.replicate, Nat.sub_self, List.append_nil, List.cons_append, List.nil_append, DV.start0, if_true, if_false, Bool.not_true, Bool.not_false, Bool.false_eq_true, Bool.true_and, Bool.and_true, Bool.or_true, Bool.true_or, Bool.false_or, Bool.or_false, eq_self_iff_true, not_true_eq_false, not_false_eq_true, ite_true, ite_false, cond_true, cond_false])
namespace DV
open PySem PySem.Spec PyProof.Rows L2
theorem deq_refl {μ : Mu} {x y : D} (h : lk μ x = lk μ y) (ho : D.okn 12 (lk μ y) = true) : deqOk μ x y ∧ deq μ x y = true := by
  unfold deqOk deq
  rw [h]
  exact ⟨⟨ho, ho⟩, SeqAt.eqv_refl _ (okn_lay 12 _ ho).1⟩
def isInt : D → Bool
  | .int _ => true
  | _ => false
def S_is_integer : DSp := fun ds μ Q _ => ∃ d, ds = [d] ∧ (∃ t, tyD (lk μ d) = some t) ∧ Q (.bl (isInt d)) μ
def t_is_integer : DTS := dRet (dAnd (dIsi .int (dVar 0)) (dNot (dIsi .bool (dVar 0))))
theorem rd_is_integer {n1 : Str} : ∀ ds μ Q E, S_is_integer ds μ Q E → t_is_integer (dFn μ Q E) (start0 [n1] ds) μ := by
  rintro _ μ Q E ⟨d, rfl, ⟨t, ht⟩, q⟩
  have e0 : isInt d = (Ty.sub t .int && !Ty.sub t .bool) := by
    cases d with
    | ref l =>
      cases e : lk μ (.ref l) with
      | int i => have := lk_int e; cases this
      | bl i => rcases lk_ref e (by simp) with ⟨_, _, z⟩ | ⟨_, _, z⟩ | ⟨_, _, _, z⟩ <;> cases z
      | _ => rw [e] at ht; cases ht <;> rfl
    | _ => cases ht <;> rfl
  rw [e0] at q
  unfold t_is_integer
  simp only [dRet, dAnd, dIsi, dNot, dVar, start0, List.map_cons, List.map_nil, List.length_cons, List.length_nil, List.replicate, List.cons_append, List.nil_append, List.getElem?_cons_zero, ht]
  cases h1 : Ty.sub t .int with
  | false => rw [h1] at q; exact FnEnd.here q
  | true => rw [h1] at q; exact FnEnd.here q
def S_check_number : DSp := fun ds μ Q _ => ∃ n : Int, ds = [.int n] ∧ 1 ≤ n ∧ n ≤ 6 ∧ Q .non μ
def t_check_number : DTS := dIf (dNotT (dTest (dChain (fun i j => decide (i ≤ j)) (fun i j => decide (i ≤ j)) (dC (.int 1)) (dVar 0) (dC (.int 6))))) (dRaise .BadCount "count" (dVar 0)) (dNext)
theorem rd_check_number {n1 : Str} : ∀ ds μ Q E, S_check_number ds μ Q E → t_check_number (dFn μ Q E) (start0 [n1] ds) μ := by
  rintro _ μ Q E ⟨n, rfl, h1, h2, q⟩
  unfold t_check_number
  walk_at "dv"
  rw [decide_eq_true h1, decide_eq_true h2]
  exact FnEnd.here q
def S_check_length : DSp := fun ds μ Q _ => ∃ n : Int, ds = [.int n] ∧ 1 ≤ n ∧ n ≤ 8 ∧ Q .non μ
def t_check_length : DTS := dIf (dNotT (dTest (dChain (fun i j => decide (i ≤ j)) (fun i j => decide (i ≤ j)) (dC (.int 1)) (dVar 0) (dC (.int 8))))) (dRaise .BadCount "count" (dVar 0)) (dNext)
theorem rd_check_length {n1 : Str} : ∀ ds μ Q E, S_check_length ds μ Q E → t_check_length (dFn μ Q E) (start0 [n1] ds) μ := by
  rintro _ μ Q E ⟨n, rfl, h1, h2, q⟩
  unfold t_check_length
  walk_at "dv"
  rw [decide_eq_true h1, decide_eq_true h2]
  exact FnEnd.here q
/-- a loop that looks for something: each turn returns or goes on, and changes no cell -/
theorem loop_search {α : Type} {src : Option (Nat × List D)} {g : DTG} {body : DTS} {De : DEnds} {μ : Mu} (P : Gam → Prop) (enc : α → D) (res : α → Option D) (hG : Gd src μ) : ∀ (xs : List α) (Γ : Gam), P Γ →
    (∀ x ∈ xs, ∀ Γ, P Γ → ∀ Kn : Gam → Mu → Prop, (∀ r, res x = some r → De.rt r μ) → (res x = none → ∀ Γ', P Γ' → Kn Γ' μ) → g (enc x) Γ μ (fun Γ1 μ1 => body { De with nx := Kn, ct := Kn, bk := De.nx } Γ1 μ1) (fun e μ1 => De.ex e Γ μ1)) →
    (∀ r, xs.findSome? res = some r → De.rt r μ) → (xs.findSome? res = none → ∀ Γ', P Γ' → De.nx Γ' μ) → dLoop src g body (xs.map enc) De Γ μ
  | [], Γ, hP, _, _, h2 => ⟨hG, h2 rfl Γ hP⟩
  | x :: xs, Γ, hP, hs, h1, h2 => by
    refine ⟨hG, hs x (by simp) Γ hP _ (fun r hr => h1 r (by simp [List.findSome?_cons, hr])) fun hn Γ' hP' => ?_⟩
    exact loop_search P enc res hG xs Γ' hP' (fun y hy => hs y (by simp [hy])) (fun r hr => h1 r (by simp [List.findSome?_cons, hn, hr])) (fun hr => h2 (by simp [List.findSome?_cons, hn, hr]))
/-- a loop that only looks -/
theorem loop_pass {src : Option (Nat × List D)} {g : DTG} {body : DTS} {De : DEnds} {μ : Mu} (P : Gam → Prop) (hG : Gd src μ) {ds : List D} {Γ : Gam} (h0 : P Γ)
    (hs : ∀ (i : Nat) d Γ, ds[i]? = some d → P Γ → ∀ Kn : Gam → Mu → Prop, (∀ Γ', P Γ' → Kn Γ' μ) → g d Γ μ (fun Γ1 μ1 => body { De with nx := Kn, ct := Kn, bk := De.nx } Γ1 μ1) (fun e μ1 => De.ex e Γ μ1)) (he : ∀ Γ, P Γ → De.nx Γ μ) : dLoop src g body ds De Γ μ := by
  refine loop_inv (fun _ Γ μ' => P Γ ∧ μ' = μ) ⟨h0, rfl⟩ ?_ ?_
  · rintro i d Γ μ' hd ⟨hP, rfl⟩
    exact ⟨hG, fun Kn kn => hs i d Γ hd hP Kn fun Γ' h => kn Γ' _ ⟨h, rfl⟩⟩
  · rintro Γ μ' ⟨hP, rfl⟩
    exact ⟨hG, he Γ hP⟩
theorem tok_get0 {g : List (List Str)} (h : TOk g) : ∃ s, g[0]? = some s ∧ s.length = wid g := by
  cases g with
  | nil => exact absurd h.h1 (by simp)
  | cons s r => exact ⟨s, rfl, rfl⟩
def S_check_lines : DSp := fun ds μ Q _ => ∃ d g, ds = [d] ∧ TSee μ d g ∧ TOk g ∧ Q .non μ
def t_check_lines : DTS := dSeq (dDrop (dOp S_check_length (dCons (dCall gLen (dCons (dVar 0) dNil)) (dNil)))) (dSeq (dDrop (dOp S_check_length (dCons (dCall gLen (dCons (dBin gIx (dVar 0) (dC (.int 0))) dNil)) (dNil)))) (dSeq (dFor (dIter (dVar 0)) (dName 1) (dIf (dTest (dBin gNe (dCall gLen (dCons (dVar 1) dNil)) (dCall gLen (dCons (dBin gIx (dVar 0) (dC (.int 0))) dNil)))) (dRaise .BadCount "count" (dCall gLen (dCons (dVar 1) dNil))) (dNext))) (dFor (dIter (dVar 0)) (dName 1) (dFor (dIter (dVar 1)) (dName 2) (dIf (dNotT (dTest (dOp S_valid_name (dCons (dVar 2) (dNil))))) (dRaise .BadName "name" (dVar 2)) (dNext))))))
theorem rd_check_lines {n1 n2 n3 : Str} : ∀ ds μ Q E, S_check_lines ds μ Q E → t_check_lines (dFn μ Q E) (start0 [n1, n2, n3] ds) μ := by
  rintro _ μ Q E ⟨d, g, rfl, ⟨rows, r1, r2, r3⟩, hg, q⟩
  have a1 := hg.h1
  have a2 := hg.h2
  have a3 := hg.w1
  have a4 := hg.w2
  obtain ⟨s0, hs0, hw⟩ := tok_get0 hg
  obtain ⟨r0, hr0, q0⟩ := r3 0 s0 hs0
  have ix0 : ∀ Q', gIx d (.int 0) μ Q' = Q' r0 μ := fun Q' => sq_ix r1 hr0 Q'
  unfold t_check_lines
  simp only [dSeq, dDrop, dOp, dCons, dNil, dCall, dVar, dC, dBin, start0, List.map_cons, List.map_nil, List.length_cons, List.length_nil, List.replicate, List.cons_append, List.nil_append, List.getElem?_cons_zero, sq_len r1, ix0, sq_len q0]
  refine ⟨_, rfl, by omega, by omega, ?_⟩
  simp only [dSeq, dDrop, dOp, dCons, dNil, dCall, dVar, dC, dBin, List.getElem?_cons_zero, ix0, sq_len q0]
  refine ⟨_, rfl, by rw [List.length_map]; omega, by rw [List.length_map]; omega, ?_⟩
  unfold dFor
  obtain ⟨src, hG, hi⟩ := sq_iter (Γ := [some d, none, none]) (fa := dVar 0) r1 (fun _ _ => rfl)
  rw [hi]
  refine loop_pass (fun Γ => ∃ a b, Γ = [some d, a, b]) hG ⟨_, _, rfl⟩ ?_ ?_
  · rintro i r _ hr ⟨a, b, rfl⟩ Kn kn
    have hil : i < g.length := by rw [← r2]; exact (List.getElem?_eq_some_iff.mp hr).1
    obtain ⟨r', e1, e2⟩ := r3 i g[i] (List.getElem?_eq_getElem hil)
    rw [hr] at e1; cases e1
    simp only [dName, dIf, dTest, dBin, dCall, dCons, dNil, dVar, dC, List.set_cons_succ, List.set_cons_zero, List.getElem?_cons_succ, List.getElem?_cons_zero, sq_len e2, ix0, sq_len q0, gNe, deq_int]
    refine ⟨deqOk_int _ _ _, ?_⟩
    rw [show decide (((g[i].map D.str).length : Int) = ((s0.map D.str).length : Int)) = true from decide_eq_true (by rw [List.length_map, List.length_map, hw, hg.eq _ (List.getElem_mem hil)])]
    exact kn _ ⟨_, _, rfl⟩
  · rintro _ ⟨a, b, rfl⟩
    obtain ⟨src, hG, hi⟩ := sq_iter (Γ := [some d, a, b]) (fa := dVar 0) r1 (fun _ _ => rfl)
    dsimp only
    rw [hi]
    refine loop_pass (fun Γ => ∃ a b, Γ = [some d, a, b]) hG ⟨_, _, rfl⟩ ?_ ?_
    · rintro i r _ hr ⟨a, b, rfl⟩ Kn kn
      have hil : i < g.length := by rw [← r2]; exact (List.getElem?_eq_some_iff.mp hr).1
      obtain ⟨r', e1, e2⟩ := r3 i g[i] (List.getElem?_eq_getElem hil)
      rw [hr] at e1; cases e1
      have hv := hg.ok _ (List.getElem_mem hil)
      generalize g[i] = s at e2 hv
      simp only [dName, List.set_cons_succ, List.set_cons_zero]
      obtain ⟨src2, hG2, hi2⟩ := sq_iter (Γ := [some d, some r, b]) (fa := dVar 1) e2 (fun _ _ => rfl)
      rw [hi2]
      refine loop_pass (fun Γ => ∃ b, Γ = [some d, some r, b]) hG2 ⟨_, rfl⟩ ?_ ?_
      · rintro j x _ hx ⟨b, rfl⟩ Kn kn
        have hj : j < s.length := by have := (List.getElem?_eq_some_iff.mp hx).1; simpa using this
        rw [List.getElem?_map, List.getElem?_eq_getElem hj] at hx
        cases hx
        have hvj := hv _ (List.getElem_mem hj)
        simp only [dName, dIf, dNotT, dTest, dOp, dCons, dNil, dVar, List.set_cons_succ, List.set_cons_zero, List.getElem?_cons_succ, List.getElem?_cons_zero]
        refine ⟨_, rfl, by have := (valid_asc hvj).2.1; rw [sizeLine_eq]; omega, ?_⟩
        rw [hvj]
        exact kn _ ⟨_, rfl⟩
      · rintro _ ⟨b, rfl⟩
        exact kn _ ⟨_, _, rfl⟩
    · rintro _ ⟨a, b, rfl⟩
      exact FnEnd.here q
def S_exchanged : DSp := fun ds μ Q _ => ∃ d g, ds = [d] ∧ TSee μ d g ∧ 1 ≤ g.length ∧ g.length ≤ 1000 ∧ wid g ≤ 1000 ∧ (∀ r ∈ g, r.length = wid g) ∧ Q (rowsD (flip g)) μ
def t_exchanged : DTS := dRet (dCall gTuple (dCons (dComp true [1] (dRange1 (dCall gLen (dCons (dBin gIx (dVar 0) (dC (.int 0))) dNil))) (cName 1) (dYes) (dCall gTuple (dCons (dComp true [2] (dIter (dVar 0)) (cName 2) (dYes) (dBin gIx (dVar 2) (dVar 1))) dNil))) dNil))
theorem rd_exchanged {n1 n2 n3 : Str} : ∀ ds μ Q E, S_exchanged ds μ Q E → t_exchanged (dFn μ Q E) (start0 [n1, n2, n3] ds) μ := by
  rintro _ μ Q E ⟨d, g, rfl, ⟨rows, r1, r2, r3⟩, a1, a2, a4, heq, q⟩
  obtain ⟨s0, hs0, hw⟩ : ∃ s, g[0]? = some s ∧ s.length = wid g := by
    cases g with
    | nil => exact absurd a1 (by simp)
    | cons s r => exact ⟨s, rfl, rfl⟩
  obtain ⟨r0, hr0, q0⟩ := r3 0 s0 hs0
  have ix0 : ∀ Q', gIx d (.int 0) μ Q' = Q' r0 μ := fun Q' => sq_ix r1 hr0 Q'
  unfold t_exchanged
  simp only [dRet, dCall, dCons, dNil, dComp, dRange1, dBin, dVar, dC, start0, List.map_cons, List.map_nil, List.length_cons, List.length_nil, List.replicate, List.cons_append, List.nil_append, List.getElem?_cons_zero, ix0, sq_len q0]
  refine ⟨by rw [List.length_map]; omega, ?_⟩
  simp only [wipeG, List.set_cons_succ, List.set_cons_zero]
  rw [List.length_map, hw]
  refine comp_list ((flip g).map fun s => .tup (s.map .str)) trivial (by rw [irng_len, List.length_map, flip_len]; rfl) (by rw [irng_len, sizeLine_eq]; omega) ?_ ?_
  · intro k x y hx hy K1 K2 k1
    obtain ⟨hk, rfl⟩ := irng_get hx
    have hk : k < wid g := by simpa using hk
    rw [List.getElem?_map, flip_get hk] at hy
    cases hy
    simp only [cName, dYes, cond_true, List.set_cons_succ, List.set_cons_zero, dCall, dCons, dNil, dComp]
    obtain ⟨src, hG, hi⟩ := sq_iter (Γ := [some d, some (.int (0 + (k : Int))), none]) (fa := dVar 0) r1 (fun _ _ => rfl)
    rw [hi]
    simp only [wipeG, List.set_cons_succ, List.set_cons_zero]
    refine comp_list ((g.map fun r => r.getD k Str.empty).map .str) hG (by rw [r2]; simp) (by rw [r2, sizeLine_eq]; omega) ?_ ?_
    · intro i r y hr hy L1 L2 l1
      have hil : i < g.length := by rw [← r2]; exact (List.getElem?_eq_some_iff.mp hr).1
      obtain ⟨r', e1, e2⟩ := r3 i g[i] (List.getElem?_eq_getElem hil)
      rw [hr] at e1; cases e1
      rw [List.getElem?_map, List.getElem?_map, List.getElem?_eq_getElem hil] at hy
      cases hy
      have hsl : k < g[i].length := by rw [heq _ (List.getElem_mem hil)]; exact hk
      simp only [cName, dYes, cond_true, dBin, dVar, List.set_cons_succ, List.set_cons_zero, List.getElem?_cons_zero, List.getElem?_cons_succ, Int.zero_add]
      rw [sq_ix e2 (x := .str (g[i].getD k Str.empty)) (by rw [List.getElem?_map, List.getElem?_eq_getElem hsl, List.getD_eq_getElem?_getD, List.getElem?_eq_getElem hsl]; rfl)]
      exact l1
    · exact k1
  · exact FnEnd.here q
end DV
namespace DV
open PySem PySem.Spec PyProof.Rows L2
theorem sc_inner {src : Option (Nat × List D)} {Γ : Gam} {μ : Mu} {i : Nat} (hG : Gd src μ) (hi : i < Γ.length) : ∀ (s acc : List Str) (Q : List Str → Mu → Prop), acc.length + s.length < 1000 → Q (s.foldl addS acc) μ →
    dScL src (cName i) (dVar i) Γ (s.map .str) acc μ Q
  | [], acc, Q, _, q => ⟨hG, q⟩
  | x :: s, acc, Q, hl, q => by
    rw [List.length_cons] at hl
    refine ⟨hG, ?_⟩
    simp only [cName, dVar, List.getElem?_set_self hi]
    have hb : acc.length + 1 < scanBound := Nat.lt_of_lt_of_le (show acc.length + 1 < 1000 by omega) (by decide)
    have ha : (addS acc x).length ≤ acc.length + 1 := by unfold addS; split <;> simp
    exact ⟨hb, sc_inner hG hi s (addS acc x) Q (by omega) q⟩
theorem sc_outer {src : Option (Nat × List D)} {Γ : Gam} {μ : Mu} {i j : Nat} (hG : Gd src μ) (hi : i < Γ.length) (hj : j < Γ.length) (hij : i ≠ j) : ∀ (rows : List D) (g : List (List Str)) (acc : List Str) (Q : List Str → Mu → Prop), rows.length = g.length → (∀ (k : Nat) s, g[k]? = some s → ∃ r, rows[k]? = some r ∧ seqOf μ r = some (s.map .str)) → acc.length + g.flatten.length < 1000 → Q (g.flatten.foldl addS acc) μ →
    dScO src (cName i) (dIter (dVar i)) (cName j) (dVar j) [j] Γ rows acc μ Q
  | [], [], acc, Q, _, _, _, q => ⟨hG, q⟩
  | [], _ :: _, _, _, h, _, _, _ => by simp at h
  | _ :: _, [], _, _, h, _, _, _ => by simp at h
  | r :: rows, s :: g, acc, Q, h, h3, hl, q => by
    rw [List.flatten_cons, List.length_append] at hl
    refine ⟨hG, ?_⟩
    obtain ⟨r', e1, e2⟩ := h3 0 s rfl
    cases e1
    simp only [cName]
    obtain ⟨src2, hG2, hi2⟩ := sq_iter (Γ := Γ.set i (some r)) (fa := dVar i) e2 (fun Q E => by unfold dVar; rw [List.getElem?_set_self hi])
    rw [hi2]
    have ha : ∀ (s acc : List Str), (s.foldl addS acc).length ≤ acc.length + s.length := fun s => by
      induction s with
      | nil => simp
      | cons x s ih =>
        intro acc
        have h1 := ih (addS acc x)
        have h2 : (addS acc x).length ≤ acc.length + 1 := by unfold addS; split <;> simp
        rw [List.foldl_cons, List.length_cons]; omega
    refine sc_inner hG2 (by simp [wipeG]; exact hj) s acc _ (by omega) ?_
    refine sc_outer hG hi hj hij rows g (s.foldl addS acc) Q (by simpa using h) (fun k t e => h3 (k + 1) t (by simpa using e)) (by have := ha s acc; omega) ?_
    rw [← List.foldl_append]; exact q
theorem flat_len {g : List (List Str)} {w : Nat} (h : ∀ r ∈ g, r.length = w) : g.flatten.length = g.length * w := by
  induction g with
  | nil => simp
  | cons s g ih => rw [List.flatten_cons, List.length_append, h s (by simp), ih (fun r hr => h r (by simp [hr])), List.length_cons, Nat.add_mul]; omega
theorem TOk.eqw {g : List (List Str)} (h : TOk g) : g.flatten.length ≤ 64 := by
  rw [flat_len h.eq]
  exact Nat.mul_le_mul h.h2 h.w2
def tabF (g : List (List Str)) : List (Str × D) := [("rows", rowsD g), ("columns", rowsD (flip g)), ("names", .tup ((outs g).map .str))]
def S_T_init (C : Cs) : DSp := fun ds μ Q _ => ∃ μ1 d g, ds = [.ref μ1.length, d] ∧ μ = μ1 ++ [.ins C.T []] ∧ TSee μ d g ∧ TOk g ∧ Q .non (μ1 ++ [.ins C.T (tabF g)])
def t_T_init (C : Cs) : DTS := dSeq (dDrop (dOp S_check_lines (dCons (dVar 1) (dNil)))) (dSeq (dSetF C.T "rows" (dVar 0) (dCall gTuple (dCons (dComp true [3] (dIter (dVar 1)) (cName 3) (dYes) (dCall gTuple (dCons (dVar 3) dNil))) dNil))) (dSeq (dSetF C.T "columns" (dVar 0) (dOp S_exchanged (dCons (dFld C.T "rows" (dVar 0)) (dNil)))) (dSeq (dAsg (dSortSC true [3, 4] [4] (dIter (dFld C.T "rows" (dVar 0))) (cName 3) (dIter (dVar 3)) (cName 4) (dVar 4)) (dName 2)) (dSeq (dDrop (dOp S_check_number (dCons (dCall gLen (dCons (dVar 2) dNil)) (dNil)))) (dSetF C.T "names" (dVar 0) (dCall gTuple (dCons (dVar 2) dNil)))))))
theorem rd_T_init {C : Cs} {n1 n2 n3 n4 n5 : Str} : ∀ ds μ Q E, S_T_init C ds μ Q E → t_T_init C (dFn μ Q E) (start0 [n1, n2, n3, n4, n5] ds) μ := by
  rintro _ _ Q E ⟨μ1, d, g, rfl, rfl, ts, hg, q⟩
  have a1 := hg.h1
  have a2 := hg.h2
  have a3 := hg.w1
  have a4 := hg.w2
  unfold t_T_init
  simp only [dSeq, dDrop, dOp, dCons, dNil, dVar, start0, List.map_cons, List.map_nil, List.length_cons, List.length_nil, List.replicate, List.cons_append, List.nil_append, List.getElem?_cons_zero, List.getElem?_cons_succ]
  refine ⟨d, g, rfl, ts, hg, ?_⟩
  obtain ⟨rows, r1, r2, r3⟩ := id ts
  simp only [dSetF, dCall, dCons, dNil, dComp]
  obtain ⟨src, hG, hi⟩ := sq_iter (Γ := [some (.ref μ1.length), some d, none, none, none]) (fa := dVar 1) r1 (fun _ _ => rfl)
  rw [hi]
  simp only [wipeG, List.set_cons_succ, List.set_cons_zero]
  refine comp_list (g.map fun s => .tup (s.map .str)) hG (by rw [r2]; simp) (by rw [r2, sizeLine_eq]; omega) ?_ ?_
  · intro i r y hr hy K1 K2 k1
    have hil : i < g.length := by rw [← r2]; exact (List.getElem?_eq_some_iff.mp hr).1
    obtain ⟨r', e1, e2⟩ := r3 i g[i] (List.getElem?_eq_getElem hil)
    rw [hr] at e1; cases e1
    rw [List.getElem?_map, List.getElem?_eq_getElem hil] at hy
    cases hy
    simp only [cName, dYes, cond_true, dCall, dCons, dNil, dVar, List.set_cons_succ, List.set_cons_zero, List.getElem?_cons_succ, List.getElem?_cons_zero, sq_tuple e2]
    exact k1
  · simp only [dFin, gTuple, lk, dVar, List.getElem?_cons_zero, get_a0, set_a0, putD, dSeq, dSetF, dOp, dCons, dNil, dFld, List.length_nil]
    have lkI : ∀ fs, lk (μ1 ++ [Cell.ins C.T fs]) (.ref μ1.length) = .ins C.T fs := fun fs => by unfold lk; dsimp only; rw [get_a0]
    refine ⟨by first | rfl | trivial, by decide, ?_⟩
    have ne1 : ((Str.ofString "rows") = (Str.ofString "columns")) = False := by simp; decide
    have ne2 : ((Str.ofString "rows") = (Str.ofString "names")) = False := by simp; decide
    have ne3 : ((Str.ofString "columns") = (Str.ofString "names")) = False := by simp; decide
    have look1 : ∀ (x : D) r, List.lookup (Str.ofString "rows") ((Str.ofString "rows", x) :: r) = some x := fun x r => by simp [List.lookup]
    simp only [lkI, get_a0, set_a0, List.getElem?_cons_zero, look1, putD, ne1, if_false, List.length_cons, List.length_nil]
    refine ⟨by first | rfl | trivial, rowsD g, g, rfl, TSee.rows, a1, by omega, by omega, hg.eq, ?_⟩
    simp only [get_a0, set_a0, putD, ne1, if_false, List.length_cons, List.length_nil]
    refine ⟨by first | rfl | trivial, by decide, ?_⟩
    simp only [lkI, get_a0, set_a0, List.getElem?_cons_zero, look1, putD, ne1, if_false, dSeq, dAsg, dSortSC, dIter, dFld, dVar, List.getElem?_cons_zero, List.getElem?_cons_succ, rowsD]
    refine ⟨by first | rfl | trivial, ?_⟩
    simp only [wipeG, List.set_cons_succ, List.set_cons_zero]
    refine sc_outer (src := none) trivial (by simp) (by simp) (by decide) _ g [] _ (by simp) (fun k s e => ⟨_, by rw [List.getElem?_map, e]; rfl, rfl⟩) (by have := hg.eqw; simp only [List.length_nil]; omega) ?_
    simp only [dFin, dName, List.set_cons_succ, List.set_cons_zero, dSeq, dDrop, dOp, dCons, dNil, dCall, gLen, dVar, List.getElem?_cons_zero, List.getElem?_cons_succ, lk, List.length_map]
    have few := hg.few
    have pos : 1 ≤ (outs g).length := by
      obtain ⟨s, hs, hw⟩ := tok_get0 hg
      obtain ⟨x, hx⟩ : ∃ x, x ∈ s := by
        cases s with
        | nil => simp at hw; omega
        | cons x s => exact ⟨x, by simp⟩
      have : x ∈ outs g := outs_mem.mpr ⟨s, List.mem_of_getElem? hs, hx⟩
      exact List.length_pos_iff.mpr (fun z => by rw [z] at this; cases this)
    refine ⟨((outs g).length : Int), rfl, by omega, by omega, ?_⟩
    simp only [dSetF, dCall, dCons, dNil, gTuple, dVar, List.getElem?_cons_zero, List.getElem?_cons_succ, lk, get_a0, set_a0, putD, ne2, ne3, if_false, List.length_cons, List.length_nil]
    refine ⟨by first | rfl | trivial, by decide, FnEnd.here q⟩
end DV
namespace DV
open PySem PySem.Spec PyProof.Rows L2
def cell (g : List (List Str)) (i j : Nat) : Str := (g.getD i []).getD j Str.empty
def S_T_height (C : Cs) : DSp := fun ds μ Q _ => ∃ g, ds = [tabD C g] ∧ Q (.int g.length) μ
def t_T_height (C : Cs) : DTS := dRet (dCall gLen (dCons (dFld C.T "rows" (dVar 0)) dNil))
theorem rd_T_height {C : Cs} {n1 : Str} : ∀ ds μ Q E, S_T_height C ds μ Q E → t_T_height C (dFn μ Q E) (start0 [n1] ds) μ := by
  rintro _ μ Q E ⟨g, rfl, q⟩
  unfold t_T_height
  simp only [dRet, dCall, dCons, dNil, dFld, dVar, start0, List.map_cons, List.map_nil, List.length_cons, List.length_nil, List.replicate, Nat.sub_self, List.append_nil, List.cons_append, List.nil_append, List.getElem?_cons_zero, lk, tabD]
  refine ⟨by first | rfl | trivial, ?_⟩
  have e : List.lookup (Str.ofString "rows") [(Str.ofString "rows", rowsD g), (Str.ofString "columns", rowsD (flip g)), (Str.ofString "names", .tup ((outs g).map .str))] = some (rowsD g) := rfl
  rw [e]
  simp only [gLen, rowsD, lk, List.length_map]
  exact FnEnd.here q
def S_T_width (C : Cs) : DSp := fun ds μ Q _ => ∃ g, ds = [tabD C g] ∧ Q (.int (wid g)) μ
def t_T_width (C : Cs) : DTS := dRet (dCall gLen (dCons (dFld C.T "columns" (dVar 0)) dNil))
theorem look_cols {g : List (List Str)} : List.lookup (Str.ofString "columns") [(Str.ofString "rows", rowsD g), (Str.ofString "columns", rowsD (flip g)), (Str.ofString "names", .tup ((outs g).map .str))] = some (rowsD (flip g)) := rfl
theorem look_rows {g : List (List Str)} : List.lookup (Str.ofString "rows") [(Str.ofString "rows", rowsD g), (Str.ofString "columns", rowsD (flip g)), (Str.ofString "names", .tup ((outs g).map .str))] = some (rowsD g) := rfl
theorem look_names {g : List (List Str)} : List.lookup (Str.ofString "names") [(Str.ofString "rows", rowsD g), (Str.ofString "columns", rowsD (flip g)), (Str.ofString "names", .tup ((outs g).map .str))] = some (.tup ((outs g).map .str)) := rfl
theorem rd_T_width {C : Cs} {n1 : Str} : ∀ ds μ Q E, S_T_width C ds μ Q E → t_T_width C (dFn μ Q E) (start0 [n1] ds) μ := by
  rintro _ μ Q E ⟨g, rfl, q⟩
  unfold t_T_width
  simp only [dRet, dCall, dCons, dNil, dFld, dVar, start0, List.map_cons, List.map_nil, List.length_cons, List.length_nil, List.replicate, Nat.sub_self, List.append_nil, List.cons_append, List.nil_append, List.getElem?_cons_zero, lk, tabD, look_cols]
  refine ⟨by first | rfl | trivial, ?_⟩
  simp only [gLen, rowsD, lk, List.length_map, flip_len]
  exact FnEnd.here q
/-- a value that may be asked for as a cell: its kind is told, and that of its parts -/
def ThingC (μ : Mu) (v : D) : Prop := (∃ t, tyD (lk μ v) = some t) ∧ ∀ a b, lk μ v = .tup [a, b] → (∃ t, tyD (lk μ a) = some t) ∧ ∃ t, tyD (lk μ b) = some t
def isCellB (μ : Mu) (g : List (List Str)) (v : D) : Bool := match lk μ v with
  | .tup [.int i, .int j] => decide (0 ≤ i ∧ i < g.length ∧ 0 ≤ j ∧ j < wid g)
  | _ => false
def S_T_has_cell (C : Cs) : DSp := fun ds μ Q _ => ∃ g v, ds = [tabD C g, v] ∧ ThingC μ v ∧ Q (.bl (isCellB μ g v)) μ
def t_T_has_cell (C : Cs) : DTS := dSeq (dIf (dOrT (dNotT (dTest (dIsi .tup (dVar 1)))) (dOrT (dTest (dBin gNe (dCall gLen (dCons (dVar 1) dNil)) (dC (.int 2)))) (dOrT (dNotT (dTest (dOp S_is_integer (dCons (dBin gIx (dVar 1) (dC (.int 0))) (dNil))))) (dNotT (dTest (dOp S_is_integer (dCons (dBin gIx (dVar 1) (dC (.int 1))) (dNil)))))))) (dRet (dC (.bl false))) (dNext)) (dRet (dAnd (dChain (fun i j => decide (i ≤ j)) (fun i j => decide (i < j)) (dC (.int 0)) (dBin gIx (dVar 1) (dC (.int 0))) (dCall gLen (dCons (dFld C.T "rows" (dVar 0)) dNil))) (dChain (fun i j => decide (i ≤ j)) (fun i j => decide (i < j)) (dC (.int 0)) (dBin gIx (dVar 1) (dC (.int 1))) (dCall gLen (dCons (dFld C.T "columns" (dVar 0)) dNil)))))
theorem rd_T_has_cell {C : Cs} {n1 n2 : Str} : ∀ ds μ Q E, S_T_has_cell C ds μ Q E → t_T_has_cell C (dFn μ Q E) (start0 [n1, n2] ds) μ := by
  rintro _ μ Q E ⟨g, v, rfl, ⟨⟨t, ht⟩, h2⟩, q⟩
  have fld : ∀ f, (∀ Γ0 Q' E', Γ0 = [some (tabD C g), some v] → dFld C.T f (dVar 0) Γ0 μ Q' E' = (match List.lookup f (tabF g) with | some v => Q' v μ | none => False)) := fun f Γ0 Q' E' e => by
    subst e
    unfold dFld dVar
    simp only [List.getElem?_cons_zero, lk, tabD]
    exact propext ⟨fun z => z.2, fun z => ⟨by first | rfl | trivial, z⟩⟩
  unfold t_T_has_cell
  simp only [dSeq, dIf, dOrT, dNotT, dTest, dIsi, dVar, start0, List.map_cons, List.map_nil, List.length_cons, List.length_nil, List.replicate, Nat.sub_self, List.append_nil, List.cons_append, List.nil_append, List.getElem?_cons_zero, List.getElem?_cons_succ, ht]
  by_cases htt : t = .tup
  · subst htt
    rw [show Ty.sub .tup .tup = true from rfl]
    simp only [Bool.not_true, cond_false, dBin, dCall, dCons, dNil, dVar, dC, List.getElem?_cons_zero, List.getElem?_cons_succ]
    obtain ⟨xs, e⟩ : ∃ xs, lk μ v = .tup xs := by
      cases e : lk μ v with
      | tup xs => exact ⟨xs, rfl⟩
      | _ => rw [e] at ht; cases ht
    simp only [gLen, e, gNe, deq_int]
    refine ⟨deqOk_int _ _ _, ?_⟩
    unfold isCellB at q
    rw [e] at q
    by_cases hl : xs.length = 2
    · obtain ⟨a, b, rfl⟩ : ∃ a b, xs = [a, b] := by
        match xs, hl with
        | [a, b], _ => exact ⟨a, b, rfl⟩
      obtain ⟨ta, tb⟩ := h2 a b e
      rw [show (!decide ((([a, b] : List D).length : Int) = 2)) = false from rfl]
      simp only [cond_false, dOp, dCons, dNil, dBin, dVar, dC, List.getElem?_cons_zero, List.getElem?_cons_succ, gIx, e, atI_zero]
      refine ⟨a, rfl, ta, ?_⟩
      cases ha : isInt a with
      | false =>
        have qf : Q (.bl false) μ := by
          cases a with
          | int i => cases ha
          | _ => exact q
        exact FnEnd.here qf
      | true =>
        obtain ⟨i, rfl⟩ : ∃ i, a = .int i := by
          cases a with
          | int i => exact ⟨i, rfl⟩
          | _ => cases ha
        simp only [Bool.not_true, cond_false, dOp, dCons, dNil, dBin, dVar, dC, List.getElem?_cons_zero, List.getElem?_cons_succ, gIx, e]
        rw [show atI [D.int i, b] 1 = some b from rfl]
        refine ⟨b, rfl, tb, ?_⟩
        cases hb : isInt b with
        | false =>
          have qf : Q (.bl false) μ := by
            cases b with
            | int i => cases hb
            | _ => exact q
          exact FnEnd.here qf
        | true =>
          obtain ⟨j, rfl⟩ : ∃ j, b = .int j := by
            cases b with
            | int j => exact ⟨j, rfl⟩
            | _ => cases hb
          simp only [Bool.not_true, cond_false, dNext, dRet, dAnd, dChain, dBin, dVar, dC, dCall, dCons, dNil, List.getElem?_cons_zero, List.getElem?_cons_succ, gIx, e, atI_zero]
          dsimp only at q
          have at1 : atI [D.int i, .int j] 1 = some (.int j) := rfl
          have lr : List.lookup (Str.ofString "rows") (tabF g) = some (rowsD g) := rfl
          have lc : List.lookup (Str.ofString "columns") (tabF g) = some (rowsD (flip g)) := rfl
          have glr : ∀ Q', gLen [rowsD g] μ Q' = Q' (.int g.length) μ := fun Q' => by simp [gLen, rowsD, lk]
          have glc : ∀ Q', gLen [rowsD (flip g)] μ Q' = Q' (.int (wid g)) μ := fun Q' => by simp [gLen, rowsD, lk, flip_len]
          simp only [fld _ _ _ _ rfl, lr, lc, glr, glc, e, at1]
          by_cases c1 : 0 ≤ i
          · rw [decide_eq_true c1]
            simp only [cond_true]
            by_cases c2 : i < (g.length : Int)
            · rw [decide_eq_true c2]
              simp only [cond_true]
              by_cases c3 : 0 ≤ j
              · rw [decide_eq_true c3]
                simp only [cond_true]
                refine FnEnd.here ?_
                rw [show decide (j < (wid g : Int)) = decide (0 ≤ i ∧ i < (g.length : Int) ∧ 0 ≤ j ∧ j < (wid g : Int)) from by simp [c1, c2, c3]]
                exact q
              · rw [decide_eq_false c3]
                refine FnEnd.here ?_
                rw [decide_eq_false (fun z => c3 z.2.2.1)] at q
                exact q
            · rw [decide_eq_false c2]
              refine FnEnd.here ?_
              rw [decide_eq_false (fun z => c2 z.2.1)] at q
              exact q
          · rw [decide_eq_false c1]
            refine FnEnd.here ?_
            rw [decide_eq_false (fun z => c1 z.1)] at q
            exact q
    · rw [show (!decide ((xs.length : Int) = 2)) = true from by simp; omega]
      refine FnEnd.here ?_
      have : (match D.tup xs with | .tup [.int i, .int j] => decide (0 ≤ i ∧ i < (g.length : Int) ∧ 0 ≤ j ∧ j < (wid g : Int)) | _ => false) = false := by
        split
        · rename_i h; cases h; exact absurd rfl hl
        · rfl
      rw [this] at q
      exact q
  · rw [show Ty.sub t .tup = false from by cases t <;> first | rfl | exact absurd rfl htt]
    refine FnEnd.here ?_
    unfold isCellB at q
    cases e : lk μ v with
    | tup xs => rw [e] at ht; cases ht; exact absurd rfl htt
    | _ => rw [e] at q; exact q
theorem cell_get {g : List (List Str)} {i j : Nat} (hi : i < g.length) (hj : j < wid g) (he : ∀ r ∈ g, r.length = wid g) : ∃ s, g[i]? = some s ∧ s[j]? = some (cell g i j) ∧ cell g i j ∈ s ∧ s ∈ g := by
  have hs : j < g[i].length := by rw [he _ (List.getElem_mem hi)]; exact hj
  have e : cell g i j = g[i][j] := by
    unfold cell
    rw [show g.getD i [] = g[i] from by rw [List.getD_eq_getElem?_getD, List.getElem?_eq_getElem hi]; rfl, List.getD_eq_getElem?_getD, List.getElem?_eq_getElem hs]; rfl
  exact ⟨g[i], List.getElem?_eq_getElem hi, by rw [e]; exact List.getElem?_eq_getElem hs, by rw [e]; exact List.getElem_mem hs, List.getElem_mem hi⟩
def S_T_ix (C : Cs) : DSp := fun ds μ Q _ => ∃ (g : List (List Str)) (i j : Nat), ds = [tabD C g, .tup [.int i, .int j]] ∧ i < g.length ∧ j < wid g ∧ (∀ r ∈ g, r.length = wid g) ∧ Q (.str (cell g i j)) μ
def t_T_ix (C : Cs) : DTS := dSeq (dIf (dNotT (dTest (dMethod C.T "has_cell" (S_T_has_cell C) (dVar 0) (dCons (dVar 1) (dNil))))) (dRaise .BadCell "value" (dVar 1)) (dNext)) (dRet (dBin gIx (dBin gIx (dFld C.T "rows" (dVar 0)) (dBin gIx (dVar 1) (dC (.int 0)))) (dBin gIx (dVar 1) (dC (.int 1)))))
theorem rd_T_ix {C : Cs} {n1 n2 : Str} : ∀ ds μ Q E, S_T_ix C ds μ Q E → t_T_ix C (dFn μ Q E) (start0 [n1, n2] ds) μ := by
  rintro _ μ Q E ⟨g, i, j, rfl, hi, hj, he, q⟩
  obtain ⟨s, e1, e2, _⟩ := cell_get hi hj he
  unfold t_T_ix
  simp only [dSeq, dIf, dNotT, dTest, dMethod, dVar, dCons, dNil, start0, List.map_cons, List.map_nil, List.length_cons, List.length_nil, List.replicate, Nat.sub_self, List.append_nil, List.cons_append, List.nil_append, List.getElem?_cons_zero, List.getElem?_cons_succ]
  refine ⟨⟨rfl, rfl⟩, g, _, rfl, ⟨⟨_, rfl⟩, fun a b h => ?_⟩, ?_⟩
  · cases h; exact ⟨⟨_, rfl⟩, ⟨_, rfl⟩⟩
  · rw [show isCellB μ g (.tup [.int i, .int j]) = true from decide_eq_true ⟨by omega, by omega, by omega, by omega⟩]
    simp only [Bool.not_true, cond_false, dNext, dRet, dBin, dFld, dVar, dC, List.getElem?_cons_zero, List.getElem?_cons_succ, lk, tabD, look_rows]
    refine ⟨by first | rfl | trivial, ?_⟩
    rw [show gIx (.tup [.int (i : Int), .int (j : Int)]) (.int 0) μ = fun Q' => Q' (.int i) μ from rfl]
    dsimp only
    rw [sq_ix (d := rowsD g) (xs := g.map fun s => .tup (s.map .str)) rfl (i := i) (x := .tup (s.map .str)) (by rw [List.getElem?_map, e1]; rfl)]
    rw [show gIx (.tup [.int (i : Int), .int (j : Int)]) (.int 1) μ = fun Q' => Q' (.int j) μ from rfl]
    dsimp only
    rw [sq_ix (d := .tup (s.map .str)) (xs := s.map .str) rfl (i := j) (x := .str (cell g i j)) (by rw [List.getElem?_map, e2]; rfl)]
    exact FnEnd.here q
end DV
namespace DV
open PySem PySem.Spec PyProof.Rows L2
theorem comp_listA {src : Option (Nat × List D)} {g : D → Gam → Mu → (Gam → Prop) → Prop} {tt : DTT} {te : DTE} {Γ : Gam} {μ : Mu} {Q : List D → Mu → Prop} (ys : List D) {ds acc : List D} (hG : Gd src μ) (hl : ds.length = ys.length) (hs : acc.length + ds.length ≤ sizeLine)
    (step : ∀ (i : Nat) d y, ds[i]? = some d → ys[i]? = some y → ∀ (K1 : D → Mu → Prop) (K2 : Mu → Prop), K1 y μ → g d Γ μ fun Γ1 => tt Γ1 μ (fun b μ2 => cond b (te Γ1 μ2 K1 fun _ _ => False) (K2 μ2)) fun _ _ => False) (q : Q (acc ++ ys) μ) : dCompL src g tt te Γ ds acc μ Q := by
  refine comp_invA (fun i a μ' => a = acc ++ ys.take i ∧ μ' = μ) ds acc μ 0 ?_ hs ⟨by simp, rfl⟩ ?_
  · rintro i d a μ' hd ⟨rfl, rfl⟩
    rw [Nat.zero_add]
    have hi : i < ys.length := by rw [← hl]; exact (List.getElem?_eq_some_iff.mp hd).1
    refine ⟨hG, fun K1 K2 k1 k2 => step i d ys[i] hd (List.getElem?_eq_getElem hi) K1 K2 (k1 _ _ ⟨?_, rfl⟩)⟩
    rw [List.take_succ, List.getElem?_eq_getElem hi, List.append_assoc]; rfl
  · rintro a μ' ⟨rfl, rfl⟩
    rw [Nat.zero_add, hl, List.take_length]
    exact ⟨hG, q⟩
theorem comp2_list {src : Option (Nat × List D)} {g : D → Gam → Mu → (Gam → Prop) → Prop} {fi1 : DTI} {g1 : D → Gam → Mu → (Gam → Prop) → Prop} {tt : DTT} {te : DTE} {vs1 : List Nat} {Γ : Gam} {μ : Mu} {Q : List D → Mu → Prop} (hG : Gd src μ) : ∀ (ds : List D) (yss : List (List D)) (acc : List D), ds.length = yss.length →
    (∀ (i : Nat) d ys, ds[i]? = some d → yss[i]? = some ys → ∀ (acc : List D) (K : List D → Mu → Prop), acc.length + ys.length ≤ sizeLine → K (acc ++ ys) μ → g d Γ μ fun Γ1 => fi1 Γ1 μ (fun src1 ds1 μ1 => dCompL src1 g1 tt te (wipeG Γ1 vs1) ds1 acc μ1 K) fun _ _ => False) →
    acc.length + yss.flatten.length ≤ sizeLine → Q (acc ++ yss.flatten) μ → dCompO src g fi1 g1 tt te vs1 Γ ds acc μ Q
  | [], [], acc, _, _, _, q => ⟨hG, by simpa using q⟩
  | [], _ :: _, _, h, _, _, _ => by simp at h
  | _ :: _, [], _, h, _, _, _ => by simp at h
  | d :: ds, ys :: yss, acc, h, hs, hl, q => by
    rw [List.flatten_cons, List.length_append] at hl
    refine ⟨hG, hs 0 d ys rfl rfl acc _ (by omega) ?_⟩
    refine comp2_list hG ds yss (acc ++ ys) (by simpa using h) (fun i d' ys' e1 e2 => hs (i + 1) d' ys' (by simpa using e1) (by simpa using e2)) (by rw [List.length_append]; omega) ?_
    rw [List.append_assoc]; simpa using q
def prs (n : Nat) : List (Nat × Nat) := (List.range n).flatMap fun a => (List.range (n - (a + 1))).map fun b => (a, a + 1 + b)
def pairD (p : Nat × Nat) : D := .tup [.int p.1, .int p.2]
theorem TOk.asc {g : List (List Str)} (h : TOk g) {i j : Nat} (hi : i < g.length) (hj : j < wid g) : asc (cell g i j) := by
  obtain ⟨s, _, _, h3, h4⟩ := cell_get hi hj h.eq
  exact (valid_asc (h.ok s h4 _ h3)).1
/-! the law's own look -/
theorem grid_ix {g : List (List Str)} {i j : Nat} {μ : Mu} (hi : i < g.length) (hj : j < wid g) (he : ∀ r ∈ g, r.length = wid g) (Q : D → Mu → Prop) : gIx (gridD g) (.int (i : Int)) μ (fun x μ1 => gIx x (.int (j : Int)) μ1 Q) = Q (.str (cell g i j)) μ := by
  obtain ⟨s, e1, e2, _⟩ := cell_get hi hj he
  rw [sq_ix (d := gridD g) (xs := g.map fun s => .lst (s.map .str)) rfl (i := i) (x := .lst (s.map .str)) (by rw [List.getElem?_map, e1]; rfl)]
  rw [sq_ix (d := .lst (s.map .str)) (xs := s.map .str) rfl (i := j) (x := .str (cell g i j)) (by rw [List.getElem?_map, e2]; rfl)]
end DV
namespace DV
open PySem PySem.Spec PyProof.Rows L2
theorem FnExc.here {μ : Mu} {x : Exn} {E : Exn → Mu → Prop} (hp : D.puF x.fs = true) (h : E x μ) : FnExc μ x μ E := ⟨μ, [], by simp, Upd.refl μ, hp, h⟩
def S_T_outcomes (C : Cs) : DSp := fun ds μ Q _ => ∃ g, ds = [tabD C g] ∧ Q (tupS (outs g)) μ
def t_T_outcomes (C : Cs) : DTS := dRet (dFld C.T "names" (dVar 0))
theorem rd_T_outcomes {C : Cs} {n1 : Str} : ∀ ds μ Q E, S_T_outcomes C ds μ Q E → t_T_outcomes C (dFn μ Q E) (start0 [n1] ds) μ := by
  rintro _ μ Q E ⟨g, rfl, q⟩
  unfold t_T_outcomes
  simp only [dRet, dFld, dVar, start0, List.map_cons, List.map_nil, List.length_cons, List.length_nil, List.replicate, Nat.sub_self, List.append_nil, List.cons_append, List.nil_append, List.getElem?_cons_zero, lk, tabD, look_names]
  exact ⟨by first | rfl | trivial, FnEnd.here q⟩
end DV
namespace DV
open PySem PySem.Spec PyProof.Rows L2
def rest (xs w : List Str) : List Str := xs.filter fun x => decide (x ∉ w)
theorem pu_tupS (l : List Str) : (tupS l).pu = true := by
  show D.puL (l.map .str) = true
  rw [puL_iff]; intro d hd; obtain ⟨x, _, rfl⟩ := List.mem_map.mp hd; rfl
end DV
namespace DV
open PySem PySem.Spec PyProof.Rows L2
theorem puF_tab {g : List (List Str)} : D.puF (tabF g) = true := by
  have s : ∀ l : List Str, D.puL (l.map D.str) = true := fun l => by rw [puL_iff]; intro x hx; obtain ⟨y, _, rfl⟩ := List.mem_map.mp hx; rfl
  have r : ∀ g : List (List Str), (rowsD g).pu = true := fun g => by
    show D.puL _ = true
    rw [puL_iff]; intro x hx; obtain ⟨y, _, rfl⟩ := List.mem_map.mp hx; exact s y
  show ((rowsD g).pu && ((rowsD (flip g)).pu && (D.puL ((outs g).map D.str) && true))) = true
  rw [r, r, s]; rfl
theorem make_tab {C : Cs} {μ : Mu} {g : List (List Str)} {d : D} {R : List (Str × D) → Mu → Prop} {E : Exn → Mu → Prop} (ht : ∀ e, TSee (μ ++ e) d g) (hg : TOk g) (q : R (tabF g) μ) :
    S_T_init C (.ref μ.length :: [d]) (μ ++ [.ins C.T []]) (fun r μ2 => r = .non ∧ ∃ fs μ3, μ2 = μ3 ++ [.ins C.T fs] ∧ Upd μ μ3 ∧ D.puF fs = true ∧ R fs μ3) E :=
  ⟨μ, d, g, rfl, rfl, ht _, hg, rfl, tabF g, μ, rfl, Upd.refl μ, puF_tab, q⟩
theorem tab_ins {C : Cs} {g : List (List Str)} : D.ins C.T (tabF g) = tabD C g := rfl
/-! ### copied -/
/-! ### Verdict -/
/-! ### judge -/
end DV
namespace DV
open PySem PySem.Spec PyProof.Rows L2
theorem lk_tup {μ : Mu} {v : D} {xs : List D} (h : lk μ v = .tup xs) : v = .tup xs := by
  cases v with
  | ref l => rcases lk_ref h (by simp) with ⟨_, _, z⟩ | ⟨_, _, z⟩ | ⟨_, _, _, z⟩ <;> cases z
  | _ => exact h
end DV
namespace DV
open PySem PySem.Spec PyProof.Rows L2
end DV
namespace DV
open PySem PySem.Spec PyProof.Rows L2
/-! ### turned, slim -/
theorem tok_mk {g g' : List (List Str)} (h : TOk g) (w : Nat) (h1 : 1 ≤ g'.length) (h2 : g'.length ≤ 8) (w1 : 1 ≤ w) (w2 : w ≤ 8) (eq : ∀ r ∈ g', r.length = w) (sub : ∀ r ∈ g', ∀ x ∈ r, ∃ s ∈ g, x ∈ s) : TOk g' := by
  have hw : wid g' = w := by
    unfold wid
    match g', h1, eq with
    | r :: _, _, eq => exact eq r (by simp)
  refine ⟨h1, h2, by omega, by omega, fun r hr => by rw [hw]; exact eq r hr, fun r hr x hx => ?_, ?_⟩
  · obtain ⟨s, hs, hx⟩ := sub r hr x hx
    exact h.ok s hs x hx
  · refine Nat.le_trans (nodup_sub_len outs_nodup fun x hx => ?_) h.few
    obtain ⟨r, hr, hx⟩ := outs_mem.mp hx
    exact outs_mem.mpr (sub r hr x hx)
theorem flip_mem {g : List (List Str)} (he : ∀ r ∈ g, r.length = wid g) {c : List Str} (h : c ∈ flip g) : c.length = g.length ∧ ∀ x ∈ c, ∃ s ∈ g, x ∈ s := by
  unfold flip at h
  obtain ⟨k, hk, rfl⟩ := List.mem_map.mp h
  have hk : k < wid g := List.mem_range.mp hk
  refine ⟨by simp, fun x hx => ?_⟩
  obtain ⟨s, hs, rfl⟩ := List.mem_map.mp hx
  refine ⟨s, hs, ?_⟩
  have : k < s.length := by rw [he s hs]; exact hk
  rw [List.getD_eq_getElem?_getD, List.getElem?_eq_getElem this]
  exact List.getElem_mem _
theorem TOk.flip {g : List (List Str)} (h : TOk g) : TOk (flip g) :=
  tok_mk h g.length (by rw [flip_len]; exact h.w1) (by rw [flip_len]; exact h.w2) h.h1 h.h2 (fun c hc => (flip_mem h.eq hc).1) (fun c hc => (flip_mem h.eq hc).2)
theorem TOk.ascm {g : List (List Str)} (h : TOk g) : ∀ r ∈ g, ∀ x ∈ r, DV.asc x := fun r hr x hx => (valid_asc (h.ok r hr x hx)).1
end DV
namespace DV
open PySem PySem.Spec PyProof.Rows L2
theorem leS (a b : Str) : leBy id (.str a) (.str b) = decide (a.cps.toList ≤ b.cps.toList) := by
  have := congrFun (congrFun (PySem.W.dataLe_str (fun s : Str => s)) a) b
  exact this
theorem sortS_sorted (xs : List Str) : List.Pairwise (fun a b => leBy id (.str a) (.str b) = true) (sortS xs) := by
  refine List.pairwise_mergeSort (fun a b c h1 h2 => ?_) (fun a b => ?_) xs
  · rw [leS, decide_eq_true_eq] at *
    exact List.le_trans h1 h2
  · rw [leS, leS, Bool.or_eq_true, decide_eq_true_eq, decide_eq_true_eq]
    exact List.le_total _ _
theorem str_ext2 {a b : Str} (h : a.cps.toList = b.cps.toList) : a = b := by
  cases a; cases b
  simp only at h
  congr 1
  exact Array.ext' h
theorem sortS_eq2 {xs ys : List Str} (h : xs.Perm ys) : sortS xs = sortS ys := by
  refine List.Perm.eq_of_pairwise (fun a b _ _ h1 h2 => ?_) (sortS_sorted xs) (sortS_sorted ys) (((sortS_perm xs).trans h).trans (sortS_perm ys).symm)
  rw [leS, decide_eq_true_eq] at h1 h2
  exact str_ext2 (List.le_antisymm h1 h2)
theorem perm_nodup {xs ys : List Str} (h1 : xs.Nodup) (h2 : ys.Nodup) (h : ∀ x, x ∈ xs ↔ x ∈ ys) : xs.Perm ys := by
  induction xs generalizing ys with
  | nil =>
    cases ys with
    | nil => exact .refl _
    | cons y ys => exact absurd ((h y).mpr (by simp)) (by simp)
  | cons x xs ih =>
    have hx : x ∈ ys := (h x).mp (by simp)
    have n1 := List.nodup_cons.mp h1
    refine List.Perm.trans (List.Perm.cons x (ih n1.2 (h2.erase x) fun z => ?_)) (List.perm_cons_erase hx).symm
    by_cases hz : z = x
    · subst hz
      exact ⟨fun q => absurd q n1.1, fun q => absurd q (List.Nodup.not_mem_erase h2)⟩
    · rw [List.mem_erase_of_ne hz, ← h z, List.mem_cons]
      exact ⟨.inr, fun q => q.resolve_left hz⟩
def addE (acc : List Str) (x : Str) : List Str := if x ∈ acc then acc else acc ++ [x]
theorem foldE_mem : ∀ (l acc : List Str) (y : Str), y ∈ l.foldl addE acc ↔ y ∈ acc ∨ y ∈ l
  | [], acc, y => by simp
  | x :: l, acc, y => by
    rw [List.foldl_cons, foldE_mem l]
    have : y ∈ addE acc x ↔ y ∈ acc ∨ y = x := by
      unfold addE; split
      · rename_i h
        exact ⟨.inl, fun z => z.elim id fun e => e ▸ h⟩
      · simp
    rw [this, List.mem_cons, or_assoc]
theorem foldE_nodup : ∀ (l acc : List Str), acc.Nodup → (l.foldl addE acc).Nodup
  | [], acc, h => h
  | x :: l, acc, h => by
    refine foldE_nodup l _ ?_
    unfold addE; split
    · exact h
    · rename_i hx
      rw [List.nodup_append]
      exact ⟨h, by simp, fun a ha b hb e => by simp at hb; subst hb; exact hx (e ▸ ha)⟩
theorem outs_E (g : List (List Str)) : sortS (g.flatten.foldl addE []) = outs g := by
  refine sortS_eq2 (perm_nodup (foldE_nodup _ _ List.nodup_nil) (fold_nodup List.nodup_nil) fun x => ?_)
  rw [foldE_mem, fold_mem]
def S_l_names : DSp := fun ds μ Q _ => ∃ g, ds = [gridD g] ∧ TOk g ∧ Q (tupS (outs g)) μ
def t_l_names : DTS := dSeq (dAsg (dCall gLstM (dNil)) (dName 1)) (dSeq (dFor (dIter (dVar 0)) (dName 2) (dFor (dIter (dVar 2)) (dName 3) (dIf (dTest (dBin (gIn true) (dVar 3) (dVar 1))) (dDrop (dCellM cAppend (dVar 1) (dCons (dVar 3) dNil))) (dNext)))) (dRet (dCall gTuple (dCons (dCall (gSorted true) (dCons (dVar 1) dNil)) dNil))))
theorem rd_l_names {n1 n2 n3 n4 : Str} : ∀ ds μ Q E, S_l_names ds μ Q E → t_l_names (dFn μ Q E) (start0 [n1, n2, n3, n4] ds) μ := by
  rintro _ μ Q E ⟨g, rfl, hg, q⟩
  have len : ∀ (l acc : List Str), (l.foldl addE acc).length ≤ acc.length + l.length := fun l => by
    induction l with
    | nil => intro acc; simp
    | cons x l ih =>
      intro acc
      have := ih (addE acc x)
      have h2 : (addE acc x).length ≤ acc.length + 1 := by unfold addE; split <;> simp
      simp only [List.foldl_cons, List.length_cons]; omega
  have fl := hg.eqw
  unfold t_l_names
  rw [dSeq]
  simp only [dAsg, dCall, dNil, gLstM, dName, start0, List.map_cons, List.map_nil, List.length_cons, List.length_nil, List.replicate, List.cons_append, List.nil_append, List.set_cons_zero, List.set_cons_succ]
  refine ⟨by decide, ?_⟩
  rw [dSeq]
  simp only [dFor, dIter, dVar, List.getElem?_cons_zero, gridD]
  refine loop_inv (src := none) (fun i Γ μ' => ∃ a b, Γ = [some (gridD g), some (.ref μ.length), a, b] ∧ μ' = μ ++ [.lst (((g.take i).flatten.foldl addE []).map .str)]) ⟨none, none, rfl, rfl⟩ ?_ ?_
  · rintro i d Γ μ' hd ⟨a, b, rfl, rfl⟩
    refine ⟨trivial, fun Kn kn => ?_⟩
    rw [List.getElem?_map] at hd
    obtain ⟨r, hr, rfl⟩ := Option.map_eq_some_iff.mp hd
    have hrg : r ∈ g := List.mem_of_getElem? hr
    simp only [dName, List.set_cons_zero, List.set_cons_succ, dFor, dIter, dVar, List.getElem?_cons_zero, List.getElem?_cons_succ]
    have sub : ∀ j, ((g.take i).flatten ++ r.take j).length ≤ 64 := fun j => by
      have e : g.flatten = (g.take i).flatten ++ (r ++ (g.drop (i + 1)).flatten) := by
        conv => lhs; rw [← List.take_append_drop i g, List.flatten_append]
        have hi := (List.getElem?_eq_some_iff.mp hr)
        rw [List.drop_eq_getElem_cons hi.1, hi.2]; rfl
      have := congrArg List.length e
      simp only [List.length_append, List.length_take] at this ⊢
      omega
    refine loop_inv (src := none) (fun j Γ μ' => ∃ b, Γ = [some (gridD g), some (.ref μ.length), some (.lst (r.map .str)), b] ∧ μ' = μ ++ [.lst ((((g.take i).flatten ++ r.take j).foldl addE []).map .str)]) ⟨_, rfl, by simp⟩ ?_ ?_
    · rintro j d Γ μ' hd ⟨b, rfl, rfl⟩
      refine ⟨trivial, fun Kn2 kn2 => ?_⟩
      rw [List.getElem?_map] at hd
      obtain ⟨x, hx, rfl⟩ := Option.map_eq_some_iff.mp hd
      simp only [dName, List.set_cons_zero, List.set_cons_succ, dIf, dTest, dBin, dVar, List.getElem?_cons_zero, List.getElem?_cons_succ, gIn, lk, get_a0]
      have e : ((g.take i).flatten ++ r.take (j + 1)).foldl addE [] = addE (((g.take i).flatten ++ r.take j).foldl addE []) x := by
        rw [List.take_add_one, hx, ← List.append_assoc, List.foldl_append]; rfl
      refine ⟨⟨rfl, flat_strs' _⟩, ?_⟩
      rw [inF_strs, if_pos trivial]
      by_cases h : x ∈ ((g.take i).flatten ++ r.take j).foldl addE []
      · rw [decide_eq_true h]
        simp only [Bool.not_true, cond_false, dNext]
        refine kn2 _ _ ⟨_, rfl, ?_⟩
        rw [e, addE, if_pos h]
      · rw [decide_eq_false h]
        simp only [Bool.not_false, cond_true, dDrop, dCellM, dVar, dCons, dNil, List.getElem?_cons_zero, List.getElem?_cons_succ, get_a0, set_a0]
        have h1 := len ((g.take i).flatten ++ r.take j) []
        have h2 := sub j
        simp only [List.length_nil] at h1
        rw [append_at (by rw [List.length_map]; omega)]
        dsimp only
        try simp only [set_a0]
        refine kn2 _ _ ⟨_, rfl, ?_⟩
        rw [e, addE, if_neg h, List.map_append]; rfl
    · rintro Γ μ' ⟨b, rfl, rfl⟩
      refine ⟨trivial, kn _ _ ⟨_, _, rfl, ?_⟩⟩
      rw [List.length_map, List.take_of_length_le (Nat.le_refl _), List.take_add_one, hr, List.flatten_append]
      simp
  · rintro Γ μ' ⟨a, b, rfl, rfl⟩
    rw [List.length_map, List.take_of_length_le (Nat.le_refl _)]
    refine ⟨trivial, ?_⟩
    simp only [dRet, dCall, dCons, dNil, dVar, List.getElem?_cons_zero, List.getElem?_cons_succ, gSorted, lk, get_a0]
    refine ⟨srt_strs fun x hx => ?_, ?_⟩
    · rcases (foldE_mem _ _ _).mp hx with h | h
      · cases h
      · obtain ⟨r, hr, hx⟩ := List.mem_flatten.mp h
        exact hg.ascm r hr x hx
    · rw [sort_strs, outs_E]
      simp only [dFin, gTuple, lk]
      exact FnEnd.pure (Upd.refl μ) (pu_tupS _) q
end DV
namespace DV
open PySem PySem.Spec PyProof.Rows L2
end DV
/-! set(xs) of texts; sorted(set(xs)). -/
namespace DV
open PySem PySem.Spec PyProof.Rows L2 PySem.Froz
end DV
namespace DV
open PySem PySem.Spec PyProof.Rows L2
/-- {} that never changes -/
def dDict0z : DTE := fun _ μ Q _ => Q (.dct []) μ
theorem de_dict0z {X : Cx} {W : WX} {pos : Pos} : DE X W (.Dict [] [] pos) dDict0z := PE.imp pe_dnewK fun σ H Q ⟨n, Γ, μ, Qd, Ed, hH, sr, gr, h, hq, hx⟩ => by
  subst hH
  intro p hp
  exact fin_dct (fz := true) hq sr hp (us := []) (kvs := []) rfl .nil h
theorem comp_filtS {src : Option (Nat × List D)} {v : Nat} {tt : DTT} {Γ : Gam} {μ : Mu} {Q : List D → Mu → Prop} (p : Str → Bool) (hG : Gd src μ) (xs : List Str) (hv : v < Γ.length) (hl : xs.length ≤ 1000)
    (ht : ∀ x ∈ xs, ∀ K : Bool → Mu → Prop, K (p x) μ → tt (Γ.set v (some (.str x))) μ K (fun _ _ => False)) (q : Q ((xs.filter p).map .str) μ) : dCompL src (cName v) tt (dVar v) Γ (xs.map .str) [] μ Q := by
  refine comp_pure (fun d => match d with | .str t => p t | _ => false) id hG _ [] (fun x hx K1 K2 k => ?_) (by simp only [List.length_map, List.length_nil, sizeLine_eq]; omega) ?_
  · obtain ⟨t, hx2, rfl⟩ := List.mem_map.mp hx
    simp only [cName]
    refine ht t hx2 _ ?_
    cases hp : p t with
    | true =>
      simp only [hp, cond_true] at k ⊢
      simp only [dVar, List.getElem?_set_self hv]
      exact k
    | false =>
      simp only [hp, cond_false] at k ⊢
      exact k
  · rw [List.nil_append, List.map_id, List.filter_map]
    exact q
end DV
local macro_rules | `(tactic| walk_at "dv") => `(tactic| try simp only [DV.dSeq, DV.dIf, DV.dOrT, DV.dAndT, DV.dNotT, DV.dTest, DV.dChain, DV.dC, DV.dCall, DV.gLen, DV.dCons, DV.dVar, DV.dNil, DV.dBin, DV.dUn, DV.gNeg, DV.gIn, DV.gIx, DV.dRet, DV.dRetN, DV.dNext, DV.dFor, DV.dIter, DV.dName, DV.lk, DV.dAsg, DV.dDrop, DV.gLst, DV.gTup, DV.gLstM, DV.gAdd, DV.gI, DV.gMod, DV.gMul, DV.gFdiv, DV.gPow, DV.gAbs, DV.gInt, DV.gList, DV.gTuple, DV.dOp, DV.dOpK, DV.dIsi, DV.tyD, DV.gIs, DV.gIsNot, DV.D.isN, DV.dJoin, DV.dCellM, DV.dSetI, DV.dSlice, DV.dPart, DV.dNoPart, DV.dRevA, DV.dFin, DV.dAugI, DV.dComp, DV.wipeG, DV.cName, DV.cPair, DV.dYes, DV.dRange1, DV.dRange2, DV.dAnd, DV.dOr, DV.dNot, DV.dIfE, DV.gEq, DV.gNe, DV.sgn_one, DV.atI_zero, DV.dTruth, DV.truD, DV.dBreak, DV.dCont, DV.gSorted, DV.dSortK, DV.dRevT, DV.gInD, DV.gIsB, DV.gStr, DV.dPop0, DV.dDict, DV.dPairs, DV.keysD, DV.keyOfD, DV.dFinD, DV.dFld, DV.dSetF, DV.dMake, DV.dMethod, DV.dProp, DV.dOwnIx, DV.dNever, DV.gMulM, DV.gAddM, DV.gMax2, DV.dPair, DV.gDGet, DV.dSetD, DV.dDict0, DV.dComp2, DV.dSortSC, DV.isIns, DV.insOf,
  List.getElem?_cons_zero, List.getElem?_cons_succ, List.set_cons_zero, List.set_cons_succ, List.map_cons, List.map_nil, List.length_cons, List.length_nil, List.replicate, Nat.sub_self, List.append_nil, List.cons_append, List.nil_append, DV.start0, if_true, if_false, Bool.not_true, Bool.not_false, Bool.false_eq_true, Bool.true_and, Bool.and_true, Bool.or_true, Bool.true_or, Bool.false_or, Bool.or_false, eq_self_iff_true, not_true_eq_false, not_false_eq_true, ite_true, ite_false, cond_true, cond_false])
namespace DV
open PySem PySem.Spec PyProof.Rows L2
/-! Wishes: an integer for each of some outcomes. -/
def lkL (ks : List Str) (u : Str → Int) : List (Key × D) := ks.map fun x => (.inr x, .int (u x))
theorem lk_val {ks : List Str} {u : Str → Int} {x : Str} (h : x ∈ ks) : valD (lkL ks u) (.inr x) = some (.int (u x)) := by
  induction ks with
  | nil => cases h
  | cons k ks ih =>
    unfold lkL
    rw [List.map_cons]
    by_cases e : k = x
    · subst e; rw [valD_pos rfl]
    · rw [valD_neg (fun z => e (by injection z))]
      exact ih ((List.mem_cons.mp h).resolve_left (fun z => e z.symm))
theorem lk_keys (ks : List Str) (u : Str → Int) : keysS (lkL ks u) = some ks := by
  induction ks with
  | nil => rfl
  | cons k ks ih => unfold lkL at ih ⊢; rw [List.map_cons, keysS, ih]; rfl
theorem lk_len (ks : List Str) (u : Str → Int) : (lkL ks u).length = ks.length := by unfold lkL; rw [List.length_map]
theorem lk_any {ks : List Str} {u : Str → Int} {x : Str} : ((lkL ks u).any fun kv => decide (kv.1 = .inr x)) = decide (x ∈ ks) := by
  induction ks with
  | nil => rfl
  | cons k ks ih =>
    unfold lkL at ih ⊢
    rw [List.map_cons, List.any_cons, ih]
    by_cases e : x = k
    · subst e; simp
    · have : ¬ (Sum.inr k : Key) = Sum.inr x := fun z => e (by injection z with z; exact z.symm)
      simp [e, this]
theorem lk_put {ks : List Str} {u : Str → Int} {x : Str} {i : Int} (h : x ∉ ks) : putKD (lkL ks u) (.inr x) (.int i) = lkL ks u ++ [(.inr x, .int i)] := by
  unfold putKD
  rw [if_neg (by rw [lk_any]; simpa using h)]
theorem lk_snoc {ks : List Str} {u : Str → Int} {x : Str} {i : Int} (h : x ∉ ks) : lkL ks u ++ [(.inr x, .int i)] = lkL (ks ++ [x]) (fun y => if y = x then i else u y) := by
  unfold lkL
  rw [List.map_append]
  congr 1
  · refine List.map_congr_left fun y hy => ?_
    have : y ≠ x := fun z => h (z ▸ hy)
    simp [this]
  · simp
theorem lk_tupK (ks : List Str) (u : Str → Int) : ((lkL ks u).map fun kv => kD kv.1) = ks.map .str := by
  unfold lkL; rw [List.map_map]; rfl
def wD (C : Cs) (ns : List Str) (u : Str → Int) : D := .ins C.W [("likes", .dct (lkL ns u))]
/-- names of outcomes -/
structure NOk (ns : List Str) : Prop where
  nd : ns.Nodup
  l1 : 1 ≤ ns.length
  l6 : ns.length ≤ 6
  ok : ∀ x ∈ ns, validN x = true
theorem NOk.asc {ns : List Str} (h : NOk ns) {x : Str} (hx : x ∈ ns) : DV.asc x := (valid_asc (h.ok x hx)).1
theorem NOk.sort {ns : List Str} (h : NOk ns) : NOk (sortS ns) := ⟨(sortS_perm ns).nodup_iff.mpr h.nd, by rw [(sortS_perm ns).length_eq]; exact h.l1, by rw [(sortS_perm ns).length_eq]; exact h.l6, fun x hx => h.ok x ((sortS_perm ns).mem_iff.mp hx)⟩
theorem TOk.nok {g : List (List Str)} (hg : TOk g) : NOk (outs g) := ⟨outs_nodup, (by
    obtain ⟨r, hr⟩ : ∃ r, g[0]? = some r := ⟨_, List.getElem?_eq_getElem hg.h1⟩
    have hm := List.mem_of_getElem? hr
    have hl := hg.eq r hm
    have hw := hg.w1
    obtain ⟨x, hx⟩ : ∃ x, r[0]? = some x := ⟨_, List.getElem?_eq_getElem (by omega)⟩
    exact List.length_pos_of_mem (outs_mem.mpr ⟨r, hm, List.mem_of_getElem? hx⟩)), hg.few, fun x hx => by
    obtain ⟨r, hr, hxr⟩ := outs_mem.mp hx
    exact hg.ok r hr x hxr⟩
/-! check_different -/
def diffX : List Str → List Str → Option Exn
  | _, [] => none
  | e, w :: ws => cond (validN w) (if w ∈ e then some ⟨.DuplicateName, [("name", .str w)]⟩ else diffX (e ++ [w]) ws) (some ⟨.BadName, [("name", .str w)]⟩)
theorem diff_none : ∀ {ws e : List Str}, (e ++ ws).Nodup → (∀ x ∈ ws, validN x = true) → diffX e ws = none
  | [], _, _, _ => rfl
  | w :: ws, e, h, hv => by
    unfold diffX
    rw [hv w List.mem_cons_self, cond_true, if_neg, diff_none (by rw [List.append_assoc]; exact h) fun x hx => hv x (List.mem_cons_of_mem _ hx)]
    intro z
    rw [List.nodup_append] at h
    exact h.2.2 w z w List.mem_cons_self rfl
def S_check_different : DSp := fun ds μ Q E => ∃ ws : List Str, (ds = [.lst (ws.map .str)] ∨ ds = [.tup (ws.map .str)]) ∧ ws.length ≤ 1000 ∧ (∀ x ∈ ws, x.length ≤ sizeLine) ∧ (∀ x, diffX [] ws = some x → E x μ) ∧ (diffX [] ws = none → Q .non μ)
def t_check_different : DTS := dSeq (dAsg (dCall gLstM (dNil)) (dName 1)) (dFor (dIter (dVar 0)) (dName 2) (dSeq (dIf (dNotT (dTest (dOp S_valid_name (dCons (dVar 2) (dNil))))) (dRaise .BadName "name" (dVar 2)) (dNext)) (dSeq (dIf (dTest (dBin (gIn false) (dVar 2) (dVar 1))) (dRaise .DuplicateName "name" (dVar 2)) (dNext)) (dDrop (dCellM cAppend (dVar 1) (dCons (dVar 2) dNil))))))
theorem lk_last {μ : Mu} {xs : List D} : lk (μ ++ [.lst xs]) (.ref μ.length) = .lst xs := by
  unfold lk; simp
theorem lp_different {μ : Mu} {Q : D → Mu → Prop} {E : Exn → Mu → Prop} {d : D} : ∀ (ws e : List Str) (a : Option D), (∀ x ∈ ws, x.length ≤ sizeLine) → e.length + ws.length ≤ 1000 → (∀ x, diffX e ws = some x → E x μ) → (diffX e ws = none → Q .non μ) →
    dLoop none (dName 2) (dSeq (dIf (dNotT (dTest (dOp S_valid_name (dCons (dVar 2) (dNil))))) (dRaise .BadName "name" (dVar 2)) (dNext)) (dSeq (dIf (dTest (dBin (gIn false) (dVar 2) (dVar 1))) (dRaise .DuplicateName "name" (dVar 2)) (dNext)) (dDrop (dCellM cAppend (dVar 1) (dCons (dVar 2) dNil))))) (ws.map .str) (dFn μ Q E) [some d, some (.ref μ.length), a] (μ ++ [.lst (e.map .str)])
  | [], e, a, _, _, _, h2 => ⟨trivial, .inr ⟨μ, [.lst (e.map .str)], rfl, Upd.refl μ, .inl ⟨rfl, h2 rfl⟩⟩⟩
  | w :: ws, e, a, hl, hn, h1, h2 => by
    refine ⟨trivial, ?_⟩
    simp only [dName, List.set_cons_zero, List.set_cons_succ, dSeq, dIf, dNotT, dTest, dOp, dCons, dNil, dVar, List.getElem?_cons_zero, List.getElem?_cons_succ]
    refine ⟨w, rfl, hl w List.mem_cons_self, ?_⟩
    unfold diffX at h1 h2
    cases hv : validN w with
    | false =>
      rw [hv] at h1
      simp only [Bool.not_false, cond_true, dRaise, dVar, List.getElem?_cons_zero, List.getElem?_cons_succ]
      exact ⟨μ, _, rfl, Upd.refl μ, rfl, h1 _ rfl⟩
    | true =>
      rw [hv, cond_true] at h1 h2
      simp only [Bool.not_true, cond_false, dNext]
      rw [dSeq]
      simp only [dIf, dTest, dBin, dVar, List.getElem?_cons_zero, List.getElem?_cons_succ, gIn]
      rw [lk_last]
      dsimp only
      refine ⟨⟨rfl, flat_strs' _⟩, ?_⟩
      rw [inF_strs]
      by_cases hm : w ∈ e
      · rw [if_pos hm] at h1
        rw [decide_eq_true hm]
        simp only [Bool.false_eq_true, if_false, cond_true, dRaise, dVar, List.getElem?_cons_zero, List.getElem?_cons_succ]
        exact ⟨μ, _, rfl, Upd.refl μ, rfl, h1 _ rfl⟩
      · rw [if_neg hm] at h1 h2
        rw [decide_eq_false hm]
        simp only [Bool.false_eq_true, if_false, cond_false, dNext]
        simp only [dDrop, dCellM, dCons, dNil, dVar, List.getElem?_cons_zero, List.getElem?_cons_succ, get_a0]
        rw [append_at (by rw [List.length_map]; simp at hn; omega)]
        dsimp only
        rw [set_a0]
        have z := lp_different (Q := Q) (E := E) (d := d) ws (e ++ [w]) (some (.str w)) (fun x hx => hl x (List.mem_cons_of_mem _ hx)) (by simp at hn ⊢; omega) h1 h2
        rw [List.map_append] at z
        exact z
theorem rd_check_different {n1 n2 n3 : Str} : ∀ ds μ Q E, S_check_different ds μ Q E → t_check_different (dFn μ Q E) (start0 [n1, n2, n3] ds) μ := by
  rintro _ μ Q E ⟨ws, hd, hl, hz, q1, q2⟩
  unfold t_check_different
  rcases hd with rfl | rfl
  all_goals
    rw [dSeq]
    simp only [dAsg, dCall, dNil, gLstM, start0, List.map_cons, List.map_nil, List.length_cons, List.length_nil, List.replicate, List.cons_append, List.nil_append]
    refine ⟨by decide, ?_⟩
    simp only [dName, List.set_cons_zero, List.set_cons_succ, dFor, dIter, dVar, List.getElem?_cons_zero]
    exact lp_different ws [] none hz (by simpa using hl) q1 q2
/-! Wishes.__init__ -/
def S_W_init (C : Cs) : DSp := fun ds μ Q _ => ∃ μ1 d ks u, ds = [.ref μ1.length, d] ∧ μ = μ1 ++ [.ins C.W []] ∧ (∀ loc, lk (μ1 ++ loc) d = .dct (lkL ks u)) ∧ NOk ks ∧ Q .non (μ1 ++ [.ins C.W [("likes", .ref (μ1.length + 1))], .dct (lkL (sortS ks) u)])
def t_W_init (C : Cs) : DTS := dSeq (dDrop (dOp S_check_number (dCons (dCall gLen (dCons (dVar 1) dNil)) (dNil)))) (dSeq (dDrop (dOp S_check_different (dCons (dCall (gSortedD true) (dCons (dVar 1) dNil)) (dNil)))) (dSeq (dSetF C.W "likes" (dVar 0) (dDict0)) (dFor (dIter (dCall (gSortedD true) (dCons (dVar 1) dNil))) (dName 2) (dSeq (dIf (dNotT (dTest (dOp S_is_integer (dCons (dBin gDGet (dVar 1) (dVar 2)) (dNil))))) (dRaise .BadWish "value" (dBin gDGet (dVar 1) (dVar 2))) (dNext)) (dAsg (dBin gDGet (dVar 1) (dVar 2)) (dSetD (dFld C.W "likes" (dVar 0)) (dVar 2)))))))
theorem rd_W_init {C : Cs} {n1 n2 n3 : Str} : ∀ ds μ Q E, S_W_init C ds μ Q E → t_W_init C (dFn μ Q E) (start0 [n1, n2, n3] ds) μ := by
  rintro _ _ Q E ⟨μ1, d, ks, u, rfl, rfl, hd, hk, q⟩
  have hs := hk.sort
  have m1 := hk.l1
  have m6 := hk.l6
  have s6 := hs.l6
  unfold t_W_init
  try dsimp only
  rw [dSeq]
  simp only [dDrop, dOp, dCons, dNil, dCall, gLen, dVar, start0, List.map_cons, List.map_nil, List.length_cons, List.length_nil, List.replicate, List.cons_append, List.nil_append, List.getElem?_cons_zero, List.getElem?_cons_succ, hd, lk_len]
  refine ⟨_, rfl, by omega, by omega, ?_⟩
  try dsimp only
  rw [dSeq]
  simp only [dDrop, dOp, dCons, dNil, dCall, gSortedD, dVar, List.getElem?_cons_zero, List.getElem?_cons_succ, hd, lk_keys, dFin]
  refine ⟨by omega, sortS ks, .inl rfl, by omega, fun x hx => by have := (valid_asc (hs.ok x hx)).2.1; rw [sizeLine_eq]; omega, fun x hx => ?_, fun _ => ?_⟩
  · rw [diff_none (by simpa using hs.nd) hs.ok] at hx; cases hx
  try dsimp only
  rw [dSeq]
  simp only [dSetF, dDict0, dVar, List.getElem?_cons_zero, List.length_append, List.length_cons, List.length_nil]
  have g0 : (μ1 ++ [Cell.ins C.W []] ++ [Cell.dct []])[μ1.length]? = some (.ins C.W []) := by simp
  rw [g0]
  refine ⟨rfl, by decide, ?_⟩
  have g1 : (μ1 ++ [Cell.ins C.W []] ++ [Cell.dct []]).set μ1.length (Cell.ins C.W (putD (Str.ofString "likes") (.ref (μ1.length + (0 + 1))) [])) = μ1 ++ [.ins C.W [("likes", .ref (μ1.length + 1))], .dct []] := by
    rw [List.append_assoc, List.set_append_right _ _ (Nat.le_refl _), Nat.sub_self]; rfl
  rw [g1]
  simp only [dFor, dIter, dCall, dCons, dNil, gSortedD, dVar, List.getElem?_cons_zero, List.getElem?_cons_succ, hd, lk_keys, dFin]
  refine ⟨by omega, ?_⟩
  refine loop_inv (src := none) (fun i Γ μ' => ∃ a, i ≤ (sortS ks).length ∧ Γ = [some (.ref μ1.length), some d, a] ∧ μ' = μ1 ++ [.ins C.W [("likes", .ref (μ1.length + 1))], .dct (lkL ((sortS ks).take i) u)]) ⟨_, Nat.zero_le _, rfl, by simp [lkL]⟩ ?_ ?_
  · rintro i x Γ μ' hx ⟨a, hi, rfl, rfl⟩
    refine ⟨trivial, fun Kn kn => ?_⟩
    have hlt : i < (sortS ks).length := by have := (List.getElem?_eq_some_iff.mp hx).1; simpa using this
    rw [List.getElem?_map, List.getElem?_eq_getElem hlt] at hx
    cases hx
    have hm : (sortS ks)[i] ∈ ks := (sortS_perm ks).mem_iff.mp (List.getElem_mem hlt)
    have hn : (sortS ks)[i] ∉ (sortS ks).take i := fun z => by
      obtain ⟨j, hj, e⟩ := List.getElem_of_mem z
      have hj2 : j < i := by have := hj; simp at this; omega
      rw [List.getElem_take] at e
      have := (List.getElem?_inj (i := j) (j := i) (by omega) hs.nd).mp (by rw [List.getElem?_eq_getElem (by omega), List.getElem?_eq_getElem hlt, e])
      omega
    have et : (sortS ks).take (i + 1) = (sortS ks).take i ++ [(sortS ks)[i]] := List.take_succ_eq_append_getElem hlt
    generalize (sortS ks)[i] = w at hm hn et
    simp only [dName, List.set_cons_zero, List.set_cons_succ, dSeq, dIf, dNotT, dTest, dOp, dCons, dNil, dBin, gDGet, dVar, List.getElem?_cons_zero, List.getElem?_cons_succ, hd, keyOfD, lk_val hm]
    refine ⟨_, rfl, ⟨.int, rfl⟩, ?_⟩
    simp only [isInt, Bool.not_true, cond_false, dNext, dAsg, dBin, gDGet, dVar, List.getElem?_cons_zero, List.getElem?_cons_succ, hd, keyOfD, lk_val hm, dSetD, dFld]
    have e1 : lk (μ1 ++ [Cell.ins C.W [("likes", .ref (μ1.length + 1))], Cell.dct (lkL ((sortS ks).take i) u)]) (.ref μ1.length) = .ins C.W [("likes", .ref (μ1.length + 1))] := by unfold lk; simp
    have e2 : List.lookup (Str.ofString "likes") [((Str.ofString "likes" : Str), D.ref (μ1.length + 1))] = some (.ref (μ1.length + 1)) := rfl
    rw [e1]
    simp only [e2, get_a1]
    refine ⟨trivial, by rw [lk_len, List.length_take, sizeLine_eq]; omega, ?_⟩
    rw [set_a1, lk_put hn]
    refine kn _ _ ⟨_, hlt, rfl, ?_⟩
    rw [et]
    unfold lkL
    rw [List.map_append]; rfl
  · rintro Γ μ' ⟨a, hi, rfl, rfl⟩
    refine ⟨trivial, FnEnd.here ?_⟩
    rw [List.length_map, List.take_length]
    exact q
theorem pu_lk (ks : List Str) (u : Str → Int) : D.puK (lkL ks u) = true := by
  rw [puK_eq, puL_iff]
  intro x hx
  obtain ⟨p, hp, rfl⟩ := List.mem_map.mp hx
  obtain ⟨k, _, rfl⟩ := List.mem_map.mp hp
  rfl
theorem fz_pu {m : Nat} {μ : Mu} : ∀ {ds : List D}, D.puL ds = true → FzL m μ ds ds
  | [], _ => .nil
  | d :: ds, h => by simp only [D.puL, Bool.and_eq_true] at h; exact .cons (.pu h.1) (fz_pu h.2)
/-- Wishes(d) -/
theorem make_wish {C : Cs} {μ : Mu} {d : D} {ks : List Str} {u : Str → Int} {Q : D → Mu → Prop} {E : Exn → Mu → Prop} (hd : ∀ loc, lk (μ ++ loc) d = .dct (lkL ks u)) (hk : NOk ks) (q : Q (wD C (sortS ks) u) μ) :
    S_W_init C (.ref μ.length :: [d]) (μ ++ [.ins C.W []]) (fun r μ2 => r = .non ∧ ∃ e loc μ3, μ2 = μ3 ++ loc ∧ Upd μ μ3 ∧ Fz μ3.length (μ3 ++ loc) (.ref μ.length) e ∧ Q e μ3) (fun x μ2 => ∃ loc μ3, μ2 = μ3 ++ loc ∧ Upd μ μ3 ∧ D.puF x.fs = true ∧ E x μ3) := by
  refine ⟨μ, d, ks, u, rfl, rfl, hd, hk, rfl, wD C (sortS ks) u, _, μ, rfl, Upd.refl μ, ?_, q⟩
  have e0 : (μ ++ [Cell.ins C.W [((Str.ofString "likes" : Str), D.ref (μ.length + 1))], Cell.dct (lkL (sortS ks) u)])[μ.length]? = some (.ins C.W [("likes", .ref (μ.length + 1))]) := get_a0
  have e1 : (μ ++ [Cell.ins C.W [((Str.ofString "likes" : Str), D.ref (μ.length + 1))], Cell.dct (lkL (sortS ks) u)])[μ.length + 1]? = some (.dct (lkL (sortS ks) u)) := get_a1
  have hp := pu_lk (sortS ks) u
  rw [puK_eq] at hp
  have f1 := Fz.dcell (m := μ.length) (by omega) e1 (fz_pu hp)
  have ez : ((lkL (sortS ks) u).map (·.1)).zip ((lkL (sortS ks) u).map (·.2)) = lkL (sortS ks) u := zip_maps _ _ rfl
  rw [ez] at f1
  exact Fz.icell (m := μ.length) (Nat.le_refl _) e0 (.cons f1 .nil)
/-! outcomes, prefers -/
def S_W_outcomes (C : Cs) : DSp := fun ds μ Q _ => ∃ ns u, ds = [wD C ns u] ∧ Q (tupS ns) μ
def t_W_outcomes (C : Cs) : DTS := dRet (dCall gTupleD (dCons (dFld C.W "likes" (dVar 0)) dNil))
theorem w_look {ns : List Str} {u : Str → Int} : List.lookup (Str.ofString "likes") [((Str.ofString "likes" : Str), D.dct (lkL ns u))] = some (.dct (lkL ns u)) := rfl
theorem rd_W_outcomes {C : Cs} {n1 : Str} : ∀ ds μ Q E, S_W_outcomes C ds μ Q E → t_W_outcomes C (dFn μ Q E) (start0 [n1] ds) μ := by
  rintro _ μ Q E ⟨ns, u, rfl, q⟩
  unfold t_W_outcomes wD
  simp only [dRet, dCall, dCons, dNil, dFld, dVar, start0, List.map_cons, List.map_nil, List.length_cons, List.length_nil, List.replicate, Nat.sub_self, List.append_nil, List.getElem?_cons_zero, lk, w_look, gTupleD, lk_tupK]
  exact ⟨trivial, FnEnd.here q⟩
def S_W_prefers (C : Cs) : DSp := fun ds μ Q _ => ∃ ns u a b, ds = [wD C ns u, .str a, .str b] ∧ a ∈ ns ∧ b ∈ ns ∧ Q (.bl (decide (u b < u a))) μ
def t_W_prefers (C : Cs) : DTS := dSeq (dFor (dIter (dCall gTup (dCons (dVar 1) (dCons (dVar 2) (dNil))))) (dName 3) (dIf (dTest (dBin (gDIn true) (dVar 3) (dFld C.W "likes" (dVar 0)))) (dRaise .UnknownName "name" (dVar 3)) (dNext))) (dRet (dBin (gI fun i j => .bl (decide (j < i))) (dBin gDGet (dFld C.W "likes" (dVar 0)) (dVar 1)) (dBin gDGet (dFld C.W "likes" (dVar 0)) (dVar 2))))
theorem rd_W_prefers {C : Cs} {n1 n2 n3 n4 : Str} : ∀ ds μ Q E, S_W_prefers C ds μ Q E → t_W_prefers C (dFn μ Q E) (start0 [n1, n2, n3, n4] ds) μ := by
  rintro _ μ Q E ⟨ns, u, a, b, rfl, ha, hb, q⟩
  unfold t_W_prefers wD
  try dsimp only
  rw [dSeq]
  simp only [dFor, dIter, dCall, gTup, dCons, dNil, dVar, start0, List.map_cons, List.map_nil, List.length_cons, List.length_nil, List.replicate, List.cons_append, List.nil_append, List.getElem?_cons_zero, List.getElem?_cons_succ]
  refine ⟨by decide, ?_⟩
  refine loop_pass (src := none) (fun Γ => ∃ x, Γ = [some (.ins C.W [("likes", .dct (lkL ns u))]), some (.str a), some (.str b), x]) trivial ⟨_, rfl⟩ ?_ ?_
  · rintro i d Γ hd ⟨x, rfl⟩ Kn kn
    obtain ⟨z, rfl, hz⟩ : ∃ z, d = .str z ∧ z ∈ ns := by
      match i, hd with
      | 0, hd => exact ⟨a, by simpa using hd.symm, ha⟩
      | 1, hd => exact ⟨b, by simpa using hd.symm, hb⟩
    simp only [dName, List.set_cons_zero, List.set_cons_succ, dIf, dTest, dBin, dFld, dVar, List.getElem?_cons_zero, List.getElem?_cons_succ, lk, w_look]
    refine ⟨trivial, ?_⟩
    simp only [gDIn, lk, keyOfD, lk_val hz, Option.isSome, Bool.not_true, if_true, cond_false, dNext]
    exact kn _ ⟨_, rfl⟩
  · rintro Γ ⟨x, rfl⟩
    simp only [dRet, dBin, dFld, dVar, List.getElem?_cons_zero, List.getElem?_cons_succ, lk, w_look]
    refine ⟨trivial, ?_⟩
    simp only [gDGet, lk, keyOfD, lk_val ha]
    refine ⟨trivial, ?_⟩
    simp only [gDGet, lk, keyOfD, lk_val hb, gI]
    exact FnEnd.here q
end DV
namespace DV
open PySem PySem.Spec PyProof.Rows L2
/-! Cells, improvements, stable cells. -/
def cellsG (g : List (List Str)) : List (Nat × Nat) := (List.range g.length).flatMap fun r => (List.range (wid g)).map fun c => (r, c)
theorem mem_cells {g : List (List Str)} {p : Nat × Nat} : p ∈ cellsG g ↔ p.1 < g.length ∧ p.2 < wid g := by
  obtain ⟨a, b⟩ := p
  unfold cellsG
  rw [List.mem_flatMap]
  constructor
  · rintro ⟨r, hr, h⟩
    obtain ⟨c, hc, e⟩ := List.mem_map.mp h
    cases e
    exact ⟨List.mem_range.mp hr, List.mem_range.mp hc⟩
  · rintro ⟨h1, h2⟩
    exact ⟨a, List.mem_range.mpr h1, List.mem_map.mpr ⟨b, List.mem_range.mpr h2, rfl⟩⟩
theorem cells_len {g : List (List Str)} : (cellsG g).length = g.length * wid g := by
  unfold cellsG
  rw [List.length_flatMap]
  simp only [List.length_map, List.length_range]
  rw [List.map_const', List.length_range, List.sum_replicate_nat]
theorem TOk.cl {g : List (List Str)} (h : TOk g) : (cellsG g).length ≤ 64 := by rw [cells_len]; exact Nat.mul_le_mul h.h2 h.w2
def atc (g : List (List Str)) (p : Nat × Nat) : Str := cell g p.1 p.2
theorem TOk.ato {g : List (List Str)} (h : TOk g) {p : Nat × Nat} (hp : p ∈ cellsG g) : atc g p ∈ outs g := by
  obtain ⟨h1, h2⟩ := mem_cells.mp hp
  obtain ⟨s, _, _, e3, e4⟩ := cell_get h1 h2 h.eq
  exact outs_mem.mpr ⟨s, e4, e3⟩
theorem comp_filtA {α : Type} {src : Option (Nat × List D)} {v : Nat} {tt : DTT} {Γ : Gam} {μ : Mu} {Q : List D → Mu → Prop} (enc : α → D) (p : α → Bool) (hG : Gd src μ) (hv : v < Γ.length) : ∀ (xs : List α) (acc : List D), acc.length + xs.length ≤ 10000 →
    (∀ x ∈ xs, ∀ K : Bool → Mu → Prop, K (p x) μ → tt (Γ.set v (some (enc x))) μ K (fun _ _ => False)) → Q (acc ++ (xs.filter p).map enc) μ → dCompL src (cName v) tt (dVar v) Γ (xs.map enc) acc μ Q
  | [], acc, _, _, q => ⟨hG, by simpa using q⟩
  | x :: xs, acc, hl, ht, q => by
    refine ⟨hG, ?_⟩
    simp only [cName]
    refine ht x List.mem_cons_self _ ?_
    rw [List.length_cons] at hl
    cases hp : p x with
    | false =>
      rw [List.filter_cons_of_neg (by simp [hp])] at q
      exact comp_filtA enc p hG hv xs acc (by omega) (fun y hy => ht y (List.mem_cons_of_mem _ hy)) q
    | true =>
      rw [List.filter_cons_of_pos hp] at q
      simp only [cond_true, dVar, List.getElem?_set_self hv]
      refine ⟨by rw [sizeLine_eq]; omega, comp_filtA enc p hG hv xs _ (by simp; omega) (fun y hy => ht y (List.mem_cons_of_mem _ hy)) (by simpa using q)⟩
def S_cells_of (C : Cs) : DSp := fun ds μ Q _ => ∃ g, ds = [tabD C g] ∧ TOk g ∧ Q (.lst ((cellsG g).map pairD)) μ
def t_cells_of (C : Cs) : DTS := dRet (dComp2 true [1, 2] [2] (dRange1 (dProp C.T (S_T_height C) (dVar 0))) (cName 1) (dRange1 (dProp C.T (S_T_width C) (dVar 0))) (cName 2) (dYes) (dCall gTup (dCons (dVar 1) (dCons (dVar 2) (dNil)))))
theorem rd_cells_of {C : Cs} {n1 n2 n3 : Str} : ∀ ds μ Q E, S_cells_of C ds μ Q E → t_cells_of C (dFn μ Q E) (start0 [n1, n2, n3] ds) μ := by
  rintro _ μ Q E ⟨g, rfl, hg, q⟩
  have a1 := hg.h2
  have a2 := hg.w2
  unfold t_cells_of
  simp only [dRet, dComp2, dRange1, dProp, dVar, start0, List.map_cons, List.map_nil, List.length_cons, List.length_nil, List.replicate, List.cons_append, List.nil_append, List.getElem?_cons_zero]
  refine ⟨rfl, g, rfl, by omega, ?_⟩
  simp only [wipeG, List.set_cons_succ, List.set_cons_zero]
  have hfl : ((List.range g.length).map fun a => ((List.range (wid g)).map fun b => pairD (a, b))).flatten = (cellsG g).map pairD := by
    unfold cellsG
    rw [List.map_flatMap, List.flatMap_def]
    congr 1
    apply List.map_congr_left
    intro a _
    rw [List.map_map]; rfl
  have hle := hg.cl
  refine comp2_list (src := none) trivial _ ((List.range g.length).map fun a => ((List.range (wid g)).map fun b => pairD (a, b))) [] (by rw [irng_len]; simp) ?_ (by rw [hfl, List.length_map, sizeLine_eq]; simp only [List.length_nil]; omega) ?_
  · intro i d ys hd hy acc K hl k
    obtain ⟨hi, rfl⟩ := irng_get hd
    have hi : i < g.length := by simpa using hi
    rw [List.getElem?_map, List.getElem?_range hi] at hy
    cases hy
    simp only [cName, List.set_cons_succ, List.set_cons_zero, List.getElem?_cons_zero, List.getElem?_cons_succ, Int.zero_add]
    refine ⟨rfl, g, rfl, by omega, ?_⟩
    simp only [wipeG, List.set_cons_succ, List.set_cons_zero]
    refine comp_listA _ trivial (by rw [irng_len]; simp) (by rw [irng_len]; simpa using hl) ?_ k
    intro j x y hx hy L1 L2 l1
    obtain ⟨hj, rfl⟩ := irng_get hx
    have hj : j < wid g := by simpa using hj
    rw [List.getElem?_map, List.getElem?_range hj] at hy
    cases hy
    simp only [cName, dYes, cond_true, dCall, dCons, dNil, gTup, dVar, List.set_cons_succ, List.set_cons_zero, List.getElem?_cons_zero, List.getElem?_cons_succ, List.length_cons, List.length_nil, Int.zero_add]
    exact ⟨by walk_at "sz", l1⟩
  · rw [hfl]
    exact FnEnd.here q
def unlX (ns : List Str) : Exn := ⟨.UnlikeOutcomes, [("names", tupS ns)]⟩
def asl (ns : List Str) : Prop := ∀ x ∈ ns, asc x
theorem NOk.asl {ns : List Str} (h : NOk ns) : DV.asl ns := fun _ hx => h.asc hx
def S_check_wishes (C : Cs) : DSp := fun ds μ Q E => ∃ g ns u ms v, ds = [tabD C g, wD C ns u, wD C ms v] ∧ TOk g ∧ asl ns ∧ asl ms ∧ (ns ≠ outs g → E (unlX ns) μ) ∧ (ns = outs g → ms ≠ outs g → E (unlX ms) μ) ∧ (ns = outs g → ms = outs g → Q .non μ)
def t_check_wishes (C : Cs) : DTS := dFor (dIter (dCall gTup (dCons (dVar 1) (dCons (dVar 2) (dNil))))) (dName 3) (dIf (dTest (dBin gNe (dProp C.W (S_W_outcomes C) (dVar 3)) (dProp C.T (S_T_outcomes C) (dVar 0)))) (dRaise .UnlikeOutcomes "names" (dProp C.W (S_W_outcomes C) (dVar 3))) (dNext))
theorem pu_strs (ws : List Str) : D.puL (ws.map .str) = true := by rw [puL_iff]; intro x hx; obtain ⟨z, _, rfl⟩ := List.mem_map.mp hx; rfl
theorem puF_one {f : Str} {d : D} (h : d.pu = true) : D.puF [(f, d)] = true := by simp [D.puF, h]
theorem rd_check_wishes {C : Cs} {n1 n2 n3 n4 : Str} : ∀ ds μ Q E, S_check_wishes C ds μ Q E → t_check_wishes C (dFn μ Q E) (start0 [n1, n2, n3, n4] ds) μ := by
  rintro _ μ Q E ⟨g, ns, u, ms, v, rfl, hg, a1, a2, q1, q2, q3⟩
  have ag := hg.nok.asl
  unfold t_check_wishes
  simp only [dFor, dIter, dCall, gTup, dCons, dNil, dVar, start0, List.map_cons, List.map_nil, List.length_cons, List.length_nil, List.replicate, List.cons_append, List.nil_append, List.getElem?_cons_zero, List.getElem?_cons_succ]
  refine ⟨by decide, trivial, ?_⟩
  simp only [dName, List.set_cons_zero, List.set_cons_succ, dIf, dTest, dBin, dProp, dVar, List.getElem?_cons_zero, List.getElem?_cons_succ]
  refine ⟨rfl, ns, u, rfl, rfl, g, rfl, ?_⟩
  obtain ⟨d1, d2⟩ := deq_tupS (μ := μ) a1 ag
  simp only [gNe]
  refine ⟨d1, ?_⟩
  have d2' : deq μ (tupS ns) (tupS (outs g)) = decide (ns = outs g) := d2
  rw [d2']
  by_cases h1 : ns = outs g
  · rw [decide_eq_true h1]
    simp only [Bool.not_true, cond_false, dNext]
    refine ⟨trivial, ?_⟩
    simp only [dName, List.set_cons_zero, List.set_cons_succ, dIf, dTest, dBin, dProp, dVar, List.getElem?_cons_zero, List.getElem?_cons_succ]
    refine ⟨rfl, ms, v, rfl, rfl, g, rfl, ?_⟩
    obtain ⟨e1, e2⟩ := deq_tupS (μ := μ) a2 ag
    simp only [gNe]
    refine ⟨e1, ?_⟩
    have e2' : deq μ (tupS ms) (tupS (outs g)) = decide (ms = outs g) := e2
    rw [e2']
    by_cases h2 : ms = outs g
    · rw [decide_eq_true h2]
      exact ⟨trivial, FnEnd.here (q3 h1 h2)⟩
    · rw [decide_eq_false h2]
      simp only [Bool.not_false, cond_true, dRaise, dProp, dVar, List.getElem?_cons_zero, List.getElem?_cons_succ]
      exact ⟨rfl, ms, v, rfl, FnExc.here (puF_one (pu_tupS ms)) (q2 h1 h2)⟩
  · rw [decide_eq_false h1]
    simp only [Bool.not_false, cond_true, dRaise, dProp, dVar, List.getElem?_cons_zero, List.getElem?_cons_succ]
    exact ⟨rfl, ns, u, rfl, FnExc.here (puF_one (pu_tupS ns)) (q1 h1)⟩
/-! table[cell], of any value -/
def S_T_ixX (C : Cs) : DSp := fun ds μ Q E => ∃ g v, ds = [tabD C g, v] ∧ TOk g ∧ ThingC μ v ∧ v.pu = true ∧ (∀ p, v = pairD p → p ∈ cellsG g → Q (.str (atc g p)) μ) ∧ (isCellB μ g v = false → E ⟨.BadCell, [("value", v)]⟩ μ)
theorem ixX_go {C : Cs} {g : List (List Str)} {p : Nat × Nat} {μ : Mu} {Q : D → Mu → Prop} {E : Exn → Mu → Prop} (hg : TOk g) (hp : p ∈ cellsG g) (q : Q (.str (atc g p)) μ) : S_T_ixX C [tabD C g, pairD p] μ Q E := by
  obtain ⟨h1, h2⟩ := mem_cells.mp hp
  refine ⟨g, pairD p, rfl, hg, ⟨⟨.tup, rfl⟩, fun a b h => ?_⟩, rfl, fun p' e _ => ?_, fun h => ?_⟩
  · cases h; exact ⟨⟨_, rfl⟩, ⟨_, rfl⟩⟩
  · have : p' = p := by
      obtain ⟨a, b⟩ := p; obtain ⟨c, d⟩ := p'
      unfold pairD at e
      simp only [D.tup.injEq, List.cons.injEq, D.int.injEq] at e
      ext <;> simp <;> omega
    subst this; exact q
  · exact absurd h (by
      rw [show isCellB μ g (pairD p) = true from decide_eq_true ⟨by omega, by omega, by omega, by omega⟩]; simp)
theorem rd_T_ixX {C : Cs} {n1 n2 : Str} : ∀ ds μ Q E, S_T_ixX C ds μ Q E → t_T_ix C (dFn μ Q E) (start0 [n1, n2] ds) μ := by
  rintro _ μ Q E ⟨g, v, rfl, hg, ht, hp, q1, q2⟩
  cases hb : isCellB μ g v with
  | true =>
    obtain ⟨i, j, ev, hi⟩ : ∃ i j : Int, v = .tup [.int i, .int j] ∧ (0 ≤ i ∧ i < g.length ∧ 0 ≤ j ∧ j < wid g) := by
      unfold isCellB at hb
      split at hb
      · rename_i i j e
        exact ⟨i, j, lk_tup e, of_decide_eq_true hb⟩
      · cases hb
    subst ev
    have e : D.tup [.int i, .int j] = pairD (i.toNat, j.toNat) := by
      unfold pairD
      rw [show ((i.toNat, j.toNat).1 : Int) = i from by simp; omega, show ((i.toNat, j.toNat).2 : Int) = j from by simp; omega]
    rw [e] at q1 ⊢
    have hm : (i.toNat, j.toNat) ∈ cellsG g := mem_cells.mpr ⟨by simp; omega, by simp; omega⟩
    exact rd_T_ix _ μ Q E ⟨g, i.toNat, j.toNat, rfl, by omega, by omega, hg.eq, q1 _ rfl hm⟩
  | false =>
    unfold t_T_ix
    simp only [dSeq, dIf, dNotT, dTest, dMethod, dVar, dCons, dNil, start0, List.map_cons, List.map_nil, List.length_cons, List.length_nil, List.replicate, Nat.sub_self, List.append_nil, List.cons_append, List.nil_append, List.getElem?_cons_zero, List.getElem?_cons_succ]
    refine ⟨⟨rfl, rfl⟩, g, _, rfl, ht, ?_⟩
    rw [hb]
    simp only [Bool.not_false, cond_true, dRaise, dVar, List.getElem?_cons_zero, List.getElem?_cons_succ]
    exact FnExc.here (puF_one hp) (q2 hb)
/-! improvements -/
def impr (g : List (List Str)) (u v : Str → Int) (p q : Nat × Nat) : Bool := cond (decide (q.1 = p.1)) (decide (v (atc g p) < v (atc g q))) (decide (q.2 = p.2) && decide (u (atc g p) < u (atc g q)))
def better (g : List (List Str)) (u v : Str → Int) (p : Nat × Nat) : List (Nat × Nat) := (cellsG g).filter (impr g u v p)
def S_is_improvement (C : Cs) : DSp := fun ds μ Q _ => ∃ g u v p q, ds = [tabD C g, wD C (outs g) u, wD C (outs g) v, pairD p, pairD q] ∧ TOk g ∧ p ∈ cellsG g ∧ q ∈ cellsG g ∧ Q (.bl (impr g u v p q)) μ
def t_is_improvement (C : Cs) : DTS := dSeq (dIf (dTest (dBin gEq (dBin gIx (dVar 4) (dC (.int 0))) (dBin gIx (dVar 3) (dC (.int 0))))) (dRet (dMethod C.W "prefers" (S_W_prefers C) (dVar 2) (dCons (dOwnIx C.T (S_T_ixX C) (dVar 0) (dVar 4)) (dCons (dOwnIx C.T (S_T_ixX C) (dVar 0) (dVar 3)) (dNil))))) (dNext)) (dRet (dAnd (dBin gEq (dBin gIx (dVar 4) (dC (.int 1))) (dBin gIx (dVar 3) (dC (.int 1)))) (dMethod C.W "prefers" (S_W_prefers C) (dVar 1) (dCons (dOwnIx C.T (S_T_ixX C) (dVar 0) (dVar 4)) (dCons (dOwnIx C.T (S_T_ixX C) (dVar 0) (dVar 3)) (dNil))))))
theorem pair_ix0 {p : Nat × Nat} {μ : Mu} {Q : D → Mu → Prop} : gIx (pairD p) (.int 0) μ Q = Q (.int p.1) μ := rfl
theorem pair_ix1 {p : Nat × Nat} {μ : Mu} {Q : D → Mu → Prop} : gIx (pairD p) (.int 1) μ Q = Q (.int p.2) μ := rfl
theorem dec_cast (a b : Nat) : decide ((a : Int) = (b : Int)) = decide (a = b) := by
  by_cases h : a = b
  · subst h; simp
  · rw [decide_eq_false h, decide_eq_false (by omega)]
theorem w_own {μ : Mu} {C : Cs} {ns : List Str} {u : Str → Int} {m : Str} (h : m ≠ "likes") : isIns μ C.W m (wD C ns u) := by
  refine ⟨rfl, ?_⟩
  show List.lookup m [((Str.ofString "likes" : Str), _)] = none
  rw [List.lookup_cons]
  have : (m == (Str.ofString "likes" : Str)) = false := by simpa using h
  rw [this]; rfl
theorem rd_is_improvement {C : Cs} {n1 n2 n3 n4 n5 : Str} : ∀ ds μ Q E, S_is_improvement C ds μ Q E → t_is_improvement C (dFn μ Q E) (start0 [n1, n2, n3, n4, n5] ds) μ := by
  rintro _ μ Q E ⟨g, u, v, p, q, rfl, hg, hp, hq, k⟩
  have op := hg.ato hp
  have oq := hg.ato hq
  unfold t_is_improvement
  try dsimp only
  rw [dSeq]
  simp only [dIf, dTest, dBin, dVar, dC, start0, List.map_cons, List.map_nil, List.length_cons, List.length_nil, List.replicate, Nat.sub_self, List.append_nil, List.getElem?_cons_zero, List.getElem?_cons_succ, pair_ix0, gEq, deq_int, dec_cast]
  refine ⟨deqOk_int _ _ _, ?_⟩
  unfold impr at k
  by_cases h : q.1 = p.1
  · rw [decide_eq_true h] at k ⊢
    simp only [cond_true, dRet, dMethod, dCons, dNil, dVar, List.getElem?_cons_zero, List.getElem?_cons_succ, dOwnIx] at k ⊢
    refine ⟨w_own (by decide +kernel), rfl, ixX_go hg hq ?_⟩
    refine ⟨rfl, ixX_go hg hp ?_⟩
    exact ⟨outs g, v, _, _, rfl, oq, op, FnEnd.here k⟩
  · rw [decide_eq_false h] at k ⊢
    simp only [cond_false, dNext, dRet, dAnd, dBin, dVar, dC, List.getElem?_cons_zero, List.getElem?_cons_succ, pair_ix1, gEq, deq_int, dec_cast] at k ⊢
    refine ⟨deqOk_int _ _ _, ?_⟩
    by_cases h2 : q.2 = p.2
    · rw [decide_eq_true h2] at k ⊢
      simp only [Bool.true_and, dMethod, dCons, dNil, dVar, List.getElem?_cons_zero, List.getElem?_cons_succ, dOwnIx] at k ⊢
      refine ⟨w_own (by decide +kernel), rfl, ixX_go hg hq ?_⟩
      refine ⟨rfl, ixX_go hg hp ?_⟩
      exact ⟨outs g, u, _, _, rfl, oq, op, FnEnd.here k⟩
    · rw [decide_eq_false h2] at k ⊢
      exact FnEnd.here k
def S_better_cells (C : Cs) : DSp := fun ds μ Q _ => ∃ g u v p, ds = [tabD C g, wD C (outs g) u, wD C (outs g) v, pairD p] ∧ TOk g ∧ p ∈ cellsG g ∧ Q (.lst ((better g u v p).map pairD)) μ
def t_better_cells (C : Cs) : DTS := dRet (dComp true [4] (dIter (dOp (S_cells_of C) (dCons (dVar 0) (dNil)))) (cName 4) (dTest (dOp (S_is_improvement C) (dCons (dVar 0) (dCons (dVar 1) (dCons (dVar 2) (dCons (dVar 3) (dCons (dVar 4) (dNil)))))))) (dVar 4))
theorem rd_better_cells {C : Cs} {n1 n2 n3 n4 n5 : Str} : ∀ ds μ Q E, S_better_cells C ds μ Q E → t_better_cells C (dFn μ Q E) (start0 [n1, n2, n3, n4, n5] ds) μ := by
  rintro _ μ Q E ⟨g, u, v, p, rfl, hg, hp, k⟩
  unfold t_better_cells
  simp only [dRet, dComp, dIter, dOp, dCons, dNil, dVar, start0, List.map_cons, List.map_nil, List.length_cons, List.length_nil, List.replicate, List.cons_append, List.nil_append, List.getElem?_cons_zero]
  refine ⟨g, rfl, hg, ?_⟩
  simp only [wipeG, List.set_cons_succ, List.set_cons_zero]
  have hle := hg.cl
  refine comp_filtA (src := none) pairD (impr g u v p) trivial (by simp) _ _ (by simp only [List.length_nil]; omega) (fun q hq K kk => ?_) ?_
  · simp only [dTest, dOp, dCons, dNil, dVar, List.set_cons_succ, List.set_cons_zero, List.getElem?_cons_zero, List.getElem?_cons_succ]
    exact ⟨g, u, v, p, q, rfl, hg, hp, hq, kk⟩
  · exact FnEnd.here k
end DV
namespace DV
open PySem PySem.Spec PyProof.Rows L2
/-! The laws' own wishes and looks. -/
def SeeS (ρ : Mu) (d : D) (ns : List Str) : Prop := ∀ c loc, seqOf (O c (ρ ++ loc)) d = some (ns.map .str)
theorem SeeS.tup {ρ : Mu} {ns : List Str} : SeeS ρ (tupS ns) ns := fun _ _ => rfl
theorem SeeS.lst {ρ : Mu} {ns : List Str} : SeeS ρ (.lst (ns.map .str)) ns := fun _ _ => rfl
theorem sq_list {μ : Mu} {d : D} {xs : List D} {fz : Bool} (h : seqOf μ d = some xs) (Q : D → Mu → Prop) : gList fz [d] μ Q = dFin fz xs μ Q := by
  unfold seqOf at h
  unfold gList
  dsimp only
  split at h
  · rename_i ys e; cases h; rw [e]
  · rename_i ys e; cases h; rw [e]
  · cases h
theorem take_B {c : Nat} {ρ : Mu} {m : Int} {Q : D → Mu → Prop} {E : Exn → Mu → Prop} (hc : 0 < c) (hm : 0 < m) (hm2 : m.natAbs.log2 < 9000) (q : ∀ c' d, c ≤ c' + 1 → 0 ≤ d → d < m → Q (.int d) (O c' ρ)) : S_take [.ref 0, .int m] (O c ρ) Q E :=
  ⟨0, c - 1, m, rfl, by show some (Cell.orc (c, false)) = _; rw [show c - 1 + 1 = c from by omega], hm, hm2, fun d h1 h2 => q _ d (by omega) h1 h2⟩
def S_l_likes : DSp := fun ds μ Q _ => ∃ c ρ d ns, ds = [.ref 0, d] ∧ μ = O c ρ ∧ SeeS ρ d ns ∧ NOk ns ∧ 13 ≤ c ∧ ((∀ c' ks u, c ≤ c' + 13 → ks.Perm ns → Q (.dct (lkL ks u)) (O c' ρ)) ∨ (∀ c' ks u, c ≤ c' + 13 → ks.Perm ns → Q (.ref (ρ.length + 1)) (O c' (ρ ++ [.dct (lkL ks u)]))))
def t_l_likes : DTS := dSeq (dAsg (dBin gIx (dCall gLst (dCons (dC (.int 2)) (dCons (dC (.int 3)) (dCons (dC (.int 6)) (dCons (dBin gPow (dC (.int 10)) (dC (.int 20))) (dNil)))))) (dOp S_take (dCons (dVar 0) (dCons (dC (.int 4)) (dNil))))) (dName 2)) (dSeq (dAsg (dDict0) (dName 3)) (dSeq (dFor (dIter (dOp S_shuffled (dCons (dVar 0) (dCons (dCall (gList true) (dCons (dVar 1) dNil)) (dNil))))) (dName 4) (dAsg (dBin (gI fun i j => .int (i - j)) (dOp S_take (dCons (dVar 0) (dCons (dVar 2) (dNil)))) (dBin gFdiv (dVar 2) (dC (.int 2)))) (dSetD (dVar 3) (dVar 4)))) (dRet (dVar 3))))
theorem NOk.perm {ns ks : List Str} (h : NOk ns) (p : ks.Perm ns) : NOk ks := ⟨p.nodup_iff.mpr h.nd, by rw [p.length_eq]; exact h.l1, by rw [p.length_eq]; exact h.l6, fun x hx => h.ok x (p.mem_iff.mp hx)⟩
theorem nodup_take {ks : List Str} (h : ks.Nodup) {i : Nat} (hi : i < ks.length) : ks[i] ∉ ks.take i := fun z => by
  obtain ⟨j, hj, e⟩ := List.getElem_of_mem z
  have hj2 : j < i := by have := hj; simp at this; omega
  rw [List.getElem_take] at e
  have := (List.getElem?_inj (i := j) (j := i) (by omega) h).mp (by rw [List.getElem?_eq_getElem (by omega), List.getElem?_eq_getElem hi, e])
  omega
theorem perm_strs {ys : List D} {ns : List Str} (h : ys.Perm (ns.map .str)) : ∃ ks : List Str, ys = ks.map .str ∧ ks.Perm ns := by
  have hs : ∀ y ∈ ys, ∃ x, y = .str x := fun y hy => by
    obtain ⟨x, _, rfl⟩ := List.mem_map.mp (h.mem_iff.mp hy)
    exact ⟨x, rfl⟩
  let f : D → Str := fun d => match d with | .str x => x | _ => Str.empty
  have e : ys = (ys.map f).map .str := by
    rw [List.map_map]
    conv => lhs; rw [← List.map_id ys]
    refine List.map_congr_left fun y hy => ?_
    obtain ⟨x, rfl⟩ := hs y hy
    rfl
  refine ⟨ys.map f, e, ?_⟩
  have := h.map f
  rw [List.map_map] at this
  have e2 : ns.map (f ∘ D.str) = ns := by
    conv => rhs; rw [← List.map_id ns]
    exact List.map_congr_left fun y _ => rfl
  rwa [e2] at this
theorem rd_l_likes {n1 n2 n3 n4 n5 : Str} : ∀ ds μ Q E, S_l_likes ds μ Q E → t_l_likes (dFn μ Q E) (start0 [n1, n2, n3, n4, n5] ds) μ := by
  rintro _ _ Q E ⟨c, ρ, d, ns, rfl, rfl, hd, hn, hc, q⟩
  have n6 := hn.l6
  unfold t_l_likes
  try dsimp only
  rw [dSeq]
  simp only [dAsg, dBin, dCall, gLst, dCons, dNil, dC, dVar, dOp, gPow, start0, List.map_cons, List.map_nil, List.length_cons, List.length_nil, List.replicate, List.cons_append, List.nil_append, List.getElem?_cons_zero, List.getElem?_cons_succ]
  refine ⟨by decide, by decide, take_B (by omega) (by decide) (by decide +kernel) fun c1 k h1 hk0 hk1 => ?_⟩
  obtain ⟨m, em, hm0, hm1⟩ : ∃ m : Int, atI [D.int 2, D.int 3, D.int 6, D.int (10 ^ (20 : Int).toNat)] k = some (.int m) ∧ 0 < m ∧ m.natAbs.log2 < 9000 := by
    have : k = 0 ∨ k = 1 ∨ k = 2 ∨ k = 3 := by omega
    rcases this with rfl | rfl | rfl | rfl
    · exact ⟨2, rfl, by decide, by decide +kernel⟩
    · exact ⟨3, rfl, by decide, by decide +kernel⟩
    · exact ⟨6, rfl, by decide, by decide +kernel⟩
    · exact ⟨_, rfl, by decide +kernel, by decide +kernel⟩
  simp only [gIx, lk, em, dName, List.set_cons_succ, List.set_cons_zero]
  try dsimp only
  rw [dSeq]
  simp only [dAsg, dDict0, dName, List.set_cons_succ, List.set_cons_zero, List.length_cons]
  try dsimp only
  rw [dSeq]
  simp only [dFor, dIter, dOp, dCons, dNil, dCall, dVar, List.getElem?_cons_zero, List.getElem?_cons_succ]
  have eO : (Cell.orc (c1, false) :: ρ ++ [Cell.dct []] : Mu) = O c1 (ρ ++ [.dct []]) := rfl
  rw [eO, sq_list (hd c1 [.dct []])]
  simp only [dFin]
  refine ⟨c1, ρ ++ [.dct []], _, ns.map .str, rfl, rfl, .inl rfl, pu_strs ns, by rw [List.length_map]; omega, by rw [List.length_map]; omega, fun c2 ys h2 hp => ?_⟩
  obtain ⟨ks, rfl, pk⟩ := perm_strs hp
  have hk := hn.perm pk
  rw [List.length_map] at h2
  have lk6 := hk.l6
  have lke := pk.length_eq
  dsimp only
  refine loop_inv (src := none) (fun i Γ μ' => ∃ c' u a, c2 ≤ c' + i ∧ i ≤ ks.length ∧ Γ = [some (.ref 0), some d, some (.int m), some (.ref (ρ.length + 1)), a] ∧ μ' = O c' (ρ ++ [.dct (lkL (ks.take i) u)])) ⟨c2, fun _ => 0, none, by omega, by omega, rfl, by simp [lkL]⟩ ?_ ?_
  · rintro i x Γ μ' hx ⟨c', u, a, b1, b2, rfl, rfl⟩
    refine ⟨trivial, fun Kn kn => ?_⟩
    have hlt : i < ks.length := by have := (List.getElem?_eq_some_iff.mp hx).1; simpa using this
    rw [List.getElem?_map, List.getElem?_eq_getElem hlt] at hx
    cases hx
    have hnn := nodup_take hk.nd hlt
    have et : ks.take (i + 1) = ks.take i ++ [ks[i]] := List.take_succ_eq_append_getElem hlt
    generalize ks[i] = w at hnn et
    simp only [dName, List.set_cons_zero, List.set_cons_succ, dAsg, dBin, dOp, dCons, dNil, dVar, dC, List.getElem?_cons_zero, List.getElem?_cons_succ]
    refine take_B (by omega) hm0 hm1 fun c3 t h3 _ _ => ?_
    simp only [gFdiv, gI, dSetD, dVar, List.getElem?_cons_zero, List.getElem?_cons_succ, keyOfD]
    refine ⟨⟨by decide, by decide +kernel⟩, ?_⟩
    rw [get_a0]
    dsimp only
    refine ⟨by rw [lk_len, List.length_take, sizeLine_eq]; omega, ?_⟩
    rw [show (O c3 (ρ ++ [.dct (lkL (ks.take i) u)])).set (ρ.length + 1) (.dct (putKD (lkL (ks.take i) u) (.inr w) (.int (t - m / 2)))) = O c3 (ρ ++ [.dct (putKD (lkL (ks.take i) u) (.inr w) (.int (t - m / 2)))]) from by rw [List.set_cons_succ, set_a0], lk_put hnn, lk_snoc hnn, ← et]
    exact kn _ _ ⟨c3, _, _, by omega, hlt, rfl, rfl⟩
  · rintro Γ μ' ⟨c', u, a, b1, b2, rfl, rfl⟩
    refine ⟨trivial, ?_⟩
    rw [List.length_map] at b1 b2 ⊢
    rw [List.take_length]
    simp only [dRet, dVar, List.getElem?_cons_zero, List.getElem?_cons_succ]
    rcases q with q | q
    · exact .inr ⟨O c' ρ, [.dct (lkL ks u)], rfl, upd_O, .inr (.inr (.inr (.inr (.inr (.inl ⟨0, lkL ks u, by simp, rfl, pu_lk ks u, q c' ks u (by omega) pk⟩)))))⟩
    · exact FnEnd.here (q c' ks u (by omega) pk)
/-- a loop that changes no cell, by turns -/
theorem loop_pass' {src : Option (Nat × List D)} {g : DTG} {body : DTS} {De : DEnds} {μ : Mu} (P : Nat → Gam → Prop) (hG : Gd src μ) {ds : List D} {Γ : Gam} (h0 : P 0 Γ)
    (hs : ∀ (i : Nat) d Γ, ds[i]? = some d → P i Γ → ∀ Kn : Gam → Mu → Prop, (∀ Γ', P (i + 1) Γ' → Kn Γ' μ) → g d Γ μ (fun Γ1 μ1 => body { De with nx := Kn, ct := Kn, bk := De.nx } Γ1 μ1) (fun e μ1 => De.ex e Γ μ1)) (he : ∀ Γ, P ds.length Γ → De.nx Γ μ) : dLoop src g body ds De Γ μ := by
  refine loop_inv (fun i Γ μ' => P i Γ ∧ μ' = μ) ⟨h0, rfl⟩ ?_ ?_
  · rintro i d Γ μ' hd ⟨hP, rfl⟩
    exact ⟨hG, fun Kn kn => hs i d Γ hd hP Kn fun Γ' h => kn Γ' _ ⟨h, rfl⟩⟩
  · rintro Γ μ' ⟨hP, rfl⟩
    exact ⟨hG, he Γ hP⟩
/-! cells -/
def S_l_cells : DSp := fun ds μ Q _ => ∃ g, ds = [gridD g] ∧ TOk g ∧ Q (.lst ((cellsG g).map pairD)) μ
def t_l_cells : DTS := dSeq (dAsg (dCall gLst (dNil)) (dName 1)) (dSeq (dFor (dRange1 (dCall gLen (dCons (dVar 0) dNil))) (dName 2) (dAsg (dBin gAdd (dVar 1) (dComp true [3] (dRange1 (dCall gLen (dCons (dBin gIx (dVar 0) (dC (.int 0))) dNil))) (cName 3) (dYes) (dCall gTup (dCons (dVar 2) (dCons (dVar 3) (dNil)))))) (dName 1))) (dRet (dVar 1)))
theorem grid_len {g : List (List Str)} {μ : Mu} {Q : D → Mu → Prop} : gLen [gridD g] μ Q = Q (.int g.length) μ := by
  unfold gLen gridD; simp [lk]
theorem grid_wid {g : List (List Str)} {μ : Mu} {Q : D → Mu → Prop} (hg : TOk g) : gIx (gridD g) (.int 0) μ (fun x μ1 => gLen [x] μ1 Q) = Q (.int (wid g)) μ := by
  obtain ⟨s, h1, h2⟩ := tok_get0 hg
  rw [show gIx (gridD g) (.int 0) μ = fun Q' => Q' (.lst (s.map .str)) μ from funext fun Q' => sq_ix (d := gridD g) (xs := g.map fun s => .lst (s.map .str)) rfl (i := 0) (x := .lst (s.map .str)) (by rw [List.getElem?_map, h1]; rfl) Q']
  show gLen [.lst (s.map .str)] μ Q = _
  unfold gLen; simp [lk, h2]
def cellsTo (g : List (List Str)) (i : Nat) : List (Nat × Nat) := (List.range i).flatMap fun r => (List.range (wid g)).map fun c => (r, c)
theorem cellsTo_succ {g : List (List Str)} {i : Nat} : cellsTo g (i + 1) = cellsTo g i ++ (List.range (wid g)).map fun c => (i, c) := by
  unfold cellsTo; rw [List.range_succ, List.flatMap_append]; simp
theorem cellsTo_len {g : List (List Str)} {i : Nat} : (cellsTo g i).length = i * wid g := by
  unfold cellsTo
  rw [List.length_flatMap]
  simp only [List.length_map, List.length_range]
  rw [List.map_const', List.length_range, List.sum_replicate_nat]
theorem rd_l_cells {n1 n2 n3 n4 : Str} : ∀ ds μ Q E, S_l_cells ds μ Q E → t_l_cells (dFn μ Q E) (start0 [n1, n2, n3, n4] ds) μ := by
  rintro _ μ Q E ⟨g, rfl, hg, q⟩
  have a1 := hg.h2
  have a2 := hg.w2
  unfold t_l_cells
  try dsimp only
  rw [dSeq]
  simp only [dAsg, dCall, dNil, gLst, start0, List.map_cons, List.map_nil, List.length_cons, List.length_nil, List.replicate, List.cons_append, List.nil_append]
  refine ⟨by decide, ?_⟩
  simp only [dName, List.set_cons_succ, List.set_cons_zero]
  try dsimp only
  rw [dSeq]
  simp only [dFor, dRange1, dCall, dCons, dNil, dVar, List.getElem?_cons_zero, grid_len]
  refine ⟨by omega, ?_⟩
  refine loop_pass' (src := none) (μ := μ) (fun i Γ => ∃ a b, i ≤ g.length ∧ Γ = [some (gridD g), some (.lst ((cellsTo g i).map pairD)), a, b]) trivial ⟨_, _, Nat.zero_le _, rfl⟩ ?_ ?_
  · rintro i d Γ hd ⟨a, b, hi, rfl⟩ Kn kn
    obtain ⟨hlt, rfl⟩ := irng_get hd
    have hlt : i < g.length := by simpa using hlt
    simp only [dName, List.set_cons_succ, List.set_cons_zero, dAsg, dBin, dComp, dRange1, dCall, dCons, dNil, dC, dVar, List.getElem?_cons_zero, List.getElem?_cons_succ, grid_wid hg]
    refine ⟨by omega, ?_⟩
    simp only [wipeG, List.set_cons_succ, List.set_cons_zero]
    refine comp_listA (((List.range (wid g)).map fun c => (i, c)).map pairD) trivial (by rw [irng_len]; simp) (by rw [irng_len, sizeLine_eq]; simp only [List.length_nil]; omega) ?_ ?_
    · intro j x y hx hy L1 L2 l1
      obtain ⟨hj, rfl⟩ := irng_get hx
      have hj : j < wid g := by simpa using hj
      rw [List.getElem?_map, List.getElem?_map, List.getElem?_range hj] at hy
      cases hy
      simp only [cName, dYes, cond_true, dCall, dCons, dNil, gTup, dVar, List.set_cons_succ, List.set_cons_zero, List.getElem?_cons_zero, List.getElem?_cons_succ, List.length_cons, List.length_nil, Int.zero_add]
      exact ⟨by walk_at "sz", l1⟩
    · simp only [dFin, List.nil_append, gAdd, lk]
      refine ⟨by
        rw [List.length_map, List.length_map, List.length_map, cellsTo_len, List.length_range, sizeLine_eq]
        have : i * wid g ≤ 8 * 8 := Nat.mul_le_mul (by omega) a2
        omega, ?_⟩
      rw [← List.map_append, ← cellsTo_succ]
      exact kn _ ⟨_, _, hlt, rfl⟩
  · rintro Γ ⟨a, b, hi, rfl⟩
    rw [irng_len]
    exact FnEnd.here q
/-! better cells -/
def LSee (μ : Mu) (d : D) (ks : List Str) (u : Str → Int) (ms : List Str) (v : Str → Int) : Prop := ∀ loc, ∃ x y, lk (μ ++ loc) d = .lst [x, y] ∧ lk (μ ++ loc) x = .dct (lkL ks u) ∧ lk (μ ++ loc) y = .dct (lkL ms v)
def S_l_better : DSp := fun ds μ Q _ => ∃ g d ks u ms v p, ds = [gridD g, d, pairD p] ∧ TOk g ∧ LSee μ d ks u ms v ∧ (∀ x ∈ outs g, x ∈ ks) ∧ (∀ x ∈ outs g, x ∈ ms) ∧ p ∈ cellsG g ∧ Q (.lst ((better g u v p).map pairD)) μ
def t_l_better : DTS := dSeq (dAsg (dCall gLstM (dNil)) (dName 3)) (dSeq (dAsg (dBin gIx (dBin gIx (dVar 0) (dBin gIx (dVar 2) (dC (.int 0)))) (dBin gIx (dVar 2) (dC (.int 1)))) (dName 4)) (dSeq (dFor (dRange1 (dCall gLen (dCons (dVar 0) dNil))) (dName 5) (dFor (dRange1 (dCall gLen (dCons (dBin gIx (dVar 0) (dC (.int 0))) dNil))) (dName 6) (dSeq (dAsg (dBin gIx (dBin gIx (dVar 0) (dVar 5)) (dVar 6)) (dName 7)) (dSeq (dIf (dAndT (dTest (dBin gNe (dVar 5) (dBin gIx (dVar 2) (dC (.int 0))))) (dAndT (dTest (dBin gEq (dVar 6) (dBin gIx (dVar 2) (dC (.int 1))))) (dTest (dBin (gI fun i j => .bl (decide (j < i))) (dBin gDGet (dBin gIx (dVar 1) (dC (.int 0))) (dVar 7)) (dBin gDGet (dBin gIx (dVar 1) (dC (.int 0))) (dVar 4)))))) (dDrop (dCellM cAppend (dVar 3) (dCons (dCall gTup (dCons (dVar 5) (dCons (dVar 6) (dNil)))) dNil))) (dNext)) (dIf (dAndT (dTest (dBin gEq (dVar 5) (dBin gIx (dVar 2) (dC (.int 0))))) (dAndT (dTest (dBin gNe (dVar 6) (dBin gIx (dVar 2) (dC (.int 1))))) (dTest (dBin (gI fun i j => .bl (decide (j < i))) (dBin gDGet (dBin gIx (dVar 1) (dC (.int 1))) (dVar 7)) (dBin gDGet (dBin gIx (dVar 1) (dC (.int 1))) (dVar 4)))))) (dDrop (dCellM cAppend (dVar 3) (dCons (dCall gTup (dCons (dVar 5) (dCons (dVar 6) (dNil)))) dNil))) (dNext)))))) (dRet (dVar 3))))
theorem lt_row {g : List (List Str)} {u v : Str → Int} {p : Nat × Nat} {i j : Nat} : ((cellsTo g i ++ (List.range (j + 1)).map fun c => (i, c)).filter (impr g u v p)) = ((cellsTo g i ++ (List.range j).map fun c => (i, c)).filter (impr g u v p)) ++ cond (impr g u v p (i, j)) [(i, j)] [] := by
  rw [List.range_succ, List.map_append, ← List.append_assoc, List.filter_append]
  congr 1
theorem rd_l_better {n1 n2 n3 n4 n5 n6 n7 n8 : Str} : ∀ ds μ Q E, S_l_better ds μ Q E → t_l_better (dFn μ Q E) (start0 [n1, n2, n3, n4, n5, n6, n7, n8] ds) μ := by
  rintro _ μ Q E ⟨g, d, ks, u, ms, v, p, rfl, hg, hd, hk, hm, hp, q⟩
  have a1 := hg.h2
  have a2 := hg.w2
  obtain ⟨p1, p2⟩ := mem_cells.mp hp
  have op := hg.ato hp
  unfold t_l_better
  try dsimp only
  rw [dSeq]
  simp only [dAsg, dCall, dNil, gLstM, start0, List.map_cons, List.map_nil, List.length_cons, List.length_nil, List.replicate, List.cons_append, List.nil_append]
  refine ⟨by decide, ?_⟩
  simp only [dName, List.set_cons_succ, List.set_cons_zero]
  try dsimp only
  rw [dSeq]
  simp only [dAsg, dBin, dC, dVar, List.getElem?_cons_zero, List.getElem?_cons_succ, pair_ix0, pair_ix1]
  rw [grid_ix p1 p2 hg.eq]
  simp only [dName, List.set_cons_succ, List.set_cons_zero]
  try dsimp only
  rw [dSeq]
  simp only [dFor, dRange1, dCall, dCons, dNil, dVar, List.getElem?_cons_zero, grid_len]
  refine ⟨by omega, ?_⟩
  have bnd : ∀ i j : Nat, i < g.length → j ≤ wid g → ((cellsTo g i ++ (List.range j).map fun c => (i, c)).filter (impr g u v p)).length ≤ 100 := fun i j hi hj => by
    refine Nat.le_trans (List.length_filter_le _ _) ?_
    rw [List.length_append, cellsTo_len, List.length_map, List.length_range]
    have : i * wid g ≤ 8 * 8 := Nat.mul_le_mul (by omega) a2
    omega
  refine loop_inv (src := none) (fun i Γ μ' => ∃ a b e, i ≤ g.length ∧ Γ = [some (gridD g), some d, some (pairD p), some (.ref μ.length), some (.str (atc g p)), a, b, e] ∧ μ' = μ ++ [.lst (((cellsTo g i).filter (impr g u v p)).map pairD)]) ⟨_, _, _, Nat.zero_le _, rfl, rfl⟩ ?_ ?_
  · rintro i x Γ μ' hx ⟨a, b, e, hi, rfl, rfl⟩
    refine ⟨trivial, fun Kn kn => ?_⟩
    obtain ⟨hlt, rfl⟩ := irng_get hx
    have hlt : i < g.length := by simpa using hlt
    simp only [dName, List.set_cons_succ, List.set_cons_zero, dFor, dRange1, dBin, dC, dCall, dCons, dNil, dVar, List.getElem?_cons_zero, grid_wid hg]
    refine ⟨by omega, ?_⟩
    refine loop_inv (src := none) (fun j Γ μ' => ∃ b e, j ≤ wid g ∧ Γ = [some (gridD g), some d, some (pairD p), some (.ref μ.length), some (.str (atc g p)), some (.int (0 + (i : Int))), b, e] ∧ μ' = μ ++ [.lst (((cellsTo g i ++ (List.range j).map fun c => (i, c)).filter (impr g u v p)).map pairD)]) ⟨_, _, Nat.zero_le _, rfl, by simp⟩ ?_ ?_
    · rintro j x Γ μ' hx ⟨b, e, hj, rfl, rfl⟩
      refine ⟨trivial, fun Kn kn => ?_⟩
      obtain ⟨hjt, rfl⟩ := irng_get hx
      have hjt : j < wid g := by simpa using hjt
      have hq : (i, j) ∈ cellsG g := mem_cells.mpr ⟨hlt, hjt⟩
      have oq := hg.ato hq
      have hb := bnd i j hlt (by omega)
      have nxt : ∀ b e, (cond (impr g u v p (i, j)) (dCellM cAppend (dVar 3) (dCons (dCall gTup (dCons (dVar 5) (dCons (dVar 6) (dNil)))) dNil) [some (gridD g), some d, some (pairD p), some (.ref μ.length), some (.str (atc g p)), some (.int (0 + (i : Int))), some (.int (0 + (j : Int))), e] (μ ++ [.lst (((cellsTo g i ++ (List.range j).map fun c => (i, c)).filter (impr g u v p)).map pairD)]) (fun _ μ1 => Kn [some (gridD g), some d, some (pairD p), some (.ref μ.length), some (.str (atc g p)), some (.int (0 + (i : Int))), some (.int (0 + (j : Int))), e] μ1) b)
          (Kn [some (gridD g), some d, some (pairD p), some (.ref μ.length), some (.str (atc g p)), some (.int (0 + (i : Int))), some (.int (0 + (j : Int))), e] (μ ++ [.lst (((cellsTo g i ++ (List.range j).map fun c => (i, c)).filter (impr g u v p)).map pairD)]))) := fun b e => by
        cases hI : impr g u v p (i, j) with
        | false =>
          refine kn _ _ ⟨_, _, hjt, rfl, ?_⟩
          rw [lt_row, hI]; simp
        | true =>
          simp only [cond_true, dCellM, dCall, dCons, dNil, gTup, dVar, List.getElem?_cons_zero, List.getElem?_cons_succ, get_a0, List.length_cons, List.length_nil]
          refine ⟨by walk_at "sz", ?_⟩
          rw [append_at (by rw [List.length_map]; omega)]
          dsimp only
          rw [set_a0]
          refine kn _ _ ⟨_, _, hjt, rfl, ?_⟩
          rw [lt_row, hI, List.map_append]
          simp [pairD]
      generalize hA : (cellsTo g i ++ (List.range j).map fun c => (i, c)).filter (impr g u v p) = acc at nxt hb
      obtain ⟨x0, y0, l0, l1, l2⟩ := hd [.lst (acc.map pairD)]
      have u1 := lk_val (u := u) (hk _ op)
      have u2 := lk_val (u := u) (hk _ oq)
      have v1 := lk_val (u := v) (hm _ op)
      have v2 := lk_val (u := v) (hm _ oq)
      simp only [dName, List.set_cons_succ, List.set_cons_zero]
      try dsimp only
      rw [dSeq]
      simp only [dAsg, dBin, dVar, List.getElem?_cons_zero, List.getElem?_cons_succ]
      rw [show (0 + (i : Int)) = (i : Int) from by omega, show (0 + (j : Int)) = (j : Int) from by omega] at *
      rw [grid_ix hlt hjt hg.eq]
      simp only [dName, List.set_cons_succ, List.set_cons_zero]
      have i0 : atI [x0, y0] 0 = some x0 := rfl
      have i1 : atI [x0, y0] 1 = some y0 := rfl
      try dsimp only
      rw [dSeq]
      have ti : ∀ {a b : Nat}, ((a : Int) = (b : Int)) ↔ a = b := by intro a b; omega
      simp only [dIf, dAndT, dTest, dBin, dC, dVar, List.getElem?_cons_zero, List.getElem?_cons_succ, pair_ix0, pair_ix1, gNe, gEq, deq_int, dec_cast]
      refine ⟨deqOk_int _ _ _, ?_⟩
      unfold impr at nxt
      dsimp only at nxt
      by_cases h1 : i = p.1
      · rw [decide_eq_true h1] at nxt ⊢
        simp only [Bool.not_true, cond_false, dNext, cond_true] at nxt ⊢
        simp only [dIf, dAndT, dTest, dBin, dC, dVar, List.getElem?_cons_zero, List.getElem?_cons_succ, pair_ix0, pair_ix1, gNe, gEq, deq_int, dec_cast]
        refine ⟨deqOk_int _ _ _, ?_⟩
        rw [decide_eq_true h1]
        simp only [cond_true]
        refine ⟨deqOk_int _ _ _, ?_⟩
        by_cases h2 : j = p.2
        · rw [decide_eq_true h2]
          simp only [Bool.not_true, cond_false, dNext]
          have := nxt (fun _ _ => True) (some (.str (cell g i j)))
          have e : atc g (i, j) = atc g p := by rw [h1, h2]
          rw [e, decide_eq_false (by omega)] at this
          exact this
        · rw [decide_eq_false h2]
          simp only [Bool.not_false, cond_true, gIx, l0, i1, gDGet, l2, keyOfD]
          rw [show (Sum.inr (cell g i j) : Key) = Sum.inr (atc g (i, j)) from rfl, v2, v1]
          simp only [gI]
          exact nxt _ _
      · rw [decide_eq_false h1] at nxt ⊢
        simp only [Bool.not_false, cond_true, cond_false] at nxt ⊢
        refine ⟨deqOk_int _ _ _, ?_⟩
        have skip : ∀ {Γ : Gam} {μ' : Mu} {De : DEnds} {T : DTS}, Γ[5]? = some (some (.int (i : Int))) → Γ[2]? = some (some (pairD p)) → De.nx Γ μ' → dIf (dAndT (dTest (dBin gEq (dVar 5) (dBin gIx (dVar 2) (dC (.int 0))))) (dAndT (dTest (dBin gNe (dVar 6) (dBin gIx (dVar 2) (dC (.int 1))))) (dTest (dBin (gI fun i j => .bl (decide (j < i))) (dBin gDGet (dBin gIx (dVar 1) (dC (.int 1))) (dVar 7)) (dBin gDGet (dBin gIx (dVar 1) (dC (.int 1))) (dVar 4)))))) T dNext De Γ μ' := fun {Γ μ' De T} e5 e2 k => by
          simp only [dIf, dAndT, dTest, dBin, dC, dVar, e5, e2, pair_ix0, gEq, deq_int, dec_cast]
          refine ⟨deqOk_int _ _ _, ?_⟩
          rw [decide_eq_false h1]
          exact k
        by_cases h2 : j = p.2
        · rw [decide_eq_true h2] at nxt ⊢
          simp only [cond_true, Bool.true_and] at nxt ⊢
          simp only [gIx, l0, i0, gDGet, l1, keyOfD]
          rw [show (Sum.inr (cell g i j) : Key) = Sum.inr (atc g (i, j)) from rfl, u2, u1]
          simp only [gI]
          cases hI : decide (u (atc g p) < u (atc g (i, j))) with
          | false =>
            rw [hI] at nxt
            simp only [cond_false, dNext]
            exact skip rfl rfl (nxt (fun _ _ => True) _)
          | true =>
            rw [hI] at nxt
            simp only [cond_true, dDrop]
            have z := nxt (fun _ _ => False) (some (.str (cell g i j)))
            simp only [cond_true, dCellM, dCall, dCons, dNil, gTup, dVar, List.getElem?_cons_zero, List.getElem?_cons_succ, get_a0, List.length_cons, List.length_nil] at z ⊢
            obtain ⟨z1, z2⟩ := z
            refine ⟨z1, ?_⟩
            rw [append_at (by rw [List.length_map]; omega)] at z2 ⊢
            exact skip rfl rfl z2
        · rw [decide_eq_false h2] at nxt ⊢
          simp only [cond_false, dNext, Bool.false_and] at nxt ⊢
          exact skip rfl rfl (nxt (fun _ _ => True) _)
    · rintro Γ μ' ⟨b, e, hj, rfl, rfl⟩
      refine ⟨trivial, kn _ _ ⟨_, _, _, hlt, rfl, ?_⟩⟩
      rw [irng_len, cellsTo_succ]; rfl
  · rintro Γ μ' ⟨a, b, e, hi, rfl, rfl⟩
    refine ⟨trivial, ?_⟩
    rw [irng_len]
    simp only [dRet, dVar, List.getElem?_cons_zero, List.getElem?_cons_succ]
    refine .inr ⟨μ, _, rfl, Upd.refl μ, .inr (.inr (.inr (.inl ⟨0, _, by simp, rfl, ?_, q⟩)))⟩
    rw [puL_iff]
    intro x hx
    obtain ⟨z, _, rfl⟩ := List.mem_map.mp hx
    rfl
end DV
namespace DV
open PySem PySem.Spec PyProof.Rows L2
/-! words without zz9; the wishes that a law draws; unlike outcomes. -/
abbrev ZZ : Str := Str.ofString "zz9"
theorem menus_z : ∀ L ∈ menus, ZZ ∉ L := by
  have h : menus.all (fun L => decide (ZZ ∉ L)) = true := by decide +kernel
  intro L hL
  exact of_decide_eq_true (List.all_eq_true.mp h L hL)
def S_wordsZ : DSp := fun ds μ Q _ => ∃ c ρ, ds = [.ref 0] ∧ μ = O c ρ ∧ 7 ≤ c ∧ ∀ c' W, c ≤ c' + 7 → WOk W → ZZ ∉ W → Q (.lst (W.map .str)) (O c' ρ)
theorem rd_wordsZ {n1 n2 : Str} : ∀ ds μ Q E, S_wordsZ ds μ Q E → t_words (dFn μ Q E) (start0 [n1, n2] ds) μ := by
  rintro _ _ Q E ⟨c, ρ, rfl, rfl, hc, q⟩
  unfold t_words
  walk_at "dv"
  refine ⟨by walk_at "sz", by walk_at "sz", by walk_at "sz", ?_⟩
  walk_at "ix"
  refine ⟨by walk_at "sz", ?_⟩
  rw [append_at (by simp)]
  dsimp only
  walk_at "ix"
  refine ⟨by walk_at "sz", ?_⟩
  rw [append_at (by simp)]
  dsimp only
  walk_at "ix"
  refine take_O (by omega) (by decide) (by decide) fun c1 t g1 g2 g3 => ?_
  walk_at "ix"
  have key : ∀ L ∈ menus, S_shuffled [.ref 0, .lst (L.map .str)] (O c1 (ρ ++ [.lst (menus.map fun L => .lst (L.map .str))])) (dFn (O c ρ) Q E).rt (fun x μ1 => (dFn (O c ρ) Q E).ex x [some (.ref 0), some (.ref (ρ.length + 1))] μ1) := fun L hL => by
    have ok := menus_ok L hL
    refine ⟨c1, _, _, _, rfl, rfl, .inl rfl, ?_, by rw [List.length_map, ok.len]; decide, by rw [List.length_map, ok.len]; omega, fun c' ys h1 h2 => ?_⟩
    · rw [puL_iff]; intro x hx; obtain ⟨s, _, rfl⟩ := List.mem_map.mp hx; rfl
    · obtain ⟨W, rfl, hp⟩ := perm_map_inv h2 rfl
      rw [List.length_map, ok.len] at h1
      have : O c' (ρ ++ [Cell.lst (menus.map fun L => .lst (L.map .str))]) = O c' ρ ++ [Cell.lst (menus.map fun L => .lst (L.map .str))] := by simp
      rw [this]
      refine .inr ⟨O c' ρ, _, rfl, ⟨rfl, fun i c => ?_⟩, .inl ⟨?_, q c' W (by omega) ⟨by rw [hp.length_eq, ok.len], hp.nodup_iff.mpr ok.nd, fun x hx => ok.ok x (hp.mem_iff.mp hx)⟩ fun z => menus_z L hL (hp.mem_iff.mp z)⟩⟩
      · cases i with
        | zero => intro h; cases h; exact .inr rfl
        | succ i => intro h; exact .inl h
      · show D.puL _ = true
        rw [puL_iff]; intro x hx; obtain ⟨s, _, rfl⟩ := List.mem_map.mp hx; rfl
  have ht : t = 0 ∨ t = 1 ∨ t = 2 ∨ t = 3 := by omega
  rcases ht with rfl | rfl | rfl | rfl
  · exact key menus[0] (by decide)
  · exact key menus[1] (by decide)
  · exact key menus[2] (by decide)
  · exact key menus[3] (by decide)
theorem nodup_set {ns : List Str} {x : Str} (h : ns.Nodup) (hx : x ∉ ns) : ∀ (i : Nat), (ns.set i x).Nodup := by
  induction ns with
  | nil => intro i; exact h
  | cons a ns ih =>
    rw [List.nodup_cons] at h
    intro i
    cases i with
    | zero => rw [List.set_cons_zero, List.nodup_cons]; exact ⟨fun z => hx (List.mem_cons_of_mem _ z), h.2⟩
    | succ i =>
      rw [List.set_cons_succ, List.nodup_cons]
      refine ⟨fun z => ?_, ih h.2 (fun z => hx (List.mem_cons_of_mem _ z)) i⟩
      rcases List.mem_or_eq_of_mem_set z with z | z
      · exact h.1 z
      · exact hx (z ▸ List.mem_cons_self)
theorem zz_valid : validN ZZ = true := by decide +kernel
theorem lkO {c : Nat} {ρ : Mu} {xs : List D} : lk (O c (ρ ++ [.lst xs])) (.ref (ρ.length + 1)) = .lst xs := by
  unfold lk; simp
theorem getO {c : Nat} {ρ : Mu} {x : Cell} : (O c (ρ ++ [x]))[ρ.length + 1]? = some x := by
  rw [List.getElem?_cons_succ]; exact get_a0
theorem setO {c : Nat} {ρ : Mu} {x y : Cell} : (O c (ρ ++ [x])).set (ρ.length + 1) y = O c (ρ ++ [y]) := by
  rw [List.set_cons_succ, set_a0]
section
variable {De : DEnds} {a0 a1 a3 a4 a7 : Option D} {W ns : List Str} {ρ : Mu} {c : Nat} {pl : Int}
theorem ws3 (hW : WOk W) (hz : ZZ ∉ W) (hn : NOk ns) (hs : ∀ x ∈ ns, x ∈ W) (k : ∀ ns', NOk ns' → (∀ x ∈ ns', x ∈ W) → De.nx [a0, a1, some (.lst (W.map .str)), a3, a4, some (.ref (ρ.length + 1)), some (.int pl), a7] (O c (ρ ++ [.lst (ns'.map .str)]))) :
    dIf (dAndT (dTest (dBin gEq (dVar 6) (dC (.int 0)))) (dTest (dBin (gI fun i j => .bl (decide (i < j))) (dCall gLen (dCons (dVar 5) dNil)) (dC (.int 6))))) (dDrop (dCellM cAppend (dVar 5) (dCons (dBin gIx (dComp true [7] (dIter (dVar 2)) (cName 7) (dTest (dBin (gIn true) (dVar 7) (dVar 5))) (dVar 7)) (dC (.int 0))) dNil))) (dNext) De [a0, a1, some (.lst (W.map .str)), a3, a4, some (.ref (ρ.length + 1)), some (.int pl), a7] (O c (ρ ++ [.lst (ns.map .str)])) := by
  simp only [dIf, dAndT, dTest, dBin, dC, dVar, List.getElem?_cons_zero, List.getElem?_cons_succ, gEq, deq_int]
  refine ⟨deqOk_int _ _ _, ?_⟩
  by_cases h0 : pl = 0
  · rw [decide_eq_true h0]
    simp only [cond_true, dCall, dCons, dNil, dVar, List.getElem?_cons_zero, List.getElem?_cons_succ, gLen, lkO, gI, List.length_map]
    by_cases h6 : (ns.length : Int) < 6
    · rw [decide_eq_true h6]
      simp only [cond_true, dDrop, dCellM, dVar, List.getElem?_cons_zero, List.getElem?_cons_succ, get_a0, dCons, dNil, dComp, dIter, wipeG, List.set_cons_zero, List.set_cons_succ]
      refine comp_filtS (src := none) (fun x => decide (x ∉ ns)) trivial W (by rw [wipeG_len]; simp) (by rw [hW.len]; decide) (fun x hx K kk => ?_) ?_
      · simp only [dTest, dBin, gIn, dVar, wipeG, List.set_cons_zero, List.set_cons_succ, List.getElem?_cons_zero, List.getElem?_cons_succ]
        rw [lkO]
        dsimp only
        refine ⟨⟨rfl, flat_strs' _⟩, ?_⟩
        rw [inF_strs]
        simpa using kk
      · simp only [dFin]
        obtain ⟨w, r, e⟩ : ∃ w r, W.filter (fun x => decide (x ∉ ns)) = w :: r := by
          cases e : W.filter (fun x => decide (x ∉ ns)) with
          | cons w r => exact ⟨w, r, rfl⟩
          | nil =>
            exfalso
            have : ∀ x ∈ W, x ∈ ns := fun x hx => by
              have := List.filter_eq_nil_iff.mp e x hx
              simpa using this
            have := nodup_sub_len hW.nd this
            rw [hW.len] at this
            omega
        have hw : w ∈ W.filter (fun x => decide (x ∉ ns)) := by rw [e]; exact List.mem_cons_self
        rw [List.mem_filter, decide_eq_true_eq] at hw
        rw [e, List.map_cons]
        simp only [dC, gIx, lk, atI_zero]
        rw [getO]
        dsimp only
        rw [append_at (by rw [List.length_map]; omega)]
        dsimp only
        rw [setO]
        rw [show (ns.map D.str ++ [D.str w]) = (ns ++ [w]).map .str from by simp]
        refine k (ns ++ [w]) ⟨?_, by simp, by simp; omega, fun x hx => ?_⟩ fun x hx => ?_
        · rw [List.nodup_append]
          exact ⟨hn.nd, by simp, fun a ha b hb z => by rw [List.mem_singleton.mp hb] at z; exact hw.2 (z ▸ ha)⟩
        · rcases List.mem_append.mp hx with h | h
          · exact hn.ok x h
          · rw [List.mem_singleton.mp h]; exact hW.ok w hw.1
        · rcases List.mem_append.mp hx with h | h
          · exact hs x h
          · rw [List.mem_singleton.mp h]; exact hw.1
    · rw [decide_eq_false h6]
      exact k ns hn hs
  · rw [decide_eq_false h0]
    exact k ns hn hs
theorem ws4 (hn : NOk ns) (hs : ∀ x ∈ ns, x ∈ W) (hc : 0 < c) (k : ∀ c' ns', c ≤ c' + 1 → NOk ns' → (∀ x ∈ ns', x ∈ W) → De.nx [some (.ref 0), a1, some (.lst (W.map .str)), a3, a4, some (.ref (ρ.length + 1)), some (.int pl), a7] (O c' (ρ ++ [.lst (ns'.map .str)]))) :
    dIf (dAndT (dTest (dBin gEq (dVar 6) (dC (.int 1)))) (dTest (dBin (gI fun i j => .bl (decide (j < i))) (dCall gLen (dCons (dVar 5) dNil)) (dC (.int 1))))) (dDrop (dCellM cPop (dVar 5) (dCons (dOp S_take (dCons (dVar 0) (dCons (dCall gLen (dCons (dVar 5) dNil)) (dNil)))) dNil))) (dNext) De [some (.ref 0), a1, some (.lst (W.map .str)), a3, a4, some (.ref (ρ.length + 1)), some (.int pl), a7] (O c (ρ ++ [.lst (ns.map .str)])) := by
  simp only [dIf, dAndT, dTest, dBin, dC, dVar, List.getElem?_cons_zero, List.getElem?_cons_succ, gEq, deq_int]
  refine ⟨deqOk_int _ _ _, ?_⟩
  have n6 := hn.l6
  by_cases h0 : pl = 1
  · rw [decide_eq_true h0]
    simp only [cond_true, dCall, dCons, dNil, dVar, List.getElem?_cons_zero, List.getElem?_cons_succ, gLen, lkO, gI, List.length_map]
    by_cases h6 : (1 : Int) < ns.length
    · rw [decide_eq_true h6]
      simp only [cond_true, dDrop, dCellM, dVar, List.getElem?_cons_zero, List.getElem?_cons_succ, get_a0, dCons, dNil, dOp, dCall, gLen, lkO, List.length_map]
      refine take_O hc (by omega) (by omega) fun c' t h1 t0 t1 => ?_
      rw [getO]
      dsimp only
      obtain ⟨y, e1, e2⟩ := pop_at (xs := ns.map D.str) t0 (by rw [List.length_map]; omega) (by rw [List.length_map]; omega)
      rw [e2]
      dsimp only
      rw [setO]
      have e3 : (ns.map D.str).eraseIdx t.toNat = (ns.eraseIdx t.toNat).map .str := by
        have hl : ∀ (l : List Str) (i : Nat), (l.map D.str).eraseIdx i = (l.eraseIdx i).map .str := by
          intro l
          induction l with
          | nil => intro i; rfl
          | cons x l ih => intro i; cases i with
            | zero => rfl
            | succ i => simp [ih]
        exact hl _ _
      rw [e3]
      have sub := List.eraseIdx_sublist ns t.toNat
      refine k c' _ h1 ⟨sub.nodup hn.nd, ?_, Nat.le_trans sub.length_le n6, fun x hx => hn.ok x (sub.subset hx)⟩ fun x hx => hs x (sub.subset hx)
      rw [List.length_eraseIdx]
      split <;> omega
    · rw [decide_eq_false h6]
      exact k c ns (by omega) hn hs
  · rw [decide_eq_false h0]
    exact k c ns (by omega) hn hs
theorem ws5 (hn : NOk ns) (hz : ZZ ∉ ns) (hc : 0 < c) (k : ∀ c' ns', c ≤ c' + 1 → NOk ns' → De.nx [some (.ref 0), a1, some (.lst (W.map .str)), a3, a4, some (.ref (ρ.length + 1)), some (.int pl), a7] (O c' (ρ ++ [.lst (ns'.map .str)]))) :
    dIf (dTest (dBin gEq (dVar 6) (dC (.int 2)))) (dAsg (dC (.str "zz9")) (dSetI (dVar 5) (dOp S_take (dCons (dVar 0) (dCons (dCall gLen (dCons (dVar 5) dNil)) (dNil)))))) (dNext) De [some (.ref 0), a1, some (.lst (W.map .str)), a3, a4, some (.ref (ρ.length + 1)), some (.int pl), a7] (O c (ρ ++ [.lst (ns.map .str)])) := by
  simp only [dIf, dTest, dBin, dC, dVar, List.getElem?_cons_zero, List.getElem?_cons_succ, gEq, deq_int]
  refine ⟨deqOk_int _ _ _, ?_⟩
  have n6 := hn.l6
  have n1 := hn.l1
  by_cases h0 : pl = 2
  · rw [decide_eq_true h0]
    simp only [cond_true, dAsg, dC, dSetI, dVar, List.getElem?_cons_zero, List.getElem?_cons_succ, dOp, dCons, dNil, dCall, gLen, lkO, List.length_map]
    refine take_O hc (by omega) (by omega) fun c' t h1 t0 t1 => ?_
    dsimp only
    rw [getO]
    dsimp only
    rw [List.length_map, ixN_nat t0 t1]
    dsimp only
    rw [setO, show (ns.map D.str).set t.toNat (D.str ZZ) = (ns.set t.toNat ZZ).map .str from by rw [List.map_set]]
    refine k c' _ h1 ⟨?_, by rw [List.length_set]; exact n1, by rw [List.length_set]; exact n6, fun x hx => ?_⟩
    · exact nodup_set hn.nd hz _
    · rcases List.mem_or_eq_of_mem_set hx with h | h
      · exact hn.ok x h
      · rw [h]; exact zz_valid
  · rw [decide_eq_false h0]
    exact k c ns (by omega) hn
end
def S_l_wishes : DSp := fun ds μ Q _ => ∃ c ρ g W, ds = [.ref 0, gridD g, .lst (W.map .str)] ∧ μ = O c ρ ∧ GB W 8 g ∧ WOk W ∧ ZZ ∉ W ∧ 40 ≤ c ∧ ∀ c' ks u ms v, c ≤ c' + 40 → NOk ks → NOk ms → Q (.lst [.dct (lkL ks u), .dct (lkL ms v)]) (O c' ρ)
def t_l_wishes_2 : DTS := dRet (dVar 3)
def t_l_wishes_1 : DTS := dSeq (dFor (dRange1 (dC (.int 2))) (dName 4) (dSeq (dAsg (dCall (gList false) (dCons (dOp S_l_names (dCons (dVar 1) (dNil))) dNil)) (dName 5)) (dSeq (dAsg (dOp S_take (dCons (dVar 0) (dCons (dC (.int 16)) (dNil)))) (dName 6)) (dSeq (dIf (dAndT (dTest (dBin gEq (dVar 6) (dC (.int 0)))) (dTest (dBin (gI fun i j => .bl (decide (i < j))) (dCall gLen (dCons (dVar 5) dNil)) (dC (.int 6))))) (dDrop (dCellM cAppend (dVar 5) (dCons (dBin gIx (dComp true [7] (dIter (dVar 2)) (cName 7) (dTest (dBin (gIn true) (dVar 7) (dVar 5))) (dVar 7)) (dC (.int 0))) dNil))) (dNext)) (dSeq (dIf (dAndT (dTest (dBin gEq (dVar 6) (dC (.int 1)))) (dTest (dBin (gI fun i j => .bl (decide (j < i))) (dCall gLen (dCons (dVar 5) dNil)) (dC (.int 1))))) (dDrop (dCellM cPop (dVar 5) (dCons (dOp S_take (dCons (dVar 0) (dCons (dCall gLen (dCons (dVar 5) dNil)) (dNil)))) dNil))) (dNext)) (dSeq (dIf (dTest (dBin gEq (dVar 6) (dC (.int 2)))) (dAsg (dC (.str "zz9")) (dSetI (dVar 5) (dOp S_take (dCons (dVar 0) (dCons (dCall gLen (dCons (dVar 5) dNil)) (dNil)))))) (dNext)) (dDrop (dCellM cAppend (dVar 3) (dCons (dOp S_l_likes (dCons (dVar 0) (dCons (dVar 5) (dNil)))) dNil))))))))) (t_l_wishes_2)
def t_l_wishes : DTS := dSeq (dAsg (dCall gLstM (dNil)) (dName 3)) (t_l_wishes_1)
theorem rd_l_wishes {n1 n2 n3 n4 n5 n6 n7 n8 : Str} : ∀ ds μ Q E, S_l_wishes ds μ Q E → t_l_wishes (dFn μ Q E) (start0 [n1, n2, n3, n4, n5, n6, n7, n8] ds) μ := by
  rintro _ _ Q E ⟨c, ρ, g, W, rfl, rfl, hb, hW, hz, hc, q⟩
  have hg := hb.tok hW
  have hn := hg.nok
  have hs : ∀ x ∈ outs g, x ∈ W := fun x hx => by
    obtain ⟨r, hr, hxr⟩ := outs_mem.mp hx
    exact hb.mem r hr x hxr
  have n6' := hn.l6
  unfold t_l_wishes
  try dsimp only
  rw [dSeq]
  simp only [dAsg, dCall, dNil, gLstM, start0, List.map_cons, List.map_nil, List.length_cons, List.length_nil, List.replicate, List.cons_append, List.nil_append]
  refine ⟨by decide, ?_⟩
  simp only [dName, List.set_cons_succ, List.set_cons_zero]
  unfold t_l_wishes_1
  try dsimp only
  rw [dSeq]
  simp only [dFor, dRange1, dC]
  refine ⟨by decide, ?_⟩
  refine loop_inv (src := none) (fun i Γ μ' => ∃ c' acc junk a4 a5 a6, c ≤ c' + 16 * i ∧ i ≤ 2 ∧ acc.length = i ∧ (∀ d ∈ acc, ∃ ks u, d = .dct (lkL ks u) ∧ NOk ks) ∧ Γ = [some (.ref 0), some (gridD g), some (.lst (W.map .str)), some (.ref (ρ.length + 1)), a4, a5, a6, none] ∧ μ' = O c' (ρ ++ .lst acc :: junk)) ⟨c, [], [], none, none, none, by omega, by omega, rfl, (fun _ h => by cases h), rfl, rfl⟩ ?_ ?_
  · rintro i d Γ μ' hd ⟨c1, acc, junk, a4, a5, a6, b1, b2, ha, hacc, rfl, rfl⟩
    refine ⟨trivial, fun Kn kn => ?_⟩
    obtain ⟨hi, rfl⟩ := irng_get hd
    have hi : i < 2 := hi
    simp only [dName, List.set_cons_succ, List.set_cons_zero]
    generalize hρ : ρ ++ Cell.lst acc :: junk = ρ1
    try dsimp only
    rw [dSeq]
    simp only [dAsg, dCall, dOp, dCons, dNil, dVar, List.getElem?_cons_zero, List.getElem?_cons_succ]
    refine ⟨g, rfl, hg, ?_⟩
    dsimp only
    rw [sq_list (d := tupS (outs g)) (xs := (outs g).map .str) rfl]
    simp only [dFin, dName, List.set_cons_succ, List.set_cons_zero, List.length_cons]
    try dsimp only
    rw [dSeq]
    simp only [dAsg, dOp, dCons, dNil, dC, dVar, List.getElem?_cons_zero, List.getElem?_cons_succ]
    rw [show (Cell.orc (c1, false) :: ρ1 ++ [Cell.lst ((outs g).map .str)] : Mu) = O c1 (ρ1 ++ [.lst ((outs g).map .str)]) from rfl]
    refine take_O (by omega) (by decide) (by decide) fun c2 pl h2 _ _ => ?_
    simp only [dName, List.set_cons_succ, List.set_cons_zero]
    try dsimp only
    rw [dSeq]
    refine ws3 hW hz hn hs fun ns3 hn3 hs3 => ?_
    try dsimp only
    rw [dSeq]
    refine ws4 hn3 hs3 (by omega) fun c4 ns4 h4 hn4 hs4 => ?_
    try dsimp only
    rw [dSeq]
    refine ws5 hn4 (fun z => hz (hs4 _ z)) (by omega) fun c5 ns5 h5 hn5 => ?_
    subst hρ
    have g1 : ∀ c x, (O c (ρ ++ Cell.lst acc :: junk ++ [x]))[ρ.length + 1]? = some (.lst acc) := fun c x => by
      rw [List.getElem?_cons_succ, List.append_assoc, List.cons_append]; exact get_a0
    simp only [dDrop, dCellM, dVar, List.getElem?_cons_zero, List.getElem?_cons_succ, dCons, dNil, dOp]
    rw [← List.getElem?_cons_succ (a := Cell.orc (c5, false)), g1]
    dsimp only
    refine ⟨c5, _, _, ns5, rfl, rfl, (fun c' loc => by unfold seqOf lk; simp), hn5, by omega, .inl fun c6 ks u h6 pk => ?_⟩
    dsimp only
    rw [g1]
    dsimp only
    rw [append_at (by omega)]
    dsimp only
    rw [show (O c6 (ρ ++ Cell.lst acc :: junk ++ [Cell.lst (ns5.map .str)])).set (ρ.length + 1) (.lst (acc ++ [.dct (lkL ks u)])) = O c6 (ρ ++ Cell.lst (acc ++ [.dct (lkL ks u)]) :: (junk ++ [Cell.lst (ns5.map .str)])) from by rw [List.set_cons_succ, List.append_assoc, List.cons_append, set_a0]]
    refine kn _ _ ⟨c6, _, _, _, _, _, by omega, by omega, by simp [ha], fun d hd => ?_, rfl, rfl⟩
    rcases List.mem_append.mp hd with h | h
    · exact hacc d h
    · rw [List.mem_singleton.mp h]; exact ⟨ks, u, rfl, hn5.perm pk⟩
  · rintro Γ μ' ⟨c1, acc, junk, a4, a5, a6, b1, b2, ha, hacc, rfl, rfl⟩
    refine ⟨trivial, ?_⟩
    have ha : acc.length = 2 := ha
    have b1 : c ≤ c1 + 16 * 2 := b1
    obtain ⟨x, y, rfl⟩ : ∃ x y, acc = [x, y] := by
      match acc, ha with
      | [x, y], _ => exact ⟨x, y, rfl⟩
    obtain ⟨ks, u, rfl, hk⟩ := hacc x (by simp)
    obtain ⟨ms, v, rfl, hm⟩ := hacc y (by simp)
    unfold t_l_wishes_2
    simp only [dRet, dVar, List.getElem?_cons_zero, List.getElem?_cons_succ]
    refine .inr ⟨O c1 ρ, Cell.lst [.dct (lkL ks u), .dct (lkL ms v)] :: junk, rfl, upd_O, .inr (.inr (.inr (.inl ⟨0, _, by simp, rfl, ?_, q c1 ks u ms v (by omega) hk hm⟩)))⟩
    simp only [D.puL, D.pu, pu_lk, Bool.and_self]
def likD (p : List Str × (Str → Int)) : D := .dct (lkL p.1 p.2)
def unl1 (g : List (List Str)) (p : List Str × (Str → Int)) : Option D := if sortS p.1 = outs g then none else some (.tup [.str "unlike", tupS (sortS p.1)])
def unlD (g : List (List Str)) (L : List (List Str × (Str → Int))) : Option D := L.findSome? (unl1 g)
def S_l_unlike : DSp := fun ds μ Q _ => ∃ g L, ds = [gridD g, .lst (L.map likD)] ∧ TOk g ∧ (∀ p ∈ L, NOk p.1) ∧ Q ((unlD g L).getD .non) μ
def t_l_unlike : DTS := dSeq (dFor (dIter (dVar 1)) (dName 2) (dIf (dTest (dBin gNe (dCall gTuple (dCons (dCall (gSortedD true) (dCons (dVar 2) dNil)) dNil)) (dOp S_l_names (dCons (dVar 0) (dNil))))) (dRet (dCall gTup (dCons (dC (.str "unlike")) (dCons (dCall gTuple (dCons (dCall (gSortedD true) (dCons (dVar 2) dNil)) dNil)) (dNil))))) (dNext))) (dRet (dC .non))
theorem rd_l_unlike {n1 n2 n3 : Str} : ∀ ds μ Q E, S_l_unlike ds μ Q E → t_l_unlike (dFn μ Q E) (start0 [n1, n2, n3] ds) μ := by
  rintro _ μ Q E ⟨g, L, rfl, hg, hL, q⟩
  have ag := hg.nok.asl
  unfold t_l_unlike
  try dsimp only
  rw [dSeq]
  simp only [dFor, dIter, dVar, start0, List.map_cons, List.map_nil, List.length_cons, List.length_nil, List.replicate, List.cons_append, List.nil_append, List.getElem?_cons_zero, List.getElem?_cons_succ]
  refine loop_search (src := none) (fun Γ => ∃ a, Γ = [some (gridD g), some (.lst (L.map likD)), a]) likD (unl1 g) trivial L _ ⟨_, rfl⟩ ?_ ?_ ?_
  · rintro p hp Γ ⟨a, rfl⟩ Kn k1 k2
    have hk := hL p hp
    have k6 := hk.l6
    simp only [dName, List.set_cons_succ, List.set_cons_zero, dIf, dTest, dBin, dCall, dCons, dNil, dVar, List.getElem?_cons_zero, List.getElem?_cons_succ, gSortedD, lk, likD, lk_keys, dFin]
    refine ⟨by omega, ?_⟩
    simp only [gTuple, lk, dOp, dCons, dNil, dVar, List.getElem?_cons_zero, List.getElem?_cons_succ]
    refine ⟨g, rfl, hg, ?_⟩
    obtain ⟨d1, d2⟩ := deq_tupS (μ := μ) hk.sort.asl ag
    simp only [gNe]
    refine ⟨d1, ?_⟩
    have d2' : deq μ (.tup ((sortS p.1).map .str)) (tupS (outs g)) = decide (sortS p.1 = outs g) := d2
    rw [d2']
    unfold unl1 at k1 k2
    by_cases h : sortS p.1 = outs g
    · rw [if_pos h] at k2
      rw [decide_eq_true h]
      exact k2 rfl _ ⟨_, rfl⟩
    · rw [if_neg h] at k1
      rw [decide_eq_false h]
      simp only [Bool.not_false, cond_true, dRet, dCall, dCons, dNil, dC, dVar, List.getElem?_cons_zero, List.getElem?_cons_succ, gSortedD, lk, lk_keys, dFin]
      refine ⟨by omega, ?_⟩
      simp only [gTuple, lk, gTup, List.length_cons, List.length_nil]
      exact ⟨by walk_at "sz", k1 _ rfl⟩
  · intro r hr
    refine FnEnd.here ?_
    unfold unlD at q
    rw [hr] at q; exact q
  · rintro hr Γ ⟨a, rfl⟩
    refine FnEnd.here ?_
    unfold unlD at q
    rw [hr] at q; exact q
end DV
local macro_rules | `(tactic| walk_at "dv") => `(tactic| try simp only [DV.dSeq, DV.dIf, DV.dOrT, DV.dAndT, DV.dNotT, DV.dTest, DV.dChain, DV.dC, DV.dCall, DV.gLen, DV.dCons, DV.dVar, DV.dNil, DV.dBin, DV.dUn, DV.gNeg, DV.gIn, DV.gIx, DV.dRet, DV.dRetN, DV.dNext, DV.dFor, DV.dIter, DV.dName, DV.lk, DV.dAsg, DV.dDrop, DV.gLst, DV.gTup, DV.gLstM, DV.gAdd, DV.gI, DV.gMod, DV.gMul, DV.gFdiv, DV.gPow, DV.gAbs, DV.gInt, DV.gList, DV.gTuple, DV.dOp, DV.dOpK, DV.dIsi, DV.tyD, DV.gIs, DV.gIsNot, DV.D.isN, DV.dJoin, DV.dCellM, DV.dSetI, DV.dSlice, DV.dPart, DV.dNoPart, DV.dRevA, DV.dFin, DV.dAugI, DV.dComp, DV.wipeG, DV.cName, DV.cPair, DV.dYes, DV.dRange1, DV.dRange2, DV.dAnd, DV.dOr, DV.dNot, DV.dIfE, DV.gEq, DV.gNe, DV.sgn_one, DV.atI_zero, DV.dTruth, DV.truD, DV.dBreak, DV.dCont, DV.gSorted, DV.dSortK, DV.dRevT, DV.gInD, DV.gIsB, DV.gStr, DV.dPop0, DV.dDict, DV.dPairs, DV.keysD, DV.keyOfD, DV.dFinD, DV.dFld, DV.dSetF, DV.dMake, DV.dMethod, DV.dProp, DV.dOwnIx, DV.dNever, DV.dRaise, DV.dRaise0, DV.gMulM, DV.gAddM, DV.gMax2, DV.dPair, DV.gDGet, DV.dSetD, DV.dDict0, DV.dComp2, DV.dSortSC, DV.isIns, DV.insOf,
  List.getElem?_cons_zero, List.getElem?_cons_succ, List.set_cons_zero, List.set_cons_succ, List.map_cons, List.map_nil, List.length_cons, List.length_nil, List.replicate, Nat.sub_self, List.append_nil, List.cons_append, List.nil_append, DV.start0, if_true, if_false, Bool.not_true, Bool.not_false, Bool.false_eq_true, Bool.true_and, Bool.and_true, Bool.or_true, Bool.true_or, Bool.false_or, Bool.or_false, eq_self_iff_true, not_true_eq_false, not_false_eq_true, ite_true, ite_false, cond_true, cond_false])
namespace DV
open PySem PySem.Spec PyProof.Rows L2
/-! Plain facts: smooth and firm by rows; what keeps a table's kind. -/
/-- firm, by rows -/
def Fm (g : List (List Str)) : Prop := ∀ S : Str → Prop, (∃ r ∈ g, ∀ x ∈ r, S x) ∨ ∃ j, j < wid g ∧ ∀ r ∈ g, ¬ S (r.getD j Str.empty)
theorem getD_mem {g : List (List Str)} (h : TOk g) {r : List Str} (hr : r ∈ g) {j : Nat} (hj : j < wid g) : r.getD j Str.empty ∈ r := by
  have : j < r.length := by rw [h.eq r hr]; exact hj
  rw [List.getD_eq_getElem?_getD, List.getElem?_eq_getElem this]
  exact List.getElem_mem _
theorem flip_flip_row {g : List (List Str)} (h : TOk g) {c : List Str} (hc : c ∈ flip g) {i : Nat} (hi : i < g.length) : ∃ k, k < wid g ∧ c = g.map (fun r => r.getD k Str.empty) ∧ c.getD i Str.empty = cell g i k := by
  unfold flip at hc
  obtain ⟨k, hk, rfl⟩ := List.mem_map.mp hc
  refine ⟨k, List.mem_range.mp hk, rfl, ?_⟩
  rw [List.getD_eq_getElem?_getD, List.getElem?_map, List.getElem?_eq_getElem hi]
  unfold cell
  rw [show g.getD i [] = g[i] from by rw [List.getD_eq_getElem?_getD, List.getElem?_eq_getElem hi]; rfl]; rfl
theorem Fm.flip {g : List (List Str)} (h : TOk g) (hf : Fm g) : Fm (flip g) := by
  intro S
  rcases hf (fun x => ¬ S x) with ⟨r, hr, hx⟩ | ⟨j, hj, hx⟩
  · obtain ⟨i, hi, rfl⟩ := List.getElem_of_mem hr
    refine .inr ⟨i, by rw [flip_wid h.w1]; exact hi, fun c hc => ?_⟩
    obtain ⟨k, hk, _, e⟩ := flip_flip_row h hc hi
    rw [e]
    unfold cell
    rw [show g.getD i [] = g[i] from by rw [List.getD_eq_getElem?_getD, List.getElem?_eq_getElem hi]; rfl]
    exact hx _ (getD_mem h hr hk)
  · refine .inl ⟨_, List.mem_map.mpr ⟨j, List.mem_range.mpr hj, rfl⟩, fun x hx2 => ?_⟩
    obtain ⟨r, hr, rfl⟩ := List.mem_map.mp hx2
    exact Classical.not_not.mp (hx r hr)
end DV
local macro_rules | `(tactic| walk_at "dv") => `(tactic| try simp only [DV.dSeq, DV.dIf, DV.dOrT, DV.dAndT, DV.dNotT, DV.dTest, DV.dChain, DV.dC, DV.dCall, DV.gLen, DV.dCons, DV.dVar, DV.dNil, DV.dBin, DV.dUn, DV.gNeg, DV.gIn, DV.gIx, DV.dRet, DV.dRetN, DV.dNext, DV.dFor, DV.dIter, DV.dName, DV.lk, DV.dAsg, DV.dDrop, DV.gLst, DV.gTup, DV.gLstM, DV.gAdd, DV.gI, DV.gMod, DV.gMul, DV.gFdiv, DV.gPow, DV.gAbs, DV.gInt, DV.gList, DV.gTuple, DV.dOp, DV.dOpK, DV.dIsi, DV.tyD, DV.gIs, DV.gIsNot, DV.D.isN, DV.dJoin, DV.dCellM, DV.dSetI, DV.dSlice, DV.dPart, DV.dNoPart, DV.dRevA, DV.dFin, DV.dAugI, DV.dComp, DV.wipeG, DV.cName, DV.cPair, DV.dYes, DV.dRange1, DV.dRange2, DV.dAnd, DV.dOr, DV.dNot, DV.dIfE, DV.gEq, DV.gNe, DV.sgn_one, DV.atI_zero, DV.dTruth, DV.truD, DV.dBreak, DV.dCont, DV.gSorted, DV.dSortK, DV.dRevT, DV.gInD, DV.gIsB, DV.gStr, DV.dPop0, DV.dDict, DV.dPairs, DV.keysD, DV.keyOfD, DV.dFinD, DV.dFld, DV.dSetF, DV.dMake, DV.dMethod, DV.dProp, DV.dOwnIx, DV.dNever, DV.gMulM, DV.gAddM, DV.gMax2, DV.dPair, DV.gDGet, DV.dSetD, DV.dDict0, DV.dComp2, DV.dSortSC, DV.isIns, DV.insOf,
  List.getElem?_cons_zero, List.getElem?_cons_succ, List.set_cons_zero, List.set_cons_succ, List.map_cons, List.map_nil, List.length_cons, List.length_nil, List.replicate, Nat.sub_self, List.append_nil, List.cons_append, List.nil_append, DV.start0, if_true, if_false, Bool.not_true, Bool.not_false, Bool.false_eq_true, Bool.true_and, Bool.and_true, Bool.or_true, Bool.true_or, Bool.false_or, Bool.or_false, eq_self_iff_true, not_true_eq_false, not_false_eq_true, ite_true, ite_false, cond_true, cond_false])
namespace DV
open PySem PySem.Spec PyProof.Rows L2
/-! What a table is worth. -/
/-! opposite -/
/-! lines -/
/-! worth -/
/-! the first line -/
end DV
namespace DV
open PySem PySem.Spec PyProof.Rows L2
/-! Plain facts of worth. -/
end DV
/-! == and != of data with dicts in it. -/
namespace DV
open PySem PySem.Spec PyProof.Rows L2
end DV
namespace PySem.SeqAt
open AutoSeq1 (wpAny_loadPart')
open MeetsSeq MeetsSeq2 MeetsSeq3 SeqRoads2
end PySem.SeqAt
namespace DV
open PySem PySem.Spec PyProof.Rows L2
open PySem.W (EqTree)
end DV
/-! == by an own __eq__ of a class. -/
namespace DV
open PySem PySem.Spec PyProof.Rows L2
end DV
local macro_rules | `(tactic| walk_at "dv") => `(tactic| try simp only [DV.dSeq, DV.dIf, DV.dOrT, DV.dAndT, DV.dNotT, DV.dTest, DV.dChain, DV.dC, DV.dCall, DV.gLen, DV.dCons, DV.dVar, DV.dNil, DV.dBin, DV.dUn, DV.gNeg, DV.gIn, DV.gIx, DV.dRet, DV.dRetN, DV.dNext, DV.dFor, DV.dIter, DV.dName, DV.lk, DV.dAsg, DV.dDrop, DV.gLst, DV.gTup, DV.gLstM, DV.gAdd, DV.gI, DV.gMod, DV.gMul, DV.gFdiv, DV.gPow, DV.gAbs, DV.gInt, DV.gList, DV.gTuple, DV.dOp, DV.dOpK, DV.dIsi, DV.tyD, DV.gIs, DV.gIsNot, DV.D.isN, DV.dJoin, DV.dCellM, DV.dSetI, DV.dSlice, DV.dPart, DV.dNoPart, DV.dRevA, DV.dFin, DV.dAugI, DV.dComp, DV.wipeG, DV.cName, DV.cPair, DV.dYes, DV.dRange1, DV.dRange2, DV.dAnd, DV.dOr, DV.dNot, DV.dIfE, DV.gEq, DV.gNe, DV.sgn_one, DV.atI_zero, DV.dTruth, DV.truD, DV.dBreak, DV.dCont, DV.gSorted, DV.dSortK, DV.dRevT, DV.gInD, DV.gIsB, DV.gStr, DV.dPop0, DV.dDict, DV.dPairs, DV.keysD, DV.keyOfD, DV.dFinD, DV.dFld, DV.dSetF, DV.dMake, DV.dMethod, DV.dProp, DV.dOwnIx, DV.dNever, DV.dRaise, DV.dRaise0, DV.gMulM, DV.gAddM, DV.gMax2, DV.dPair, DV.gDGet, DV.dSetD, DV.dDict0, DV.dComp2, DV.dSortSC, DV.isIns, DV.insOf,
  List.getElem?_cons_zero, List.getElem?_cons_succ, List.set_cons_zero, List.set_cons_succ, List.map_cons, List.map_nil, List.length_cons, List.length_nil, List.replicate, Nat.sub_self, List.append_nil, List.cons_append, List.nil_append, DV.start0, if_true, if_false, Bool.not_true, Bool.not_false, Bool.false_eq_true, Bool.true_and, Bool.and_true, Bool.or_true, Bool.true_or, Bool.false_or, Bool.or_false, eq_self_iff_true, not_true_eq_false, not_false_eq_true, ite_true, ite_false, cond_true, cond_false])
namespace DV
open PySem PySem.Spec PyProof.Rows L2
end DV
namespace DV
open PySem PySem.Spec PyProof.Rows L2
theorem hnd_hit {ks : List EK} {k : EK} {fs : List (Str × D)} {o : Option Nat} {su : Addr → Addr → Nat → DTS} {r : List DCl} {Dd : DEnds} {Γ : Gam} {μ : Mu} (h1 : k ∈ ks) (h : dIn ⟨k, o, su⟩ Dd ⟨k, fs⟩ Γ μ) : dHandle ks (⟨k, o, su⟩ :: r) Dd ⟨k, fs⟩ Γ μ := ⟨h1, h1, by rw [if_pos rfl]; exact h⟩
end DV
local macro_rules | `(tactic| walk_at "dv") => `(tactic| try simp only [DV.dSeq, DV.dIf, DV.dOrT, DV.dAndT, DV.dNotT, DV.dTest, DV.dChain, DV.dC, DV.dCall, DV.gLen, DV.dCons, DV.dVar, DV.dNil, DV.dBin, DV.dUn, DV.gNeg, DV.gIn, DV.gIx, DV.dRet, DV.dRetN, DV.dNext, DV.dFor, DV.dIter, DV.dName, DV.lk, DV.dAsg, DV.dDrop, DV.gLst, DV.gTup, DV.gLstM, DV.gAdd, DV.gI, DV.gMod, DV.gMul, DV.gFdiv, DV.gPow, DV.gAbs, DV.gInt, DV.gList, DV.gTuple, DV.dOp, DV.dOpK, DV.dIsi, DV.tyD, DV.gIs, DV.gIsNot, DV.D.isN, DV.dJoin, DV.dCellM, DV.dSetI, DV.dSlice, DV.dPart, DV.dNoPart, DV.dRevA, DV.dFin, DV.dAugI, DV.dComp, DV.wipeG, DV.cName, DV.cPair, DV.dYes, DV.dRange1, DV.dRange2, DV.dAnd, DV.dOr, DV.dNot, DV.dIfE, DV.gEq, DV.gNe, DV.sgn_one, DV.atI_zero, DV.dTruth, DV.truD, DV.dBreak, DV.dCont, DV.gSorted, DV.dSortK, DV.dRevT, DV.gInD, DV.gIsB, DV.gStr, DV.dPop0, DV.dDict, DV.dPairs, DV.keysD, DV.keyOfD, DV.dFinD, DV.dFld, DV.dSetF, DV.dMake, DV.dMethod, DV.dProp, DV.dOwnIx, DV.dNever, DV.gMulM, DV.gAddM, DV.gMax2, DV.dPair, DV.gDGet, DV.dSetD, DV.dDict0, DV.dComp2, DV.dSortSC, DV.isIns, DV.insOf,
  List.getElem?_cons_zero, List.getElem?_cons_succ, List.set_cons_zero, List.set_cons_succ, List.map_cons, List.map_nil, List.length_cons, List.length_nil, List.replicate, Nat.sub_self, List.append_nil, List.cons_append, List.nil_append, DV.start0, if_true, if_false, Bool.not_true, Bool.not_false, Bool.false_eq_true, Bool.true_and, Bool.and_true, Bool.or_true, Bool.true_or, Bool.false_or, Bool.or_false, eq_self_iff_true, not_true_eq_false, not_false_eq_true, ite_true, ite_false, cond_true, cond_false])
namespace DV
open PySem PySem.Spec PyProof.Rows L2
/-! Wishes.ranked, only, amounts, ==. -/
/-! ranked, of one rank -/
/-! amounts -/
/-! only -/
/-! == -/
/-! gap_wishes -/
end DV
/-! t[::2] and t[1::2] of a tuple of four. -/
namespace DV
open PySem PySem.Spec PyProof.Rows L2
end DV
/-! [*xs, ..]: what stands in a list or a tuple, put into a display. zip of two lists or two tuples. -/
namespace DV
open PySem PySem.Spec PyProof.Rows L2
/-! zip -/
end DV
namespace DV
open PySem PySem.Spec PyProof.Rows L2
/-! Plain facts of wishes of 0 and 1. -/
end DV
namespace DV
open PySem PySem.Spec PyProof.Rows L2
/-! Unrest. -/
end DV
/-! a, b, c, d = a list of four; (a, b), (c, d) = a pair of pairs -/
namespace DV
open PySem PySem.Spec PyProof.Rows L2
end DV
local macro_rules | `(tactic| walk_at "dv") => `(tactic| try simp only [DV.dSeq, DV.dIf, DV.dOrT, DV.dAndT, DV.dNotT, DV.dTest, DV.dChain, DV.dC, DV.dCall, DV.gLen, DV.dCons, DV.dVar, DV.dNil, DV.dBin, DV.dUn, DV.gNeg, DV.gIn, DV.gIx, DV.dRet, DV.dRetN, DV.dNext, DV.dFor, DV.dIter, DV.dName, DV.lk, DV.dAsg, DV.dDrop, DV.gLst, DV.gTup, DV.gLstM, DV.gAdd, DV.gI, DV.gMod, DV.gMul, DV.gFdiv, DV.gPow, DV.gAbs, DV.gInt, DV.gList, DV.gTuple, DV.dOp, DV.dOpK, DV.dIsi, DV.tyD, DV.gIs, DV.gIsNot, DV.D.isN, DV.dJoin, DV.dCellM, DV.dSetI, DV.dSlice, DV.dPart, DV.dNoPart, DV.dRevA, DV.dFin, DV.dAugI, DV.dComp, DV.wipeG, DV.cName, DV.cPair, DV.dYes, DV.dRange1, DV.dRange2, DV.dAnd, DV.dOr, DV.dNot, DV.dIfE, DV.gEq, DV.gNe, DV.sgn_one, DV.atI_zero, DV.dTruth, DV.truD, DV.dBreak, DV.dCont, DV.gSorted, DV.dSortK, DV.dRevT, DV.gInD, DV.gIsB, DV.gStr, DV.dPop0, DV.dDict, DV.dPairs, DV.keysD, DV.keyOfD, DV.dFinD, DV.dFld, DV.dSetF, DV.dMake, DV.dMethod, DV.dProp, DV.dOwnIx, DV.dNever, DV.dRaise, DV.dRaise0, DV.gMulM, DV.gAddM, DV.gMax2, DV.dPair, DV.gDGet, DV.dSetD, DV.dDict0, DV.dComp2, DV.dSortSC, DV.isIns, DV.insOf,
  List.getElem?_cons_zero, List.getElem?_cons_succ, List.set_cons_zero, List.set_cons_succ, List.map_cons, List.map_nil, List.length_cons, List.length_nil, List.replicate, Nat.sub_self, List.append_nil, List.cons_append, List.nil_append, DV.start0, if_true, if_false, Bool.not_true, Bool.not_false, Bool.false_eq_true, Bool.true_and, Bool.and_true, Bool.or_true, Bool.true_or, Bool.false_or, Bool.or_false, eq_self_iff_true, not_true_eq_false, not_false_eq_true, ite_true, ite_false, cond_true, cond_false])
namespace DV
open PySem PySem.Spec PyProof.Rows L2
/-! Round, is_cell, leads_on, check_round, wishes_for, round_case. -/
/-! improvements along a list -/
/-! the class -/
/-! check_round -/
/-! wishes for cells, round_case -/
end DV
namespace DV
open PySem PySem.Spec PyProof.Rows L2
theorem next_go {De : DEnds} {Γ : Gam} {μ : Mu} (h : De.nx Γ μ) : dNext De Γ μ := h
end DV
/-! Sets of tuples of ints up to 64 members. -/
namespace DV
open PySem PySem.Spec PyProof.Rows
open L2 (thash IsT rowsOf SetTR SetT0 TabOk way nth runAt)
/-- a set of exactly 64 tuples -/
structure Full (P : Program) (w : World) (h : Heap) (a : Addr) (L : List (Addr × List Int)) (es : Array (Int × Value)) (ep : Nat) (t : SetTable) : Prop where
  at_ : ∃ ob, h.get? a = some ob ∧ ob.ExactSet ∧ ob.data = .set es ep t
  rw_ : es.toList = rowsOf P w L
  tb : TabOk t (L.map fun p => thash P w p.2)
  dup : (L.map Prod.snd).Nodup
  mem : ∀ p ∈ L, IsT P w h p.2 p.1
  pl : t.plain = true
  ld : w.params.followText "set-order" = true ∨ t.led = true
  n64 : L.length = 64
  m127 : t.mask = 127
def SetW (P : Program) (w : World) (h : Heap) (a : Addr) (L : List (Addr × List Int)) : Prop := ∃ es ep t, SetTR P w h a L es ep t ∨ Full P w h a L es ep t
section
variable {P : Program} {w : World} {A : Around} {E : Value → Shared → Prop} {s : Shared} {a : Addr} {L : List (Addr × List Int)} {es : Array (Int × Value)} {ep : Nat} {t : SetTable}
theorem Full.size (F : Full P w s.heap a L es ep t) : es.size = 64 := by
  rw [← Array.length_toList, F.rw_, rowsOf, List.length_map, F.n64]
theorem Full.fit (F : Full P w s.heap a L es ep t) : t.fits es.size = true := by
  have h := F.tb.sz
  rw [List.length_map, F.n64] at h
  rw [F.size]
  unfold SetTable.fits SetTable.fill
  rw [F.tb.dm, h, F.m127]
  rfl
theorem Full.no (F : Full P w s.heap a L es ep t) : ¬ t.gaveWay = true := by
  rw [SetTable.gaveWay, F.m127]; decide
theorem Full.ent (F : Full P w s.heap a L es ep t) {i : Nat} {p : Addr × List Int} (h : L[i]? = some p) : es[i]? = some (thash P w p.2, Value.ref p.1) := by
  rw [← Array.getElem?_toList, F.rw_, rowsOf, List.getElem?_map, h, Option.map_some]
theorem nth_dm (m : Nat) : ∀ (n : Nat) (p : SetTable.Probe), p.dummy = none → (nth m p n).dummy = none
  | 0, _, h => h
  | n + 1, p, h => nth_dm m n _ (by unfold L2.adv; split <;> exact h)
/-- the search in a set of 64 for what is there -/
theorem Full.look (F : Full P w s.heap a L es ep t) {x : Addr} {k : List Int} (hx : IsT P w s.heap k x) (hu : A.units < cLine) {Q : SetFound → Shared → Prop} (hQ : Q (.there none) s) {K N i0 : Nat} {a0 : Addr} (hKf : K < 10 * SetTable.turns t.mask)
    (hK : way t.mask (thash P w k) K ∉ t.place.toList) (hKb : ∀ c, c < K → way t.mask (thash P w k) c ∈ t.place.toList) (hN : N < K) (hi0 : t.place.toList[i0]? = some (way t.mask (thash P w k) N)) (hL0 : L[i0]? = some (a0, k)) :
    ∀ (f c : Nat) (st : Option SetTable.Probe), st.getD (t.probeStart (thash P w k)) = nth t.mask (t.probeStart (thash P w k)) c → c ≤ N → N - c < f → wpAny (model P w) A (setSearchFrom a (.ref x) (thash P w k) true f st) Q E s := by
  intro f
  induction f with
  | zero => intro c st _ _ h; omega
  | succ f ih =>
    intro c st hst hc hf
    obtain ⟨ob, hob, -, hda⟩ := F.at_
    have key : ∀ (i : Nat) (p : Addr × List Int), L[i]? = some p → (es[i]?.map (·.1)).getD 0 = thash P w p.2 := fun i p z => by rw [F.ent z, Option.map_some, Option.getD_some]
    have go : ∀ q, (nth t.mask (nth t.mask (t.probeStart (thash P w k)) c) q).j = way t.mask (thash P w k) (c + q) := fun q => by rw [← L2.nth_add, L2.start_run]
    rw [L2.setSearchFrom_succ]
    refine wpAny_bind (wpAny_setState_of hob hda F.fit ?_)
    simp only []
    rw [if_neg F.no]
    try refine wpAny_bind (wpAny_pure ?_)
    have pr := L2.go_spec t F.tb.ris F.tb.dm (fun i => (es[i]?.map (·.1)).getD 0) (thash P w k) (10 * SetTable.turns t.mask) (K - c) (nth t.mask (t.probeStart (thash P w k)) c) (nth_dm _ _ _ rfl) (by omega)
      (fun q hq => by rw [go]; exact hKb _ (by omega)) (by rw [go, Nat.add_sub_cancel' (by omega)]; exact hK)
    have at0 : t.place.toList[i0]? = some (nth t.mask (nth t.mask (t.probeStart (thash P w k)) c) (N - c)).j := by rw [go, Nat.add_sub_cancel' hc]; exact hi0
    rcases pr with ⟨q, i, q1, q2, q3, q4, q5⟩ | ⟨q4, _⟩
    · have le : c + q ≤ N := Nat.le_of_not_lt fun z => q4 (N - c) i0 (by omega) at0 (key _ _ hL0)
      rw [← hst] at q5
      rw [show t.probe (fun i => (es[i]?.map (·.1)).getD 0) (thash P w k) (st.getD (t.probeStart (thash P w k))) = _ from q5]
      rw [hst, go] at *
      simp only []
      have il : i < L.length := by
        have z := (List.getElem?_eq_some_iff.mp q2).1
        have y := F.tb.sz
        rw [List.length_map] at y
        rw [Array.length_toList] at z
        omega
      obtain ⟨p, hp⟩ : ∃ p, L[i]? = some p := ⟨_, List.getElem?_eq_getElem il⟩
      have main : wpAny (model P w) A (L2.searchRest a (.ref x) (thash P w k) true f es t (way t.mask (thash P w k) (c + q)) i (nth t.mask (nth t.mask (t.probeStart (thash P w k)) c) (q + 1))) Q E s := by
        rw [L2.searchRest, F.ent hp]
        simp only []
        refine wpAny_bind (wpAny_holding (wpAny_eqBool_tuple hu (F.mem p (List.mem_of_getElem? hp)) hx ?_))
        refine wpAny_bind (wpAny_setState_of hob hda F.fit ?_)
        simp only []
        cases hd : decide (p.2 = k) with
        | true =>
          rw [if_pos (by rfl)]
          exact wpAny_pure hQ
        | false =>
          rw [if_neg (by simp)]
          try refine wpAny_bind (wpAny_pure ?_)
          rw [L2.sameMem]
          have sl := L2.slot_live F.tb.ris q2
          simp only [if_true, sl, F.ent hp]
          refine wpAny_bind (wpAny_isSame_ref_self (wpAny_bind (wpAny_pure ?_)))
          simp only [if_true]
          rw [if_neg (by simp)]
          have ne : c + q ≠ N := fun z => by
            rw [z] at sl
            rw [L2.slot_live F.tb.ris hi0] at sl
            injection sl with sl
            rw [← sl, hL0] at hp
            cases hp
            simp at hd
          exact ih (c + (q + 1)) _ (by rw [Option.getD_some, L2.nth_add, L2.nth_add, L2.nth_add]) (by omega) (by omega)
      cases hl : t.led with
      | true =>
        rw [if_neg (by simp)]
        try refine wpAny_bind (wpAny_pure ?_)
        exact main
      | false =>
        rw [if_pos (by simp)]
        refine wpAny_bind (L2.seen_tup hx (fun y hy => ?_) ?_)
        · obtain ⟨e, he, rfl⟩ := List.mem_map.mp hy
          have he2 : e ∈ es.toList := by
            have z : e ∈ es ∧ e.1 = thash P w k := by simpa using he
            simpa using z.1
          rw [F.rw_, rowsOf] at he2
          obtain ⟨p2, hp2, rfl⟩ := List.mem_map.mp he2
          exact ⟨_, _, rfl, F.mem p2 hp2⟩
        · rw [if_neg (by decide)]
          try refine wpAny_bind (wpAny_pure ?_)
          exact main
    · exact absurd (key _ _ hL0) (q4 (N - c) i0 (by omega) at0)
theorem Full.found (F : Full P w s.heap a L es ep t) {x : Addr} {k : List Int} (hx : IsT P w s.heap k x) (hu : A.units < cLine) (hk : k ∈ L.map Prod.snd) {Q : SetFound → Shared → Prop} (hQ : Q (.there none) s) :
    wpAny (model P w) A (setSearch a (.ref x) (thash P w k) true) Q E s := by
  obtain ⟨K, k1, k2, k3⟩ := F.tb.first (by rw [List.length_map, F.n64, F.m127]; omega) (thash P w k)
  obtain ⟨⟨a0, k0⟩, hp, rfl⟩ := List.mem_map.mp hk
  obtain ⟨i0, hi, e0⟩ := List.getElem_of_mem hp
  have hL0 : L[i0]? = some (a0, k0) := by rw [List.getElem?_eq_getElem hi, e0]
  have hj : i0 < t.place.toList.length := by
    have y := F.tb.sz
    rw [List.length_map] at y
    rw [Array.length_toList, y]; exact hi
  obtain ⟨N, n1, n2⟩ := F.tb.before k2 (i := i0) (by rw [List.getElem?_map, hL0, Option.map_some]) (List.getElem?_eq_getElem hj)
  rw [setSearch]
  have big : 10 * SetTable.turns t.mask ≤ 2000 := by rw [SetTable.turns, F.m127]; omega
  exact F.look hx hu hQ k1 k2 k3 n1 (by rw [n2]; exact List.getElem?_eq_getElem hj) hL0 100000 0 none rfl (Nat.zero_le _) (by omega)
/-- adding to a set that stays within 64 -/
theorem addW (R : SetW P w s.heap a L) {x : Addr} {k : List Int} (hx : IsT P w s.heap k x) (hu : A.units < cLine) (few : k ∉ L.map Prod.snd → L.length < 64) {Q : Bool → Shared → Prop}
    (hQ : ∀ b h' L', Heap.SameBut a s.heap h' → SetW P w h' a L' → (k ∈ L.map Prod.snd → L' = L) → (k ∉ L.map Prod.snd → L'.Perm ((x, k) :: L)) → Q b { s with heap := h' }) :
    wpAny (model P w) A (setAddHashed a (.ref x) (thash P w k)) Q E s := by
  obtain ⟨es, ep, t, R | F⟩ := R
  · by_cases h63 : L.length + 1 < 64
    · exact L2.add_at R hx hu h63 fun b h' L' es' ep' t' sb R' c1 c2 => hQ b h' L' sb ⟨es', ep', t', .inl R'⟩ c1 c2
    · have h64 : L.length = 63 := by have := R.few; omega
      have room := R.room
      have m127 : t.mask = 127 := by
        rcases R.tab.mok with z | z | z <;> omega
      obtain ⟨ob, hob, hex, hda⟩ := R.ob
      rw [setAddHashed]
      refine wpAny_holding ?_
      rw [show (100000 : Nat) = 99999 + 1 from rfl, L2.setAddHashedIn_succ]
      refine wpAny_bind (wpAny_setState_of hob hda R.fits ?_)
      simp only []
      rw [if_neg (by simp [byScan, Value.scannable])]
      try refine wpAny_bind (wpAny_pure ?_)
      refine wpAny_bind (L2.search_at R hx hu (fun hm => wpAny_pure (hQ false _ L (.refl a s.heap) ⟨es, ep, t, .inl R⟩ (fun _ => rfl) fun z => absurd hm z)) fun K hm hK hb => ?_)
      simp only []
      refine wpAny_bind (wpAny_setState_of hob hda R.fits ?_)
      simp only []
      obtain ⟨q1, q2, q3, q4, q5, q6, q7, q8, q9⟩ := R.tab.put hK hb
      obtain ⟨t1, p, pe, e1⟩ : ∃ t1 p, t.put (way t.mask (thash P w k) K) = (t1, p) ∧ p = SetTable.below t.place (way t.mask (thash P w k) K) := ⟨_, _, rfl, q1⟩
      rw [pe] at q3 q4 q5 q6 q9 ⊢
      rw [← e1] at q2 q3
      simp only [] at q3 q4 q5 q6 q9 ⊢
      have pl1 : t1.plain = true := q6.trans R.plain
      rw [if_pos pl1]
      refine wpAny_bind (L2.hashBy_tup hx ?_)
      rw [if_pos rfl]
      have ln := q9
      rw [List.length_map, h64] at ln
      have nf : t1.tooFull = false := by
        unfold SetTable.tooFull
        rw [decide_eq_false_iff_not, ln, q4, m127]
        decide
      have pm := L2.put_perm L p (x, k)
      have rows : (SetTable.insertAt es p (thash P w k, Value.ref x)).toList = rowsOf P w (L.take p ++ (x, k) :: L.drop p) := by rw [SetTable.toList_insertAt, L2.rows_put, R.rows]
      have hn : (L.take p ++ (x, k) :: L.drop p).length = 64 := by rw [pm.length_eq, List.length_cons, h64]
      have hz : (SetTable.insertAt es p (thash P w k, Value.ref x)).size = 64 := by rw [← Array.length_toList, rows, rowsOf, List.length_map, hn]
      refine wpAny_bind (wpAny_storeSet_of hob hda ?_ (by rw [hz, sizeLine_eq]; omega))
      rw [if_neg (by simp [nf])]
      have sb : Heap.SameBut a s.heap (s.heap.update a (Obj.putSet (SetTable.insertAt es p (thash P w k, Value.ref x)) t1)) := Heap.SameBut.update ..
      try refine wpAny_bind (wpAny_pure ?_)
      refine wpAny_pure (hQ true _ _ sb ⟨_, _, t1, .inr ⟨⟨_, L2.store_at hob hda, ⟨hex.1, hex.2.1, hex.2.2⟩, rfl⟩, rows, ?_, ?_, fun r hr => ?_, pl1, ?_, hn, q4.trans m127⟩⟩ (fun z => absurd z hm) fun _ => pm)
      · rw [List.map_append, List.map_cons, List.map_take, List.map_drop]; exact q3
      · exact (pm.map Prod.snd).nodup_iff.mpr (List.nodup_cons.mpr ⟨hm, R.nd⟩)
      · rcases List.mem_cons.mp (pm.mem_iff.mp hr) with rfl | hr
        · exact L2.isT_same hx hob hda sb
        · exact L2.isT_same (R.tup r hr) hob hda sb
      · rw [q5]; exact R.led
  · have hk : k ∈ L.map Prod.snd := Classical.byContradiction fun z => by have := few z; have := F.n64; omega
    obtain ⟨ob, hob, hex, hda⟩ := F.at_
    rw [setAddHashed]
    refine wpAny_holding ?_
    rw [show (100000 : Nat) = 99999 + 1 from rfl, L2.setAddHashedIn_succ]
    refine wpAny_bind (wpAny_setState_of hob hda F.fit ?_)
    simp only []
    rw [if_neg (by simp [byScan, Value.scannable])]
    try refine wpAny_bind (wpAny_pure ?_)
    exact wpAny_bind (F.found hx hu hk (wpAny_pure (hQ false _ L (.refl a s.heap) ⟨es, ep, t, .inr F⟩ (fun _ => rfl) fun z => absurd hk z)))
end
end DV
/-! Dicts whose keys are tuples: the comprehension. -/
namespace DV
open PySem PySem.Spec PyProof.Rows L2
section
variable {X : Cx} {pins : List (Addr × Obj)} {σ : L2.St} {H : Hp} {s : Shared}
/-- a pair goes into a dict with tuple keys -/
theorem setT_ok {E : Value → Shared → Prop} {A : Around} {dA b : Addr} {kvs : List (List Key × V)} {k : List Key} {v : V} {r : Value} {Q : Unit → Shared → Prop} (hu : A.units < cLine) (I : Inv X pins σ H s) (e : H dA = some (.dT kvs)) (few : kvs.length < sizeLine) (eb : H b = some (.tup (k.map kV)))
    (rv : RelV v r) (go : ∀ u, Inv X pins σ (upd H dA (.dT (putK kvs k v))) u → Q () u) : wpAny (model X.prog X.w) A (dictSet dA (.ref b) r) Q E s := by
  obtain ⟨z, nd, xs, rel, dd⟩ := dt_of I.hok e
  have big : xs.length ≤ sizeLine := Paired.length rel ▸ z
  have fits : (putK kvs k v).length ≤ sizeLine := Nat.le_trans (length_putK kvs k v) few
  refine wpAny_dictSet_heap (hsz := big) (knd := tupleKind (mixKind X.prog X.w)) (show (tupleKind (mixKind X.prog X.w)).room A from hu) (key_of I.hok eb) dd fun h' ⟨q, es, ep, q1, q2, q3, q4, _, q5⟩ sb => go _ ?_
  have new : ObjOk X.prog X.w (upd H dA (.dT (putK kvs k v))) h' dA (.dT (putK kvs k v)) := by
    refine ⟨fits, nd, _, (rel.put k eb rv).keeps fun c ys ec => ?_, q, es, ep, q1, q2, q3, q4, q5⟩
    have ne : c ≠ dA := ne_of ec e fun z => nomatch z
    exact (upd_ne ne).trans ec
  exact d_write I (by rw [e]; exact True.intro) sb ⟨q, q1⟩ new
end
/-- {k: v for t in it if ..}, the keys tuples: dA the new dict -/
def tDcT (wi : TI) (g : TG) (tt : TT) (tk tv : TE) (vs : List Nat) : TE := fun σ H Q => wi σ H fun J H1 => ∀ q, H1 q = none → ∃ W : Nat → Nat → Hp → Prop, (∃ m, W 0 m (upd H1 q (.dT []))) ∧ ∀ i m H, W i m H →
  (J.stop i H ∧ Q (.ref q) H) ∨ (J.go i H ∧ ∃ Nx : Hp → Prop, (∀ H', Nx H' → ∃ m', m' < m ∧ W (i + 1) m' H') ∧ ∀ x H', J.yld i H x H' → g x (L2.wipe σ vs) H' fun σ2 H2 => L2.wipe σ2 vs = L2.wipe σ vs ∧ tt σ2 H2 fun b H3 =>
    if b = true then tk σ2 H3 fun y H4 => tv σ2 H4 fun z H5 => ∃ kvs k bb, y = .ref bb ∧ H5 bb = some (.tup (k.map kV)) ∧ H5 q = some (.dT kvs) ∧ kvs.length < sizeLine ∧ Nx (upd H5 q (.dT (putK kvs k z))) else Nx H3)
section
variable {X : Cx}
theorem pe_dcT {kx vx t0 i0 : Expr} {ifs : List Expr} {scope : Scope} {own : List (Str × Nat)} {pos : Pos} {wi : TI} {g : TG} {tt : TT} {tk tv : TE} (hu : X.A.units < cLine) (hc : X.calm = true) (hN : X.N.Nodup) (hi : PI X t0 i0 wi) (ok : BlkOk X.N X.env.scope scope own)
    (hg : InB X scope fun Y => PG Y t0 g) (ht : InB X scope fun Y => PTs Y ifs tt) (hk : InB X scope fun Y => PE Y kx tk) (he : InB X scope fun Y => PE Y vx tv) (hs : ∀ x, foldedSetIterable i0 X.env x = pure x := by intro _; rfl) :
    PE X (.DictComp kx vx [⟨t0, i0, ifs, 0⟩] scope pos) (tDcT wi g tt tk tv (own.map (·.2))) := by
  refine ⟨fun pins s σ H Q I h => ?_⟩
  rw [arm_eval_DictComp]
  have clo : ∀ y ∈ scope.names, y.2 = .free → ∃ c, X.env.cells.lookup y.1 = some c := fun y hy e => (ok.free y hy e).elim (fun k => I.ok.has _ (.inl k)) fun k => I.ok.has _ (.inr k)
  refine wpAny_comprehension_free (use := none) rfl hs (closure_ok clo) ok.kind (fun y hy e => (ok.uniq y hy).trans (by rw [e])) (thn (hi.run pins s σ H _ I h) fun xv s1 hx => thn hx fun itv s2 ⟨it, fp, tn, J, H2, e, I2, T, st2, f2, body⟩ => wpAny_newObj_type (newEnv_comp ?_))
  subst e
  -- the new dict
  have hq : H2 s2.heap.objs.size = none := I2.hok.fresh (Nat.le_refl _)
  obtain ⟨W, ⟨m0, w0⟩, turn⟩ := body _ hq
  let s3 : Shared := { s2 with heap := s2.heap.push { cls := .type "dict", data := .dict #[] } }
  have I3 : Inv X pins σ (upd H2 s2.heap.objs.size (.dT [])) s3 := I2.laid (t' := s2.toks) (fun b o z => Heap.get?_push_of_some _ z) (Nat.le_refl _) (dt_empty s2.heap I2.big)
  have f3 : ∀ b ∈ fp, FpOk X pins (upd H2 s2.heap.objs.size (.dT [])) b ∧ b < s3.heap.objs.size := fun b hb => by
    obtain ⟨o, z, _⟩ := T.obj _ _ st2 b hb
    have lt := Heap.lt_size z
    exact ⟨⟨(upd_ne (Nat.ne_of_lt lt)).trans (f2 b hb).1, (f2 b hb).2⟩, Nat.lt_of_lt_of_le lt (by show _ ≤ (s2.heap.push _).objs.size; rw [Heap.size_push]; exact Nat.le_succ _)⟩
  generalize hH3 : upd H2 s2.heap.objs.size (.dT []) = H3 at w0 I3 f3
  generalize hq0 : s2.heap.objs.size = q at w0 turn hH3
  have st3 : tn 0 s3.heap := T.keep _ _ _ st2 fun b _ o z => Heap.get?_push_of_some _ z
  have I4 := block_start I3 ok hN f3
  let ce : Env := compEnvC scope (cellsFrom (s3.heap.objs.size + 1) scope.names (cloFrom X.env.cells scope.names [])) s3.heap.objs.size X.env
  let Y : Cx := X.blk s3 H3 scope ce fp
  have pg : PG Y t0 g := hg _ _ _ _ _
  have pt : PTs Y ifs tt := ht _ _ _ _ _
  have pk : PE Y kx tk := hk _ _ _ _ _
  have pe : PE Y vx tv := he _ _ _ _ _
  let s4 : Shared := { s3 with heap := pushCells (s3.heap.push { cls := .type "dict", data := .dict #[] }) scope.names }
  have I4 : Inv Y [] (L2.wipe σ (own.map (·.2))) H3 s4 := I4
  have st4 : tn 0 s4.heap := T.keep _ _ _ st3 fun b _ o z => pushCells_keeps _ _ _ _ (Heap.get?_push_of_some _ z)
  show codeAny _ _ (.compStart (.DictComp kx vx [⟨t0, i0, ifs, 0⟩] scope pos) 0 (.ref it) (.ref q) ce) (compPost (model X.prog X.w) X.A X.xe none (EP X pins σ Q) (.ref q) s3.heap.objs.size) s4
  have sta : ∀ {τ : L2.St} {H' : Hp} {u : Shared}, Inv Y [] τ H' u → (∀ b ∈ fp, H' b = none) → ∀ b ∈ fp, FpOk Y [] H' b := fun {τ H' u} K hn b hb =>
    have z := K.ok.exf b hb
    ⟨hn b hb, z.1, K.ok.exfs b hb, .inl hb, fun x c e => z.2 x c e, fun p hp => absurd (show p ∈ ([] : List (Addr × Obj)) ++ [] from hp) (by simp)⟩
  have loop : codeAny (model X.prog X.w) X.A (.compLoop (.DictComp kx vx [⟨t0, i0, ifs, 0⟩] scope pos) 0 (.ref it) (.ref q) ce) (compPost (model X.prog X.w) X.A X.xe none (EP X pins σ Q) (.ref q) s3.heap.objs.size) s4 := by
    refine compLoop_anyD (fun k u => ∃ i H', Mid Y [] (L2.wipe σ (own.map (·.2))) fp tn i H' u ∧ W i k H') ?_ m0 ⟨0, H3, ⟨I4, st4, fun b hb => (f3 b hb).1.1⟩, w0⟩
    rintro k u ⟨i, H5, D5, w5⟩
    rcases turn i k H5 w5 with ⟨stop, qq⟩ | ⟨go, Nx, hNx, step⟩
    · refine thnF (T.done Y rfl rfl rfl hc i [] u _ H5 (fun _ _ => False) D5.inv (sta D5.inv D5.no) D5.st stop) fun r u6 ⟨er, I6⟩ => ?_
      subst er
      have I7 : Inv X pins σ H5 u6 := I3.call' (ch := fp) I6.os I6.base I6.hok I6.bare fun b hb => have z := (f3 b hb).1.2; ⟨z.2.2.1, z.1, z.2.2.2.1, z.2.2.2.2⟩
      have nC : H5 s3.heap.objs.size = none := I6.free
      obtain ⟨m, hn, _⟩ := I6.loc
      obtain ⟨y0, y1, y2, y3, y4, y5⟩ := I3.fpOk (H' := H5) (Nat.le_refl _) nC
      exact ⟨m, hn, fun h'' sb => ⟨.ref q, H5, I7.turned (t' := u6.toks) (fun b o hb z => (sb.2 b hb).trans z) y0 y1 y3 y4 y5, rfl, qq⟩⟩
    · refine thnF (T.item Y rfl rfl rfl hc i [] u _ H5 (fun _ _ => False) D5.inv (sta D5.inv D5.no) D5.st go) fun r u6 ⟨v, er, z6⟩ => ?_
      subst er
      refine thnF z6 fun _ u7 ⟨x, H7, I7, r7, y7, st7, n7⟩ => ?_
      refine thnF (pg.run _ u7 _ H7 x v _ (I7.pinned (sta I7 n7) (T.obj _ _ st7)) r7 (step x H7 y7)) fun _ u8 ⟨σ8, H8, I8, hw8, q8⟩ => ?_
      have l8 : (L2.wipe σ (own.map (·.2))).length = σ8.length := by rw [← hw8, L2.wipe_length]
      have k8 : ∀ (j : Nat) v, (L2.wipe σ (own.map (·.2)))[j]? = some (some v) → σ8[j]? = some (some v) := fun j v z => by
        rw [← hw8] at z
        exact (wipe_some z).1
      have back : ∀ {u' : Shared} {H' : Hp}, Inv Y ([] ++ pinsAt fp u7.heap) σ8 H' u' → Nx H' → ∃ m, m < k ∧ ∃ i H', Mid Y [] (L2.wipe σ (own.map (·.2))) fp tn i H' u' ∧ W i m H' := fun {u' H'} J' nx => by
        obtain ⟨m', hm, w'⟩ := hNx _ nx
        exact ⟨m', hm, i + 1, H', mid_back T st7 J' l8 k8, w'⟩
      refine thnF (pt.run _ u8 σ8 H8 _ I8 q8) fun b u9 ⟨H9, I9, q9⟩ => ?_
      cases b with
      | false => exact back I9 (by simpa using q9)
      | true =>
        have q9' : tk σ8 H9 fun y H4 => tv σ8 H4 fun z H5 => ∃ kvs k bb, y = .ref bb ∧ H5 bb = some (.tup (k.map kV)) ∧ H5 q = some (.dT kvs) ∧ kvs.length < sizeLine ∧ Nx (upd H5 q (.dT (putK kvs k z))) := by simpa using q9
        refine thnF (pk.run _ u9 σ8 H9 _ I9 q9') fun z u10 ⟨yk, H10, I10, r10, q10⟩ => ?_
        refine thnF (pe.run _ u10 σ8 H10 _ I10 q10) fun z2 u11 ⟨yv, H11, I11, r11, kvs, k, bb, ek, hb, hD, few, nx⟩ => ?_
        subst ek
        obtain rfl : z = Value.ref bb := r10
        exact setT_ok (X := Y) (show Y.A.units < cLine from hu) I11 hD few hb r11 fun u12 I12 => back I12 nx
  exact codeAny_compStart_dict loop (T.self X.A 0 _ _ _ st4 loop)
end
end DV
/-! Dicts whose keys are tuples, deep: cells .dtp. -/
namespace DV
open PySem PySem.Spec PyProof.Rows L2
def keysL : List D → Option (List Key)
  | [] => some []
  | d :: ds => (keyOfD d).bind fun k => (keysL ds).map fun ks => k :: ks
def keyT (d : D) : Option (List Key) := match d with
  | .tup xs => keysL xs
  | _ => none
theorem keys_reps {K : PySem.W.Frag} {Hb : Hp} {al : List Addr} : ∀ {vs : List V} {ds : List D} {ks : List Key}, Reps K Hb al vs ds → keysL ds = some ks → vs = ks.map kV
  | _, _, _, .nil, h => by cases h; rfl
  | _, _, ks, .cons (d := d) (ds := ds) r t, h => by
    unfold keysL at h
    obtain ⟨k, h1, h2⟩ := Option.bind_eq_some_iff.mp h
    obtain ⟨l, h3, rfl⟩ := Option.map_eq_some_iff.mp h2
    rw [List.map_cons, ← keys_reps t h3, key_rep r h1]
theorem keyT_rep {K : PySem.W.Frag} {n : Now} {μ : Mu} (s : SR0 K n μ) {y : V} {dy : D} {k : List Key} (r : Rep K n.Hb n.al y dy) (h : keyT dy = some k) : ∃ b, y = .ref b ∧ n.H b = some (.tup (k.map kV)) ∧ n.Hb b = some (.tup (k.map kV)) := by
  cases r with
  | @tup a vs ds h1 h2 =>
    have e := keys_reps h2 h
    subst e
    exact ⟨a, rfl, s.same _ _ h1, h1⟩
  | _ => cases h
def valT (kvs : List (List Key × D)) (k : List Key) : Option D := (kvs.find? fun kv => decide (kv.1 = k)).map (·.2)
def putT (kvs : List (List Key × D)) (k : List Key) (v : D) : List (List Key × D) :=
  if (kvs.any fun kv => decide (kv.1 = k)) = true then kvs.map (fun kv => if kv.1 = k then (kv.1, v) else kv) else kvs ++ [(k, v)]
def RepT (K : PySem.W.Frag) (Hb : Hp) (al : List Addr) (us : List (List Key × V)) (kvs : List (List Key × D)) : Prop := kvs.map (·.1) = us.map (·.1) ∧ Reps K Hb al (us.map (·.2)) (kvs.map (·.2))
section
variable {K : PySem.W.Frag} {Hb : Hp} {al : List Addr}
theorem rept_val : ∀ {kvs : List (List Key × D)} {us : List (List Key × V)} {k : List Key}, RepT K Hb al us kvs → (∀ d, valT kvs k = some d → ∃ v, valV us k = some v ∧ Rep K Hb al v d) := fun {kvs us k} h => by
  obtain ⟨h1, h2⟩ := h
  induction kvs generalizing us with
  | nil => exact fun d e => (by cases e)
  | cons c kvs ih =>
    cases us with
    | nil => simp at h1
    | cons u us =>
      obtain ⟨kc, dc⟩ := c
      obtain ⟨ku, vu⟩ := u
      simp only [List.map_cons, List.cons.injEq] at h1
      obtain ⟨rfl, h1⟩ := h1
      cases h2 with
      | cons r1 r2 =>
        by_cases e : kc = k
        · rw [valV_pos e]
          have e2 : valT ((kc, dc) :: kvs) k = some dc := by simp [valT, List.find?_cons, e]
          rw [e2]
          exact fun d z => ⟨vu, rfl, (by cases z; exact r1)⟩
        · rw [valV_neg e]
          have e2 : valT ((kc, dc) :: kvs) k = valT kvs k := by simp [valT, List.find?_cons, e]
          rw [e2]
          exact ih h1 r2
theorem any_same {P : List Key → Bool} : ∀ {kvs : List (List Key × D)} {us : List (List Key × V)}, kvs.map (·.1) = us.map (·.1) → (kvs.any fun kv => P kv.1) = us.any fun kv => P kv.1
  | [], [], _ => rfl
  | [], _ :: _, h => by simp at h
  | _ :: _, [], h => by simp at h
  | c :: kvs, u :: us, h => by
    simp only [List.map_cons, List.cons.injEq] at h
    rw [List.any_cons, List.any_cons, h.1, any_same h.2]
theorem RepT.put {kvs : List (List Key × D)} {us : List (List Key × V)} {k : List Key} {v : V} {d : D} (h : RepT K Hb al us kvs) (r : Rep K Hb al v d) : RepT K Hb al (putK us k v) (putT kvs k d) := by
  obtain ⟨h1, h2⟩ := h
  unfold putK putT
  rw [any_same (P := fun x => decide (x = k)) h1]
  split
  · have key : ∀ {kvs : List (List Key × D)} {us : List (List Key × V)}, kvs.map (·.1) = us.map (·.1) → Reps K Hb al (us.map (·.2)) (kvs.map (·.2)) →
        (kvs.map fun kv => if kv.1 = k then (kv.1, d) else kv).map (·.1) = (us.map fun kv => if kv.1 = k then (kv.1, v) else kv).map (·.1) ∧ Reps K Hb al ((us.map fun kv => if kv.1 = k then (kv.1, v) else kv).map (·.2)) ((kvs.map fun kv => if kv.1 = k then (kv.1, d) else kv).map (·.2)) := by
      intro kvs
      induction kvs with
      | nil =>
        intro us g1 g2
        cases us with
        | nil => exact ⟨rfl, .nil⟩
        | cons u us => simp at g1
      | cons c kvs ih =>
        intro us g1 g2
        cases us with
        | nil => simp at g1
        | cons u us =>
          simp only [List.map_cons, List.cons.injEq] at g1
          cases g2 with
          | cons r1 r2 =>
            obtain ⟨i1, i2⟩ := ih g1.2 r2
            simp only [List.map_cons]
            rw [g1.1]
            by_cases e : u.1 = k
            · rw [if_pos e, if_pos e]
              refine ⟨?_, .cons r i2⟩
              rw [List.cons.injEq]
              exact ⟨rfl, i1⟩
            · rw [if_neg e, if_neg e]
              refine ⟨?_, .cons r1 i2⟩
              rw [List.cons.injEq]
              exact ⟨g1.1, i1⟩
    exact key h1 h2
  · refine ⟨by rw [List.map_append, List.map_append, h1]; rfl, ?_⟩
    rw [List.map_append, List.map_append]
    exact h2.append (.cons r .nil)
end
theorem rept_len {K : PySem.W.Frag} {Hb : Hp} {al : List Addr} {us : List (List Key × V)} {kvs : List (List Key × D)} (h : RepT K Hb al us kvs) : kvs.length = us.length := by
  have := congrArg List.length h.1
  simpa using this
/-! {} -/
def dDictT0 : DTE := fun _ μ Q _ => Q (.ref μ.length) (μ ++ [.dtp []])
def gTGet : G2 := fun x y μ Q => match x, keyT y with
  | .ref l, some k => (match μ[l]? with
    | some (.dtp kvs) => (match valT kvs k with
      | some d => Q d μ
      | none => False)
    | _ => False)
  | _, _ => False
def dSetT (fo fi : DTE) : DTG := fun d Γ μ Q E => fo Γ μ (fun x μ1 => fi Γ μ1 (fun i μ2 => match x, keyT i with
  | .ref l, some k => (match μ2[l]? with
    | some (.dtp kvs) => kvs.length < sizeLine ∧ Q Γ (μ2.set l (.dtp (putT kvs k d)))
    | _ => False)
  | _, _ => False) E) E
def gLenT : GN := fun ds μ Q => match ds with
  | [.ref l] => (match μ[l]? with
    | some (.dtp kvs) => Q (.int kvs.length) μ
    | _ => False)
  | _ => False
section
variable {X : Cx} {W : WX} {a b o i : Expr} {pos p : Pos} {fa fb : DTE}
theorem de_dictT0 : DE X W (.Dict [] [] pos) dDictT0 := PE.imp pe_dnewT fun σ H Q ⟨n, Γ, μ, Qd, Ed, hH, sr, gr, h, hq, hx⟩ => by
  subst hH
  intro p hp
  refine hq (n.cell p (.dT [])) _ (.ref μ.length) (μ ++ [.dtp []]) (Step.cell hp) (sr.cellN (c := .dtp []) hp ⟨sr.hb hp, [], upd_same, rfl, .nil⟩ (fun k z => by cases z)) (.ref ?_) (show Qd (.ref μ.length) (μ ++ [Cell.dtp []]) from h)
  show (n.al ++ [p])[μ.length]? = some p
  rw [← sr.len]
  simp
theorem de_tget (hu : X.A.units + 1 < cLine) (ha : DE X W a fa) (hb : DE X W b fb) (hs : NoSl b := by exact fun _ _ => rfl) : DE X W (.Subscript a b pos) (dBin gTGet fa fb) := PE.imp (pe_dget hu ha hb hs) fun σ H Q ⟨n, Γ, μ, Qd, Ed, hH, sr, gr, h, hq, hx⟩ => by
  subst hH
  refine lift_go sr gr h (fun n1 x dx μ1 s1 r1 p1 q1 => lift_go r1 (gr.step s1) q1 (fun n2 y dy μ2 s2 r2 p2 q2 => ?_) (hx.step s1)) hx
  unfold gTGet at q2
  split at q2
  · rename_i l k e2
    split at q2
    · rename_i kvs e3
      split at q2
      · rename_i d e4
        cases p1 with
        | @ref _ c hl =>
          obtain ⟨bb, rfl, hb1, _⟩ := keyT_rep r2 p2 e2
          obtain ⟨_, us, g1, g2, g3⟩ := r2.cell _ _ _ (pre_get s2.pre hl) e3
          obtain ⟨v, v1, v2⟩ := rept_val ⟨g2, g3⟩ d e4
          refine ⟨c, v, rfl, ?_, hq n2 v d μ2 (s1.trans s2) r2 v2 q2⟩
          rw [← v1]
          exact DGet.t g1 hb1
      · exact q2.elim
    · exact q2.elim
  · exact q2.elim
theorem dg_setT (h : PG X (.Subscript o i pos) (gSub (lift X.K W fa) (lift X.K W fb) rSetD)) : DG X W (.Subscript o i pos) (dSetT fa fb) := PG.imp h fun v σ H Q ⟨n, d, Γ, μ, Qd, Ed, hH, sr, gr, rp, h, hq, hx⟩ => by
  subst hH
  refine lift_go sr gr h (fun n1 x dx μ1 s1 r1 p1 q1 => lift_go r1 (gr.step s1) q1 (fun n2 y dy μ2 s2 r2 p2 q2 => ?_) (hx.step s1)) hx
  split at q2
  · rename_i l k e1
    cases p1 with
    | @ref _ c hl =>
      obtain ⟨bb, rfl, hb1, _⟩ := keyT_rep r2 p2 e1
      split at q2
      · rename_i kvs e
        have hl2 := pre_get s2.pre hl
        obtain ⟨hb, us, g1, g2, g3⟩ := r2.cell _ _ _ hl2 e
        have hlen := rept_len ⟨g2, g3⟩
        obtain ⟨z1, z2⟩ := RepT.put (k := k) ⟨g2, g3⟩ ((s1.trans s2).rep rp)
        refine ⟨c, _, rfl, DPut.t g1 hb1 (by rw [← hlen]; exact q2.1), ?_⟩
        exact hq (n2.more c (.dT (putK us k v))) Γ σ _ ((s1.trans s2).trans (Step.write hl2 hb)) (r2.write hl2 hb (c := .dtp (putT kvs k d)) ⟨hb, _, upd_same, z1, z2⟩ (fun k z => by cases z)) ((gr.step (s1.trans s2)).step (Step.write hl2 hb)) q2.2
      · exact q2.elim
  · exact q2.elim
theorem de_lenT (hg : Gl X "len") (hm : X.mg "len" = none) (ha : DE X W a fa) (hs : starEach [a] X.env = (false, eval a X.env) :: starEach [] X.env := by rfl) : DE X W (.Call (.Name "len" p) [a] [] pos) (dCall gLenT (dCons fa dNil)) :=
  de_callB call_len_dT (fun n μ xs ds Qd Q s r q l => by
    unfold gLenT at q
    split at q
    · rename_i k
      cases r with
      | cons r1 r2 =>
        cases r2
        cases r1 with
        | @ref _ c hl =>
          split at q
          · rename_i kvs e
            obtain ⟨_, us, g1, g2, g3⟩ := s.cell _ _ _ hl e
            refine ⟨c, us, rfl, g1, ?_⟩
            rw [← rept_len ⟨g2, g3⟩]
            exact l.now s (.int _) q
          · exact q.elim
    · exact q.elim) hg hm (by decide +kernel) (da_cons ha da_nil hs) (he := hs)
end
/-! {k: v for x in xs}, the keys tuples -/
def dDtL (src : Option (Nat × List D)) (g : D → Gam → Mu → (Gam → Prop) → Prop) (tt : DTT) (tk tv : DTE) (Γ : Gam) : List D → List (List Key × D) → Mu → (List (List Key × D) → Mu → Prop) → Prop
  | [], acc, μ, Q => Gd src μ ∧ Q acc μ
  | d :: ds, acc, μ, Q => Gd src μ ∧ g d Γ μ fun Γ1 => tt Γ1 μ (fun b μ2 => cond b (tk Γ1 μ2 (fun y μ3 => tv Γ1 μ3 (fun z μ4 => match keyT y with | some k => acc.length < sizeLine ∧ dDtL src g tt tk tv Γ ds (putT acc k z) μ4 Q | none => False) (fun _ _ => False)) (fun _ _ => False)) (dDtL src g tt tk tv Γ ds acc μ2 Q)) (fun _ _ => False)
def dDt (vs : List Nat) (fi : DTI) (g : D → Gam → Mu → (Gam → Prop) → Prop) (tt : DTT) (tk tv : DTE) : DTE := fun Γ μ Q E => fi Γ μ (fun src ds μ1 => dDtL src g tt tk tv (wipeG Γ vs) ds [] μ1 fun acc μ2 => Q (.ref μ2.length) (μ2 ++ [.dtp acc])) E
theorem dt_go {K : PySem.W.Frag} {W : WX} {vs : List Nat} {fi : DTI} {g : TG} {gd : D → Gam → Mu → (Gam → Prop) → Prop} {tt : DTT} {tk tv : DTE} (hg : CT K vs g gd) (σ : L2.St) (H : Hp) (Q : VK) (h : lift K W (dDt vs fi gd tt tk tv) σ H Q) :
    tDcT (liftI K W fi) g (liftT K W0 tt) (lift K W0 tk) (lift K W0 tv) vs σ H Q := by
  obtain ⟨n, Γ, μ, Qd, Ed, hH, sr, gr, h, hq, hx⟩ := h
  subst hH
  refine ⟨n, Γ, μ, _, _, rfl, sr, gr, h, fun n1 src ds μ1 J s1 r1 w q p hp => ?_, hx⟩
  have gw := (gr.step s1).wipe vs
  refine ⟨fun i m H' => m = ds.length - i ∧ i ≤ ds.length ∧ ∃ n2 μ2 acc us, n2.H = H' ∧ Step n1 n2 ∧ SR0 K n2 μ2 ∧ Hid n2 p ∧ n2.H p = some (.dT us) ∧ RepT K n2.Hb n2.al us acc ∧ dDtL src gd tt tk tv (wipeG Γ vs) (ds.drop i) acc μ2 (fun acc μ2 => Qd (.ref μ2.length) (μ2 ++ [Cell.dtp acc])),
    ⟨ds.length, by simp, Nat.zero_le _, n1.more p (.dT []), μ1, [], [], rfl, Step.more hp, r1.more hp, ⟨r1.hb hp, r1.nal hp, r1.nph hp⟩, upd_same, ⟨rfl, .nil⟩, q⟩, ?_⟩
  rintro i m H' ⟨rfl, hi, n2, μ2, acc, us, rfl, s2, r2, hid, hv, rp, q2⟩
  have gd2 : Gd src μ2 := by
    cases hd : ds.drop i with
    | nil => rw [hd] at q2; exact q2.1
    | cons d r => rw [hd] at q2; exact q2.1
  by_cases hlt : i < ds.length
  · refine .inr ⟨w.goes n2 μ2 i s2.sp r2 gd2 hlt, _, fun H3 p3 => ⟨ds.length - (i + 1), by omega, p3⟩, fun x H3 y => ?_⟩
    rw [List.drop_eq_getElem_cons hlt] at q2
    obtain ⟨n3, rfl, s3, r3, p3⟩ := w.yields n2 μ2 i x H3 ds[i] s2.sp r2 gd2 (by rw [List.getElem?_eq_getElem hlt]) y
    refine hg n3 μ2 x ds[i] (wipeG Γ vs) (L2.wipe σ vs) _ _ r3 ((gw.step s2).step s3) p3 q2.2 fun Γ4 σ4 g4 hl4 ha4 q4 => ⟨?_, ?_⟩
    · refine (wipe_eq hl4 ha4).trans ?_
      exact wipe_eq (L2.wipe_length σ vs) (fun k hk => by rw [wipe_get, if_neg hk])
    · refine liftT_go r3 g4 q4 (fun n5 b μ5 s5 r5 q5 => ?_) (fun _ _ _ _ _ _ _ _ z => z)
      obtain ⟨hid3, hv3⟩ := hid.step hv s3
      obtain ⟨hid5, hv5⟩ := hid3.step hv3 s5
      cases b with
      | false =>
        exact iteF ⟨rfl, hlt, n5, μ5, acc, us, rfl, (s2.trans s3).trans s5, r5, hid5, hv5, ⟨rp.1, (s3.trans s5).reps rp.2⟩, q5⟩
      | true =>
        refine iteT (lift_go r5 (g4.step s5) q5 (fun n6 y dy μ6 s6 r6 p6 q6 => lift_go r6 ((g4.step s5).step s6) q6 (fun n7 z dz μ7 s7 r7 p7 q7 => ?_) (fun _ _ _ _ _ _ _ _ z => z)) (fun _ _ _ _ _ _ _ _ z => z))
        obtain ⟨hid6, hv6⟩ := hid5.step hv5 s6
        obtain ⟨hid7, hv7⟩ := hid6.step hv6 s7
        split at q7
        · rename_i k e
          obtain ⟨bb, rfl, hb1, _⟩ := keyT_rep r7 (s7.rep p6) e
          have rp7 : RepT K n7.Hb n7.al us acc := ⟨rp.1, (((s3.trans s5).trans s6).trans s7).reps rp.2⟩
          have hlen := rept_len rp
          refine ⟨us, k, bb, rfl, hb1, hv7, by rw [← hlen]; exact q7.1, rfl, hlt, n7.more p (.dT (putK us k z)), μ7, putT acc k dz, putK us k z, rfl, Step.other ((((s2.trans s3).trans s5).trans s6).trans s7) hp, r7.other hid7, ⟨hid7.b, hid7.a, hid7.ph⟩, upd_same, RepT.put rp7 p7, q7.2⟩
        · exact q7.elim
  · have e : i = ds.length := by omega
    subst e
    rw [List.drop_length] at q2
    refine .inl ⟨w.stops n2 μ2 s2.sp r2 gd2, ?_⟩
    refine hq ⟨n2.Hb, n2.H, n2.al ++ [p], n2.ph⟩ _ (.ref μ2.length) (μ2 ++ [Cell.dtp acc]) (s1.trans (Step.adoptC s2 hp)) (r2.adoptC hid hv (c := .dtp acc) ⟨hid.b, us, hv, rp.1, rp.2.mono (Same.refl _) (List.prefix_append _ _)⟩ (fun k z => by cases z)) (.ref ?_) q2.2
    show (n2.al ++ [p])[μ2.length]? = _
    rw [← r2.len]; simp
section
variable {X : Cx} {W : WX} {kx vx tg iter : Expr} {ifs : List Expr} {scope : Scope} {own : List (Str × Nat)} {pos : Pos} {fi : DTI} {g : TG} {gd : D → Gam → Mu → (Gam → Prop) → Prop} {tt : DTT} {tk tv : DTE}
theorem de_dt (hu : X.A.units < cLine) (hc : X.calm = true) (hN : X.N.Nodup) (hi : DI X W tg iter fi) (ok : BlkOk X.N X.env.scope scope own) (hct : CT X.K (own.map (·.2)) g gd)
    (hg : InB X scope fun Y => PG Y tg g) (ht : InB X scope fun Y => PTs Y ifs (liftT X.K W0 tt)) (hk : InB X scope fun Y => PE Y kx (lift X.K W0 tk)) (he : InB X scope fun Y => PE Y vx (lift X.K W0 tv)) (hs : ∀ x, foldedSetIterable iter X.env x = pure x := by intro _; rfl) :
    DE X W (.DictComp kx vx [⟨tg, iter, ifs, 0⟩] scope pos) (dDt (own.map (·.2)) fi gd tt tk tv) := PE.imp (pe_dcT hu hc hN hi ok hg ht hk he hs) fun σ H Q h => dt_go hct σ H Q h
end
end DV
/-! sorted(d), d a dict whose keys are pairs of ints, any size: a list of the keys, in some order. -/
namespace DV
open PySem PySem.Spec PyProof.Rows L2
section
variable {X : Cx} {pins : List (Addr × Obj)} {σ : L2.St} {H : Hp} {s : Shared}
/-- a tuple of two ints is one in the heap -/
theorem pair_raw (I : Inv X pins σ H s) {b : Addr} {i j : Int} (e : H b = some (.tup [.int i, .int j])) : Srt.IsPair s.heap (.ref b) i j := by
  obtain ⟨_, its, rv, o, ho, hc, n, hd⟩ := (show ObjOk X.prog X.w H s.heap b (.tup [.int i, .int j]) from I.hok b _ e)
  cases rv with
  | cons r1 rest =>
    cases rest with
    | cons r2 rest =>
      cases rest
      obtain ⟨t, rfl⟩ := r1
      obtain ⟨u, rfl⟩ := r2
      exact ⟨b, o, t, u, n, rfl, ho, hc, hd⟩
/-- pairs collected at L are put in order there: some order -/
theorem sort_pairs {L : Addr} {bs : List Addr} {n : Nat} {A : Around} {E : Value → Shared → Prop} {Q : Value → Shared → Prop} (ho : s.heap.get? L = some (seqObj "list" (bs.map Value.ref).toArray n)) (hz : bs.length ≤ sizeLine) (hp : ∀ b ∈ bs, ∃ i j, Srt.IsPair s.heap (.ref b) i j)
    (q : ∀ out : List Addr, out.Perm bs → Q .none { s with heap := sortedHeap s.heap L (bs.map Value.ref) (out.map Value.ref).toArray }) :
    wpAny (model X.prog X.w) A (Builtin.«list.sort» ⟨[.ref L], []⟩) (fun fin s' => ∃ v, fin = .done (.ret v) ∧ Q v s') E s := by
  refine Srt.list_sort_any ho (by rw [List.length_map]; exact hz) (fun h2 => Srt.pairs_sortable (by omega) (fun v hv => ?_) fun o e => ?_) fun out pm => ?_
  · obtain ⟨b, hb, rfl⟩ := List.mem_map.mp hv
    exact hp b hb
  · have e' := e.symm.trans ho
    cases e'
    exact fun c => absurd (Value.type.inj c) (by decide)
  · obtain ⟨zs, pz, ez⟩ : ∃ zs : List Addr, zs.Perm bs ∧ zs.map Value.ref = out := by
      have back : ∀ v ∈ out, ∃ b, v = Value.ref b := fun v hv => by
        obtain ⟨b, _, e⟩ := List.mem_map.mp (pm.mem_iff.mp hv)
        exact ⟨b, e.symm⟩
      let un : Value → Addr := fun v => match v with | .ref b => b | _ => 0
      refine ⟨out.map un, ?_, ?_⟩
      · have := pm.map un
        rw [List.map_map] at this
        simpa [Function.comp_def, un] using this
      · rw [List.map_map]
        refine (List.map_congr_left fun v hv => ?_).trans (List.map_id out)
        obtain ⟨b, rfl⟩ := back v hv
        rfl
    subst ez
    exact ⟨_, rfl, q zs pz⟩
def rSortDT : List V → Hp → VK → Prop := fun vs H Q => ∃ (d : Addr) (kvs : List (List Key × V)), vs = [.ref d] ∧ H d = some (.dT kvs) ∧ (∀ p ∈ kvs, ∃ i j : Int, p.1 = [.inl i, .inl j]) ∧
  ∀ (bs out : List Addr) p, IsKeys H kvs bs → out.Perm bs → H p = none → Q (.ref p) (upd H p (.lst (out.map V.ref)))
theorem keys_in {H : Hp} : ∀ {kvs : List (List Key × V)} {bs : List Addr}, IsKeys H kvs bs → ∀ b ∈ bs, ∃ p ∈ kvs, H b = some (.tup (p.1.map kV)) := by
  intro kvs bs h
  unfold IsKeys at h
  induction h with
  | nil => intro b hb; cases hb
  | cons h t ih =>
    intro b hb
    rcases List.mem_cons.mp hb with rfl | hb
    · exact ⟨_, List.mem_cons_self, h⟩
    · obtain ⟨p, h1, h2⟩ := ih b hb
      exact ⟨p, List.mem_cons_of_mem _ h1, h2⟩
theorem vals_addr : ∀ bs : List Addr, Vals (bs.map V.ref) (bs.map Value.ref)
  | [] => .nil
  | _ :: bs => .cons rfl (vals_addr bs)
theorem cr_sortDT (hc : X.calm = true) : CallR X (.builtin "sorted") rSortDT := by
  intro pins s σ H vs us Q I r h
  obtain ⟨d, kvs, rfl, hd, hp, q⟩ := h
  rw [Vals.ref1 r]
  obtain ⟨z, lo, ks, pr, o, es, ep, ho, hx, hdt, he, hn⟩ := (show ObjOk X.prog X.w H s.heap d (.dT kvs) from I.hok d _ hd)
  have l1 := size_of_entries he
  have l2 : kvs.length = ks.length := Paired.length pr
  have ik := isKeys_of pr
  refine Calls.call_function_entry kind_sorted plain_sorted entry_sorted (args_sorted1 _) (show wpAny _ _ (Builtin.«sorted» _) _ _ s from ?_)
  unfold Builtin.«sorted»
  refine wpAny_bind (m := checkCount "sorted" 1 1 _) (wpAny_pure (wpAny_bind (PySem.W.kdu_collect (A := X.A.in1) (kdl_raw lo hx hdt) (I.ok.hd hc) ho (by omega) fun h' tk acc hk hacc => ?_)))
  have ea : acc.toList = (ks.map fun x => x.2.1).map Value.ref := by
    refine List.ext_getElem? fun j => ?_
    cases hj : acc.toList[j]? with
    | none =>
      have : acc.toList.length ≤ j := List.getElem?_eq_none_iff.mp hj
      have hl : acc.toList.length = ks.length := by rw [Array.length_toList, hacc.1, l1]
      exact (List.getElem?_eq_none (by simp; omega)).symm
    | some v =>
      obtain ⟨en, hen, rfl⟩ := hacc.2 j v (by rw [← Array.getElem?_toList]; exact hj)
      have qe := entry_at he j
      rw [hen] at qe
      cases hb : ks[j]? with
      | none => rw [hb] at qe; cases qe
      | some b =>
        rw [hb] at qe
        have e2 : en = entryOfKey (tupleKind (mixKind X.prog X.w)) b := Option.some.inj qe
        simp only [List.getElem?_map, hb]
        rw [e2]
        rfl
  have I1 : Inv X pins σ H { s with heap := h', toks := tk } := I.kept hk
  generalize hbs : ks.map (fun x => x.2.1) = bs at ea ik
  have lb : bs.length = ks.length := by rw [← hbs, List.length_map]
  rw [ea]
  refine wpAny_bind (wpAny_newList ?_ (by rw [List.length_map]; omega))
  have hoL : (h'.push (seqObj "list" (bs.map Value.ref).toArray 0)).get? h'.objs.size = some (seqObj "list" (bs.map Value.ref).toArray 0) := Heap.get?_push_size _ rfl
  let s2 : Shared := { s with heap := h'.push (seqObj "list" (bs.map Value.ref).toArray 0), toks := tk }
  have up : ∀ b ob, h'.get? b = some ob → s2.heap.get? b = some ob := fun b ob e => Heap.get?_push_of_some _ e
  have prs : ∀ b ∈ bs, ∃ i j, Srt.IsPair s2.heap (.ref b) i j := fun b hb => by
    obtain ⟨p, hp1, hp2⟩ := keys_in ik b hb
    obtain ⟨i, j, e⟩ := hp p hp1
    rw [e] at hp2
    exact ⟨i, j, (pair_raw I1 hp2).keeps fun c ob e _ => up c ob e⟩
  refine wpAny_bind (wpAny_holding (wpAny_call_entry slot_list_sort ⟨_, hoL, rfl⟩ entry_list_sort (sort_pairs (X := X) (s := s2) (L := h'.objs.size) (bs := bs) (n := 0) hoL (by omega) prs fun out pm => ?_) (args_list_sort _)))
  obtain ⟨c, hc2⟩ := sortedHeap_at (vs := bs.map Value.ref) (out := (out.map Value.ref).toArray) hoL
  refine wpAny_pure ⟨_, rfl, .ref h'.objs.size, _, I1.laid (o := .lst (out.map V.ref)) (t' := tk) (fun b u e => ?_) (Nat.le_refl _) ?_, rfl, q bs out _ ik pm (I1.hok.fresh (Nat.le_refl _))⟩
  · have hb : b < h'.objs.size := Heap.lt_size e
    exact (sortedHeap_old (Nat.ne_of_lt hb) (by rw [size_push']; exact Nat.lt_succ_of_lt hb)).trans (up b u e)
  · exact ⟨by rw [List.length_map, pm.length_eq]; omega, out.map Value.ref, c, vals_addr out, hc2⟩
end
/-! deep -/
def pk (p : Nat × Nat) : List Key := [.inl (p.1 : Int), .inl (p.2 : Int)]
def pkD (k : List Key) : D := .tup (k.map fun x => match x with | .inl i => .int i | .inr z => .str z)
def gSortT : GN := fun ds μ Q => match ds with
  | [.ref l] => (match μ[l]? with
    | some (.dtp kvs) => (∀ p ∈ kvs, ∃ i j : Int, p.1 = [.inl i, .inl j]) ∧ ∀ out : List (List Key), out.Perm (kvs.map (·.1)) → Q (.lst (out.map pkD)) μ
    | _ => False)
  | _ => False
theorem kv_rep {K : PySem.W.Frag} {Hb : Hp} {al : List Addr} : ∀ (k : List Key), Reps K Hb al (k.map kV) (k.map fun x => match x with | .inl i => .int i | .inr z => .str z)
  | [] => .nil
  | .inl i :: k => .cons (.int i) (kv_rep k)
  | .inr z :: k => .cons (.str z) (kv_rep k)
end DV
/-! Sets of pairs as objects: a new one, set.add, sorted (some order). -/
namespace DV
open PySem PySem.Spec PyProof.Rows L2
/-- the set at a without the tuples themselves -/
def SetX (P : Program) (w : World) (h : Heap) (a : Addr) (L : List (Addr × List Int)) : Prop := ∃ (es : Array (Int × Value)) (ep : Nat) (t : SetTable), (∃ ob, h.get? a = some ob ∧ ob.ExactSet ∧ ob.data = .set es ep t) ∧ es.toList = rowsOf P w L ∧ TabOk t (L.map fun p => thash P w p.2) ∧ (L.map Prod.snd).Nodup ∧ t.plain = true ∧
  (w.params.followText "set-order" = true ∨ t.led = true) ∧ ((L.length * 5 < t.mask * 3 ∧ L.length < 64) ∨ (L.length = 64 ∧ t.mask = 127))
def SetXO (P : Program) (w : World) (a : Addr) (L : List (Addr × List Int)) : HO := .ext fun h => SetX P w h a L
section
variable {P : Program} {w : World} {h : Heap} {a : Addr} {L : List (Addr × List Int)}
theorem SetX.full (r : SetX P w h a L) (k : ∀ p ∈ L, IsT P w h p.2 p.1) : SetW P w h a L := by
  obtain ⟨es, ep, t, r1, r2, r3, r4, r5, r6, r7⟩ := r
  rcases r7 with ⟨r7, r8⟩ | ⟨r7, r8⟩
  · exact ⟨es, ep, t, .inl ⟨r1, r2, r3, r4, k, r5, r6, r7, r8⟩⟩
  · exact ⟨es, ep, t, .inr ⟨r1, r2, r3, r4, k, r5, r6, r7, r8⟩⟩
theorem SetW.x (r : SetW P w h a L) : SetX P w h a L := by
  obtain ⟨es, ep, t, r | r⟩ := r
  · exact ⟨es, ep, t, r.ob, r.rows, r.tab, r.nd, r.plain, r.led, .inl ⟨r.room, r.few⟩⟩
  · exact ⟨es, ep, t, r.at_, r.rw_, r.tb, r.dup, r.pl, r.ld, .inr ⟨r.n64, r.m127⟩⟩
theorem SetX.has (r : SetX P w h a L) : ∃ ob, h.get? a = some ob ∧ ob.ExactSet := by
  obtain ⟨_, _, _, ⟨ob, h1, h2, _⟩, _⟩ := r
  exact ⟨ob, h1, h2⟩
theorem SetX.keep {h' : Heap} (r : SetX P w h a L) (k : ∀ o, h.get? a = some o → h'.get? a = some o) : SetX P w h' a L := by
  obtain ⟨es, ep, t, ⟨ob, h1, h2, h3⟩, r⟩ := r
  exact ⟨es, ep, t, ⟨ob, k _ h1, h2, h3⟩, r⟩
theorem SetX.le (r : SetX P w h a L) : L.length ≤ 64 := by
  obtain ⟨_, _, _, _, _, _, _, _, _, ⟨_, z⟩ | ⟨z, _⟩⟩ := r <;> omega
theorem SetX.nd (r : SetX P w h a L) : (L.map Prod.snd).Nodup := by
  obtain ⟨_, _, _, _, _, _, z, _⟩ := r
  exact z
theorem setX_new {H : Hp} (r : SetX P w h a L) : ObjOk P w H h a (SetXO P w a L) := by
  obtain ⟨ob, h1, _⟩ := r.has
  exact ⟨r, ⟨ob, h1⟩, fun h1 h2 p k => SetX.keep p k⟩
end
section
variable {X : Cx} {pins : List (Addr × Obj)} {σ : L2.St} {H : Hp} {s : Shared}
theorem setX_get {a : Addr} {L : List (Addr × List Int)} (I : Inv X pins σ H s) (ha : H a = some (SetXO X.prog X.w a L)) : SetX X.prog X.w s.heap a L := (I.hok a _ ha).1
theorem tup_isT (I : Inv X pins σ H s) {b : Addr} {k : List Int} (e : H b = some (.tup (k.map V.int))) : IsT X.prog X.w s.heap k b := Inv.isT I (.inl (.inl e))
/-- set.add of a tuple of ints -/
theorem addX_ok {E : Value → Shared → Prop} {a x : Addr} {L : List (Addr × List Int)} {k : List Int} {Q : Value → Shared → Prop} (I : Inv X pins σ H s) (hu : X.A.units + 64 < cLine) (hS : H a = some (SetXO X.prog X.w a L)) (hL : ∀ p ∈ L, H p.1 = some (.tup (p.2.map V.int))) (hx : H x = some (.tup (k.map V.int)))
    (few : k ∉ L.map Prod.snd → L.length < 64)
    (h : ∀ s' L', (k ∈ L.map Prod.snd → L' = L) → (k ∉ L.map Prod.snd → L'.Perm ((x, k) :: L)) → Inv X pins σ (upd H a (SetXO X.prog X.w a L')) s' → Q .none s') : wpAny (model X.prog X.w) X.A (call (.builtin "set.add") [.ref a, .ref x]) Q E s := by
  have r := setX_get I hS
  have hw : SetW X.prog X.w s.heap a L := r.full fun p hp => tup_isT I (hL p hp)
  have hT := tup_isT I hx
  have hu' : X.A.in1.units < cLine := by show X.A.units + 1 < cLine; omega
  obtain ⟨ob, g1, g2⟩ := r.has
  refine wpAny_call_entry PySem.F.slot_set_add (⟨ob, g1, g2.1⟩ : s.TypeIs (.ref a) "set") PySem.F.entry_set_add ?_ (PySem.F.args_set_add_2 _ _)
  unfold Builtin.«set.add» Builtin.Frozenset.oneOther
  simp only [List.isEmpty_nil, bind_assoc]
  unfold Builtin.Frozenset.addrOf setAdd
  refine wpAny_bind (wpAny_pure ?_)
  try dsimp only
  refine wpAny_bind (wpAny_pure ?_)
  try dsimp only
  refine wpAny_bind (wpAny_holding (wpAny_bind (wpAny_pyHash_tuple hu' hT ?_)))
  refine addW (s := { s with toks := s.toks + (k.length + 1) }) hw hT hu' few fun b h' L' sb new c1 c2 => ?_
  show wpAny _ _ (ret Value.none) _ _ _
  have new := new.x
  obtain ⟨ob', g', _⟩ := new.has
  exact wpAny_pure ⟨_, rfl, h _ L' c1 c2 (I.write (e := a) (t' := s.toks + (k.length + 1)) (by rw [hS]; trivial) (.inl rfl) (fun b u hb hu => (sb.2 b hb).trans hu) ⟨_, g'⟩ (setX_new new))⟩
/-- sorted(s): the members, in some order -/
def rSortX (P : Program) (w : World) : List V → Hp → VK → Prop := fun vs H Q => ∃ (a : Addr) (L : List (Addr × List Int)), vs = [V.ref a] ∧ H a = some (SetXO P w a L) ∧ (∀ p ∈ L, H p.1 = some (.tup (p.2.map V.int)) ∧ ∃ i j, p.2 = [i, j]) ∧
  ∀ (out : List Addr) p, out.Perm (L.map Prod.fst) → H p = none → Q (.ref p) (upd H p (.lst (out.map V.ref)))
theorem cr_sortX (hc : X.calm = true) : CallR X (.builtin "sorted") (rSortX X.prog X.w) := by
  intro pins s σ H vs us Q I r h
  obtain ⟨a, L, rfl, ha, hL, q⟩ := h
  rw [Vals.ref1 r]
  have rx := setX_get I ha
  have le := rx.le
  obtain ⟨es, ep, t, ⟨ob, h1, h2, h3⟩, h4, h5, h6, h7, h8, h9⟩ := rx
  have hz : es.size = L.length := by rw [← Array.length_toList, h4, rowsOf, List.length_map]
  have fit : t.fits es.size = true := by
    have z := h5.sz
    rw [List.length_map] at z
    unfold SetTable.fits SetTable.fill
    rw [h5.dm, Bool.and_eq_true, beq_iff_eq, decide_eq_true_eq, hz, z]
    refine ⟨rfl, ?_⟩
    show L.length + 0 ≤ t.mask
    rcases h9 with ⟨y, _⟩ | ⟨y, y2⟩ <;> omega
  refine Calls.call_function_entry kind_sorted plain_sorted entry_sorted (args_sorted1 _) (show wpAny _ _ (Builtin.«sorted» _) _ _ s from ?_)
  unfold Builtin.«sorted»
  refine wpAny_bind (m := checkCount "sorted" 1 1 _) (wpAny_pure (wpAny_bind (collect_set (A := X.A.in1) (I.ok.hd hc) ⟨ob, h1, h2.1, h3⟩ fit (by rw [hz]; unfold scanBound; omega) h5.ris h8 fun s1 vs k1 hsz g1 o1 pm => ?_)))
  have back : es.toList.map (·.2) = (L.map Prod.fst).map Value.ref := by rw [h4, rowsOf, List.map_map, List.map_map]; rfl
  rw [back] at pm
  obtain ⟨bs, pb, rfl⟩ : ∃ bs : List Addr, bs.Perm (L.map Prod.fst) ∧ bs.map Value.ref = vs := by
    refine ⟨vs.map fun v => match v with | .ref b => b | _ => 0, ?_, ?_⟩
    · have z := pm.map fun v => match v with | Value.ref b => b | _ => 0
      rw [List.map_map] at z
      simpa [Function.comp_def] using z
    · rw [List.map_map]
      refine (List.map_congr_left fun v hv => ?_).trans (List.map_id vs)
      obtain ⟨b, _, rfl⟩ := List.mem_map.mp (pm.mem_iff.mp hv)
      rfl
  have lb : bs.length ≤ 64 := by rw [pb.length_eq, List.length_map]; exact le
  refine wpAny_bind (wpAny_newList ?_ (by rw [List.length_map, sizeLine_eq]; omega))
  have hoL : (s1.heap.push (seqObj "list" (bs.map Value.ref).toArray 0)).get? s1.heap.objs.size = some (seqObj "list" (bs.map Value.ref).toArray 0) := Heap.get?_push_size _ rfl
  let s2 : Shared := { s1 with heap := s1.heap.push (seqObj "list" (bs.map Value.ref).toArray 0) }
  have up : ∀ b o, s.heap.get? b = some o → s2.heap.get? b = some o := fun b o e => Heap.get?_push_of_some _ (k1 b o e)
  have prs : ∀ b ∈ bs, ∃ i j, Srt.IsPair s2.heap (.ref b) i j := fun b hb => by
    obtain ⟨p, hp, rfl⟩ := List.mem_map.mp (pb.mem_iff.mp hb)
    obtain ⟨e, i, j, e2⟩ := hL p hp
    rw [e2] at e
    exact ⟨i, j, (pair_raw I e).keeps fun c o e _ => up c o e⟩
  refine wpAny_bind (wpAny_holding (wpAny_call_entry slot_list_sort ⟨_, hoL, rfl⟩ entry_list_sort (sort_pairs (X := X) (s := s2) (L := s1.heap.objs.size) (bs := bs) (n := 0) hoL (by rw [sizeLine_eq]; omega) prs fun out po => ?_) (args_list_sort _)))
  obtain ⟨c, hc2⟩ := sortedHeap_at (vs := bs.map Value.ref) (out := (out.map Value.ref).toArray) hoL
  have keep : ∀ b u, s.heap.get? b = some u → (sortedHeap (s1.heap.push (seqObj "list" (bs.map Value.ref).toArray 0)) s1.heap.objs.size (bs.map Value.ref) (out.map Value.ref).toArray).get? b = some u := fun b u e => by
    have hb : b < s1.heap.objs.size := Heap.lt_size (k1 b u e)
    exact (sortedHeap_old (Nat.ne_of_lt hb) (by rw [size_push']; exact Nat.lt_succ_of_lt hb)).trans (up b u e)
  have hp : s.heap.objs.size ≤ s1.heap.objs.size := hsz
  have hn : H s1.heap.objs.size = none := I.hok.fresh hp
  have J : Inv X pins σ (upd H s1.heap.objs.size (.lst (out.map V.ref))) { s with heap := sortedHeap (s1.heap.push (seqObj "list" (bs.map Value.ref).toArray 0)) s1.heap.objs.size (bs.map Value.ref) (out.map Value.ref).toArray, gens := s1.gens, drawn := s1.drawn, toks := s1.toks } :=
    I.call (ch := []) (Un.laid keep hp hn) (I.hok.laid keep hp ⟨by rw [List.length_map, po.length_eq, sizeLine_eq]; omega, out.map Value.ref, c, vals_addr out, hc2⟩) (by rw [g1]; exact I.bare) (fun _ z => nomatch z)
  have e : ({ s2 with heap := sortedHeap s2.heap s1.heap.objs.size (bs.map Value.ref) (out.map Value.ref).toArray } : Shared) = { s with heap := sortedHeap (s1.heap.push (seqObj "list" (bs.map Value.ref).toArray 0)) s1.heap.objs.size (bs.map Value.ref) (out.map Value.ref).toArray, gens := s1.gens, drawn := s1.drawn, toks := s1.toks } := by
    cases s1; cases s; cases o1; rfl
  refine wpAny_pure ⟨_, rfl, ?_⟩
  show ∃ v H', Inv X pins σ H' { s2 with heap := sortedHeap s2.heap s1.heap.objs.size (bs.map Value.ref) (out.map Value.ref).toArray } ∧ _
  rw [e]
  exact ⟨.ref s1.heap.objs.size, _, J, rfl, q out _ (po.trans pb) hn⟩
end
end DV
/-! {e for x in xs for y in ys} of pairs. -/
namespace DV
open PySem PySem.Spec PyProof.Rows L2
theorem setX_fresh {P : Program} {w : World} {h : Heap} : SetX P w (h.push { cls := .type "set", dict := none, data := .set #[] 0 (.fresh 0 0 (!w.params.followText "set-order")) }) h.objs.size [] :=
  SetW.x ⟨_, _, _, .inl (L2.setTR_fresh (Heap.get?_push_size _ rfl))⟩
section
variable {X : Cx}
/-- {elt for t0 in i0 for t1 in i1}, elt a tuple of ints: q the new set -/
def tSc2P (P : Program) (w : World) (wi : TI) (g : TG) (wi1 : TI) (g1 : TG) (te : TE) (vs vs1 : List Nat) : TE := fun σ H Q => wi σ H fun J H1 => ∀ q, H1 q = none → ∃ W : Nat → Nat → Hp → Prop, (∃ m, W 0 m (upd H1 q (SetXO P w q []))) ∧ ∀ i m H, W i m H →
  (J.stop i H ∧ Q (.ref q) H) ∨ (J.go i H ∧ ∃ Nx : Hp → Prop, (∀ H', Nx H' → ∃ m', m' < m ∧ W (i + 1) m' H') ∧ ∀ x H', J.yld i H x H' → g x (L2.wipe σ vs) H' fun σ2 H2 => L2.wipe σ2 vs = L2.wipe σ vs ∧ wi1 σ2 H2 fun J1 H4 => ∃ W1 : Nat → Nat → Hp → Prop, (∃ m, W1 0 m H4) ∧ ∀ j k H, W1 j k H →
    (J1.stop j H ∧ Nx H) ∨ (J1.go j H ∧ ∃ Nx1 : Hp → Prop, (∀ H', Nx1 H' → ∃ k', k' < k ∧ W1 (j + 1) k' H') ∧ ∀ x H', J1.yld j H x H' → g1 x (L2.wipe σ2 vs1) H' fun σ3 H5 => L2.wipe σ3 vs1 = L2.wipe σ2 vs1 ∧
      te σ3 H5 fun y H7 => ∃ (z : Addr) (k : List Int) (l : List (Addr × List Int)), y = .ref z ∧ H7 z = some (.tup (k.map V.int)) ∧ H7 q = some (SetXO P w q l) ∧ (∀ p ∈ l, H7 p.1 = some (.tup (p.2.map V.int))) ∧ (k ∉ l.map Prod.snd → l.length < 64) ∧ ∀ l', (k ∈ l.map Prod.snd → l' = l) → (k ∉ l.map Prod.snd → l'.Perm ((z, k) :: l)) → Nx1 (upd H7 q (SetXO P w q l'))))
theorem sc2P_core {use : Option (Value → Sem Unit)} {Qf : Value → Shared → Prop} {pins : List (Addr × Obj)} {s : Shared} {σ : L2.St} {H : Hp} {Q : VK} {elt t0 i0 t1 i1 : Expr} {scope : Scope} {own : List (Str × Nat)} {vs1 : List Nat} {pos : Pos} {wi wi1 : TI} {g g1 : TG} {te : TE} (hc : X.calm = true) (hu : X.A.units + 64 < cLine) (hN : X.N.Nodup) (hi : PI X t0 i0 wi) (ok : BlkOk X.N X.env.scope scope own) (hv : ∀ i ∈ vs1, i ∈ own.map (·.2))
    (hg : InB X scope fun Y => PG Y t0 g) (hi1 : InB X scope fun Y => PI Y t1 i1 wi1) (hg1 : InB X scope fun Y => PG Y t1 g1) (he : InB X scope fun Y => PE Y elt te)
    (hs : ∀ x, foldedSetIterable i0 X.env x = pure x := by intro _; rfl) (hs1 : ∀ env x, foldedSetIterable i1 env x = pure x := by intro _ _; rfl)
    (I : Inv X pins σ H s) (h : tSc2P X.prog X.w wi g wi1 g1 te (own.map (·.2)) vs1 σ H Q)
    (fin : ∀ q C (u : Shared) m H', Inv X pins σ H' u → Q (.ref q) H' → u.heap.Ns C m → FpOk X pins H' C → compPost (model X.prog X.w) X.A X.xe use Qf (.ref q) C (.ok .next) u) :
    wpAny (model X.prog X.w) X.A (comprehension (sc2 elt t0 i0 t1 i1 scope pos) scope X.env (firstIterPos [⟨t0, i0, [], 0⟩, ⟨t1, i1, [], 0⟩] pos) (newSet (.type "set")) false (eval i0 X.env) use) Qf X.xe s := by
  have clo : ∀ y ∈ scope.names, y.2 = .free → ∃ c, X.env.cells.lookup y.1 = some c := fun y hy e => (ok.free y hy e).elim (fun k => I.ok.has _ (.inl k)) fun k => I.ok.has _ (.inr k)
  refine wpAny_comprehension_free (use := use) rfl hs (closure_ok clo) ok.kind (fun y hy e => (ok.uniq y hy).trans (by rw [e])) (thn (hi.run pins s σ H _ I h) fun xv s1 hx => thn hx fun itv s2 ⟨it, fp, tn, J, H2, e, I2, T, st2, f2, body⟩ => PpSet.newSet_ok (newEnv_comp ?_))
  subst e
  -- the new set
  have hq : H2 s2.heap.objs.size = none := I2.hok.fresh (Nat.le_refl _)
  obtain ⟨W, ⟨m0, w0⟩, turn⟩ := body _ hq
  let s3 : Shared := { s2 with heap := s2.heap.push { cls := .type "set", dict := none, data := .set #[] 0 (.fresh 0 0 (!X.w.params.followText "set-order")) } }
  have I3 : Inv X pins σ (upd H2 s2.heap.objs.size (SetXO X.prog X.w s2.heap.objs.size [])) s3 := I2.laid (t' := s2.toks) (fun b o z => Heap.get?_push_of_some _ z) (Nat.le_refl _) (setX_new setX_fresh)
  have f3 : ∀ b ∈ fp, FpOk X pins (upd H2 s2.heap.objs.size (SetXO X.prog X.w s2.heap.objs.size [])) b ∧ b < s3.heap.objs.size := fun b hb => by
    obtain ⟨o, z, _⟩ := T.obj _ _ st2 b hb
    have lt := Heap.lt_size z
    exact ⟨⟨(upd_ne (Nat.ne_of_lt lt)).trans (f2 b hb).1, (f2 b hb).2⟩, Nat.lt_of_lt_of_le lt (by show _ ≤ (s2.heap.push _).objs.size; rw [Heap.size_push]; exact Nat.le_succ _)⟩
  generalize hH3 : upd H2 s2.heap.objs.size (SetXO X.prog X.w s2.heap.objs.size []) = H3 at w0 I3 f3
  generalize hq0 : s2.heap.objs.size = q at w0 turn hH3
  have st3 : tn 0 s3.heap := T.keep _ _ _ st2 fun b _ o z => Heap.get?_push_of_some _ z
  have I4 := block_start I3 ok hN f3
  let ce : Env := compEnvC scope (cellsFrom (s3.heap.objs.size + 1) scope.names (cloFrom X.env.cells scope.names [])) s3.heap.objs.size X.env
  let Y : Cx := X.blk s3 H3 scope ce fp
  have pg : PG Y t0 g := hg _ _ _ _ _
  have pi1 : PI Y t1 i1 wi1 := hi1 _ _ _ _ _
  have pg1 : PG Y t1 g1 := hg1 _ _ _ _ _
  have pe : PE Y elt te := he _ _ _ _ _
  let s4 : Shared := { s3 with heap := pushCells (s3.heap.push { cls := .type "dict", data := .dict #[] }) scope.names }
  have I4 : Inv Y [] (L2.wipe σ (own.map (·.2))) H3 s4 := I4
  have st4 : tn 0 s4.heap := T.keep _ _ _ st3 fun b _ o z => pushCells_keeps _ _ _ _ (Heap.get?_push_of_some _ z)
  show codeAny _ _ (.compStart (sc2 elt t0 i0 t1 i1 scope pos) 0 (.ref it) (.ref q) ce) (compPost (model X.prog X.w) X.A X.xe use Qf (.ref q) s3.heap.objs.size) s4
  have sta : ∀ {τ : L2.St} {H' : Hp} {u : Shared}, Inv Y [] τ H' u → (∀ b ∈ fp, H' b = none) → ∀ b ∈ fp, FpOk Y [] H' b := fun {τ H' u} K hn b hb =>
    have z := K.ok.exf b hb
    ⟨hn b hb, z.1, K.ok.exfs b hb, .inl hb, fun x c e => z.2 x c e, fun p hp => absurd (show p ∈ ([] : List (Addr × Obj)) ++ [] from hp) (by simp)⟩
  have loop : codeAny (model X.prog X.w) X.A (.compLoop (sc2 elt t0 i0 t1 i1 scope pos) 0 (.ref it) (.ref q) ce) (compPost (model X.prog X.w) X.A X.xe use Qf (.ref q) s3.heap.objs.size) s4 := by
    refine run_out (hs1 ce) (fun k u => ∃ i H', Mid Y [] (L2.wipe σ (own.map (·.2))) fp tn i H' u ∧ W i k H') ?_ m0 ⟨0, H3, ⟨I4, st4, fun b hb => (f3 b hb).1.1⟩, w0⟩
    rintro k u ⟨i, H5, D5, w5⟩
    rcases turn i k H5 w5 with ⟨stop, qq⟩ | ⟨go, Nx, hNx, step⟩
    · refine thnF (T.done Y rfl rfl rfl hc i [] u _ H5 (fun _ _ => False) D5.inv (sta D5.inv D5.no) D5.st stop) fun r u6 ⟨er, I6⟩ => ?_
      subst er
      have I7 : Inv X pins σ H5 u6 := I3.call' (ch := fp) I6.os I6.base I6.hok I6.bare fun b hb => have z := (f3 b hb).1.2; ⟨z.2.2.1, z.1, z.2.2.2.1, z.2.2.2.2⟩
      have nC : H5 s3.heap.objs.size = none := I6.free
      obtain ⟨m, hn, _⟩ := I6.loc
      exact fin q s3.heap.objs.size u6 m H5 I7 qq hn (I3.fpOk (H' := H5) (Nat.le_refl _) nC)
    · refine thnF (T.item Y rfl rfl rfl hc i [] u _ H5 (fun _ _ => False) D5.inv (sta D5.inv D5.no) D5.st go) fun r u6 ⟨v, er, z6⟩ => ?_
      subst er
      refine thnF z6 fun _ u7 ⟨x, H7, I7, r7, y7, st7, n7⟩ => ?_
      refine thnF (pg.run _ u7 _ H7 x v _ (I7.pinned (sta I7 n7) (T.obj _ _ st7)) r7 (step x H7 y7)) fun _ u8 ⟨σ8, H8, I8, hw8, q8⟩ => ?_
      refine thnF (pi1.run _ u8 σ8 H8 _ I8 q8) fun xv u9 z9 => thnF z9 fun itv u10 ⟨it1, fp1, tn1, J1, H10, e1, I10, T1, st10, f10, W1, ⟨m1, w1⟩, turn1⟩ => ?_
      subst e1
      have l8 : (L2.wipe σ (own.map (·.2))).length = σ8.length := by rw [← hw8, L2.wipe_length]
      have k9 : ∀ (j : Nat) v, (L2.wipe σ (own.map (·.2)))[j]? = some (some v) → (L2.wipe σ8 vs1)[j]? = some (some v) := fun j v z => by
        rw [← hw8] at z
        obtain ⟨z1, z2⟩ := wipe_some z
        rw [L2.wipe_out fun y => z2 (hv j y)]
        exact z1
      have sta1 : ∀ {H' : Hp}, (∀ b ∈ fp1, H' b = none) → ∀ b ∈ fp1, FpOk Y ([] ++ pinsAt fp u7.heap) H' b := fun hn b hb => ⟨hn b hb, (f10 b hb).2⟩
      have inner : codeAny (model X.prog X.w) X.A (.compLoop (sc2 elt t0 i0 t1 i1 scope pos) 1 (.ref it1) (.ref q) ce) (fun r u6 => match r with | .ok _ => ∃ m, m < k ∧ ∃ i H', Mid Y [] (L2.wipe σ (own.map (·.2))) fp tn i H' u6 ∧ W i m H' | .error _ => False) u10 := by
        refine run_in (fun k1 u => ∃ j H', Mid Y ([] ++ pinsAt fp u7.heap) (L2.wipe σ8 vs1) fp1 tn1 j H' u ∧ W1 j k1 H') ?_ m1 ⟨0, H10, ⟨I10.weak (L2.wipe_length _ _) fun j v z => (wipe_some z).1, st10, fun b hb => (f10 b hb).1⟩, w1⟩
        rintro k1 u12 ⟨j, H12, D12, w12⟩
        rcases turn1 j k1 H12 w12 with ⟨stop1, nx⟩ | ⟨go1, Nx1, hNx1, step1⟩
        · refine thnF (T1.done Y rfl rfl rfl hc j _ u12 _ H12 (fun _ _ => False) D12.inv (sta1 D12.no) D12.st stop1) fun r u13 ⟨er, I13⟩ => ?_
          subst er
          obtain ⟨m', hm, w'⟩ := hNx _ nx
          exact ⟨m', hm, i + 1, H12, mid_back T st7 I13 (l8.trans (L2.wipe_length σ8 vs1).symm) k9, w'⟩
        · refine thnF (T1.item Y rfl rfl rfl hc j _ u12 _ H12 (fun _ _ => False) D12.inv (sta1 D12.no) D12.st go1) fun r u13 ⟨v1, er, z13⟩ => ?_
          subst er
          refine thnF z13 fun _ u14 ⟨x1, H14, I14, r14, y14, st14, n14⟩ => ?_
          refine thnF (pg1.run _ u14 _ H14 x1 v1 _ (I14.pinned (sta1 n14) (T1.obj _ _ st14)) r14 (step1 x1 H14 y14)) fun _ u15 ⟨σ15, H15, I15, hw15, q15⟩ => ?_
          refine thnF (pe.run _ u15 σ15 H15 _ I15 q15) fun z u16 ⟨yv, H16, I16, r16, zt, ks, l, ey, hz, hD, hl, room, nx1⟩ => ?_
          subst ey
          obtain rfl : z = Value.ref zt := r16
          refine addX_ok (X := Y) I16 hu hD hl hz room fun u17 l' c1 c2 I17 => ?_
          have nx1 := nx1 l' c1 c2
          obtain ⟨m', hm, w'⟩ := hNx1 _ nx1
          exact ⟨m', hm, j + 1, _, mid_back T1 st14 I17 (by rw [← hw15, L2.wipe_length]) (fun j v z => by rw [← hw15] at z; exact (wipe_some z).1), w'⟩
      exact run_st1 inner (T1.self X.A 0 _ _ _ st10 inner)
  exact PpSet.codeAny_compStart_set loop (T.self X.A 0 _ _ _ st4 loop)
/-- s = {..} on one line, s a plain local -/
theorem ps_setSc2P {i : Nat} {y : Str} {py spos : Pos} {elt t0 i0 t1 i1 : Expr} {scope : Scope} {own : List (Str × Nat)} {vs1 : List Nat} {pos : Pos} {wi wi1 : TI} {g g1 : TG} {te : TE} (hy : X.N[i]? = some y) (hyl : X.env.scope.names.lookup y = some .local) (hsw : swapsWith (sc2 elt t0 i0 t1 i1 scope pos) (some (.Name y py)) spos.line X.env = pure true) (hc : X.calm = true) (hu : X.A.units + 64 < cLine) (hN : X.N.Nodup) (hi : PI X t0 i0 wi) (ok : BlkOk X.N X.env.scope scope own) (hv : ∀ i ∈ vs1, i ∈ own.map (·.2))
    (hg : InB X scope fun Y => PG Y t0 g) (hi1 : InB X scope fun Y => PI Y t1 i1 wi1) (hg1 : InB X scope fun Y => PG Y t1 g1) (he : InB X scope fun Y => PE Y elt te)
    (hs : ∀ x, foldedSetIterable i0 X.env x = pure x := by intro _; rfl) (hs1 : ∀ env x, foldedSetIterable i1 env x = pure x := by intro _ _; rfl) :
    PS X (.Assign [.Name y py] (sc2 elt t0 i0 t1 i1 scope pos) spos) (tAsg (tSc2P X.prog X.w wi g wi1 g1 te (own.map (·.2)) vs1) (gName i)) := by
  refine ⟨fun pins s σ H D I h => ?_⟩
  rw [exec_Assign_Name_used _ _ _ _ hsw]
  refine wpAny_bind (wpAny_standAt (wpAny_bind ?_))
  show wpAny _ X.A (do let _ ← comprehension (sc2 elt t0 i0 t1 i1 scope pos) scope X.env (firstIterPos [⟨t0, i0, [], 0⟩, ⟨t1, i1, [], 0⟩] pos) (newSet (.type "set")) false (eval i0 X.env) (some (assign (.Name y py) X.env))) _ _ s
  have h : tSc2P X.prog X.w wi g wi1 g1 te (own.map (·.2)) vs1 σ H (fun x H1 => gName i x σ H1 D.nx) := h
  refine wpAny_bind (thn (sc2P_core (Qf := fun _ s' => L2.SP X pins D .next s') hc hu hN hi ok hv hg hi1 hg1 he hs hs1 I h fun q C u m H' I' qq hn f => ?_) fun _ s' z => wpAny_pure (wpAny_pure z))
  show wpAny _ _ (assign (.Name y py) X.env (.ref q)) _ _ _
  refine wpAny_assign_Name (store_ok2 (v := V.ref q) I' hN hy (.inl hyl) rfl (fun s2 I2 ⟨a, sb, ha⟩ => ?_) (.inr hyl))
  obtain ⟨f0, f1, f2, f3, f4, f5⟩ := f
  have ne : C ≠ a := by
    rcases ha with z | z
    · rw [z]; exact f1
    · exact fun e => f4 y a z e.symm
  exact ⟨m, hn.sameBut sb ne, fun h3 sb3 => ⟨_, H', I2.turned (t' := s2.toks) (fun b o hb e => (sb3.2 b hb).trans e) f0 f1 f3 f4 f5, qq⟩⟩
theorem sw_trueS {elt : Expr} {gs : List Comprehension} {scope : Scope} {pos py : Pos} {y : Str} {l : Nat} {env : Env} (hk : env.scope.kind = .function) (hy : env.scope.names.lookup y = some .local) (hl : (py.line == pos.line) = true)
    (ha : (scope.names.any fun (n, k) => n == y && (k == .local || k == .cell)) = false) : swapsWith (.SetComp elt gs scope pos) (some (.Name y py)) l env = pure true := by
  unfold swapsWith
  simp only [show env.blockKind = .function from by unfold Env.blockKind; rw [hk]; rfl, show env.kindOf y = some .local from hy, ha, Expr.pos, hl]
  rfl
end
end DV
/-! s = {e for x in xs for y in ys} of pairs; if len(s) == 0: ..; ends = sorted(s): deep, the set itself is never data. -/
namespace DV
open PySem PySem.Spec PyProof.Rows L2
def addP (acc : List (List Int)) (k : List Int) : List (List Int) := if k ∈ acc then acc else k :: acc
def tupI (k : List Int) : D := .tup (k.map .int)
def dScLP (src : Option (Nat × List D)) (g : D → Gam → Mu → (Gam → Prop) → Prop) (te : DTE) (Γ : Gam) : List D → List (List Int) → Mu → (List (List Int) → Mu → Prop) → Prop
  | [], acc, μ, Q => Gd src μ ∧ Q acc μ
  | d :: ds, acc, μ, Q => Gd src μ ∧ g d Γ μ fun Γ1 => te Γ1 μ (fun y μ2 => match y with | .tup [.int i, .int j] => ([i, j] ∉ acc → acc.length < 64) ∧ dScLP src g te Γ ds (addP acc [i, j]) μ2 Q | _ => False) fun _ _ => False
def dScOP (src : Option (Nat × List D)) (g : D → Gam → Mu → (Gam → Prop) → Prop) (fi1 : DTI) (g1 : D → Gam → Mu → (Gam → Prop) → Prop) (te : DTE) (vs1 : List Nat) (Γ : Gam) : List D → List (List Int) → Mu → (List (List Int) → Mu → Prop) → Prop
  | [], acc, μ, Q => Gd src μ ∧ Q acc μ
  | d :: ds, acc, μ, Q => Gd src μ ∧ g d Γ μ fun Γ1 => fi1 Γ1 μ (fun src1 ds1 μ1 => dScLP src1 g1 te (wipeG Γ1 vs1) ds1 acc μ1 fun acc2 μ2 => dScOP src g fi1 g1 te vs1 Γ ds acc2 μ2 Q) fun _ _ => False
def dReach (vs vs1 : List Nat) (fi : DTI) (g : D → Gam → Mu → (Gam → Prop) → Prop) (fi1 : DTI) (g1 : D → Gam → Mu → (Gam → Prop) → Prop) (te : DTE) (iR : Nat) (T : DTS) (iE : Nat) (fz : Bool) : DTS := fun D Γ μ => fi Γ μ (fun src ds μ1 => dScOP src g fi1 g1 te vs1 (wipeG Γ vs) ds [] μ1 fun acc μ2 =>
    iR < Γ.length ∧ cond acc.isEmpty (T { D with nx := fun _ _ => False } (Γ.set iR none) μ2) (∀ out : List (List Int), out.Perm acc → dFin fz (out.map tupI) μ2 fun d μ3 => D.nx ((Γ.set iR none).set iE (some d)) μ3)) (fun x μ1 => D.ex x Γ μ1)
theorem sgdP_of {src : Option (Nat × List D)} {g : D → Gam → Mu → (Gam → Prop) → Prop} {te : DTE} {Γ : Gam} {μ : Mu} {Q : List (List Int) → Mu → Prop} : ∀ (ds : List D) (acc : List (List Int)), dScLP src g te Γ ds acc μ Q → Gd src μ
  | [], _, h => h.1
  | _ :: _, _, h => h.1
theorem sgdP_ofO {src : Option (Nat × List D)} {g g1 : D → Gam → Mu → (Gam → Prop) → Prop} {fi1 : DTI} {te : DTE} {vs1 : List Nat} {Γ : Gam} {μ : Mu} {Q : List (List Int) → Mu → Prop} : ∀ (ds : List D) (acc : List (List Int)), dScOP src g fi1 g1 te vs1 Γ ds acc μ Q → Gd src μ
  | [], _, h => h.1
  | _ :: _, _, h => h.1
theorem GR.hide {K : PySem.W.Frag} {n : Now} {Γ : Gam} {σ : L2.St} (g : GR K n Γ σ) (i : Nat) (v : V) : GR K n (Γ.set i none) (σ.set i (some v)) := by
  refine ⟨by simp [g.len], fun j e h => ?_⟩
  by_cases hj : i = j
  · subst hj
    by_cases hl : i < Γ.length
    · rw [List.getElem?_set_self hl] at h; cases h
    · rw [List.getElem?_eq_none (by simp; omega)] at h; cases h
  · rw [List.getElem?_set_ne hj] at h ⊢
    exact g.at_ j e h
theorem addP_perm {l l' : List (Addr × List Int)} {acc : List (List Int)} {z : Addr} {k : List Int} (p : (l.map Prod.snd).Perm acc) (c1 : k ∈ l.map Prod.snd → l' = l) (c2 : k ∉ l.map Prod.snd → l'.Perm ((z, k) :: l)) : (l'.map Prod.snd).Perm (addP acc k) := by
  unfold addP
  by_cases h : k ∈ acc
  · rw [if_pos h, c1 (p.mem_iff.mpr h)]; exact p
  · rw [if_neg h]
    have := (c2 fun z => h (p.mem_iff.mp z)).map Prod.snd
    rw [List.map_cons] at this
    exact this.trans (p.cons k)
theorem addP_mem {l l' : List (Addr × List Int)} {P : Addr × List Int → Prop} {z : Addr} {k : List Int} (h : ∀ p ∈ l, P p) (hz : P (z, k)) (c1 : k ∈ l.map Prod.snd → l' = l) (c2 : k ∉ l.map Prod.snd → l'.Perm ((z, k) :: l)) : ∀ p ∈ l', P p := fun p hp => by
  by_cases c : k ∈ l.map Prod.snd
  · exact h p (c1 c ▸ hp)
  · rcases List.mem_cons.mp ((c2 c).mem_iff.mp hp) with rfl | hp
    · exact hz
    · exact h p hp
theorem reach_go {K : PySem.W.Frag} {W : WX} {P : Program} {w : World} {vs vs1 : List Nat} {fi fi1 : DTI} {g g1 : TG} {gd gd1 : D → Gam → Mu → (Gam → Prop) → Prop} {te : DTE} (hg : CT K vs g gd) (hg1 : CT K vs1 g1 gd1) {n : Now} {Γ : Gam} {μ : Mu} {Rd : List (List Int) → Mu → Prop} {Ed : Exn → Mu → Prop} (σ : L2.St) (Q : VK) (sr : SR0 K n μ) (gr : GR K n Γ σ) (h : fi Γ μ (fun src ds μ1 => dScOP src gd fi1 gd1 te vs1 (wipeG Γ vs) ds [] μ1 Rd) Ed) (hx : XLink K W n Γ σ Ed)
    (hq : ∀ n' p μ' acc (l : List (Addr × List Int)), Step n n' → SR0 K n' μ' → Hid n' p → n'.H p = some (SetXO P w p l) → (l.map Prod.snd).Perm acc → (∀ x ∈ l, n'.Hb x.1 = some (.tup (x.2.map V.int)) ∧ ∃ i j, x.2 = [i, j]) → Rd acc μ' → Q (.ref p) n'.H) :
    tSc2P P w (liftI K W fi) g (liftI K W0 fi1) g1 (lift K W0 te) vs vs1 σ n.H Q := by
  refine ⟨n, Γ, μ, _, _, rfl, sr, gr, h, fun n1 src ds μ1 J s1 r1 wk q p hp => ?_, hx⟩
  have gw := (gr.step s1).wipe vs
  let Ou : Nat → Hp → Prop := fun i H' => ∃ n2 μ2 acc l, n2.H = H' ∧ Step n1 n2 ∧ SR0 K n2 μ2 ∧ Hid n2 p ∧ n2.H p = some (SetXO P w p l) ∧ ((l.map Prod.snd).Perm acc ∧ ∀ x ∈ l, n2.Hb x.1 = some (.tup (x.2.map V.int)) ∧ ∃ i j, x.2 = [i, j]) ∧ dScOP src gd fi1 gd1 te vs1 (wipeG Γ vs) (ds.drop i) acc μ2 Rd
  refine ⟨fun i m H' => m = ds.length - i ∧ i ≤ ds.length ∧ Ou i H', ⟨ds.length, by simp, Nat.zero_le _, n1.more p _, μ1, [], [], rfl, Step.more hp, r1.more hp, ⟨r1.hb hp, r1.nal hp, r1.nph hp⟩, upd_same, ⟨.refl _, fun x hx => by cases hx⟩, q⟩, ?_⟩
  rintro i m H' ⟨rfl, hi, n2, μ2, acc, l, rfl, s2, r2, hid, hv, hl, q2⟩
  have gd2 : Gd src μ2 := sgdP_ofO _ _ q2
  by_cases hlt : i < ds.length
  · refine .inr ⟨wk.goes n2 μ2 i s2.sp r2 gd2 hlt, Ou (i + 1), fun H3 p3 => ⟨ds.length - (i + 1), by omega, rfl, hlt, p3⟩, fun x H3 y => ?_⟩
    rw [List.drop_eq_getElem_cons hlt] at q2
    obtain ⟨n3, rfl, s3, r3, p3⟩ := wk.yields n2 μ2 i x H3 ds[i] s2.sp r2 gd2 (by rw [List.getElem?_eq_getElem hlt]) y
    refine hg n3 μ2 x ds[i] (wipeG Γ vs) (L2.wipe σ vs) _ _ r3 ((gw.step s2).step s3) p3 q2.2 fun Γ4 σ4 g4 hl4 ha4 q4 => ⟨(wipe_eq hl4 ha4).trans (wipe_twice σ vs), ?_⟩
    obtain ⟨hid3, hv3⟩ := hid.step hv s3
    refine ⟨n3, Γ4, μ2, _, _, rfl, r3, g4, q4, fun n6 src1 ds1 μ6 J1 s6 r6 w1 q6 => ?_, fun _ _ _ _ _ _ _ _ z => z⟩
    obtain ⟨hid6, hv6⟩ := hid3.step hv3 s6
    have gw1 := (g4.step s6).wipe vs1
    have s16 : Step n1 n6 := (s2.trans s3).trans s6
    have st26 := (s3.trans s6)
    let In : Nat → Hp → Prop := fun j H' => ∃ n7 μ7 acc l, n7.H = H' ∧ SP n6 n7 ∧ Step n1 n7 ∧ SR0 K n7 μ7 ∧ Hid n7 p ∧ n7.H p = some (SetXO P w p l) ∧ ((l.map Prod.snd).Perm acc ∧ ∀ x ∈ l, n7.Hb x.1 = some (.tup (x.2.map V.int)) ∧ ∃ i j, x.2 = [i, j]) ∧ dScLP src1 gd1 te (wipeG Γ4 vs1) (ds1.drop j) acc μ7 fun acc2 μ2 => dScOP src gd fi1 gd1 te vs1 (wipeG Γ vs) (ds.drop (i + 1)) acc2 μ2 Rd
    refine ⟨fun j k H' => k = ds1.length - j ∧ j ≤ ds1.length ∧ In j H', ⟨ds1.length, by simp, Nat.zero_le _, n6, μ6, acc, l, rfl, (Step.refl _).sp, s16, r6, hid6, hv6, ⟨hl.1, fun x hx => ⟨st26.same.tup (hl.2 x hx).1, (hl.2 x hx).2⟩⟩, q6⟩, ?_⟩
    rintro j k H' ⟨rfl, hj, n7, μ7, acc7, l7, rfl, s67, s17, r7, hid7, hv7, hl7, q7⟩
    have gd7 : Gd src1 μ7 := sgdP_of _ _ q7
    by_cases hjt : j < ds1.length
    · refine .inr ⟨w1.goes n7 μ7 j s67 r7 gd7 hjt, In (j + 1), fun H3 p3 => ⟨ds1.length - (j + 1), by omega, rfl, hjt, p3⟩, fun x1 H8 y1 => ?_⟩
      rw [List.drop_eq_getElem_cons hjt] at q7
      obtain ⟨n8, rfl, s8, r8, p8⟩ := w1.yields n7 μ7 j x1 H8 ds1[j] s67 r7 gd7 (by rw [List.getElem?_eq_getElem hjt]) y1
      refine hg1 n8 μ7 x1 ds1[j] (wipeG Γ4 vs1) (L2.wipe σ4 vs1) _ _ r8 (gw1.sp (s67.trans s8.sp)) p8 q7.2 fun Γ9 σ9 g9 hl9 ha9 q9 => ⟨(wipe_eq hl9 ha9).trans (wipe_twice σ4 vs1), ?_⟩
      obtain ⟨hid8, hv8⟩ := hid7.step hv7 s8
      refine lift_go r8 g9 q9 (fun n11 y dy μ11 s11 r11 p11 q11 => ?_) (fun _ _ _ _ _ _ _ _ z => z)
      obtain ⟨hid11, hv11⟩ := hid8.step hv8 s11
      split at q11
      · rename_i z1 z2
        cases p11 with
        | tup h1 h2 =>
          cases h2 with
          | cons e1 h2 =>
            cases h2 with
            | cons e2 h2 =>
              cases h2
              cases e1
              cases e2
              rename_i z
              have st711 := s8.trans s11
              refine ⟨z, [z1, z2], l7, rfl, r11.same _ _ h1, hv11, fun x hx => r11.same _ _ (st711.same.tup (hl7.2 x hx).1), fun c => ?_, fun l' c1 c2 => ⟨n11.more p _, μ11, addP acc7 [z1, z2], l', rfl, ⟨((s67.trans s8.sp).trans s11.sp).same, ((s67.trans s8.sp).trans s11.sp).pre⟩, Step.other ((s17.trans s8).trans s11) hp, r11.other hid11, ⟨hid11.b, hid11.a, hid11.ph⟩, upd_same, ⟨addP_perm hl7.1 c1 c2, addP_mem (P := fun x => n11.Hb x.1 = some (.tup (x.2.map V.int)) ∧ ∃ i j, x.2 = [i, j]) (fun x hx => ⟨st711.same.tup (hl7.2 x hx).1, (hl7.2 x hx).2⟩) ⟨h1, z1, z2, rfl⟩ c1 c2⟩, q11.2⟩⟩
              rw [← List.length_map (f := Prod.snd), hl7.1.length_eq]
              exact q11.1 fun y => c (hl7.1.mem_iff.mpr y)
      · exact q11.elim
    · have e : j = ds1.length := by omega
      subst e
      rw [List.drop_length] at q7
      exact .inl ⟨w1.stops n7 μ7 s67 r7 gd7, n7, μ7, acc7, l7, rfl, s17, r7, hid7, hv7, hl7, q7.2⟩
  · have e : i = ds.length := by omega
    subst e
    rw [List.drop_length] at q2
    exact .inl ⟨wk.stops n2 μ2 s2.sp r2 gd2, hq n2 p μ2 acc l (s1.trans s2) r2 hid hv hl.1 hl.2 q2.2⟩
end DV
/-! s = {e for x in xs for y in ys}; if len(s) == 0: ..; ends = sorted(s): the rule. -/
namespace DV
open PySem PySem.Spec PyProof.Rows L2
theorem perm_lift {α β : Type} {f : α → β} {out : List β} {L : List α} (p : out.Perm (L.map f)) : ∃ L' : List α, L'.Perm L ∧ L'.map f = out := by
  generalize hm : L.map f = M at p
  induction p generalizing L with
  | nil => exact ⟨[], by cases L <;> simp_all, rfl⟩
  | @cons x l1 l2 _ ih =>
    cases L with
    | nil => cases hm
    | cons y L =>
      rw [List.map_cons] at hm
      injection hm with h1 h2
      obtain ⟨L', p', e'⟩ := ih h2
      exact ⟨y :: L', p'.cons y, by rw [List.map_cons, e', h1]⟩
  | swap x y l =>
    cases L with
    | nil => cases hm
    | cons a L =>
      cases L with
      | nil => rw [List.map_cons] at hm; injection hm with _ h; cases h
      | cons b L =>
        simp only [List.map_cons] at hm
        injection hm with h1 h2
        injection h2 with h2 h3
        exact ⟨b :: a :: L, List.Perm.swap .., by simp only [List.map_cons, h1, h2, h3]⟩
  | trans _ _ ih1 ih2 =>
    obtain ⟨L2, p2, e2⟩ := ih2 hm
    obtain ⟨L1, p1, e1⟩ := ih1 e2
    exact ⟨L1, p1.trans p2, e1⟩
theorem ints_reps {K : PySem.W.Frag} {Hb : Hp} {al : List Addr} : ∀ k : List Int, Reps K Hb al (k.map V.int) (k.map D.int)
  | [] => .nil
  | i :: k => .cons (.int i) (ints_reps k)
theorem tups_reps {K : PySem.W.Frag} {Hb : Hp} {al : List Addr} : ∀ L : List (Addr × List Int), (∀ x ∈ L, Hb x.1 = some (.tup (x.2.map V.int))) → Reps K Hb al ((L.map Prod.fst).map V.ref) ((L.map Prod.snd).map tupI)
  | [], _ => .nil
  | x :: L, h => .cons (.tup (h x List.mem_cons_self) (ints_reps x.2)) (tups_reps L fun y hy => h y (List.mem_cons_of_mem _ hy))
def rLenX (P : Program) (w : World) : List V → Hp → VK → Prop := fun vs H Q => ∃ (a : Addr) (L : List (Addr × List Int)), vs = [V.ref a] ∧ H a = some (SetXO P w a L) ∧ Q (.int L.length) H
section
variable {X : Cx} {W : WX}
theorem cr_lenX : CallR X (.builtin "len") (rLenX X.prog X.w) := by
  intro pins s σ H vs us Q I r h
  obtain ⟨a, L, rfl, ha, q⟩ := h
  rw [Vals.ref1 r]
  have rx := setX_get I ha
  have le := rx.le
  obtain ⟨es, ep, t, ⟨ob, h1, h2, h3⟩, h4, h5, h6, h7, h8, h9⟩ := rx
  have hz : es.size = L.length := by rw [← Array.length_toList, h4, rowsOf, List.length_map]
  have fit : t.fits es.size = true := by
    have z := h5.sz
    rw [List.length_map] at z
    unfold SetTable.fits SetTable.fill
    rw [h5.dm, Bool.and_eq_true, beq_iff_eq, decide_eq_true_eq, hz, z]
    refine ⟨rfl, ?_⟩
    show L.length + 0 ≤ t.mask
    rcases h9 with ⟨y, _⟩ | ⟨y, y2⟩ <;> omega
  exact call_len_set (es := es) (ep := ep) (t := t) h1 h2 h3 fit (by omega) ⟨.int L.length, H, I.tok _, ⟨_, by rw [hz]⟩, q⟩
variable {elt t0 i0 t1 i1 : Expr} {scope : Scope} {own : List (Str × Nat)} {vs1 : List Nat} {pos : Pos} {fi fi1 : DTI} {g g1 : TG} {gd gd1 : D → Gam → Mu → (Gam → Prop) → Prop} {te : DTE} {T : DTS} {sa : List Stmt} {x y : Str} {iR iE : Nat} {q1 q2 q3 q4 q5 q6 q7 q8 q9 qa qb qc qd : Pos} {j0 : Nat}
theorem dss_reach (fz : Bool) (hu : X.A.units + 64 < cLine) (hgl : Gl X "sorted") (hm : X.mg "sorted" = none) (hgl2 : Gl X "len") (hm2 : X.mg "len" = none) (hc : X.calm = true) (hN : X.N.Nodup) (hi : DI X W t0 i0 fi) (ok : BlkOk X.N X.env.scope scope own) (hv : ∀ i ∈ vs1, i ∈ own.map (·.2)) (hct : CT X.K (own.map (·.2)) g gd) (hct1 : CT X.K vs1 g1 gd1)
    (hg : InB X scope fun Y => PG Y t0 g) (hi1 : InB X scope fun Y => PI Y t1 i1 (liftI X.K W0 fi1)) (hg1 : InB X scope fun Y => PG Y t1 g1) (he : InB X scope fun Y => PE Y elt (lift X.K W0 te)) (hT : DSs X W sa T)
    (vx : PE X (.Name x q3) (tVar iR)) (vx2 : PE X (.Name x q4) (tVar iR))
    (hs : ∀ x, foldedSetIterable i0 X.env x = pure x := by intro _; rfl) (hs1 : ∀ env x, foldedSetIterable i1 env x = pure x := by intro _ _; rfl)
    (hR : X.N[iR]? = some x := by rfl) (lR2 : X.env.scope.names.lookup x = some .local := by rfl) (sR : swapsWith (sc2 elt t0 i0 t1 i1 scope pos) (some (.Name x q1)) q2.line X.env = pure true := by exact sw_trueS rfl rfl rfl (by decide +kernel))
    (hE : X.N[iE]? = some y := by rfl) (lE : Loc X.env.scope y := by first | exact Or.inl rfl | exact Or.inr rfl) (fE : X.fn y = true ∨ X.env.scope.names.lookup y = some .local := by first | exact .inl rfl | exact .inr rfl | assumption) (sE : swapsWith (.Call (.Name "sorted" q5) [.Name x q4] [] q6) (some (.Name y q7)) q8.line X.env = pure false := by rfl)
    (st1 : starEach [Expr.Name x q3] X.env = (false, eval (.Name x q3) X.env) :: starEach [] X.env := by rfl) (st2 : starEach [Expr.Name x q4] X.env = (false, eval (.Name x q4) X.env) :: starEach [] X.env := by rfl) (hm3 : behindInMarks .Eq (.Constant (.int 0) j0 qb) = false := by rfl) :
    DSs X W [.Assign [.Name x q1] (sc2 elt t0 i0 t1 i1 scope pos) q2, .If (.Compare (.Call (.Name "len" q9) [.Name x q3] [] qa) [.Eq] [.Constant (.int 0) j0 qb] qc) sa [] qd, .Assign [.Name y q7] (.Call (.Name "sorted" q5) [.Name x q4] [] q6) q8] (dReach (own.map (·.2)) vs1 fi gd fi1 gd1 te iR T iE fz) := by
  refine PSs.imp (pss_cons (ps_setSc2P hR lR2 sR hc hu hN hi ok hv hg hi1 hg1 he hs hs1) (pss_cons (ps_if (pt_cmpR op_eq (pe_callB cr_lenX hgl2 hm2 (by decide +kernel) (pa_cons vx pa_nil st1) (by decide) (by decide) st1 rfl) pe_int hm3) hT pss_nil) (pss_one (ps_set hN hE lE (pe_callB (cr_sortX hc) hgl hm (by decide +kernel) (pa_cons vx2 pa_nil st2) (by decide) (by decide) st2 rfl) sE fE)))) ?_
  rintro Dn σ H ⟨A, n, Γ, μ, Dd, rfl, sA, sr, gr, h, l⟩
  refine reach_go (P := X.prog) (w := X.w) hct hct1 σ (fun v H => gName iR v σ H (tSeq (tIfS (tTest (tOp rEq (tCB (rLenX X.prog X.w) (tCons (tVar iR) tNil)) (tC (.int 0)))) (liftS X.K W T) tNext) (tAsg (tCB (rSortX X.prog X.w) (tCons (tVar iR) tNil)) (gName iE)) Dn)) sr gr h (l.x sA gr) fun n' p μ' acc L s' r' hid hp pm hL q => ?_
  obtain ⟨hlt, q⟩ := q
  have hlt' : iR < σ.length := by rw [← gr.len]; exact hlt
  have slot : (σ.set iR (some (.ref p)))[iR]? = some (some (.ref p)) := List.getElem?_set_self hlt'
  have gh := (gr.step s').hide iR (.ref p)
  refine ⟨_, slot, p, L, rfl, hp, rfl, _, rfl, ?_⟩
  have le : L.length = acc.length := by rw [← pm.length_eq, List.length_map]
  cases hz : acc.isEmpty with
  | true =>
    rw [hz] at q
    have e0 : acc = [] := List.isEmpty_iff.mp hz
    have e1 : L = [] := List.length_eq_zero_iff.mp (by rw [le, e0]; rfl)
    dsimp only
    rw [if_pos (by rw [e1]; rfl)]
    exact liftS_go (sA.trans s') r' gh q ⟨fun _ _ _ _ _ _ _ z => z.elim, l.bk, l.ct, l.rt, l.ex⟩
  | false =>
    rw [hz] at q
    have ne : L.length ≠ 0 := fun z => by
      rw [le] at z
      rw [List.length_eq_zero_iff.mp z] at hz
      cases hz
    dsimp only
    rw [if_neg (by rw [decide_eq_true_eq]; intro z; injection z with z; exact ne (by exact_mod_cast z))]
    refine ⟨_, slot, p, L, rfl, hp, fun x hx => ⟨r'.same _ _ (hL x hx).1, (hL x hx).2⟩, fun out p2 po hp2 => ?_⟩
    obtain ⟨L', pL, rfl⟩ := perm_lift po
    have q := q (L'.map Prod.snd) ((pL.map Prod.snd).trans pm)
    exact fin_lst (Qd := fun d μ3 => Dd.nx ((Γ.set iR none).set iE (some d)) μ3) (Q := fun v H => Dn.nx ((σ.set iR (some (.ref p))).set iE (some v)) H) (fun n2 v d μ2 s2 r2 p2 q2 => l.nx n2 _ _ μ2 ((sA.trans s').trans s2) r2 ((gh.step s2).set p2 iE) q2) r' hp2 (tups_reps L' fun x hx => (hL x (pL.mem_iff.mp hx)).1) q
end
end DV
/-! Dicts with tuple keys, deep: sorted(d), d == {}. -/
namespace DV
open PySem PySem.Spec PyProof.Rows L2
section
variable {K : PySem.W.Frag} {n : Now} {μ : Mu}
/-- a tuple that stands in the heap becomes data -/
theorem SR0.adoptT (s : SR0 K n μ) {b : Addr} {vs : List V} (hb : n.H b = some (.tup vs)) (np : b ∉ n.ph) (ng : n.Hb b = none) :
    SR0 K ⟨upd n.Hb b (.tup vs), n.H, n.al, n.ph⟩ μ ∧ Step n ⟨upd n.Hb b (.tup vs), n.H, n.al, n.ph⟩ := by
  have su : Same n.Hb (upd n.Hb b (.tup vs)) := same_upd ng
  refine ⟨⟨fun c u e => ?_, s.len, s.nd, fun i a c e1 e2 => ?_, s.alh, s.orc1, fun c hc => ?_⟩, ⟨Same.l su, List.prefix_refl _, fun c u e => ?_, fun c h => .inl h, fun c h => .inl h, fun c u e _ _ _ => e, fun c e => e, fun c vs _ e => e⟩⟩
  · by_cases h : c = b
    · subst h
      have e' : upd n.Hb c (.tup vs) c = some u := e
      rw [upd_same] at e'; cases e'; exact hb
    · have e' : upd n.Hb b (.tup vs) c = some u := e
      rw [upd_ne h] at e'; exact s.same _ _ e'
  · have q := s.cell i a c e1 e2
    by_cases h : a = b
    · subst h
      have no : ∀ {o : HO}, n.H a = some o → o = .tup vs := fun e => by rw [hb] at e; exact (Option.some.inj e).symm
      cases c with
      | gone => trivial
      | lst ds => obtain ⟨_, _, z, _⟩ := q; cases no z
      | dct ds => obtain ⟨_, _, z, _⟩ := q; cases no z
      | ins C ds => obtain ⟨_, _, _, z, _⟩ := q; cases no z
      | orc k => obtain ⟨_, _, _, _, _, z, _⟩ := q; cases no z
      | exc dd fs => obtain ⟨_, _, _, z, _⟩ := q; cases no z
      | dtp ds => obtain ⟨_, _, z, _⟩ := q; cases no z
    · exact q.grow (n' := ⟨upd n.Hb b (.tup vs), n.H, n.al, n.ph⟩) rfl (fun z => (upd_ne h).trans z) su (List.prefix_refl _) rfl fun _ _ => rfl
  · obtain ⟨h1, h2, h3⟩ := s.phb c hc
    exact ⟨(upd_ne (fun z => np (by rw [← z]; exact hc))).trans h1, h2, h3⟩
  · by_cases h : c = b
    · subst h
      have e' : upd n.Hb c (.tup vs) c = some u := e
      rw [upd_same] at e'; cases e'
      exact .inr (.inr (.inr ⟨vs, rfl, .inl hb⟩))
    · have e' : upd n.Hb b (.tup vs) c = some u := e
      rw [upd_ne h] at e'
      exact .inl (nn e')
/-- the oracle's own lists are no tuples -/
theorem orc_ph (s : SR0 K n μ) (h : ∃ (i : Nat) (k : Nat × Bool), μ[i]? = some (Cell.orc k)) {b : Addr} {vs : List V} (hb : n.H b = some (.tup vs)) : b ∉ n.ph := by
  obtain ⟨i, k, e⟩ := h
  have hi : i < n.al.length := by rw [s.len]; exact (List.getElem?_eq_some_iff.mp e).1
  obtain ⟨_, a0, xs, y, kk, _, h1, _, _, _, h2⟩ := s.cell i _ _ (List.getElem?_eq_getElem hi) e
  intro hm
  rcases h2 with ⟨_, a1, ys, _, e2, _, _, h3, _⟩ | ⟨_, j, _, e2, _⟩
  · rw [e2] at hm
    rcases List.mem_cons.mp hm with rfl | hm
    · rw [h1] at hb; cases hb
    · rw [List.mem_singleton.mp hm, h3] at hb; cases hb
  · rw [e2] at hm
    rw [List.mem_singleton.mp hm, h1] at hb; cases hb
theorem adoptTs (ho : ∃ (i : Nat) (k : Nat × Bool), μ[i]? = some (Cell.orc k)) : ∀ (bs : List Addr) (n : Now), SR0 K n μ → (∀ b ∈ bs, ∃ vs, n.H b = some (.tup vs)) → ∃ n' : Now, n'.H = n.H ∧ Step n n' ∧ SR0 K n' μ ∧ ∀ b ∈ bs, ∀ vs, n.H b = some (.tup vs) → n'.Hb b = some (.tup vs)
  | [], n, s, _ => ⟨n, rfl, Step.refl n, s, fun _ h => by cases h⟩
  | b :: bs, n, s, h => by
    obtain ⟨vs, hb⟩ := h b List.mem_cons_self
    have one : ∃ n1 : Now, n1.H = n.H ∧ Step n n1 ∧ SR0 K n1 μ ∧ n1.Hb b = some (.tup vs) := by
      cases e : n.Hb b with
      | some o =>
        have := s.same _ _ e
        rw [hb] at this; cases this
        exact ⟨n, rfl, Step.refl n, s, e⟩
      | none =>
        obtain ⟨a1, a2⟩ := s.adoptT hb (orc_ph s ho hb) e
        exact ⟨⟨upd n.Hb b (.tup vs), n.H, n.al, n.ph⟩, rfl, a2, a1, upd_same⟩
    obtain ⟨n1, e1, st1, s1, h1⟩ := one
    obtain ⟨n2, e2, st2, s2, h2⟩ := adoptTs ho bs n1 s1 (fun c hc => by rw [e1]; exact h c (List.mem_cons_of_mem _ hc))
    refine ⟨n2, e2.trans e1, st1.trans st2, s2, fun c hc us hu => ?_⟩
    rcases List.mem_cons.mp hc with rfl | hc
    · rw [hb] at hu; cases hu
      exact st2.same.tup h1
    · exact h2 c hc us (by rw [e1]; exact hu)
end
theorem paired_perm {α β : Type} {R : α → β → Prop} : ∀ {bs bs' : List β}, bs'.Perm bs → ∀ {as : List α}, Paired R as bs → ∃ as', as'.Perm as ∧ Paired R as' bs' := by
  intro bs bs' p
  induction p with
  | nil => intro as h; cases h; exact ⟨[], .refl _, .nil⟩
  | @cons x l l' _ ih =>
    intro as h
    cases h with
    | cons h t =>
      obtain ⟨as', p', q'⟩ := ih t
      exact ⟨_ :: as', p'.cons _, .cons h q'⟩
  | @swap x y l =>
    intro as h
    cases h with
    | cons h t =>
      cases t with
      | cons h' t => exact ⟨_ :: _ :: _, List.Perm.swap .., .cons h' (.cons h t)⟩
  | trans _ _ ih1 ih2 =>
    intro as h
    obtain ⟨as1, p1, q1⟩ := ih2 h
    obtain ⟨as2, p2, q2⟩ := ih1 q1
    exact ⟨as2, p2.trans p1, q2⟩
theorem paired_reps {K : PySem.W.Frag} {Hb : Hp} {al : List Addr} {H : Hp} : ∀ {us : List (List Key × V)} {bs : List Addr}, Paired (fun p b => H b = some (.tup (p.1.map kV))) us bs → (∀ b ∈ bs, ∀ vs, H b = some (.tup vs) → Hb b = some (.tup vs)) → Reps K Hb al (bs.map V.ref) ((us.map (·.1)).map pkD)
  | _, _, .nil, _ => .nil
  | _, _, .cons h t, k => .cons (.tup (k _ List.mem_cons_self _ h) (kv_rep _)) (paired_reps t fun b hb => k b (List.mem_cons_of_mem _ hb))
theorem paired_mem {α β : Type} {R : α → β → Prop} : ∀ {as : List α} {bs : List β}, Paired R as bs → ∀ b ∈ bs, ∃ a ∈ as, R a b
  | _, _, .nil, _, h => by cases h
  | _, _, .cons h t, b, hb => by
    rcases List.mem_cons.mp hb with rfl | hb
    · exact ⟨_, List.mem_cons_self, h⟩
    · obtain ⟨a, h1, h2⟩ := paired_mem t b hb
      exact ⟨a, List.mem_cons_of_mem _ h1, h2⟩
/-- sorted(d): the keys, in some order; an oracle's cell must stand somewhere -/
def gSortTO : GN := fun ds μ Q => (∃ (i : Nat) (k : Nat × Bool), μ[i]? = some (Cell.orc k)) ∧ gSortT ds μ Q
section
variable {X : Cx} {W : WX} {a b : Expr} {p pos : Pos} {fa fb : DTE}
theorem opn_sortT {K : PySem.W.Frag} : OpN K rSortDT gSortTO := fun n μ xs ds Qd Q s r ⟨ho, q⟩ l => by
  unfold gSortT at q
  split at q
  · rename_i k
    cases r with
    | cons r1 r2 =>
      cases r2
      cases r1 with
      | @ref _ c hl =>
        split at q
        · rename_i kvs e
          obtain ⟨q1, q2⟩ := q
          obtain ⟨_, us, g1, g2, g3⟩ := s.cell _ _ _ hl e
          refine ⟨c, us, rfl, g1, fun u hu => ?_, fun bs out p ik pm hp => ?_⟩
          · have : u.1 ∈ kvs.map (·.1) := by rw [g2]; exact List.mem_map.mpr ⟨u, hu, rfl⟩
            obtain ⟨v, hv, e⟩ := List.mem_map.mp this
            obtain ⟨i, j, z⟩ := q1 v hv
            exact ⟨i, j, by rw [← e, z]⟩
          · obtain ⟨us', pu, pp⟩ := paired_perm pm ik
            obtain ⟨n1, e1, st, s1, h1⟩ := adoptTs ho out n s (fun b hb => by
              obtain ⟨u, _, h⟩ := paired_mem pp b hb
              exact ⟨_, h⟩)
            have rp := paired_reps (K := K) (Hb := n1.Hb) (al := n1.al) pp h1
            have z := q2 (us'.map (·.1)) (by rw [g2]; exact pu.map _)
            have := new_lst (LV.step l st) s1 (p := p) (by rw [e1]; exact hp) rp z
            rw [e1] at this
            exact this
        · exact q.elim
  · exact q.elim
theorem de_sortT (hc : X.calm = true) (hg : Gl X "sorted") (hm : X.mg "sorted" = none) (ha : DE X W a fa) (hs : starEach [a] X.env = (false, eval a X.env) :: starEach [] X.env := by rfl) : DE X W (.Call (.Name "sorted" p) [a] [] pos) (dCall gSortTO (dCons fa dNil)) :=
  de_callB (cr_sortDT hc) opn_sortT hg hm (by decide +kernel) (da_cons ha da_nil hs) (he := hs)
end
/-! d == {} -/
section
variable {prog : Program} {w : World} {A : Around} {E : Value → Shared → Prop} {s : Shared}
/-- two dicts of which the second is empty -/
theorem same_empty {nm : String} {a b : Addr} {oa ob : Obj} {es : Array DictEntry} {ea eb : Nat} {Q : Bool → Shared → Prop} (na : (a == sysModules) = false) (nb : (b == sysModules) = false) (ha : s.heap.get? a = some oa) (hb : s.heap.get? b = some ob)
    (da : oa.data = .dict es ea) (db : ob.data = .dict #[] eb) (h : Q es.isEmpty s) : wpAny (model prog w) A (Builtin.Dict.samePairs nm a b) Q E s := by
  unfold Builtin.Dict.samePairs Builtin.Dict.showsAll
  rw [na, nb]
  simp only [Bool.false_eq_true, if_false]
  refine wpAny_bind (wpAny_pure (wpAny_bind (wpAny_pure (wpAny_bind (wpAny_dictEntries ha da (wpAny_bind (wpAny_dictEntries hb db ?_)))))))
  cases hz : es.isEmpty with
  | false =>
    have hne : es.size ≠ 0 := by
      intro z
      rw [Array.isEmpty_iff_size_eq_zero.mpr z] at hz
      cases hz
    rw [hz] at h
    rw [if_pos (show (es.size != (#[] : Array DictEntry).size) = true from by simpa using hne)]
    exact wpAny_bind (wpAny_rule (wpAny_pure h))
  | true =>
    rw [hz] at h
    have e0 : es = #[] := by simpa using hz
    subst e0
    rw [if_neg (by decide)]
    refine wpAny_bind (wpAny_dictEpoch ha da ?_)
    refine wpAny_bind ?_
    rw [show ((Std.Legacy.Range.mk 0 (#[] : Array DictEntry).size 1 (by decide))) = Std.Legacy.Range.mk 0 0 1 (by decide) from rfl]
    simp only [Std.Legacy.Range.forIn_eq_forIn_range', Std.Legacy.Range.size, List.range', List.forIn_nil, Nat.sub_self, Nat.zero_add, Nat.div_one]
    exact wpAny_pure (wpAny_pure h)
end
/-- d == {}, d a dict whose keys are tuples -/
def rEqT0 : R2 := fun x y H Q => ∃ (a b : Addr) (kvs : List (List Key × V)), x = V.ref a ∧ y = V.ref b ∧ H a = some (.dT kvs) ∧ Rd H b (.dK []) ∧ Q (.bl kvs.isEmpty) H
section
variable {X : Cx}
theorem op_eqT0 (hu : X.A.units < cLine) : OpR X (compareOp .Eq) rEqT0 := by
  intro pins s σ H x y v u Q I rx ry h
  obtain ⟨a, b, kvs, rfl, rfl, ea, eb, q⟩ := h
  obtain rfl : v = Value.ref a := rx
  obtain rfl : u = Value.ref b := ry
  obtain ⟨z, lo, ks, pr, o, es, ep, ho, hx, hdt, he, hn⟩ := (show ObjOk X.prog X.w H s.heap a (.dT kvs) from I.hok a _ ea)
  obtain ⟨_, yb, vb, rb, o2, es2, ep2, ho2, hx2, hdt2, hk2, hp2, _⟩ := (show ObjOk X.prog X.w H s.heap b (.dK []) from eb.ok I.hok)
  have l1 := size_of_entries he
  have l2 : kvs.length = ks.length := Paired.length pr
  cases rb
  have e2 : es2 = #[] := by
    cases hl : es2.toList with
    | nil => exact Array.toList_eq_nil_iff.mp hl
    | cons e t => rw [hl] at hp2; cases hp2
  subst e2
  have lo' : (a == sysModules) = false := lo
  refine wpAny_richCompare_same_room (op := .Eq) (T := "dict") ⟨o, ho, hx.1⟩ ⟨o2, ho2, hx2.1⟩ PySem.F.slot_dict_eq (wpAny_call_entry PySem.F.slot_dict_eq ⟨o, ho, hx.1⟩ PySem.F.entry_dict_eq ?_ (PySem.F.args_dict_eq_2 _ _)) hu
  show wpAny _ _ (Builtin.Dict.dictSlotArgs "__eq__" ⟨[.ref a, .ref b], []⟩ >>= _) _ _ s
  refine wpAny_bind ?_
  unfold Builtin.Dict.dictSlotArgs
  refine wpAny_bind (wpAny_notOrdered_dict ⟨o, ho, hx.1⟩ (wpAny_pure ?_))
  refine wpAny_bind (wpAny_isInstance (T := "dict") ⟨o2, ho2, hx2.1⟩ PySem.F.sub_dict_dict ?_)
  simp only [Bool.not_true, Bool.false_eq_true, if_false]
  refine wpAny_bind (wpAny_pure (wpAny_bind (wpAny_pure (wpAny_bind (same_empty lo' yb ho ho2 hdt hdt2 (wpAny_pure ⟨_, rfl, ?_, ?_⟩))))))
  · exact fun x => nomatch x
  · have e : es.isEmpty = kvs.isEmpty := by
      cases kvs with
      | nil =>
        have z : es.size = 0 := by rw [l1, ← l2]; rfl
        rw [Array.eq_empty_of_size_eq_zero z]; rfl
      | cons p kvs =>
        have z : es.size ≠ 0 := by rw [l1, ← l2]; simp
        cases hz : es.isEmpty with
        | false => rfl
        | true => exact absurd (by simpa using hz) (fun y : es = #[] => z (by rw [y]; rfl))
    exact ⟨.bl kvs.isEmpty, H, I, by rw [← e]; cases es.isEmpty <;> rfl, q⟩
variable {W : WX} {ea eb : Expr} {pos : Pos} {fa fb : DTE}
def gEqT0 : G2 := fun x y μ Q => match x, y with
  | .ref l, .dct [] => (match μ[l]? with
    | some (.dtp kvs) => Q (.bl kvs.isEmpty) μ
    | _ => False)
  | _, _ => False
theorem op_gEqT0 {K : PySem.W.Frag} : Op2 K rEqT0 gEqT0 := fun n μ x y dx dy Qd Q s rx ry q l => by
  unfold gEqT0 at q
  split at q
  · rename_i c
    cases rx with
    | @ref _ b hl =>
      split at q
      · rename_i kvs e
        obtain ⟨_, us, g1, g2, _⟩ := s.cell _ _ _ hl e
        generalize hz : ([] : List (Key × D)) = zs at ry
        cases ry with
        | @dct p us2 ks ds h1 h2 r =>
          have lr := r.length
          have l0 := congrArg List.length hz
          have lk := congrArg List.length h2
          simp at lr l0 lk
          have u0 : us2 = [] := List.length_eq_zero_iff.mp (by omega)
          subst u0
          have hR : Rd n.H p (.dK []) := by
            rcases h1 with h1 | ⟨o, h1⟩
            · exact .inl (s.same _ _ h1)
            · exact .inr ⟨o, s.same _ _ h1⟩
          refine ⟨b, p, us, rfl, rfl, g1, hR, ?_⟩
          have : us.isEmpty = kvs.isEmpty := by
            have z := congrArg List.length g2
            cases us <;> cases kvs <;> simp at z ⊢
          rw [this]
          exact l.now s (.bl _) q
      · exact q.elim
  · exact q.elim
theorem dt_eqT0 (hu : X.A.units < cLine) (ha : DE X W ea fa) (hb : DE X W eb fb) : DT X W (.Compare ea [.Eq] [eb] pos) (dTest (dBin gEqT0 fa fb)) := dt_cmp (op_eqT0 hu) op_gEqT0 ha hb (nomark _)
end
theorem lt64 {a b : Nat} (h : a + 64 < b) : a < b := by omega
end DV
namespace DV
open PySem PySem.Spec PyProof.Rows L2
/-! the longest walk -/
def WkB (g : List (List Str)) (u v : Str → Int) : Nat → List (Nat × Nat)
  | 0 => cellsG g
  | k + 1 => (cellsG g).filter fun l => (WkB g u v k).any fun c => decide (l ∈ better g u v c)
def longS (g : List (List Str)) (u v : Str → Int) : Option Nat := (List.range (cellsG g).length).find? fun k => (WkB g u v (k + 1)).isEmpty
def longD : Option Nat → D
  | none => .non
  | some k => .int k
def pI (p : Nat × Nat) : List Int := [(p.1 : Int), (p.2 : Int)]
theorem cells_nd (g : List (List Str)) : (cellsG g).Nodup := by
  unfold cellsG
  refine List.pairwise_flatMap.mpr ⟨fun r _ => ?_, ?_⟩
  · rw [List.pairwise_map]
    exact List.nodup_range.imp fun h e => h (congrArg Prod.snd e)
  · refine List.nodup_range.imp fun h x hx y hy e => ?_
    obtain ⟨_, _, rfl⟩ := List.mem_map.mp hx
    obtain ⟨_, _, rfl⟩ := List.mem_map.mp hy
    exact h (congrArg Prod.fst e)
theorem len_sub {α : Type} [DecidableEq α] : ∀ (l m : List α), l.Nodup → (∀ x ∈ l, x ∈ m) → l.length ≤ m.length
  | [], _, _, _ => Nat.zero_le _
  | x :: l, m, hn, hs => by
    obtain ⟨h1, h2⟩ := List.nodup_cons.mp hn
    have hx := hs x List.mem_cons_self
    have := len_sub l (m.erase x) h2 fun y hy => (List.mem_erase_of_ne fun e => h1 (by rw [← e]; exact hy)).mpr (hs y (List.mem_cons_of_mem _ hy))
    rw [List.length_erase_of_mem hx] at this
    have := List.length_pos_of_mem hx
    rw [List.length_cons]; omega
theorem addP_mem_iff {acc : List (List Int)} {k x : List Int} : x ∈ addP acc k ↔ x ∈ acc ∨ x = k := by
  unfold addP
  split
  · rename_i h
    exact ⟨.inl, fun z => z.elim id fun e => e ▸ h⟩
  · rw [List.mem_cons]; exact ⟨fun z => z.symm, fun z => z.symm⟩
theorem addP_nd {acc : List (List Int)} {k : List Int} (h : acc.Nodup) : (addP acc k).Nodup := by
  unfold addP
  split
  · exact h
  · rename_i n; exact List.nodup_cons.mpr ⟨n, h⟩
theorem foldP_mem : ∀ {ks acc : List (List Int)} {x : List Int}, x ∈ ks.foldl addP acc ↔ x ∈ acc ∨ x ∈ ks
  | [], acc, x => by simp
  | k :: ks, acc, x => by
    rw [List.foldl_cons, foldP_mem, addP_mem_iff, List.mem_cons]
    exact ⟨fun z => z.elim (fun z => z.elim .inl fun e => .inr (.inl e)) fun z => .inr (.inr z), fun z => z.elim (fun z => .inl (.inl z)) fun z => z.elim (fun e => .inl (.inr e)) .inr⟩
theorem foldP_nd : ∀ {ks acc : List (List Int)}, acc.Nodup → (ks.foldl addP acc).Nodup
  | [], _, h => h
  | k :: ks, acc, h => foldP_nd (ks := ks) (acc := addP acc k) (addP_nd h)
theorem scL_long {Γ : Gam} {μ : Mu} {i : Nat} {cs : List (List Int)} (hcs : cs.length ≤ 64) (h9 : i < Γ.length) : ∀ (ys : List (Nat × Nat)) (acc : List (List Int)) (Q : List (List Int) → Mu → Prop), acc.Nodup → (∀ k ∈ acc, k ∈ cs) → (∀ y ∈ ys, pI y ∈ cs) → Q ((ys.map pI).foldl addP acc) μ → dScLP none (cName i) (dVar i) Γ (ys.map pairD) acc μ Q
  | [], acc, Q, _, _, _, q => ⟨trivial, q⟩
  | y :: ys, acc, Q, nd, ha, hy, q => by
    refine ⟨trivial, ?_⟩
    have hk := hy y List.mem_cons_self
    simp only [cName, dVar, List.getElem?_set_self h9, pairD]
    refine ⟨fun h => ?_, scL_long hcs h9 ys (addP acc (pI y)) Q (addP_nd nd) (fun k z => ?_) (fun y z => hy y (List.mem_cons_of_mem _ z)) q⟩
    · have := len_sub (pI y :: acc) cs (List.nodup_cons.mpr ⟨h, nd⟩) fun k z => by
        rcases List.mem_cons.mp z with rfl | z
        · exact hk
        · exact ha k z
      rw [List.length_cons] at this; omega
    · rcases addP_mem_iff.mp z with z | rfl
      · exact ha k z
      · exact hk
/-- all that is reached from some cells -/
def reachP (nx : Nat × Nat → List (Nat × Nat)) (xs : List (Nat × Nat)) (acc : List (List Int)) : List (List Int) := xs.foldl (fun a x => ((nx x).map pI).foldl addP a) acc
theorem reachP_mem {nx : Nat × Nat → List (Nat × Nat)} : ∀ {xs : List (Nat × Nat)} {acc : List (List Int)} {k : List Int}, k ∈ reachP nx xs acc ↔ k ∈ acc ∨ ∃ x ∈ xs, ∃ y ∈ nx x, k = pI y
  | [], acc, k => by simp [reachP]
  | x :: xs, acc, k => by
    show k ∈ reachP nx xs (((nx x).map pI).foldl addP acc) ↔ _
    rw [reachP_mem, foldP_mem, List.mem_map]
    constructor
    · rintro ((h | ⟨y, h, rfl⟩) | ⟨z, h1, y, h2, rfl⟩)
      · exact .inl h
      · exact .inr ⟨x, List.mem_cons_self, y, h, rfl⟩
      · exact .inr ⟨z, List.mem_cons_of_mem _ h1, y, h2, rfl⟩
    · rintro (h | ⟨z, h1, y, h2, rfl⟩)
      · exact .inl (.inl h)
      · rcases List.mem_cons.mp h1 with rfl | h1
        · exact .inl (.inr ⟨y, h2, rfl⟩)
        · exact .inr ⟨z, h1, y, h2, rfl⟩
def pkK (p : Nat × Nat) : List Key := [.inl (p.1 : Int), .inl (p.2 : Int)]
theorem keyT_p (p : Nat × Nat) : keyT (pairD p) = some (pkK p) := rfl
theorem pkK_inj {p q : Nat × Nat} (h : pkK p = pkK q) : p = q := by
  obtain ⟨a, b⟩ := p
  obtain ⟨c, d⟩ := q
  simp only [pkK, List.cons.injEq, Sum.inl.injEq, Int.ofNat_inj, and_true] at h
  rw [h.1, h.2]
theorem scO_long {Γ : Gam} {μ : Mu} {i0 i1 ia l : Nat} {kvs : List (List Key × D)} {cs : List (List Int)} {nx : Nat × Nat → List (Nat × Nat)} (hcs : cs.length ≤ 64) (h0 : i0 < Γ.length) (h1 : i1 < Γ.length) (n0 : i0 ≠ ia) (hl : Γ[ia]? = some (some (.ref l))) (hm : μ[l]? = some (.dtp kvs)) :
    ∀ (xs : List (Nat × Nat)) (acc : List (List Int)) (Q : List (List Int) → Mu → Prop), acc.Nodup → (∀ k ∈ acc, k ∈ cs) → (∀ x ∈ xs, valT kvs (pkK x) = some (.lst ((nx x).map pairD)) ∧ ∀ y ∈ nx x, pI y ∈ cs) → Q (reachP nx xs acc) μ → dScOP none (cName i0) (dIter (dBin gTGet (dVar ia) (dVar i0))) (cName i1) (dVar i1) [i1] Γ (xs.map pairD) acc μ Q
  | [], acc, Q, _, _, _, q => ⟨trivial, q⟩
  | x :: xs, acc, Q, nd, ha, hx, q => by
    obtain ⟨a1, a2⟩ := hx x List.mem_cons_self
    refine ⟨trivial, ?_⟩
    simp only [cName, dIter, dBin, dVar, List.getElem?_set_self h0, List.getElem?_set_ne n0, hl, gTGet, keyT_p, hm, a1]
    refine scL_long hcs (by rw [wipeG_len, List.length_set]; exact h1) (nx x) acc _ nd ha a2 (scO_long hcs h0 h1 n0 hl hm xs _ Q (foldP_nd nd) (fun k z => ?_) (fun y z => hx y (List.mem_cons_of_mem _ z)) q)
    rcases foldP_mem.mp z with z | z
    · exact ha k z
    · obtain ⟨y, hy, rfl⟩ := List.mem_map.mp z
      exact a2 y hy
/-! the table of what comes after each cell -/
theorem putT_new {kvs : List (List Key × D)} {k : List Key} {d : D} (h : ∀ p ∈ kvs, p.1 ≠ k) : putT kvs k d = kvs ++ [(k, d)] := by
  unfold putT
  rw [if_neg]
  intro z
  obtain ⟨p, hp, e⟩ := List.any_eq_true.mp z
  exact h p hp (of_decide_eq_true e)
theorem dt_all {Γ : Gam} {μ : Mu} {i : Nat} {tv : DTE} {val : Nat × Nat → D} (hi : i < Γ.length) : ∀ (xs : List (Nat × Nat)) (acc : List (List Key × D)) (Q : List (List Key × D) → Mu → Prop), xs.Nodup → (∀ x ∈ xs, ∀ p ∈ acc, p.1 ≠ pkK x) → acc.length + xs.length ≤ sizeLine →
    (∀ x ∈ xs, ∀ (K : D → Mu → Prop), K (val x) μ → tv (Γ.set i (some (pairD x))) μ K fun _ _ => False) → Q (acc ++ xs.map fun p => (pkK p, val p)) μ → dDtL none (cName i) dYes (dVar i) tv Γ (xs.map pairD) acc μ Q
  | [], acc, Q, _, _, _, _, q => ⟨trivial, by simpa using q⟩
  | x :: xs, acc, Q, nd, ha, hl, ht, q => by
    obtain ⟨n1, n2⟩ := List.nodup_cons.mp nd
    rw [List.length_cons] at hl
    refine ⟨trivial, ?_⟩
    simp only [cName, dYes, cond_true, dVar, List.getElem?_set_self hi]
    refine ht x List.mem_cons_self _ ?_
    simp only [keyT_p]
    refine ⟨by omega, ?_⟩
    rw [putT_new (ha x List.mem_cons_self)]
    refine dt_all hi xs _ Q n2 (fun y hy p hp e => ?_) (by simp; omega) (fun y hy => ht y (List.mem_cons_of_mem _ hy)) (by simpa using q)
    rcases List.mem_append.mp hp with hp | hp
    · exact ha y (List.mem_cons_of_mem _ hy) p hp e
    · rw [List.mem_singleton.mp hp] at e
      rw [pkK_inj e] at n1
      exact n1 hy
theorem valT_all {val : Nat × Nat → D} : ∀ {xs : List (Nat × Nat)} {x : Nat × Nat}, x ∈ xs → valT (xs.map fun p => (pkK p, val p)) (pkK x) = some (val x)
  | y :: ys, x, h => by
    unfold valT
    rw [List.map_cons, List.find?_cons]
    by_cases e : pkK y = pkK x
    · simp only [e, decide_true, Option.map_some]
      rw [pkK_inj e]
    · simp only [e, decide_false]
      rcases List.mem_cons.mp h with rfl | h
      · exact absurd rfl e
      · exact valT_all h
def S_longest (C : Cs) : DSp := fun ds μ Q E => ∃ g ns u ms v, ds = [tabD C g, wD C ns u, wD C ms v] ∧ TOk g ∧ asl ns ∧ asl ms ∧ (ns ≠ outs g → E (unlX ns) μ) ∧ (ns = outs g → ms ≠ outs g → E (unlX ms) μ) ∧ (ns = outs g → ms = outs g → Q (longD (longS g u v)) μ)
/-- the loop's slots -/
def GL (a b c d e f : D) (x : Option D) : Gam := [some a, some b, some c, some d, some e, some f, x, none, none, none]
theorem wk_mem {g : List (List Str)} {u v : Str → Int} {k : Nat} {p : Nat × Nat} : p ∈ WkB g u v (k + 1) ↔ ∃ c ∈ WkB g u v k, p ∈ better g u v c := by
  show p ∈ (cellsG g).filter _ ↔ _
  rw [List.mem_filter, List.any_eq_true]
  constructor
  · rintro ⟨_, c, h1, h2⟩
    exact ⟨c, h1, of_decide_eq_true h2⟩
  · rintro ⟨c, h1, h2⟩
    exact ⟨(List.mem_filter.mp h2).1, c, h1, decide_eq_true h2⟩
theorem wk_cells {g : List (List Str)} {u v : Str → Int} : ∀ {k : Nat} {p : Nat × Nat}, p ∈ WkB g u v k → p ∈ cellsG g
  | 0, _, h => h
  | _ + 1, _, h => (List.mem_filter.mp h).1
def unI (k : List Int) : Nat × Nat := match k with
  | [a, b] => (a.toNat, b.toNat)
  | _ => (0, 0)
theorem longS_some {g : List (List Str)} {u v : Str → Int} {i : Nat} (hi : i < (cellsG g).length) (h : (WkB g u v (i + 1)).isEmpty = true) (hn : ∀ j, j < i → (WkB g u v (j + 1)).isEmpty = false) : longS g u v = some i := by
  unfold longS
  exact L2.find_range _ hi h hn
theorem longS_none {g : List (List Str)} {u v : Str → Int} (hn : ∀ j, j < (cellsG g).length → (WkB g u v (j + 1)).isEmpty = false) : longS g u v = none := by
  unfold longS
  exact L2.find_range_none _ hn
/-- one turn of the loop -/
theorem long_turn {g : List (List Str)} {u v : Str → Int} {a b c d : D} {x : Option D} {l i : Nat} {μ : Mu} {De : DEnds} {kvs : List (List Key × D)} {xs : List (Nat × Nat)} (hg : TOk g) (hm : μ[l]? = some (.dtp kvs)) (hk : ∀ p ∈ cellsG g, valT kvs (pkK p) = some (.lst ((better g u v p).map pairD))) (hx : ∀ p, p ∈ xs ↔ p ∈ WkB g u v i)
    (hr : (WkB g u v (i + 1)).isEmpty = true → De.rt (.int i) μ) (hn : (WkB g u v (i + 1)).isEmpty = false → ∀ ys : List (Nat × Nat), (∀ p, p ∈ ys ↔ p ∈ WkB g u v (i + 1)) → De.nx (GL a b c d (.ref l) (.lst (ys.map pairD)) (some (.int i))) μ) :
    dReach [8, 9] [9] (dIter (dVar 5)) (cName 8) (dIter (dBin gTGet (dVar 4) (dVar 8))) (cName 9) (dVar 9) 7 (dRet (dVar 6)) 5 true De (GL a b c d (.ref l) (.lst (xs.map pairD)) (some (.int i))) μ := by
  unfold dReach
  simp only [dIter, dVar, GL, List.getElem?_cons_succ, List.getElem?_cons_zero]
  have hle : ((cellsG g).map pI).length ≤ 64 := by rw [List.length_map]; exact hg.cl
  refine scO_long (l := l) (kvs := kvs) (nx := better g u v) hle (by simp [wipeG]) (by simp [wipeG]) (by decide) (by simp [wipeG]) hm xs [] _ List.nodup_nil (fun k z => by cases z) (fun p hp => ⟨hk p (wk_cells ((hx p).mp hp)), fun y hy => List.mem_map.mpr ⟨y, (List.mem_filter.mp hy).1, rfl⟩⟩) ?_
  refine ⟨by simp, ?_⟩
  have mem : ∀ k, k ∈ reachP (better g u v) xs [] ↔ ∃ p ∈ WkB g u v (i + 1), k = pI p := fun k => by
    rw [reachP_mem]
    constructor
    · rintro (h | ⟨z, h1, y, h2, rfl⟩)
      · cases h
      · exact ⟨y, wk_mem.mpr ⟨z, (hx z).mp h1, h2⟩, rfl⟩
    · rintro ⟨p, hp, rfl⟩
      obtain ⟨z, h1, h2⟩ := wk_mem.mp hp
      exact .inr ⟨z, (hx z).mpr h1, p, h2, rfl⟩
  generalize reachP (better g u v) xs [] = acc at mem
  cases ha : acc.isEmpty with
  | true =>
    have e0 : acc = [] := List.isEmpty_iff.mp ha
    rw [cond_true]
    refine hr ?_
    cases hw : WkB g u v (i + 1) with
    | nil => rfl
    | cons p ps =>
      have := (mem (pI p)).mpr ⟨p, by rw [hw]; exact List.mem_cons_self, rfl⟩
      rw [e0] at this; cases this
  | false =>
    rw [cond_false]
    intro out po
    have bk : ∀ k ∈ out, ∃ p ∈ WkB g u v (i + 1), k = pI p := fun k z => (mem k).mp (po.mem_iff.mp z)
    have eo : out.map tupI = (out.map unI).map pairD := by
      rw [List.map_map]
      refine List.map_congr_left fun k z => ?_
      obtain ⟨p, _, rfl⟩ := bk k z
      rfl
    rw [eo]
    have em : (WkB g u v (i + 1)).isEmpty = false := by
      cases acc with
      | nil => cases ha
      | cons k acc =>
        obtain ⟨p, hp, _⟩ := (mem k).mp List.mem_cons_self
        cases hw : WkB g u v (i + 1) with
        | nil => rw [hw] at hp; cases hp
        | cons _ _ => rfl
    refine hn em (out.map unI) fun p => ?_
    rw [List.mem_map]
    constructor
    · rintro ⟨k, hk, rfl⟩
      obtain ⟨q, hq, rfl⟩ := bk k hk
      exact hq
    · intro hp
      exact ⟨pI p, po.mem_iff.mpr ((mem _).mpr ⟨p, hp, rfl⟩), rfl⟩
def t_longest (C : Cs) : DTS := dSeq (dDrop (dOp (S_check_wishes C) (dCons (dVar 0) (dCons (dVar 1) (dCons (dVar 2) (dNil)))))) (dSeq (dAsg (dOp (S_cells_of C) (dCons (dVar 0) (dNil))) (dName 3)) (dSeq (dAsg (dDt [8] (dIter (dVar 3)) (cName 8) dYes (dVar 8) (dOp (S_better_cells C) (dCons (dVar 0) (dCons (dVar 1) (dCons (dVar 2) (dCons (dVar 8) (dNil))))))) (dName 4)) (dSeq (dAsg (dVar 3) (dName 5)) (dSeq (dFor (dRange1 (dCall gLen (dCons (dVar 3) dNil))) (dName 6) (dReach [8, 9] [9] (dIter (dVar 5)) (cName 8) (dIter (dBin gTGet (dVar 4) (dVar 8))) (cName 9) (dVar 9) 7 (dRet (dVar 6)) 5 true)) (dRet (dC .non))))))
theorem rd_longest {C : Cs} {n1 n2 n3 n4 n5 n6 n7 n8 n9 na : Str} : ∀ ds μ Q E, S_longest C ds μ Q E → t_longest C (dFn μ Q E) (start0 [n1, n2, n3, n4, n5, n6, n7, n8, n9, na] ds) μ := by
  rintro _ μ Q E ⟨g, ns, u, ms, v, rfl, hg, a1, a2, q1, q2, q3⟩
  unfold t_longest
  rw [dSeq]
  simp only [dDrop, dOp, dCons, dNil, dVar, start0, List.map_cons, List.map_nil, List.length_cons, List.length_nil, List.replicate, List.cons_append, List.nil_append, List.getElem?_cons_zero, List.getElem?_cons_succ]
  refine ⟨g, ns, u, ms, v, rfl, hg, a1, a2, fun h => FnExc.here (puF_one (pu_tupS ns)) (q1 h), fun h1 h2 => FnExc.here (puF_one (pu_tupS ms)) (q2 h1 h2), fun h1 h2 => ?_⟩
  have q := q3 h1 h2
  subst h1 h2
  try dsimp only
  rw [dSeq]
  simp only [dAsg, dOp, dCons, dNil, dVar, List.getElem?_cons_zero]
  refine ⟨g, rfl, hg, ?_⟩
  simp only [dName, List.set_cons_succ, List.set_cons_zero]
  try dsimp only
  rw [dSeq]
  simp only [dAsg, dDt, dIter, dVar, List.getElem?_cons_zero, List.getElem?_cons_succ]
  have hle := hg.cl
  refine dt_all (val := fun p => .lst ((better g u v p).map pairD)) (by simp [wipeG]) _ [] _ (cells_nd g) (fun x _ p hp => by cases hp) (by rw [sizeLine_eq]; simp; omega) (fun p hp K kk => ?_) ?_
  · simp only [dOp, dCons, dNil, dVar, wipeG, List.set_cons_succ, List.set_cons_zero, List.getElem?_cons_zero, List.getElem?_cons_succ]
    exact ⟨g, u, v, p, rfl, hg, hp, kk⟩
  rw [List.nil_append]
  have hval : ∀ p ∈ cellsG g, valT ((cellsG g).map fun p => (pkK p, D.lst ((better g u v p).map pairD))) (pkK p) = some (.lst ((better g u v p).map pairD)) := fun p hp => valT_all (val := fun p => D.lst ((better g u v p).map pairD)) hp
  generalize ((cellsG g).map fun p => (pkK p, D.lst ((better g u v p).map pairD))) = kvs at hval
  simp only [dName, List.set_cons_succ, List.set_cons_zero]
  try dsimp only
  rw [dSeq]
  simp only [dAsg, dVar, dName, List.getElem?_cons_zero, List.getElem?_cons_succ, List.set_cons_succ, List.set_cons_zero]
  try dsimp only
  rw [dSeq]
  simp only [dFor, dRange1, dCall, dCons, dNil, dVar, gLen, List.getElem?_cons_zero, List.getElem?_cons_succ, List.length_map]
  refine ⟨⟨by rw [List.length_map]; omega, by rw [List.length_map]; omega⟩, ?_⟩
  have hm : (μ ++ [Cell.dtp kvs])[μ.length]? = some (.dtp kvs) := by simp
  have fin : ∀ {d : D}, d.pu = true → Q d μ → FnEnd μ d (μ ++ [Cell.dtp kvs]) Q := fun h1 h2 => FnEnd.pure (Upd.refl μ) h1 h2
  refine loop_inv (src := none) (fun i Γ' μ' => μ' = μ ++ [Cell.dtp kvs] ∧ (∀ j, j < i → (WkB g u v (j + 1)).isEmpty = false) ∧ ∃ (xs : List (Nat × Nat)) (x : Option D), (∀ p, p ∈ xs ↔ p ∈ WkB g u v i) ∧ Γ' = GL (tabD C g) (wD C (outs g) u) (wD C (outs g) v) (.lst ((cellsG g).map pairD)) (.ref μ.length) (.lst (xs.map pairD)) x) ⟨rfl, fun j hj => by omega, cellsG g, none, fun p => Iff.rfl, rfl⟩ ?_ ?_
  · rintro i d Γ' μ' hd ⟨rfl, hj, xs, x, hx, rfl⟩
    obtain ⟨hi, rfl⟩ := irng_get hd
    refine ⟨trivial, fun Kn hK => ?_⟩
    simp only [dName, GL, List.set_cons_succ, List.set_cons_zero]
    have e0 : ((0 : Int) + (i : Int)) = (i : Int) := by omega
    rw [e0]
    refine long_turn (g := g) (u := u) (v := v) (x := none) (kvs := kvs) hg hm hval hx (fun h => fin rfl ?_) (fun h ys hy => hK _ _ ⟨rfl, fun j hj' => ?_, ys, some (.int i), hy, rfl⟩)
    · have := longS_some (by simpa using hi) h hj
      rw [this] at q; exact q
    · rcases Nat.lt_or_ge j i with z | z
      · exact hj j z
      · have : j = i := by omega
        rw [this]; exact h
  · rintro Γ' μ' ⟨rfl, hj, xs, x, hx, rfl⟩
    refine ⟨trivial, fin rfl ?_⟩
    rw [longS_none fun j h => hj j (by rw [irng_len]; simpa using h)] at q
    exact q
end DV
namespace DV
open PySem PySem.Spec PyProof.Rows L2
/-! the law's own longest walk -/
theorem LSee.more {μ : Mu} {d : D} {ks ms : List Str} {u v : Str → Int} (h : LSee μ d ks u ms v) (x : Mu) : LSee (μ ++ x) d ks u ms v := fun loc => by
  rw [List.append_assoc]; exact h (x ++ loc)
def OKF (g : List (List Str)) (fs : List (List Key × D)) : Prop := (fs.map (·.1)).Nodup ∧ ∀ k ∈ fs.map (·.1), ∃ c ∈ cellsG g, k = pkK c
theorem OKF.len {g : List (List Str)} {fs : List (List Key × D)} (hg : TOk g) (h : OKF g fs) : fs.length ≤ 64 := by
  have := len_sub (fs.map (·.1)) ((cellsG g).map pkK) h.1 fun k hk => by
    obtain ⟨c, hc, rfl⟩ := h.2 k hk
    exact List.mem_map.mpr ⟨c, hc, rfl⟩
  rw [List.length_map, List.length_map] at this
  exact Nat.le_trans this hg.cl
theorem putT_in {fs : List (List Key × D)} {k : List Key} {d : D} (h : k ∈ fs.map (·.1)) : (putT fs k d).map (·.1) = fs.map (·.1) := by
  unfold putT
  rw [if_pos]
  · rw [List.map_map]
    refine List.map_congr_left fun p _ => ?_
    show (if p.1 = k then (p.1, d) else p).1 = p.1
    split <;> rfl
  · obtain ⟨p, hp, e⟩ := List.mem_map.mp h
    exact List.any_eq_true.mpr ⟨p, hp, decide_eq_true e⟩
theorem putT_out {fs : List (List Key × D)} {k : List Key} {d : D} (h : k ∉ fs.map (·.1)) : (putT fs k d).map (·.1) = fs.map (·.1) ++ [k] := by
  rw [putT_new fun p hp e => h (List.mem_map.mpr ⟨p, hp, e⟩), List.map_append]; rfl
theorem putT_ok {g : List (List Str)} {fs : List (List Key × D)} {y : Nat × Nat} {d : D} (h : OKF g fs) (hy : y ∈ cellsG g) : OKF g (putT fs (pkK y) d) ∧ ∀ k, k ∈ (putT fs (pkK y) d).map (·.1) ↔ k ∈ fs.map (·.1) ∨ k = pkK y := by
  unfold OKF
  rcases Classical.em (pkK y ∈ fs.map (·.1)) with hm | hm
  · rw [putT_in hm]
    exact ⟨h, fun k => ⟨.inl, fun z => z.elim id fun e => by rw [e]; exact hm⟩⟩
  · rw [putT_out hm]
    refine ⟨⟨?_, fun k hk => ?_⟩, fun k => ?_⟩
    · rw [List.nodup_append]
      exact ⟨h.1, by simp, fun a ha b hb z => hm (by rw [List.mem_singleton.mp hb] at z; exact z ▸ ha)⟩
    · rcases List.mem_append.mp hk with hk | hk
      · exact h.2 k hk
      · exact ⟨y, hy, List.mem_singleton.mp hk⟩
    · rw [List.mem_append, List.mem_singleton]
theorem set_last {base : Mu} {x y : Cell} : (base ++ [x]).set base.length y = base ++ [y] := by
  rw [List.set_append_right _ _ (Nat.le_refl _), Nat.sub_self]; rfl
theorem get_last {base : Mu} {x : Cell} : (base ++ [x])[base.length]? = some x := by simp
section
variable {g : List (List Str)} {a0 a1 a2 a3 a5 : Option D} {base : Mu} {lA : Nat} {kvs : List (List Key × D)} {nx : Nat × Nat → List (Nat × Nat)}
theorem in_loop (hg : TOk g) {a4 : Option D} : ∀ (ys : List (Nat × Nat)) (fs : List (List Key × D)) (a7 : Option D) (De : DEnds), OKF g fs → (∀ y ∈ ys, y ∈ cellsG g) →
    (∀ fs' a7', OKF g fs' → (∀ k, k ∈ fs'.map (·.1) ↔ k ∈ fs.map (·.1) ∨ ∃ y ∈ ys, k = pkK y) → De.nx [a0, a1, a2, a3, a4, a5, some (.ref base.length), a7'] (base ++ [.dtp fs'])) →
    dLoop none (dName 7) (dAsg (dC (.int 1)) (dSetT (dVar 6) (dVar 7))) (ys.map pairD) De [a0, a1, a2, a3, a4, a5, some (.ref base.length), a7] (base ++ [.dtp fs])
  | [], fs, a7, De, h, _, k => ⟨trivial, k fs a7 h fun q => by simp⟩
  | y :: ys, fs, a7, De, h, hy, k => by
    refine ⟨trivial, ?_⟩
    have hl := h.len hg
    obtain ⟨o1, o2⟩ := putT_ok (d := D.int 1) h (hy y List.mem_cons_self)
    simp only [dName, dAsg, dC, dSetT, dVar, List.set_cons_succ, List.set_cons_zero, List.getElem?_cons_zero, List.getElem?_cons_succ, keyT_p, get_last]
    refine ⟨by rw [sizeLine_eq]; omega, ?_⟩
    rw [set_last]
    refine in_loop hg ys _ _ De o1 (fun z hz => hy z (List.mem_cons_of_mem _ hz)) fun fs' a7' h' hm => k fs' a7' h' fun q => ?_
    rw [hm, o2]
    constructor
    · rintro ((z | z) | ⟨w, hw, e⟩)
      · exact .inl z
      · exact .inr ⟨y, List.mem_cons_self, z⟩
      · exact .inr ⟨w, List.mem_cons_of_mem _ hw, e⟩
    · rintro (z | ⟨w, hw, e⟩)
      · exact .inl (.inl z)
      · rcases List.mem_cons.mp hw with rfl | hw
        · exact .inl (.inr e)
        · exact .inr ⟨w, hw, e⟩
theorem out_loop (hg : TOk g) (hA : ∀ z, (base ++ [z])[lA]? = some (.dtp kvs)) : ∀ (xs : List (Nat × Nat)) (fs : List (List Key × D)) (a4 a7 : Option D) (De : DEnds), OKF g fs → (∀ x ∈ xs, valT kvs (pkK x) = some (.lst ((nx x).map pairD)) ∧ ∀ y ∈ nx x, y ∈ cellsG g) →
    (∀ fs' a4' a7', OKF g fs' → (∀ k, k ∈ fs'.map (·.1) ↔ k ∈ fs.map (·.1) ∨ ∃ x ∈ xs, ∃ y ∈ nx x, k = pkK y) → De.nx [a0, a1, a2, some (.ref lA), a4', a5, some (.ref base.length), a7'] (base ++ [.dtp fs'])) →
    dLoop none (dName 4) (dFor (dIter (dBin gTGet (dVar 3) (dVar 4))) (dName 7) (dAsg (dC (.int 1)) (dSetT (dVar 6) (dVar 7)))) (xs.map pairD) De [a0, a1, a2, some (.ref lA), a4, a5, some (.ref base.length), a7] (base ++ [.dtp fs])
  | [], fs, a4, a7, De, h, _, k => ⟨trivial, k fs a4 a7 h fun q => by simp⟩
  | x :: xs, fs, a4, a7, De, h, hx, k => by
    obtain ⟨e1, e2⟩ := hx x List.mem_cons_self
    refine ⟨trivial, ?_⟩
    simp only [dName, dFor, dIter, dBin, dVar, gTGet, List.set_cons_succ, List.set_cons_zero, List.getElem?_cons_zero, List.getElem?_cons_succ, keyT_p, hA, e1]
    refine in_loop hg (nx x) fs a7 _ h e2 fun fs1 a71 o1 m1 => ?_
    refine out_loop hg hA xs fs1 _ a71 De o1 (fun z hz => hx z (List.mem_cons_of_mem _ hz)) fun fs' a4' a7' h' hm => k fs' a4' a7' h' fun q => ?_
    rw [hm, m1]
    constructor
    · rintro ((z | ⟨y, hy, e⟩) | ⟨w, hw, y, hy, e⟩)
      · exact .inl z
      · exact .inr ⟨x, List.mem_cons_self, y, hy, e⟩
      · exact .inr ⟨w, List.mem_cons_of_mem _ hw, y, hy, e⟩
    · rintro (z | ⟨w, hw, y, hy, e⟩)
      · exact .inl (.inl z)
      · rcases List.mem_cons.mp hw with rfl | hw
        · exact .inl (.inr ⟨y, hy, e⟩)
        · exact .inr ⟨w, hw, y, hy, e⟩
end
def S_l_longest : DSp := fun ds μ Q _ => ∃ c ρ g d ks u ms v, ds = [gridD g, d] ∧ μ = O c ρ ∧ TOk g ∧ LSee μ d ks u ms v ∧ (∀ x ∈ outs g, x ∈ ks) ∧ (∀ x ∈ outs g, x ∈ ms) ∧ Q (longD (longS g u v)) μ
def t_l_longest_4 : DTS := dRet (dC .non)
def t_l_longest_3 : DTS := dSeq (dFor (dRange1 (dCall gLenT (dCons (dVar 3) dNil))) (dName 5) (dSeq (dAsg (dDictT0) (dName 6)) (dSeq (dFor (dIter (dVar 2)) (dName 4) (dFor (dIter (dBin gTGet (dVar 3) (dVar 4))) (dName 7) (dAsg (dC (.int 1)) (dSetT (dVar 6) (dVar 7))))) (dSeq (dIf (dTest (dBin gEqT0 (dVar 6) (dDict0z))) (dRet (dVar 5)) (dNext)) (dAsg (dCall gSortTO (dCons (dVar 6) dNil)) (dName 2)))))) (t_l_longest_4)
def t_l_longest_2 : DTS := dSeq (dFor (dIter (dVar 2)) (dName 4) (dAsg (dOp S_l_better (dCons (dVar 0) (dCons (dVar 1) (dCons (dVar 4) (dNil))))) (dSetT (dVar 3) (dVar 4)))) (t_l_longest_3)
def t_l_longest_1 : DTS := dSeq (dAsg (dDictT0) (dName 3)) (t_l_longest_2)
def t_l_longest : DTS := dSeq (dAsg (dOp S_l_cells (dCons (dVar 0) (dNil))) (dName 2)) (t_l_longest_1)
def afT (g : List (List Str)) (u v : Str → Int) (xs : List (Nat × Nat)) : List (List Key × D) := xs.map fun p => (pkK p, .lst ((better g u v p).map pairD))
theorem aft_loop {g : List (List Str)} {d : D} {ks ms : List Str} {u v : Str → Int} {μ : Mu} {a2 a5 a6 a7 : Option D} (hg : TOk g) (hd : LSee μ d ks u ms v) (k1 : ∀ x ∈ outs g, x ∈ ks) (k2 : ∀ x ∈ outs g, x ∈ ms) : ∀ (xs dn : List (Nat × Nat)) (a4 : Option D) (De : DEnds), (dn ++ xs).Nodup → (∀ x ∈ dn ++ xs, x ∈ cellsG g) →
    (∀ a4', De.nx [some (gridD g), some d, a2, some (.ref μ.length), a4', a5, a6, a7] (μ ++ [.dtp (afT g u v (dn ++ xs))])) →
    dLoop none (dName 4) (dAsg (dOp S_l_better (dCons (dVar 0) (dCons (dVar 1) (dCons (dVar 4) (dNil))))) (dSetT (dVar 3) (dVar 4))) (xs.map pairD) De [some (gridD g), some d, a2, some (.ref μ.length), a4, a5, a6, a7] (μ ++ [.dtp (afT g u v dn)])
  | [], dn, a4, De, _, _, k => ⟨trivial, by have := k a4; rw [List.append_nil] at this; exact this⟩
  | x :: xs, dn, a4, De, nd, hc, k => by
    refine ⟨trivial, ?_⟩
    have hx : x ∈ cellsG g := hc x (by simp)
    have hl : (afT g u v dn).length ≤ 64 := by
      unfold afT
      rw [List.length_map]
      exact Nat.le_trans (len_sub dn (cellsG g) (List.nodup_append.mp nd).1 fun y hy => hc y (List.mem_append_left _ hy)) hg.cl
    simp only [dName, dAsg, dOp, dCons, dNil, dSetT, dVar, List.set_cons_succ, List.set_cons_zero, List.getElem?_cons_zero, List.getElem?_cons_succ]
    refine ⟨g, d, ks, u, ms, v, x, rfl, hg, hd.more _, k1, k2, hx, ?_⟩
    simp only [keyT_p, get_last]
    refine ⟨by rw [sizeLine_eq]; omega, ?_⟩
    rw [set_last, putT_new fun p hp e => ?_]
    · have e2 : afT g u v dn ++ [(pkK x, D.lst ((better g u v x).map pairD))] = afT g u v (dn ++ [x]) := by unfold afT; rw [List.map_append]; rfl
      rw [e2]
      refine aft_loop hg hd k1 k2 xs (dn ++ [x]) _ De (by rw [List.append_assoc]; exact nd) (by rw [List.append_assoc]; exact hc) fun a4' => ?_
      rw [List.append_assoc]
      exact k a4'
    · unfold afT at hp
      obtain ⟨y, hy, rfl⟩ := List.mem_map.mp hp
      have := (List.nodup_append.mp nd).2.2 y hy x List.mem_cons_self
      exact this (pkK_inj e)
def unK (k : List Key) : Nat × Nat := match k with
  | [.inl a, .inl b] => (a.toNat, b.toNat)
  | _ => (0, 0)
theorem rd_l_longest {n1 n2 n3 n4 n5 n6 n7 n8 : Str} : ∀ ds μ Q E, S_l_longest ds μ Q E → t_l_longest (dFn μ Q E) (start0 [n1, n2, n3, n4, n5, n6, n7, n8] ds) μ := by
  rintro _ μ Q E ⟨c, ρ, g, d, ks, u, ms, v, rfl, hμ, hg, hd, k1, k2, q⟩
  have hle := hg.cl
  unfold t_l_longest
  rw [dSeq]
  simp only [dAsg, dOp, dCons, dNil, dVar, start0, List.map_cons, List.map_nil, List.length_cons, List.length_nil, List.replicate, List.cons_append, List.nil_append, List.getElem?_cons_zero, List.getElem?_cons_succ]
  refine ⟨g, rfl, hg, ?_⟩
  simp only [dName, List.set_cons_succ, List.set_cons_zero]
  unfold t_l_longest_1
  try dsimp only
  rw [dSeq]
  simp only [dAsg, dDictT0, dName, List.set_cons_succ, List.set_cons_zero]
  unfold t_l_longest_2
  try dsimp only
  rw [dSeq]
  rw [dFor]
  simp only [dIter, dVar, List.getElem?_cons_zero, List.getElem?_cons_succ]
  refine aft_loop (g := g) (u := u) (v := v) hg hd k1 k2 (cellsG g) [] none _ (cells_nd g) (fun x hx => hx) fun a4 => ?_
  rw [List.nil_append]
  have hval : ∀ p ∈ cellsG g, valT (afT g u v (cellsG g)) (pkK p) = some (.lst ((better g u v p).map pairD)) := fun p hp => valT_all (val := fun p => D.lst ((better g u v p).map pairD)) hp
  have hlen : (afT g u v (cellsG g)).length = (cellsG g).length := by unfold afT; rw [List.length_map]
  generalize afT g u v (cellsG g) = kvs at hval hlen
  unfold t_l_longest_3
  try dsimp only
  rw [dSeq]
  rw [dFor]
  simp only [dRange1, dCall, dCons, dNil, dVar, gLenT, List.getElem?_cons_zero, List.getElem?_cons_succ, get_last]
  refine ⟨⟨by omega, by omega⟩, ?_⟩
  have fin : ∀ {r : D} {jk : Mu}, r.pu = true → Q r μ → FnEnd μ r (μ ++ ([Cell.dtp kvs] ++ jk)) Q := fun h1 h2 => FnEnd.pure (Upd.refl μ) h1 h2
  refine loop_inv (src := none) (fun i Γ' μ' => ∃ jk : Mu, μ' = μ ++ ([Cell.dtp kvs] ++ jk) ∧ (∀ j, j < i → (WkB g u v (j + 1)).isEmpty = false) ∧ ∃ (xs : List (Nat × Nat)) (x4 x5 x6 x7 : Option D), (∀ p, p ∈ xs ↔ p ∈ WkB g u v i) ∧ Γ' = [some (gridD g), some d, some (.lst (xs.map pairD)), some (.ref μ.length), x4, x5, x6, x7]) ⟨[], by simp, fun j hj => by omega, cellsG g, _, _, _, _, fun p => Iff.rfl, rfl⟩ ?_ ?_
  · rintro i dd Γ' μ' hdd ⟨jk, rfl, hj, xs, x4, x5, x6, x7, hx, rfl⟩
    obtain ⟨hi, rfl⟩ := irng_get hdd
    refine ⟨trivial, fun Kn hK => ?_⟩
    simp only [dName, List.set_cons_succ, List.set_cons_zero]
    have e0 : ((0 : Int) + (i : Int)) = (i : Int) := by omega
    rw [e0]
    rw [dSeq]
    simp only [dAsg, dDictT0, dName, List.set_cons_succ, List.set_cons_zero]
    rw [dSeq]
    rw [dFor]
    simp only [dIter, dVar, List.getElem?_cons_zero, List.getElem?_cons_succ]
    have hA : ∀ z : Cell, ((μ ++ ([Cell.dtp kvs] ++ jk)) ++ [z])[μ.length]? = some (.dtp kvs) := fun z => by simp
    have h0' : ∃ kk : Nat × Bool, ∀ z : Cell, ((μ ++ ([Cell.dtp kvs] ++ jk)) ++ [z])[0]? = some (.orc kk) := ⟨_, fun z => by rw [hμ]; rfl⟩
    obtain ⟨kk, h0'⟩ := h0'
    generalize hb : μ ++ ([Cell.dtp kvs] ++ jk) = base at hA h0'
    refine out_loop (g := g) (nx := better g u v) hg hA xs [] x4 x7 _ ⟨List.nodup_nil, fun k z => by cases z⟩ (fun p hp => ⟨hval p (wk_cells ((hx p).mp hp)), fun y hy => (List.mem_filter.mp hy).1⟩) fun fs y4 y7 hf hm => ?_
    have mem : ∀ k, k ∈ fs.map (·.1) ↔ ∃ p ∈ WkB g u v (i + 1), k = pkK p := fun k => by
      rw [hm]
      constructor
      · rintro (z | ⟨x, h1, y, h2, rfl⟩)
        · cases z
        · exact ⟨y, wk_mem.mpr ⟨x, (hx x).mp h1, h2⟩, rfl⟩
      · rintro ⟨p, hp, rfl⟩
        obtain ⟨x, h1, h2⟩ := wk_mem.mp hp
        exact .inr ⟨x, (hx x).mpr h1, p, h2, rfl⟩
    try dsimp only
    rw [dSeq]
    simp only [dIf, dTest, dBin, dDict0z, dVar, gEqT0, List.getElem?_cons_zero, List.getElem?_cons_succ, get_last]
    cases he : fs.isEmpty with
    | true =>
      have f0 : fs = [] := List.isEmpty_iff.mp he
      rw [cond_true]
      have hw : (WkB g u v (i + 1)).isEmpty = true := by
        cases hw : WkB g u v (i + 1) with
        | nil => rfl
        | cons p ps =>
          have := (mem (pkK p)).mpr ⟨p, by rw [hw]; exact List.mem_cons_self, rfl⟩
          rw [f0] at this; cases this
      have := longS_some (by rw [hlen] at hi; simpa using hi) hw hj
      rw [this] at q
      simp only [dRet, dVar, List.getElem?_cons_zero, List.getElem?_cons_succ]
      rw [← hb, List.append_assoc, List.append_assoc]
      exact fin rfl q
    | false =>
      rw [cond_false]
      refine next_go ?_
      have hw : (WkB g u v (i + 1)).isEmpty = false := by
        cases hfs : fs with
        | nil => rw [hfs] at he; cases he
        | cons p ps =>
          obtain ⟨r, hr, _⟩ := (mem p.1).mp (by rw [hfs]; exact List.mem_cons_self)
          cases hww : WkB g u v (i + 1) with
          | nil => rw [hww] at hr; cases hr
          | cons _ _ => rfl
      simp only [dAsg, dCall, dCons, dNil, dVar, dName, List.getElem?_cons_zero, List.getElem?_cons_succ]
      refine ⟨⟨0, kk, h0' _⟩, ?_⟩
      simp only [gSortT, get_last]
      refine ⟨fun p hp => ?_, fun out po => ?_⟩
      · obtain ⟨r, _, e⟩ := (mem p.1).mp (List.mem_map.mpr ⟨p, hp, rfl⟩)
        exact ⟨_, _, e⟩
      · have bk : ∀ k ∈ out, ∃ p ∈ WkB g u v (i + 1), k = pkK p := fun k z => (mem k).mp (po.mem_iff.mp z)
        have eo : out.map pkD = (out.map unK).map pairD := by
          rw [List.map_map]
          refine List.map_congr_left fun k z => ?_
          obtain ⟨p, _, rfl⟩ := bk k z
          rfl
        rw [eo]
        simp only [List.set_cons_succ, List.set_cons_zero]
        refine hK _ _ ⟨jk ++ [.dtp fs], by rw [← hb]; simp, fun j hj' => ?_, out.map unK, _, _, _, _, fun p => ?_, rfl⟩
        · rcases Nat.lt_or_ge j i with z | z
          · exact hj j z
          · have : j = i := by omega
            rw [this]; exact hw
        · rw [List.mem_map]
          constructor
          · rintro ⟨k, hk, rfl⟩
            obtain ⟨r, hr, rfl⟩ := bk k hk
            exact hr
          · intro hp
            exact ⟨pkK p, po.mem_iff.mpr ((mem _).mpr ⟨p, hp, rfl⟩), rfl⟩
  · rintro Γ' μ' ⟨jk, rfl, hj, xs, x4, x5, x6, x7, hx, rfl⟩
    refine ⟨trivial, ?_⟩
    unfold t_l_longest_4
    simp only [dRet, dC]
    rw [longS_none fun j h => hj j (by rw [irng_len, hlen]; simpa using h)] at q
    exact fin rfl q
end DV
namespace DV
open PySem PySem.Spec PyProof.Rows L2
/-! what the law asks of longest -/
def tldB (d : D) : D := .tup [.str (Str.ofString "told"), d]
def unlB (ns : List Str) : D := .tup [.str (Str.ofString "unlike"), tupS ns]
def dueL (g : List (List Str)) (ns : List Str) (u : Str → Int) (ms : List Str) (v : Str → Int) : D := if ns ≠ outs g then unlB ns else if ms ≠ outs g then unlB ms else tldB (longD (longS g u v))
theorem tld_ascB : asc (Str.ofString "told") := by intro c hc; revert c; decide +kernel
theorem unl_ascB : asc (Str.ofString "unlike") := by intro c hc; revert c; decide +kernel
theorem okn_two {s : Str} {d : D} (hs : asc s) (h : D.okn 11 d = true) : D.okn 12 (.tup [.str s, d]) = true := by
  have h1 : D.okn 11 (.str s) = true := by
    have := okn_strs (xs := [s]) (fun x hx => by rw [List.mem_singleton.mp hx]; exact hs) 11
    simpa [D.okn] using this
  show ([D.str s, d].all (D.okn 11)) = true
  simp only [List.all_cons, List.all_nil, h1, h, Bool.and_self]
theorem okn_long (o : Option Nat) : D.okn 11 (longD o) = true := by cases o <;> rfl
theorem okn_due {g : List (List Str)} {ns ms : List Str} {u v : Str → Int} (an : asl ns) (am : asl ms) : D.okn 12 (dueL g ns u ms v) = true := by
  unfold dueL
  split
  · exact okn_two unl_ascB (okn_strs an 10)
  · split
    · exact okn_two unl_ascB (okn_strs am 10)
    · exact okn_two tld_ascB (okn_long _)
theorem sz2b {a b : D} : [a, b].length ≤ sizeLine := by rw [sizeLine_eq]; simp
def S_l_told41 (C : Cs) : DSp := fun ds μ Q _ => ∃ way g ns u ms v, ds = [.int way, tabD C g, .lst [wD C ns u, wD C ms v]] ∧ TOk g ∧ asl ns ∧ asl ms ∧ Q (dueL g ns u ms v) μ
def t_l_told41 (C : Cs) : DTS := dTry [.BadName, .DuplicateName, .UnknownName, .BadCount, .BadText, .BadCell, .BadWish, .UnlikeOutcomes] (dSeq (dIf (dTest (dBin gEq (dVar 0) (dC (.int 0)))) (dRet (dCall gTup (dCons (dC (.str "told")) (dCons (dOp (S_longest C) (dCons (dVar 1) (dCons (dBin gIx (dVar 2) (dC (.int 0))) (dCons (dBin gIx (dVar 2) (dC (.int 1))) (dNil))))) (dNil))))) (dNext)) (dRet (dCall gTup (dCons (dC (.str "told")) (dCons (dOpK (S_longest C) [1, 2, 0] 0 3 dNil (dCons (dBin gIx (dVar 2) (dC (.int 1))) (dCons (dVar 1) (dCons (dBin gIx (dVar 2) (dC (.int 0))) (dNil))))) (dNil)))))) [⟨.UnlikeOutcomes, some 3, fun a dd l => dRet (dCall gTup (dCons (dC (.str "unlike")) (dCons (dXf a dd l "names" (dVar 3)) (dNil))))⟩]
abbrev told41_cl : List DCl := [⟨.UnlikeOutcomes, some 3, fun a dd l => dRet (dCall gTup (dCons (dC (.str "unlike")) (dCons (dXf a dd l "names" (dVar 3)) (dNil))))⟩]
abbrev told41_ks : List EK := [.BadName, .DuplicateName, .UnknownName, .BadCount, .BadText, .BadCell, .BadWish, .UnlikeOutcomes]
theorem told_unl41 {μ : Mu} {ns : List Str} {Q : D → Mu → Prop} {E : Exn → Mu → Prop} {a0 a1 a2 : Option D} (q : Q (unlB ns) μ) : dHandle told41_ks told41_cl (dFn μ Q E) (unlX ns) [a0, a1, a2, none] μ := by
  unfold unlX
  refine hnd_hit (by decide) ?_
  refine ⟨by simp, fun a dd => ?_⟩
  simp only [dRet, dCall, dCons, dNil, dC, dXf, dVar, List.set_cons_zero, List.set_cons_succ, List.getElem?_cons_zero, List.getElem?_cons_succ, get_a0, List.lookup_cons, beq_self_eq_true, gTup]
  exact ⟨trivial, trivial, sz2b, FnEnd.pure (Upd.refl μ) (show (unlB ns).pu = true from by show (true && ((tupS ns).pu && true)) = true; rw [pu_tupS]; rfl) q⟩
theorem rd_l_told41 {C : Cs} {n1 n2 n3 n4 : Str} : ∀ ds μ Q E, S_l_told41 C ds μ Q E → t_l_told41 C (dFn μ Q E) (start0 [n1, n2, n3, n4] ds) μ := by
  rintro _ μ Q E ⟨way, g, ns, u, ms, v, rfl, hg, an, am, q⟩
  have y0 : atI [wD C ns u, wD C ms v] 0 = some (wD C ns u) := rfl
  have y1 : atI [wD C ns u, wD C ms v] 1 = some (wD C ms v) := rfl
  have u1 : ns ≠ outs g → Q (unlB ns) μ := fun h => by
    unfold dueL at q; rwa [if_pos h] at q
  have u2 : ns = outs g → ms ≠ outs g → Q (unlB ms) μ := fun h h2 => by
    unfold dueL at q; rwa [if_neg (fun z => z h), if_pos h2] at q
  have u3 : ns = outs g → ms = outs g → Q (tldB (longD (longS g u v))) μ := fun h h2 => by
    unfold dueL at q; rwa [if_neg (fun z => z h), if_neg (fun z => z h2)] at q
  have longP : ∀ (Q' : D → Mu → Prop), (Q (tldB (longD (longS g u v))) μ → Q' (longD (longS g u v)) μ) → S_longest C [tabD C g, wD C ns u, wD C ms v] μ Q' (fun x μ1 => dHandle told41_ks told41_cl (dFn μ Q E) x [some (.int way), some (tabD C g), some (.lst [wD C ns u, wD C ms v]), none] μ1) := fun Q' k =>
    ⟨g, ns, u, ms, v, rfl, hg, an, am, fun h => told_unl41 (u1 h), fun h h2 => told_unl41 (u2 h h2), fun h1 h2 => k (u3 h1 h2)⟩
  unfold t_l_told41
  rw [dTry]
  rw [dSeq]
  simp only [dIf, dTest, dBin, gEq, dC, dVar, start0, List.map_cons, List.map_nil, List.length_cons, List.length_nil, List.replicate, List.cons_append, List.nil_append, List.getElem?_cons_zero, List.getElem?_cons_succ, deq_int]
  refine ⟨deqOk_int _ _ _, ?_⟩
  cases decide (way = 0) with
  | true =>
    simp only [cond_true, dRet, dCall, dCons, dNil, dC, dOp, dBin, dVar, gIx, lk, List.getElem?_cons_zero, List.getElem?_cons_succ, y0, y1]
    refine longP _ fun k => ?_
    simp only [gTup]
    exact ⟨sz2b, FnEnd.here k⟩
  | false =>
    rw [cond_false]
    refine next_go ?_
    simp only [dRet, dCall, dCons, dNil, dC, dOpK, dBin, dVar, gIx, lk, List.getElem?_cons_zero, List.getElem?_cons_succ, y0, y1]
    refine ⟨rfl, rfl, ?_⟩
    refine longP _ fun k => ?_
    simp only [gTup]
    exact ⟨sz2b, FnEnd.here k⟩
theorem unl_some {g : List (List Str)} {ks ms : List Str} {u v : Str → Int} : (unlD g [(ks, u), (ms, v)]).getD .non = if sortS ks ≠ outs g then unlB (sortS ks) else if sortS ms ≠ outs g then unlB (sortS ms) else .non := by
  unfold unlD
  rw [List.findSome?_cons, List.findSome?_cons, List.findSome?_nil]
  by_cases h1 : sortS ks = outs g
  · have e1 : unl1 g (ks, u) = none := if_pos h1
    rw [e1, if_neg (fun z => z h1)]
    by_cases h2 : sortS ms = outs g
    · have e2 : unl1 g (ms, v) = none := if_pos h2
      rw [e2, if_neg (fun z => z h2)]; rfl
    · have e2 : unl1 g (ms, v) = some (unlB (sortS ms)) := if_neg h2
      rw [e2, if_pos h2]; rfl
  · have e1 : unl1 g (ks, u) = some (unlB (sortS ks)) := if_neg h1
    rw [e1, if_pos h1]; rfl
end DV
namespace DV
open PySem PySem.Spec PyProof.Rows L2
theorem sort_sub {g : List (List Str)} {ks : List Str} (h : sortS ks = outs g) : ∀ x ∈ outs g, x ∈ ks := fun x hx => by rw [← h] at hx; exact (sortS_perm ks).mem_iff.mp hx
theorem due_get1 {g : List (List Str)} {ns ms : List Str} {u v : Str → Int} : ∃ s d, dueL g ns u ms v = .tup [.str s, d] ∧ ∃ t, tyD d = some t ∧ t.sub .bool = false := by
  unfold dueL
  split
  · exact ⟨_, _, rfl, .tup, rfl, rfl⟩
  · split
    · exact ⟨_, _, rfl, .tup, rfl, rfl⟩
    · refine ⟨_, _, rfl, ?_⟩
      cases longS g u v with
      | none => exact ⟨.non, rfl, rfl⟩
      | some k => exact ⟨.int, rfl, rfl⟩
def t_law_f0_3 (C : Cs) : DTS := dIf (dOrT (dTest (dBin gNe (dVar 10) (dVar 9))) (dTest (dIsi .bool (dBin gIx (dVar 10) (dC (.int 1)))))) (dRet (dC (.bl false))) (dNext)
def t_law_f0_2 (C : Cs) : DTS := dSeq (dAsg (dOp (S_l_told41 C) (dCons (dBin gMod (dVar 5) (dC (.int 2))) (dCons (dBin gIx (dVar 4) (dVar 8)) (dCons (dVar 7) (dNil))))) (dName 10)) (t_law_f0_3 C)
def t_law_f0_1 (C : Cs) : DTS := dSeq (dIf (dTest (dBin gIs (dVar 9) (dC .non))) (dAsg (dCall gTup (dCons (dC (.str "told")) (dCons (dOp S_l_longest (dCons (dBin gIx (dVar 3) (dVar 8)) (dCons (dVar 6) (dNil)))) (dNil)))) (dName 9)) (dNext)) (t_law_f0_2 C)
def t_law_f0 (C : Cs) : DTS := dSeq (dAsg (dOp S_l_unlike (dCons (dBin gIx (dVar 3) (dVar 8)) (dCons (dVar 6) (dNil)))) (dName 9)) (t_law_f0_1 C)
def t_law_f1_3 (C : Cs) : DTS := dIf (dTest (dBin gIs (dOp S_l_unlike (dCons (dBin gIx (dVar 3) (dC (.int 0))) (dCons (dVar 6) (dNil)))) (dC .non))) (dIf (dTest (dBin gNe (dOp (S_l_told41 C) (dCons (dC (.int 0)) (dCons (dBin gIx (dVar 4) (dC (.int 0))) (dCons (dRevA true (dVar 7)) (dNil))))) (dCall gTup (dCons (dC (.str "told")) (dCons (dOp S_l_longest (dCons (dBin gIx (dVar 3) (dC (.int 0))) (dCons (dRevA true (dVar 6)) (dNil)))) (dNil)))))) (dRet (dC (.bl false))) (dNext)) (dNext)
def t_law_f1_2 (C : Cs) : DTS := dSeq (dFor (dIter (dCall gLst (dCons (dC (.int 0)) (dCons (dC (.int 1)) (dCons (dC (.int 0)) (dNil)))))) (dName 8) (dSeq (dAsg (dOp S_l_unlike (dCons (dBin gIx (dVar 3) (dVar 8)) (dCons (dVar 6) (dNil)))) (dName 9)) (dSeq (dIf (dTest (dBin gIs (dVar 9) (dC .non))) (dAsg (dCall gTup (dCons (dC (.str "told")) (dCons (dOp S_l_longest (dCons (dBin gIx (dVar 3) (dVar 8)) (dCons (dVar 6) (dNil)))) (dNil)))) (dName 9)) (dNext)) (dSeq (dAsg (dOp (S_l_told41 C) (dCons (dBin gMod (dVar 5) (dC (.int 2))) (dCons (dBin gIx (dVar 4) (dVar 8)) (dCons (dVar 7) (dNil))))) (dName 10)) (dIf (dOrT (dTest (dBin gNe (dVar 10) (dVar 9))) (dTest (dIsi .bool (dBin gIx (dVar 10) (dC (.int 1)))))) (dRet (dC (.bl false))) (dNext)))))) (t_law_f1_3 C)
def t_law_f1_1 (C : Cs) : DTS := dSeq (dAsg (dCall gLst (dCons (dMakeM C.W (S_W_init C) (dCons (dBin gIx (dVar 6) (dC (.int 0))) (dNil))) (dCons (dMakeM C.W (S_W_init C) (dCons (dBin gIx (dVar 6) (dC (.int 1))) (dNil))) (dNil)))) (dName 7)) (t_law_f1_2 C)
def t_law_f1 (C : Cs) : DTS := dSeq (dAsg (dOp S_l_wishes (dCons (dVar 1) (dCons (dBin gIx (dVar 3) (dBin gMod (dVar 5) (dC (.int 2)))) (dCons (dVar 2) (dNil))))) (dName 6)) (t_law_f1_1 C)
def t_law_5 (C : Cs) : DTS := dRet (dC (.bl true))
def t_law_4 (C : Cs) : DTS := dSeq (dFor (dRange1 (dC (.int 4))) (dName 5) (t_law_f1 C)) (t_law_5 C)
def t_law_3 (C : Cs) : DTS := dSeq (dAsg (dComp true [11] (dIter (dVar 3)) (cName 11) (dYes) (dMake C.T (S_T_init C) (dCons (dVar 11) (dNil)))) (dName 4)) (t_law_4 C)
def t_law_2 (C : Cs) : DTS := dSeq (dAsg (dCall gLst (dCons (dOp S_grid (dCons (dVar 1) (dCons (dVar 2) (dNil)))) (dCons (dOp S_grid (dCons (dVar 1) (dCons (dVar 2) (dNil)))) (dNil)))) (dName 3)) (t_law_3 C)
def t_law_1 (C : Cs) : DTS := dSeq (dAsg (dOp S_wordsZ (dCons (dVar 1) (dNil))) (dName 2)) (t_law_2 C)
def t_law (C : Cs) : DTS := dSeq (dAsg (dOp S_start2 (dCons (dVar 0) (dNil))) (dName 1)) (t_law_1 C)
section
variable {C : Cs} {De : DEnds} {a0 a2 a5 a9 a10 a11 : Option D} {c : Nat} {ρ : Mu} {ks ms : List Str} {u w : Str → Int} {L3 L4 : List D} {g : List (List Str)} {way : Int} {k : Int}
theorem k41_ask (hg : TOk g) (hk : NOk ks) (hm : NOk ms) (e4 : atI L4 k = some (tabD C g)) {t : Int}
    (kn : De.nx [a0, some (.ref 0), a2, some (.lst L3), some (.lst L4), some (.int t), some (.lst [.dct (lkL ks u), .dct (lkL ms w)]), some (.lst [wD C (sortS ks) u, wD C (sortS ms) w]), some (.int k), some (dueL g (sortS ks) u (sortS ms) w), some (dueL g (sortS ks) u (sortS ms) w), a11] (O c ρ)) :
    t_law_f0_2 C De [a0, some (.ref 0), a2, some (.lst L3), some (.lst L4), some (.int t), some (.lst [.dct (lkL ks u), .dct (lkL ms w)]), some (.lst [wD C (sortS ks) u, wD C (sortS ms) w]), some (.int k), some (dueL g (sortS ks) u (sortS ms) w), a10, a11] (O c ρ) := by
  have ak : asl (sortS ks) := hk.sort.asl
  have am : asl (sortS ms) := hm.sort.asl
  unfold t_law_f0_2
  rw [dSeq]
  simp only [dAsg, dOp, dCons, dNil, dBin, dVar, dC, gMod, List.getElem?_cons_zero, List.getElem?_cons_succ]
  refine ⟨by decide, ?_⟩
  simp only [gIx, lk, e4]
  refine ⟨_, g, sortS ks, u, sortS ms, w, rfl, hg, ak, am, ?_⟩
  simp only [dName, List.set_cons_succ, List.set_cons_zero]
  have ho := okn_due (g := g) (u := u) (v := w) ak am
  obtain ⟨s1, d1, e1, t1, h1, h2⟩ := due_get1 (g := g) (ns := sortS ks) (ms := sortS ms) (u := u) (v := w)
  generalize dueL g (sortS ks) u (sortS ms) w = X at ho e1 kn
  unfold t_law_f0_3
  simp only [dIf, dOrT, dTest, dBin, dC, dVar, dIsi, List.getElem?_cons_zero, List.getElem?_cons_succ, gNe]
  obtain ⟨q1, q2⟩ := deq_refl (μ := O c ρ) (x := X) (y := X) rfl (by rw [e1] at ho ⊢; exact ho)
  refine ⟨q1, ?_⟩
  rw [q2]
  simp only [Bool.not_true, cond_false]
  subst e1
  have z1 : ∀ Q' : D → Mu → Prop, gIx (.tup [.str s1, d1]) (.int 1) (O c ρ) Q' = Q' d1 (O c ρ) := fun _ => rfl
  rw [z1]
  have hl : lk (O c ρ) d1 = d1 := by
    cases d1 <;> first | rfl | cases h1
  rw [hl, h1]
  dsimp only
  rw [h2]
  exact next_go kn
theorem k41_turn (hg : TOk g) (hk : NOk ks) (hm : NOk ms) (e3 : atI L3 k = some (gridD g)) (e4 : atI L4 k = some (tabD C g)) {t : Int}
    (kn : ∀ a9 a10, De.nx [a0, some (.ref 0), a2, some (.lst L3), some (.lst L4), some (.int t), some (.lst [.dct (lkL ks u), .dct (lkL ms w)]), some (.lst [wD C (sortS ks) u, wD C (sortS ms) w]), some (.int k), a9, a10, a11] (O c ρ)) :
    t_law_f0 C De [a0, some (.ref 0), a2, some (.lst L3), some (.lst L4), some (.int t), some (.lst [.dct (lkL ks u), .dct (lkL ms w)]), some (.lst [wD C (sortS ks) u, wD C (sortS ms) w]), some (.int k), a9, a10, a11] (O c ρ) := by
  have last := fun a10 => k41_ask (De := De) (a0 := a0) (a2 := a2) (a10 := a10) (a11 := a11) (c := c) (ρ := ρ) (u := u) (w := w) (L3 := L3) hg hk hm e4 (t := t) (kn _ _)
  unfold t_law_f0
  rw [dSeq]
  simp only [dAsg, dOp, dCons, dNil, dBin, dVar, List.getElem?_cons_zero, List.getElem?_cons_succ, gIx, lk, e3]
  refine ⟨g, [(ks, u), (ms, w)], rfl, hg, fun p hp => ?_, ?_⟩
  · simp only [List.mem_cons, List.not_mem_nil, or_false] at hp
    rcases hp with rfl | rfl
    · exact hk
    · exact hm
  rw [unl_some]
  simp only [dName, List.set_cons_succ, List.set_cons_zero]
  unfold t_law_f0_1
  try dsimp only
  rw [dSeq]
  simp only [dIf, dTest, dBin, dC, dVar, List.getElem?_cons_zero, List.getElem?_cons_succ, gIs]
  by_cases h1 : sortS ks = outs g
  · rw [if_neg (fun z => z h1)]
    by_cases h2 : sortS ms = outs g
    · rw [if_neg (fun z => z h2)]
      have ed : dueL g (sortS ks) u (sortS ms) w = tldB (longD (longS g u w)) := by unfold dueL; rw [if_neg (fun z => z h1), if_neg (fun z => z h2)]
      rw [ed] at last
      simp only [D.isN, cond_true, dAsg, dCall, dCons, dNil, dC, dOp, dBin, dVar, List.getElem?_cons_zero, List.getElem?_cons_succ, gIx, lk, e3]
      refine ⟨c, ρ, g, _, ks, u, ms, w, rfl, rfl, hg, fun loc => ⟨_, _, rfl, rfl, rfl⟩, sort_sub h1, sort_sub h2, ?_⟩
      simp only [gTup]
      refine ⟨sz2b, ?_⟩
      simp only [dName, List.set_cons_succ, List.set_cons_zero]
      exact last _
    · rw [if_pos h2]
      have ed : dueL g (sortS ks) u (sortS ms) w = unlB (sortS ms) := by unfold dueL; rw [if_neg (fun z => z h1), if_pos h2]
      rw [ed] at last
      simp only [unlB, D.isN, cond_false]
      exact next_go (last _)
  · rw [if_pos h1]
    have ed : dueL g (sortS ks) u (sortS ms) w = unlB (sortS ks) := by unfold dueL; rw [if_pos h1]
    rw [ed] at last
    simp only [unlB, D.isN, cond_false]
    exact next_go (last _)
theorem k41_back (hg : TOk g) (hk : NOk ks) (hm : NOk ms) (e3 : atI L3 0 = some (gridD g)) (e4 : atI L4 0 = some (tabD C g)) {a8 : Option D}
    (kn : De.nx [a0, some (.ref 0), a2, some (.lst L3), some (.lst L4), a5, some (.lst [.dct (lkL ks u), .dct (lkL ms w)]), some (.lst [wD C (sortS ks) u, wD C (sortS ms) w]), a8, a9, a10, a11] (O c ρ)) :
    t_law_f1_3 C De [a0, some (.ref 0), a2, some (.lst L3), some (.lst L4), a5, some (.lst [.dct (lkL ks u), .dct (lkL ms w)]), some (.lst [wD C (sortS ks) u, wD C (sortS ms) w]), a8, a9, a10, a11] (O c ρ) := by
  unfold t_law_f1_3
  simp only [dIf, dTest, dBin, dOp, dCons, dNil, dC, dVar, List.getElem?_cons_zero, List.getElem?_cons_succ, gIx, lk, e3]
  refine ⟨g, [(ks, u), (ms, w)], rfl, hg, fun p hp => ?_, ?_⟩
  · simp only [List.mem_cons, List.not_mem_nil, or_false] at hp
    rcases hp with rfl | rfl
    · exact hk
    · exact hm
  rw [unl_some]
  by_cases h1 : sortS ks = outs g
  · rw [if_neg (fun z => z h1)]
    by_cases h2 : sortS ms = outs g
    · rw [if_neg (fun z => z h2)]
      have ak : asl (sortS ks) := hk.sort.asl
      have am : asl (sortS ms) := hm.sort.asl
      simp only [gIs, D.isN, cond_true, dRevA, dFin, dVar, List.reverse_cons, List.reverse_nil, List.nil_append, List.cons_append, List.getElem?_cons_zero, List.getElem?_cons_succ, lk, e4]
      refine ⟨0, g, sortS ms, w, sortS ks, u, rfl, hg, am, ak, ?_⟩
      have ed : dueL g (sortS ms) w (sortS ks) u = tldB (longD (longS g w u)) := by unfold dueL; rw [if_neg (fun z => z h2), if_neg (fun z => z h1)]
      rw [ed]
      simp only [dCall, dCons, dNil, dC, dOp, dRevA, dFin, dBin, dVar, List.reverse_cons, List.reverse_nil, List.nil_append, List.cons_append, List.getElem?_cons_zero, List.getElem?_cons_succ, gIx, lk, e3]
      refine ⟨c, ρ, g, _, ms, w, ks, u, rfl, rfl, hg, fun loc => ⟨_, _, rfl, rfl, rfl⟩, sort_sub h2, sort_sub h1, ?_⟩
      simp only [gTup]
      refine ⟨sz2b, ?_⟩
      obtain ⟨q1, q2⟩ := deq_refl (μ := O c ρ) (x := tldB (longD (longS g w u))) (y := tldB (longD (longS g w u))) rfl (okn_two tld_ascB (okn_long _))
      simp only [gNe]
      refine ⟨q1, ?_⟩
      have q2' : deq (O c ρ) (tldB (longD (longS g w u))) (.tup [.str (Str.ofString "told"), longD (longS g w u)]) = true := q2
      rw [q2']
      simp only [Bool.not_true, cond_false]
      exact next_go kn
    · rw [if_pos h2]
      simp only [gIs, unlB, D.isN, cond_false]
      exact next_go kn
  · rw [if_pos h1]
    simp only [gIs, unlB, D.isN, cond_false]
    exact next_go kn
theorem two_mod41 {a b : D} {i : Nat} (hi : i < 4) : atI [a, b] ((0 + (i : Int)).fmod 2) = some (if i % 2 = 0 then a else b) := by
  have : i = 0 ∨ i = 1 ∨ i = 2 ∨ i = 3 := by omega
  rcases this with rfl | rfl | rfl | rfl <;> rfl
theorem k41_f1 {W : List Str} {a6 a7 a8 : Option D} {g0 g1 : List (List Str)} {i : Nat} (hi : i < 4) (hc : 50 ≤ c) (hW : WOk W) (hz : ZZ ∉ W) (b0 : GB W 8 g0) (b1 : GB W 8 g1)
    (kn : ∀ c' a6 a7 a8 a9 a10, c ≤ c' + 50 → De.nx [a0, some (.ref 0), some (.lst (W.map .str)), some (.lst [gridD g0, gridD g1]), some (.lst [tabD C g0, tabD C g1]), some (.int (0 + (i : Int))), a6, a7, a8, a9, a10, a11] (O c' ρ)) :
    t_law_f1 C De [a0, some (.ref 0), some (.lst (W.map .str)), some (.lst [gridD g0, gridD g1]), some (.lst [tabD C g0, tabD C g1]), some (.int (0 + (i : Int))), a6, a7, a8, a9, a10, a11] (O c ρ) := by
  have h0 := b0.tok hW
  have h1 := b1.tok hW
  obtain ⟨g, bg, eg⟩ : ∃ g, GB W 8 g ∧ atI [gridD g0, gridD g1] ((0 + (i : Int)).fmod 2) = some (gridD g) := by
    rw [two_mod41 hi]
    by_cases h : i % 2 = 0
    · rw [if_pos h]; exact ⟨g0, b0, rfl⟩
    · rw [if_neg h]; exact ⟨g1, b1, rfl⟩
  unfold t_law_f1
  rw [dSeq]
  simp only [dAsg, dOp, dCons, dNil, dBin, dVar, dC, gMod, dName, List.getElem?_cons_zero, List.getElem?_cons_succ, List.set_cons_zero, List.set_cons_succ]
  refine ⟨by decide, ?_⟩
  simp only [gIx, lk, eg]
  refine ⟨c, ρ, g, W, rfl, rfl, bg, hW, hz, by omega, fun c1 ks u ms w f1 hk hm => ?_⟩
  unfold t_law_f1_1
  try dsimp only
  rw [dSeq]
  have z0 : atI [D.dct (lkL ks u), .dct (lkL ms w)] 0 = some (.dct (lkL ks u)) := rfl
  have z1 : atI [D.dct (lkL ks u), .dct (lkL ms w)] 1 = some (.dct (lkL ms w)) := rfl
  simp only [dAsg, dCall, dMakeM, dCons, dNil, dBin, dVar, dC, List.getElem?_cons_zero, List.getElem?_cons_succ, gIx, lk, z0, z1]
  refine make_wish (fun _ => rfl) hk ?_
  refine make_wish (fun _ => rfl) hm ?_
  simp only [gLst]
  refine ⟨sz2b, ?_⟩
  simp only [dName, List.set_cons_succ, List.set_cons_zero]
  unfold t_law_f1_2
  try dsimp only
  rw [dSeq]
  change dFor _ (dName 8) (t_law_f0 C) _ _ _
  simp only [dFor, dIter, dCall, gLst, dCons, dNil, dC, List.length_cons, List.length_nil]
  refine ⟨by rw [sizeLine_eq]; decide, ?_⟩
  refine loop_pass (src := none) (fun Γ => ∃ a8 a9 a10, Γ = [a0, some (.ref 0), some (.lst (W.map .str)), some (.lst [gridD g0, gridD g1]), some (.lst [tabD C g0, tabD C g1]), some (.int (0 + (i : Int))), some (.lst [.dct (lkL ks u), .dct (lkL ms w)]), some (.lst [wD C (sortS ks) u, wD C (sortS ms) w]), a8, a9, a10, a11]) trivial ⟨_, _, _, rfl⟩ ?_ ?_
  · rintro j d Γ hd ⟨a8, a9, a10, rfl⟩ Kn kk
    have hm' := List.mem_of_getElem? hd
    simp only [List.mem_cons, List.not_mem_nil, or_false] at hm'
    have hd2 : d = .int 0 ∨ d = .int 1 := by rcases hm' with h | h | h <;> simp [h]
    simp only [dName, List.set_cons_zero, List.set_cons_succ]
    rcases hd2 with rfl | rfl
    · exact k41_turn (g := g0) h0 hk hm rfl rfl fun a9 a10 => kk _ ⟨_, _, _, rfl⟩
    · exact k41_turn (g := g1) h1 hk hm rfl rfl fun a9 a10 => kk _ ⟨_, _, _, rfl⟩
  · rintro Γ ⟨a8, a9, a10, rfl⟩
    exact k41_back (g := g0) h0 hk hm rfl rfl (kn _ _ _ _ _ _ (by omega))
end
def S_law : DSp := fun ds μ Q _ => ∃ ns : List Int, ds = [.scr ns] ∧ ns.length ≤ 63 ∧ μ = [] ∧ ∀ μ', Q (.bl true) μ'
theorem rd_law {C : Cs} {n1 n2 n3 n4 n5 n6 n7 n8 n9 n10 n11 n12 : Str} : ∀ ds μ Q E, S_law ds μ Q E → t_law C (dFn μ Q E) (start0 [n1, n2, n3, n4, n5, n6, n7, n8, n9, n10, n11, n12] ds) μ := by
  rintro ds μ Q E ⟨ns, rfl, hl, rfl, q⟩
  unfold t_law
  rw [dSeq]
  simp only [dAsg, dOp, dCons, dNil, dVar, dName, start0, List.map_cons, List.map_nil, List.length_cons, List.length_nil, List.replicate, List.cons_append, List.nil_append, List.getElem?_cons_zero, List.set_cons_succ, List.set_cons_zero]
  refine ⟨ns, rfl, hl, by simp, ?_⟩
  unfold t_law_1
  try dsimp only
  rw [dSeq]
  simp only [dAsg, dOp, dCons, dNil, dVar, dName, List.nil_append, List.length_nil, List.getElem?_cons_zero, List.getElem?_cons_succ, List.set_cons_succ, List.set_cons_zero]
  refine ⟨1099511627776, [], rfl, rfl, by decide, fun c0 W h0 hW hz => ?_⟩
  have wl := hW.len
  unfold t_law_2
  try dsimp only
  rw [dSeq]
  simp only [dAsg, dCall, dOp, dCons, dNil, dVar, dName, List.getElem?_cons_zero, List.getElem?_cons_succ, List.set_cons_succ, List.set_cons_zero]
  refine ⟨c0, [], W, rfl, rfl, wl, by omega, .inl fun c1 g0 h1 b0 => ?_⟩
  refine ⟨c1, [], W, rfl, rfl, wl, by omega, .inl fun c2 g1 h2 b1 => ?_⟩
  simp only [gLst]
  refine ⟨sz2b, ?_⟩
  have hg0 := b0.tok hW
  have hg1 := b1.tok hW
  unfold t_law_3
  try dsimp only
  rw [dSeq]
  simp only [dAsg, dComp, dIter, dVar, List.getElem?_cons_zero, List.getElem?_cons_succ, wipeG, List.set_cons_zero, List.set_cons_succ]
  refine comp_list [tabD C g0, tabD C g1] trivial rfl (by rw [sizeLine_eq]; simp) ?_ ?_
  · intro i d y hd hy K1 K2 k1
    have hh : ∃ g, TOk g ∧ d = gridD g ∧ y = tabD C g := by
      match i, hd, hy with
      | 0, hd, hy => cases hd; cases hy; exact ⟨g0, hg0, rfl, rfl⟩
      | 1, hd, hy => cases hd; cases hy; exact ⟨g1, hg1, rfl, rfl⟩
    obtain ⟨g, hg, rfl, rfl⟩ := hh
    simp only [cName, dYes, cond_true, dMake, dCons, dNil, dVar, List.set_cons_zero, List.set_cons_succ, List.getElem?_cons_zero, List.getElem?_cons_succ]
    refine make_tab (C := C) (fun e => TSee.data) hg ?_
    rw [tab_ins]
    exact k1
  simp only [dFin, dName, List.set_cons_zero, List.set_cons_succ]
  unfold t_law_4
  try dsimp only
  rw [dSeq]
  simp only [dFor, dRange1, dC]
  refine ⟨by decide, ?_⟩
  refine loop_inv (src := none) (fun i Γ μ' => ∃ c a5 a6 a7 a8 a9 a10 a11, c2 ≤ c + i * 50 ∧ i ≤ 4 ∧ Γ = [some (.scr ns), some (.ref 0), some (.lst (W.map .str)), some (.lst [gridD g0, gridD g1]), some (.lst [tabD C g0, tabD C g1]), a5, a6, a7, a8, a9, a10, a11] ∧ μ' = O c []) ⟨c2, none, none, none, none, none, none, none, by omega, by omega, rfl, rfl⟩ ?_ ?_
  · rintro i d Γ μ' hd ⟨c, a5, a6, a7, a8, a9, a10, a11, f1, f2, rfl, rfl⟩
    obtain ⟨hi, rfl⟩ := irng_get hd
    have hi : i < 4 := hi
    refine ⟨trivial, fun Kn kk => ?_⟩
    simp only [dName, List.set_cons_zero, List.set_cons_succ]
    exact k41_f1 hi (by omega) hW hz b0 b1 fun c' a6 a7 a8 a9 a10 h => kk _ _ ⟨c', _, _, _, _, _, _, _, by omega, by omega, rfl, rfl⟩
  · rintro Γ μ' ⟨c, a5, a6, a7, a8, a9, a10, a11, f1, f2, rfl, rfl⟩
    refine ⟨trivial, ?_⟩
    unfold t_law_5
    simp only [dRet, dC]
    exact FnEnd.here (q _)
end DV
/-! Walks of lists, tuples and texts that end while an exception is handled. -/
namespace HotX
open PySem PySem.Spec PyProof.Rows
end HotX
/-! for and comprehensions while an exception is handled. -/
namespace L2H
open PySem PySem.Spec PyProof.Rows L2 HotX
end L2H
/-! List comprehensions while an exception is handled: the block's context keeps hold of the exception. -/
namespace L2H
open PySem PySem.Spec PyProof.Rows L2 HotX
end L2H
/-! Own functions called within an except suite, deep: what they may do there. -/
namespace DV
open PySem PySem.Spec PyProof.Rows L2 L2H
theorem _root_.L2H.RoomH.units {k : Nat} {A : Around} (r : RoomH k A) : A.units + 64 < cLine := by have := r.un; omega
theorem takes0N {X : Cx} : L2N.Takes X W0 := fun _ _ c => by
  obtain ⟨_, _, _, _, _, _, _, _, _, _, _, _, _, _, _, _, z⟩ := c
  exact z.elim
section
variable {X : Cx} {W : WX} {tg iter a e : Expr} {f : DTE} {p pos : Pos}
theorem PIH.imp {wi wi' : TI} (h : PIH X tg iter wi) (k : ∀ σ H R, wi' σ H R → wi σ H R) : PIH X tg iter wi' := ⟨fun pins s σ H R I q => h.run pins s σ H R I (k σ H R q)⟩
end
end DV
/-! More of what may be done while an exception is handled: for, range, max. -/
namespace HotX
open PySem PySem.Spec PyProof.Rows
end HotX
namespace DV
open PySem PySem.Spec PyProof.Rows L2 L2H HotX
theorem _root_.L2H.FnH.imp {P : Program} {w : World} {K : PySem.W.Frag} {mg : Str → Option Value} {base : Heap} {CX : CXT} {k : Nat} {f : Addr} {fd : FuncData} {ps : List Str} {sp sp' : Sp} (F : FnH P w K mg base CX k f fd ps sp) (h : ∀ vs H Q E, sp' vs H Q E → sp vs H Q E) : FnH P w K mg base CX k f fd ps sp' :=
  ⟨fun vs H Q E z => F.len vs H Q E (h _ _ _ _ z), fun A outer s H args us vs Q E p hr hot hpin e0 hb r z => F.run A outer s H args us vs Q E p hr hot hpin e0 hb r (h _ _ _ _ z)⟩
end DV
/-! A list comprehension right in an except suite. -/
namespace DV
open PySem PySem.Spec PyProof.Rows L2 L2H
end DV
namespace K41
open PySem PySem.Spec PyProof.Rows L2 DV
structure Txt (K : PySem.W.Frag) (C : Cs) (mg : Str → Option Value) : Prop where
  m_len : mg "len" = none
  m_abs : mg "abs" = none
  m_int : mg "int" = none
  m_list : mg "list" = none
  m_tuple : mg "tuple" = none
  m_range : mg "range" = none
  m_isinstance : mg "isinstance" = none
  m_bool : mg "bool" = none
  m_sorted : mg "sorted" = none
  m_max : mg "max" = none
  m_LETTERS : ∃ t, mg "LETTERS" = some (.str "abcdefghijklmnopqrstuvwxyz" t)
  m_DIGITS : ∃ t, mg "DIGITS" = some (.str "0123456789" t)
  m_LONGEST : ∃ t, mg "LONGEST" = some (.int 6 t)
  m_MOST_OUTCOMES : ∃ t, mg "MOST_OUTCOMES" = some (.int 6 t)
  m_MOST_LINES : ∃ t, mg "MOST_LINES" = some (.int 8 t)
  c_Wishes : Cls K C.W
  c_Table : Cls K C.T
  n_Table_columns : NoAttr K C.T "columns"
  n_Table_names : NoAttr K C.T "names"
  n_Table_rows : NoAttr K C.T "rows"
  n_Wishes_likes : NoAttr K C.W "likes"
  g_BadCell : mg "BadCell" = some (.ref (xa K .BadCell))
  g_BadCount : mg "BadCount" = some (.ref (xa K .BadCount))
  g_BadName : mg "BadName" = some (.ref (xa K .BadName))
  g_BadWish : mg "BadWish" = some (.ref (xa K .BadWish))
  g_DuplicateName : mg "DuplicateName" = some (.ref (xa K .DuplicateName))
  g_UnknownName : mg "UnknownName" = some (.ref (xa K .UnknownName))
  g_UnlikeOutcomes : mg "UnlikeOutcomes" = some (.ref (xa K .UnlikeOutcomes))
  x_UnlikeOutcomes_names : XfC K (xa K .UnlikeOutcomes) ∧ PySem.W.findIn K (.ref (xa K .UnlikeOutcomes)) "names" = some none
  em : EmOk [.BadName, .DuplicateName, .UnknownName, .BadCount, .BadText, .BadCell, .BadWish, .UnlikeOutcomes] K
  bX : BaseX K (He.ga K "ChooserError")
  g_Base : mg "ChooserError" = some (.ref (He.ga K "ChooserError"))
section
variable {P : Program} {w : World} {K : PySem.W.Frag} {mg : Str → Option Value} {base : Heap} {C : Cs}
theorem sc_BadCount__init_ : FnScope ["self", "count"] ["self", "count"] (defScope s_BadCount__init_) := ⟨rfl, rfl, rfl, by decide +kernel, rfl, by decide +kernel, by decide +kernel⟩
theorem has_BadCount__init_ (T : Txt K C mg) {f : Addr} {fd : FuncData} (F : Fun K "__init__" "BadCount.__init__" s_BadCount__init_ f fd) (m : ErrC K .BadCount f) (b : Binds K fd ["self", "count"] []) (no : PySem.W.findIn K (.ref (xa K .BadCount)) "count" = some none) : HasE P w K mg base .BadCount "count" := by
  refine ⟨f, fd, "self", "count", T.g_BadCount, m, b, ok_I1 (m := "this number of items is not allowed") F sc_BadCount__init_ m.T no fun cdv A outer s H E => ?_⟩
  exact pss_cons (ps_expr (pe_baseInit T.bX rfl T.g_Base rfl (pa_cons (pe_var (i := 0) rfl (by first | exact Or.inl rfl | exact Or.inr (Or.inl rfl))) (pa_cons pe_str pa_nil)))) (pss_one (ps_ost (pe_var (i := 0) rfl (by first | exact Or.inl rfl | exact Or.inr (Or.inl rfl))) (pe_var (i := 1) rfl (by first | exact Or.inl rfl | exact Or.inr (Or.inl rfl)))))
theorem sc_BadName__init_ : FnScope ["self", "name"] ["self", "name"] (defScope s_BadName__init_) := ⟨rfl, rfl, rfl, by decide +kernel, rfl, by decide +kernel, by decide +kernel⟩
theorem has_BadName__init_ (T : Txt K C mg) {f : Addr} {fd : FuncData} (F : Fun K "__init__" "BadName.__init__" s_BadName__init_ f fd) (m : ErrC K .BadName f) (b : Binds K fd ["self", "name"] []) (no : PySem.W.findIn K (.ref (xa K .BadName)) "name" = some none) : HasE P w K mg base .BadName "name" := by
  refine ⟨f, fd, "self", "name", T.g_BadName, m, b, ok_I1 (m := "this string is not a name") F sc_BadName__init_ m.T no fun cdv A outer s H E => ?_⟩
  exact pss_cons (ps_expr (pe_baseInit T.bX rfl T.g_Base rfl (pa_cons (pe_var (i := 0) rfl (by first | exact Or.inl rfl | exact Or.inr (Or.inl rfl))) (pa_cons pe_str pa_nil)))) (pss_one (ps_ost (pe_var (i := 0) rfl (by first | exact Or.inl rfl | exact Or.inr (Or.inl rfl))) (pe_var (i := 1) rfl (by first | exact Or.inl rfl | exact Or.inr (Or.inl rfl)))))
theorem sc_DuplicateName__init_ : FnScope ["self", "name"] ["self", "name"] (defScope s_DuplicateName__init_) := ⟨rfl, rfl, rfl, by decide +kernel, rfl, by decide +kernel, by decide +kernel⟩
theorem has_DuplicateName__init_ (T : Txt K C mg) {f : Addr} {fd : FuncData} (F : Fun K "__init__" "DuplicateName.__init__" s_DuplicateName__init_ f fd) (m : ErrC K .DuplicateName f) (b : Binds K fd ["self", "name"] []) (no : PySem.W.findIn K (.ref (xa K .DuplicateName)) "name" = some none) : HasE P w K mg base .DuplicateName "name" := by
  refine ⟨f, fd, "self", "name", T.g_DuplicateName, m, b, ok_I1 (m := "this name stands twice") F sc_DuplicateName__init_ m.T no fun cdv A outer s H E => ?_⟩
  exact pss_cons (ps_expr (pe_baseInit T.bX rfl T.g_Base rfl (pa_cons (pe_var (i := 0) rfl (by first | exact Or.inl rfl | exact Or.inr (Or.inl rfl))) (pa_cons pe_str pa_nil)))) (pss_one (ps_ost (pe_var (i := 0) rfl (by first | exact Or.inl rfl | exact Or.inr (Or.inl rfl))) (pe_var (i := 1) rfl (by first | exact Or.inl rfl | exact Or.inr (Or.inl rfl)))))
theorem sc_BadWish__init_ : FnScope ["self", "value"] ["self", "value"] (defScope s_BadWish__init_) := ⟨rfl, rfl, rfl, by decide +kernel, rfl, by decide +kernel, by decide +kernel⟩
theorem has_BadWish__init_ (T : Txt K C mg) {f : Addr} {fd : FuncData} (F : Fun K "__init__" "BadWish.__init__" s_BadWish__init_ f fd) (m : ErrC K .BadWish f) (b : Binds K fd ["self", "value"] []) (no : PySem.W.findIn K (.ref (xa K .BadWish)) "value" = some none) : HasE P w K mg base .BadWish "value" := by
  refine ⟨f, fd, "self", "value", T.g_BadWish, m, b, ok_I1 (m := "this amount is not an integer") F sc_BadWish__init_ m.T no fun cdv A outer s H E => ?_⟩
  exact pss_cons (ps_expr (pe_baseInit T.bX rfl T.g_Base rfl (pa_cons (pe_var (i := 0) rfl (by first | exact Or.inl rfl | exact Or.inr (Or.inl rfl))) (pa_cons pe_str pa_nil)))) (pss_one (ps_ost (pe_var (i := 0) rfl (by first | exact Or.inl rfl | exact Or.inr (Or.inl rfl))) (pe_var (i := 1) rfl (by first | exact Or.inl rfl | exact Or.inr (Or.inl rfl)))))
theorem sc_UnknownName__init_ : FnScope ["self", "name"] ["self", "name"] (defScope s_UnknownName__init_) := ⟨rfl, rfl, rfl, by decide +kernel, rfl, by decide +kernel, by decide +kernel⟩
theorem has_UnknownName__init_ (T : Txt K C mg) {f : Addr} {fd : FuncData} (F : Fun K "__init__" "UnknownName.__init__" s_UnknownName__init_ f fd) (m : ErrC K .UnknownName f) (b : Binds K fd ["self", "name"] []) (no : PySem.W.findIn K (.ref (xa K .UnknownName)) "name" = some none) : HasE P w K mg base .UnknownName "name" := by
  refine ⟨f, fd, "self", "name", T.g_UnknownName, m, b, ok_I1 (m := "nothing has this name") F sc_UnknownName__init_ m.T no fun cdv A outer s H E => ?_⟩
  exact pss_cons (ps_expr (pe_baseInit T.bX rfl T.g_Base rfl (pa_cons (pe_var (i := 0) rfl (by first | exact Or.inl rfl | exact Or.inr (Or.inl rfl))) (pa_cons pe_str pa_nil)))) (pss_one (ps_ost (pe_var (i := 0) rfl (by first | exact Or.inl rfl | exact Or.inr (Or.inl rfl))) (pe_var (i := 1) rfl (by first | exact Or.inl rfl | exact Or.inr (Or.inl rfl)))))
theorem sc_BadCell__init_ : FnScope ["self", "value"] ["self", "value"] (defScope s_BadCell__init_) := ⟨rfl, rfl, rfl, by decide +kernel, rfl, by decide +kernel, by decide +kernel⟩
theorem has_BadCell__init_ (T : Txt K C mg) {f : Addr} {fd : FuncData} (F : Fun K "__init__" "BadCell.__init__" s_BadCell__init_ f fd) (m : ErrC K .BadCell f) (b : Binds K fd ["self", "value"] []) (no : PySem.W.findIn K (.ref (xa K .BadCell)) "value" = some none) : HasE P w K mg base .BadCell "value" := by
  refine ⟨f, fd, "self", "value", T.g_BadCell, m, b, ok_I1 (m := "this is not a cell of the table") F sc_BadCell__init_ m.T no fun cdv A outer s H E => ?_⟩
  exact pss_cons (ps_expr (pe_baseInit T.bX rfl T.g_Base rfl (pa_cons (pe_var (i := 0) rfl (by first | exact Or.inl rfl | exact Or.inr (Or.inl rfl))) (pa_cons pe_str pa_nil)))) (pss_one (ps_ost (pe_var (i := 0) rfl (by first | exact Or.inl rfl | exact Or.inr (Or.inl rfl))) (pe_var (i := 1) rfl (by first | exact Or.inl rfl | exact Or.inr (Or.inl rfl)))))
theorem sc_UnlikeOutcomes__init_ : FnScope ["self", "names"] ["self", "names"] (defScope s_UnlikeOutcomes__init_) := ⟨rfl, rfl, rfl, by decide +kernel, rfl, by decide +kernel, by decide +kernel⟩
theorem has_UnlikeOutcomes__init_ (T : Txt K C mg) {f : Addr} {fd : FuncData} (F : Fun K "__init__" "UnlikeOutcomes.__init__" s_UnlikeOutcomes__init_ f fd) (m : ErrC K .UnlikeOutcomes f) (b : Binds K fd ["self", "names"] []) (no : PySem.W.findIn K (.ref (xa K .UnlikeOutcomes)) "names" = some none) : HasE P w K mg base .UnlikeOutcomes "names" := by
  refine ⟨f, fd, "self", "names", T.g_UnlikeOutcomes, m, b, ok_I1 (m := "these are other outcomes") F sc_UnlikeOutcomes__init_ m.T no fun cdv A outer s H E => ?_⟩
  exact pss_cons (ps_expr (pe_baseInit T.bX rfl T.g_Base rfl (pa_cons (pe_var (i := 0) rfl (by first | exact Or.inl rfl | exact Or.inr (Or.inl rfl))) (pa_cons pe_str pa_nil)))) (pss_one (ps_ost (pe_var (i := 0) rfl (by first | exact Or.inl rfl | exact Or.inr (Or.inl rfl))) (pe_var (i := 1) rfl (by first | exact Or.inl rfl | exact Or.inr (Or.inl rfl)))))
theorem sc_valid_name : FnScope ["text", "char"] ["text"] (defScope s_valid_name) := ⟨rfl, rfl, rfl, by decide +kernel, rfl, by decide +kernel, by decide +kernel⟩
theorem has_valid_name (T : Txt K C mg)  {f : Addr} {fd : FuncData} (F : Fun K "valid_name" "valid_name" s_valid_name f fd) (m : mg "valid_name" = some (.ref f)) (b : Binds K fd ["text"] []) (kb : (fun _ => True) fd) :
    Has P w K mg base "valid_name" 1 ["text"] S_valid_name (fun _ => True) := by
  refine ⟨f, fd, m, F.kp, b, kb, fun_deep (T := t_valid_name) (k := 0) F sc_valid_name ?_ (fun cdv A outer s H E hr => ?_) rd_valid_name⟩
  · intro ds μ Q E h; first | (obtain ⟨_, rfl, _⟩ := h; rfl; done) | (obtain ⟨rfl, _⟩ := h; rfl; done) | (obtain ⟨_, rfl, _⟩ := h; rfl; done) | (obtain ⟨_, _, rfl, _⟩ := h; rfl; done) | (obtain ⟨_, _, _, rfl, _⟩ := h; rfl; done) | (obtain ⟨_, _, _, _, rfl, _⟩ := h; rfl; done) | (obtain ⟨_, _, _, _, _, rfl, _⟩ := h; rfl; done) | (obtain ⟨_, _, _, _, _, _, rfl, _⟩ := h; rfl; done) | (obtain ⟨_, _, _, _, _, _, _, rfl, _⟩ := h; rfl; done) | (obtain ⟨_, _, _, _, _, _, _, _, rfl, _⟩ := h; rfl; done) | (obtain ⟨_, _, _, _, _, _, _, _, _, rfl, _⟩ := h; rfl; done) | (rcases h with ⟨_, rfl | rfl, _⟩ <;> rfl) | (rcases h with ⟨_, _, rfl | rfl, _⟩ <;> rfl) | (rcases h with h | h <;> first | (obtain ⟨rfl, _⟩ := h; rfl; done) | (obtain ⟨_, rfl, _⟩ := h; rfl; done) | (obtain ⟨_, _, rfl, _⟩ := h; rfl; done) | (obtain ⟨_, _, _, rfl, _⟩ := h; rfl; done) | (obtain ⟨_, _, _, _, rfl, _⟩ := h; rfl; done) | (obtain ⟨_, _, _, _, _, rfl, _⟩ := h; rfl; done) | (obtain ⟨_, _, _, _, _, _, rfl, _⟩ := h; rfl; done) | (obtain ⟨_, _, _, _, _, _, _, rfl, _⟩ := h; rfl; done) | (obtain ⟨_, _, _, _, _, _, _, _, rfl, _⟩ := h; rfl; done) | (obtain ⟨_, _, _, _, _, _, _, _, _, rfl, _⟩ := h; rfl; done) | (rcases h with ⟨_, rfl | rfl, _⟩ <;> rfl))
  · have tk := L2N.takes_of (X := cxOf (L2N.CX P w) P w K mg base ["text", "char"] "valid_name" (defScope s_valid_name) f cdv A outer s H E) rfl rfl rfl rfl
    have hp := passes_of (X := cxOf (L2N.CX P w) P w K mg base ["text", "char"] "valid_name" (defScope s_valid_name) f cdv A outer s H E) rfl
    exact dss_cons (ds_if (PW.pt (pw_or' (dt_not (dt_chain op_le op_le (de_int pe_int) (de_len rfl T.m_len (de_var (pv 0))) (de_int (pe_glob rfl T.m_LONGEST.choose_spec ⟨_, rfl⟩)))) (pw_or1 (dt_notin (de_sub_ (de_var (pv 0)) (de_int pe_int)) (de_str (pe_glob rfl T.m_LETTERS.choose_spec ⟨_, rfl⟩)))))) (dss_one (ds_ret (de_bl pe_bl))) (dss_nil))
      (dss_cons (ds_for hp rfl (di_any (de_var (pv 0))) (dg_name (pg_name (i := 1) sc_valid_name.nd rfl (by first | exact Or.inl rfl | exact Or.inr rfl))) (dss_one (ds_if (PW.pt (pw_and' (dt_notin (de_var (pv 1)) (de_str (pe_glob rfl T.m_LETTERS.choose_spec ⟨_, rfl⟩))) (pw_and1 (dt_notin (de_var (pv 1)) (de_str (pe_glob rfl T.m_DIGITS.choose_spec ⟨_, rfl⟩)))))) (dss_one (ds_ret (de_bl pe_bl))) (dss_nil))))
      (dss_one (ds_ret (de_bl pe_bl))))
theorem sc_is_integer : FnScope ["value"] ["value"] (defScope s_is_integer) := ⟨rfl, rfl, rfl, by decide +kernel, rfl, by decide +kernel, by decide +kernel⟩
theorem has_is_integer (T : Txt K C mg)  {f : Addr} {fd : FuncData} (F : Fun K "is_integer" "is_integer" s_is_integer f fd) (m : mg "is_integer" = some (.ref f)) (b : Binds K fd ["value"] []) (kb : (fun _ => True) fd) :
    Has P w K mg base "is_integer" 1 ["value"] S_is_integer (fun _ => True) := by
  refine ⟨f, fd, m, F.kp, b, kb, fun_deep (T := t_is_integer) (k := 0) F sc_is_integer ?_ (fun cdv A outer s H E hr => ?_) rd_is_integer⟩
  · intro ds μ Q E h; first | (obtain ⟨_, rfl, _⟩ := h; rfl; done) | (obtain ⟨rfl, _⟩ := h; rfl; done) | (obtain ⟨_, rfl, _⟩ := h; rfl; done) | (obtain ⟨_, _, rfl, _⟩ := h; rfl; done) | (obtain ⟨_, _, _, rfl, _⟩ := h; rfl; done) | (obtain ⟨_, _, _, _, rfl, _⟩ := h; rfl; done) | (obtain ⟨_, _, _, _, _, rfl, _⟩ := h; rfl; done) | (obtain ⟨_, _, _, _, _, _, rfl, _⟩ := h; rfl; done) | (obtain ⟨_, _, _, _, _, _, _, rfl, _⟩ := h; rfl; done) | (obtain ⟨_, _, _, _, _, _, _, _, rfl, _⟩ := h; rfl; done) | (obtain ⟨_, _, _, _, _, _, _, _, _, rfl, _⟩ := h; rfl; done) | (rcases h with ⟨_, rfl | rfl, _⟩ <;> rfl) | (rcases h with ⟨_, _, rfl | rfl, _⟩ <;> rfl) | (rcases h with h | h <;> first | (obtain ⟨rfl, _⟩ := h; rfl; done) | (obtain ⟨_, rfl, _⟩ := h; rfl; done) | (obtain ⟨_, _, rfl, _⟩ := h; rfl; done) | (obtain ⟨_, _, _, rfl, _⟩ := h; rfl; done) | (obtain ⟨_, _, _, _, rfl, _⟩ := h; rfl; done) | (obtain ⟨_, _, _, _, _, rfl, _⟩ := h; rfl; done) | (obtain ⟨_, _, _, _, _, _, rfl, _⟩ := h; rfl; done) | (obtain ⟨_, _, _, _, _, _, _, rfl, _⟩ := h; rfl; done) | (obtain ⟨_, _, _, _, _, _, _, _, rfl, _⟩ := h; rfl; done) | (obtain ⟨_, _, _, _, _, _, _, _, _, rfl, _⟩ := h; rfl; done) | (rcases h with ⟨_, rfl | rfl, _⟩ <;> rfl))
  · have tk := L2N.takes_of (X := cxOf (L2N.CX P w) P w K mg base ["value"] "is_integer" (defScope s_is_integer) f cdv A outer s H E) rfl rfl rfl rfl
    have hp := passes_of (X := cxOf (L2N.CX P w) P w K mg base ["value"] "is_integer" (defScope s_is_integer) f cdv A outer s H E) rfl
    exact dss_one (ds_ret (de_and (de_isi .int (by decide) rfl T.m_isinstance (de_var (pv 0)) rfl T.m_int (by decide +kernel)) (de_one (de_not (de_isi .bool (by decide) rfl T.m_isinstance (de_var (pv 0)) rfl T.m_bool (by decide +kernel))))))
theorem sc_check_number : FnScope ["count"] ["count"] (defScope s_check_number) := ⟨rfl, rfl, rfl, by decide +kernel, rfl, by decide +kernel, by decide +kernel⟩
theorem has_check_number (T : Txt K C mg) (h_BadCount__init_ : HasE P w K mg base .BadCount "count") {f : Addr} {fd : FuncData} (F : Fun K "check_number" "check_number" s_check_number f fd) (m : mg "check_number" = some (.ref f)) (b : Binds K fd ["count"] []) (kb : (fun _ => True) fd) :
    Has P w K mg base "check_number" 3 ["count"] S_check_number (fun _ => True) := by
  refine ⟨f, fd, m, F.kp, b, kb, fun_deep (T := t_check_number) (k := 2) F sc_check_number ?_ (fun cdv A outer s H E hr => ?_) rd_check_number⟩
  · intro ds μ Q E h; first | (obtain ⟨_, rfl, _⟩ := h; rfl; done) | (obtain ⟨rfl, _⟩ := h; rfl; done) | (obtain ⟨_, rfl, _⟩ := h; rfl; done) | (obtain ⟨_, _, rfl, _⟩ := h; rfl; done) | (obtain ⟨_, _, _, rfl, _⟩ := h; rfl; done) | (obtain ⟨_, _, _, _, rfl, _⟩ := h; rfl; done) | (obtain ⟨_, _, _, _, _, rfl, _⟩ := h; rfl; done) | (obtain ⟨_, _, _, _, _, _, rfl, _⟩ := h; rfl; done) | (obtain ⟨_, _, _, _, _, _, _, rfl, _⟩ := h; rfl; done) | (obtain ⟨_, _, _, _, _, _, _, _, rfl, _⟩ := h; rfl; done) | (obtain ⟨_, _, _, _, _, _, _, _, _, rfl, _⟩ := h; rfl; done) | (rcases h with ⟨_, rfl | rfl, _⟩ <;> rfl) | (rcases h with ⟨_, _, rfl | rfl, _⟩ <;> rfl) | (rcases h with h | h <;> first | (obtain ⟨rfl, _⟩ := h; rfl; done) | (obtain ⟨_, rfl, _⟩ := h; rfl; done) | (obtain ⟨_, _, rfl, _⟩ := h; rfl; done) | (obtain ⟨_, _, _, rfl, _⟩ := h; rfl; done) | (obtain ⟨_, _, _, _, rfl, _⟩ := h; rfl; done) | (obtain ⟨_, _, _, _, _, rfl, _⟩ := h; rfl; done) | (obtain ⟨_, _, _, _, _, _, rfl, _⟩ := h; rfl; done) | (obtain ⟨_, _, _, _, _, _, _, rfl, _⟩ := h; rfl; done) | (obtain ⟨_, _, _, _, _, _, _, _, rfl, _⟩ := h; rfl; done) | (obtain ⟨_, _, _, _, _, _, _, _, _, rfl, _⟩ := h; rfl; done) | (rcases h with ⟨_, rfl | rfl, _⟩ <;> rfl))
  · have tk := L2N.takes_of (X := cxOf (L2N.CX P w) P w K mg base ["count"] "check_number" (defScope s_check_number) f cdv A outer s H E) rfl rfl rfl rfl
    have hp := passes_of (X := cxOf (L2N.CX P w) P w K mg base ["count"] "check_number" (defScope s_check_number) f cdv A outer s H E) rfl
    exact dss_one (ds_if (dt_not (dt_chain op_le op_le (de_int pe_int) (de_var (pv 0)) (de_int (pe_glob rfl T.m_MOST_OUTCOMES.choose_spec ⟨_, rfl⟩)))) (dss_one (ds_raise h_BadCount__init_ (hr.mono (by decide)) rfl tk (de_var (pv 0)))) (dss_nil))
theorem sc_check_different : FnScope ["names", "earlier", "name"] ["names"] (defScope s_check_different) := ⟨rfl, rfl, rfl, by decide +kernel, rfl, by decide +kernel, by decide +kernel⟩
theorem has_check_different (T : Txt K C mg) (h_BadName__init_ : HasE P w K mg base .BadName "name") (h_DuplicateName__init_ : HasE P w K mg base .DuplicateName "name") (h_valid_name : Has P w K mg base "valid_name" 1 ["text"] S_valid_name (fun _ => True)) {f : Addr} {fd : FuncData} (F : Fun K "check_different" "check_different" s_check_different f fd) (m : mg "check_different" = some (.ref f)) (b : Binds K fd ["names"] []) (kb : (fun _ => True) fd) :
    Has P w K mg base "check_different" 3 ["names"] S_check_different (fun _ => True) := by
  refine ⟨f, fd, m, F.kp, b, kb, fun_deep (T := t_check_different) (k := 2) F sc_check_different ?_ (fun cdv A outer s H E hr => ?_) rd_check_different⟩
  · intro ds μ Q E h; first | (obtain ⟨rfl, _⟩ := h; rfl; done) | (obtain ⟨_, rfl, _⟩ := h; rfl; done) | (obtain ⟨_, _, rfl, _⟩ := h; rfl; done) | (obtain ⟨_, _, _, rfl, _⟩ := h; rfl; done) | (obtain ⟨_, _, _, _, rfl, _⟩ := h; rfl; done) | (obtain ⟨_, _, _, _, _, rfl, _⟩ := h; rfl; done) | (obtain ⟨_, _, _, _, _, _, rfl, _⟩ := h; rfl; done) | (obtain ⟨_, _, _, _, _, _, _, rfl, _⟩ := h; rfl; done) | (obtain ⟨_, _, _, _, _, _, _, _, rfl, _⟩ := h; rfl; done) | (obtain ⟨_, _, _, _, _, _, _, _, _, rfl, _⟩ := h; rfl; done) | (rcases h with ⟨_, rfl | rfl, _⟩ <;> rfl) | (rcases h with ⟨_, _, rfl | rfl, _⟩ <;> rfl) | (rcases h with h | h <;> first | (obtain ⟨rfl, _⟩ := h; rfl; done) | (obtain ⟨_, rfl, _⟩ := h; rfl; done) | (obtain ⟨_, _, rfl, _⟩ := h; rfl; done) | (obtain ⟨_, _, _, rfl, _⟩ := h; rfl; done) | (obtain ⟨_, _, _, _, rfl, _⟩ := h; rfl; done) | (obtain ⟨_, _, _, _, _, rfl, _⟩ := h; rfl; done) | (obtain ⟨_, _, _, _, _, _, rfl, _⟩ := h; rfl; done) | (obtain ⟨_, _, _, _, _, _, _, rfl, _⟩ := h; rfl; done) | (obtain ⟨_, _, _, _, _, _, _, _, rfl, _⟩ := h; rfl; done) | (obtain ⟨_, _, _, _, _, _, _, _, _, rfl, _⟩ := h; rfl; done) | (rcases h with ⟨_, rfl | rfl, _⟩ <;> rfl))
  · have tk := L2N.takes_of (X := cxOf (L2N.CX P w) P w K mg base ["names", "earlier", "name"] "check_different" (defScope s_check_different) f cdv A outer s H E) rfl rfl rfl rfl
    have hp := passes_of (X := cxOf (L2N.CX P w) P w K mg base ["names", "earlier", "name"] "check_different" (defScope s_check_different) f cdv A outer s H E) rfl
    exact dss_cons (ds_set (i := 1) (de_lstM (da_nil)) sc_check_different.nd)
      (dss_one (ds_for hp rfl (di_any (de_var (pv 0))) (dg_name (pg_name (i := 2) sc_check_different.nd rfl (by first | exact Or.inl rfl | exact Or.inr rfl))) (dss_cons (ds_if (dt_not (dt_val (de_fnH h_valid_name (hr.mono (by decide)) rfl tk (da_cons (de_var (pv 2)) (da_nil))))) (dss_one (ds_raise h_BadName__init_ (hr.mono (by decide)) rfl tk (de_var (pv 2)))) (dss_nil))
      (dss_cons (ds_if (dt_in (de_var (pv 2)) (de_var (pv 1))) (dss_one (ds_raise h_DuplicateName__init_ (hr.mono (by decide)) rfl tk (de_var (pv 2)))) (dss_nil))
      (dss_one (ds_drop (de_append (de_var (pv 1)) (de_var (pv 2)))))))))
theorem sc_W_init : FnScope ["self", "amounts", "name"] ["self", "amounts"] (defScope s_W_init) := ⟨rfl, rfl, rfl, by decide +kernel, rfl, by decide +kernel, by decide +kernel⟩
theorem has_W_init (T : Txt K C mg) (h_BadWish__init_ : HasE P w K mg base .BadWish "value") (h_check_different : Has P w K mg base "check_different" 3 ["names"] S_check_different (fun _ => True)) (h_check_number : Has P w K mg base "check_number" 3 ["count"] S_check_number (fun _ => True)) (h_is_integer : Has P w K mg base "is_integer" 1 ["value"] S_is_integer (fun _ => True)) {f : Addr} {fd : FuncData} (F : Fun K "__init__" "Wishes.__init__" s_W_init f fd) (m : mg "Wishes" = some (.ref C.W)) (mk : Mk K C.W f) (b : Binds K fd ["self", "amounts"] []) :
    HasI P w K mg base C.W "Wishes" 4 ["self", "amounts"] (S_W_init C) := by
  refine ⟨f, fd, m, mk, b, fun_deep (T := (t_W_init C)) (k := 3) F sc_W_init ?_ (fun cdv A outer s H E hr => ?_) (rd_W_init (C := C))⟩
  · intro ds μ Q E h; first | (obtain ⟨rfl, _⟩ := h; rfl; done) | (obtain ⟨_, rfl, _⟩ := h; rfl; done) | (obtain ⟨_, _, rfl, _⟩ := h; rfl; done) | (obtain ⟨_, _, _, rfl, _⟩ := h; rfl; done) | (obtain ⟨_, _, _, _, rfl, _⟩ := h; rfl; done) | (obtain ⟨_, _, _, _, _, rfl, _⟩ := h; rfl; done) | (obtain ⟨_, _, _, _, _, _, rfl, _⟩ := h; rfl; done) | (obtain ⟨_, _, _, _, _, _, _, rfl, _⟩ := h; rfl; done) | (obtain ⟨_, _, _, _, _, _, _, _, rfl, _⟩ := h; rfl; done) | (obtain ⟨_, _, _, _, _, _, _, _, _, rfl, _⟩ := h; rfl; done) | (rcases h with ⟨_, rfl | rfl, _⟩ <;> rfl) | (rcases h with ⟨_, _, rfl | rfl, _⟩ <;> rfl) | (rcases h with h | h <;> first | (obtain ⟨rfl, _⟩ := h; rfl; done) | (obtain ⟨_, rfl, _⟩ := h; rfl; done) | (obtain ⟨_, _, rfl, _⟩ := h; rfl; done) | (obtain ⟨_, _, _, rfl, _⟩ := h; rfl; done) | (obtain ⟨_, _, _, _, rfl, _⟩ := h; rfl; done) | (obtain ⟨_, _, _, _, _, rfl, _⟩ := h; rfl; done) | (obtain ⟨_, _, _, _, _, _, rfl, _⟩ := h; rfl; done) | (obtain ⟨_, _, _, _, _, _, _, rfl, _⟩ := h; rfl; done) | (obtain ⟨_, _, _, _, _, _, _, _, rfl, _⟩ := h; rfl; done) | (obtain ⟨_, _, _, _, _, _, _, _, _, rfl, _⟩ := h; rfl; done) | (rcases h with ⟨_, rfl | rfl, _⟩ <;> rfl))
  · have tk := L2N.takes_of (X := cxOf (L2N.CX P w) P w K mg base ["self", "amounts", "name"] "Wishes.__init__" (defScope s_W_init) f cdv A outer s H E) rfl rfl rfl rfl
    have hp := passes_of (X := cxOf (L2N.CX P w) P w K mg base ["self", "amounts", "name"] "Wishes.__init__" (defScope s_W_init) f cdv A outer s H E) rfl
    exact dss_cons (ds_drop (de_fnH h_check_number (hr.mono (by decide)) rfl tk (da_cons (de_len rfl T.m_len (de_var (pv 1))) (da_nil))))
      (dss_cons (ds_drop (de_fnH h_check_different (hr.mono (by decide)) rfl tk (da_cons (de_sortedD true rfl rfl T.m_sorted (de_var (pv 1))) (da_nil))))
      (dss_cons (ds_fld T.c_Wishes T.n_Wishes_likes (de_var (pv 0)) (de_dict0))
      (dss_one (ds_for hp rfl (di_any (de_sortedD true rfl rfl T.m_sorted (de_var (pv 1)))) (dg_name (pg_name (i := 2) sc_W_init.nd rfl (by first | exact Or.inl rfl | exact Or.inr rfl))) (dss_cons (ds_if (dt_not (dt_val (de_fnH h_is_integer (hr.mono (by decide)) rfl tk (da_cons (de_dget (hu_of hr) (de_var (pv 1)) (de_var (pv 2))) (da_nil))))) (dss_one (ds_raise h_BadWish__init_ (hr.mono (by decide)) rfl tk (de_dget (hu_of hr) (de_var (pv 1)) (de_var (pv 2))))) (dss_nil))
      (dss_one (ds_asg (de_dget (hu_of hr) (de_var (pv 1)) (de_var (pv 2))) (dg_setD (pg_sub (de_fld T.c_Wishes T.n_Wishes_likes (de_var (pv 0))) (de_var (pv 2)) (set_dict (hu_of hr)))))))))))
theorem sc_W_outcomes : FnScope ["self"] ["self"] (defScope s_W_outcomes) := ⟨rfl, rfl, rfl, by decide +kernel, rfl, by decide +kernel, by decide +kernel⟩
theorem has_W_outcomes (T : Txt K C mg)  {f : Addr} {fd : FuncData} (F : Fun K "outcomes" "Wishes.outcomes" s_W_outcomes f fd) {pr : Addr} (m : PropOf K C.W "outcomes" pr f) (b : Binds K fd ["self"] []) :
    HasP P w K mg base C.W "outcomes" 1 ["self"] (S_W_outcomes C) := by
  refine ⟨pr, f, fd, m, b, fun_deep (T := (t_W_outcomes C)) (k := 0) F sc_W_outcomes ?_ (fun cdv A outer s H E hr => ?_) (rd_W_outcomes (C := C))⟩
  · intro ds μ Q E h; first | (obtain ⟨rfl, _⟩ := h; rfl; done) | (obtain ⟨_, rfl, _⟩ := h; rfl; done) | (obtain ⟨_, _, rfl, _⟩ := h; rfl; done) | (obtain ⟨_, _, _, rfl, _⟩ := h; rfl; done) | (obtain ⟨_, _, _, _, rfl, _⟩ := h; rfl; done) | (obtain ⟨_, _, _, _, _, rfl, _⟩ := h; rfl; done) | (obtain ⟨_, _, _, _, _, _, rfl, _⟩ := h; rfl; done) | (obtain ⟨_, _, _, _, _, _, _, rfl, _⟩ := h; rfl; done) | (obtain ⟨_, _, _, _, _, _, _, _, rfl, _⟩ := h; rfl; done) | (obtain ⟨_, _, _, _, _, _, _, _, _, rfl, _⟩ := h; rfl; done) | (rcases h with ⟨_, rfl | rfl, _⟩ <;> rfl) | (rcases h with ⟨_, _, rfl | rfl, _⟩ <;> rfl) | (rcases h with h | h <;> first | (obtain ⟨rfl, _⟩ := h; rfl; done) | (obtain ⟨_, rfl, _⟩ := h; rfl; done) | (obtain ⟨_, _, rfl, _⟩ := h; rfl; done) | (obtain ⟨_, _, _, rfl, _⟩ := h; rfl; done) | (obtain ⟨_, _, _, _, rfl, _⟩ := h; rfl; done) | (obtain ⟨_, _, _, _, _, rfl, _⟩ := h; rfl; done) | (obtain ⟨_, _, _, _, _, _, rfl, _⟩ := h; rfl; done) | (obtain ⟨_, _, _, _, _, _, _, rfl, _⟩ := h; rfl; done) | (obtain ⟨_, _, _, _, _, _, _, _, rfl, _⟩ := h; rfl; done) | (obtain ⟨_, _, _, _, _, _, _, _, _, rfl, _⟩ := h; rfl; done) | (rcases h with ⟨_, rfl | rfl, _⟩ <;> rfl))
  · have tk := L2N.takes_of (X := cxOf (L2N.CX P w) P w K mg base ["self"] "Wishes.outcomes" (defScope s_W_outcomes) f cdv A outer s H E) rfl rfl rfl rfl
    have hp := passes_of (X := cxOf (L2N.CX P w) P w K mg base ["self"] "Wishes.outcomes" (defScope s_W_outcomes) f cdv A outer s H E) rfl
    exact dss_one (ds_ret (de_tupleD rfl rfl T.m_tuple (de_fld T.c_Wishes T.n_Wishes_likes (de_var (pv 0)))))
theorem sc_W_prefers : FnScope ["self", "one", "other", "name"] ["self", "one", "other"] (defScope s_W_prefers) := ⟨rfl, rfl, rfl, by decide +kernel, rfl, by decide +kernel, by decide +kernel⟩
theorem has_W_prefers (T : Txt K C mg) (h_UnknownName__init_ : HasE P w K mg base .UnknownName "name") {f : Addr} {fd : FuncData} (F : Fun K "prefers" "Wishes.prefers" s_W_prefers f fd) (m : Meth K C.W "prefers" f) (b : Binds K fd ["self", "one", "other"] []) :
    HasM P w K mg base C.W "prefers" 3 ["self", "one", "other"] (S_W_prefers C) := by
  refine ⟨f, fd, m, b, fun_deep (T := (t_W_prefers C)) (k := 2) F sc_W_prefers ?_ (fun cdv A outer s H E hr => ?_) (rd_W_prefers (C := C))⟩
  · intro ds μ Q E h; first | (obtain ⟨rfl, _⟩ := h; rfl; done) | (obtain ⟨_, rfl, _⟩ := h; rfl; done) | (obtain ⟨_, _, rfl, _⟩ := h; rfl; done) | (obtain ⟨_, _, _, rfl, _⟩ := h; rfl; done) | (obtain ⟨_, _, _, _, rfl, _⟩ := h; rfl; done) | (obtain ⟨_, _, _, _, _, rfl, _⟩ := h; rfl; done) | (obtain ⟨_, _, _, _, _, _, rfl, _⟩ := h; rfl; done) | (obtain ⟨_, _, _, _, _, _, _, rfl, _⟩ := h; rfl; done) | (obtain ⟨_, _, _, _, _, _, _, _, rfl, _⟩ := h; rfl; done) | (obtain ⟨_, _, _, _, _, _, _, _, _, rfl, _⟩ := h; rfl; done) | (rcases h with ⟨_, rfl | rfl, _⟩ <;> rfl) | (rcases h with ⟨_, _, rfl | rfl, _⟩ <;> rfl) | (rcases h with h | h <;> first | (obtain ⟨rfl, _⟩ := h; rfl; done) | (obtain ⟨_, rfl, _⟩ := h; rfl; done) | (obtain ⟨_, _, rfl, _⟩ := h; rfl; done) | (obtain ⟨_, _, _, rfl, _⟩ := h; rfl; done) | (obtain ⟨_, _, _, _, rfl, _⟩ := h; rfl; done) | (obtain ⟨_, _, _, _, _, rfl, _⟩ := h; rfl; done) | (obtain ⟨_, _, _, _, _, _, rfl, _⟩ := h; rfl; done) | (obtain ⟨_, _, _, _, _, _, _, rfl, _⟩ := h; rfl; done) | (obtain ⟨_, _, _, _, _, _, _, _, rfl, _⟩ := h; rfl; done) | (obtain ⟨_, _, _, _, _, _, _, _, _, rfl, _⟩ := h; rfl; done) | (rcases h with ⟨_, rfl | rfl, _⟩ <;> rfl))
  · have tk := L2N.takes_of (X := cxOf (L2N.CX P w) P w K mg base ["self", "one", "other", "name"] "Wishes.prefers" (defScope s_W_prefers) f cdv A outer s H E) rfl rfl rfl rfl
    have hp := passes_of (X := cxOf (L2N.CX P w) P w K mg base ["self", "one", "other", "name"] "Wishes.prefers" (defScope s_W_prefers) f cdv A outer s H E) rfl
    exact dss_cons (ds_for hp rfl (di_any (de_tup (da_cons (de_var (pv 1)) (da_cons (de_var (pv 2)) (da_nil))))) (dg_name (pg_name (i := 3) sc_W_prefers.nd rfl (by first | exact Or.inl rfl | exact Or.inr rfl))) (dss_one (ds_if (dt_dnotin (hu_of hr) (de_var (pv 3)) (de_fld T.c_Wishes T.n_Wishes_likes (de_var (pv 0)))) (dss_one (ds_raise h_UnknownName__init_ (hr.mono (by decide)) rfl tk (de_var (pv 3)))) (dss_nil))))
      (dss_one (ds_ret (de_gt (de_dget (hu_of hr) (de_fld T.c_Wishes T.n_Wishes_likes (de_var (pv 0))) (de_var (pv 1))) (de_dget (hu_of hr) (de_fld T.c_Wishes T.n_Wishes_likes (de_var (pv 0))) (de_var (pv 2))))))
theorem sc_check_length : FnScope ["count"] ["count"] (defScope s_check_length) := ⟨rfl, rfl, rfl, by decide +kernel, rfl, by decide +kernel, by decide +kernel⟩
theorem has_check_length (T : Txt K C mg) (h_BadCount__init_ : HasE P w K mg base .BadCount "count") {f : Addr} {fd : FuncData} (F : Fun K "check_length" "check_length" s_check_length f fd) (m : mg "check_length" = some (.ref f)) (b : Binds K fd ["count"] []) (kb : (fun _ => True) fd) :
    Has P w K mg base "check_length" 3 ["count"] S_check_length (fun _ => True) := by
  refine ⟨f, fd, m, F.kp, b, kb, fun_deep (T := t_check_length) (k := 2) F sc_check_length ?_ (fun cdv A outer s H E hr => ?_) rd_check_length⟩
  · intro ds μ Q E h; first | (obtain ⟨_, rfl, _⟩ := h; rfl; done) | (obtain ⟨rfl, _⟩ := h; rfl; done) | (obtain ⟨_, rfl, _⟩ := h; rfl; done) | (obtain ⟨_, _, rfl, _⟩ := h; rfl; done) | (obtain ⟨_, _, _, rfl, _⟩ := h; rfl; done) | (obtain ⟨_, _, _, _, rfl, _⟩ := h; rfl; done) | (obtain ⟨_, _, _, _, _, rfl, _⟩ := h; rfl; done) | (obtain ⟨_, _, _, _, _, _, rfl, _⟩ := h; rfl; done) | (obtain ⟨_, _, _, _, _, _, _, rfl, _⟩ := h; rfl; done) | (obtain ⟨_, _, _, _, _, _, _, _, rfl, _⟩ := h; rfl; done) | (obtain ⟨_, _, _, _, _, _, _, _, _, rfl, _⟩ := h; rfl; done) | (rcases h with ⟨_, rfl | rfl, _⟩ <;> rfl) | (rcases h with ⟨_, _, rfl | rfl, _⟩ <;> rfl) | (rcases h with h | h <;> first | (obtain ⟨rfl, _⟩ := h; rfl; done) | (obtain ⟨_, rfl, _⟩ := h; rfl; done) | (obtain ⟨_, _, rfl, _⟩ := h; rfl; done) | (obtain ⟨_, _, _, rfl, _⟩ := h; rfl; done) | (obtain ⟨_, _, _, _, rfl, _⟩ := h; rfl; done) | (obtain ⟨_, _, _, _, _, rfl, _⟩ := h; rfl; done) | (obtain ⟨_, _, _, _, _, _, rfl, _⟩ := h; rfl; done) | (obtain ⟨_, _, _, _, _, _, _, rfl, _⟩ := h; rfl; done) | (obtain ⟨_, _, _, _, _, _, _, _, rfl, _⟩ := h; rfl; done) | (obtain ⟨_, _, _, _, _, _, _, _, _, rfl, _⟩ := h; rfl; done) | (rcases h with ⟨_, rfl | rfl, _⟩ <;> rfl))
  · have tk := L2N.takes_of (X := cxOf (L2N.CX P w) P w K mg base ["count"] "check_length" (defScope s_check_length) f cdv A outer s H E) rfl rfl rfl rfl
    have hp := passes_of (X := cxOf (L2N.CX P w) P w K mg base ["count"] "check_length" (defScope s_check_length) f cdv A outer s H E) rfl
    exact dss_one (ds_if (dt_not (dt_chain op_le op_le (de_int pe_int) (de_var (pv 0)) (de_int (pe_glob rfl T.m_MOST_LINES.choose_spec ⟨_, rfl⟩)))) (dss_one (ds_raise h_BadCount__init_ (hr.mono (by decide)) rfl tk (de_var (pv 0)))) (dss_nil))
theorem sc_check_lines : FnScope ["rows", "row", "name"] ["rows"] (defScope s_check_lines) := ⟨rfl, rfl, rfl, by decide +kernel, rfl, by decide +kernel, by decide +kernel⟩
theorem has_check_lines (T : Txt K C mg) (h_BadCount__init_ : HasE P w K mg base .BadCount "count") (h_BadName__init_ : HasE P w K mg base .BadName "name") (h_check_length : Has P w K mg base "check_length" 3 ["count"] S_check_length (fun _ => True)) (h_valid_name : Has P w K mg base "valid_name" 1 ["text"] S_valid_name (fun _ => True)) {f : Addr} {fd : FuncData} (F : Fun K "check_lines" "check_lines" s_check_lines f fd) (m : mg "check_lines" = some (.ref f)) (b : Binds K fd ["rows"] []) (kb : (fun _ => True) fd) :
    Has P w K mg base "check_lines" 4 ["rows"] S_check_lines (fun _ => True) := by
  refine ⟨f, fd, m, F.kp, b, kb, fun_deep (T := t_check_lines) (k := 3) F sc_check_lines ?_ (fun cdv A outer s H E hr => ?_) rd_check_lines⟩
  · intro ds μ Q E h; first | (obtain ⟨_, _, rfl, _⟩ := h; rfl; done) | (obtain ⟨rfl, _⟩ := h; rfl; done) | (obtain ⟨_, rfl, _⟩ := h; rfl; done) | (obtain ⟨_, _, rfl, _⟩ := h; rfl; done) | (obtain ⟨_, _, _, rfl, _⟩ := h; rfl; done) | (obtain ⟨_, _, _, _, rfl, _⟩ := h; rfl; done) | (obtain ⟨_, _, _, _, _, rfl, _⟩ := h; rfl; done) | (obtain ⟨_, _, _, _, _, _, rfl, _⟩ := h; rfl; done) | (obtain ⟨_, _, _, _, _, _, _, rfl, _⟩ := h; rfl; done) | (obtain ⟨_, _, _, _, _, _, _, _, rfl, _⟩ := h; rfl; done) | (obtain ⟨_, _, _, _, _, _, _, _, _, rfl, _⟩ := h; rfl; done) | (rcases h with ⟨_, rfl | rfl, _⟩ <;> rfl) | (rcases h with ⟨_, _, rfl | rfl, _⟩ <;> rfl) | (rcases h with h | h <;> first | (obtain ⟨rfl, _⟩ := h; rfl; done) | (obtain ⟨_, rfl, _⟩ := h; rfl; done) | (obtain ⟨_, _, rfl, _⟩ := h; rfl; done) | (obtain ⟨_, _, _, rfl, _⟩ := h; rfl; done) | (obtain ⟨_, _, _, _, rfl, _⟩ := h; rfl; done) | (obtain ⟨_, _, _, _, _, rfl, _⟩ := h; rfl; done) | (obtain ⟨_, _, _, _, _, _, rfl, _⟩ := h; rfl; done) | (obtain ⟨_, _, _, _, _, _, _, rfl, _⟩ := h; rfl; done) | (obtain ⟨_, _, _, _, _, _, _, _, rfl, _⟩ := h; rfl; done) | (obtain ⟨_, _, _, _, _, _, _, _, _, rfl, _⟩ := h; rfl; done) | (rcases h with ⟨_, rfl | rfl, _⟩ <;> rfl))
  · have tk := L2N.takes_of (X := cxOf (L2N.CX P w) P w K mg base ["rows", "row", "name"] "check_lines" (defScope s_check_lines) f cdv A outer s H E) rfl rfl rfl rfl
    have hp := passes_of (X := cxOf (L2N.CX P w) P w K mg base ["rows", "row", "name"] "check_lines" (defScope s_check_lines) f cdv A outer s H E) rfl
    exact dss_cons (ds_drop (de_fnH h_check_length (hr.mono (by decide)) rfl tk (da_cons (de_len rfl T.m_len (de_var (pv 0))) (da_nil))))
      (dss_cons (ds_drop (de_fnH h_check_length (hr.mono (by decide)) rfl tk (da_cons (de_len rfl T.m_len (de_sub_ (de_var (pv 0)) (de_int pe_int))) (da_nil))))
      (dss_cons (ds_for hp rfl (di_any (de_var (pv 0))) (dg_name (pg_name (i := 1) sc_check_lines.nd rfl (by first | exact Or.inl rfl | exact Or.inr rfl))) (dss_one (ds_if (dt_ne hr.units (de_len rfl T.m_len (de_var (pv 1))) (de_len rfl T.m_len (de_sub_ (de_var (pv 0)) (de_int pe_int)))) (dss_one (ds_raise h_BadCount__init_ (hr.mono (by decide)) rfl tk (de_len rfl T.m_len (de_var (pv 1))))) (dss_nil))))
      (dss_one (ds_for hp rfl (di_any (de_var (pv 0))) (dg_name (pg_name (i := 1) sc_check_lines.nd rfl (by first | exact Or.inl rfl | exact Or.inr rfl))) (dss_one (ds_for hp rfl (di_any (de_var (pv 1))) (dg_name (pg_name (i := 2) sc_check_lines.nd rfl (by first | exact Or.inl rfl | exact Or.inr rfl))) (dss_one (ds_if (dt_not (dt_val (de_fnH h_valid_name (hr.mono (by decide)) rfl tk (da_cons (de_var (pv 2)) (da_nil))))) (dss_one (ds_raise h_BadName__init_ (hr.mono (by decide)) rfl tk (de_var (pv 2)))) (dss_nil)))))))))
theorem sc_exchanged : FnScope ["rows", "index", "row"] ["rows"] (defScope s_exchanged) := ⟨rfl, rfl, rfl, by decide +kernel, rfl, by decide +kernel, by decide +kernel⟩
theorem has_exchanged (T : Txt K C mg)  {f : Addr} {fd : FuncData} (F : Fun K "exchanged" "exchanged" s_exchanged f fd) (m : mg "exchanged" = some (.ref f)) (b : Binds K fd ["rows"] []) (kb : (fun _ => True) fd) :
    Has P w K mg base "exchanged" 1 ["rows"] S_exchanged (fun _ => True) := by
  refine ⟨f, fd, m, F.kp, b, kb, fun_deep (T := t_exchanged) (k := 0) F sc_exchanged ?_ (fun cdv A outer s H E hr => ?_) rd_exchanged⟩
  · intro ds μ Q E h; first | (obtain ⟨_, _, rfl, _⟩ := h; rfl; done) | (obtain ⟨rfl, _⟩ := h; rfl; done) | (obtain ⟨_, rfl, _⟩ := h; rfl; done) | (obtain ⟨_, _, rfl, _⟩ := h; rfl; done) | (obtain ⟨_, _, _, rfl, _⟩ := h; rfl; done) | (obtain ⟨_, _, _, _, rfl, _⟩ := h; rfl; done) | (obtain ⟨_, _, _, _, _, rfl, _⟩ := h; rfl; done) | (obtain ⟨_, _, _, _, _, _, rfl, _⟩ := h; rfl; done) | (obtain ⟨_, _, _, _, _, _, _, rfl, _⟩ := h; rfl; done) | (obtain ⟨_, _, _, _, _, _, _, _, rfl, _⟩ := h; rfl; done) | (obtain ⟨_, _, _, _, _, _, _, _, _, rfl, _⟩ := h; rfl; done) | (rcases h with ⟨_, rfl | rfl, _⟩ <;> rfl) | (rcases h with ⟨_, _, rfl | rfl, _⟩ <;> rfl) | (rcases h with h | h <;> first | (obtain ⟨rfl, _⟩ := h; rfl; done) | (obtain ⟨_, rfl, _⟩ := h; rfl; done) | (obtain ⟨_, _, rfl, _⟩ := h; rfl; done) | (obtain ⟨_, _, _, rfl, _⟩ := h; rfl; done) | (obtain ⟨_, _, _, _, rfl, _⟩ := h; rfl; done) | (obtain ⟨_, _, _, _, _, rfl, _⟩ := h; rfl; done) | (obtain ⟨_, _, _, _, _, _, rfl, _⟩ := h; rfl; done) | (obtain ⟨_, _, _, _, _, _, _, rfl, _⟩ := h; rfl; done) | (obtain ⟨_, _, _, _, _, _, _, _, rfl, _⟩ := h; rfl; done) | (obtain ⟨_, _, _, _, _, _, _, _, _, rfl, _⟩ := h; rfl; done) | (rcases h with ⟨_, rfl | rfl, _⟩ <;> rfl))
  · have tk := L2N.takes_of (X := cxOf (L2N.CX P w) P w K mg base ["rows", "index", "row"] "exchanged" (defScope s_exchanged) f cdv A outer s H E) rfl rfl rfl rfl
    have hp := passes_of (X := cxOf (L2N.CX P w) P w K mg base ["rows", "index", "row"] "exchanged" (defScope s_exchanged) f cdv A outer s H E) rfl
    exact dss_one (ds_ret (de_tuple rfl T.m_tuple (de_lc (fz := true) (own := [("index", 1)]) rfl sc_exchanged.nd (di_range1 rfl T.m_range (de_len rfl T.m_len (de_sub_ (de_var (pv 0)) (de_int pe_int)))) (blkOk_by (N := ["rows", "index", "row"]) (sc := defScope s_exchanged) (own := [("index", 1)]) (by decide +kernel)) (ct_name (by decide)) (fun _ _ _ _ _ => pg_name (i := 1) sc_exchanged.nd rfl (by first | exact Or.inl rfl | exact Or.inr rfl)) (fun _ _ _ _ _ => dts_nil) (fun _ _ _ _ _ => de_tuple rfl T.m_tuple (de_lc (fz := true) (own := [("row", 2)]) rfl sc_exchanged.nd (di_any (de_var (pv 0))) (blkOk_by (own := [("row", 2)]) (by rfl)) (ct_name (by decide)) (fun _ _ _ _ _ => pg_name (i := 2) sc_exchanged.nd rfl (by first | exact Or.inl rfl | exact Or.inr rfl)) (fun _ _ _ _ _ => dts_nil) (fun _ _ _ _ _ => de_sub_ (de_var (pv 2)) (de_var (pv 1))))))))
theorem sc_T_init : FnScope ["self", "lines", "found", "row", "name"] ["self", "lines"] (defScope s_T_init) := ⟨rfl, rfl, rfl, by decide +kernel, rfl, by decide +kernel, by decide +kernel⟩
theorem has_T_init (T : Txt K C mg) (h_check_lines : Has P w K mg base "check_lines" 4 ["rows"] S_check_lines (fun _ => True)) (h_check_number : Has P w K mg base "check_number" 3 ["count"] S_check_number (fun _ => True)) (h_exchanged : Has P w K mg base "exchanged" 1 ["rows"] S_exchanged (fun _ => True)) {f : Addr} {fd : FuncData} (F : Fun K "__init__" "Table.__init__" s_T_init f fd) (m : mg "Table" = some (.ref C.T)) (mk : Mk K C.T f) (b : Binds K fd ["self", "lines"] []) :
    HasI P w K mg base C.T "Table" 5 ["self", "lines"] (S_T_init C) := by
  refine ⟨f, fd, m, mk, b, fun_deep (T := (t_T_init C)) (k := 4) F sc_T_init ?_ (fun cdv A outer s H E hr => ?_) (rd_T_init (C := C))⟩
  · intro ds μ Q E h; first | (obtain ⟨_, _, _, rfl, _⟩ := h; rfl; done) | (obtain ⟨rfl, _⟩ := h; rfl; done) | (obtain ⟨_, rfl, _⟩ := h; rfl; done) | (obtain ⟨_, _, rfl, _⟩ := h; rfl; done) | (obtain ⟨_, _, _, rfl, _⟩ := h; rfl; done) | (obtain ⟨_, _, _, _, rfl, _⟩ := h; rfl; done) | (obtain ⟨_, _, _, _, _, rfl, _⟩ := h; rfl; done) | (obtain ⟨_, _, _, _, _, _, rfl, _⟩ := h; rfl; done) | (obtain ⟨_, _, _, _, _, _, _, rfl, _⟩ := h; rfl; done) | (obtain ⟨_, _, _, _, _, _, _, _, rfl, _⟩ := h; rfl; done) | (obtain ⟨_, _, _, _, _, _, _, _, _, rfl, _⟩ := h; rfl; done) | (rcases h with ⟨_, rfl | rfl, _⟩ <;> rfl) | (rcases h with ⟨_, _, rfl | rfl, _⟩ <;> rfl) | (rcases h with h | h <;> first | (obtain ⟨rfl, _⟩ := h; rfl; done) | (obtain ⟨_, rfl, _⟩ := h; rfl; done) | (obtain ⟨_, _, rfl, _⟩ := h; rfl; done) | (obtain ⟨_, _, _, rfl, _⟩ := h; rfl; done) | (obtain ⟨_, _, _, _, rfl, _⟩ := h; rfl; done) | (obtain ⟨_, _, _, _, _, rfl, _⟩ := h; rfl; done) | (obtain ⟨_, _, _, _, _, _, rfl, _⟩ := h; rfl; done) | (obtain ⟨_, _, _, _, _, _, _, rfl, _⟩ := h; rfl; done) | (obtain ⟨_, _, _, _, _, _, _, _, rfl, _⟩ := h; rfl; done) | (obtain ⟨_, _, _, _, _, _, _, _, _, rfl, _⟩ := h; rfl; done) | (rcases h with ⟨_, rfl | rfl, _⟩ <;> rfl))
  · have tk := L2N.takes_of (X := cxOf (L2N.CX P w) P w K mg base ["self", "lines", "found", "row", "name"] "Table.__init__" (defScope s_T_init) f cdv A outer s H E) rfl rfl rfl rfl
    have hp := passes_of (X := cxOf (L2N.CX P w) P w K mg base ["self", "lines", "found", "row", "name"] "Table.__init__" (defScope s_T_init) f cdv A outer s H E) rfl
    exact dss_cons (ds_drop (de_fnH h_check_lines (hr.mono (by decide)) rfl tk (da_cons (de_var (pv 1)) (da_nil))))
      (dss_cons (ds_fld T.c_Table T.n_Table_rows (de_var (pv 0)) (de_tuple rfl T.m_tuple (de_lc (fz := true) (own := [("row", 3)]) rfl sc_T_init.nd (di_any (de_var (pv 1))) (blkOk_by (N := ["self", "lines", "found", "row", "name"]) (sc := defScope s_T_init) (own := [("row", 3)]) (by decide +kernel)) (ct_name (by decide)) (fun _ _ _ _ _ => pg_name (i := 3) sc_T_init.nd rfl (by first | exact Or.inl rfl | exact Or.inr rfl)) (fun _ _ _ _ _ => dts_nil) (fun _ _ _ _ _ => de_tuple rfl T.m_tuple (de_var (pv 3))))))
      (dss_cons (ds_fld T.c_Table T.n_Table_columns (de_var (pv 0)) (de_fnH h_exchanged (hr.mono (by decide)) rfl tk (da_cons (de_fld T.c_Table T.n_Table_rows (de_var (pv 0))) (da_nil))))
      (dss_cons (ds_set (i := 2) (de_sortSC (own := [("row", 3), ("name", 4)]) (vs1 := [4]) true hr.units rfl T.m_sorted rfl sc_T_init.nd (di_any (de_fld T.c_Table T.n_Table_rows (de_var (pv 0)))) (blkOk_by (N := ["self", "lines", "found", "row", "name"]) (sc := defScope s_T_init) (own := [("row", 3), ("name", 4)]) (by decide +kernel)) (by decide) (ct_name (by decide)) (ct_name (by decide)) (fun _ _ _ _ _ => pg_name (i := 3) sc_T_init.nd rfl (by first | exact Or.inl rfl | exact Or.inr rfl)) (fun _ _ _ _ _ => di_any (de_var (pv 3))) (fun _ _ _ _ _ => pg_name (i := 4) sc_T_init.nd rfl (by first | exact Or.inl rfl | exact Or.inr rfl)) (fun _ _ _ _ _ => de_var (pv 4))) sc_T_init.nd)
      (dss_cons (ds_drop (de_fnH h_check_number (hr.mono (by decide)) rfl tk (da_cons (de_len rfl T.m_len (de_var (pv 2))) (da_nil))))
      (dss_one (ds_fld T.c_Table T.n_Table_names (de_var (pv 0)) (de_tuple rfl T.m_tuple (de_var (pv 2)))))))))
theorem sc_T_outcomes : FnScope ["self"] ["self"] (defScope s_T_outcomes) := ⟨rfl, rfl, rfl, by decide +kernel, rfl, by decide +kernel, by decide +kernel⟩
theorem has_T_outcomes (T : Txt K C mg)  {f : Addr} {fd : FuncData} (F : Fun K "outcomes" "Table.outcomes" s_T_outcomes f fd) {pr : Addr} (m : PropOf K C.T "outcomes" pr f) (b : Binds K fd ["self"] []) :
    HasP P w K mg base C.T "outcomes" 1 ["self"] (S_T_outcomes C) := by
  refine ⟨pr, f, fd, m, b, fun_deep (T := (t_T_outcomes C)) (k := 0) F sc_T_outcomes ?_ (fun cdv A outer s H E hr => ?_) (rd_T_outcomes (C := C))⟩
  · intro ds μ Q E h; first | (obtain ⟨_, rfl, _⟩ := h; rfl; done) | (obtain ⟨rfl, _⟩ := h; rfl; done) | (obtain ⟨_, rfl, _⟩ := h; rfl; done) | (obtain ⟨_, _, rfl, _⟩ := h; rfl; done) | (obtain ⟨_, _, _, rfl, _⟩ := h; rfl; done) | (obtain ⟨_, _, _, _, rfl, _⟩ := h; rfl; done) | (obtain ⟨_, _, _, _, _, rfl, _⟩ := h; rfl; done) | (obtain ⟨_, _, _, _, _, _, rfl, _⟩ := h; rfl; done) | (obtain ⟨_, _, _, _, _, _, _, rfl, _⟩ := h; rfl; done) | (obtain ⟨_, _, _, _, _, _, _, _, rfl, _⟩ := h; rfl; done) | (obtain ⟨_, _, _, _, _, _, _, _, _, rfl, _⟩ := h; rfl; done) | (rcases h with ⟨_, rfl | rfl, _⟩ <;> rfl) | (rcases h with ⟨_, _, rfl | rfl, _⟩ <;> rfl) | (rcases h with h | h <;> first | (obtain ⟨rfl, _⟩ := h; rfl; done) | (obtain ⟨_, rfl, _⟩ := h; rfl; done) | (obtain ⟨_, _, rfl, _⟩ := h; rfl; done) | (obtain ⟨_, _, _, rfl, _⟩ := h; rfl; done) | (obtain ⟨_, _, _, _, rfl, _⟩ := h; rfl; done) | (obtain ⟨_, _, _, _, _, rfl, _⟩ := h; rfl; done) | (obtain ⟨_, _, _, _, _, _, rfl, _⟩ := h; rfl; done) | (obtain ⟨_, _, _, _, _, _, _, rfl, _⟩ := h; rfl; done) | (obtain ⟨_, _, _, _, _, _, _, _, rfl, _⟩ := h; rfl; done) | (obtain ⟨_, _, _, _, _, _, _, _, _, rfl, _⟩ := h; rfl; done) | (rcases h with ⟨_, rfl | rfl, _⟩ <;> rfl))
  · have tk := L2N.takes_of (X := cxOf (L2N.CX P w) P w K mg base ["self"] "Table.outcomes" (defScope s_T_outcomes) f cdv A outer s H E) rfl rfl rfl rfl
    have hp := passes_of (X := cxOf (L2N.CX P w) P w K mg base ["self"] "Table.outcomes" (defScope s_T_outcomes) f cdv A outer s H E) rfl
    exact dss_one (ds_ret (de_fld T.c_Table T.n_Table_names (de_var (pv 0))))
theorem sc_T_height : FnScope ["self"] ["self"] (defScope s_T_height) := ⟨rfl, rfl, rfl, by decide +kernel, rfl, by decide +kernel, by decide +kernel⟩
theorem has_T_height (T : Txt K C mg)  {f : Addr} {fd : FuncData} (F : Fun K "height" "Table.height" s_T_height f fd) {pr : Addr} (m : PropOf K C.T "height" pr f) (b : Binds K fd ["self"] []) :
    HasP P w K mg base C.T "height" 1 ["self"] (S_T_height C) := by
  refine ⟨pr, f, fd, m, b, fun_deep (T := (t_T_height C)) (k := 0) F sc_T_height ?_ (fun cdv A outer s H E hr => ?_) (rd_T_height (C := C))⟩
  · intro ds μ Q E h; first | (obtain ⟨_, rfl, _⟩ := h; rfl; done) | (obtain ⟨rfl, _⟩ := h; rfl; done) | (obtain ⟨_, rfl, _⟩ := h; rfl; done) | (obtain ⟨_, _, rfl, _⟩ := h; rfl; done) | (obtain ⟨_, _, _, rfl, _⟩ := h; rfl; done) | (obtain ⟨_, _, _, _, rfl, _⟩ := h; rfl; done) | (obtain ⟨_, _, _, _, _, rfl, _⟩ := h; rfl; done) | (obtain ⟨_, _, _, _, _, _, rfl, _⟩ := h; rfl; done) | (obtain ⟨_, _, _, _, _, _, _, rfl, _⟩ := h; rfl; done) | (obtain ⟨_, _, _, _, _, _, _, _, rfl, _⟩ := h; rfl; done) | (obtain ⟨_, _, _, _, _, _, _, _, _, rfl, _⟩ := h; rfl; done) | (rcases h with ⟨_, rfl | rfl, _⟩ <;> rfl) | (rcases h with ⟨_, _, rfl | rfl, _⟩ <;> rfl) | (rcases h with h | h <;> first | (obtain ⟨rfl, _⟩ := h; rfl; done) | (obtain ⟨_, rfl, _⟩ := h; rfl; done) | (obtain ⟨_, _, rfl, _⟩ := h; rfl; done) | (obtain ⟨_, _, _, rfl, _⟩ := h; rfl; done) | (obtain ⟨_, _, _, _, rfl, _⟩ := h; rfl; done) | (obtain ⟨_, _, _, _, _, rfl, _⟩ := h; rfl; done) | (obtain ⟨_, _, _, _, _, _, rfl, _⟩ := h; rfl; done) | (obtain ⟨_, _, _, _, _, _, _, rfl, _⟩ := h; rfl; done) | (obtain ⟨_, _, _, _, _, _, _, _, rfl, _⟩ := h; rfl; done) | (obtain ⟨_, _, _, _, _, _, _, _, _, rfl, _⟩ := h; rfl; done) | (rcases h with ⟨_, rfl | rfl, _⟩ <;> rfl))
  · have tk := L2N.takes_of (X := cxOf (L2N.CX P w) P w K mg base ["self"] "Table.height" (defScope s_T_height) f cdv A outer s H E) rfl rfl rfl rfl
    have hp := passes_of (X := cxOf (L2N.CX P w) P w K mg base ["self"] "Table.height" (defScope s_T_height) f cdv A outer s H E) rfl
    exact dss_one (ds_ret (de_len rfl T.m_len (de_fld T.c_Table T.n_Table_rows (de_var (pv 0)))))
theorem sc_T_width : FnScope ["self"] ["self"] (defScope s_T_width) := ⟨rfl, rfl, rfl, by decide +kernel, rfl, by decide +kernel, by decide +kernel⟩
theorem has_T_width (T : Txt K C mg)  {f : Addr} {fd : FuncData} (F : Fun K "width" "Table.width" s_T_width f fd) {pr : Addr} (m : PropOf K C.T "width" pr f) (b : Binds K fd ["self"] []) :
    HasP P w K mg base C.T "width" 1 ["self"] (S_T_width C) := by
  refine ⟨pr, f, fd, m, b, fun_deep (T := (t_T_width C)) (k := 0) F sc_T_width ?_ (fun cdv A outer s H E hr => ?_) (rd_T_width (C := C))⟩
  · intro ds μ Q E h; first | (obtain ⟨_, rfl, _⟩ := h; rfl; done) | (obtain ⟨rfl, _⟩ := h; rfl; done) | (obtain ⟨_, rfl, _⟩ := h; rfl; done) | (obtain ⟨_, _, rfl, _⟩ := h; rfl; done) | (obtain ⟨_, _, _, rfl, _⟩ := h; rfl; done) | (obtain ⟨_, _, _, _, rfl, _⟩ := h; rfl; done) | (obtain ⟨_, _, _, _, _, rfl, _⟩ := h; rfl; done) | (obtain ⟨_, _, _, _, _, _, rfl, _⟩ := h; rfl; done) | (obtain ⟨_, _, _, _, _, _, _, rfl, _⟩ := h; rfl; done) | (obtain ⟨_, _, _, _, _, _, _, _, rfl, _⟩ := h; rfl; done) | (obtain ⟨_, _, _, _, _, _, _, _, _, rfl, _⟩ := h; rfl; done) | (rcases h with ⟨_, rfl | rfl, _⟩ <;> rfl) | (rcases h with ⟨_, _, rfl | rfl, _⟩ <;> rfl) | (rcases h with h | h <;> first | (obtain ⟨rfl, _⟩ := h; rfl; done) | (obtain ⟨_, rfl, _⟩ := h; rfl; done) | (obtain ⟨_, _, rfl, _⟩ := h; rfl; done) | (obtain ⟨_, _, _, rfl, _⟩ := h; rfl; done) | (obtain ⟨_, _, _, _, rfl, _⟩ := h; rfl; done) | (obtain ⟨_, _, _, _, _, rfl, _⟩ := h; rfl; done) | (obtain ⟨_, _, _, _, _, _, rfl, _⟩ := h; rfl; done) | (obtain ⟨_, _, _, _, _, _, _, rfl, _⟩ := h; rfl; done) | (obtain ⟨_, _, _, _, _, _, _, _, rfl, _⟩ := h; rfl; done) | (obtain ⟨_, _, _, _, _, _, _, _, _, rfl, _⟩ := h; rfl; done) | (rcases h with ⟨_, rfl | rfl, _⟩ <;> rfl))
  · have tk := L2N.takes_of (X := cxOf (L2N.CX P w) P w K mg base ["self"] "Table.width" (defScope s_T_width) f cdv A outer s H E) rfl rfl rfl rfl
    have hp := passes_of (X := cxOf (L2N.CX P w) P w K mg base ["self"] "Table.width" (defScope s_T_width) f cdv A outer s H E) rfl
    exact dss_one (ds_ret (de_len rfl T.m_len (de_fld T.c_Table T.n_Table_columns (de_var (pv 0)))))
theorem sc_T_has_cell : FnScope ["self", "value"] ["self", "value"] (defScope s_T_has_cell) := ⟨rfl, rfl, rfl, by decide +kernel, rfl, by decide +kernel, by decide +kernel⟩
theorem has_T_has_cell (T : Txt K C mg) (h_is_integer : Has P w K mg base "is_integer" 1 ["value"] S_is_integer (fun _ => True)) {f : Addr} {fd : FuncData} (F : Fun K "has_cell" "Table.has_cell" s_T_has_cell f fd) (m : Meth K C.T "has_cell" f) (b : Binds K fd ["self", "value"] []) :
    HasM P w K mg base C.T "has_cell" 2 ["self", "value"] (S_T_has_cell C) := by
  refine ⟨f, fd, m, b, fun_deep (T := (t_T_has_cell C)) (k := 1) F sc_T_has_cell ?_ (fun cdv A outer s H E hr => ?_) (rd_T_has_cell (C := C))⟩
  · intro ds μ Q E h; first | (obtain ⟨_, _, rfl, _⟩ := h; rfl; done) | (obtain ⟨rfl, _⟩ := h; rfl; done) | (obtain ⟨_, rfl, _⟩ := h; rfl; done) | (obtain ⟨_, _, rfl, _⟩ := h; rfl; done) | (obtain ⟨_, _, _, rfl, _⟩ := h; rfl; done) | (obtain ⟨_, _, _, _, rfl, _⟩ := h; rfl; done) | (obtain ⟨_, _, _, _, _, rfl, _⟩ := h; rfl; done) | (obtain ⟨_, _, _, _, _, _, rfl, _⟩ := h; rfl; done) | (obtain ⟨_, _, _, _, _, _, _, rfl, _⟩ := h; rfl; done) | (obtain ⟨_, _, _, _, _, _, _, _, rfl, _⟩ := h; rfl; done) | (obtain ⟨_, _, _, _, _, _, _, _, _, rfl, _⟩ := h; rfl; done) | (rcases h with ⟨_, rfl | rfl, _⟩ <;> rfl) | (rcases h with ⟨_, _, rfl | rfl, _⟩ <;> rfl) | (rcases h with h | h <;> first | (obtain ⟨rfl, _⟩ := h; rfl; done) | (obtain ⟨_, rfl, _⟩ := h; rfl; done) | (obtain ⟨_, _, rfl, _⟩ := h; rfl; done) | (obtain ⟨_, _, _, rfl, _⟩ := h; rfl; done) | (obtain ⟨_, _, _, _, rfl, _⟩ := h; rfl; done) | (obtain ⟨_, _, _, _, _, rfl, _⟩ := h; rfl; done) | (obtain ⟨_, _, _, _, _, _, rfl, _⟩ := h; rfl; done) | (obtain ⟨_, _, _, _, _, _, _, rfl, _⟩ := h; rfl; done) | (obtain ⟨_, _, _, _, _, _, _, _, rfl, _⟩ := h; rfl; done) | (obtain ⟨_, _, _, _, _, _, _, _, _, rfl, _⟩ := h; rfl; done) | (rcases h with ⟨_, rfl | rfl, _⟩ <;> rfl))
  · have tk := L2N.takes_of (X := cxOf (L2N.CX P w) P w K mg base ["self", "value"] "Table.has_cell" (defScope s_T_has_cell) f cdv A outer s H E) rfl rfl rfl rfl
    have hp := passes_of (X := cxOf (L2N.CX P w) P w K mg base ["self", "value"] "Table.has_cell" (defScope s_T_has_cell) f cdv A outer s H E) rfl
    exact dss_cons (ds_if (PW.pt (pw_or' (dt_not (dt_val (de_isi .tup (by decide) rfl T.m_isinstance (de_var (pv 1)) rfl T.m_tuple (by decide +kernel)))) (pw_or' (dt_ne hr.units (de_len rfl T.m_len (de_var (pv 1))) (de_int pe_int)) (pw_or' (dt_not (dt_val (de_fnH h_is_integer (hr.mono (by decide)) rfl tk (da_cons (de_sub_ (de_var (pv 1)) (de_int pe_int)) (da_nil))))) (pw_or1 (dt_not (dt_val (de_fnH h_is_integer (hr.mono (by decide)) rfl tk (da_cons (de_sub_ (de_var (pv 1)) (de_int pe_int)) (da_nil)))))))))) (dss_one (ds_ret (de_bl pe_bl))) (dss_nil))
      (dss_one (ds_ret (de_and (de_chain op_le op_lt (de_int pe_int) (de_sub_ (de_var (pv 1)) (de_int pe_int)) (de_len rfl T.m_len (de_fld T.c_Table T.n_Table_rows (de_var (pv 0))))) (de_one (de_chain op_le op_lt (de_int pe_int) (de_sub_ (de_var (pv 1)) (de_int pe_int)) (de_len rfl T.m_len (de_fld T.c_Table T.n_Table_columns (de_var (pv 0)))))))))
theorem sc_T_ix : FnScope ["self", "cell"] ["self", "cell"] (defScope s_T_ix) := ⟨rfl, rfl, rfl, by decide +kernel, rfl, by decide +kernel, by decide +kernel⟩
theorem has_T_ix (T : Txt K C mg) (h_BadCell__init_ : HasE P w K mg base .BadCell "value") (h_T_has_cell : HasM P w K mg base C.T "has_cell" 2 ["self", "value"] (S_T_has_cell C)) {f : Addr} {fd : FuncData} (F : Fun K "__getitem__" "Table.__getitem__" s_T_ix f fd) (m : PySem.W.findIn K (.ref C.T) "__getitem__" = some (some (.ref f))) (m1 : PySem.W.fnIn K f = true) (m2 : PySem.W.isFn K (.ref f) = true) (b : Binds K fd ["self", "cell"] []) :
    HasX P w K mg base C.T 3 ["self", "cell"] (S_T_ixX C) := by
  refine ⟨f, fd, m, m1, m2, b, fun_deep (T := (t_T_ix C)) (k := 2) F sc_T_ix ?_ (fun cdv A outer s H E hr => ?_) (rd_T_ixX (C := C))⟩
  · intro ds μ Q E h; first | (obtain ⟨rfl, _⟩ := h; rfl; done) | (obtain ⟨_, rfl, _⟩ := h; rfl; done) | (obtain ⟨_, _, rfl, _⟩ := h; rfl; done) | (obtain ⟨_, _, _, rfl, _⟩ := h; rfl; done) | (obtain ⟨_, _, _, _, rfl, _⟩ := h; rfl; done) | (obtain ⟨_, _, _, _, _, rfl, _⟩ := h; rfl; done) | (obtain ⟨_, _, _, _, _, _, rfl, _⟩ := h; rfl; done) | (obtain ⟨_, _, _, _, _, _, _, rfl, _⟩ := h; rfl; done) | (obtain ⟨_, _, _, _, _, _, _, _, rfl, _⟩ := h; rfl; done) | (obtain ⟨_, _, _, _, _, _, _, _, _, rfl, _⟩ := h; rfl; done) | (rcases h with ⟨_, rfl | rfl, _⟩ <;> rfl) | (rcases h with ⟨_, _, rfl | rfl, _⟩ <;> rfl) | (rcases h with h | h <;> first | (obtain ⟨rfl, _⟩ := h; rfl; done) | (obtain ⟨_, rfl, _⟩ := h; rfl; done) | (obtain ⟨_, _, rfl, _⟩ := h; rfl; done) | (obtain ⟨_, _, _, rfl, _⟩ := h; rfl; done) | (obtain ⟨_, _, _, _, rfl, _⟩ := h; rfl; done) | (obtain ⟨_, _, _, _, _, rfl, _⟩ := h; rfl; done) | (obtain ⟨_, _, _, _, _, _, rfl, _⟩ := h; rfl; done) | (obtain ⟨_, _, _, _, _, _, _, rfl, _⟩ := h; rfl; done) | (obtain ⟨_, _, _, _, _, _, _, _, rfl, _⟩ := h; rfl; done) | (obtain ⟨_, _, _, _, _, _, _, _, _, rfl, _⟩ := h; rfl; done) | (rcases h with ⟨_, rfl | rfl, _⟩ <;> rfl))
  · have tk := L2N.takes_of (X := cxOf (L2N.CX P w) P w K mg base ["self", "cell"] "Table.__getitem__" (defScope s_T_ix) f cdv A outer s H E) rfl rfl rfl rfl
    have hp := passes_of (X := cxOf (L2N.CX P w) P w K mg base ["self", "cell"] "Table.__getitem__" (defScope s_T_ix) f cdv A outer s H E) rfl
    exact dss_cons (ds_if (dt_not (dt_val (de_methH T.c_Table h_T_has_cell (hr.mono (by decide)) tk (de_var (pv 0)) (da_cons (de_var (pv 1)) (da_nil))))) (dss_one (ds_raise h_BadCell__init_ (hr.mono (by decide)) rfl tk (de_var (pv 1)))) (dss_nil))
      (dss_one (ds_ret (de_sub_ (de_sub_ (de_fld T.c_Table T.n_Table_rows (de_var (pv 0))) (de_sub_ (de_var (pv 1)) (de_int pe_int))) (de_sub_ (de_var (pv 1)) (de_int pe_int)))))
theorem sc_cells_of : FnScope ["table", "row", "column"] ["table"] (defScope s_cells_of) := ⟨rfl, rfl, rfl, by decide +kernel, rfl, by decide +kernel, by decide +kernel⟩
theorem has_cells_of (T : Txt K C mg) (h_T_height : HasP P w K mg base C.T "height" 1 ["self"] (S_T_height C)) (h_T_width : HasP P w K mg base C.T "width" 1 ["self"] (S_T_width C)) {f : Addr} {fd : FuncData} (F : Fun K "cells_of" "cells_of" s_cells_of f fd) (m : mg "cells_of" = some (.ref f)) (b : Binds K fd ["table"] []) (kb : (fun _ => True) fd) :
    Has P w K mg base "cells_of" 3 ["table"] (S_cells_of C) (fun _ => True) := by
  refine ⟨f, fd, m, F.kp, b, kb, fun_deep (T := (t_cells_of C)) (k := 2) F sc_cells_of ?_ (fun cdv A outer s H E hr => ?_) (rd_cells_of (C := C))⟩
  · intro ds μ Q E h; first | (obtain ⟨rfl, _⟩ := h; rfl; done) | (obtain ⟨_, rfl, _⟩ := h; rfl; done) | (obtain ⟨_, _, rfl, _⟩ := h; rfl; done) | (obtain ⟨_, _, _, rfl, _⟩ := h; rfl; done) | (obtain ⟨_, _, _, _, rfl, _⟩ := h; rfl; done) | (obtain ⟨_, _, _, _, _, rfl, _⟩ := h; rfl; done) | (obtain ⟨_, _, _, _, _, _, rfl, _⟩ := h; rfl; done) | (obtain ⟨_, _, _, _, _, _, _, rfl, _⟩ := h; rfl; done) | (obtain ⟨_, _, _, _, _, _, _, _, rfl, _⟩ := h; rfl; done) | (obtain ⟨_, _, _, _, _, _, _, _, _, rfl, _⟩ := h; rfl; done) | (rcases h with ⟨_, rfl | rfl, _⟩ <;> rfl) | (rcases h with ⟨_, _, rfl | rfl, _⟩ <;> rfl) | (rcases h with h | h <;> first | (obtain ⟨rfl, _⟩ := h; rfl; done) | (obtain ⟨_, rfl, _⟩ := h; rfl; done) | (obtain ⟨_, _, rfl, _⟩ := h; rfl; done) | (obtain ⟨_, _, _, rfl, _⟩ := h; rfl; done) | (obtain ⟨_, _, _, _, rfl, _⟩ := h; rfl; done) | (obtain ⟨_, _, _, _, _, rfl, _⟩ := h; rfl; done) | (obtain ⟨_, _, _, _, _, _, rfl, _⟩ := h; rfl; done) | (obtain ⟨_, _, _, _, _, _, _, rfl, _⟩ := h; rfl; done) | (obtain ⟨_, _, _, _, _, _, _, _, rfl, _⟩ := h; rfl; done) | (obtain ⟨_, _, _, _, _, _, _, _, _, rfl, _⟩ := h; rfl; done) | (rcases h with ⟨_, rfl | rfl, _⟩ <;> rfl))
  · have tk := L2N.takes_of (X := cxOf (L2N.CX P w) P w K mg base ["table", "row", "column"] "cells_of" (defScope s_cells_of) f cdv A outer s H E) rfl rfl rfl rfl
    have hp := passes_of (X := cxOf (L2N.CX P w) P w K mg base ["table", "row", "column"] "cells_of" (defScope s_cells_of) f cdv A outer s H E) rfl
    exact dss_one (ds_ret (de_lc2 (fz := true) (own := [("row", 1), ("column", 2)]) (vs1 := [2]) rfl sc_cells_of.nd (di_range1 rfl T.m_range (de_propH T.c_Table h_T_height (hr.mono (by decide)) (de_var (pv 0)))) (blkOk_by (N := ["table", "row", "column"]) (sc := defScope s_cells_of) (own := [("row", 1), ("column", 2)]) (by decide +kernel)) (by decide) (ct_name (by decide)) (ct_name (by decide)) (fun _ _ _ _ _ => pg_name (i := 1) sc_cells_of.nd rfl (by first | exact Or.inl rfl | exact Or.inr rfl)) (fun _ _ _ _ _ => di_range1 rfl T.m_range (de_propH T.c_Table h_T_width (hr.mono (by decide)) (de_var (pv 0)))) (fun _ _ _ _ _ => pg_name (i := 2) sc_cells_of.nd rfl (by first | exact Or.inl rfl | exact Or.inr rfl)) (fun _ _ _ _ _ => dts_nil) (fun _ _ _ _ _ => de_tup (da_cons (de_var (pv 1)) (da_cons (de_var (pv 2)) (da_nil))))))
theorem sc_check_wishes : FnScope ["table", "row_wishes", "column_wishes", "wishes"] ["table", "row_wishes", "column_wishes"] (defScope s_check_wishes) := ⟨rfl, rfl, rfl, by decide +kernel, rfl, by decide +kernel, by decide +kernel⟩
theorem has_check_wishes (T : Txt K C mg) (h_T_outcomes : HasP P w K mg base C.T "outcomes" 1 ["self"] (S_T_outcomes C)) (h_UnlikeOutcomes__init_ : HasE P w K mg base .UnlikeOutcomes "names") (h_W_outcomes : HasP P w K mg base C.W "outcomes" 1 ["self"] (S_W_outcomes C)) {f : Addr} {fd : FuncData} (F : Fun K "check_wishes" "check_wishes" s_check_wishes f fd) (m : mg "check_wishes" = some (.ref f)) (b : Binds K fd ["table", "row_wishes", "column_wishes"] []) (kb : (fun _ => True) fd) :
    Has P w K mg base "check_wishes" 3 ["table", "row_wishes", "column_wishes"] (S_check_wishes C) (fun _ => True) := by
  refine ⟨f, fd, m, F.kp, b, kb, fun_deep (T := (t_check_wishes C)) (k := 2) F sc_check_wishes ?_ (fun cdv A outer s H E hr => ?_) (rd_check_wishes (C := C))⟩
  · intro ds μ Q E h; first | (obtain ⟨rfl, _⟩ := h; rfl; done) | (obtain ⟨_, rfl, _⟩ := h; rfl; done) | (obtain ⟨_, _, rfl, _⟩ := h; rfl; done) | (obtain ⟨_, _, _, rfl, _⟩ := h; rfl; done) | (obtain ⟨_, _, _, _, rfl, _⟩ := h; rfl; done) | (obtain ⟨_, _, _, _, _, rfl, _⟩ := h; rfl; done) | (obtain ⟨_, _, _, _, _, _, rfl, _⟩ := h; rfl; done) | (obtain ⟨_, _, _, _, _, _, _, rfl, _⟩ := h; rfl; done) | (obtain ⟨_, _, _, _, _, _, _, _, rfl, _⟩ := h; rfl; done) | (obtain ⟨_, _, _, _, _, _, _, _, _, rfl, _⟩ := h; rfl; done) | (rcases h with ⟨_, rfl | rfl, _⟩ <;> rfl) | (rcases h with ⟨_, _, rfl | rfl, _⟩ <;> rfl) | (rcases h with h | h <;> first | (obtain ⟨rfl, _⟩ := h; rfl; done) | (obtain ⟨_, rfl, _⟩ := h; rfl; done) | (obtain ⟨_, _, rfl, _⟩ := h; rfl; done) | (obtain ⟨_, _, _, rfl, _⟩ := h; rfl; done) | (obtain ⟨_, _, _, _, rfl, _⟩ := h; rfl; done) | (obtain ⟨_, _, _, _, _, rfl, _⟩ := h; rfl; done) | (obtain ⟨_, _, _, _, _, _, rfl, _⟩ := h; rfl; done) | (obtain ⟨_, _, _, _, _, _, _, rfl, _⟩ := h; rfl; done) | (obtain ⟨_, _, _, _, _, _, _, _, rfl, _⟩ := h; rfl; done) | (obtain ⟨_, _, _, _, _, _, _, _, _, rfl, _⟩ := h; rfl; done) | (rcases h with ⟨_, rfl | rfl, _⟩ <;> rfl))
  · have tk := L2N.takes_of (X := cxOf (L2N.CX P w) P w K mg base ["table", "row_wishes", "column_wishes", "wishes"] "check_wishes" (defScope s_check_wishes) f cdv A outer s H E) rfl rfl rfl rfl
    have hp := passes_of (X := cxOf (L2N.CX P w) P w K mg base ["table", "row_wishes", "column_wishes", "wishes"] "check_wishes" (defScope s_check_wishes) f cdv A outer s H E) rfl
    exact dss_one (ds_for hp rfl (di_any (de_tup (da_cons (de_var (pv 1)) (da_cons (de_var (pv 2)) (da_nil))))) (dg_name (pg_name (i := 3) sc_check_wishes.nd rfl (by first | exact Or.inl rfl | exact Or.inr rfl))) (dss_one (ds_if (dt_ne hr.units (de_propH T.c_Wishes h_W_outcomes (hr.mono (by decide)) (de_var (pv 3))) (de_propH T.c_Table h_T_outcomes (hr.mono (by decide)) (de_var (pv 0)))) (dss_one (ds_raise h_UnlikeOutcomes__init_ (hr.mono (by decide)) rfl tk (de_propH T.c_Wishes h_W_outcomes (hr.mono (by decide)) (de_var (pv 3))))) (dss_nil))))
theorem sc_is_improvement : FnScope ["table", "row_wishes", "column_wishes", "cell", "later"] ["table", "row_wishes", "column_wishes", "cell", "later"] (defScope s_is_improvement) := ⟨rfl, rfl, rfl, by decide +kernel, rfl, by decide +kernel, by decide +kernel⟩
theorem has_is_improvement (T : Txt K C mg) (h_T_ix : HasX P w K mg base C.T 3 ["self", "cell"] (S_T_ixX C)) (h_W_prefers : HasM P w K mg base C.W "prefers" 3 ["self", "one", "other"] (S_W_prefers C)) {f : Addr} {fd : FuncData} (F : Fun K "is_improvement" "is_improvement" s_is_improvement f fd) (m : mg "is_improvement" = some (.ref f)) (b : Binds K fd ["table", "row_wishes", "column_wishes", "cell", "later"] []) (kb : (fun _ => True) fd) :
    Has P w K mg base "is_improvement" 5 ["table", "row_wishes", "column_wishes", "cell", "later"] (S_is_improvement C) (fun _ => True) := by
  refine ⟨f, fd, m, F.kp, b, kb, fun_deep (T := (t_is_improvement C)) (k := 4) F sc_is_improvement ?_ (fun cdv A outer s H E hr => ?_) (rd_is_improvement (C := C))⟩
  · intro ds μ Q E h; first | (obtain ⟨rfl, _⟩ := h; rfl; done) | (obtain ⟨_, rfl, _⟩ := h; rfl; done) | (obtain ⟨_, _, rfl, _⟩ := h; rfl; done) | (obtain ⟨_, _, _, rfl, _⟩ := h; rfl; done) | (obtain ⟨_, _, _, _, rfl, _⟩ := h; rfl; done) | (obtain ⟨_, _, _, _, _, rfl, _⟩ := h; rfl; done) | (obtain ⟨_, _, _, _, _, _, rfl, _⟩ := h; rfl; done) | (obtain ⟨_, _, _, _, _, _, _, rfl, _⟩ := h; rfl; done) | (obtain ⟨_, _, _, _, _, _, _, _, rfl, _⟩ := h; rfl; done) | (obtain ⟨_, _, _, _, _, _, _, _, _, rfl, _⟩ := h; rfl; done) | (rcases h with ⟨_, rfl | rfl, _⟩ <;> rfl) | (rcases h with ⟨_, _, rfl | rfl, _⟩ <;> rfl) | (rcases h with h | h <;> first | (obtain ⟨rfl, _⟩ := h; rfl; done) | (obtain ⟨_, rfl, _⟩ := h; rfl; done) | (obtain ⟨_, _, rfl, _⟩ := h; rfl; done) | (obtain ⟨_, _, _, rfl, _⟩ := h; rfl; done) | (obtain ⟨_, _, _, _, rfl, _⟩ := h; rfl; done) | (obtain ⟨_, _, _, _, _, rfl, _⟩ := h; rfl; done) | (obtain ⟨_, _, _, _, _, _, rfl, _⟩ := h; rfl; done) | (obtain ⟨_, _, _, _, _, _, _, rfl, _⟩ := h; rfl; done) | (obtain ⟨_, _, _, _, _, _, _, _, rfl, _⟩ := h; rfl; done) | (obtain ⟨_, _, _, _, _, _, _, _, _, rfl, _⟩ := h; rfl; done) | (rcases h with ⟨_, rfl | rfl, _⟩ <;> rfl))
  · have tk := L2N.takes_of (X := cxOf (L2N.CX P w) P w K mg base ["table", "row_wishes", "column_wishes", "cell", "later"] "is_improvement" (defScope s_is_improvement) f cdv A outer s H E) rfl rfl rfl rfl
    have hp := passes_of (X := cxOf (L2N.CX P w) P w K mg base ["table", "row_wishes", "column_wishes", "cell", "later"] "is_improvement" (defScope s_is_improvement) f cdv A outer s H E) rfl
    exact dss_cons (ds_if (dt_eq hr.units (de_sub_ (de_var (pv 4)) (de_int pe_int)) (de_sub_ (de_var (pv 3)) (de_int pe_int))) (dss_one (ds_ret (de_methH T.c_Wishes h_W_prefers (hr.mono (by decide)) tk (de_var (pv 2)) (da_cons (de_ownixH h_T_ix (hr.mono (by decide)) tk (de_var (pv 0)) (de_var (pv 4))) (da_cons (de_ownixH h_T_ix (hr.mono (by decide)) tk (de_var (pv 0)) (de_var (pv 3))) (da_nil)))))) (dss_nil))
      (dss_one (ds_ret (de_and (de_eq hr.units (de_sub_ (de_var (pv 4)) (de_int pe_int)) (de_sub_ (de_var (pv 3)) (de_int pe_int))) (de_one (de_methH T.c_Wishes h_W_prefers (hr.mono (by decide)) tk (de_var (pv 1)) (da_cons (de_ownixH h_T_ix (hr.mono (by decide)) tk (de_var (pv 0)) (de_var (pv 4))) (da_cons (de_ownixH h_T_ix (hr.mono (by decide)) tk (de_var (pv 0)) (de_var (pv 3))) (da_nil))))))))
theorem sc_better_cells : FnScope ["table", "row_wishes", "column_wishes", "cell", "later"] ["table", "row_wishes", "column_wishes", "cell"] (defScope s_better_cells) := ⟨rfl, rfl, rfl, by decide +kernel, rfl, by decide +kernel, by decide +kernel⟩
theorem has_better_cells (T : Txt K C mg) (h_cells_of : Has P w K mg base "cells_of" 3 ["table"] (S_cells_of C) (fun _ => True)) (h_is_improvement : Has P w K mg base "is_improvement" 5 ["table", "row_wishes", "column_wishes", "cell", "later"] (S_is_improvement C) (fun _ => True)) {f : Addr} {fd : FuncData} (F : Fun K "better_cells" "better_cells" s_better_cells f fd) (m : mg "better_cells" = some (.ref f)) (b : Binds K fd ["table", "row_wishes", "column_wishes", "cell"] []) (kb : (fun _ => True) fd) :
    Has P w K mg base "better_cells" 6 ["table", "row_wishes", "column_wishes", "cell"] (S_better_cells C) (fun _ => True) := by
  refine ⟨f, fd, m, F.kp, b, kb, fun_deep (T := (t_better_cells C)) (k := 5) F sc_better_cells ?_ (fun cdv A outer s H E hr => ?_) (rd_better_cells (C := C))⟩
  · intro ds μ Q E h; first | (obtain ⟨rfl, _⟩ := h; rfl; done) | (obtain ⟨_, rfl, _⟩ := h; rfl; done) | (obtain ⟨_, _, rfl, _⟩ := h; rfl; done) | (obtain ⟨_, _, _, rfl, _⟩ := h; rfl; done) | (obtain ⟨_, _, _, _, rfl, _⟩ := h; rfl; done) | (obtain ⟨_, _, _, _, _, rfl, _⟩ := h; rfl; done) | (obtain ⟨_, _, _, _, _, _, rfl, _⟩ := h; rfl; done) | (obtain ⟨_, _, _, _, _, _, _, rfl, _⟩ := h; rfl; done) | (obtain ⟨_, _, _, _, _, _, _, _, rfl, _⟩ := h; rfl; done) | (obtain ⟨_, _, _, _, _, _, _, _, _, rfl, _⟩ := h; rfl; done) | (rcases h with ⟨_, rfl | rfl, _⟩ <;> rfl) | (rcases h with ⟨_, _, rfl | rfl, _⟩ <;> rfl) | (rcases h with h | h <;> first | (obtain ⟨rfl, _⟩ := h; rfl; done) | (obtain ⟨_, rfl, _⟩ := h; rfl; done) | (obtain ⟨_, _, rfl, _⟩ := h; rfl; done) | (obtain ⟨_, _, _, rfl, _⟩ := h; rfl; done) | (obtain ⟨_, _, _, _, rfl, _⟩ := h; rfl; done) | (obtain ⟨_, _, _, _, _, rfl, _⟩ := h; rfl; done) | (obtain ⟨_, _, _, _, _, _, rfl, _⟩ := h; rfl; done) | (obtain ⟨_, _, _, _, _, _, _, rfl, _⟩ := h; rfl; done) | (obtain ⟨_, _, _, _, _, _, _, _, rfl, _⟩ := h; rfl; done) | (obtain ⟨_, _, _, _, _, _, _, _, _, rfl, _⟩ := h; rfl; done) | (rcases h with ⟨_, rfl | rfl, _⟩ <;> rfl))
  · have tk := L2N.takes_of (X := cxOf (L2N.CX P w) P w K mg base ["table", "row_wishes", "column_wishes", "cell", "later"] "better_cells" (defScope s_better_cells) f cdv A outer s H E) rfl rfl rfl rfl
    have hp := passes_of (X := cxOf (L2N.CX P w) P w K mg base ["table", "row_wishes", "column_wishes", "cell", "later"] "better_cells" (defScope s_better_cells) f cdv A outer s H E) rfl
    exact dss_one (ds_ret (de_lc (fz := true) (own := [("later", 4)]) rfl sc_better_cells.nd (di_any (de_fnH h_cells_of (hr.mono (by decide)) rfl tk (da_cons (de_var (pv 0)) (da_nil)))) (blkOk_by (N := ["table", "row_wishes", "column_wishes", "cell", "later"]) (sc := defScope s_better_cells) (own := [("later", 4)]) (by decide +kernel)) (ct_name (by decide)) (fun _ _ _ _ _ => pg_name (i := 4) sc_better_cells.nd rfl (by first | exact Or.inl rfl | exact Or.inr rfl)) (fun _ _ _ _ _ => dts_one (dt_val (de_fnH h_is_improvement (hr.mono (by decide)) rfl takes0N (da_cons (de_var (pv 0)) (da_cons (de_var (pv 1)) (da_cons (de_var (pv 2)) (da_cons (de_var (pv 3)) (da_cons (de_var (pv 4)) (da_nil))))))))) (fun _ _ _ _ _ => de_var (pv 4))))
theorem sc_longest : FnScope ["table", "row_wishes", "column_wishes", "cells", "after", "ends", "steps", "reached", "cell", "later"] ["table", "row_wishes", "column_wishes"] (defScope s_longest) := ⟨rfl, rfl, rfl, by decide +kernel, rfl, by decide +kernel, by decide +kernel⟩
def kb_longest (K : PySem.W.Frag) (fd : FuncData) : Prop := KBd K fd ["table", "row_wishes", "column_wishes"] 0 ["column_wishes", "table", "row_wishes"] [1, 2, 0]
theorem kb_longest_column_wishes_table_row_wishes : ∀ fd, kb_longest K fd → KBd K fd ["table", "row_wishes", "column_wishes"] 0 ["column_wishes", "table", "row_wishes"] [1, 2, 0] := fun _ h => h
theorem has_longest (T : Txt K C mg) (h_better_cells : Has P w K mg base "better_cells" 6 ["table", "row_wishes", "column_wishes", "cell"] (S_better_cells C) (fun _ => True)) (h_cells_of : Has P w K mg base "cells_of" 3 ["table"] (S_cells_of C) (fun _ => True)) (h_check_wishes : Has P w K mg base "check_wishes" 3 ["table", "row_wishes", "column_wishes"] (S_check_wishes C) (fun _ => True)) {f : Addr} {fd : FuncData} (F : Fun K "longest" "longest" s_longest f fd) (m : mg "longest" = some (.ref f)) (b : Binds K fd ["table", "row_wishes", "column_wishes"] []) (kb : (kb_longest K) fd) :
    Has P w K mg base "longest" 7 ["table", "row_wishes", "column_wishes"] (S_longest C) (kb_longest K) := by
  refine ⟨f, fd, m, F.kp, b, kb, fun_deep (T := (t_longest C)) (k := 6) F sc_longest ?_ (fun cdv A outer s H E hr => ?_) (rd_longest (C := C))⟩
  · intro ds μ Q E h; first | (obtain ⟨rfl, _⟩ := h; rfl; done) | (obtain ⟨_, rfl, _⟩ := h; rfl; done) | (obtain ⟨_, _, rfl, _⟩ := h; rfl; done) | (obtain ⟨_, _, _, rfl, _⟩ := h; rfl; done) | (obtain ⟨_, _, _, _, rfl, _⟩ := h; rfl; done) | (obtain ⟨_, _, _, _, _, rfl, _⟩ := h; rfl; done) | (obtain ⟨_, _, _, _, _, _, rfl, _⟩ := h; rfl; done) | (obtain ⟨_, _, _, _, _, _, _, rfl, _⟩ := h; rfl; done) | (obtain ⟨_, _, _, _, _, _, _, _, rfl, _⟩ := h; rfl; done) | (obtain ⟨_, _, _, _, _, _, _, _, _, rfl, _⟩ := h; rfl; done) | (rcases h with ⟨_, rfl | rfl, _⟩ <;> rfl) | (rcases h with ⟨_, _, rfl | rfl, _⟩ <;> rfl) | (rcases h with h | h <;> first | (obtain ⟨rfl, _⟩ := h; rfl; done) | (obtain ⟨_, rfl, _⟩ := h; rfl; done) | (obtain ⟨_, _, rfl, _⟩ := h; rfl; done) | (obtain ⟨_, _, _, rfl, _⟩ := h; rfl; done) | (obtain ⟨_, _, _, _, rfl, _⟩ := h; rfl; done) | (obtain ⟨_, _, _, _, _, rfl, _⟩ := h; rfl; done) | (obtain ⟨_, _, _, _, _, _, rfl, _⟩ := h; rfl; done) | (obtain ⟨_, _, _, _, _, _, _, rfl, _⟩ := h; rfl; done) | (obtain ⟨_, _, _, _, _, _, _, _, rfl, _⟩ := h; rfl; done) | (obtain ⟨_, _, _, _, _, _, _, _, _, rfl, _⟩ := h; rfl; done) | (rcases h with ⟨_, rfl | rfl, _⟩ <;> rfl))
  · have tk := L2N.takes_of (X := cxOf (L2N.CX P w) P w K mg base ["table", "row_wishes", "column_wishes", "cells", "after", "ends", "steps", "reached", "cell", "later"] "longest" (defScope s_longest) f cdv A outer s H E) rfl rfl rfl rfl
    have hp := passes_of (X := cxOf (L2N.CX P w) P w K mg base ["table", "row_wishes", "column_wishes", "cells", "after", "ends", "steps", "reached", "cell", "later"] "longest" (defScope s_longest) f cdv A outer s H E) rfl
    exact dss_cons (ds_drop (de_fnH h_check_wishes (hr.mono (by decide)) rfl tk (da_cons (de_var (pv 0)) (da_cons (de_var (pv 1)) (da_cons (de_var (pv 2)) (da_nil))))))
      (dss_cons (ds_set (i := 3) (de_fnH h_cells_of (hr.mono (by decide)) rfl tk (da_cons (de_var (pv 0)) (da_nil))) sc_longest.nd)
      (dss_cons (ds_set (i := 4) (de_dt (own := [("cell", 8)]) (lt64 hr.units) rfl sc_longest.nd (di_any (de_var (pv 3))) (blkOk_by (N := ["table", "row_wishes", "column_wishes", "cells", "after", "ends", "steps", "reached", "cell", "later"]) (sc := defScope s_longest) (own := [("cell", 8)]) (by decide +kernel)) (ct_name (by decide)) (fun _ _ _ _ _ => pg_name (i := 8) sc_longest.nd rfl (by first | exact Or.inl rfl | exact Or.inr rfl)) (fun _ _ _ _ _ => dts_nil) (fun _ _ _ _ _ => de_var (pv 8)) (fun _ _ _ _ _ => de_fnH h_better_cells (hr.mono (by decide)) rfl takes0N (da_cons (de_var (pv 0)) (da_cons (de_var (pv 1)) (da_cons (de_var (pv 2)) (da_cons (de_var (pv 8)) (da_nil))))))) sc_longest.nd)
      (dss_cons (ds_set (i := 5) (de_var (pv 3)) sc_longest.nd)
      (dss_cons (ds_for hp rfl (di_range1 rfl T.m_range (de_len rfl T.m_len (de_var (pv 3)))) (dg_name (pg_name (i := 6) sc_longest.nd rfl (by first | exact Or.inl rfl | exact Or.inr rfl))) (dss_reach (own := [("cell", 8), ("later", 9)]) (vs1 := [9]) (iR := 7) (iE := 5) true hr.units rfl T.m_sorted rfl T.m_len rfl sc_longest.nd (di_any (de_var (pv 5))) (blkOk_by (N := ["table", "row_wishes", "column_wishes", "cells", "after", "ends", "steps", "reached", "cell", "later"]) (sc := defScope s_longest) (own := [("cell", 8), ("later", 9)]) (by decide +kernel)) (by decide) (ct_name (by decide)) (ct_name (by decide)) (fun _ _ _ _ _ => pg_name (i := 8) sc_longest.nd rfl (by first | exact Or.inl rfl | exact Or.inr rfl)) (fun _ _ _ _ _ => di_any (de_tget (hu_of hr) (de_var (pv 4)) (de_var (pv 8)))) (fun _ _ _ _ _ => pg_name (i := 9) sc_longest.nd rfl (by first | exact Or.inl rfl | exact Or.inr rfl)) (fun _ _ _ _ _ => de_var (pv 9)) (dss_one (ds_ret (de_var (pv 6)))) (pv 7) (pv 7)))
      (dss_one (ds_ret (de_non pe_non)))))))
theorem sc_start : FnScope ["_law_script", "_law_cell"] ["_law_script"] (defScope s_start) := ⟨rfl, rfl, rfl, by decide +kernel, rfl, by decide +kernel, by decide +kernel⟩
theorem has_start (T : Txt K C mg)  {f : Addr} {fd : FuncData} (F : Fun K "_law_start" "_law_start" s_start f fd) (m : mg "_law_start" = some (.ref f)) (b : Binds K fd ["_law_script"] []) (kb : (fun _ => True) fd) :
    Has P w K mg base "_law_start" 1 ["_law_script"] S_start2 (fun _ => True) := by
  refine ⟨f, fd, m, F.kp, b, kb, FnOk.imp (fun_deep (T := t_start2) (k := 0) F sc_start ?_ (fun cdv A outer s H E hr => ?_) rd_start2E) start2_orc⟩
  · intro ds μ Q E h; first | (obtain ⟨_, rfl, _⟩ := h; rfl; done) | (obtain ⟨rfl, _⟩ := h; rfl; done) | (obtain ⟨_, rfl, _⟩ := h; rfl; done) | (obtain ⟨_, _, rfl, _⟩ := h; rfl; done) | (obtain ⟨_, _, _, rfl, _⟩ := h; rfl; done) | (obtain ⟨_, _, _, _, rfl, _⟩ := h; rfl; done) | (obtain ⟨_, _, _, _, _, rfl, _⟩ := h; rfl; done) | (obtain ⟨_, _, _, _, _, _, rfl, _⟩ := h; rfl; done) | (obtain ⟨_, _, _, _, _, _, _, rfl, _⟩ := h; rfl; done) | (obtain ⟨_, _, _, _, _, _, _, _, rfl, _⟩ := h; rfl; done) | (obtain ⟨_, _, _, _, _, _, _, _, _, rfl, _⟩ := h; rfl; done) | (rcases h with ⟨_, rfl | rfl, _⟩ <;> rfl) | (rcases h with ⟨_, _, rfl | rfl, _⟩ <;> rfl) | (rcases h with h | h <;> first | (obtain ⟨rfl, _⟩ := h; rfl; done) | (obtain ⟨_, rfl, _⟩ := h; rfl; done) | (obtain ⟨_, _, rfl, _⟩ := h; rfl; done) | (obtain ⟨_, _, _, rfl, _⟩ := h; rfl; done) | (obtain ⟨_, _, _, _, rfl, _⟩ := h; rfl; done) | (obtain ⟨_, _, _, _, _, rfl, _⟩ := h; rfl; done) | (obtain ⟨_, _, _, _, _, _, rfl, _⟩ := h; rfl; done) | (obtain ⟨_, _, _, _, _, _, _, rfl, _⟩ := h; rfl; done) | (obtain ⟨_, _, _, _, _, _, _, _, rfl, _⟩ := h; rfl; done) | (obtain ⟨_, _, _, _, _, _, _, _, _, rfl, _⟩ := h; rfl; done) | (rcases h with ⟨_, rfl | rfl, _⟩ <;> rfl))
  · have tk := L2N.takes_of (X := cxOf (L2N.CX P w) P w K mg base ["_law_script", "_law_cell"] "_law_start" (defScope s_start) f cdv A outer s H E) rfl rfl rfl rfl
    have hp := passes_of (X := cxOf (L2N.CX P w) P w K mg base ["_law_script", "_law_cell"] "_law_start" (defScope s_start) f cdv A outer s H E) rfl
    exact dss_one (ds_ret (de_lstM (da_cons (de_lc (fz := false) (own := [("_law_cell", 1)]) rfl sc_start.nd (di_any (de_var (pv 0))) (blkOk_by (N := ["_law_script", "_law_cell"]) (sc := defScope s_start) (own := [("_law_cell", 1)]) (by decide +kernel)) (ct_name (by decide)) (fun _ _ _ _ _ => pg_name (i := 1) sc_start.nd rfl (by first | exact Or.inl rfl | exact Or.inr rfl)) (fun _ _ _ _ _ => dts_nil) (fun _ _ _ _ _ => de_intC rfl T.m_int (de_var (pv 1)))) (da_cons (de_int pe_int) (da_cons (de_int pe_int) (da_nil))))))
theorem sc_take : FnScope ["_law_state", "_law_limit", "_law_cells_here", "_law_at", "_law_cell", "_law_number"] ["_law_state", "_law_limit"] (defScope s_take) := ⟨rfl, rfl, rfl, by decide +kernel, rfl, by decide +kernel, by decide +kernel⟩
theorem has_take (T : Txt K C mg)  {f : Addr} {fd : FuncData} (F : Fun K "_law_take" "_law_take" s_take f fd) (m : mg "_law_take" = some (.ref f)) (b : Binds K fd ["_law_state", "_law_limit"] []) (kb : (fun _ => True) fd) :
    Has P w K mg base "_law_take" 1 ["_law_state", "_law_limit"] S_take (fun _ => True) := by
  refine ⟨f, fd, m, F.kp, b, kb, FnOk.imp (fun_deep (T := t_take) (k := 0) F sc_take ?_ (fun cdv A outer s H E hr => ?_) rd_takeE) take_orc⟩
  · intro ds μ Q E h; first | (obtain ⟨_, _, _, _, _, _, rfl, _⟩ := h; rfl; done) | (obtain ⟨rfl, _⟩ := h; rfl; done) | (obtain ⟨_, rfl, _⟩ := h; rfl; done) | (obtain ⟨_, _, rfl, _⟩ := h; rfl; done) | (obtain ⟨_, _, _, rfl, _⟩ := h; rfl; done) | (obtain ⟨_, _, _, _, rfl, _⟩ := h; rfl; done) | (obtain ⟨_, _, _, _, _, rfl, _⟩ := h; rfl; done) | (obtain ⟨_, _, _, _, _, _, rfl, _⟩ := h; rfl; done) | (obtain ⟨_, _, _, _, _, _, _, rfl, _⟩ := h; rfl; done) | (obtain ⟨_, _, _, _, _, _, _, _, rfl, _⟩ := h; rfl; done) | (obtain ⟨_, _, _, _, _, _, _, _, _, rfl, _⟩ := h; rfl; done) | (rcases h with ⟨_, rfl | rfl, _⟩ <;> rfl) | (rcases h with ⟨_, _, rfl | rfl, _⟩ <;> rfl) | (rcases h with h | h <;> first | (obtain ⟨rfl, _⟩ := h; rfl; done) | (obtain ⟨_, rfl, _⟩ := h; rfl; done) | (obtain ⟨_, _, rfl, _⟩ := h; rfl; done) | (obtain ⟨_, _, _, rfl, _⟩ := h; rfl; done) | (obtain ⟨_, _, _, _, rfl, _⟩ := h; rfl; done) | (obtain ⟨_, _, _, _, _, rfl, _⟩ := h; rfl; done) | (obtain ⟨_, _, _, _, _, _, rfl, _⟩ := h; rfl; done) | (obtain ⟨_, _, _, _, _, _, _, rfl, _⟩ := h; rfl; done) | (obtain ⟨_, _, _, _, _, _, _, _, rfl, _⟩ := h; rfl; done) | (obtain ⟨_, _, _, _, _, _, _, _, _, rfl, _⟩ := h; rfl; done) | (rcases h with ⟨_, rfl | rfl, _⟩ <;> rfl))
  · have tk := L2N.takes_of (X := cxOf (L2N.CX P w) P w K mg base ["_law_state", "_law_limit", "_law_cells_here", "_law_at", "_law_cell", "_law_number"] "_law_take" (defScope s_take) f cdv A outer s H E) rfl rfl rfl rfl
    have hp := passes_of (X := cxOf (L2N.CX P w) P w K mg base ["_law_state", "_law_limit", "_law_cells_here", "_law_at", "_law_cell", "_law_number"] "_law_take" (defScope s_take) f cdv A outer s H E) rfl
    exact dss_cons (ds_set (i := 2) (de_sub_ (de_var (pv 0)) (de_int pe_int)) sc_take.nd)
      (dss_cons (ds_asg (de_add (de_sub_ (de_var (pv 0)) (de_int pe_int)) (de_int pe_int)) (dg_setI (de_var (pv 0)) (de_int pe_int) (pg_sub (de_var (pv 0)) (de_int pe_int) set_list)))
      (dss_cons (ds_set (i := 3) (de_mod (de_intC rfl T.m_int (de_sub_ (de_var (pv 0)) (de_int pe_int))) (de_max2 rfl rfl T.m_max (de_int pe_int) (de_len rfl T.m_len (de_var (pv 2))))) sc_take.nd)
      (dss_cons (ds_set (i := 4) (de_int pe_int) sc_take.nd)
      (dss_cons (ds_if (dt_truth (de_var (pv 2))) (dss_one (ds_set (i := 4) (de_sub_ (de_var (pv 2)) (de_var (pv 3))) sc_take.nd)) (dss_nil))
      (dss_cons (ds_if (dt_ge (de_abs rfl T.m_abs (de_var (pv 4))) (de_pow (de_int pe_int) (de_int pe_int))) (dss_cons (ds_asg (de_fdiv (de_abs rfl T.m_abs (de_var (pv 4))) (de_var (pv 1))) (dg_setI (de_var (pv 2)) (de_var (pv 3)) (pg_sub (de_var (pv 2)) (de_var (pv 3)) set_list)))
      (dss_one (ds_ret (de_mod (de_abs rfl T.m_abs (de_var (pv 4))) (de_var (pv 1)))))) (dss_nil))
      (dss_cons (ds_asg (de_add (de_sub_ (de_var (pv 0)) (de_int pe_int)) (de_int pe_int)) (dg_setI (de_var (pv 0)) (de_int pe_int) (pg_sub (de_var (pv 0)) (de_int pe_int) set_list)))
      (dss_cons (ds_set (i := 5) (de_mod (de_pow (de_intC rfl T.m_int (de_add (de_add (de_mul (de_mod (de_intC rfl T.m_int (de_var (pv 4))) (de_int pe_int)) (de_int pe_int)) (de_mul (de_sub_ (de_var (pv 0)) (de_int pe_int)) (de_int pe_int))) (de_int pe_int))) (de_int pe_int)) (de_int pe_int)) sc_take.nd)
      (dss_cons (ds_set (i := 5) (de_mod (de_pow (de_intC rfl T.m_int (de_add (de_add (de_mul (de_var (pv 5)) (de_int pe_int)) (de_mul (de_sub_ (de_var (pv 0)) (de_int pe_int)) (de_int pe_int))) (de_int pe_int))) (de_int pe_int)) (de_int pe_int)) sc_take.nd)
      (dss_one (ds_ret (de_mod (de_fdiv (de_var (pv 5)) (de_int pe_int)) (de_var (pv 1)))))))))))))
theorem sc_shuffled : FnScope ["_law_state", "_law_items", "_law_left", "_law_told_here", "_law_k"] ["_law_state", "_law_items"] (defScope s_shuffled) := ⟨rfl, rfl, rfl, by decide +kernel, rfl, by decide +kernel, by decide +kernel⟩
theorem has_shuffled (T : Txt K C mg) (h_take : Has P w K mg base "_law_take" 1 ["_law_state", "_law_limit"] S_take (fun _ => True)) {f : Addr} {fd : FuncData} (F : Fun K "_law_shuffled" "_law_shuffled" s_shuffled f fd) (m : mg "_law_shuffled" = some (.ref f)) (b : Binds K fd ["_law_state", "_law_items"] []) (kb : (fun _ => True) fd) :
    Has P w K mg base "_law_shuffled" 2 ["_law_state", "_law_items"] S_shuffled (fun _ => True) := by
  refine ⟨f, fd, m, F.kp, b, kb, fun_deep (T := t_shuffled) (k := 1) F sc_shuffled ?_ (fun cdv A outer s H E hr => ?_) rd_shuffled⟩
  · intro ds μ Q E h; first | (obtain ⟨_, _, _, _, rfl, _⟩ := h; rfl; done) | (obtain ⟨rfl, _⟩ := h; rfl; done) | (obtain ⟨_, rfl, _⟩ := h; rfl; done) | (obtain ⟨_, _, rfl, _⟩ := h; rfl; done) | (obtain ⟨_, _, _, rfl, _⟩ := h; rfl; done) | (obtain ⟨_, _, _, _, rfl, _⟩ := h; rfl; done) | (obtain ⟨_, _, _, _, _, rfl, _⟩ := h; rfl; done) | (obtain ⟨_, _, _, _, _, _, rfl, _⟩ := h; rfl; done) | (obtain ⟨_, _, _, _, _, _, _, rfl, _⟩ := h; rfl; done) | (obtain ⟨_, _, _, _, _, _, _, _, rfl, _⟩ := h; rfl; done) | (obtain ⟨_, _, _, _, _, _, _, _, _, rfl, _⟩ := h; rfl; done) | (rcases h with ⟨_, rfl | rfl, _⟩ <;> rfl) | (rcases h with ⟨_, _, rfl | rfl, _⟩ <;> rfl) | (rcases h with h | h <;> first | (obtain ⟨rfl, _⟩ := h; rfl; done) | (obtain ⟨_, rfl, _⟩ := h; rfl; done) | (obtain ⟨_, _, rfl, _⟩ := h; rfl; done) | (obtain ⟨_, _, _, rfl, _⟩ := h; rfl; done) | (obtain ⟨_, _, _, _, rfl, _⟩ := h; rfl; done) | (obtain ⟨_, _, _, _, _, rfl, _⟩ := h; rfl; done) | (obtain ⟨_, _, _, _, _, _, rfl, _⟩ := h; rfl; done) | (obtain ⟨_, _, _, _, _, _, _, rfl, _⟩ := h; rfl; done) | (obtain ⟨_, _, _, _, _, _, _, _, rfl, _⟩ := h; rfl; done) | (obtain ⟨_, _, _, _, _, _, _, _, _, rfl, _⟩ := h; rfl; done) | (rcases h with ⟨_, rfl | rfl, _⟩ <;> rfl))
  · have tk := L2N.takes_of (X := cxOf (L2N.CX P w) P w K mg base ["_law_state", "_law_items", "_law_left", "_law_told_here", "_law_k"] "_law_shuffled" (defScope s_shuffled) f cdv A outer s H E) rfl rfl rfl rfl
    have hp := passes_of (X := cxOf (L2N.CX P w) P w K mg base ["_law_state", "_law_items", "_law_left", "_law_told_here", "_law_k"] "_law_shuffled" (defScope s_shuffled) f cdv A outer s H E) rfl
    exact dss_cons (ds_set (i := 2) (de_list false rfl T.m_list (de_var (pv 1))) sc_shuffled.nd)
      (dss_cons (ds_set (i := 3) (de_lstM (da_nil)) sc_shuffled.nd)
      (dss_cons (ds_for hp rfl (di_range1 rfl T.m_range (de_len rfl T.m_len (de_var (pv 1)))) (dg_name (pg_name (i := 4) sc_shuffled.nd rfl (by first | exact Or.inl rfl | exact Or.inr rfl))) (dss_one (ds_drop (de_append (de_var (pv 3)) (de_popAt (de_var (pv 2)) (de_fnH h_take (hr.mono (by decide)) rfl tk (da_cons (de_var (pv 0)) (da_cons (de_len rfl T.m_len (de_var (pv 2))) (da_nil)))))))))
      (dss_one (ds_ret (de_var (pv 3))))))
theorem sc_words : FnScope ["_law_state", "_law_menus"] ["_law_state"] (defScope s_words) := ⟨rfl, rfl, rfl, by decide +kernel, rfl, by decide +kernel, by decide +kernel⟩
theorem has_words (T : Txt K C mg) (h_shuffled : Has P w K mg base "_law_shuffled" 2 ["_law_state", "_law_items"] S_shuffled (fun _ => True)) (h_take : Has P w K mg base "_law_take" 1 ["_law_state", "_law_limit"] S_take (fun _ => True)) {f : Addr} {fd : FuncData} (F : Fun K "_law_words" "_law_words" s_words f fd) (m : mg "_law_words" = some (.ref f)) (b : Binds K fd ["_law_state"] []) (kb : (fun _ => True) fd) :
    Has P w K mg base "_law_words" 3 ["_law_state"] S_wordsZ (fun _ => True) := by
  refine ⟨f, fd, m, F.kp, b, kb, fun_deep (T := t_words) (k := 2) F sc_words ?_ (fun cdv A outer s H E hr => ?_) rd_wordsZ⟩
  · intro ds μ Q E h; first | (obtain ⟨rfl, _⟩ := h; rfl; done) | (obtain ⟨_, rfl, _⟩ := h; rfl; done) | (obtain ⟨_, _, rfl, _⟩ := h; rfl; done) | (obtain ⟨_, _, _, rfl, _⟩ := h; rfl; done) | (obtain ⟨_, _, _, _, rfl, _⟩ := h; rfl; done) | (obtain ⟨_, _, _, _, _, rfl, _⟩ := h; rfl; done) | (obtain ⟨_, _, _, _, _, _, rfl, _⟩ := h; rfl; done) | (obtain ⟨_, _, _, _, _, _, _, rfl, _⟩ := h; rfl; done) | (obtain ⟨_, _, _, _, _, _, _, _, rfl, _⟩ := h; rfl; done) | (obtain ⟨_, _, _, _, _, _, _, _, _, rfl, _⟩ := h; rfl; done) | (rcases h with ⟨_, rfl | rfl, _⟩ <;> rfl) | (rcases h with ⟨_, _, rfl | rfl, _⟩ <;> rfl) | (rcases h with h | h <;> first | (obtain ⟨rfl, _⟩ := h; rfl; done) | (obtain ⟨_, rfl, _⟩ := h; rfl; done) | (obtain ⟨_, _, rfl, _⟩ := h; rfl; done) | (obtain ⟨_, _, _, rfl, _⟩ := h; rfl; done) | (obtain ⟨_, _, _, _, rfl, _⟩ := h; rfl; done) | (obtain ⟨_, _, _, _, _, rfl, _⟩ := h; rfl; done) | (obtain ⟨_, _, _, _, _, _, rfl, _⟩ := h; rfl; done) | (obtain ⟨_, _, _, _, _, _, _, rfl, _⟩ := h; rfl; done) | (obtain ⟨_, _, _, _, _, _, _, _, rfl, _⟩ := h; rfl; done) | (obtain ⟨_, _, _, _, _, _, _, _, _, rfl, _⟩ := h; rfl; done) | (rcases h with ⟨_, rfl | rfl, _⟩ <;> rfl))
  · have tk := L2N.takes_of (X := cxOf (L2N.CX P w) P w K mg base ["_law_state", "_law_menus"] "_law_words" (defScope s_words) f cdv A outer s H E) rfl rfl rfl rfl
    have hp := passes_of (X := cxOf (L2N.CX P w) P w K mg base ["_law_state", "_law_menus"] "_law_words" (defScope s_words) f cdv A outer s H E) rfl
    exact dss_cons (ds_set (i := 1) (de_lstM (da_cons (de_lst (da_cons (de_str pe_str) (da_cons (de_str pe_str) (da_cons (de_str pe_str) (da_cons (de_str pe_str) (da_cons (de_str pe_str) (da_cons (de_str pe_str) (da_nil)))))))) (da_cons (de_lst (da_cons (de_str pe_str) (da_cons (de_str pe_str) (da_cons (de_str pe_str) (da_cons (de_str pe_str) (da_cons (de_str pe_str) (da_cons (de_str pe_str) (da_nil)))))))) (da_nil)))) sc_words.nd)
      (dss_cons (ds_drop (de_append (de_var (pv 1)) (de_lst (da_cons (de_str pe_str) (da_cons (de_str pe_str) (da_cons (de_str pe_str) (da_cons (de_str pe_str) (da_cons (de_str pe_str) (da_cons (de_str pe_str) (da_nil))))))))))
      (dss_cons (ds_drop (de_append (de_var (pv 1)) (de_lst (da_cons (de_str pe_str) (da_cons (de_str pe_str) (da_cons (de_str pe_str) (da_cons (de_str pe_str) (da_cons (de_str pe_str) (da_cons (de_str pe_str) (da_nil))))))))))
      (dss_one (ds_ret (de_fnH h_shuffled (hr.mono (by decide)) rfl tk (da_cons (de_var (pv 0)) (da_cons (de_sub_ (de_var (pv 1)) (de_fnH h_take (hr.mono (by decide)) rfl tk (da_cons (de_var (pv 0)) (da_cons (de_int pe_int) (da_nil))))) (da_nil))))))))
theorem sc_flipped : FnScope ["_law_grid_here", "_law_k", "_law_line"] ["_law_grid_here"] (defScope s_flipped) := ⟨rfl, rfl, rfl, by decide +kernel, rfl, by decide +kernel, by decide +kernel⟩
theorem has_flipped (T : Txt K C mg)  {f : Addr} {fd : FuncData} (F : Fun K "_law_flipped" "_law_flipped" s_flipped f fd) (m : mg "_law_flipped" = some (.ref f)) (b : Binds K fd ["_law_grid_here"] []) (kb : (fun _ => True) fd) :
    Has P w K mg base "_law_flipped" 1 ["_law_grid_here"] S_flipped (fun _ => True) := by
  refine ⟨f, fd, m, F.kp, b, kb, fun_deep (T := t_flipped) (k := 0) F sc_flipped ?_ (fun cdv A outer s H E hr => ?_) rd_flipped⟩
  · intro ds μ Q E h; first | (obtain ⟨_, _, _, _, rfl, _⟩ := h; rfl; done) | (obtain ⟨rfl, _⟩ := h; rfl; done) | (obtain ⟨_, rfl, _⟩ := h; rfl; done) | (obtain ⟨_, _, rfl, _⟩ := h; rfl; done) | (obtain ⟨_, _, _, rfl, _⟩ := h; rfl; done) | (obtain ⟨_, _, _, _, rfl, _⟩ := h; rfl; done) | (obtain ⟨_, _, _, _, _, rfl, _⟩ := h; rfl; done) | (obtain ⟨_, _, _, _, _, _, rfl, _⟩ := h; rfl; done) | (obtain ⟨_, _, _, _, _, _, _, rfl, _⟩ := h; rfl; done) | (obtain ⟨_, _, _, _, _, _, _, _, rfl, _⟩ := h; rfl; done) | (obtain ⟨_, _, _, _, _, _, _, _, _, rfl, _⟩ := h; rfl; done) | (rcases h with ⟨_, rfl | rfl, _⟩ <;> rfl) | (rcases h with ⟨_, _, rfl | rfl, _⟩ <;> rfl) | (rcases h with h | h <;> first | (obtain ⟨rfl, _⟩ := h; rfl; done) | (obtain ⟨_, rfl, _⟩ := h; rfl; done) | (obtain ⟨_, _, rfl, _⟩ := h; rfl; done) | (obtain ⟨_, _, _, rfl, _⟩ := h; rfl; done) | (obtain ⟨_, _, _, _, rfl, _⟩ := h; rfl; done) | (obtain ⟨_, _, _, _, _, rfl, _⟩ := h; rfl; done) | (obtain ⟨_, _, _, _, _, _, rfl, _⟩ := h; rfl; done) | (obtain ⟨_, _, _, _, _, _, _, rfl, _⟩ := h; rfl; done) | (obtain ⟨_, _, _, _, _, _, _, _, rfl, _⟩ := h; rfl; done) | (obtain ⟨_, _, _, _, _, _, _, _, _, rfl, _⟩ := h; rfl; done) | (rcases h with ⟨_, rfl | rfl, _⟩ <;> rfl))
  · have tk := L2N.takes_of (X := cxOf (L2N.CX P w) P w K mg base ["_law_grid_here", "_law_k", "_law_line"] "_law_flipped" (defScope s_flipped) f cdv A outer s H E) rfl rfl rfl rfl
    have hp := passes_of (X := cxOf (L2N.CX P w) P w K mg base ["_law_grid_here", "_law_k", "_law_line"] "_law_flipped" (defScope s_flipped) f cdv A outer s H E) rfl
    exact dss_one (ds_ret (de_lc (fz := false) (own := [("_law_k", 1)]) rfl sc_flipped.nd (di_range1 rfl T.m_range (de_len rfl T.m_len (de_sub_ (de_var (pv 0)) (de_int pe_int)))) (blkOk_by (N := ["_law_grid_here", "_law_k", "_law_line"]) (sc := defScope s_flipped) (own := [("_law_k", 1)]) (by decide +kernel)) (ct_name (by decide)) (fun _ _ _ _ _ => pg_name (i := 1) sc_flipped.nd rfl (by first | exact Or.inl rfl | exact Or.inr rfl)) (fun _ _ _ _ _ => dts_nil) (fun _ _ _ _ _ => de_lc (fz := false) (own := [("_law_line", 2)]) rfl sc_flipped.nd (di_any (de_var (pv 0))) (blkOk_by (own := [("_law_line", 2)]) (by rfl)) (ct_name (by decide)) (fun _ _ _ _ _ => pg_name (i := 2) sc_flipped.nd rfl (by first | exact Or.inl rfl | exact Or.inr rfl)) (fun _ _ _ _ _ => dts_nil) (fun _ _ _ _ _ => de_sub_ (de_var (pv 2)) (de_var (pv 1))))))
theorem sc_stacked : FnScope ["_law_one", "_law_other", "_law_lines", "_law_line", "_law_wide", "_law_name"] ["_law_one", "_law_other"] (defScope s_stacked) := ⟨rfl, rfl, rfl, by decide +kernel, rfl, by decide +kernel, by decide +kernel⟩
theorem has_stacked (T : Txt K C mg)  {f : Addr} {fd : FuncData} (F : Fun K "_law_stacked" "_law_stacked" s_stacked f fd) (m : mg "_law_stacked" = some (.ref f)) (b : Binds K fd ["_law_one", "_law_other"] []) (kb : (fun _ => True) fd) :
    Has P w K mg base "_law_stacked" 1 ["_law_one", "_law_other"] S_stacked (fun _ => True) := by
  refine ⟨f, fd, m, F.kp, b, kb, fun_deep (T := t_stacked) (k := 0) F sc_stacked ?_ (fun cdv A outer s H E hr => ?_) rd_stacked⟩
  · intro ds μ Q E h; first | (obtain ⟨_, _, _, _, _, rfl, _⟩ := h; rfl; done) | (obtain ⟨rfl, _⟩ := h; rfl; done) | (obtain ⟨_, rfl, _⟩ := h; rfl; done) | (obtain ⟨_, _, rfl, _⟩ := h; rfl; done) | (obtain ⟨_, _, _, rfl, _⟩ := h; rfl; done) | (obtain ⟨_, _, _, _, rfl, _⟩ := h; rfl; done) | (obtain ⟨_, _, _, _, _, rfl, _⟩ := h; rfl; done) | (obtain ⟨_, _, _, _, _, _, rfl, _⟩ := h; rfl; done) | (obtain ⟨_, _, _, _, _, _, _, rfl, _⟩ := h; rfl; done) | (obtain ⟨_, _, _, _, _, _, _, _, rfl, _⟩ := h; rfl; done) | (obtain ⟨_, _, _, _, _, _, _, _, _, rfl, _⟩ := h; rfl; done) | (rcases h with ⟨_, rfl | rfl, _⟩ <;> rfl) | (rcases h with ⟨_, _, rfl | rfl, _⟩ <;> rfl) | (rcases h with h | h <;> first | (obtain ⟨rfl, _⟩ := h; rfl; done) | (obtain ⟨_, rfl, _⟩ := h; rfl; done) | (obtain ⟨_, _, rfl, _⟩ := h; rfl; done) | (obtain ⟨_, _, _, rfl, _⟩ := h; rfl; done) | (obtain ⟨_, _, _, _, rfl, _⟩ := h; rfl; done) | (obtain ⟨_, _, _, _, _, rfl, _⟩ := h; rfl; done) | (obtain ⟨_, _, _, _, _, _, rfl, _⟩ := h; rfl; done) | (obtain ⟨_, _, _, _, _, _, _, rfl, _⟩ := h; rfl; done) | (obtain ⟨_, _, _, _, _, _, _, _, rfl, _⟩ := h; rfl; done) | (obtain ⟨_, _, _, _, _, _, _, _, _, rfl, _⟩ := h; rfl; done) | (rcases h with ⟨_, rfl | rfl, _⟩ <;> rfl))
  · have tk := L2N.takes_of (X := cxOf (L2N.CX P w) P w K mg base ["_law_one", "_law_other", "_law_lines", "_law_line", "_law_wide", "_law_name"] "_law_stacked" (defScope s_stacked) f cdv A outer s H E) rfl rfl rfl rfl
    have hp := passes_of (X := cxOf (L2N.CX P w) P w K mg base ["_law_one", "_law_other", "_law_lines", "_law_line", "_law_wide", "_law_name"] "_law_stacked" (defScope s_stacked) f cdv A outer s H E) rfl
    exact dss_cons (ds_set (i := 2) (de_lstM (da_nil)) sc_stacked.nd)
      (dss_cons (ds_for hp rfl (di_any (de_var (pv 0))) (dg_name (pg_name (i := 3) sc_stacked.nd rfl (by first | exact Or.inl rfl | exact Or.inr rfl))) (dss_cons (ds_set (i := 4) (de_lstM (da_nil)) sc_stacked.nd)
      (dss_cons (ds_for hp rfl (di_any (de_var (pv 3))) (dg_name (pg_name (i := 5) sc_stacked.nd rfl (by first | exact Or.inl rfl | exact Or.inr rfl))) (dss_one (ds_set (i := 4) (de_addM (de_var (pv 4)) (de_mul (de_lst (da_cons (de_var (pv 5)) (da_nil))) (de_len rfl T.m_len (de_sub_ (de_var (pv 1)) (de_int pe_int))))) sc_stacked.nd)))
      (dss_one (ds_drop (de_append (de_var (pv 2)) (de_var (pv 4))))))))
      (dss_cons (ds_for hp rfl (di_any (de_var (pv 1))) (dg_name (pg_name (i := 3) sc_stacked.nd rfl (by first | exact Or.inl rfl | exact Or.inr rfl))) (dss_one (ds_drop (de_append (de_var (pv 2)) (de_mulM (de_list true rfl T.m_list (de_var (pv 3))) (de_len rfl T.m_len (de_sub_ (de_var (pv 0)) (de_int pe_int))))))))
      (dss_one (ds_ret (de_var (pv 2))))))
theorem sc_tree_grid : FnScope ["_law_state", "_law_words_here", "_law_parts", "_law_turn", "_law_one", "_law_other", "_law_made", "_law_word"] ["_law_state", "_law_words_here"] (defScope s_tree_grid) := ⟨rfl, rfl, rfl, by decide +kernel, rfl, by decide +kernel, by decide +kernel⟩
theorem has_tree_grid (T : Txt K C mg) (h_flipped : Has P w K mg base "_law_flipped" 1 ["_law_grid_here"] S_flipped (fun _ => True)) (h_stacked : Has P w K mg base "_law_stacked" 1 ["_law_one", "_law_other"] S_stacked (fun _ => True)) (h_take : Has P w K mg base "_law_take" 1 ["_law_state", "_law_limit"] S_take (fun _ => True)) {f : Addr} {fd : FuncData} (F : Fun K "_law_tree_grid" "_law_tree_grid" s_tree_grid f fd) (m : mg "_law_tree_grid" = some (.ref f)) (b : Binds K fd ["_law_state", "_law_words_here"] []) (kb : (fun _ => True) fd) :
    Has P w K mg base "_law_tree_grid" 2 ["_law_state", "_law_words_here"] S_tree_grid (fun _ => True) := by
  refine ⟨f, fd, m, F.kp, b, kb, fun_deep (T := t_tree_grid) (k := 1) F sc_tree_grid ?_ (fun cdv A outer s H E hr => ?_) rd_tree_grid⟩
  · intro ds μ Q E h; first | (obtain ⟨_, _, _, rfl, _⟩ := h; rfl; done) | (obtain ⟨rfl, _⟩ := h; rfl; done) | (obtain ⟨_, rfl, _⟩ := h; rfl; done) | (obtain ⟨_, _, rfl, _⟩ := h; rfl; done) | (obtain ⟨_, _, _, rfl, _⟩ := h; rfl; done) | (obtain ⟨_, _, _, _, rfl, _⟩ := h; rfl; done) | (obtain ⟨_, _, _, _, _, rfl, _⟩ := h; rfl; done) | (obtain ⟨_, _, _, _, _, _, rfl, _⟩ := h; rfl; done) | (obtain ⟨_, _, _, _, _, _, _, rfl, _⟩ := h; rfl; done) | (obtain ⟨_, _, _, _, _, _, _, _, rfl, _⟩ := h; rfl; done) | (obtain ⟨_, _, _, _, _, _, _, _, _, rfl, _⟩ := h; rfl; done) | (rcases h with ⟨_, rfl | rfl, _⟩ <;> rfl) | (rcases h with ⟨_, _, rfl | rfl, _⟩ <;> rfl) | (rcases h with h | h <;> first | (obtain ⟨rfl, _⟩ := h; rfl; done) | (obtain ⟨_, rfl, _⟩ := h; rfl; done) | (obtain ⟨_, _, rfl, _⟩ := h; rfl; done) | (obtain ⟨_, _, _, rfl, _⟩ := h; rfl; done) | (obtain ⟨_, _, _, _, rfl, _⟩ := h; rfl; done) | (obtain ⟨_, _, _, _, _, rfl, _⟩ := h; rfl; done) | (obtain ⟨_, _, _, _, _, _, rfl, _⟩ := h; rfl; done) | (obtain ⟨_, _, _, _, _, _, _, rfl, _⟩ := h; rfl; done) | (obtain ⟨_, _, _, _, _, _, _, _, rfl, _⟩ := h; rfl; done) | (obtain ⟨_, _, _, _, _, _, _, _, _, rfl, _⟩ := h; rfl; done) | (rcases h with ⟨_, rfl | rfl, _⟩ <;> rfl))
  · have tk := L2N.takes_of (X := cxOf (L2N.CX P w) P w K mg base ["_law_state", "_law_words_here", "_law_parts", "_law_turn", "_law_one", "_law_other", "_law_made", "_law_word"] "_law_tree_grid" (defScope s_tree_grid) f cdv A outer s H E) rfl rfl rfl rfl
    have hp := passes_of (X := cxOf (L2N.CX P w) P w K mg base ["_law_state", "_law_words_here", "_law_parts", "_law_turn", "_law_one", "_law_other", "_law_made", "_law_word"] "_law_tree_grid" (defScope s_tree_grid) f cdv A outer s H E) rfl
    exact dss_cons (ds_setLc (i := 2) (fz := false) (own := [("_law_word", 7)]) rfl sc_tree_grid.nd rfl rfl (sw_true rfl rfl rfl (by decide +kernel)) (di_any (de_slice true (de_var (pv 1)) do_none (do_some (de_add (de_int pe_int) (de_fnH h_take (hr.mono (by decide)) rfl tk (da_cons (de_var (pv 0)) (da_cons (de_int pe_int) (da_nil)))))))) (blkOk_by (N := ["_law_state", "_law_words_here", "_law_parts", "_law_turn", "_law_one", "_law_other", "_law_made", "_law_word"]) (sc := defScope s_tree_grid) (own := [("_law_word", 7)]) (by decide +kernel)) (ct_name (by decide)) (fun _ _ _ _ _ => pg_name (i := 7) sc_tree_grid.nd rfl (by first | exact Or.inl rfl | exact Or.inr rfl)) (fun _ _ _ _ _ => dts_nil) (fun _ _ _ _ _ => de_lstM (da_cons (de_lstM (da_cons (de_var (pv 7)) (da_nil))) (da_nil))))
      (dss_cons (ds_for hp rfl (di_range1 rfl T.m_range (de_int pe_int)) (dg_name (pg_name (i := 3) sc_tree_grid.nd rfl (by first | exact Or.inl rfl | exact Or.inr rfl))) (dss_cons (ds_if (dt_eq hr.units (de_len rfl T.m_len (de_var (pv 2))) (de_int pe_int)) (dss_one (ds_ret (de_sub_ (de_var (pv 2)) (de_int pe_int)))) (dss_nil))
      (dss_cons (ds_set (i := 4) (de_popAt (de_var (pv 2)) (de_fnH h_take (hr.mono (by decide)) rfl tk (da_cons (de_var (pv 0)) (da_cons (de_len rfl T.m_len (de_var (pv 2))) (da_nil))))) sc_tree_grid.nd)
      (dss_cons (ds_set (i := 5) (de_popAt (de_var (pv 2)) (de_fnH h_take (hr.mono (by decide)) rfl tk (da_cons (de_var (pv 0)) (da_cons (de_len rfl T.m_len (de_var (pv 2))) (da_nil))))) sc_tree_grid.nd)
      (dss_cons (ds_set (i := 6) (de_fnH h_stacked (hr.mono (by decide)) rfl tk (da_cons (de_var (pv 4)) (da_cons (de_var (pv 5)) (da_nil)))) sc_tree_grid.nd)
      (dss_cons (ds_if (dt_eq hr.units (de_fnH h_take (hr.mono (by decide)) rfl tk (da_cons (de_var (pv 0)) (da_cons (de_int pe_int) (da_nil)))) (de_int pe_int)) (dss_one (ds_set (i := 6) (de_fnH h_flipped (hr.mono (by decide)) rfl tk (da_cons (de_fnH h_stacked (hr.mono (by decide)) rfl tk (da_cons (de_fnH h_flipped (hr.mono (by decide)) rfl tk (da_cons (de_var (pv 4)) (da_nil))) (da_cons (de_fnH h_flipped (hr.mono (by decide)) rfl tk (da_cons (de_var (pv 5)) (da_nil))) (da_nil)))) (da_nil))) sc_tree_grid.nd)) (dss_nil))
      (dss_cons (ds_if (PW.pt (pw_or' (dt_gt (de_len rfl T.m_len (de_var (pv 6))) (de_int pe_int)) (pw_or1 (dt_gt (de_len rfl T.m_len (de_sub_ (de_var (pv 6)) (de_int pe_int))) (de_int pe_int))))) (dss_one (ds_set (i := 6) (de_var (pv 4)) sc_tree_grid.nd)) (dss_nil))
      (dss_one (ds_drop (de_append (de_var (pv 2)) (de_var (pv 6))))))))))))
      (dss_one (ds_ret (de_sub_ (de_var (pv 2)) (de_int pe_int)))))
theorem sc_renamed : FnScope ["_law_state", "_law_grid_here", "_law_words_here", "_law_count", "_law_names_here", "_law_word", "_law_line", "_law_name"] ["_law_state", "_law_grid_here", "_law_words_here"] (defScope s_renamed) := ⟨rfl, rfl, rfl, by decide +kernel, rfl, by decide +kernel, by decide +kernel⟩
theorem has_renamed (T : Txt K C mg) (h_take : Has P w K mg base "_law_take" 1 ["_law_state", "_law_limit"] S_take (fun _ => True)) {f : Addr} {fd : FuncData} (F : Fun K "_law_renamed" "_law_renamed" s_renamed f fd) (m : mg "_law_renamed" = some (.ref f)) (b : Binds K fd ["_law_state", "_law_grid_here", "_law_words_here"] []) (kb : (fun _ => True) fd) :
    Has P w K mg base "_law_renamed" 2 ["_law_state", "_law_grid_here", "_law_words_here"] S_renamed (fun _ => True) := by
  refine ⟨f, fd, m, F.kp, b, kb, fun_deep (T := t_renamed) (k := 1) F sc_renamed ?_ (fun cdv A outer s H E hr => ?_) rd_renamed⟩
  · intro ds μ Q E h; first | (obtain ⟨_, _, _, _, _, rfl, _⟩ := h; rfl; done) | (obtain ⟨rfl, _⟩ := h; rfl; done) | (obtain ⟨_, rfl, _⟩ := h; rfl; done) | (obtain ⟨_, _, rfl, _⟩ := h; rfl; done) | (obtain ⟨_, _, _, rfl, _⟩ := h; rfl; done) | (obtain ⟨_, _, _, _, rfl, _⟩ := h; rfl; done) | (obtain ⟨_, _, _, _, _, rfl, _⟩ := h; rfl; done) | (obtain ⟨_, _, _, _, _, _, rfl, _⟩ := h; rfl; done) | (obtain ⟨_, _, _, _, _, _, _, rfl, _⟩ := h; rfl; done) | (obtain ⟨_, _, _, _, _, _, _, _, rfl, _⟩ := h; rfl; done) | (obtain ⟨_, _, _, _, _, _, _, _, _, rfl, _⟩ := h; rfl; done) | (rcases h with ⟨_, rfl | rfl, _⟩ <;> rfl) | (rcases h with ⟨_, _, rfl | rfl, _⟩ <;> rfl) | (rcases h with h | h <;> first | (obtain ⟨rfl, _⟩ := h; rfl; done) | (obtain ⟨_, rfl, _⟩ := h; rfl; done) | (obtain ⟨_, _, rfl, _⟩ := h; rfl; done) | (obtain ⟨_, _, _, rfl, _⟩ := h; rfl; done) | (obtain ⟨_, _, _, _, rfl, _⟩ := h; rfl; done) | (obtain ⟨_, _, _, _, _, rfl, _⟩ := h; rfl; done) | (obtain ⟨_, _, _, _, _, _, rfl, _⟩ := h; rfl; done) | (obtain ⟨_, _, _, _, _, _, _, rfl, _⟩ := h; rfl; done) | (obtain ⟨_, _, _, _, _, _, _, _, rfl, _⟩ := h; rfl; done) | (obtain ⟨_, _, _, _, _, _, _, _, _, rfl, _⟩ := h; rfl; done) | (rcases h with ⟨_, rfl | rfl, _⟩ <;> rfl))
  · have tk := L2N.takes_of (X := cxOf (L2N.CX P w) P w K mg base ["_law_state", "_law_grid_here", "_law_words_here", "_law_count", "_law_names_here", "_law_word", "_law_line", "_law_name"] "_law_renamed" (defScope s_renamed) f cdv A outer s H E) rfl rfl rfl rfl
    have hp := passes_of (X := cxOf (L2N.CX P w) P w K mg base ["_law_state", "_law_grid_here", "_law_words_here", "_law_count", "_law_names_here", "_law_word", "_law_line", "_law_name"] "_law_renamed" (defScope s_renamed) f cdv A outer s H E) rfl
    exact dss_cons (ds_set (i := 3) (de_add (de_int pe_int) (de_fnH h_take (hr.mono (by decide)) rfl tk (da_cons (de_var (pv 0)) (da_cons (de_int pe_int) (da_nil))))) sc_renamed.nd)
      (dss_cons (ds_set (i := 4) (de_dict0) sc_renamed.nd)
      (dss_cons (ds_for hp rfl (di_any (de_var (pv 2))) (dg_name (pg_name (i := 5) sc_renamed.nd rfl (by first | exact Or.inl rfl | exact Or.inr rfl))) (dss_one (ds_asg (de_sub_ (de_var (pv 2)) (de_fnH h_take (hr.mono (by decide)) rfl tk (da_cons (de_var (pv 0)) (da_cons (de_var (pv 3)) (da_nil))))) (dg_setD (pg_sub (de_var (pv 4)) (de_var (pv 5)) (set_dict (hu_of hr)))))))
      (dss_one (ds_ret (de_lc (fz := false) (own := [("_law_line", 6)]) rfl sc_renamed.nd (di_any (de_var (pv 1))) (blkOk_by (N := ["_law_state", "_law_grid_here", "_law_words_here", "_law_count", "_law_names_here", "_law_word", "_law_line", "_law_name"]) (sc := defScope s_renamed) (own := [("_law_line", 6)]) (by decide +kernel)) (ct_name (by decide)) (fun _ _ _ _ _ => pg_name (i := 6) sc_renamed.nd rfl (by first | exact Or.inl rfl | exact Or.inr rfl)) (fun _ _ _ _ _ => dts_nil) (fun _ _ _ _ _ => de_lc (fz := false) (own := [("_law_name", 7)]) rfl sc_renamed.nd (di_any (de_var (pv 6))) (blkOk_by (own := [("_law_name", 7)]) (by rfl)) (ct_name (by decide)) (fun _ _ _ _ _ => pg_name (i := 7) sc_renamed.nd rfl (by first | exact Or.inl rfl | exact Or.inr rfl)) (fun _ _ _ _ _ => dts_nil) (fun _ _ _ _ _ => de_dget (hu_of hr) (de_var (pv 4)) (de_var (pv 7)))))))))
theorem sc_smooth_grid : FnScope ["_law_state", "_law_words_here", "_law_grid_here", "_law_turn", "_law_plan", "_law_flip", "_law_line"] ["_law_state", "_law_words_here"] (defScope s_smooth_grid) := ⟨rfl, rfl, rfl, by decide +kernel, rfl, by decide +kernel, by decide +kernel⟩
theorem has_smooth_grid (T : Txt K C mg) (h_flipped : Has P w K mg base "_law_flipped" 1 ["_law_grid_here"] S_flipped (fun _ => True)) (h_take : Has P w K mg base "_law_take" 1 ["_law_state", "_law_limit"] S_take (fun _ => True)) {f : Addr} {fd : FuncData} (F : Fun K "_law_smooth_grid" "_law_smooth_grid" s_smooth_grid f fd) (m : mg "_law_smooth_grid" = some (.ref f)) (b : Binds K fd ["_law_state", "_law_words_here"] []) (kb : (fun _ => True) fd) :
    Has P w K mg base "_law_smooth_grid" 2 ["_law_state", "_law_words_here"] S_smooth_grid (fun _ => True) := by
  refine ⟨f, fd, m, F.kp, b, kb, fun_deep (T := t_smooth_grid) (k := 1) F sc_smooth_grid ?_ (fun cdv A outer s H E hr => ?_) rd_smooth_grid⟩
  · intro ds μ Q E h; first | (obtain ⟨_, _, _, rfl, _⟩ := h; rfl; done) | (obtain ⟨rfl, _⟩ := h; rfl; done) | (obtain ⟨_, rfl, _⟩ := h; rfl; done) | (obtain ⟨_, _, rfl, _⟩ := h; rfl; done) | (obtain ⟨_, _, _, rfl, _⟩ := h; rfl; done) | (obtain ⟨_, _, _, _, rfl, _⟩ := h; rfl; done) | (obtain ⟨_, _, _, _, _, rfl, _⟩ := h; rfl; done) | (obtain ⟨_, _, _, _, _, _, rfl, _⟩ := h; rfl; done) | (obtain ⟨_, _, _, _, _, _, _, rfl, _⟩ := h; rfl; done) | (obtain ⟨_, _, _, _, _, _, _, _, rfl, _⟩ := h; rfl; done) | (obtain ⟨_, _, _, _, _, _, _, _, _, rfl, _⟩ := h; rfl; done) | (rcases h with ⟨_, rfl | rfl, _⟩ <;> rfl) | (rcases h with ⟨_, _, rfl | rfl, _⟩ <;> rfl) | (rcases h with h | h <;> first | (obtain ⟨rfl, _⟩ := h; rfl; done) | (obtain ⟨_, rfl, _⟩ := h; rfl; done) | (obtain ⟨_, _, rfl, _⟩ := h; rfl; done) | (obtain ⟨_, _, _, rfl, _⟩ := h; rfl; done) | (obtain ⟨_, _, _, _, rfl, _⟩ := h; rfl; done) | (obtain ⟨_, _, _, _, _, rfl, _⟩ := h; rfl; done) | (obtain ⟨_, _, _, _, _, _, rfl, _⟩ := h; rfl; done) | (obtain ⟨_, _, _, _, _, _, _, rfl, _⟩ := h; rfl; done) | (obtain ⟨_, _, _, _, _, _, _, _, rfl, _⟩ := h; rfl; done) | (obtain ⟨_, _, _, _, _, _, _, _, _, rfl, _⟩ := h; rfl; done) | (rcases h with ⟨_, rfl | rfl, _⟩ <;> rfl))
  · have tk := L2N.takes_of (X := cxOf (L2N.CX P w) P w K mg base ["_law_state", "_law_words_here", "_law_grid_here", "_law_turn", "_law_plan", "_law_flip", "_law_line"] "_law_smooth_grid" (defScope s_smooth_grid) f cdv A outer s H E) rfl rfl rfl rfl
    have hp := passes_of (X := cxOf (L2N.CX P w) P w K mg base ["_law_state", "_law_words_here", "_law_grid_here", "_law_turn", "_law_plan", "_law_flip", "_law_line"] "_law_smooth_grid" (defScope s_smooth_grid) f cdv A outer s H E) rfl
    exact dss_cons (ds_set (i := 2) (de_lstM (da_cons (de_lstM (da_cons (de_sub_ (de_var (pv 1)) (de_int pe_int)) (da_nil))) (da_nil))) sc_smooth_grid.nd)
      (dss_cons (ds_for hp rfl (di_range1 rfl T.m_range (de_fnH h_take (hr.mono (by decide)) rfl tk (da_cons (de_var (pv 0)) (da_cons (de_int pe_int) (da_nil))))) (dg_name (pg_name (i := 3) sc_smooth_grid.nd rfl (by first | exact Or.inl rfl | exact Or.inr rfl))) (dss_cons (ds_set (i := 4) (de_fnH h_take (hr.mono (by decide)) rfl tk (da_cons (de_var (pv 0)) (da_cons (de_int pe_int) (da_nil)))) sc_smooth_grid.nd)
      (dss_cons (ds_set (i := 5) (de_eq hr.units (de_mod (de_var (pv 4)) (de_int pe_int)) (de_int pe_int)) sc_smooth_grid.nd)
      (dss_cons (ds_if (dt_truth (de_var (pv 5))) (dss_one (ds_set (i := 2) (de_fnH h_flipped (hr.mono (by decide)) rfl tk (da_cons (de_var (pv 2)) (da_nil))) sc_smooth_grid.nd)) (dss_nil))
      (dss_cons (ds_set (i := 6) (de_mulM (de_lst (da_cons (de_sub_ (de_var (pv 1)) (de_fnH h_take (hr.mono (by decide)) rfl tk (da_cons (de_var (pv 0)) (da_cons (de_int pe_int) (da_nil))))) (da_nil))) (de_len rfl T.m_len (de_sub_ (de_var (pv 2)) (de_int pe_int)))) sc_smooth_grid.nd)
      (dss_cons (ds_if (dt_gt (de_var (pv 4)) (de_int pe_int)) (dss_one (ds_set (i := 6) (de_list false rfl T.m_list (de_sub_ (de_var (pv 2)) (de_fnH h_take (hr.mono (by decide)) rfl tk (da_cons (de_var (pv 0)) (da_cons (de_len rfl T.m_len (de_var (pv 2))) (da_nil)))))) sc_smooth_grid.nd)) (dss_nil))
      (dss_cons (ds_if (dt_lt (de_len rfl T.m_len (de_var (pv 2))) (de_int pe_int)) (dss_one (ds_drop (de_insert (de_var (pv 2)) (de_fnH h_take (hr.mono (by decide)) rfl tk (da_cons (de_var (pv 0)) (da_cons (de_add (de_len rfl T.m_len (de_var (pv 2))) (de_int pe_int)) (da_nil)))) (de_var (pv 6))))) (dss_nil))
      (dss_one (ds_if (dt_truth (de_var (pv 5))) (dss_one (ds_set (i := 2) (de_fnH h_flipped (hr.mono (by decide)) rfl tk (da_cons (de_var (pv 2)) (da_nil))) sc_smooth_grid.nd)) (dss_nil))))))))))
      (dss_one (ds_ret (de_var (pv 2)))))
theorem sc_any_grid : FnScope ["_law_state", "_law_words_here", "_law_most", "_law_height", "_law_width", "_law_count", "_law_turn", "_law_k"] ["_law_state", "_law_words_here"] (defScope s_any_grid) := ⟨rfl, rfl, rfl, by decide +kernel, rfl, by decide +kernel, by decide +kernel⟩
theorem has_any_grid (T : Txt K C mg) (h_take : Has P w K mg base "_law_take" 1 ["_law_state", "_law_limit"] S_take (fun _ => True)) {f : Addr} {fd : FuncData} (F : Fun K "_law_any_grid" "_law_any_grid" s_any_grid f fd) (m : mg "_law_any_grid" = some (.ref f)) (b : Binds K fd ["_law_state", "_law_words_here"] []) (kb : (fun _ => True) fd) :
    Has P w K mg base "_law_any_grid" 2 ["_law_state", "_law_words_here"] S_any_grid (fun _ => True) := by
  refine ⟨f, fd, m, F.kp, b, kb, fun_deep (T := t_any_grid) (k := 1) F sc_any_grid ?_ (fun cdv A outer s H E hr => ?_) rd_any_grid⟩
  · intro ds μ Q E h; first | (obtain ⟨_, _, _, rfl, _⟩ := h; rfl; done) | (obtain ⟨rfl, _⟩ := h; rfl; done) | (obtain ⟨_, rfl, _⟩ := h; rfl; done) | (obtain ⟨_, _, rfl, _⟩ := h; rfl; done) | (obtain ⟨_, _, _, rfl, _⟩ := h; rfl; done) | (obtain ⟨_, _, _, _, rfl, _⟩ := h; rfl; done) | (obtain ⟨_, _, _, _, _, rfl, _⟩ := h; rfl; done) | (obtain ⟨_, _, _, _, _, _, rfl, _⟩ := h; rfl; done) | (obtain ⟨_, _, _, _, _, _, _, rfl, _⟩ := h; rfl; done) | (obtain ⟨_, _, _, _, _, _, _, _, rfl, _⟩ := h; rfl; done) | (obtain ⟨_, _, _, _, _, _, _, _, _, rfl, _⟩ := h; rfl; done) | (rcases h with ⟨_, rfl | rfl, _⟩ <;> rfl) | (rcases h with ⟨_, _, rfl | rfl, _⟩ <;> rfl) | (rcases h with h | h <;> first | (obtain ⟨rfl, _⟩ := h; rfl; done) | (obtain ⟨_, rfl, _⟩ := h; rfl; done) | (obtain ⟨_, _, rfl, _⟩ := h; rfl; done) | (obtain ⟨_, _, _, rfl, _⟩ := h; rfl; done) | (obtain ⟨_, _, _, _, rfl, _⟩ := h; rfl; done) | (obtain ⟨_, _, _, _, _, rfl, _⟩ := h; rfl; done) | (obtain ⟨_, _, _, _, _, _, rfl, _⟩ := h; rfl; done) | (obtain ⟨_, _, _, _, _, _, _, rfl, _⟩ := h; rfl; done) | (obtain ⟨_, _, _, _, _, _, _, _, rfl, _⟩ := h; rfl; done) | (obtain ⟨_, _, _, _, _, _, _, _, _, rfl, _⟩ := h; rfl; done) | (rcases h with ⟨_, rfl | rfl, _⟩ <;> rfl))
  · have tk := L2N.takes_of (X := cxOf (L2N.CX P w) P w K mg base ["_law_state", "_law_words_here", "_law_most", "_law_height", "_law_width", "_law_count", "_law_turn", "_law_k"] "_law_any_grid" (defScope s_any_grid) f cdv A outer s H E) rfl rfl rfl rfl
    have hp := passes_of (X := cxOf (L2N.CX P w) P w K mg base ["_law_state", "_law_words_here", "_law_most", "_law_height", "_law_width", "_law_count", "_law_turn", "_law_k"] "_law_any_grid" (defScope s_any_grid) f cdv A outer s H E) rfl
    exact dss_cons (ds_set (i := 2) (de_sub_ (de_lst (da_cons (de_int pe_int) (da_cons (de_int pe_int) (da_cons (de_int pe_int) (da_cons (de_int pe_int) (da_nil)))))) (de_fnH h_take (hr.mono (by decide)) rfl tk (da_cons (de_var (pv 0)) (da_cons (de_int pe_int) (da_nil))))) sc_any_grid.nd)
      (dss_cons (ds_set (i := 3) (de_add (de_int pe_int) (de_fnH h_take (hr.mono (by decide)) rfl tk (da_cons (de_var (pv 0)) (da_cons (de_var (pv 2)) (da_nil))))) sc_any_grid.nd)
      (dss_cons (ds_set (i := 4) (de_add (de_int pe_int) (de_fnH h_take (hr.mono (by decide)) rfl tk (da_cons (de_var (pv 0)) (da_cons (de_var (pv 2)) (da_nil))))) sc_any_grid.nd)
      (dss_cons (ds_set (i := 5) (de_add (de_int pe_int) (de_fnH h_take (hr.mono (by decide)) rfl tk (da_cons (de_var (pv 0)) (da_cons (de_int pe_int) (da_nil))))) sc_any_grid.nd)
      (dss_one (ds_ret (de_lc (fz := false) (own := [("_law_turn", 6)]) rfl sc_any_grid.nd (di_range1 rfl T.m_range (de_var (pv 3))) (blkOk_by (N := ["_law_state", "_law_words_here", "_law_most", "_law_height", "_law_width", "_law_count", "_law_turn", "_law_k"]) (sc := defScope s_any_grid) (own := [("_law_turn", 6)]) (by decide +kernel)) (ct_name (by decide)) (fun _ _ _ _ _ => pg_name (i := 6) sc_any_grid.nd rfl (by first | exact Or.inl rfl | exact Or.inr rfl)) (fun _ _ _ _ _ => dts_nil) (fun _ _ _ _ _ => de_lc (fz := false) (own := [("_law_k", 7)]) rfl sc_any_grid.nd (di_range1 rfl T.m_range (de_var (pv 4))) (blkOk_by (own := [("_law_k", 7)]) (by rfl)) (ct_name (by decide)) (fun _ _ _ _ _ => pg_name (i := 7) sc_any_grid.nd rfl (by first | exact Or.inl rfl | exact Or.inr rfl)) (fun _ _ _ _ _ => dts_nil) (fun _ _ _ _ _ => de_sub_ (de_var (pv 1)) (de_fnH h_take (hr.mono (by decide)) rfl takes0N (da_cons (de_var (pv 0)) (da_cons (de_var (pv 5)) (da_nil))))))))))))
theorem sc_grid : FnScope ["_law_state", "_law_words_here", "_law_plan", "_law_grid_here", "_law_line"] ["_law_state", "_law_words_here"] (defScope s_grid) := ⟨rfl, rfl, rfl, by decide +kernel, rfl, by decide +kernel, by decide +kernel⟩
theorem has_grid (T : Txt K C mg) (h_any_grid : Has P w K mg base "_law_any_grid" 2 ["_law_state", "_law_words_here"] S_any_grid (fun _ => True)) (h_renamed : Has P w K mg base "_law_renamed" 2 ["_law_state", "_law_grid_here", "_law_words_here"] S_renamed (fun _ => True)) (h_smooth_grid : Has P w K mg base "_law_smooth_grid" 2 ["_law_state", "_law_words_here"] S_smooth_grid (fun _ => True)) (h_take : Has P w K mg base "_law_take" 1 ["_law_state", "_law_limit"] S_take (fun _ => True)) (h_tree_grid : Has P w K mg base "_law_tree_grid" 2 ["_law_state", "_law_words_here"] S_tree_grid (fun _ => True)) {f : Addr} {fd : FuncData} (F : Fun K "_law_grid" "_law_grid" s_grid f fd) (m : mg "_law_grid" = some (.ref f)) (b : Binds K fd ["_law_state", "_law_words_here"] []) (kb : (fun _ => True) fd) :
    Has P w K mg base "_law_grid" 3 ["_law_state", "_law_words_here"] S_grid (fun _ => True) := by
  refine ⟨f, fd, m, F.kp, b, kb, fun_deep (T := t_grid) (k := 2) F sc_grid ?_ (fun cdv A outer s H E hr => ?_) rd_grid⟩
  · intro ds μ Q E h; first | (obtain ⟨_, _, _, rfl, _⟩ := h; rfl; done) | (obtain ⟨rfl, _⟩ := h; rfl; done) | (obtain ⟨_, rfl, _⟩ := h; rfl; done) | (obtain ⟨_, _, rfl, _⟩ := h; rfl; done) | (obtain ⟨_, _, _, rfl, _⟩ := h; rfl; done) | (obtain ⟨_, _, _, _, rfl, _⟩ := h; rfl; done) | (obtain ⟨_, _, _, _, _, rfl, _⟩ := h; rfl; done) | (obtain ⟨_, _, _, _, _, _, rfl, _⟩ := h; rfl; done) | (obtain ⟨_, _, _, _, _, _, _, rfl, _⟩ := h; rfl; done) | (obtain ⟨_, _, _, _, _, _, _, _, rfl, _⟩ := h; rfl; done) | (obtain ⟨_, _, _, _, _, _, _, _, _, rfl, _⟩ := h; rfl; done) | (rcases h with ⟨_, rfl | rfl, _⟩ <;> rfl) | (rcases h with ⟨_, _, rfl | rfl, _⟩ <;> rfl) | (rcases h with h | h <;> first | (obtain ⟨rfl, _⟩ := h; rfl; done) | (obtain ⟨_, rfl, _⟩ := h; rfl; done) | (obtain ⟨_, _, rfl, _⟩ := h; rfl; done) | (obtain ⟨_, _, _, rfl, _⟩ := h; rfl; done) | (obtain ⟨_, _, _, _, rfl, _⟩ := h; rfl; done) | (obtain ⟨_, _, _, _, _, rfl, _⟩ := h; rfl; done) | (obtain ⟨_, _, _, _, _, _, rfl, _⟩ := h; rfl; done) | (obtain ⟨_, _, _, _, _, _, _, rfl, _⟩ := h; rfl; done) | (obtain ⟨_, _, _, _, _, _, _, _, rfl, _⟩ := h; rfl; done) | (obtain ⟨_, _, _, _, _, _, _, _, _, rfl, _⟩ := h; rfl; done) | (rcases h with ⟨_, rfl | rfl, _⟩ <;> rfl))
  · have tk := L2N.takes_of (X := cxOf (L2N.CX P w) P w K mg base ["_law_state", "_law_words_here", "_law_plan", "_law_grid_here", "_law_line"] "_law_grid" (defScope s_grid) f cdv A outer s H E) rfl rfl rfl rfl
    have hp := passes_of (X := cxOf (L2N.CX P w) P w K mg base ["_law_state", "_law_words_here", "_law_plan", "_law_grid_here", "_law_line"] "_law_grid" (defScope s_grid) f cdv A outer s H E) rfl
    exact dss_cons (ds_set (i := 2) (de_fnH h_take (hr.mono (by decide)) rfl tk (da_cons (de_var (pv 0)) (da_cons (de_int pe_int) (da_nil)))) sc_grid.nd)
      (dss_cons (ds_set (i := 3) (de_fnH h_any_grid (hr.mono (by decide)) rfl tk (da_cons (de_var (pv 0)) (da_cons (de_var (pv 1)) (da_nil)))) sc_grid.nd)
      (dss_cons (ds_if (dt_in (de_var (pv 2)) (de_lst (da_cons (de_int pe_int) (da_cons (de_int pe_int) (da_nil))))) (dss_one (ds_set (i := 3) (de_fnH h_tree_grid (hr.mono (by decide)) rfl tk (da_cons (de_var (pv 0)) (da_cons (de_var (pv 1)) (da_nil)))) sc_grid.nd)) (dss_nil))
      (dss_cons (ds_if (dt_eq hr.units (de_var (pv 2)) (de_int pe_int)) (dss_one (ds_set (i := 3) (de_fnH h_renamed (hr.mono (by decide)) rfl tk (da_cons (de_var (pv 0)) (da_cons (de_fnH h_tree_grid (hr.mono (by decide)) rfl tk (da_cons (de_var (pv 0)) (da_cons (de_var (pv 1)) (da_nil)))) (da_cons (de_var (pv 1)) (da_nil))))) sc_grid.nd)) (dss_nil))
      (dss_cons (ds_if (dt_in (de_var (pv 2)) (de_lst (da_cons (de_int pe_int) (da_cons (de_int pe_int) (da_nil))))) (dss_one (ds_set (i := 3) (de_fnH h_smooth_grid (hr.mono (by decide)) rfl tk (da_cons (de_var (pv 0)) (da_cons (de_var (pv 1)) (da_nil)))) sc_grid.nd)) (dss_nil))
      (dss_cons (ds_if (dt_in (de_var (pv 2)) (de_lst (da_cons (de_int pe_int) (da_cons (de_int pe_int) (da_cons (de_int pe_int) (da_nil)))))) (dss_cons (ds_set (i := 4) (de_sub_ (de_var (pv 3)) (de_fnH h_take (hr.mono (by decide)) rfl tk (da_cons (de_var (pv 0)) (da_cons (de_len rfl T.m_len (de_var (pv 3))) (da_nil))))) sc_grid.nd)
      (dss_one (ds_asg (de_sub_ (de_var (pv 1)) (de_fnH h_take (hr.mono (by decide)) rfl tk (da_cons (de_var (pv 0)) (da_cons (de_int pe_int) (da_nil))))) (dg_setI (de_var (pv 4)) (de_fnH h_take (hr.mono (by decide)) rfl tk (da_cons (de_var (pv 0)) (da_cons (de_len rfl T.m_len (de_var (pv 4))) (da_nil)))) (pg_sub (de_var (pv 4)) (de_fnH h_take (hr.mono (by decide)) rfl tk (da_cons (de_var (pv 0)) (da_cons (de_len rfl T.m_len (de_var (pv 4))) (da_nil)))) set_list))))) (dss_nil))
      (dss_one (ds_ret (de_var (pv 3)))))))))
theorem sc_l_names : FnScope ["_law_grid_here", "_law_found", "_law_line", "_law_name"] ["_law_grid_here"] (defScope s_l_names) := ⟨rfl, rfl, rfl, by decide +kernel, rfl, by decide +kernel, by decide +kernel⟩
theorem has_l_names (T : Txt K C mg)  {f : Addr} {fd : FuncData} (F : Fun K "_law_names" "_law_names" s_l_names f fd) (m : mg "_law_names" = some (.ref f)) (b : Binds K fd ["_law_grid_here"] []) (kb : (fun _ => True) fd) :
    Has P w K mg base "_law_names" 1 ["_law_grid_here"] S_l_names (fun _ => True) := by
  refine ⟨f, fd, m, F.kp, b, kb, fun_deep (T := t_l_names) (k := 0) F sc_l_names ?_ (fun cdv A outer s H E hr => ?_) rd_l_names⟩
  · intro ds μ Q E h; first | (obtain ⟨_, rfl, _⟩ := h; rfl; done) | (obtain ⟨rfl, _⟩ := h; rfl; done) | (obtain ⟨_, rfl, _⟩ := h; rfl; done) | (obtain ⟨_, _, rfl, _⟩ := h; rfl; done) | (obtain ⟨_, _, _, rfl, _⟩ := h; rfl; done) | (obtain ⟨_, _, _, _, rfl, _⟩ := h; rfl; done) | (obtain ⟨_, _, _, _, _, rfl, _⟩ := h; rfl; done) | (obtain ⟨_, _, _, _, _, _, rfl, _⟩ := h; rfl; done) | (obtain ⟨_, _, _, _, _, _, _, rfl, _⟩ := h; rfl; done) | (obtain ⟨_, _, _, _, _, _, _, _, rfl, _⟩ := h; rfl; done) | (obtain ⟨_, _, _, _, _, _, _, _, _, rfl, _⟩ := h; rfl; done) | (rcases h with ⟨_, rfl | rfl, _⟩ <;> rfl) | (rcases h with ⟨_, _, rfl | rfl, _⟩ <;> rfl) | (rcases h with h | h <;> first | (obtain ⟨rfl, _⟩ := h; rfl; done) | (obtain ⟨_, rfl, _⟩ := h; rfl; done) | (obtain ⟨_, _, rfl, _⟩ := h; rfl; done) | (obtain ⟨_, _, _, rfl, _⟩ := h; rfl; done) | (obtain ⟨_, _, _, _, rfl, _⟩ := h; rfl; done) | (obtain ⟨_, _, _, _, _, rfl, _⟩ := h; rfl; done) | (obtain ⟨_, _, _, _, _, _, rfl, _⟩ := h; rfl; done) | (obtain ⟨_, _, _, _, _, _, _, rfl, _⟩ := h; rfl; done) | (obtain ⟨_, _, _, _, _, _, _, _, rfl, _⟩ := h; rfl; done) | (obtain ⟨_, _, _, _, _, _, _, _, _, rfl, _⟩ := h; rfl; done) | (rcases h with ⟨_, rfl | rfl, _⟩ <;> rfl))
  · have tk := L2N.takes_of (X := cxOf (L2N.CX P w) P w K mg base ["_law_grid_here", "_law_found", "_law_line", "_law_name"] "_law_names" (defScope s_l_names) f cdv A outer s H E) rfl rfl rfl rfl
    have hp := passes_of (X := cxOf (L2N.CX P w) P w K mg base ["_law_grid_here", "_law_found", "_law_line", "_law_name"] "_law_names" (defScope s_l_names) f cdv A outer s H E) rfl
    exact dss_cons (ds_set (i := 1) (de_lstM (da_nil)) sc_l_names.nd)
      (dss_cons (ds_for hp rfl (di_any (de_var (pv 0))) (dg_name (pg_name (i := 2) sc_l_names.nd rfl (by first | exact Or.inl rfl | exact Or.inr rfl))) (dss_one (ds_for hp rfl (di_any (de_var (pv 2))) (dg_name (pg_name (i := 3) sc_l_names.nd rfl (by first | exact Or.inl rfl | exact Or.inr rfl))) (dss_one (ds_if (dt_notin (de_var (pv 3)) (de_var (pv 1))) (dss_one (ds_drop (de_append (de_var (pv 1)) (de_var (pv 3))))) (dss_nil))))))
      (dss_one (ds_ret (de_tuple rfl T.m_tuple (de_sorted true hr.units rfl T.m_sorted (de_var (pv 1)))))))
theorem sc_l_likes : FnScope ["_law_state", "_law_names_here", "_law_most", "_law_told_here", "_law_name"] ["_law_state", "_law_names_here"] (defScope s_l_likes) := ⟨rfl, rfl, rfl, by decide +kernel, rfl, by decide +kernel, by decide +kernel⟩
theorem has_l_likes (T : Txt K C mg) (h_shuffled : Has P w K mg base "_law_shuffled" 2 ["_law_state", "_law_items"] S_shuffled (fun _ => True)) (h_take : Has P w K mg base "_law_take" 1 ["_law_state", "_law_limit"] S_take (fun _ => True)) {f : Addr} {fd : FuncData} (F : Fun K "_law_likes" "_law_likes" s_l_likes f fd) (m : mg "_law_likes" = some (.ref f)) (b : Binds K fd ["_law_state", "_law_names_here"] []) (kb : (fun _ => True) fd) :
    Has P w K mg base "_law_likes" 3 ["_law_state", "_law_names_here"] S_l_likes (fun _ => True) := by
  refine ⟨f, fd, m, F.kp, b, kb, fun_deep (T := t_l_likes) (k := 2) F sc_l_likes ?_ (fun cdv A outer s H E hr => ?_) rd_l_likes⟩
  · intro ds μ Q E h; first | (obtain ⟨rfl, _⟩ := h; rfl; done) | (obtain ⟨_, rfl, _⟩ := h; rfl; done) | (obtain ⟨_, _, rfl, _⟩ := h; rfl; done) | (obtain ⟨_, _, _, rfl, _⟩ := h; rfl; done) | (obtain ⟨_, _, _, _, rfl, _⟩ := h; rfl; done) | (obtain ⟨_, _, _, _, _, rfl, _⟩ := h; rfl; done) | (obtain ⟨_, _, _, _, _, _, rfl, _⟩ := h; rfl; done) | (obtain ⟨_, _, _, _, _, _, _, rfl, _⟩ := h; rfl; done) | (obtain ⟨_, _, _, _, _, _, _, _, rfl, _⟩ := h; rfl; done) | (obtain ⟨_, _, _, _, _, _, _, _, _, rfl, _⟩ := h; rfl; done) | (rcases h with ⟨_, rfl | rfl, _⟩ <;> rfl) | (rcases h with ⟨_, _, rfl | rfl, _⟩ <;> rfl) | (rcases h with h | h <;> first | (obtain ⟨rfl, _⟩ := h; rfl; done) | (obtain ⟨_, rfl, _⟩ := h; rfl; done) | (obtain ⟨_, _, rfl, _⟩ := h; rfl; done) | (obtain ⟨_, _, _, rfl, _⟩ := h; rfl; done) | (obtain ⟨_, _, _, _, rfl, _⟩ := h; rfl; done) | (obtain ⟨_, _, _, _, _, rfl, _⟩ := h; rfl; done) | (obtain ⟨_, _, _, _, _, _, rfl, _⟩ := h; rfl; done) | (obtain ⟨_, _, _, _, _, _, _, rfl, _⟩ := h; rfl; done) | (obtain ⟨_, _, _, _, _, _, _, _, rfl, _⟩ := h; rfl; done) | (obtain ⟨_, _, _, _, _, _, _, _, _, rfl, _⟩ := h; rfl; done) | (rcases h with ⟨_, rfl | rfl, _⟩ <;> rfl))
  · have tk := L2N.takes_of (X := cxOf (L2N.CX P w) P w K mg base ["_law_state", "_law_names_here", "_law_most", "_law_told_here", "_law_name"] "_law_likes" (defScope s_l_likes) f cdv A outer s H E) rfl rfl rfl rfl
    have hp := passes_of (X := cxOf (L2N.CX P w) P w K mg base ["_law_state", "_law_names_here", "_law_most", "_law_told_here", "_law_name"] "_law_likes" (defScope s_l_likes) f cdv A outer s H E) rfl
    exact dss_cons (ds_set (i := 2) (de_sub_ (de_lst (da_cons (de_int pe_int) (da_cons (de_int pe_int) (da_cons (de_int pe_int) (da_cons (de_pow (de_int pe_int) (de_int pe_int)) (da_nil)))))) (de_fnH h_take (hr.mono (by decide)) rfl tk (da_cons (de_var (pv 0)) (da_cons (de_int pe_int) (da_nil))))) sc_l_likes.nd)
      (dss_cons (ds_set (i := 3) (de_dict0) sc_l_likes.nd)
      (dss_cons (ds_for hp rfl (di_any (de_fnH h_shuffled (hr.mono (by decide)) rfl tk (da_cons (de_var (pv 0)) (da_cons (de_list true rfl T.m_list (de_var (pv 1))) (da_nil))))) (dg_name (pg_name (i := 4) sc_l_likes.nd rfl (by first | exact Or.inl rfl | exact Or.inr rfl))) (dss_one (ds_asg (de_sub (de_fnH h_take (hr.mono (by decide)) rfl tk (da_cons (de_var (pv 0)) (da_cons (de_var (pv 2)) (da_nil)))) (de_fdiv (de_var (pv 2)) (de_int pe_int))) (dg_setD (pg_sub (de_var (pv 3)) (de_var (pv 4)) (set_dict (hu_of hr)))))))
      (dss_one (ds_ret (de_var (pv 3))))))
theorem sc_l_wishes : FnScope ["_law_state", "_law_grid_here", "_law_words_here", "_law_likes_here", "_law_turn", "_law_names_here", "_law_plan", "_law_word"] ["_law_state", "_law_grid_here", "_law_words_here"] (defScope s_l_wishes) := ⟨rfl, rfl, rfl, by decide +kernel, rfl, by decide +kernel, by decide +kernel⟩
theorem has_l_wishes (T : Txt K C mg) (h_l_likes : Has P w K mg base "_law_likes" 3 ["_law_state", "_law_names_here"] S_l_likes (fun _ => True)) (h_l_names : Has P w K mg base "_law_names" 1 ["_law_grid_here"] S_l_names (fun _ => True)) (h_take : Has P w K mg base "_law_take" 1 ["_law_state", "_law_limit"] S_take (fun _ => True)) {f : Addr} {fd : FuncData} (F : Fun K "_law_wishes" "_law_wishes" s_l_wishes f fd) (m : mg "_law_wishes" = some (.ref f)) (b : Binds K fd ["_law_state", "_law_grid_here", "_law_words_here"] []) (kb : (fun _ => True) fd) :
    Has P w K mg base "_law_wishes" 4 ["_law_state", "_law_grid_here", "_law_words_here"] S_l_wishes (fun _ => True) := by
  refine ⟨f, fd, m, F.kp, b, kb, fun_deep (T := t_l_wishes) (k := 3) F sc_l_wishes ?_ (fun cdv A outer s H E hr => ?_) rd_l_wishes⟩
  · intro ds μ Q E h; first | (obtain ⟨rfl, _⟩ := h; rfl; done) | (obtain ⟨_, rfl, _⟩ := h; rfl; done) | (obtain ⟨_, _, rfl, _⟩ := h; rfl; done) | (obtain ⟨_, _, _, rfl, _⟩ := h; rfl; done) | (obtain ⟨_, _, _, _, rfl, _⟩ := h; rfl; done) | (obtain ⟨_, _, _, _, _, rfl, _⟩ := h; rfl; done) | (obtain ⟨_, _, _, _, _, _, rfl, _⟩ := h; rfl; done) | (obtain ⟨_, _, _, _, _, _, _, rfl, _⟩ := h; rfl; done) | (obtain ⟨_, _, _, _, _, _, _, _, rfl, _⟩ := h; rfl; done) | (obtain ⟨_, _, _, _, _, _, _, _, _, rfl, _⟩ := h; rfl; done) | (rcases h with ⟨_, rfl | rfl, _⟩ <;> rfl) | (rcases h with ⟨_, _, rfl | rfl, _⟩ <;> rfl) | (rcases h with h | h <;> first | (obtain ⟨rfl, _⟩ := h; rfl; done) | (obtain ⟨_, rfl, _⟩ := h; rfl; done) | (obtain ⟨_, _, rfl, _⟩ := h; rfl; done) | (obtain ⟨_, _, _, rfl, _⟩ := h; rfl; done) | (obtain ⟨_, _, _, _, rfl, _⟩ := h; rfl; done) | (obtain ⟨_, _, _, _, _, rfl, _⟩ := h; rfl; done) | (obtain ⟨_, _, _, _, _, _, rfl, _⟩ := h; rfl; done) | (obtain ⟨_, _, _, _, _, _, _, rfl, _⟩ := h; rfl; done) | (obtain ⟨_, _, _, _, _, _, _, _, rfl, _⟩ := h; rfl; done) | (obtain ⟨_, _, _, _, _, _, _, _, _, rfl, _⟩ := h; rfl; done) | (rcases h with ⟨_, rfl | rfl, _⟩ <;> rfl))
  · have tk := L2N.takes_of (X := cxOf (L2N.CX P w) P w K mg base ["_law_state", "_law_grid_here", "_law_words_here", "_law_likes_here", "_law_turn", "_law_names_here", "_law_plan", "_law_word"] "_law_wishes" (defScope s_l_wishes) f cdv A outer s H E) rfl rfl rfl rfl
    have hp := passes_of (X := cxOf (L2N.CX P w) P w K mg base ["_law_state", "_law_grid_here", "_law_words_here", "_law_likes_here", "_law_turn", "_law_names_here", "_law_plan", "_law_word"] "_law_wishes" (defScope s_l_wishes) f cdv A outer s H E) rfl
    exact dss_cons (ds_set (i := 3) (de_lstM (da_nil)) sc_l_wishes.nd)
      (dss_cons (ds_for hp rfl (di_range1 rfl T.m_range (de_int pe_int)) (dg_name (pg_name (i := 4) sc_l_wishes.nd rfl (by first | exact Or.inl rfl | exact Or.inr rfl))) (dss_cons (ds_set (i := 5) (de_list false rfl T.m_list (de_fnH h_l_names (hr.mono (by decide)) rfl tk (da_cons (de_var (pv 1)) (da_nil)))) sc_l_wishes.nd)
      (dss_cons (ds_set (i := 6) (de_fnH h_take (hr.mono (by decide)) rfl tk (da_cons (de_var (pv 0)) (da_cons (de_int pe_int) (da_nil)))) sc_l_wishes.nd)
      (dss_cons (ds_if (PW.pt (pw_and' (dt_eq hr.units (de_var (pv 6)) (de_int pe_int)) (pw_and1 (dt_lt (de_len rfl T.m_len (de_var (pv 5))) (de_int pe_int))))) (dss_one (ds_drop (de_append (de_var (pv 5)) (de_sub_ (de_lc (fz := true) (own := [("_law_word", 7)]) rfl sc_l_wishes.nd (di_any (de_var (pv 2))) (blkOk_by (N := ["_law_state", "_law_grid_here", "_law_words_here", "_law_likes_here", "_law_turn", "_law_names_here", "_law_plan", "_law_word"]) (sc := defScope s_l_wishes) (own := [("_law_word", 7)]) (by decide +kernel)) (ct_name (by decide)) (fun _ _ _ _ _ => pg_name (i := 7) sc_l_wishes.nd rfl (by first | exact Or.inl rfl | exact Or.inr rfl)) (fun _ _ _ _ _ => dts_one (dt_notin (de_var (pv 7)) (de_var (pv 5)))) (fun _ _ _ _ _ => de_var (pv 7))) (de_int pe_int))))) (dss_nil))
      (dss_cons (ds_if (PW.pt (pw_and' (dt_eq hr.units (de_var (pv 6)) (de_int pe_int)) (pw_and1 (dt_gt (de_len rfl T.m_len (de_var (pv 5))) (de_int pe_int))))) (dss_one (ds_drop (de_popAt (de_var (pv 5)) (de_fnH h_take (hr.mono (by decide)) rfl tk (da_cons (de_var (pv 0)) (da_cons (de_len rfl T.m_len (de_var (pv 5))) (da_nil))))))) (dss_nil))
      (dss_cons (ds_if (dt_eq hr.units (de_var (pv 6)) (de_int pe_int)) (dss_one (ds_asg (de_str pe_str) (dg_setI (de_var (pv 5)) (de_fnH h_take (hr.mono (by decide)) rfl tk (da_cons (de_var (pv 0)) (da_cons (de_len rfl T.m_len (de_var (pv 5))) (da_nil)))) (pg_sub (de_var (pv 5)) (de_fnH h_take (hr.mono (by decide)) rfl tk (da_cons (de_var (pv 0)) (da_cons (de_len rfl T.m_len (de_var (pv 5))) (da_nil)))) set_list)))) (dss_nil))
      (dss_one (ds_drop (de_append (de_var (pv 3)) (de_fnH h_l_likes (hr.mono (by decide)) rfl tk (da_cons (de_var (pv 0)) (da_cons (de_var (pv 5)) (da_nil)))))))))))))
      (dss_one (ds_ret (de_var (pv 3)))))
theorem sc_l_unlike : FnScope ["_law_grid_here", "_law_likes_here", "_law_told_here"] ["_law_grid_here", "_law_likes_here"] (defScope s_l_unlike) := ⟨rfl, rfl, rfl, by decide +kernel, rfl, by decide +kernel, by decide +kernel⟩
theorem has_l_unlike (T : Txt K C mg) (h_l_names : Has P w K mg base "_law_names" 1 ["_law_grid_here"] S_l_names (fun _ => True)) {f : Addr} {fd : FuncData} (F : Fun K "_law_unlike" "_law_unlike" s_l_unlike f fd) (m : mg "_law_unlike" = some (.ref f)) (b : Binds K fd ["_law_grid_here", "_law_likes_here"] []) (kb : (fun _ => True) fd) :
    Has P w K mg base "_law_unlike" 2 ["_law_grid_here", "_law_likes_here"] S_l_unlike (fun _ => True) := by
  refine ⟨f, fd, m, F.kp, b, kb, fun_deep (T := t_l_unlike) (k := 1) F sc_l_unlike ?_ (fun cdv A outer s H E hr => ?_) rd_l_unlike⟩
  · intro ds μ Q E h; first | (obtain ⟨rfl, _⟩ := h; rfl; done) | (obtain ⟨_, rfl, _⟩ := h; rfl; done) | (obtain ⟨_, _, rfl, _⟩ := h; rfl; done) | (obtain ⟨_, _, _, rfl, _⟩ := h; rfl; done) | (obtain ⟨_, _, _, _, rfl, _⟩ := h; rfl; done) | (obtain ⟨_, _, _, _, _, rfl, _⟩ := h; rfl; done) | (obtain ⟨_, _, _, _, _, _, rfl, _⟩ := h; rfl; done) | (obtain ⟨_, _, _, _, _, _, _, rfl, _⟩ := h; rfl; done) | (obtain ⟨_, _, _, _, _, _, _, _, rfl, _⟩ := h; rfl; done) | (obtain ⟨_, _, _, _, _, _, _, _, _, rfl, _⟩ := h; rfl; done) | (rcases h with ⟨_, rfl | rfl, _⟩ <;> rfl) | (rcases h with ⟨_, _, rfl | rfl, _⟩ <;> rfl) | (rcases h with h | h <;> first | (obtain ⟨rfl, _⟩ := h; rfl; done) | (obtain ⟨_, rfl, _⟩ := h; rfl; done) | (obtain ⟨_, _, rfl, _⟩ := h; rfl; done) | (obtain ⟨_, _, _, rfl, _⟩ := h; rfl; done) | (obtain ⟨_, _, _, _, rfl, _⟩ := h; rfl; done) | (obtain ⟨_, _, _, _, _, rfl, _⟩ := h; rfl; done) | (obtain ⟨_, _, _, _, _, _, rfl, _⟩ := h; rfl; done) | (obtain ⟨_, _, _, _, _, _, _, rfl, _⟩ := h; rfl; done) | (obtain ⟨_, _, _, _, _, _, _, _, rfl, _⟩ := h; rfl; done) | (obtain ⟨_, _, _, _, _, _, _, _, _, rfl, _⟩ := h; rfl; done) | (rcases h with ⟨_, rfl | rfl, _⟩ <;> rfl))
  · have tk := L2N.takes_of (X := cxOf (L2N.CX P w) P w K mg base ["_law_grid_here", "_law_likes_here", "_law_told_here"] "_law_unlike" (defScope s_l_unlike) f cdv A outer s H E) rfl rfl rfl rfl
    have hp := passes_of (X := cxOf (L2N.CX P w) P w K mg base ["_law_grid_here", "_law_likes_here", "_law_told_here"] "_law_unlike" (defScope s_l_unlike) f cdv A outer s H E) rfl
    exact dss_cons (ds_for hp rfl (di_any (de_var (pv 1))) (dg_name (pg_name (i := 2) sc_l_unlike.nd rfl (by first | exact Or.inl rfl | exact Or.inr rfl))) (dss_one (ds_if (dt_ne hr.units (de_tuple rfl T.m_tuple (de_sortedD true rfl rfl T.m_sorted (de_var (pv 2)))) (de_fnH h_l_names (hr.mono (by decide)) rfl tk (da_cons (de_var (pv 0)) (da_nil)))) (dss_one (ds_ret (de_tup (da_cons (de_str pe_str) (da_cons (de_tuple rfl T.m_tuple (de_sortedD true rfl rfl T.m_sorted (de_var (pv 2)))) (da_nil)))))) (dss_nil))))
      (dss_one (ds_ret (de_non pe_non)))
theorem sc_l_cells : FnScope ["_law_grid_here", "_law_found", "_law_r", "_law_c"] ["_law_grid_here"] (defScope s_l_cells) := ⟨rfl, rfl, rfl, by decide +kernel, rfl, by decide +kernel, by decide +kernel⟩
theorem has_l_cells (T : Txt K C mg)  {f : Addr} {fd : FuncData} (F : Fun K "_law_cells" "_law_cells" s_l_cells f fd) (m : mg "_law_cells" = some (.ref f)) (b : Binds K fd ["_law_grid_here"] []) (kb : (fun _ => True) fd) :
    Has P w K mg base "_law_cells" 1 ["_law_grid_here"] S_l_cells (fun _ => True) := by
  refine ⟨f, fd, m, F.kp, b, kb, fun_deep (T := t_l_cells) (k := 0) F sc_l_cells ?_ (fun cdv A outer s H E hr => ?_) rd_l_cells⟩
  · intro ds μ Q E h; first | (obtain ⟨rfl, _⟩ := h; rfl; done) | (obtain ⟨_, rfl, _⟩ := h; rfl; done) | (obtain ⟨_, _, rfl, _⟩ := h; rfl; done) | (obtain ⟨_, _, _, rfl, _⟩ := h; rfl; done) | (obtain ⟨_, _, _, _, rfl, _⟩ := h; rfl; done) | (obtain ⟨_, _, _, _, _, rfl, _⟩ := h; rfl; done) | (obtain ⟨_, _, _, _, _, _, rfl, _⟩ := h; rfl; done) | (obtain ⟨_, _, _, _, _, _, _, rfl, _⟩ := h; rfl; done) | (obtain ⟨_, _, _, _, _, _, _, _, rfl, _⟩ := h; rfl; done) | (obtain ⟨_, _, _, _, _, _, _, _, _, rfl, _⟩ := h; rfl; done) | (rcases h with ⟨_, rfl | rfl, _⟩ <;> rfl) | (rcases h with ⟨_, _, rfl | rfl, _⟩ <;> rfl) | (rcases h with h | h <;> first | (obtain ⟨rfl, _⟩ := h; rfl; done) | (obtain ⟨_, rfl, _⟩ := h; rfl; done) | (obtain ⟨_, _, rfl, _⟩ := h; rfl; done) | (obtain ⟨_, _, _, rfl, _⟩ := h; rfl; done) | (obtain ⟨_, _, _, _, rfl, _⟩ := h; rfl; done) | (obtain ⟨_, _, _, _, _, rfl, _⟩ := h; rfl; done) | (obtain ⟨_, _, _, _, _, _, rfl, _⟩ := h; rfl; done) | (obtain ⟨_, _, _, _, _, _, _, rfl, _⟩ := h; rfl; done) | (obtain ⟨_, _, _, _, _, _, _, _, rfl, _⟩ := h; rfl; done) | (obtain ⟨_, _, _, _, _, _, _, _, _, rfl, _⟩ := h; rfl; done) | (rcases h with ⟨_, rfl | rfl, _⟩ <;> rfl))
  · have tk := L2N.takes_of (X := cxOf (L2N.CX P w) P w K mg base ["_law_grid_here", "_law_found", "_law_r", "_law_c"] "_law_cells" (defScope s_l_cells) f cdv A outer s H E) rfl rfl rfl rfl
    have hp := passes_of (X := cxOf (L2N.CX P w) P w K mg base ["_law_grid_here", "_law_found", "_law_r", "_law_c"] "_law_cells" (defScope s_l_cells) f cdv A outer s H E) rfl
    exact dss_cons (ds_set (i := 1) (de_lst (da_nil)) sc_l_cells.nd)
      (dss_cons (ds_for hp rfl (di_range1 rfl T.m_range (de_len rfl T.m_len (de_var (pv 0)))) (dg_name (pg_name (i := 2) sc_l_cells.nd rfl (by first | exact Or.inl rfl | exact Or.inr rfl))) (dss_one (ds_set (i := 1) (de_add (de_var (pv 1)) (de_lc (fz := true) (own := [("_law_c", 3)]) rfl sc_l_cells.nd (di_range1 rfl T.m_range (de_len rfl T.m_len (de_sub_ (de_var (pv 0)) (de_int pe_int)))) (blkOk_by (N := ["_law_grid_here", "_law_found", "_law_r", "_law_c"]) (sc := defScope s_l_cells) (own := [("_law_c", 3)]) (by decide +kernel)) (ct_name (by decide)) (fun _ _ _ _ _ => pg_name (i := 3) sc_l_cells.nd rfl (by first | exact Or.inl rfl | exact Or.inr rfl)) (fun _ _ _ _ _ => dts_nil) (fun _ _ _ _ _ => de_tup (da_cons (de_var (pv 2)) (da_cons (de_var (pv 3)) (da_nil)))))) sc_l_cells.nd)))
      (dss_one (ds_ret (de_var (pv 1)))))
theorem sc_l_better : FnScope ["_law_grid_here", "_law_likes_here", "_law_spot", "_law_found", "_law_here", "_law_r", "_law_c", "_law_there"] ["_law_grid_here", "_law_likes_here", "_law_spot"] (defScope s_l_better) := ⟨rfl, rfl, rfl, by decide +kernel, rfl, by decide +kernel, by decide +kernel⟩
theorem has_l_better (T : Txt K C mg)  {f : Addr} {fd : FuncData} (F : Fun K "_law_better" "_law_better" s_l_better f fd) (m : mg "_law_better" = some (.ref f)) (b : Binds K fd ["_law_grid_here", "_law_likes_here", "_law_spot"] []) (kb : (fun _ => True) fd) :
    Has P w K mg base "_law_better" 1 ["_law_grid_here", "_law_likes_here", "_law_spot"] S_l_better (fun _ => True) := by
  refine ⟨f, fd, m, F.kp, b, kb, fun_deep (T := t_l_better) (k := 0) F sc_l_better ?_ (fun cdv A outer s H E hr => ?_) rd_l_better⟩
  · intro ds μ Q E h; first | (obtain ⟨rfl, _⟩ := h; rfl; done) | (obtain ⟨_, rfl, _⟩ := h; rfl; done) | (obtain ⟨_, _, rfl, _⟩ := h; rfl; done) | (obtain ⟨_, _, _, rfl, _⟩ := h; rfl; done) | (obtain ⟨_, _, _, _, rfl, _⟩ := h; rfl; done) | (obtain ⟨_, _, _, _, _, rfl, _⟩ := h; rfl; done) | (obtain ⟨_, _, _, _, _, _, rfl, _⟩ := h; rfl; done) | (obtain ⟨_, _, _, _, _, _, _, rfl, _⟩ := h; rfl; done) | (obtain ⟨_, _, _, _, _, _, _, _, rfl, _⟩ := h; rfl; done) | (obtain ⟨_, _, _, _, _, _, _, _, _, rfl, _⟩ := h; rfl; done) | (rcases h with ⟨_, rfl | rfl, _⟩ <;> rfl) | (rcases h with ⟨_, _, rfl | rfl, _⟩ <;> rfl) | (rcases h with h | h <;> first | (obtain ⟨rfl, _⟩ := h; rfl; done) | (obtain ⟨_, rfl, _⟩ := h; rfl; done) | (obtain ⟨_, _, rfl, _⟩ := h; rfl; done) | (obtain ⟨_, _, _, rfl, _⟩ := h; rfl; done) | (obtain ⟨_, _, _, _, rfl, _⟩ := h; rfl; done) | (obtain ⟨_, _, _, _, _, rfl, _⟩ := h; rfl; done) | (obtain ⟨_, _, _, _, _, _, rfl, _⟩ := h; rfl; done) | (obtain ⟨_, _, _, _, _, _, _, rfl, _⟩ := h; rfl; done) | (obtain ⟨_, _, _, _, _, _, _, _, rfl, _⟩ := h; rfl; done) | (obtain ⟨_, _, _, _, _, _, _, _, _, rfl, _⟩ := h; rfl; done) | (rcases h with ⟨_, rfl | rfl, _⟩ <;> rfl))
  · have tk := L2N.takes_of (X := cxOf (L2N.CX P w) P w K mg base ["_law_grid_here", "_law_likes_here", "_law_spot", "_law_found", "_law_here", "_law_r", "_law_c", "_law_there"] "_law_better" (defScope s_l_better) f cdv A outer s H E) rfl rfl rfl rfl
    have hp := passes_of (X := cxOf (L2N.CX P w) P w K mg base ["_law_grid_here", "_law_likes_here", "_law_spot", "_law_found", "_law_here", "_law_r", "_law_c", "_law_there"] "_law_better" (defScope s_l_better) f cdv A outer s H E) rfl
    exact dss_cons (ds_set (i := 3) (de_lstM (da_nil)) sc_l_better.nd)
      (dss_cons (ds_set (i := 4) (de_sub_ (de_sub_ (de_var (pv 0)) (de_sub_ (de_var (pv 2)) (de_int pe_int))) (de_sub_ (de_var (pv 2)) (de_int pe_int))) sc_l_better.nd)
      (dss_cons (ds_for hp rfl (di_range1 rfl T.m_range (de_len rfl T.m_len (de_var (pv 0)))) (dg_name (pg_name (i := 5) sc_l_better.nd rfl (by first | exact Or.inl rfl | exact Or.inr rfl))) (dss_one (ds_for hp rfl (di_range1 rfl T.m_range (de_len rfl T.m_len (de_sub_ (de_var (pv 0)) (de_int pe_int)))) (dg_name (pg_name (i := 6) sc_l_better.nd rfl (by first | exact Or.inl rfl | exact Or.inr rfl))) (dss_cons (ds_set (i := 7) (de_sub_ (de_sub_ (de_var (pv 0)) (de_var (pv 5))) (de_var (pv 6))) sc_l_better.nd)
      (dss_cons (ds_if (PW.pt (pw_and' (dt_ne hr.units (de_var (pv 5)) (de_sub_ (de_var (pv 2)) (de_int pe_int))) (pw_and' (dt_eq hr.units (de_var (pv 6)) (de_sub_ (de_var (pv 2)) (de_int pe_int))) (pw_and1 (dt_gt (de_dget (hu_of hr) (de_sub_ (de_var (pv 1)) (de_int pe_int)) (de_var (pv 7))) (de_dget (hu_of hr) (de_sub_ (de_var (pv 1)) (de_int pe_int)) (de_var (pv 4)))))))) (dss_one (ds_drop (de_append (de_var (pv 3)) (de_tup (da_cons (de_var (pv 5)) (da_cons (de_var (pv 6)) (da_nil))))))) (dss_nil))
      (dss_one (ds_if (PW.pt (pw_and' (dt_eq hr.units (de_var (pv 5)) (de_sub_ (de_var (pv 2)) (de_int pe_int))) (pw_and' (dt_ne hr.units (de_var (pv 6)) (de_sub_ (de_var (pv 2)) (de_int pe_int))) (pw_and1 (dt_gt (de_dget (hu_of hr) (de_sub_ (de_var (pv 1)) (de_int pe_int)) (de_var (pv 7))) (de_dget (hu_of hr) (de_sub_ (de_var (pv 1)) (de_int pe_int)) (de_var (pv 4)))))))) (dss_one (ds_drop (de_append (de_var (pv 3)) (de_tup (da_cons (de_var (pv 5)) (da_cons (de_var (pv 6)) (da_nil))))))) (dss_nil))))))))
      (dss_one (ds_ret (de_var (pv 3))))))
theorem sc_l_longest : FnScope ["_law_grid_here", "_law_likes_here", "_law_ends", "_law_after", "_law_spot", "_law_steps", "_law_found", "_law_later"] ["_law_grid_here", "_law_likes_here"] (defScope s_l_longest) := ⟨rfl, rfl, rfl, by decide +kernel, rfl, by decide +kernel, by decide +kernel⟩
theorem has_l_longest (T : Txt K C mg) (h_l_better : Has P w K mg base "_law_better" 1 ["_law_grid_here", "_law_likes_here", "_law_spot"] S_l_better (fun _ => True)) (h_l_cells : Has P w K mg base "_law_cells" 1 ["_law_grid_here"] S_l_cells (fun _ => True)) {f : Addr} {fd : FuncData} (F : Fun K "_law_longest" "_law_longest" s_l_longest f fd) (m : mg "_law_longest" = some (.ref f)) (b : Binds K fd ["_law_grid_here", "_law_likes_here"] []) (kb : (fun _ => True) fd) :
    Has P w K mg base "_law_longest" 2 ["_law_grid_here", "_law_likes_here"] S_l_longest (fun _ => True) := by
  refine ⟨f, fd, m, F.kp, b, kb, fun_deep (T := t_l_longest) (k := 1) F sc_l_longest ?_ (fun cdv A outer s H E hr => ?_) rd_l_longest⟩
  · intro ds μ Q E h; first | (obtain ⟨rfl, _⟩ := h; rfl; done) | (obtain ⟨_, rfl, _⟩ := h; rfl; done) | (obtain ⟨_, _, rfl, _⟩ := h; rfl; done) | (obtain ⟨_, _, _, rfl, _⟩ := h; rfl; done) | (obtain ⟨_, _, _, _, rfl, _⟩ := h; rfl; done) | (obtain ⟨_, _, _, _, _, rfl, _⟩ := h; rfl; done) | (obtain ⟨_, _, _, _, _, _, rfl, _⟩ := h; rfl; done) | (obtain ⟨_, _, _, _, _, _, _, rfl, _⟩ := h; rfl; done) | (obtain ⟨_, _, _, _, _, _, _, _, rfl, _⟩ := h; rfl; done) | (obtain ⟨_, _, _, _, _, _, _, _, _, rfl, _⟩ := h; rfl; done) | (rcases h with ⟨_, rfl | rfl, _⟩ <;> rfl) | (rcases h with ⟨_, _, rfl | rfl, _⟩ <;> rfl) | (rcases h with h | h <;> first | (obtain ⟨rfl, _⟩ := h; rfl; done) | (obtain ⟨_, rfl, _⟩ := h; rfl; done) | (obtain ⟨_, _, rfl, _⟩ := h; rfl; done) | (obtain ⟨_, _, _, rfl, _⟩ := h; rfl; done) | (obtain ⟨_, _, _, _, rfl, _⟩ := h; rfl; done) | (obtain ⟨_, _, _, _, _, rfl, _⟩ := h; rfl; done) | (obtain ⟨_, _, _, _, _, _, rfl, _⟩ := h; rfl; done) | (obtain ⟨_, _, _, _, _, _, _, rfl, _⟩ := h; rfl; done) | (obtain ⟨_, _, _, _, _, _, _, _, rfl, _⟩ := h; rfl; done) | (obtain ⟨_, _, _, _, _, _, _, _, _, rfl, _⟩ := h; rfl; done) | (rcases h with ⟨_, rfl | rfl, _⟩ <;> rfl))
  · have tk := L2N.takes_of (X := cxOf (L2N.CX P w) P w K mg base ["_law_grid_here", "_law_likes_here", "_law_ends", "_law_after", "_law_spot", "_law_steps", "_law_found", "_law_later"] "_law_longest" (defScope s_l_longest) f cdv A outer s H E) rfl rfl rfl rfl
    have hp := passes_of (X := cxOf (L2N.CX P w) P w K mg base ["_law_grid_here", "_law_likes_here", "_law_ends", "_law_after", "_law_spot", "_law_steps", "_law_found", "_law_later"] "_law_longest" (defScope s_l_longest) f cdv A outer s H E) rfl
    exact dss_cons (ds_set (i := 2) (de_fnH h_l_cells (hr.mono (by decide)) rfl tk (da_cons (de_var (pv 0)) (da_nil))) sc_l_longest.nd)
      (dss_cons (ds_set (i := 3) (de_dictT0) sc_l_longest.nd)
      (dss_cons (ds_for hp rfl (di_any (de_var (pv 2))) (dg_name (pg_name (i := 4) sc_l_longest.nd rfl (by first | exact Or.inl rfl | exact Or.inr rfl))) (dss_one (ds_asg (de_fnH h_l_better (hr.mono (by decide)) rfl tk (da_cons (de_var (pv 0)) (da_cons (de_var (pv 1)) (da_cons (de_var (pv 4)) (da_nil))))) (dg_setT (pg_sub (de_var (pv 3)) (de_var (pv 4)) (set_dict (hu_of hr)))))))
      (dss_cons (ds_for hp rfl (di_range1 rfl T.m_range (de_lenT rfl T.m_len (de_var (pv 3)))) (dg_name (pg_name (i := 5) sc_l_longest.nd rfl (by first | exact Or.inl rfl | exact Or.inr rfl))) (dss_cons (ds_set (i := 6) (de_dictT0) sc_l_longest.nd)
      (dss_cons (ds_for hp rfl (di_any (de_var (pv 2))) (dg_name (pg_name (i := 4) sc_l_longest.nd rfl (by first | exact Or.inl rfl | exact Or.inr rfl))) (dss_one (ds_for hp rfl (di_any (de_tget (hu_of hr) (de_var (pv 3)) (de_var (pv 4)))) (dg_name (pg_name (i := 7) sc_l_longest.nd rfl (by first | exact Or.inl rfl | exact Or.inr rfl))) (dss_one (ds_asg (de_int pe_int) (dg_setT (pg_sub (de_var (pv 6)) (de_var (pv 7)) (set_dict (hu_of hr)))))))))
      (dss_cons (ds_if (dt_eqT0 (lt64 hr.units) (de_var (pv 6)) (de_dict0z)) (dss_one (ds_ret (de_var (pv 5)))) (dss_nil))
      (dss_one (ds_set (i := 2) (de_sortT rfl rfl T.m_sorted (de_var (pv 6))) sc_l_longest.nd))))))
      (dss_one (ds_ret (de_non pe_non))))))
theorem sc_l_told41 : FnScope ["_law_way", "_law_desk", "_law_pair", "e"] ["_law_way", "_law_desk", "_law_pair"] (defScope s_l_told41) := ⟨rfl, rfl, rfl, by decide +kernel, rfl, by decide +kernel, by decide +kernel⟩
theorem has_l_told41 (T : Txt K C mg) (h_longest : Has P w K mg base "longest" 7 ["table", "row_wishes", "column_wishes"] (S_longest C) (kb_longest K)) {f : Addr} {fd : FuncData} (F : Fun K "_law_told" "_law_told" s_l_told41 f fd) (m : mg "_law_told" = some (.ref f)) (b : Binds K fd ["_law_way", "_law_desk", "_law_pair"] []) (kb : (fun _ => True) fd) :
    Has P w K mg base "_law_told" 8 ["_law_way", "_law_desk", "_law_pair"] (S_l_told41 C) (fun _ => True) := by
  refine ⟨f, fd, m, F.kp, b, kb, fun_deep (T := (t_l_told41 C)) (k := 7) F sc_l_told41 ?_ (fun cdv A outer s H E hr => ?_) (rd_l_told41 (C := C))⟩
  · intro ds μ Q E h; first | (obtain ⟨rfl, _⟩ := h; rfl; done) | (obtain ⟨_, rfl, _⟩ := h; rfl; done) | (obtain ⟨_, _, rfl, _⟩ := h; rfl; done) | (obtain ⟨_, _, _, rfl, _⟩ := h; rfl; done) | (obtain ⟨_, _, _, _, rfl, _⟩ := h; rfl; done) | (obtain ⟨_, _, _, _, _, rfl, _⟩ := h; rfl; done) | (obtain ⟨_, _, _, _, _, _, rfl, _⟩ := h; rfl; done) | (obtain ⟨_, _, _, _, _, _, _, rfl, _⟩ := h; rfl; done) | (obtain ⟨_, _, _, _, _, _, _, _, rfl, _⟩ := h; rfl; done) | (obtain ⟨_, _, _, _, _, _, _, _, _, rfl, _⟩ := h; rfl; done) | (rcases h with ⟨_, rfl | rfl, _⟩ <;> rfl) | (rcases h with ⟨_, _, rfl | rfl, _⟩ <;> rfl) | (rcases h with h | h <;> first | (obtain ⟨rfl, _⟩ := h; rfl; done) | (obtain ⟨_, rfl, _⟩ := h; rfl; done) | (obtain ⟨_, _, rfl, _⟩ := h; rfl; done) | (obtain ⟨_, _, _, rfl, _⟩ := h; rfl; done) | (obtain ⟨_, _, _, _, rfl, _⟩ := h; rfl; done) | (obtain ⟨_, _, _, _, _, rfl, _⟩ := h; rfl; done) | (obtain ⟨_, _, _, _, _, _, rfl, _⟩ := h; rfl; done) | (obtain ⟨_, _, _, _, _, _, _, rfl, _⟩ := h; rfl; done) | (obtain ⟨_, _, _, _, _, _, _, _, rfl, _⟩ := h; rfl; done) | (obtain ⟨_, _, _, _, _, _, _, _, _, rfl, _⟩ := h; rfl; done) | (rcases h with ⟨_, rfl | rfl, _⟩ <;> rfl))
  · have tk := L2N.takes_of (X := cxOf (L2N.CX P w) P w K mg base ["_law_way", "_law_desk", "_law_pair", "e"] "_law_told" (defScope s_l_told41) f cdv A outer s H E) rfl rfl rfl rfl
    have hp := passes_of (X := cxOf (L2N.CX P w) P w K mg base ["_law_way", "_law_desk", "_law_pair", "e"] "_law_told" (defScope s_l_told41) f cdv A outer s H E) rfl
    exact dss_one (ds_try T.em rfl rfl sc_l_told41.nd tk (fun W pn xe tk hp => dss_cons (ds_if (dt_eq hr.units (de_var (pv 0)) (de_int pe_int)) (dss_one (ds_ret (de_tup (da_cons (de_str pe_str) (da_cons (de_fnH h_longest (hr.mono (by decide)) rfl tk (da_cons (de_var (pv 1)) (da_cons (de_sub_ (de_var (pv 2)) (de_int pe_int)) (da_cons (de_sub_ (de_var (pv 2)) (de_int pe_int)) (da_nil))))) (da_nil)))))) (dss_nil))
      (dss_one (ds_ret (de_tup (da_cons (de_str pe_str) (da_cons (de_kw0H h_longest (hr.mono (by decide)) rfl kb_longest_column_wishes_table_row_wishes tk (dk_cons (de_sub_ (de_var (pv 2)) (de_int pe_int)) (dk_cons (de_var (pv 1)) (dk_cons (de_sub_ (de_var (pv 2)) (de_int pe_int)) (dk_nil))))) (da_nil))))))) (dms_named (i := 3) rfl T.g_UnlikeOutcomes (fun a oe dd l pn hz hv => dss_one (ds_ret (de_tup (da_cons (de_str pe_str) (da_cons (de_xf T.x_UnlikeOutcomes_names hz hv (de_var (pv 3))) (da_nil)))))) dms_nil))
theorem sc_law : FnScope ["_law_script", "_law_state", "_law_words_here", "_law_grids", "_law_desks", "_law_turn", "_law_likes_here", "_law_pair", "_law_k", "_law_due", "_law_told_here", "_law_grid_here"] ["_law_script"] (defScope s_law) := ⟨rfl, rfl, rfl, by decide +kernel, rfl, by decide +kernel, by decide +kernel⟩
theorem ok_law (T : Txt K C mg) (h_T_init : HasI P w K mg base C.T "Table" 5 ["self", "lines"] (S_T_init C)) (h_W_init : HasI P w K mg base C.W "Wishes" 4 ["self", "amounts"] (S_W_init C)) (h_grid : Has P w K mg base "_law_grid" 3 ["_law_state", "_law_words_here"] S_grid (fun _ => True)) (h_l_longest : Has P w K mg base "_law_longest" 2 ["_law_grid_here", "_law_likes_here"] S_l_longest (fun _ => True)) (h_start : Has P w K mg base "_law_start" 1 ["_law_script"] S_start2 (fun _ => True)) (h_l_told41 : Has P w K mg base "_law_told" 8 ["_law_way", "_law_desk", "_law_pair"] (S_l_told41 C) (fun _ => True)) (h_l_unlike : Has P w K mg base "_law_unlike" 2 ["_law_grid_here", "_law_likes_here"] S_l_unlike (fun _ => True)) (h_l_wishes : Has P w K mg base "_law_wishes" 4 ["_law_state", "_law_grid_here", "_law_words_here"] S_l_wishes (fun _ => True)) (h_words : Has P w K mg base "_law_words" 3 ["_law_state"] S_wordsZ (fun _ => True)) {f : Addr} {fd : FuncData} (F : Fun K "law" "law" s_law f fd) : FnOk P w K mg base (L2N.CX P w) 9 f fd ["_law_script"] (spOf K S_law) := by
  refine fun_deep (T := (t_law C)) (k := 8) F sc_law ?_ (fun cdv A outer s H E hr => ?_) (rd_law (C := C))
  · intro ds μ Q E h; first | (obtain ⟨rfl, _⟩ := h; rfl; done) | (obtain ⟨_, rfl, _⟩ := h; rfl; done) | (obtain ⟨_, _, rfl, _⟩ := h; rfl; done) | (obtain ⟨_, _, _, rfl, _⟩ := h; rfl; done) | (obtain ⟨_, _, _, _, rfl, _⟩ := h; rfl; done) | (obtain ⟨_, _, _, _, _, rfl, _⟩ := h; rfl; done) | (obtain ⟨_, _, _, _, _, _, rfl, _⟩ := h; rfl; done) | (obtain ⟨_, _, _, _, _, _, _, rfl, _⟩ := h; rfl; done) | (obtain ⟨_, _, _, _, _, _, _, _, rfl, _⟩ := h; rfl; done) | (obtain ⟨_, _, _, _, _, _, _, _, _, rfl, _⟩ := h; rfl; done) | (rcases h with ⟨_, rfl | rfl, _⟩ <;> rfl) | (rcases h with ⟨_, _, rfl | rfl, _⟩ <;> rfl) | (rcases h with h | h <;> first | (obtain ⟨rfl, _⟩ := h; rfl; done) | (obtain ⟨_, rfl, _⟩ := h; rfl; done) | (obtain ⟨_, _, rfl, _⟩ := h; rfl; done) | (obtain ⟨_, _, _, rfl, _⟩ := h; rfl; done) | (obtain ⟨_, _, _, _, rfl, _⟩ := h; rfl; done) | (obtain ⟨_, _, _, _, _, rfl, _⟩ := h; rfl; done) | (obtain ⟨_, _, _, _, _, _, rfl, _⟩ := h; rfl; done) | (obtain ⟨_, _, _, _, _, _, _, rfl, _⟩ := h; rfl; done) | (obtain ⟨_, _, _, _, _, _, _, _, rfl, _⟩ := h; rfl; done) | (obtain ⟨_, _, _, _, _, _, _, _, _, rfl, _⟩ := h; rfl; done) | (rcases h with ⟨_, rfl | rfl, _⟩ <;> rfl))
  · have tk := L2N.takes_of (X := cxOf (L2N.CX P w) P w K mg base ["_law_script", "_law_state", "_law_words_here", "_law_grids", "_law_desks", "_law_turn", "_law_likes_here", "_law_pair", "_law_k", "_law_due", "_law_told_here", "_law_grid_here"] "law" (defScope s_law) f cdv A outer s H E) rfl rfl rfl rfl
    have hp := passes_of (X := cxOf (L2N.CX P w) P w K mg base ["_law_script", "_law_state", "_law_words_here", "_law_grids", "_law_desks", "_law_turn", "_law_likes_here", "_law_pair", "_law_k", "_law_due", "_law_told_here", "_law_grid_here"] "law" (defScope s_law) f cdv A outer s H E) rfl
    exact dss_cons (ds_set (i := 1) (de_fnH h_start (hr.mono (by decide)) rfl tk (da_cons (de_var (pv 0)) (da_nil))) sc_law.nd)
      (dss_cons (ds_set (i := 2) (de_fnH h_words (hr.mono (by decide)) rfl tk (da_cons (de_var (pv 1)) (da_nil))) sc_law.nd)
      (dss_cons (ds_set (i := 3) (de_lst (da_cons (de_fnH h_grid (hr.mono (by decide)) rfl tk (da_cons (de_var (pv 1)) (da_cons (de_var (pv 2)) (da_nil)))) (da_cons (de_fnH h_grid (hr.mono (by decide)) rfl tk (da_cons (de_var (pv 1)) (da_cons (de_var (pv 2)) (da_nil)))) (da_nil)))) sc_law.nd)
      (dss_cons (ds_setLc (i := 4) (fz := true) (own := [("_law_grid_here", 11)]) rfl sc_law.nd rfl rfl (sw_true rfl rfl rfl (by decide +kernel)) (di_any (de_var (pv 3))) (blkOk_by (N := ["_law_script", "_law_state", "_law_words_here", "_law_grids", "_law_desks", "_law_turn", "_law_likes_here", "_law_pair", "_law_k", "_law_due", "_law_told_here", "_law_grid_here"]) (sc := defScope s_law) (own := [("_law_grid_here", 11)]) (by decide +kernel)) (ct_name (by decide)) (fun _ _ _ _ _ => pg_name (i := 11) sc_law.nd rfl (by first | exact Or.inl rfl | exact Or.inr rfl)) (fun _ _ _ _ _ => dts_nil) (fun _ _ _ _ _ => de_makeH h_T_init (hr.mono (by decide)) rfl takes0N (da_cons (de_var (pv 11)) (da_nil))))
      (dss_cons (ds_for hp rfl (di_range1 rfl T.m_range (de_int pe_int)) (dg_name (pg_name (i := 5) sc_law.nd rfl (by first | exact Or.inl rfl | exact Or.inr rfl))) (dss_cons (ds_set (i := 6) (de_fnH h_l_wishes (hr.mono (by decide)) rfl tk (da_cons (de_var (pv 1)) (da_cons (de_sub_ (de_var (pv 3)) (de_mod (de_var (pv 5)) (de_int pe_int))) (da_cons (de_var (pv 2)) (da_nil))))) sc_law.nd)
      (dss_cons (ds_set (i := 7) (de_lst (da_cons (de_makeMH h_W_init (hr.mono (by decide)) rfl tk (da_cons (de_sub_ (de_var (pv 6)) (de_int pe_int)) (da_nil))) (da_cons (de_makeMH h_W_init (hr.mono (by decide)) rfl tk (da_cons (de_sub_ (de_var (pv 6)) (de_int pe_int)) (da_nil))) (da_nil)))) sc_law.nd)
      (dss_cons (ds_for hp rfl (di_any (de_lst (da_cons (de_int pe_int) (da_cons (de_int pe_int) (da_cons (de_int pe_int) (da_nil)))))) (dg_name (pg_name (i := 8) sc_law.nd rfl (by first | exact Or.inl rfl | exact Or.inr rfl))) (dss_cons (ds_set (i := 9) (de_fnH h_l_unlike (hr.mono (by decide)) rfl tk (da_cons (de_sub_ (de_var (pv 3)) (de_var (pv 8))) (da_cons (de_var (pv 6)) (da_nil)))) sc_law.nd)
      (dss_cons (ds_if (dt_is (de_var (pv 9)) (de_non pe_non)) (dss_one (ds_set (i := 9) (de_tup (da_cons (de_str pe_str) (da_cons (de_fnH h_l_longest (hr.mono (by decide)) rfl tk (da_cons (de_sub_ (de_var (pv 3)) (de_var (pv 8))) (da_cons (de_var (pv 6)) (da_nil)))) (da_nil)))) sc_law.nd)) (dss_nil))
      (dss_cons (ds_set (i := 10) (de_fnH h_l_told41 (hr.mono (by decide)) rfl tk (da_cons (de_mod (de_var (pv 5)) (de_int pe_int)) (da_cons (de_sub_ (de_var (pv 4)) (de_var (pv 8))) (da_cons (de_var (pv 7)) (da_nil))))) sc_law.nd)
      (dss_one (ds_if (PW.pt (pw_or' (dt_ne hr.units (de_var (pv 10)) (de_var (pv 9))) (pw_or1 (dt_val (de_isi .bool (by decide) rfl T.m_isinstance (de_sub_ (de_var (pv 10)) (de_int pe_int)) rfl T.m_bool (by decide +kernel)))))) (dss_one (ds_ret (de_bl pe_bl))) (dss_nil)))))))
      (dss_one (ds_if (dt_is (de_fnH h_l_unlike (hr.mono (by decide)) rfl tk (da_cons (de_sub_ (de_var (pv 3)) (de_int pe_int)) (da_cons (de_var (pv 6)) (da_nil)))) (de_non pe_non)) (dss_one (ds_if (dt_ne hr.units (de_fnH h_l_told41 (hr.mono (by decide)) rfl tk (da_cons (de_int pe_int) (da_cons (de_sub_ (de_var (pv 4)) (de_int pe_int)) (da_cons (de_revA true (de_var (pv 7))) (da_nil))))) (de_tup (da_cons (de_str pe_str) (da_cons (de_fnH h_l_longest (hr.mono (by decide)) rfl tk (da_cons (de_sub_ (de_var (pv 3)) (de_int pe_int)) (da_cons (de_revA true (de_var (pv 6))) (da_nil)))) (da_nil))))) (dss_one (ds_ret (de_bl pe_bl))) (dss_nil))) (dss_nil)))))))
      (dss_one (ds_ret (de_bl pe_bl)))))))
end
theorem facts {P : Program} {w : World} {K : PySem.W.Frag} {h : Heap} {mg : Str → Option Value} {f : Addr} (X : K.In h) (G : h.Ns mainGlobals mg) (hfa : mg ("law" : Str) = some (.ref f)) (c : SaysA FA EX FN K) :
    ∃ fd : FuncData, (∀ (s : Shared) (v : Value), BindsTo s fd ⟨[v], []⟩ [("_law_script", v)]) ∧ ∀ base : Heap, K.In base → base.Ns mainGlobals mg → FnOk P w K mg base (L2N.CX P w) 9 f fd ["_law_script"] (spOf K S_law) := by
  let C : Cs := { T := He.ga K "Table", W := He.ga K "Wishes" }
  have T : Txt K C mg := ⟨He.free_ok X G (c.fact 0 (f := .free "len") rfl), He.free_ok X G (c.fact 1 (f := .free "abs") rfl), He.free_ok X G (c.fact 2 (f := .free "int") rfl), He.free_ok X G (c.fact 3 (f := .free "list") rfl), He.free_ok X G (c.fact 4 (f := .free "tuple") rfl), He.free_ok X G (c.fact 5 (f := .free "range") rfl), He.free_ok X G (c.fact 6 (f := .free "isinstance") rfl), He.free_ok X G (c.fact 7 (f := .free "bool") rfl), He.free_ok X G (c.fact 8 (f := .free "sorted") rfl), He.free_ok X G (c.fact 9 (f := .free "max") rfl), He.str_ok X G (c.fact 10 (f := .str "LETTERS" "abcdefghijklmnopqrstuvwxyz") rfl), He.str_ok X G (c.fact 11 (f := .str "DIGITS" "0123456789") rfl), He.int_ok X G (c.fact 12 (f := .int "LONGEST" 6) rfl), He.int_ok X G (c.fact 13 (f := .int "MOST_OUTCOMES" 6) rfl), He.int_ok X G (c.fact 14 (f := .int "MOST_LINES" 8) rfl), He.cls_ok (c.fact 15 (f := .cls "Wishes") rfl), He.cls_ok (c.fact 16 (f := .cls "Table") rfl), He.noat_ok (c.fact 17 (f := .noat "Table" "columns") rfl), He.noat_ok (c.fact 18 (f := .noat "Table" "names") rfl), He.noat_ok (c.fact 19 (f := .noat "Table" "rows") rfl), He.noat_ok (c.fact 20 (f := .noat "Wishes" "likes") rfl), He.glo_ok X G (c.fact 21 (f := .glo "BadCell") rfl), He.glo_ok X G (c.fact 22 (f := .glo "BadCount") rfl), He.glo_ok X G (c.fact 23 (f := .glo "BadName") rfl), He.glo_ok X G (c.fact 24 (f := .glo "BadWish") rfl), He.glo_ok X G (c.fact 25 (f := .glo "DuplicateName") rfl), He.glo_ok X G (c.fact 26 (f := .glo "UnknownName") rfl), He.glo_ok X G (c.fact 27 (f := .glo "UnlikeOutcomes") rfl), xfldB_ok (c.ex_ 0 (f := xfldB .UnlikeOutcomes "names") rfl), emB_ok (c.ex_ 1 (f := emB [.BadName, .DuplicateName, .UnknownName, .BadCount, .BadText, .BadCell, .BadWish, .UnlikeOutcomes]) rfl), baseB_ok (c.ex_ 2 (f := baseB) rfl), He.glo_ok X G (c.fact 28 (f := .glo "ChooserError") rfl)⟩
  have e := hfa.symm.trans (He.glo_ok X G (c.fact 29 (f := .glo "law") rfl))
  cases e
  obtain ⟨fd0, F0⟩ := c.def_ 0 (d := ⟨.meth "BadCount" "__init__", "BadCount.__init__", s_BadCount__init_⟩) rfl
  have b0 := F0.binds (ps := ["self", "count"]) fun _ _ _ _ _ _ us hl => match us, hl with | [_, _], _ => rfl
  obtain ⟨fd1, F1⟩ := c.def_ 1 (d := ⟨.meth "BadName" "__init__", "BadName.__init__", s_BadName__init_⟩) rfl
  have b1 := F1.binds (ps := ["self", "name"]) fun _ _ _ _ _ _ us hl => match us, hl with | [_, _], _ => rfl
  obtain ⟨fd2, F2⟩ := c.def_ 2 (d := ⟨.meth "DuplicateName" "__init__", "DuplicateName.__init__", s_DuplicateName__init_⟩) rfl
  have b2 := F2.binds (ps := ["self", "name"]) fun _ _ _ _ _ _ us hl => match us, hl with | [_, _], _ => rfl
  obtain ⟨fd3, F3⟩ := c.def_ 3 (d := ⟨.meth "BadWish" "__init__", "BadWish.__init__", s_BadWish__init_⟩) rfl
  have b3 := F3.binds (ps := ["self", "value"]) fun _ _ _ _ _ _ us hl => match us, hl with | [_, _], _ => rfl
  obtain ⟨fd4, F4⟩ := c.def_ 4 (d := ⟨.meth "UnknownName" "__init__", "UnknownName.__init__", s_UnknownName__init_⟩) rfl
  have b4 := F4.binds (ps := ["self", "name"]) fun _ _ _ _ _ _ us hl => match us, hl with | [_, _], _ => rfl
  obtain ⟨fd5, F5⟩ := c.def_ 5 (d := ⟨.meth "BadCell" "__init__", "BadCell.__init__", s_BadCell__init_⟩) rfl
  have b5 := F5.binds (ps := ["self", "value"]) fun _ _ _ _ _ _ us hl => match us, hl with | [_, _], _ => rfl
  obtain ⟨fd6, F6⟩ := c.def_ 6 (d := ⟨.meth "UnlikeOutcomes" "__init__", "UnlikeOutcomes.__init__", s_UnlikeOutcomes__init_⟩) rfl
  have b6 := F6.binds (ps := ["self", "names"]) fun _ _ _ _ _ _ us hl => match us, hl with | [_, _], _ => rfl
  obtain ⟨fd7, F7⟩ := c.def_ 7 (d := ⟨.glo "valid_name", "valid_name", s_valid_name⟩) rfl
  have b7 := F7.binds (ps := ["text"]) fun _ _ _ _ _ _ us hl => match us, hl with | [_], _ => rfl
  obtain ⟨fd8, F8⟩ := c.def_ 8 (d := ⟨.glo "is_integer", "is_integer", s_is_integer⟩) rfl
  have b8 := F8.binds (ps := ["value"]) fun _ _ _ _ _ _ us hl => match us, hl with | [_], _ => rfl
  obtain ⟨fd9, F9⟩ := c.def_ 9 (d := ⟨.glo "check_number", "check_number", s_check_number⟩) rfl
  have b9 := F9.binds (ps := ["count"]) fun _ _ _ _ _ _ us hl => match us, hl with | [_], _ => rfl
  obtain ⟨fd10, F10⟩ := c.def_ 10 (d := ⟨.glo "check_different", "check_different", s_check_different⟩) rfl
  have b10 := F10.binds (ps := ["names"]) fun _ _ _ _ _ _ us hl => match us, hl with | [_], _ => rfl
  obtain ⟨fd11, F11⟩ := c.def_ 11 (d := ⟨.meth "Wishes" "__init__", "Wishes.__init__", s_W_init⟩) rfl
  have b11 := F11.binds (ps := ["self", "amounts"]) fun _ _ _ _ _ _ us hl => match us, hl with | [_, _], _ => rfl
  obtain ⟨fd12, F12⟩ := c.def_ 12 (d := ⟨.prop "Wishes" "outcomes", "Wishes.outcomes", s_W_outcomes⟩) rfl
  have b12 := F12.binds (ps := ["self"]) fun _ _ _ _ _ _ us hl => match us, hl with | [_], _ => rfl
  obtain ⟨fd13, F13⟩ := c.def_ 13 (d := ⟨.meth "Wishes" "prefers", "Wishes.prefers", s_W_prefers⟩) rfl
  have b13 := F13.binds (ps := ["self", "one", "other"]) fun _ _ _ _ _ _ us hl => match us, hl with | [_, _, _], _ => rfl
  obtain ⟨fd14, F14⟩ := c.def_ 14 (d := ⟨.glo "check_length", "check_length", s_check_length⟩) rfl
  have b14 := F14.binds (ps := ["count"]) fun _ _ _ _ _ _ us hl => match us, hl with | [_], _ => rfl
  obtain ⟨fd15, F15⟩ := c.def_ 15 (d := ⟨.glo "check_lines", "check_lines", s_check_lines⟩) rfl
  have b15 := F15.binds (ps := ["rows"]) fun _ _ _ _ _ _ us hl => match us, hl with | [_], _ => rfl
  obtain ⟨fd16, F16⟩ := c.def_ 16 (d := ⟨.glo "exchanged", "exchanged", s_exchanged⟩) rfl
  have b16 := F16.binds (ps := ["rows"]) fun _ _ _ _ _ _ us hl => match us, hl with | [_], _ => rfl
  obtain ⟨fd17, F17⟩ := c.def_ 17 (d := ⟨.meth "Table" "__init__", "Table.__init__", s_T_init⟩) rfl
  have b17 := F17.binds (ps := ["self", "lines"]) fun _ _ _ _ _ _ us hl => match us, hl with | [_, _], _ => rfl
  obtain ⟨fd18, F18⟩ := c.def_ 18 (d := ⟨.prop "Table" "outcomes", "Table.outcomes", s_T_outcomes⟩) rfl
  have b18 := F18.binds (ps := ["self"]) fun _ _ _ _ _ _ us hl => match us, hl with | [_], _ => rfl
  obtain ⟨fd19, F19⟩ := c.def_ 19 (d := ⟨.prop "Table" "height", "Table.height", s_T_height⟩) rfl
  have b19 := F19.binds (ps := ["self"]) fun _ _ _ _ _ _ us hl => match us, hl with | [_], _ => rfl
  obtain ⟨fd20, F20⟩ := c.def_ 20 (d := ⟨.prop "Table" "width", "Table.width", s_T_width⟩) rfl
  have b20 := F20.binds (ps := ["self"]) fun _ _ _ _ _ _ us hl => match us, hl with | [_], _ => rfl
  obtain ⟨fd21, F21⟩ := c.def_ 21 (d := ⟨.meth "Table" "has_cell", "Table.has_cell", s_T_has_cell⟩) rfl
  have b21 := F21.binds (ps := ["self", "value"]) fun _ _ _ _ _ _ us hl => match us, hl with | [_, _], _ => rfl
  obtain ⟨fd22, F22⟩ := c.def_ 22 (d := ⟨.meth "Table" "__getitem__", "Table.__getitem__", s_T_ix⟩) rfl
  have b22 := F22.binds (ps := ["self", "cell"]) fun _ _ _ _ _ _ us hl => match us, hl with | [_, _], _ => rfl
  obtain ⟨fd23, F23⟩ := c.def_ 23 (d := ⟨.glo "cells_of", "cells_of", s_cells_of⟩) rfl
  have b23 := F23.binds (ps := ["table"]) fun _ _ _ _ _ _ us hl => match us, hl with | [_], _ => rfl
  obtain ⟨fd24, F24⟩ := c.def_ 24 (d := ⟨.glo "check_wishes", "check_wishes", s_check_wishes⟩) rfl
  have b24 := F24.binds (ps := ["table", "row_wishes", "column_wishes"]) fun _ _ _ _ _ _ us hl => match us, hl with | [_, _, _], _ => rfl
  obtain ⟨fd25, F25⟩ := c.def_ 25 (d := ⟨.glo "is_improvement", "is_improvement", s_is_improvement⟩) rfl
  have b25 := F25.binds (ps := ["table", "row_wishes", "column_wishes", "cell", "later"]) fun _ _ _ _ _ _ us hl => match us, hl with | [_, _, _, _, _], _ => rfl
  obtain ⟨fd26, F26⟩ := c.def_ 26 (d := ⟨.glo "better_cells", "better_cells", s_better_cells⟩) rfl
  have b26 := F26.binds (ps := ["table", "row_wishes", "column_wishes", "cell"]) fun _ _ _ _ _ _ us hl => match us, hl with | [_, _, _, _], _ => rfl
  obtain ⟨fd27, F27⟩ := c.def_ 27 (d := ⟨.glo "longest", "longest", s_longest⟩) rfl
  have b27 := F27.binds (ps := ["table", "row_wishes", "column_wishes"]) fun _ _ _ _ _ _ us hl => match us, hl with | [_, _, _], _ => rfl
  obtain ⟨fd28, F28⟩ := c.def_ 28 (d := ⟨.glo "_law_start", "_law_start", s_start⟩) rfl
  have b28 := F28.binds (ps := ["_law_script"]) fun _ _ _ _ _ _ us hl => match us, hl with | [_], _ => rfl
  obtain ⟨fd29, F29⟩ := c.def_ 29 (d := ⟨.glo "_law_take", "_law_take", s_take⟩) rfl
  have b29 := F29.binds (ps := ["_law_state", "_law_limit"]) fun _ _ _ _ _ _ us hl => match us, hl with | [_, _], _ => rfl
  obtain ⟨fd30, F30⟩ := c.def_ 30 (d := ⟨.glo "_law_shuffled", "_law_shuffled", s_shuffled⟩) rfl
  have b30 := F30.binds (ps := ["_law_state", "_law_items"]) fun _ _ _ _ _ _ us hl => match us, hl with | [_, _], _ => rfl
  obtain ⟨fd31, F31⟩ := c.def_ 31 (d := ⟨.glo "_law_words", "_law_words", s_words⟩) rfl
  have b31 := F31.binds (ps := ["_law_state"]) fun _ _ _ _ _ _ us hl => match us, hl with | [_], _ => rfl
  obtain ⟨fd32, F32⟩ := c.def_ 32 (d := ⟨.glo "_law_flipped", "_law_flipped", s_flipped⟩) rfl
  have b32 := F32.binds (ps := ["_law_grid_here"]) fun _ _ _ _ _ _ us hl => match us, hl with | [_], _ => rfl
  obtain ⟨fd33, F33⟩ := c.def_ 33 (d := ⟨.glo "_law_stacked", "_law_stacked", s_stacked⟩) rfl
  have b33 := F33.binds (ps := ["_law_one", "_law_other"]) fun _ _ _ _ _ _ us hl => match us, hl with | [_, _], _ => rfl
  obtain ⟨fd34, F34⟩ := c.def_ 34 (d := ⟨.glo "_law_tree_grid", "_law_tree_grid", s_tree_grid⟩) rfl
  have b34 := F34.binds (ps := ["_law_state", "_law_words_here"]) fun _ _ _ _ _ _ us hl => match us, hl with | [_, _], _ => rfl
  obtain ⟨fd35, F35⟩ := c.def_ 35 (d := ⟨.glo "_law_renamed", "_law_renamed", s_renamed⟩) rfl
  have b35 := F35.binds (ps := ["_law_state", "_law_grid_here", "_law_words_here"]) fun _ _ _ _ _ _ us hl => match us, hl with | [_, _, _], _ => rfl
  obtain ⟨fd36, F36⟩ := c.def_ 36 (d := ⟨.glo "_law_smooth_grid", "_law_smooth_grid", s_smooth_grid⟩) rfl
  have b36 := F36.binds (ps := ["_law_state", "_law_words_here"]) fun _ _ _ _ _ _ us hl => match us, hl with | [_, _], _ => rfl
  obtain ⟨fd37, F37⟩ := c.def_ 37 (d := ⟨.glo "_law_any_grid", "_law_any_grid", s_any_grid⟩) rfl
  have b37 := F37.binds (ps := ["_law_state", "_law_words_here"]) fun _ _ _ _ _ _ us hl => match us, hl with | [_, _], _ => rfl
  obtain ⟨fd38, F38⟩ := c.def_ 38 (d := ⟨.glo "_law_grid", "_law_grid", s_grid⟩) rfl
  have b38 := F38.binds (ps := ["_law_state", "_law_words_here"]) fun _ _ _ _ _ _ us hl => match us, hl with | [_, _], _ => rfl
  obtain ⟨fd39, F39⟩ := c.def_ 39 (d := ⟨.glo "_law_names", "_law_names", s_l_names⟩) rfl
  have b39 := F39.binds (ps := ["_law_grid_here"]) fun _ _ _ _ _ _ us hl => match us, hl with | [_], _ => rfl
  obtain ⟨fd40, F40⟩ := c.def_ 40 (d := ⟨.glo "_law_likes", "_law_likes", s_l_likes⟩) rfl
  have b40 := F40.binds (ps := ["_law_state", "_law_names_here"]) fun _ _ _ _ _ _ us hl => match us, hl with | [_, _], _ => rfl
  obtain ⟨fd41, F41⟩ := c.def_ 41 (d := ⟨.glo "_law_wishes", "_law_wishes", s_l_wishes⟩) rfl
  have b41 := F41.binds (ps := ["_law_state", "_law_grid_here", "_law_words_here"]) fun _ _ _ _ _ _ us hl => match us, hl with | [_, _, _], _ => rfl
  obtain ⟨fd42, F42⟩ := c.def_ 42 (d := ⟨.glo "_law_unlike", "_law_unlike", s_l_unlike⟩) rfl
  have b42 := F42.binds (ps := ["_law_grid_here", "_law_likes_here"]) fun _ _ _ _ _ _ us hl => match us, hl with | [_, _], _ => rfl
  obtain ⟨fd43, F43⟩ := c.def_ 43 (d := ⟨.glo "_law_cells", "_law_cells", s_l_cells⟩) rfl
  have b43 := F43.binds (ps := ["_law_grid_here"]) fun _ _ _ _ _ _ us hl => match us, hl with | [_], _ => rfl
  obtain ⟨fd44, F44⟩ := c.def_ 44 (d := ⟨.glo "_law_better", "_law_better", s_l_better⟩) rfl
  have b44 := F44.binds (ps := ["_law_grid_here", "_law_likes_here", "_law_spot"]) fun _ _ _ _ _ _ us hl => match us, hl with | [_, _, _], _ => rfl
  obtain ⟨fd45, F45⟩ := c.def_ 45 (d := ⟨.glo "_law_longest", "_law_longest", s_l_longest⟩) rfl
  have b45 := F45.binds (ps := ["_law_grid_here", "_law_likes_here"]) fun _ _ _ _ _ _ us hl => match us, hl with | [_, _], _ => rfl
  obtain ⟨fd46, F46⟩ := c.def_ 46 (d := ⟨.glo "_law_told", "_law_told", s_l_told41⟩) rfl
  have b46 := F46.binds (ps := ["_law_way", "_law_desk", "_law_pair"]) fun _ _ _ _ _ _ us hl => match us, hl with | [_, _, _], _ => rfl
  obtain ⟨fd47, F47⟩ := c.def_ 47 (d := ⟨.glo "law", "law", s_law⟩) rfl
  have b47 := F47.binds (ps := ["_law_script"]) fun _ _ _ _ _ _ us hl => match us, hl with | [_], _ => rfl
  have h_BadCount__init_ : ∀ base, HasE P w K mg base .BadCount "count" := fun base => has_BadCount__init_ (C := C) T  F0 (errB_ok (c.ex_ 3 (f := errB .BadCount) rfl)) b0 (He.noat_ok (c.fact 30 (f := .noat "BadCount" "count") rfl))
  have h_BadName__init_ : ∀ base, HasE P w K mg base .BadName "name" := fun base => has_BadName__init_ (C := C) T  F1 (errB_ok (c.ex_ 4 (f := errB .BadName) rfl)) b1 (He.noat_ok (c.fact 31 (f := .noat "BadName" "name") rfl))
  have h_DuplicateName__init_ : ∀ base, HasE P w K mg base .DuplicateName "name" := fun base => has_DuplicateName__init_ (C := C) T  F2 (errB_ok (c.ex_ 5 (f := errB .DuplicateName) rfl)) b2 (He.noat_ok (c.fact 32 (f := .noat "DuplicateName" "name") rfl))
  have h_BadWish__init_ : ∀ base, HasE P w K mg base .BadWish "value" := fun base => has_BadWish__init_ (C := C) T  F3 (errB_ok (c.ex_ 6 (f := errB .BadWish) rfl)) b3 (He.noat_ok (c.fact 33 (f := .noat "BadWish" "value") rfl))
  have h_UnknownName__init_ : ∀ base, HasE P w K mg base .UnknownName "name" := fun base => has_UnknownName__init_ (C := C) T  F4 (errB_ok (c.ex_ 7 (f := errB .UnknownName) rfl)) b4 (He.noat_ok (c.fact 34 (f := .noat "UnknownName" "name") rfl))
  have h_BadCell__init_ : ∀ base, HasE P w K mg base .BadCell "value" := fun base => has_BadCell__init_ (C := C) T  F5 (errB_ok (c.ex_ 8 (f := errB .BadCell) rfl)) b5 (He.noat_ok (c.fact 35 (f := .noat "BadCell" "value") rfl))
  have h_UnlikeOutcomes__init_ : ∀ base, HasE P w K mg base .UnlikeOutcomes "names" := fun base => has_UnlikeOutcomes__init_ (C := C) T  F6 (errB_ok (c.ex_ 9 (f := errB .UnlikeOutcomes) rfl)) b6 (He.noat_ok (c.fact 36 (f := .noat "UnlikeOutcomes" "names") rfl))
  have h_valid_name : ∀ base, Has P w K mg base "valid_name" 1 ["text"] S_valid_name (fun _ => True) := fun base => has_valid_name (C := C) T  F7 (He.glo_ok X G (c.fact 37 (f := .glo "valid_name") rfl)) b7 trivial
  have h_is_integer : ∀ base, Has P w K mg base "is_integer" 1 ["value"] S_is_integer (fun _ => True) := fun base => has_is_integer (C := C) T  F8 (He.glo_ok X G (c.fact 38 (f := .glo "is_integer") rfl)) b8 trivial
  have h_check_number : ∀ base, Has P w K mg base "check_number" 3 ["count"] S_check_number (fun _ => True) := fun base => has_check_number (C := C) T (h_BadCount__init_ base) F9 (He.glo_ok X G (c.fact 39 (f := .glo "check_number") rfl)) b9 trivial
  have h_check_different : ∀ base, Has P w K mg base "check_different" 3 ["names"] S_check_different (fun _ => True) := fun base => has_check_different (C := C) T (h_BadName__init_ base) (h_DuplicateName__init_ base) (h_valid_name base) F10 (He.glo_ok X G (c.fact 40 (f := .glo "check_different") rfl)) b10 trivial
  have h_W_init : ∀ base, HasI P w K mg base C.W "Wishes" 4 ["self", "amounts"] (S_W_init C) := fun base => has_W_init (C := C) T (h_BadWish__init_ base) (h_check_different base) (h_check_number base) (h_is_integer base) F11 (He.glo_ok X G (c.fact 41 (f := .glo "Wishes") rfl)) (He.mkr_ok (c.fact 42 (f := .mkr "Wishes") rfl)) b11
  have h_W_outcomes : ∀ base, HasP P w K mg base C.W "outcomes" 1 ["self"] (S_W_outcomes C) := fun base => has_W_outcomes (C := C) T  F12 (propB_ok (c.ex_ 10 (f := propB "Wishes" "outcomes") rfl)) b12
  have h_W_prefers : ∀ base, HasM P w K mg base C.W "prefers" 3 ["self", "one", "other"] (S_W_prefers C) := fun base => has_W_prefers (C := C) T (h_UnknownName__init_ base) F13 (He.meth_ok (c.fact 43 (f := .meth "Wishes" "prefers") rfl)) b13
  have h_check_length : ∀ base, Has P w K mg base "check_length" 3 ["count"] S_check_length (fun _ => True) := fun base => has_check_length (C := C) T (h_BadCount__init_ base) F14 (He.glo_ok X G (c.fact 44 (f := .glo "check_length") rfl)) b14 trivial
  have h_check_lines : ∀ base, Has P w K mg base "check_lines" 4 ["rows"] S_check_lines (fun _ => True) := fun base => has_check_lines (C := C) T (h_BadCount__init_ base) (h_BadName__init_ base) (h_check_length base) (h_valid_name base) F15 (He.glo_ok X G (c.fact 45 (f := .glo "check_lines") rfl)) b15 trivial
  have h_exchanged : ∀ base, Has P w K mg base "exchanged" 1 ["rows"] S_exchanged (fun _ => True) := fun base => has_exchanged (C := C) T  F16 (He.glo_ok X G (c.fact 46 (f := .glo "exchanged") rfl)) b16 trivial
  have h_T_init : ∀ base, HasI P w K mg base C.T "Table" 5 ["self", "lines"] (S_T_init C) := fun base => has_T_init (C := C) T (h_check_lines base) (h_check_number base) (h_exchanged base) F17 (He.glo_ok X G (c.fact 47 (f := .glo "Table") rfl)) (He.mkr_ok (c.fact 48 (f := .mkr "Table") rfl)) b17
  have h_T_outcomes : ∀ base, HasP P w K mg base C.T "outcomes" 1 ["self"] (S_T_outcomes C) := fun base => has_T_outcomes (C := C) T  F18 (propB_ok (c.ex_ 11 (f := propB "Table" "outcomes") rfl)) b18
  have h_T_height : ∀ base, HasP P w K mg base C.T "height" 1 ["self"] (S_T_height C) := fun base => has_T_height (C := C) T  F19 (propB_ok (c.ex_ 12 (f := propB "Table" "height") rfl)) b19
  have h_T_width : ∀ base, HasP P w K mg base C.T "width" 1 ["self"] (S_T_width C) := fun base => has_T_width (C := C) T  F20 (propB_ok (c.ex_ 13 (f := propB "Table" "width") rfl)) b20
  have h_T_has_cell : ∀ base, HasM P w K mg base C.T "has_cell" 2 ["self", "value"] (S_T_has_cell C) := fun base => has_T_has_cell (C := C) T (h_is_integer base) F21 (He.meth_ok (c.fact 49 (f := .meth "Table" "has_cell") rfl)) b21
  have h_T_ix : ∀ base, HasX P w K mg base C.T 3 ["self", "cell"] (S_T_ixX C) := fun base => has_T_ix (C := C) T (h_BadCell__init_ base) (h_T_has_cell base) F22 (He.meth_ok (c.fact 50 (f := .meth "Table" "__getitem__") rfl)).at_ (c.ex_ 14 (f := fnB "Table" "__getitem__") rfl) (He.meth_ok (c.fact 50 (f := .meth "Table" "__getitem__") rfl)).fn b22
  have h_cells_of : ∀ base, Has P w K mg base "cells_of" 3 ["table"] (S_cells_of C) (fun _ => True) := fun base => has_cells_of (C := C) T (h_T_height base) (h_T_width base) F23 (He.glo_ok X G (c.fact 51 (f := .glo "cells_of") rfl)) b23 trivial
  have h_check_wishes : ∀ base, Has P w K mg base "check_wishes" 3 ["table", "row_wishes", "column_wishes"] (S_check_wishes C) (fun _ => True) := fun base => has_check_wishes (C := C) T (h_T_outcomes base) (h_UnlikeOutcomes__init_ base) (h_W_outcomes base) F24 (He.glo_ok X G (c.fact 52 (f := .glo "check_wishes") rfl)) b24 trivial
  have h_is_improvement : ∀ base, Has P w K mg base "is_improvement" 5 ["table", "row_wishes", "column_wishes", "cell", "later"] (S_is_improvement C) (fun _ => True) := fun base => has_is_improvement (C := C) T (h_T_ix base) (h_W_prefers base) F25 (He.glo_ok X G (c.fact 53 (f := .glo "is_improvement") rfl)) b25 trivial
  have h_better_cells : ∀ base, Has P w K mg base "better_cells" 6 ["table", "row_wishes", "column_wishes", "cell"] (S_better_cells C) (fun _ => True) := fun base => has_better_cells (C := C) T (h_cells_of base) (h_is_improvement base) F26 (He.glo_ok X G (c.fact 54 (f := .glo "better_cells") rfl)) b26 trivial
  obtain ⟨⟨oc27, od27, kV27, dc27, pm27, an27, cd27, ct27, sl27, rfl, lk27, cc27⟩, kp27⟩ := id F27
  have h_longest : ∀ base, Has P w K mg base "longest" 7 ["table", "row_wishes", "column_wishes"] (S_longest C) (kb_longest K) := fun base => has_longest (C := C) T (h_better_cells base) (h_cells_of base) (h_check_wishes base) F27 (He.glo_ok X G (c.fact 55 (f := .glo "longest") rfl)) b27 (fun s us ws _ h1 h2 => (match us, ws, h1, h2 with | [], [_, _, _], _, _ => .of_eq rfl))
  have h_start : ∀ base, Has P w K mg base "_law_start" 1 ["_law_script"] S_start2 (fun _ => True) := fun base => has_start (C := C) T  F28 (He.glo_ok X G (c.fact 56 (f := .glo "_law_start") rfl)) b28 trivial
  have h_take : ∀ base, Has P w K mg base "_law_take" 1 ["_law_state", "_law_limit"] S_take (fun _ => True) := fun base => has_take (C := C) T  F29 (He.glo_ok X G (c.fact 57 (f := .glo "_law_take") rfl)) b29 trivial
  have h_shuffled : ∀ base, Has P w K mg base "_law_shuffled" 2 ["_law_state", "_law_items"] S_shuffled (fun _ => True) := fun base => has_shuffled (C := C) T (h_take base) F30 (He.glo_ok X G (c.fact 58 (f := .glo "_law_shuffled") rfl)) b30 trivial
  have h_words : ∀ base, Has P w K mg base "_law_words" 3 ["_law_state"] S_wordsZ (fun _ => True) := fun base => has_words (C := C) T (h_shuffled base) (h_take base) F31 (He.glo_ok X G (c.fact 59 (f := .glo "_law_words") rfl)) b31 trivial
  have h_flipped : ∀ base, Has P w K mg base "_law_flipped" 1 ["_law_grid_here"] S_flipped (fun _ => True) := fun base => has_flipped (C := C) T  F32 (He.glo_ok X G (c.fact 60 (f := .glo "_law_flipped") rfl)) b32 trivial
  have h_stacked : ∀ base, Has P w K mg base "_law_stacked" 1 ["_law_one", "_law_other"] S_stacked (fun _ => True) := fun base => has_stacked (C := C) T  F33 (He.glo_ok X G (c.fact 61 (f := .glo "_law_stacked") rfl)) b33 trivial
  have h_tree_grid : ∀ base, Has P w K mg base "_law_tree_grid" 2 ["_law_state", "_law_words_here"] S_tree_grid (fun _ => True) := fun base => has_tree_grid (C := C) T (h_flipped base) (h_stacked base) (h_take base) F34 (He.glo_ok X G (c.fact 62 (f := .glo "_law_tree_grid") rfl)) b34 trivial
  have h_renamed : ∀ base, Has P w K mg base "_law_renamed" 2 ["_law_state", "_law_grid_here", "_law_words_here"] S_renamed (fun _ => True) := fun base => has_renamed (C := C) T (h_take base) F35 (He.glo_ok X G (c.fact 63 (f := .glo "_law_renamed") rfl)) b35 trivial
  have h_smooth_grid : ∀ base, Has P w K mg base "_law_smooth_grid" 2 ["_law_state", "_law_words_here"] S_smooth_grid (fun _ => True) := fun base => has_smooth_grid (C := C) T (h_flipped base) (h_take base) F36 (He.glo_ok X G (c.fact 64 (f := .glo "_law_smooth_grid") rfl)) b36 trivial
  have h_any_grid : ∀ base, Has P w K mg base "_law_any_grid" 2 ["_law_state", "_law_words_here"] S_any_grid (fun _ => True) := fun base => has_any_grid (C := C) T (h_take base) F37 (He.glo_ok X G (c.fact 65 (f := .glo "_law_any_grid") rfl)) b37 trivial
  have h_grid : ∀ base, Has P w K mg base "_law_grid" 3 ["_law_state", "_law_words_here"] S_grid (fun _ => True) := fun base => has_grid (C := C) T (h_any_grid base) (h_renamed base) (h_smooth_grid base) (h_take base) (h_tree_grid base) F38 (He.glo_ok X G (c.fact 66 (f := .glo "_law_grid") rfl)) b38 trivial
  have h_l_names : ∀ base, Has P w K mg base "_law_names" 1 ["_law_grid_here"] S_l_names (fun _ => True) := fun base => has_l_names (C := C) T  F39 (He.glo_ok X G (c.fact 67 (f := .glo "_law_names") rfl)) b39 trivial
  have h_l_likes : ∀ base, Has P w K mg base "_law_likes" 3 ["_law_state", "_law_names_here"] S_l_likes (fun _ => True) := fun base => has_l_likes (C := C) T (h_shuffled base) (h_take base) F40 (He.glo_ok X G (c.fact 68 (f := .glo "_law_likes") rfl)) b40 trivial
  have h_l_wishes : ∀ base, Has P w K mg base "_law_wishes" 4 ["_law_state", "_law_grid_here", "_law_words_here"] S_l_wishes (fun _ => True) := fun base => has_l_wishes (C := C) T (h_l_likes base) (h_l_names base) (h_take base) F41 (He.glo_ok X G (c.fact 69 (f := .glo "_law_wishes") rfl)) b41 trivial
  have h_l_unlike : ∀ base, Has P w K mg base "_law_unlike" 2 ["_law_grid_here", "_law_likes_here"] S_l_unlike (fun _ => True) := fun base => has_l_unlike (C := C) T (h_l_names base) F42 (He.glo_ok X G (c.fact 70 (f := .glo "_law_unlike") rfl)) b42 trivial
  have h_l_cells : ∀ base, Has P w K mg base "_law_cells" 1 ["_law_grid_here"] S_l_cells (fun _ => True) := fun base => has_l_cells (C := C) T  F43 (He.glo_ok X G (c.fact 71 (f := .glo "_law_cells") rfl)) b43 trivial
  have h_l_better : ∀ base, Has P w K mg base "_law_better" 1 ["_law_grid_here", "_law_likes_here", "_law_spot"] S_l_better (fun _ => True) := fun base => has_l_better (C := C) T  F44 (He.glo_ok X G (c.fact 72 (f := .glo "_law_better") rfl)) b44 trivial
  have h_l_longest : ∀ base, Has P w K mg base "_law_longest" 2 ["_law_grid_here", "_law_likes_here"] S_l_longest (fun _ => True) := fun base => has_l_longest (C := C) T (h_l_better base) (h_l_cells base) F45 (He.glo_ok X G (c.fact 73 (f := .glo "_law_longest") rfl)) b45 trivial
  have h_l_told41 : ∀ base, Has P w K mg base "_law_told" 8 ["_law_way", "_law_desk", "_law_pair"] (S_l_told41 C) (fun _ => True) := fun base => has_l_told41 (C := C) T (h_longest base) F46 (He.glo_ok X G (c.fact 74 (f := .glo "_law_told") rfl)) b46 trivial
  obtain ⟨⟨_, _, _, _, _, _, _, _, _, rfl, _, _⟩, _⟩ := id F47
  exact ⟨_, fun s v => .of_eq rfl, fun base _ _ => ok_law (C := C) T (h_T_init base) (h_W_init base) (h_grid base) (h_l_longest base) (h_start base) (h_l_told41 base) (h_l_unlike base) (h_l_wishes base) (h_words base) F47⟩
end K41
open PySem PySem.W PySem.Calls PyProof.Rows
set_option maxRecDepth 100000 in
set_option maxHeartbeats 0 in
theorem PySem.Challenge.cw_twochoosers_k41_longest_holds : PySem.Challenge.rw_twochoosers_k41_longest.Holds := by
  w_on; o_law
  refine HandSHeadRun.head_any (r := OpenLaw.row PySem.Challenge.rw_twochoosers_k41_longest) (q := view (OpenLaw.row PySem.Challenge.rw_twochoosers_k41_longest).prog [56]) (H := K41.hk) (ob := K41.ob) (M := 9000) (loose := K41.loose) (d := HandSHeadRun.topDef (OpenLaw.row PySem.Challenge.rw_twochoosers_k41_longest).prog 56) (kwd := []) K41.ob_eq
    (by kernel_rfl) (fun s => by kernel_rfl) K41.run (by kernel_rfl) (by kernel_rfl) (by kernel_rfl) (by rfl) (by first | assumption | decide +kernel) (by decide +kernel) ⟨rfl, rfl, rfl, rfl, rfl, by decide +kernel⟩ ?hw ?hc
  case hw => w_witness2
  case hc =>
    refine DV.walk_deepE (l := PySem.Challenge.rw_twochoosers_k41_longest) (n := 63) (k := 9) (x := "_law_script") (S := DV.S_law) rfl (by decide) (by kernel_rfl) ?F (fun ns hl => ⟨ns, rfl, hl, rfl, fun _ => rfl⟩)
    intro w mg fa h Y G hmg0
    obtain ⟨K, KX, c⟩ := Y
    have hmg : mg ("law" : PySem.Str) = some (.ref fa) := by
      have e : (HandSHeadRun.topDef (OpenLaw.row PySem.Challenge.rw_twochoosers_k41_longest).prog 56).name = ("law" : PySem.Str) := by kernel_rfl
      rw [← e]
      exact hmg0
    obtain ⟨fd, hb, hF⟩ := K41.facts (P := (PySem.Challenge.rw_twochoosers_k41_longest).prog) (w := w) KX G hmg c
    exact ⟨K, fd, KX, hb, hF⟩
